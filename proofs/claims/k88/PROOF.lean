import PyProof.Rows.All
import Wide.All
import OpenK.AllK
import Wide.FinOn
import HandS.ForMost
import HandS.ForExc
import HandS.ExcInit
import HandS.FStr
import KE.KExcSuper
import HandS.CallSlots
import KE.KExcIs
import HandS.ExcField
import HandS.TupAny
import HandS.Style
import HandS.TupLe
import HandS.IsInst
import HandS.Small
import HandS.Text
import HandS.Rev
import HandS.Strs
import HandS.WordsExc
import HandS.ClsMeth
import OpenK.KMeth
import HandS.OwnIter
import HandS.IterVal
import HandS.Defaults
import HandS.Head0
import HandS.Head1
import HandS.Head2
import HandS.HeadEnd
import HandS.HeadHook1
import HandS.HeadHook2
import KE.KStateDown
import HandS.ReplaceLit
import HandS.ReplaceDef
import PySem.Challenge.RW_guestscarried_k88_policies_are_sets
set_option Elab.async false
set_option linter.all false
set_option maxRecDepth 100000
set_option maxHeartbeats 4000000
namespace R
open PySem PySem.Spec L2
open PyProof.Rows hiding St

/-! ### values and cells of the plain machine -/
inductive U where
  | non
  | bl (b : Bool)
  | int (i : Int)
  | str (s : Str)
  | tup (us : List U)
  | lit (us : List U)
  | wtu (us : List U)
  | ref (n : Nat)
inductive Cell where
  | lst (us : List U)
  | ins (c : Nat) (fs : List (Str × U))
  | dct (kvs : List (Key × U))
  | exv (c : Nat) (fs : List (Str × U))
abbrev Gs := List Cell

mutual
def U.beq : U → U → Bool
  | .non, .non => true
  | .bl a, .bl b => a == b
  | .int a, .int b => decide (a = b)
  | .str a, .str b => decide (a = b)
  | .tup a, .tup b => U.beqs a b
  | .lit a, .lit b => U.beqs a b
  | .wtu a, .wtu b => U.beqs a b
  | .ref a, .ref b => a == b
  | _, _ => false
def U.beqs : List U → List U → Bool
  | [], [] => true
  | a :: as, b :: bs => U.beq a b && U.beqs as bs
  | _, _ => false
end
mutual
theorem U.eq_of : ∀ {a b : U}, U.beq a b = true → a = b
  | .non, .non, _ => rfl
  | .bl a, .bl b, h => by unfold U.beq at h; rw [eq_of_beq h]
  | .int a, .int b, h => by unfold U.beq at h; rw [of_decide_eq_true h]
  | .str a, .str b, h => by unfold U.beq at h; rw [of_decide_eq_true h]
  | .tup a, .tup b, h => by unfold U.beq at h; rw [U.eqs_of h]
  | .lit a, .lit b, h => by unfold U.beq at h; rw [U.eqs_of h]
  | .wtu a, .wtu b, h => by unfold U.beq at h; rw [U.eqs_of h]
  | .ref a, .ref b, h => by unfold U.beq at h; rw [eq_of_beq h]
  | .non, .bl _, h | .non, .int _, h | .non, .str _, h | .non, .tup _, h | .non, .lit _, h | .non, .wtu _, h | .non, .ref _, h => by simp [U.beq] at h
  | .bl _, .non, h | .bl _, .int _, h | .bl _, .str _, h | .bl _, .tup _, h | .bl _, .lit _, h | .bl _, .wtu _, h | .bl _, .ref _, h => by simp [U.beq] at h
  | .int _, .non, h | .int _, .bl _, h | .int _, .str _, h | .int _, .tup _, h | .int _, .lit _, h | .int _, .wtu _, h | .int _, .ref _, h => by simp [U.beq] at h
  | .str _, .non, h | .str _, .bl _, h | .str _, .int _, h | .str _, .tup _, h | .str _, .lit _, h | .str _, .wtu _, h | .str _, .ref _, h => by simp [U.beq] at h
  | .tup _, .non, h | .tup _, .bl _, h | .tup _, .int _, h | .tup _, .str _, h | .tup _, .lit _, h | .tup _, .wtu _, h | .tup _, .ref _, h => by simp [U.beq] at h
  | .lit _, .non, h | .lit _, .bl _, h | .lit _, .int _, h | .lit _, .str _, h | .lit _, .tup _, h | .lit _, .wtu _, h | .lit _, .ref _, h => by simp [U.beq] at h
  | .wtu _, .non, h | .wtu _, .bl _, h | .wtu _, .int _, h | .wtu _, .str _, h | .wtu _, .tup _, h | .wtu _, .lit _, h | .wtu _, .ref _, h => by simp [U.beq] at h
  | .ref _, .non, h | .ref _, .bl _, h | .ref _, .int _, h | .ref _, .str _, h | .ref _, .tup _, h | .ref _, .lit _, h | .ref _, .wtu _, h => by simp [U.beq] at h
theorem U.eqs_of : ∀ {a b : List U}, U.beqs a b = true → a = b
  | [], [], _ => rfl
  | a :: as, b :: bs, h => by
    unfold U.beqs at h
    rw [Bool.and_eq_true] at h
    rw [U.eq_of h.1, U.eqs_of h.2]
  | [], _ :: _, h => by simp [U.beqs] at h
  | _ :: _, [], h => by simp [U.beqs] at h
end
mutual
theorem U.beq_refl : ∀ (a : U), U.beq a a = true
  | .non => rfl
  | .bl a => by simp [U.beq]
  | .int a => by simp [U.beq]
  | .str a => by simp [U.beq]
  | .tup a => by unfold U.beq; exact U.beqs_refl a
  | .lit a => by unfold U.beq; exact U.beqs_refl a
  | .wtu a => by unfold U.beq; exact U.beqs_refl a
  | .ref a => by simp [U.beq]
theorem U.beqs_refl : ∀ (a : List U), U.beqs a a = true
  | [] => rfl
  | a :: as => by unfold U.beqs; rw [U.beq_refl a, U.beqs_refl as]; rfl
end

/-! ### how they stand for what is in the heap -/
structure ExI where
  i : Nat
  a : Addr
  dd : Addr
  c : Nat
  fs : List (Str × U)
structure Ctx where
  K : PySem.W.Frag
  C : Nat → Addr
  ex : Option ExI := none

def KL (K : PySem.W.Frag) (a : Addr) (xs : List V) : Prop :=
  ∃ (o : Obj) (its : Array Value) (n : Nat), K.lookup a = some o ∧ o.cls = .type "list" ∧ o.dict = none ∧ o.data = .seq its n ∧ its.size ≤ sizeLine ∧ Vals xs its.toList
def LitL (K : PySem.W.Frag) (H : Hp) (a : Addr) (xs : List V) : Prop := (∃ o, H a = some (.frz o (.lst xs))) ∨ KL K a xs
/-- a written tuple -/
def KU (K : PySem.W.Frag) (a : Addr) (xs : List V) : Prop := ∃ (o : Obj) (its : Array Value) (n : Nat), K.lookup a = some o ∧ o.cls = .type "tuple" ∧ o.dict = none ∧ o.data = .seq its n ∧ its.size ≤ sizeLine ∧ Vals xs its.toList
theorem KU.seq {K : PySem.W.Frag} {H : Hp} {a : Addr} {xs : List V} (h : KU K a xs) : SqT K H a xs := by
  obtain ⟨o, its, n, h1, h2, h3, h4, h5, h6⟩ := h
  exact .inr ⟨o, its, n, h1, h2, h4, h5, h6⟩
theorem LitL.seq {K : PySem.W.Frag} {H : Hp} {a : Addr} {xs : List V} (h : LitL K H a xs) : SqL K H a xs := by
  rcases h with ⟨o, h⟩ | h
  · exact .inl (.inr ⟨o, h⟩)
  · exact .inr h

mutual
def RelU (K : PySem.W.Frag) (θ : List Addr) (H : Hp) : U → V → Prop
  | .non, v => v = .non
  | .bl b, v => v = .bl b
  | .int i, v => v = .int i
  | .str s, v => v = .str s
  | .tup us, v => ∃ a vs, v = .ref a ∧ SqT K H a vs ∧ RelUs K θ H us vs
  | .lit us, v => ∃ a vs, v = .ref a ∧ LitL K H a vs ∧ RelUs K θ H us vs
  | .wtu us, v => ∃ a vs, v = .ref a ∧ KU K a vs ∧ RelUs K θ H us vs
  | .ref n, v => ∃ a, v = .ref a ∧ θ[n]? = some a
def RelUs (K : PySem.W.Frag) (θ : List Addr) (H : Hp) : List U → List V → Prop
  | [], vs => vs = []
  | u :: us, vs => ∃ w ws, vs = w :: ws ∧ RelU K θ H u w ∧ RelUs K θ H us ws
end
def RelF (K : PySem.W.Frag) (θ : List Addr) (H : Hp) {κ : Type} (fs : List (κ × U)) (gs : List (κ × V)) : Prop :=
  gs.map (·.1) = fs.map (·.1) ∧ RelUs K θ H (fs.map (·.2)) (gs.map (·.2))

def CellOk (κ : Ctx) (θ : List Addr) (H : Hp) (a : Addr) : Cell → Prop
  | .lst us => ∃ vs, H a = some (.lst vs) ∧ RelUs κ.K θ H us vs
  | .ins c fs => ∃ dx gs, H a = some (.ins (κ.C c) dx gs) ∧ RelF κ.K θ H fs gs
  | .dct kvs => ∃ gs, H a = some (.dK gs) ∧ RelF κ.K θ H kvs gs
  | .exv c fs => ∃ dx gs, H a = some (exo a (κ.C c) (some dx)) ∧ H dx = some (exd dx gs) ∧ (dx ∉ θ ∧ dx ≠ a) ∧ RelF κ.K θ H fs gs
structure Sim (κ : Ctx) (θ : List Addr) (g : Gs) (H : Hp) : Prop where
  len : θ.length = g.length
  nd : θ.Nodup
  ok : ∀ (n : Nat) (c : Cell) (a : Addr), g[n]? = some c → θ[n]? = some a → CellOk κ θ H a c
def Le (θ : List Addr) (H : Hp) (θ' : List Addr) (H' : Hp) : Prop :=
  ∃ more : List Addr, θ' = θ ++ more ∧ (∀ p, p ∈ more → p ∉ θ ∧ H p = none) ∧ ∀ a o, a ∉ θ → H a = some o → H' a = some o

theorem Le.refl (θ : List Addr) (H : Hp) : Le θ H θ H := ⟨[], by simp, (fun p h => nomatch h), fun _ _ _ h => h⟩
theorem Le.trans {θ θ1 θ2 : List Addr} {H H1 H2 : Hp} (x : Le θ H θ1 H1) (y : Le θ1 H1 θ2 H2) : Le θ H θ2 H2 := by
  obtain ⟨m1, e1, n1, f1⟩ := x
  obtain ⟨m2, e2, n2, f2⟩ := y
  subst e1
  subst e2
  refine ⟨m1 ++ m2, by simp, fun p hp => ?_, fun a o ha ho => f2 a o (fun hm => ?_) (f1 a o ha ho)⟩
  · rcases List.mem_append.mp hp with hp | hp
    · exact n1 p hp
    · obtain ⟨z1, z2⟩ := n2 p hp
      have zθ : p ∉ θ := fun h => z1 (List.mem_append_left _ h)
      refine ⟨zθ, ?_⟩
      cases q : H p with
      | none => rfl
      | some o =>
        have z := f1 p o zθ q
        rw [z2] at z; cases z
  · rcases List.mem_append.mp hm with hm | hm
    · exact ha hm
    · rw [(n1 a hm).2] at ho; cases ho
theorem Le.get {θ θ' : List Addr} {H H' : Hp} (x : Le θ H θ' H') {n : Nat} {a : Addr} (h : θ[n]? = some a) : θ'[n]? = some a := by
  obtain ⟨m, rfl, _⟩ := x
  rw [List.getElem?_append_left (List.getElem?_eq_some_iff.mp h).1]
  exact h
theorem Le.frame {θ θ' : List Addr} {H H' : Hp} (x : Le θ H θ' H') {a : Addr} {o : HO} (ha : a ∉ θ) (h : H a = some o) : H' a = some o := x.choose_spec.2.2 a o ha h

/-- an exception is no dict of an exception -/
theorem exo_exd {a C dx : Addr} {d : Option Addr} {gs : List (Str × V)} (h : exo a C d = exd dx gs) : False := by
  unfold exo exd at h
  injection h with h2
  obtain ⟨ob, hob⟩ : ∃ ob : Obj, ob = { cls := .ref C, dict := d, data := .fields #[.ref 0, .none, .none, .none, .bool false, .none] } := ⟨_, rfl⟩
  have h3 := congrFun h2 { objs := Array.replicate (a + 1) ob }
  have h4 : (∃ t1 : Addr, ({ objs := Array.replicate (a + 1) ob } : Heap).get? a = some ({ cls := .ref C, dict := d, data := .fields #[.ref t1, .none, .none, .none, .bool false, .none] } : Obj)) := ⟨0, Heap.get?_some_iff.mpr ⟨by
    show (Array.replicate (a + 1) ob)[a]? = _
    rw [Array.getElem?_replicate, if_pos (Nat.lt_succ_self a), hob], rfl⟩⟩
  rw [h3] at h4
  obtain ⟨mA, ⟨o, es, ep, e1, e2, _⟩, _⟩ := h4
  have e3 : (Array.replicate (a + 1) ob)[dx]? = some o := (Heap.get?_some_iff.mp e1).1
  rw [Array.getElem?_replicate] at e3
  split at e3
  · cases e3
    rw [hob] at e2
    cases e2
  · cases e3
/-- what a cell may stand for -/
def Mu : HO → Prop
  | .lst _ => True
  | .ins _ _ _ => True
  | .dK _ => True
  | .ext φ => ∃ (a C : Addr) (d : Option Addr), HO.ext φ = exo a C d
  | _ => False
theorem Mu.exd {dx : Addr} {gs : List (Str × V)} (h : Mu (exd dx gs)) : False := by
  obtain ⟨a, C, d, e⟩ := h
  exact exo_exd e.symm
theorem CellOk.mu {κ : Ctx} {θ : List Addr} {H : Hp} {a : Addr} {c : Cell} (h : CellOk κ θ H a c) : ∃ o, H a = some o ∧ Mu o := by
  cases c with
  | lst us => obtain ⟨vs, e, _⟩ := h; exact ⟨_, e, trivial⟩
  | ins c fs => obtain ⟨dx, gs, e, _⟩ := h; exact ⟨_, e, trivial⟩
  | dct kvs => obtain ⟨gs, e, _⟩ := h; exact ⟨_, e, trivial⟩
  | exv c fs => obtain ⟨dx, gs, e, _⟩ := h; exact ⟨_, e, ⟨_, _, _, rfl⟩⟩
theorem Sim.mu {κ : Ctx} {θ : List Addr} {g : Gs} {H : Hp} (S : Sim κ θ g H) {a : Addr} (h : a ∈ θ) : ∃ o, H a = some o ∧ Mu o := by
  obtain ⟨n, hn, e⟩ := List.getElem_of_mem h
  have hg : n < g.length := by rw [← S.len]; exact hn
  exact (S.ok n g[n] a (List.getElem?_eq_getElem hg) (by rw [← e]; exact List.getElem?_eq_getElem hn)).mu
theorem Sim.out {κ : Ctx} {θ : List Addr} {g : Gs} {H : Hp} (S : Sim κ θ g H) {a : Addr} {o : HO} (h : H a = some o) (hm : ¬ Mu o) : a ∉ θ := fun z => by
  obtain ⟨o', e, m⟩ := S.mu z
  rw [h] at e
  cases e
  exact hm m
theorem Sim.none_out {κ : Ctx} {θ : List Addr} {g : Gs} {H : Hp} (S : Sim κ θ g H) {a : Addr} (h : H a = none) : a ∉ θ := fun z => by
  obtain ⟨o', e, m⟩ := S.mu z
  rw [h] at e
  cases e

section
variable {κ : Ctx} {K : PySem.W.Frag} {θ θ' : List Addr} {g : Gs} {H H' : Hp}
/-- what is read of the heap and never changes, stands -/
def Keep (H H' : Hp) : Prop := (∀ a xs, H a = some (.tup xs) → H' a = some (.tup xs)) ∧ ∀ a o u, H a = some (.frz o u) → H' a = some (.frz o u)
theorem Le.keep (S : Sim κ θ g H) (x : Le θ H θ' H') : Keep H H' := ⟨fun a xs h => x.frame (S.out h fun z => z) h, fun a o u h => x.frame (S.out h fun z => z) h⟩
theorem Keep.t (k : Keep H H') {a : Addr} {xs : List V} (h : SqT K H a xs) : SqT K H' a xs := by
  rcases h with (h | ⟨o, h⟩) | h
  · exact .inl (.inl (k.1 _ _ h))
  · exact .inl (.inr ⟨o, k.2 _ _ _ h⟩)
  · exact .inr h
theorem Keep.l (k : Keep H H') {a : Addr} {xs : List V} (h : LitL K H a xs) : LitL K H' a xs := by
  rcases h with ⟨o, h⟩ | h
  · exact .inl ⟨o, k.2 _ _ _ h⟩
  · exact .inr h
mutual
theorem RelU.keep (k : Keep H H') (ht : ∀ (n : Nat) (a : Addr), θ[n]? = some a → θ'[n]? = some a) : ∀ {u : U} {v : V}, RelU K θ H u v → RelU K θ' H' u v
  | .non, v, h => by unfold RelU at *; exact h
  | .bl b, v, h => by unfold RelU at *; exact h
  | .int b, v, h => by unfold RelU at *; exact h
  | .str b, v, h => by unfold RelU at *; exact h
  | .tup us, v, h => by
    unfold RelU at *
    obtain ⟨a, vs, e, h1, h2⟩ := h
    exact ⟨a, vs, e, k.t h1, RelUs.keep k ht h2⟩
  | .lit us, v, h => by
    unfold RelU at *
    obtain ⟨a, vs, e, h1, h2⟩ := h
    exact ⟨a, vs, e, k.l h1, RelUs.keep k ht h2⟩
  | .wtu us, v, h => by
    unfold RelU at *
    obtain ⟨a, vs, e, h1, h2⟩ := h
    exact ⟨a, vs, e, h1, RelUs.keep k ht h2⟩
  | .ref n, v, h => by
    unfold RelU at *
    obtain ⟨a, e, h1⟩ := h
    exact ⟨a, e, ht _ _ h1⟩
theorem RelUs.keep (k : Keep H H') (ht : ∀ (n : Nat) (a : Addr), θ[n]? = some a → θ'[n]? = some a) : ∀ {us : List U} {vs : List V}, RelUs K θ H us vs → RelUs K θ' H' us vs
  | [], v, h => by unfold RelUs at *; exact h
  | u :: us, v, h => by
    unfold RelUs at *
    obtain ⟨w, ws, e, h1, h2⟩ := h
    exact ⟨w, ws, e, RelU.keep k ht h1, RelUs.keep k ht h2⟩
end
theorem RelU.le (S : Sim κ θ g H) (x : Le θ H θ' H') {u : U} {v : V} (h : RelU K θ H u v) : RelU K θ' H' u v := h.keep (x.keep S) fun _ _ => x.get
theorem RelUs.le (S : Sim κ θ g H) (x : Le θ H θ' H') {u : List U} {v : List V} (h : RelUs K θ H u v) : RelUs K θ' H' u v := h.keep (x.keep S) fun _ _ => x.get
theorem RelF.le (S : Sim κ θ g H) (x : Le θ H θ' H') {α : Type} {u : List (α × U)} {v : List (α × V)} (h : RelF K θ H u v) : RelF K θ' H' u v := ⟨h.1, h.2.le S x⟩
theorem RelUs.length : ∀ {us : List U} {vs : List V}, RelUs K θ H us vs → us.length = vs.length
  | [], v, h => by unfold RelUs at h; subst h; rfl
  | u :: us, v, h => by
    unfold RelUs at h
    obtain ⟨w, ws, e, h1, h2⟩ := h
    subst e
    rw [List.length_cons, List.length_cons, h2.length]
theorem RelUs.get : ∀ {us : List U} {vs : List V} {i : Nat} {u : U}, RelUs K θ H us vs → us[i]? = some u → ∃ v, vs[i]? = some v ∧ RelU K θ H u v
  | [], _, i, _, _, e => by simp at e
  | u :: us, v, 0, x, h, e => by
    unfold RelUs at h
    obtain ⟨w, ws, e1, h1, h2⟩ := h
    subst e1
    simp at e
    subst e
    exact ⟨w, by simp, h1⟩
  | u :: us, v, i + 1, x, h, e => by
    unfold RelUs at h
    obtain ⟨w, ws, e1, h1, h2⟩ := h
    subst e1
    obtain ⟨y, e2, h3⟩ := h2.get (i := i) (u := x) (by simpa using e)
    exact ⟨y, by simpa using e2, h3⟩
theorem RelUs.nil : RelUs K θ H [] [] := by unfold RelUs; rfl
theorem RelUs.cons {u : U} {us : List U} {v : V} {vs : List V} (h1 : RelU K θ H u v) (h2 : RelUs K θ H us vs) : RelUs K θ H (u :: us) (v :: vs) := by
  unfold RelUs
  exact ⟨v, vs, rfl, h1, h2⟩
theorem RelUs.append : ∀ {us ws : List U} {vs xs : List V}, RelUs K θ H us vs → RelUs K θ H ws xs → RelUs K θ H (us ++ ws) (vs ++ xs)
  | [], _, _, _, h, h' => by unfold RelUs at h; subst h; exact h'
  | u :: us, _, _, _, h, h' => by
    unfold RelUs at h
    obtain ⟨w, ys, e, h1, h2⟩ := h
    subst e
    exact .cons h1 (h2.append h')
theorem RelUs.of_get : ∀ {us : List U} {vs : List V}, us.length = vs.length → (∀ (i : Nat) (u : U) (v : V), us[i]? = some u → vs[i]? = some v → RelU K θ H u v) → RelUs K θ H us vs
  | [], [], _, _ => .nil
  | u :: us, v :: vs, hl, h => .cons (h 0 u v rfl rfl) (.of_get (by simpa using hl) fun i u v a b => h (i + 1) u v (by simpa using a) (by simpa using b))
theorem RelUs.getV {us : List U} {vs : List V} {i : Nat} {v : V} (h : RelUs K θ H us vs) (e : vs[i]? = some v) : ∃ u, us[i]? = some u ∧ RelU K θ H u v := by
  have hl := h.length
  have hi : i < us.length := by rw [hl]; exact (List.getElem?_eq_some_iff.mp e).1
  obtain ⟨w, e2, r⟩ := h.get (List.getElem?_eq_getElem hi)
  rw [e] at e2
  cases e2
  exact ⟨us[i], List.getElem?_eq_getElem hi, r⟩
theorem RelUs.set {us : List U} {vs : List V} {u : U} {v : V} (i : Nat) (h : RelUs K θ H us vs) (r : RelU K θ H u v) : RelUs K θ H (us.set i u) (vs.set i v) := by
  refine .of_get (by simpa using h.length) fun j x y a b => ?_
  by_cases hj : i = j
  · subst hj
    by_cases hi : i < us.length
    · rw [List.getElem?_set_self hi] at a
      rw [List.getElem?_set_self (by rw [← h.length]; exact hi)] at b
      cases a; cases b
      exact r
    · rw [List.getElem?_eq_none (by simpa using hi)] at a; cases a
  · rw [List.getElem?_set_ne hj] at a b
    obtain ⟨w, e, q⟩ := h.get a
    rw [b] at e; cases e
    exact q
theorem RelUs.take {us : List U} {vs : List V} (n : Nat) (h : RelUs K θ H us vs) : RelUs K θ H (us.take n) (vs.take n) := by
  refine .of_get (by simp [h.length]) fun j x y a b => ?_
  rw [List.getElem?_take] at a b
  split at a
  · rename_i c
    rw [if_pos c] at b
    obtain ⟨w, e, q⟩ := h.get a
    rw [b] at e; cases e
    exact q
  · cases a
theorem RelUs.drop {us : List U} {vs : List V} (n : Nat) (h : RelUs K θ H us vs) : RelUs K θ H (us.drop n) (vs.drop n) := by
  refine .of_get (by simp [h.length]) fun j x y a b => ?_
  rw [List.getElem?_drop] at a b
  obtain ⟨w, e, q⟩ := h.get a
  rw [b] at e; cases e
  exact q

theorem CellOk.le (S : Sim κ θ g H) (x : Le θ H θ' H') {a : Addr} {c : Cell} (h : CellOk κ θ H a c) (ha : ∀ o, H a = some o → H' a = some o) : CellOk κ θ' H' a c := by
  cases c with
  | lst us => obtain ⟨vs, e, r⟩ := h; exact ⟨vs, ha _ e, r.le S x⟩
  | ins c fs => obtain ⟨dx, gs, e, r⟩ := h; exact ⟨dx, gs, ha _ e, r.le S x⟩
  | dct kvs => obtain ⟨gs, e, r⟩ := h; exact ⟨gs, ha _ e, r.le S x⟩
  | exv c fs =>
    obtain ⟨dx, gs, e, e2, n, r⟩ := h
    refine ⟨dx, gs, ha _ e, x.frame n.1 e2, ⟨fun z => ?_, n.2⟩, r.le S x⟩
    obtain ⟨m, rfl, n1, _⟩ := x
    rcases List.mem_append.mp z with z | z
    · exact n.1 z
    · rw [(n1 dx z).2] at e2; cases e2

/-- a new cell -/
theorem Sim.new (S : Sim κ θ g H) {p : Addr} {o : HO} {c : Cell} (hp : H p = none) (mo : CellOk κ θ (upd H p o) p c) : Le θ H (θ ++ [p]) (upd H p o) ∧ Sim κ (θ ++ [p]) (g ++ [c]) (upd H p o) := by
  have np : p ∉ θ := S.none_out hp
  have L : Le θ H (θ ++ [p]) (upd H p o) := ⟨[p], rfl, fun q hq => by
    have e : q = p := by simpa using hq
    subst e
    exact ⟨np, hp⟩, fun a u ha h => by rw [upd_ne (ne_of_none h hp)]; exact h⟩
  refine ⟨L, ⟨by simp [S.len], ?_, fun n c' a hc ha => ?_⟩⟩
  · rw [List.nodup_append]
    refine ⟨S.nd, by simp, fun a ha b hb => ?_⟩
    have e : b = p := by simpa using hb
    subst e
    exact fun z => np (z ▸ ha)
  · by_cases hn : n < g.length
    · rw [List.getElem?_append_left hn] at hc
      rw [List.getElem?_append_left (by rw [S.len]; exact hn)] at ha
      refine (S.ok n c' a hc ha).le S L fun u h => ?_
      rw [upd_ne (ne_of_none h hp)]
      exact h
    · have e : n = g.length := by
        have := (List.getElem?_eq_some_iff.mp hc).1
        rw [List.length_append, List.length_singleton] at this
        omega
      subst e
      rw [List.getElem?_append_right (Nat.le_refl _)] at hc
      rw [← S.len, List.getElem?_append_right (Nat.le_refl _)] at ha
      simp at hc ha
      subst hc ha
      -- the cell's own description, over the longer list of places
      have k2 : Keep (upd H p o) (upd H p o) := ⟨fun _ _ h => h, fun _ _ _ h => h⟩
      have ht : ∀ (n : Nat) (a : Addr), θ[n]? = some a → (θ ++ [p])[n]? = some a := fun n a h => L.get h
      cases c with
      | lst us => obtain ⟨vs, e, r⟩ := mo; exact ⟨vs, e, r.keep k2 ht⟩
      | ins c fs => obtain ⟨dx, gs, e, r⟩ := mo; exact ⟨dx, gs, e, r.1, r.2.keep k2 ht⟩
      | dct kvs => obtain ⟨gs, e, r⟩ := mo; exact ⟨gs, e, r.1, r.2.keep k2 ht⟩
      | exv c fs =>
        obtain ⟨dx, gs, e, e2, n, r⟩ := mo
        refine ⟨dx, gs, e, e2, ⟨fun z => ?_, n.2⟩, r.1, r.2.keep k2 ht⟩
        rcases List.mem_append.mp z with z | z
        · exact n.1 z
        · exact n.2 (by simpa using z)
/-- a cell written -/
theorem Sim.put (S : Sim κ θ g H) {n : Nat} {p : Addr} {u o : HO} {c : Cell} (hn : θ[n]? = some p) (hu : H p = some u) (mu : Mu u) (mo : CellOk κ θ (upd H p o) p c) : Le θ H θ (upd H p o) ∧ Sim κ θ (g.set n c) (upd H p o) := by
  have hp : p ∈ θ := List.mem_of_getElem? hn
  have L : Le θ H θ (upd H p o) := ⟨[], by simp, (fun q hq => nomatch hq), fun a u ha h => by
    have ne : a ≠ p := fun z => by subst z; exact ha hp
    rw [upd_ne ne]
    exact h⟩
  refine ⟨L, ⟨by simpa using S.len, S.nd, fun m c' a hc ha => ?_⟩⟩
  by_cases hm : n = m
  · subst hm
    rw [hn] at ha
    cases ha
    by_cases hl : n < g.length
    · rw [List.getElem?_set_self hl] at hc
      cases hc
      exact mo
    · rw [List.getElem?_eq_none (by simpa using hl)] at hc; cases hc
  · rw [List.getElem?_set_ne hm] at hc
    have hne : a ≠ p := fun z => by
      subst z
      obtain ⟨l1, e1⟩ := List.getElem?_eq_some_iff.mp hn
      obtain ⟨l2, e2⟩ := List.getElem?_eq_some_iff.mp ha
      exact hm ((List.getElem_inj S.nd).mp (e1.trans e2.symm))
    refine (S.ok m c' a hc ha).le S L fun u h => ?_
    rw [upd_ne hne]
    exact h
/-- what is not tracked here changes as it likes -/
theorem Sim.other (S : Sim κ θ g H) {p : Addr} {o : HO} (hp : H p = none) : Le θ H θ (upd H p o) ∧ Sim κ θ g (upd H p o) := by
  have L : Le θ H θ (upd H p o) := ⟨[], by simp, (fun q hq => nomatch hq), fun a u ha h => by rw [upd_ne (ne_of_none h hp)]; exact h⟩
  exact ⟨L, S.len, S.nd, fun n c a hc ha => (S.ok n c a hc ha).le S L fun u h => by rw [upd_ne (ne_of_none h hp)]; exact h⟩
end
end R
set_option Elab.async false
set_option linter.all false
set_option maxRecDepth 100000
set_option maxHeartbeats 4000000
namespace R
open PySem PySem.Spec L2
open PyProof.Rows hiding St

/-! ### runs -/
inductive Res (α : Type) where
  | ok (a : α) (g : Gs)
  | exc (c : Nat) (fs : List (Str × U)) (g : Gs)
  | bad
def Res.bind {α β : Type} : Res α → (α → Gs → Res β) → Res β
  | .ok a g, k => k a g
  | .exc c fs g, _ => .exc c fs g
  | .bad, _ => .bad
@[simp] theorem Res.bind_ok {α β : Type} (a : α) (g : Gs) (k : α → Gs → Res β) : (Res.ok a g).bind k = k a g := rfl
@[simp] theorem Res.bind_exc {α β : Type} (c : Nat) (fs : List (Str × U)) (g : Gs) (k : α → Gs → Res β) : (Res.exc c fs g : Res α).bind k = .exc c fs g := rfl
@[simp] theorem Res.bind_bad {α β : Type} (k : α → Gs → Res β) : (Res.bad : Res α).bind k = .bad := rfl
/-- slots -/
abbrev Us := List (Option U)
abbrev Ev := Us → Gs → Res U
abbrev Et := Us → Gs → Res Bool
abbrev Ea := Us → Gs → Res (List U)
inductive SR where
  | nx (us : Us) (g : Gs)
  | rt (u : U) (g : Gs)
  | bk (us : Us) (g : Gs)
  | ct (us : Us) (g : Gs)
  | exc (c : Nat) (fs : List (Str × U)) (us : Us) (g : Gs)
  | bad
abbrev Sx := Us → Gs → SR
def Res.thn {α : Type} : Res α → Us → (α → Gs → SR) → SR
  | .ok a g, _, k => k a g
  | .exc c fs g, us, _ => .exc c fs us g
  | .bad, _, _ => .bad
@[simp] theorem Res.thn_ok {α : Type} (a : α) (g : Gs) (us : Us) (k : α → Gs → SR) : (Res.ok a g).thn us k = k a g := rfl
@[simp] theorem Res.thn_exc {α : Type} (c : Nat) (fs : List (Str × U)) (g : Gs) (us : Us) (k : α → Gs → SR) : (Res.exc c fs g : Res α).thn us k = .exc c fs us g := rfl
@[simp] theorem Res.thn_bad {α : Type} (us : Us) (k : α → Gs → SR) : (Res.bad : Res α).thn us k = .bad := rfl

/-- the slots stand for those of the frame -/
structure RelS (κ : Ctx) (θ : List Addr) (H : Hp) (us : Us) (σ : St) : Prop where
  len : us.length = σ.length
  at' : ∀ (i : Nat) (u : U), us[i]? = some (some u) → ∃ v, σ[i]? = some (some v) ∧ RelU κ.K θ H u v
  ex : ∀ x, κ.ex = some x → us[x.i]? = some none ∧ σ[x.i]? = some (some (.ref x.a)) ∧ ∃ gs, H x.dd = some (.xd gs) ∧ RelF κ.K θ H x.fs gs
section
variable {κ : Ctx} {θ θ' : List Addr} {g : Gs} {H H' : Hp} {us : Us} {σ : St}
theorem RelS.le (S : Sim κ θ g H) (x : Le θ H θ' H') (h : RelS κ θ H us σ) : RelS κ θ' H' us σ where
  len := h.len
  at' := fun i u e => by
    obtain ⟨v, e1, r⟩ := h.at' i u e
    exact ⟨v, e1, r.le S x⟩
  ex := fun y e => by
    obtain ⟨a, b, gs, c, d⟩ := h.ex y e
    exact ⟨a, b, gs, x.frame (S.out c fun z => z) c, d.le S x⟩
theorem RelS.set {i : Nat} {u : U} {v : V} (h : RelS κ θ H us σ) (r : RelU κ.K θ H u v) (hx : ∀ x, κ.ex = some x → x.i ≠ i) : RelS κ θ H (us.set i (some u)) (σ.set i (some v)) where
  len := by simpa using h.len
  at' := fun j w e => by
    by_cases hj : i = j
    · subst hj
      by_cases hi : i < us.length
      · rw [List.getElem?_set_self hi] at e
        cases e
        exact ⟨v, by rw [List.getElem?_set_self (by rw [← h.len]; exact hi)], r⟩
      · rw [List.getElem?_eq_none (by simpa using hi)] at e; cases e
    · rw [List.getElem?_set_ne hj] at e
      obtain ⟨v', e1, r'⟩ := h.at' j w e
      exact ⟨v', by rw [List.getElem?_set_ne hj]; exact e1, r'⟩
  ex := fun y e => by
    obtain ⟨a, b, c⟩ := h.ex y e
    have ne := hx y e
    exact ⟨by rw [List.getElem?_set_ne (Ne.symm ne)]; exact a, by rw [List.getElem?_set_ne (Ne.symm ne)]; exact b, c⟩
end

/-! ### what a run promises -/
def Res.post {α β : Type} (κ : Ctx) (Rl : List Addr → Hp → α → β → Prop) (θ : List Addr) (H : Hp) : Res α → (β → Hp → Prop) → (Value → Option Addr → Hp → Prop) → Prop
  | .ok u g, Q, _ => ∀ θ' H' v, Le θ H θ' H' → Sim κ θ' g H' → Rl θ' H' u v → Q v H'
  | .exc c fs g, _, W => ∀ θ' H' d gs, Le θ H θ' H' → Sim κ θ' g H' → H' d = some (.xd gs) → RelF κ.K θ' H' fs gs → W (.ref (κ.C c)) (some d) H'
  | .bad, _, _ => False
theorem Res.post_mono {α β : Type} {κ : Ctx} {Rl : List Addr → Hp → α → β → Prop} {θ θ1 : List Addr} {H H1 : Hp} {Q : β → Hp → Prop} {W : Value → Option Addr → Hp → Prop} {r : Res α} (x : Le θ H θ1 H1) (h : r.post κ Rl θ H Q W) : r.post κ Rl θ1 H1 Q W := by
  cases r with
  | ok u g => exact fun θ' H' v l s r => h θ' H' v (x.trans l) s r
  | exc c fs g => exact fun θ' H' d gs l s e r => h θ' H' d gs (x.trans l) s e r
  | bad => exact h
theorem Res.post_imp {α β : Type} {κ : Ctx} {Rl : List Addr → Hp → α → β → Prop} {θ : List Addr} {H : Hp} {Q Q' : β → Hp → Prop} {W W' : Value → Option Addr → Hp → Prop} {r : Res α} (h : r.post κ Rl θ H Q W) (hq : ∀ v H, Q v H → Q' v H) (hw : ∀ a b c, W a b c → W' a b c) : r.post κ Rl θ H Q' W' := by
  cases r with
  | ok u g => exact fun θ' H' v l s r => hq _ _ (h θ' H' v l s r)
  | exc c fs g => exact fun θ' H' d gs l s e r => hw _ _ _ (h θ' H' d gs l s e r)
  | bad => exact h
def RlU (κ : Ctx) : List Addr → Hp → U → V → Prop := fun θ H => RelU κ.K θ H
def RlB : List Addr → Hp → Bool → Bool → Prop := fun _ _ a b => a = b
def RlA (κ : Ctx) : List Addr → Hp → List U → List V → Prop := fun θ H => RelUs κ.K θ H
/-- a reading out of a run -/
def RX {α β : Type} (κ : Ctx) (Rl : List Addr → Hp → α → β → Prop) (W : WX) (f : Us → Gs → Res α) : St → Hp → (β → Hp → Prop) → Prop := fun σ H Q =>
  ∃ θ us g, Sim κ θ g H ∧ RelS κ θ H us σ ∧ (f us g).post κ Rl θ H Q (fun c d H' => W c d σ H')
abbrev RE (κ : Ctx) (W : WX) (f : Ev) : TE := RX κ (RlU κ) W f
abbrev RT (κ : Ctx) (W : WX) (f : Et) : TT := RX κ RlB W f
abbrev RA (κ : Ctx) (W : WX) (f : Ea) : TA := RX κ (RlA κ) W f
def SR.post (κ : Ctx) (θ : List Addr) (H : Hp) (D : Ends) (W : WX) : SR → Prop
  | .nx us g => ∀ θ' H' σ', Le θ H θ' H' → Sim κ θ' g H' → RelS κ θ' H' us σ' → D.nx σ' H'
  | .rt u g => ∀ θ' H' v, Le θ H θ' H' → Sim κ θ' g H' → RelU κ.K θ' H' u v → D.rt v H'
  | .bk us g => ∀ θ' H' σ', Le θ H θ' H' → Sim κ θ' g H' → RelS κ θ' H' us σ' → D.bk σ' H'
  | .ct us g => ∀ θ' H' σ', Le θ H θ' H' → Sim κ θ' g H' → RelS κ θ' H' us σ' → D.ct σ' H'
  | .exc c fs us g => ∀ θ' H' σ' d gs, Le θ H θ' H' → Sim κ θ' g H' → RelS κ θ' H' us σ' → H' d = some (.xd gs) → RelF κ.K θ' H' fs gs → W (.ref (κ.C c)) (some d) σ' H'
  | .bad => False
theorem SR.post_mono {κ : Ctx} {θ θ1 : List Addr} {H H1 : Hp} {D : Ends} {W : WX} {r : SR} (x : Le θ H θ1 H1) (h : r.post κ θ H D W) : r.post κ θ1 H1 D W := by
  cases r with
  | nx us g => exact fun θ' H' v l => h θ' H' v (x.trans l)
  | rt us g => exact fun θ' H' v l => h θ' H' v (x.trans l)
  | bk us g => exact fun θ' H' v l => h θ' H' v (x.trans l)
  | ct us g => exact fun θ' H' v l => h θ' H' v (x.trans l)
  | exc c fs us g => exact fun θ' H' v d gs l => h θ' H' v d gs (x.trans l)
  | bad => exact h
def RS (κ : Ctx) (W : WX) (f : Sx) : TS := fun D σ H => ∃ θ us g, Sim κ θ g H ∧ RelS κ θ H us σ ∧ (f us g).post κ θ H D W

/-- one run, then what hangs on it -/
theorem RX.step {α β : Type} {κ : Ctx} {Rl : List Addr → Hp → α → β → Prop} {W : WX} {f : Us → Gs → Res α} {σ : St} {H : Hp} {θ : List Addr} {us : Us} {g : Gs} {Q : β → Hp → Prop} (S : Sim κ θ g H) (R : RelS κ θ H us σ)
    {P : Res α → Prop} (h : P (f us g)) (hok : ∀ a g1, P (.ok a g1) → ∀ θ1 H1 v, Le θ H θ1 H1 → Sim κ θ1 g1 H1 → RelS κ θ1 H1 us σ → Rl θ1 H1 a v → Q v H1)
    (hex : ∀ c fs g1, P (.exc c fs g1) → ∀ θ1 H1 d gs, Le θ H θ1 H1 → Sim κ θ1 g1 H1 → H1 d = some (.xd gs) → RelF κ.K θ1 H1 fs gs → W (.ref (κ.C c)) (some d) σ H1) (hb : ¬ P .bad) : RX κ Rl W f σ H Q := by
  refine ⟨θ, us, g, S, R, ?_⟩
  cases e : f us g with
  | ok a g1 => rw [e] at h; exact fun θ' H' v l s r => hok a g1 h θ' H' v l s (R.le S l) r
  | exc c fs g1 => rw [e] at h; exact fun θ' H' d gs l s e r => hex c fs g1 h θ' H' d gs l s e r
  | bad => rw [e] at h; exact absurd h hb
/-- the most used form: what is wanted of the run bound to a rest -/
theorem RX.bind {α β γ δ : Type} {κ : Ctx} {Rl : List Addr → Hp → α → β → Prop} {Rm : List Addr → Hp → γ → δ → Prop} {W : WX} {f : Us → Gs → Res α} {k : α → Gs → Res γ} {σ : St} {H : Hp} {θ : List Addr} {us : Us} {g : Gs} {Q : δ → Hp → Prop} {Q1 : β → Hp → Prop} (S : Sim κ θ g H) (R : RelS κ θ H us σ)
    (h : ((f us g).bind k).post κ Rm θ H Q (fun c d H' => W c d σ H'))
    (hk : ∀ a g1 θ1 H1 v, Le θ H θ1 H1 → Sim κ θ1 g1 H1 → RelS κ θ1 H1 us σ → Rl θ1 H1 a v → (k a g1).post κ Rm θ1 H1 Q (fun c d H' => W c d σ H') → Q1 v H1) : RX κ Rl W f σ H Q1 :=
  RX.step S R (P := fun r => (r.bind k).post κ Rm θ H Q (fun c d H' => W c d σ H')) h (fun a g1 p θ1 H1 v l s rs r => hk a g1 θ1 H1 v l s rs r (Res.post_mono l p)) (fun c fs g1 p θ1 H1 d gs l s e r => p θ1 H1 d gs l s e r) (fun p => p)

/-! ### expressions -/
section
variable {X : Cx} {κ : Ctx} {W : WX}
theorem _root_.L2.PE.imp {e : Expr} {t u : TE} (h : PE X e t) (hi : ∀ σ H Q, u σ H Q → t σ H Q) : PE X e u := ⟨fun pins s σ H Q I q => h.run pins s σ H Q I (hi σ H Q q)⟩
theorem _root_.L2.PT.imp {e : Expr} {t u : TT} (h : PT X e t) (hi : ∀ σ H Q, u σ H Q → t σ H Q) : PT X e u := ⟨fun pins s σ H Q I q => h.run pins s σ H Q I (hi σ H Q q)⟩
theorem _root_.L2.PW.imp {e : Expr} {t u : TT} (h : PW X e t) (hi : ∀ σ H Q, u σ H Q → t σ H Q) : PW X e u := ⟨fun whole pins s σ H Q I q => h.run whole pins s σ H Q I (hi σ H Q q)⟩
theorem _root_.L2.PA.imp {e : List Expr} {t u : TA} (h : PA X e t) (hi : ∀ σ H Q, u σ H Q → t σ H Q) : PA X e u := ⟨fun pos pins s σ H Q I q => h.run pos pins s σ H Q I (hi σ H Q q)⟩
theorem _root_.L2.PS.imp {e : Stmt} {t u : TS} (h : PS X e t) (hi : ∀ D σ H, u D σ H → t D σ H) : PS X e u := ⟨fun pins s σ H D I q => h.run pins s σ H D I (hi D σ H q)⟩
theorem _root_.L2.PSs.imp {e : List Stmt} {t u : TS} (h : PSs X e t) (hi : ∀ D σ H, u D σ H → t D σ H) : PSs X e u := ⟨fun pins s σ H D I q => h.run pins s σ H D I (hi D σ H q)⟩
theorem _root_.L2.PE.or {e : Expr} {t u : TE} (h : PE X e t) (h' : PE X e u) : PE X e (fun σ H Q => t σ H Q ∨ u σ H Q) := ⟨fun pins s σ H Q I q => q.elim (h.run pins s σ H Q I) (h'.run pins s σ H Q I)⟩

/-- a name's value -/
def var (i : Nat) : Ev := fun us g => match us[i]? with
  | some (some u) => .ok u g
  | _ => .bad
def con (u : U) : Ev := fun _ g => .ok u g
theorem re_var {i : Nat} {x : Str} {pos : Pos} (h : PE X (.Name x pos) (tVar i)) : PE X (.Name x pos) (RE κ W (var i)) := h.imp fun σ H Q ⟨θ, us, g, S, R, p⟩ => by
  cases e : us[i]? with
  | none => simp only [var, e] at p; exact p.elim
  | some o =>
    cases o with
    | none => simp only [var, e] at p; exact p.elim
    | some u =>
      simp only [var, e] at p
      obtain ⟨v, e1, r⟩ := R.at' i u e
      exact ⟨v, e1, p θ H v (Le.refl _ _) S r⟩
theorem re_con {e : Expr} {u : U} {v : V} (h : PE X e (tC v)) (r : ∀ θ H, RelU κ.K θ H u v) : PE X e (RE κ W (con u)) := h.imp fun σ H Q ⟨θ, us, g, S, R, p⟩ => p θ H v (Le.refl _ _) S (r θ H)
theorem re_int {i : Int} {j pos} : PE X (.Constant (.int i) j pos) (RE κ W (con (.int i))) := re_con pe_int fun _ _ => by unfold RelU; rfl
theorem re_bl {b : Bool} {j pos} : PE X (.Constant (.bool b) j pos) (RE κ W (con (.bl b))) := re_con pe_bl fun _ _ => by unfold RelU; rfl
theorem re_non {j pos} : PE X (.Constant .none j pos) (RE κ W (con .non)) := re_con pe_non fun _ _ => by unfold RelU; rfl
theorem re_str {x : Str} {j pos} : PE X (.Constant (.str x) j pos) (RE κ W (con (.str x))) := re_con pe_str fun _ _ => by unfold RelU; rfl
theorem re_glob {x : Str} {u : U} {v : V} {w : Value} {pos : Pos} (hm : X.mg x = some w) (r : ∀ θ H, RelU κ.K θ H u v) (rv : RelV v w) (hg : Gl X x := by rfl) (hd : (x == ("__debug__" : Str)) = false := by decide) : PE X (.Name x pos) (RE κ W (con u)) := re_con (pe_glob hg hm rv hd) r

/-- two operands -/
abbrev O2 := U → U → Gs → Res U
def op2 (o : O2) (fa fb : Ev) : Ev := fun us g => (fa us g).bind fun x g1 => (fb us g1).bind fun y g2 => o x y g2
/-- an operation on values is what the rule r tells -/
def OpOk (κ : Ctx) (o : O2) (r : R2) : Prop := ∀ (θ : List Addr) (g : Gs) (H : Hp) (x y : U) (v w : V) (Q : VK) (Wx : Value → Option Addr → Hp → Prop), Sim κ θ g H → RelU κ.K θ H x v → RelU κ.K θ H y w → (o x y g).post κ (RlU κ) θ H Q Wx → r v w H Q
theorem t_op2 {o : O2} {r : R2} (ho : OpOk κ o r) {fa fb : Ev} (σ : St) (H : Hp) (Q : VK) (h : RE κ W (op2 o fa fb) σ H Q) : tOp r (RE κ W fa) (RE κ W fb) σ H Q := by
  obtain ⟨θ, us, g, S, R, p⟩ := h
  refine RX.bind S R p fun x g1 θ1 H1 v l1 S1 R1 rx p1 => ?_
  refine RX.bind S1 R1 p1 fun y g2 θ2 H2 w l2 S2 R2 ry p2 => ?_
  exact ho θ2 g2 H2 x y v w Q _ S2 (RelU.le S1 l2 rx) ry p2
theorem re_bin {op : Operator} {o : O2} {r : R2} {a b : Expr} {fa fb : Ev} {pos : Pos} (hr : OpR X (binaryOp op) r) (ho : OpOk κ o r) (ha : PE X a (RE κ W fa)) (hb : PE X b (RE κ W fb)) : PE X (.BinOp a op b pos) (RE κ W (op2 o fa fb)) :=
  (pe_op hr ha hb).imp (t_op2 ho)
theorem re_cmp {op : CmpOp} {o : O2} {r : R2} {a b : Expr} {fa fb : Ev} {pos : Pos} (hr : OpR X (compareOp op) r) (ho : OpOk κ o r) (ha : PE X a (RE κ W fa)) (hb : PE X b (RE κ W fb)) (hm : behindInMarks op b = false := by first | exact nobehind _ (by decide) (by decide) | rfl) :
    PE X (.Compare a [op] [b] pos) (RE κ W (op2 o fa fb)) := (pe_cmpR hr ha hb hm).imp (t_op2 ho)
/-- a value that is a test -/
def tst (f : Ev) : Et := fun us g => (f us g).bind fun u g1 => match u with
  | .bl b => .ok b g1
  | _ => .bad
theorem t_tst {f : Ev} (σ : St) (H : Hp) (Q : Bool → Hp → Prop) (h : RT κ W (tst f) σ H Q) : tB (RE κ W f) σ H Q := by
  obtain ⟨θ, us, g, S, R, p⟩ := h
  refine RX.bind S R p fun x g1 θ1 H1 v l1 S1 R1 rx p1 => ?_
  cases x with
  | bl b =>
    have e : v = .bl b := by unfold RlU RelU at rx; exact rx
    exact ⟨b, e, p1 θ1 H1 b (Le.refl _ _) S1 rfl⟩
  | _ => exact p1.elim
theorem rt_val {e : Expr} {f : Ev} (h : PE X e (RE κ W f)) (he : ∀ whole, isTrue e X.env whole = (do let v ← whole; standAt e.pos; holding [v] (truthy v)) := by intro _; rfl) : PT X e (RT κ W (tst f)) := (pt_val h he).imp t_tst
theorem rt_cmp {op : CmpOp} {o : O2} {r : R2} {a b : Expr} {fa fb : Ev} {pos : Pos} (hr : OpR X (compareOp op) r) (ho : OpOk κ o r) (ha : PE X a (RE κ W fa)) (hb : PE X b (RE κ W fb)) (hm : behindInMarks op b = false := by first | exact nobehind _ (by decide) (by decide) | rfl) :
    PT X (.Compare a [op] [b] pos) (RT κ W (tst (op2 o fa fb))) := (pt_cmpR hr ha hb hm).imp fun σ H Q h => by
  obtain ⟨θ, us, g, S, R, p⟩ := h
  have q := t_tst (κ := κ) (W := W) (f := op2 o fa fb) σ H Q ⟨θ, us, g, S, R, p⟩
  obtain ⟨θ', us', g', S', R', p'⟩ := q
  exact t_op2 ho σ H _ ⟨θ', us', g', S', R', p'⟩
def andT (f h : Et) : Et := fun us g => (f us g).bind fun b g1 => if b = true then h us g1 else .ok false g1
def orT (f h : Et) : Et := fun us g => (f us g).bind fun b g1 => if b = true then .ok true g1 else h us g1
def notT (f : Et) : Et := fun us g => (f us g).bind fun b g1 => .ok (!b) g1
theorem t_and {f h : Et} (σ : St) (H : Hp) (Q : Bool → Hp → Prop) (q : RT κ W (andT f h) σ H Q) : tAnd (RT κ W f) (RT κ W h) σ H Q := by
  obtain ⟨θ, us, g, S, R, p⟩ := q
  refine RX.bind S R p fun x g1 θ1 H1 v l1 S1 R1 rx p1 => ?_
  have e : x = v := rx
  subst e
  cases x with
  | true => exact ⟨θ1, us, g1, S1, R1, p1⟩
  | false => exact p1 θ1 H1 false (Le.refl _ _) S1 rfl
theorem t_or {f h : Et} (σ : St) (H : Hp) (Q : Bool → Hp → Prop) (q : RT κ W (orT f h) σ H Q) : tOr (RT κ W f) (RT κ W h) σ H Q := by
  obtain ⟨θ, us, g, S, R, p⟩ := q
  refine RX.bind S R p fun x g1 θ1 H1 v l1 S1 R1 rx p1 => ?_
  have e : x = v := rx
  subst e
  cases x with
  | true => exact p1 θ1 H1 true (Le.refl _ _) S1 rfl
  | false => exact ⟨θ1, us, g1, S1, R1, p1⟩
theorem t_not {f : Et} (σ : St) (H : Hp) (Q : Bool → Hp → Prop) (q : RT κ W (notT f) σ H Q) : tNot (RT κ W f) σ H Q := by
  obtain ⟨θ, us, g, S, R, p⟩ := q
  refine RX.bind S R p fun x g1 θ1 H1 v l1 S1 R1 rx p1 => ?_
  have e : x = v := rx
  subst e
  exact p1 θ1 H1 _ (Le.refl _ _) S1 rfl
theorem rw_and {a b : Expr} {rest : List Expr} {pos : Pos} {f h : Et} (ha : PT X a (RT κ W f)) (hb : PW X (.BoolOp .And (b :: rest) pos) (RT κ W h)) : PW X (.BoolOp .And (a :: b :: rest) pos) (RT κ W (andT f h)) := (pw_and ha hb).imp t_and
theorem rw_or {a b : Expr} {rest : List Expr} {pos : Pos} {f h : Et} (ha : PT X a (RT κ W f)) (hb : PW X (.BoolOp .Or (b :: rest) pos) (RT κ W h)) : PW X (.BoolOp .Or (a :: b :: rest) pos) (RT κ W (orT f h)) := (pw_or ha hb).imp t_or
theorem rt_not {a : Expr} {pos : Pos} {f : Et} (ha : PT X a (RT κ W f)) : PT X (.UnaryOp .Not a pos) (RT κ W (notT f)) := (pt_not ha).imp t_not
/-- and, or, not as values: all but the last True or False -/
def andV (f h : Ev) : Ev := fun us g => (tst f us g).bind fun b g1 => if b = true then h us g1 else .ok (.bl false) g1
def orV (f h : Ev) : Ev := fun us g => (tst f us g).bind fun b g1 => if b = true then .ok (.bl true) g1 else h us g1
def notV (f : Ev) : Ev := fun us g => (tst f us g).bind fun b g1 => .ok (.bl (!b)) g1
theorem tst_bind {γ : Type} {f : Ev} {us : Us} {g : Gs} {k : Bool → Gs → Res γ} : (tst f us g).bind k = (f us g).bind fun u g1 => match u with
    | .bl b => k b g1
    | _ => .bad := by
  unfold tst
  cases f us g with
  | ok u g1 => cases u <;> rfl
  | exc c fs g1 => rfl
  | bad => rfl
theorem relBl {K : PySem.W.Frag} {θ : List Addr} {H : Hp} {b : Bool} : RelU K θ H (.bl b) (.bl b) := by unfold RelU; rfl
theorem relInt {K : PySem.W.Frag} {θ : List Addr} {H : Hp} {b : Int} : RelU K θ H (.int b) (.int b) := by unfold RelU; rfl
theorem relStr {K : PySem.W.Frag} {θ : List Addr} {H : Hp} {b : Str} : RelU K θ H (.str b) (.str b) := by unfold RelU; rfl
theorem relNon {K : PySem.W.Frag} {θ : List Addr} {H : Hp} : RelU K θ H .non .non := by unfold RelU; rfl
theorem re_and {a b : Expr} {rest : List Expr} {pos : Pos} {f h : Ev} (ha : PE X a (RE κ W f)) (hb : PE X (.BoolOp .And (b :: rest) pos) (RE κ W h)) : PE X (.BoolOp .And (a :: b :: rest) pos) (RE κ W (andV f h)) := (pe_and ha hb).imp fun σ H Q q => by
  obtain ⟨θ, us, g, S, R, p⟩ := q
  have p' : ((f us g).bind fun u g1 => match u with
    | .bl b => if b = true then h us g1 else .ok (.bl false) g1
    | _ => .bad).post κ (RlU κ) θ H Q (fun c d H' => W c d σ H') := by rw [← tst_bind]; exact p
  refine RX.bind S R p' fun x g1 θ1 H1 v l1 S1 R1 rx p1 => ?_
  cases x with
  | bl c =>
    have e : v = .bl c := by unfold RlU RelU at rx; exact rx
    refine ⟨c, e, ?_⟩
    cases c with
    | true => exact ⟨θ1, us, g1, S1, R1, p1⟩
    | false => exact p1 θ1 H1 _ (Le.refl _ _) S1 relBl
  | _ => exact p1.elim
theorem re_or {a b : Expr} {rest : List Expr} {pos : Pos} {f h : Ev} (ha : PE X a (RE κ W f)) (hb : PE X (.BoolOp .Or (b :: rest) pos) (RE κ W h)) : PE X (.BoolOp .Or (a :: b :: rest) pos) (RE κ W (orV f h)) := (pe_or ha hb).imp fun σ H Q q => by
  obtain ⟨θ, us, g, S, R, p⟩ := q
  have p' : ((f us g).bind fun u g1 => match u with
    | .bl b => if b = true then .ok (.bl true) g1 else h us g1
    | _ => .bad).post κ (RlU κ) θ H Q (fun c d H' => W c d σ H') := by rw [← tst_bind]; exact p
  refine RX.bind S R p' fun x g1 θ1 H1 v l1 S1 R1 rx p1 => ?_
  cases x with
  | bl c =>
    have e : v = .bl c := by unfold RlU RelU at rx; exact rx
    refine ⟨c, e, ?_⟩
    cases c with
    | true => exact p1 θ1 H1 _ (Le.refl _ _) S1 relBl
    | false => exact ⟨θ1, us, g1, S1, R1, p1⟩
  | _ => exact p1.elim
theorem re_not {a : Expr} {pos : Pos} {f : Ev} (ha : PE X a (RE κ W f)) : PE X (.UnaryOp .Not a pos) (RE κ W (notV f)) := (pe_not ha).imp fun σ H Q q => by
  obtain ⟨θ, us, g, S, R, p⟩ := q
  have p' : ((f us g).bind fun u g1 => match u with
    | .bl b => .ok (.bl (!b)) g1
    | _ => .bad).post κ (RlU κ) θ H Q (fun c d H' => W c d σ H') := by rw [← tst_bind]; exact p
  refine RX.bind S R p' fun x g1 θ1 H1 v l1 S1 R1 rx p1 => ?_
  cases x with
  | bl c =>
    have e : v = .bl c := by unfold RlU RelU at rx; exact rx
    exact ⟨c, e, p1 θ1 H1 _ (Le.refl _ _) S1 relBl⟩
  | _ => exact p1.elim
/-- e if c else d -/
def ifE (c : Et) (f h : Ev) : Ev := fun us g => (c us g).bind fun b g1 => if b = true then f us g1 else h us g1
theorem re_if {c a b : Expr} {pos : Pos} {tc : Et} {f h : Ev} (hc : PT X c (RT κ W tc)) (ha : PE X a (RE κ W f)) (hb : PE X b (RE κ W h)) : PE X (.IfExp c a b pos) (RE κ W (ifE tc f h)) := (pe_ifExp hc ha hb).imp fun σ H Q q => by
  obtain ⟨θ, us, g, S, R, p⟩ := q
  refine RX.bind S R p fun x g1 θ1 H1 v l1 S1 R1 rx p1 => ?_
  have e : x = v := rx
  subst e
  cases x with
  | true => exact ⟨θ1, us, g1, S1, R1, p1⟩
  | false => exact ⟨θ1, us, g1, S1, R1, p1⟩
/-- arguments -/
def aNil : Ea := fun _ g => .ok [] g
def aCons (f : Ev) (h : Ea) : Ea := fun us g => (f us g).bind fun u g1 => (h us g1).bind fun vs g2 => .ok (u :: vs) g2
theorem ra_nil : PA X [] (RA κ W aNil) := pa_nil.imp fun σ H Q ⟨θ, us, g, S, R, p⟩ => p θ H [] (Le.refl _ _) S RelUs.nil
theorem ra_cons {e : Expr} {es : List Expr} {f : Ev} {h : Ea} (ha : PE X e (RE κ W f)) (hb : PA X es (RA κ W h)) (hs : starEach (e :: es) X.env = (false, eval e X.env) :: starEach es X.env := by rfl) : PA X (e :: es) (RA κ W (aCons f h)) := (pa_cons ha hb hs).imp fun σ H Q q => by
  obtain ⟨θ, us, g, S, R, p⟩ := q
  refine RX.bind S R p fun x g1 θ1 H1 v l1 S1 R1 rx p1 => ?_
  refine RX.bind S1 R1 p1 fun ys g2 θ2 H2 ws l2 S2 R2 ry p2 => ?_
  exact p2 θ2 H2 _ (Le.refl _ _) S2 (RelUs.cons (RelU.le S1 l2 rx) ry)
/-- (a, b, ..): by value -/
def tupE (a : Ea) : Ev := fun us g => (a us g).bind fun xs g1 => if xs.length ≤ 100000 then .ok (.tup xs) g1 else .bad
theorem relTup {K : PySem.W.Frag} {θ : List Addr} {H : Hp} {us : List U} {a : Addr} {vs : List V} (h : SqT K H a vs) (r : RelUs K θ H us vs) : RelU K θ H (.tup us) (.ref a) := by
  unfold RelU
  exact ⟨a, vs, rfl, h, r⟩
theorem re_tup {es : List Expr} {x1} {pos : Pos} {a : Ea} (ha : PA X es (RA κ W a)) : PE X (.Tuple es x1 pos) (RE κ W (tupE a)) := (pe_tup ha).imp fun σ H Q q => by
  obtain ⟨θ, us, g, S, R, p⟩ := q
  refine RX.bind S R p fun xs g1 θ1 H1 vs l1 S1 R1 rx p1 => ?_
  have rx : RelUs κ.K θ1 H1 xs vs := rx
  have hl := rx.length
  by_cases hx : xs.length ≤ 100000
  · rw [if_pos hx] at p1
    refine ⟨Nat.le_trans (by rw [← hl]; exact hx) (by decide), fun q hq => ?_⟩
    obtain ⟨l2, S2⟩ := S1.other (o := .tup vs) hq
    exact p1 θ1 _ _ l2 S2 (relTup (.of upd_same) (rx.le S1 l2))
  · rw [if_neg hx] at p1; exact p1.elim
/-- [a, b, ..]: a new cell -/
def newL (xs : List U) (g : Gs) : Res U := if xs.length ≤ 100000 then .ok (.ref g.length) (g ++ [.lst xs]) else .bad
def lstE (a : Ea) : Ev := fun us g => (a us g).bind newL
theorem relRef {K : PySem.W.Frag} {θ : List Addr} {H : Hp} {n : Nat} {a : Addr} (h : θ[n]? = some a) : RelU K θ H (.ref n) (.ref a) := by
  unfold RelU
  exact ⟨a, rfl, h⟩
theorem Sim.newRef {θ : List Addr} {g : Gs} {H : Hp} (S : Sim κ θ g H) {p : Addr} : RelU κ.K (θ ++ [p]) H (.ref g.length) (.ref p) := relRef (by rw [← S.len, List.getElem?_append_right (Nat.le_refl _)]; simp)
theorem post_newL {θ : List Addr} {g : Gs} {H : Hp} {xs : List U} {vs : List V} {Q : VK} {Wx : Value → Option Addr → Hp → Prop} (S : Sim κ θ g H) (r : RelUs κ.K θ H xs vs) (h : (newL xs g).post κ (RlU κ) θ H Q Wx) : vs.length ≤ sizeLine ∧ ∀ p, H p = none → Q (.ref p) (upd H p (.lst vs)) := by
  unfold newL at h
  have hl := r.length
  by_cases hx : xs.length ≤ 100000
  · rw [if_pos hx] at h
    refine ⟨Nat.le_trans (by rw [← hl]; exact hx) (by decide), fun p hp => ?_⟩
    obtain ⟨l0, S0⟩ := S.other (o := .lst vs) hp
    obtain ⟨l2, S2⟩ := S.new (c := .lst xs) hp ⟨vs, upd_same, r.le S l0⟩
    refine h _ _ _ l2 S2 ?_
    have q := S.newRef (p := p)
    unfold RlU
    unfold RelU at q ⊢
    exact q
  · rw [if_neg hx] at h; exact h.elim
theorem re_lst {es : List Expr} {pos : Pos} {a : Ea} (ha : PA X es (RA κ W a)) : PE X (.List es pos) (RE κ W (lstE a)) := (pe_lst ha).imp fun σ H Q q => by
  obtain ⟨θ, us, g, S, R, p⟩ := q
  refine RX.bind S R p fun xs g1 θ1 H1 vs l1 S1 R1 rx p1 => ?_
  exact post_newL S1 rx p1
end
end R
set_option Elab.async false
set_option linter.all false
set_option maxRecDepth 100000
set_option maxHeartbeats 4000000
namespace R
open PySem PySem.Spec L2
open PyProof.Rows hiding St
/-! ### statements -/
def SR.seq : SR → Sx → SR
  | .nx us g, k => k us g
  | .rt u g, _ => .rt u g
  | .bk us g, _ => .bk us g
  | .ct us g, _ => .ct us g
  | .exc c fs us g, _ => .exc c fs us g
  | .bad, _ => .bad
@[simp] theorem SR.seq_nx (us : Us) (g : Gs) (k : Sx) : (SR.nx us g).seq k = k us g := rfl
@[simp] theorem SR.seq_rt (u : U) (g : Gs) (k : Sx) : (SR.rt u g).seq k = .rt u g := rfl
@[simp] theorem SR.seq_bk (us : Us) (g : Gs) (k : Sx) : (SR.bk us g).seq k = .bk us g := rfl
@[simp] theorem SR.seq_ct (us : Us) (g : Gs) (k : Sx) : (SR.ct us g).seq k = .ct us g := rfl
@[simp] theorem SR.seq_exc (c : Nat) (fs : List (Str × U)) (us : Us) (g : Gs) (k : Sx) : (SR.exc c fs us g).seq k = .exc c fs us g := rfl
@[simp] theorem SR.seq_bad (k : Sx) : SR.bad.seq k = .bad := rfl
section
variable {X : Cx} {κ : Ctx} {W : WX}
/-- a run of an expression ahead of what follows in a statement -/
theorem RX.thn {α β : Type} {Rl : List Addr → Hp → α → β → Prop} {f : Us → Gs → Res α} {k : α → Gs → SR} {σ : L2.St} {H : Hp} {θ : List Addr} {us : Us} {g : Gs} {D : Ends} {Q1 : β → Hp → Prop} (S : Sim κ θ g H) (R : RelS κ θ H us σ)
    (h : ((f us g).thn us k).post κ θ H D W)
    (hk : ∀ a g1 θ1 H1 v, Le θ H θ1 H1 → Sim κ θ1 g1 H1 → RelS κ θ1 H1 us σ → Rl θ1 H1 a v → (k a g1).post κ θ1 H1 D W → Q1 v H1) : RX κ Rl W f σ H Q1 :=
  RX.step S R (P := fun r => (r.thn us k).post κ θ H D W) h (fun a g1 p θ1 H1 v l s rs r => hk a g1 θ1 H1 v l s rs r (SR.post_mono l p)) (fun c fs g1 p θ1 H1 d gs l s e r => p θ1 H1 σ d gs l s (R.le S l) e r) (fun p => p)

/-- a run, then a rest: what the first is wanted for -/
theorem SR.cut {κ : Ctx} {θ : List Addr} {H : Hp} {D : Ends} {r : SR} {k : Sx} (h : (r.seq k).post κ θ H D W) : r.post κ θ H { D with nx := RS κ W k D } W := by
  cases r with
  | nx us g => exact fun θ' H' σ' l s rs => ⟨θ', us, g, s, rs, SR.post_mono l h⟩
  | rt u g => exact h
  | bk us g => exact h
  | ct us g => exact h
  | exc c fs us g => exact h
  | bad => exact h
def seq (f k : Sx) : Sx := fun us g => (f us g).seq k
def skip : Sx := fun us g => .nx us g
theorem rs_nil : PSs X [] (RS κ W skip) := pss_nil.imp fun D σ H ⟨θ, us, g, S, R, p⟩ => p θ H σ (Le.refl _ _) S R
theorem rs_cons {st : Stmt} {rest : List Stmt} {f k : Sx} (h1 : PS X st (RS κ W f)) (h2 : PSs X rest (RS κ W k)) : PSs X (st :: rest) (RS κ W (seq f k)) := (pss_cons h1 h2).imp fun D σ H ⟨θ, us, g, S, R, p⟩ => ⟨θ, us, g, S, R, SR.cut p⟩
theorem rs_one {st : Stmt} {f : Sx} (h1 : PS X st (RS κ W f)) : PSs X [st] (RS κ W f) := pss_one h1
def brk : Sx := fun us g => .bk us g
def cnt : Sx := fun us g => .ct us g
theorem rs_break {pos : Pos} : PS X (.Break pos) (RS κ W brk) := ps_break.imp fun D σ H ⟨θ, us, g, S, R, p⟩ => p θ H σ (Le.refl _ _) S R
theorem rs_continue {pos : Pos} : PS X (.Continue pos) (RS κ W cnt) := ps_continue.imp fun D σ H ⟨θ, us, g, S, R, p⟩ => p θ H σ (Le.refl _ _) S R
theorem rs_pass {pos : Pos} : PS X (.Pass pos) (RS κ W skip) := ps_pass.imp fun D σ H ⟨θ, us, g, S, R, p⟩ => p θ H σ (Le.refl _ _) S R
def retE (f : Ev) : Sx := fun us g => (f us g).thn us fun u g1 => .rt u g1
theorem rs_ret {e : Expr} {pos : Pos} {f : Ev} (h : PE X e (RE κ W f)) : PS X (.Return (some e) pos) (RS κ W (retE f)) := (ps_ret h).imp fun D σ H ⟨θ, us, g, S, R, p⟩ =>
  RX.thn S R p fun u g1 θ1 H1 v l1 S1 R1 r p1 => p1 θ1 H1 v (Le.refl _ _) S1 r
def retN : Sx := fun us g => .rt .non g
theorem rs_retN {pos : Pos} : PS X (.Return none pos) (RS κ W retN) := ps_retN.imp fun D σ H ⟨θ, us, g, S, R, p⟩ => p θ H .non (Le.refl _ _) S relNon
def dropE (f : Ev) : Sx := fun us g => (f us g).thn us fun _ g1 => .nx us g1
theorem rs_expr {e : Expr} {pos : Pos} {f : Ev} (h : PE X e (RE κ W f)) (hs : swapsWith e none pos.line X.env = pure false := by rfl) : PS X (.Expr e pos) (RS κ W (dropE f)) := (ps_expr h hs).imp fun D σ H ⟨θ, us, g, S, R, p⟩ =>
  RX.thn S R p fun u g1 θ1 H1 v l1 S1 R1 r p1 => p1 θ1 H1 σ (Le.refl _ _) S1 R1
def ifS (c : Et) (f k : Sx) : Sx := fun us g => (c us g).thn us fun b g1 => if b = true then f us g1 else k us g1
theorem rs_if {c : Expr} {a b : List Stmt} {pos : Pos} {tc : Et} {f k : Sx} (hc : PT X c (RT κ W tc)) (ha : PSs X a (RS κ W f)) (hb : PSs X b (RS κ W k)) : PS X (.If c a b pos) (RS κ W (ifS tc f k)) := (ps_if hc ha hb).imp fun D σ H ⟨θ, us, g, S, R, p⟩ =>
  RX.thn S R p fun u g1 θ1 H1 v l1 S1 R1 r p1 => by
    have e : u = v := r
    subst e
    cases u with
    | true => exact ⟨θ1, us, g1, S1, R1, p1⟩
    | false => exact ⟨θ1, us, g1, S1, R1, p1⟩
/-- targets: what a value does to the slots and the cells -/
abbrev Tg := U → Us → Gs → Option (Us × Gs)
/-- a target's rule -/
def TgOk (κ : Ctx) (t : Tg) (g : TG) : Prop := ∀ (θ : List Addr) (gs gs' : Gs) (H : Hp) (u : U) (v : V) (us us' : Us) (σ : L2.St) (Q : L2.St → Hp → Prop), Sim κ θ gs H → RelS κ θ H us σ → RelU κ.K θ H u v → t u us gs = some (us', gs') →
  (∀ θ' H' σ', Le θ H θ' H' → Sim κ θ' gs' H' → RelS κ θ' H' us' σ' → Q σ' H') → g v σ H Q
def nameT (i : Nat) : Tg := fun u us g => some (us.set i (some u), g)
theorem tg_name {i : Nat} (hx : ∀ x, κ.ex = some x → x.i ≠ i) : TgOk κ (nameT i) (gName i) := fun θ gs gs' H u v us us' σ Q S R r e k => by
  unfold nameT at e
  cases e
  exact k θ H _ (Le.refl _ _) S (R.set r hx)
def asg (f : Ev) (t : Tg) : Sx := fun us g => (f us g).thn us fun u g1 => match t u us g1 with
  | some (us', g') => .nx us' g'
  | none => .bad
theorem t_asg {f : Ev} {t : Tg} {tg : TG} (ht : TgOk κ t tg) (D : Ends) (σ : L2.St) (H : Hp) (h : RS κ W (asg f t) D σ H) : tAsg (RE κ W f) tg D σ H := by
  obtain ⟨θ, us, g, S, R, p⟩ := h
  refine RX.thn S R p fun u g1 θ1 H1 v l1 S1 R1 r p1 => ?_
  cases e : t u us g1 with
  | none => rw [e] at p1; exact p1.elim
  | some q =>
    rw [e] at p1
    exact ht θ1 g1 q.2 H1 u v us q.1 σ D.nx S1 R1 r e fun θ' H' σ' l s rs => p1 θ' H' σ' l s rs
theorem rs_set {i : Nat} {x : Str} {e : Expr} {pos pos' : Pos} {f : Ev} (hN : X.N.Nodup) (hi : X.N[i]? = some x) (hx : Loc X.env.scope x) (he : PE X e (RE κ W f)) (hs : swapsWith e (some (.Name x pos')) pos.line X.env = pure false := by rfl)
    (hf : X.fn x = true ∨ X.env.scope.names.lookup x = some .local := by first | exact .inl rfl | exact .inr rfl | assumption) (hk : ∀ y, κ.ex = some y → y.i ≠ i := by intro _ q; exact nomatch q) : PS X (.Assign [.Name x pos'] e pos) (RS κ W (asg f (nameT i))) :=
  (ps_set hN hi hx he hs hf).imp (t_asg (tg_name hk))
theorem rs_asg {tg e : Expr} {pos : Pos} {f : Ev} {t : Tg} {g : TG} (he : PE X e (RE κ W f)) (hg : PG X tg g) (ht : TgOk κ t g) (hs : swapsWithSole [tg] e pos.line X.env = pure false := by rfl) (hw : swappedStores [tg] e X.env = pure none := by rfl)
    (h1 : (assignEach [tg] X.env).map (·.2) = [assign tg X.env] := by rfl) : PS X (.Assign [tg] e pos) (RS κ W (asg f t)) :=
  (ps_asg he hg hs hw h1).imp (t_asg ht)
/-- a tuple of targets -/
abbrev Tgs := List U → Us → Gs → Option (Us × Gs)
def TgsOk (κ : Ctx) (t : Tgs) (g : TGs) : Prop := ∀ (θ : List Addr) (gs gs' : Gs) (H : Hp) (u : List U) (v : List V) (us us' : Us) (σ : L2.St) (Q : L2.St → Hp → Prop), Sim κ θ gs H → RelS κ θ H us σ → RelUs κ.K θ H u v → t u us gs = some (us', gs') →
  (∀ θ' H' σ', Le θ H θ' H' → Sim κ θ' gs' H' → RelS κ θ' H' us' σ' → Q σ' H') → g v σ H Q
def nilT : Tgs := fun u us g => match u with
  | [] => some (us, g)
  | _ => none
def consT (t : Tg) (ts : Tgs) : Tgs := fun u us g => match u with
  | u :: r => match t u us g with
    | some (us1, g1) => ts r us1 g1
    | none => none
  | _ => none
theorem tgs_nil : TgsOk κ nilT gNil := fun θ gs gs' H u v us us' σ Q S R r e k => by
  cases u with
  | nil =>
    unfold RelUs at r
    unfold nilT at e
    cases e
    exact ⟨r, k θ H σ (Le.refl _ _) S R⟩
  | cons a b => simp [nilT] at e
theorem tgs_cons {t : Tg} {ts : Tgs} {g : TG} {gr : TGs} (h1 : TgOk κ t g) (h2 : TgsOk κ ts gr) : TgsOk κ (consT t ts) (gCons g gr) := fun θ gs gs' H u v us us' σ Q S R r e k => by
  cases u with
  | nil => simp [consT] at e
  | cons a b =>
    unfold RelUs at r
    obtain ⟨w, ws, rfl, ra, rb⟩ := r
    simp only [consT] at e
    cases q : t a us gs with
    | none => rw [q] at e; cases e
    | some p =>
      rw [q] at e
      exact ⟨w, ws, rfl, h1 θ gs p.2 H a w us p.1 σ _ S R ra q fun θ1 H1 σ1 l1 S1 R1 =>
        h2 θ1 p.2 gs' H1 b ws p.1 us' σ1 Q S1 R1 (rb.le S l1) e fun θ2 H2 σ2 l2 S2 R2 => k θ2 H2 σ2 (l1.trans l2) S2 R2⟩
def tupT (n : Nat) (ts : Tgs) : Tg := fun u us g => match u with
  | .tup xs => if xs.length = n then ts xs us g else none
  | _ => none
theorem tg_tup {n : Nat} {ts : Tgs} {gr : TGs} (h : TgsOk κ ts gr) : TgOk κ (tupT n ts) (gTup κ.K n gr) := fun θ gs gs' H u v us us' σ Q S R r e k => by
  cases u with
  | tup xs =>
    simp only [tupT] at e
    split at e
    · rename_i hn
      unfold RelU at r
      obtain ⟨a, vs, rfl, ht, rv⟩ := r
      exact ⟨a, vs, rfl, ht, by rw [← rv.length]; exact hn, h θ gs gs' H xs vs us us' σ Q S R rv e k⟩
    · cases e
  | _ => simp [tupT] at e

/-! ### loops -/
/-- turn by turn over items that are known; ck: the list that is walked stands as it stood -/
def each (ck : Gs → Bool) : List U → (U → Sx) → Sx
  | [], _ => fun us g => if ck g = true then .nx us g else .bad
  | x :: xs, step => fun us g => if ck g = true then (match step x us g with
    | .nx us1 g1 => each ck xs step us1 g1
    | .ct us1 g1 => each ck xs step us1 g1
    | .bk us1 g1 => .nx us1 g1
    | .rt u g1 => .rt u g1
    | .exc c fs us1 g1 => .exc c fs us1 g1
    | .bad => .bad) else .bad
/-- a turn: the target takes the item, the body runs -/
def turn (t : Tg) (body : Sx) : U → Sx := fun x us g => match t x us g with
  | some (us', g') => body us' g'
  | none => .bad
abbrev Ei := Us → Gs → Res (List U × (Gs → Bool))
def forE (it : Ei) (t : Tg) (body : Sx) : Sx := fun us g => (it us g).thn us fun p g1 => each p.2 p.1 (turn t body) us g1
/-- what the iterator yields, as long as ck -/
def ItG (κ : Ctx) (p : List U × (Gs → Bool)) (J : It) (θ1 : List Addr) (H1 : Hp) : Prop :=
  ∀ (i : Nat) (θ2 : List Addr) (g2 : Gs) (H2 : Hp), Le θ1 H1 θ2 H2 → Sim κ θ2 g2 H2 → p.2 g2 = true →
    (i < p.1.length → J.go i H2 ∧ ∀ x H3, J.yld i H2 x H3 → ∃ u, p.1[i]? = some u ∧ Le θ2 H2 θ2 H3 ∧ Sim κ θ2 g2 H3 ∧ RelU κ.K θ2 H3 u x) ∧ (i = p.1.length → J.stop i H2)
/-- a walked thing's reading out of a run -/
def RI (κ : Ctx) (W : WX) (it : Ei) : TI := fun σ H R => ∃ θ us g, Sim κ θ g H ∧ RelS κ θ H us σ ∧ match it us g with
  | .ok p g1 => ∀ θ1 H1 J, Le θ H θ1 H1 → Sim κ θ1 g1 H1 → ItG κ p J θ1 H1 → R J H1
  | .exc c fs g1 => ∀ θ' H' d gs, Le θ H θ' H' → Sim κ θ' g1 H' → H' d = some (.xd gs) → RelF κ.K θ' H' fs gs → W (.ref (κ.C c)) (some d) σ H'
  | .bad => False
theorem ps_imp_for {iter : Expr} {body : List Stmt} {g : TG} {tb : TS} {it : Ei} {t : Tg} {f : Sx} {D : Ends} {σ : L2.St} {H : Hp} (ht : TgOk κ t g) (htb : ∀ D σ H, RS κ W f D σ H → tb D σ H)
    (h : RS κ W (forE it t f) D σ H) : tFor (RI κ W it) g tb D σ H := by
  obtain ⟨θ, us, g0, S, R, p⟩ := h
  refine ⟨θ, us, g0, S, R, ?_⟩
  unfold forE at p
  cases e : it us g0 with
  | bad => rw [e] at p; exact p
  | exc c fs g1 => rw [e] at p; exact fun θ' H' d gs l s q r => p θ' H' σ d gs l s (R.le S l) q r
  | ok pp g1 =>
    rw [e] at p
    obtain ⟨xs, ck⟩ := pp
    intro θ1 H1 J l1 S1 hit
    have p1 : (each ck xs (turn t f) us g1).post κ θ1 H1 D W := SR.post_mono l1 p
    refine ⟨fun i m σ H => m = xs.length - i ∧ i ≤ xs.length ∧ ∃ θ2 us2 g2, Le θ1 H1 θ2 H ∧ Sim κ θ2 g2 H ∧ RelS κ θ2 H us2 σ ∧ (each ck (xs.drop i) (turn t f) us2 g2).post κ θ2 H D W,
      ⟨xs.length, by simp, Nat.zero_le _, θ1, us, g1, Le.refl _ _, S1, R.le S l1, by simpa using p1⟩, ?_⟩
    rintro i m σ2 H2 ⟨rfl, hi, θ2, us2, g2, l2, S2, R2, p2⟩
    by_cases hlt : i < xs.length
    · have hd : xs.drop i = xs[i] :: xs.drop (i + 1) := List.drop_eq_getElem_cons hlt
      rw [hd] at p2
      unfold each at p2
      by_cases hck : ck g2 = true
      · rw [if_pos hck] at p2
        obtain ⟨hgo, hy⟩ := (hit i θ2 g2 H2 l2 S2 hck).1 hlt
        refine .inr ⟨hgo, fun σ' H' => ∃ θ2 us2 g2, Le θ1 H1 θ2 H' ∧ Sim κ θ2 g2 H' ∧ RelS κ θ2 H' us2 σ' ∧ (each ck (xs.drop (i + 1)) (turn t f) us2 g2).post κ θ2 H' D W, fun σ' H' q => ⟨xs.length - (i + 1), by omega, rfl, hlt, q⟩, fun x H3 hyl => ?_⟩
        obtain ⟨u, hu, l3, S3, ru⟩ := hy x H3 hyl
        have eu : xs[i] = u := by
          have q : xs[i]? = some xs[i] := List.getElem?_eq_getElem hlt
          have hu' : xs[i]? = some u := hu
          rw [q] at hu'
          exact Option.some.inj hu'
        rw [eu] at p2
        unfold turn at p2
        cases et : t u us2 g2 with
        | none => rw [et] at p2; exact p2.elim
        | some q =>
          obtain ⟨us3, g3⟩ := q
          rw [et] at p2
          refine ht θ2 g2 g3 H3 u x us2 us3 σ2 _ S3 (R2.le S2 l3) ru et fun θ4 H4 σ4 l4 S4 R4 => htb _ _ _ ⟨θ4, us3, g3, S4, R4, ?_⟩
          have l34 : Le θ2 H2 θ4 H4 := l3.trans l4
          dsimp only at p2
          cases ef : f us3 g3 with
          | nx us5 g5 =>
            rw [ef] at p2
            exact fun θ5 H5 σ5 l5 S5 R5 => ⟨θ5, us5, g5, (l2.trans l34).trans l5, S5, R5, SR.post_mono (l34.trans l5) p2⟩
          | ct us5 g5 =>
            rw [ef] at p2
            exact fun θ5 H5 σ5 l5 S5 R5 => ⟨θ5, us5, g5, (l2.trans l34).trans l5, S5, R5, SR.post_mono (l34.trans l5) p2⟩
          | bk us5 g5 =>
            rw [ef] at p2
            exact fun θ5 H5 σ5 l5 S5 R5 => p2 θ5 H5 σ5 (l34.trans l5) S5 R5
          | rt u5 g5 =>
            rw [ef] at p2
            exact fun θ5 H5 v5 l5 S5 R5 => p2 θ5 H5 v5 (l34.trans l5) S5 R5
          | exc c fs us5 g5 =>
            rw [ef] at p2
            exact fun θ5 H5 σ5 d gs l5 => p2 θ5 H5 σ5 d gs (l34.trans l5)
          | bad =>
            rw [ef] at p2
            exact p2
      · rw [if_neg hck] at p2; exact p2.elim
    · have ei : i = xs.length := by omega
      subst ei
      rw [List.drop_length] at p2
      unfold each at p2
      by_cases hck : ck g2 = true
      · rw [if_pos hck] at p2
        exact .inl ⟨(hit _ θ2 g2 H2 l2 S2 hck).2 rfl, p2 θ2 H2 σ2 (Le.refl _ _) S2 R2⟩
      · rw [if_neg hck] at p2; exact p2.elim
theorem _root_.L2.PI.imp {tg iter : Expr} {wi wj : TI} (h : PI X tg iter wi) (hi : ∀ σ H R, wj σ H R → wi σ H R) : PI X tg iter wj := ⟨fun pins s σ H R I q => h.run pins s σ H R I (hi σ H R q)⟩
theorem rs_for {iter tg : Expr} {body : List Stmt} {g : TG} {it : Ei} {t : Tg} {f : Sx} {pos : Pos} (hp : PassesOwn (model X.prog X.w) X.A X.env X.xe) (hc : X.calm = true) (hi : PI X tg iter (RI κ W it)) (hg : PG X tg g) (ht : TgOk κ t g) (hb : PSs X body (RS κ W f))
    (hs : ∀ x, foldedSetIterable iter X.env x = pure x := by intro _; rfl) : PS X (.For tg iter body [] pos) (RS κ W (forE it t f)) :=
  (ps_for hp hc hi hg hb hs).imp fun D σ H h => ps_imp_for (iter := iter) (body := body) ht (fun _ _ _ q => q) h

/-! ### what is walked -/
/-- the items of a list cell -/
def lstAt (g : Gs) (n : Nat) : Option (List U) := match g[n]? with
  | some (.lst us) => some us
  | _ => none
def ckL (n : Nat) (us : List U) : Gs → Bool := fun g => match lstAt g n with
  | some ws => U.beqs ws us
  | none => false
/-- a list's or a tuple's items -/
def itV (u : U) (g : Gs) : Res (List U × (Gs → Bool)) := match u with
  | .tup us => .ok (us, fun _ => true) g
  | .lit us => .ok (us, fun _ => true) g
  | .wtu us => .ok (us, fun _ => true) g
  | .ref n => match lstAt g n with
    | some us => .ok (us, ckL n us) g
    | none => .bad
  | _ => .bad
def itE (f : Ev) : Ei := fun us g => (f us g).bind itV
theorem Sim.lst {θ : List Addr} {g : Gs} {H : Hp} {n : Nat} {a : Addr} {us : List U} (S : Sim κ θ g H) (ha : θ[n]? = some a) (h : lstAt g n = some us) : ∃ vs, H a = some (.lst vs) ∧ RelUs κ.K θ H us vs := by
  unfold lstAt at h
  split at h
  · rename_i ws e
    cases h
    exact S.ok n _ a e ha
  · cases h
/-- the rule for a tuple and that for a list, by the value -/
theorem t_it {f : Ev} {σ : L2.St} {H : Hp} {R : It → Hp → Prop} (h : RI κ W (itE f) σ H R) : iList κ.K (RE κ W f) σ H R ∨ iTup κ.K (RE κ W f) σ H R := by
  obtain ⟨θ, us, g, S, RR, p⟩ := h
  unfold itE at p
  cases e : f us g with
  | bad => rw [e] at p; exact p.elim
  | exc c fs g1 =>
    rw [e] at p
    exact .inl ⟨θ, us, g, S, RR, by rw [e]; exact p⟩
  | ok u g1 =>
    rw [e] at p
    dsimp only [Res.bind] at p
    cases u with
    | tup xs =>
      dsimp only [itV] at p
      refine .inr ⟨θ, us, g, S, RR, ?_⟩
      rw [e]
      intro θ1 H1 v l1 S1 r
      unfold RlU RelU at r
      obtain ⟨a, vs, rfl, ht, rv⟩ := r
      refine ⟨a, rfl, ⟨vs, ht⟩, p θ1 H1 (Itt κ.K a) l1 S1 fun i θ2 g2 H2 l2 S2 _ => ?_⟩
      have ht2 : SqT κ.K H2 a vs := (l2.keep S1).t ht
      have rv2 : RelUs κ.K θ2 H2 xs vs := rv.le S1 l2
      have hl := rv2.length
      refine ⟨fun hi => ⟨?_, ?_⟩, fun hi => ?_⟩
      · exact ⟨vs, vs[i]'(by rw [← hl]; exact hi), ht2, List.getElem?_eq_getElem _⟩
      · intro x H3 hy
        obtain ⟨e3, hy⟩ := hy
        subst e3
        have hx := hy vs ht2
        obtain ⟨u, hu, ru⟩ := rv2.getV hx
        exact ⟨u, hu, Le.refl _ _, S2, ru⟩
      · exact ⟨vs, ht2, by rw [hi, ← hl]; exact Nat.le_refl _⟩
    | wtu xs =>
      dsimp only [itV] at p
      refine .inr ⟨θ, us, g, S, RR, ?_⟩
      rw [e]
      intro θ1 H1 v l1 S1 r
      unfold RlU RelU at r
      obtain ⟨a, vs, rfl, hk, rv⟩ := r
      have ht : SqT κ.K H1 a vs := hk.seq
      refine ⟨a, rfl, ⟨vs, ht⟩, p θ1 H1 (Itt κ.K a) l1 S1 fun i θ2 g2 H2 l2 S2 _ => ?_⟩
      have ht2 : SqT κ.K H2 a vs := (l2.keep S1).t ht
      have rv2 : RelUs κ.K θ2 H2 xs vs := rv.le S1 l2
      have hl := rv2.length
      refine ⟨fun hi => ⟨?_, ?_⟩, fun hi => ?_⟩
      · exact ⟨vs, vs[i]'(by rw [← hl]; exact hi), ht2, List.getElem?_eq_getElem _⟩
      · intro x H3 hy
        obtain ⟨e3, hy⟩ := hy
        subst e3
        have hx := hy vs ht2
        obtain ⟨u, hu, ru⟩ := rv2.getV hx
        exact ⟨u, hu, Le.refl _ _, S2, ru⟩
      · exact ⟨vs, ht2, by rw [hi, ← hl]; exact Nat.le_refl _⟩
    | lit xs =>
      dsimp only [itV] at p
      refine .inl ⟨θ, us, g, S, RR, ?_⟩
      rw [e]
      intro θ1 H1 v l1 S1 r
      unfold RlU RelU at r
      obtain ⟨a, vs, rfl, ht, rv⟩ := r
      refine ⟨a, rfl, ⟨vs, ht.seq⟩, p θ1 H1 (Itl κ.K a) l1 S1 fun i θ2 g2 H2 l2 S2 _ => ?_⟩
      have ht2 : SqL κ.K H2 a vs := ((l2.keep S1).l ht).seq
      have rv2 : RelUs κ.K θ2 H2 xs vs := rv.le S1 l2
      have hl := rv2.length
      refine ⟨fun hi => ⟨?_, ?_⟩, fun hi => ?_⟩
      · exact ⟨vs, vs[i]'(by rw [← hl]; exact hi), ht2, List.getElem?_eq_getElem _⟩
      · intro x H3 hy
        obtain ⟨e3, hy⟩ := hy
        subst e3
        have hx := hy vs ht2
        obtain ⟨u, hu, ru⟩ := rv2.getV hx
        exact ⟨u, hu, Le.refl _ _, S2, ru⟩
      · exact ⟨vs, ht2, by rw [hi, ← hl]; exact Nat.le_refl _⟩
    | ref n =>
      dsimp only [itV] at p
      cases en : lstAt g1 n with
      | none => rw [en] at p; exact p.elim
      | some xs =>
        rw [en] at p
        refine .inl ⟨θ, us, g, S, RR, ?_⟩
        rw [e]
        intro θ1 H1 v l1 S1 r
        unfold RlU RelU at r
        obtain ⟨a, rfl, ha⟩ := r
        obtain ⟨vs, hv, rv⟩ := S1.lst ha en
        refine ⟨a, rfl, ⟨vs, .of hv⟩, p θ1 H1 (Itl κ.K a) l1 S1 fun i θ2 g2 H2 l2 S2 hck => ?_⟩
        have en2 : lstAt g2 n = some xs := by
          dsimp only [ckL] at hck
          split at hck
          · rename_i ws ew
            rw [ew, U.eqs_of hck]
          · cases hck
        obtain ⟨vs2, hv2, rv2⟩ := S2.lst (l2.get ha) en2
        have hl := rv2.length
        refine ⟨fun hi => ⟨?_, ?_⟩, fun hi => ?_⟩
        · exact ⟨vs2, vs2[i]'(by rw [← hl]; exact hi), .of hv2, List.getElem?_eq_getElem _⟩
        · intro x H3 hy
          obtain ⟨e3, hy⟩ := hy
          subst e3
          have hx := hy vs2 (.of hv2)
          obtain ⟨u, hu, ru⟩ := rv2.getV hx
          exact ⟨u, hu, Le.refl _ _, S2, ru⟩
        · exact ⟨vs2, .of hv2, by rw [hi, ← hl]; exact Nat.le_refl _⟩
    | _ => exact p.elim
theorem _root_.L2.PI.or {tg iter : Expr} {wi wj : TI} (h : PI X tg iter wi) (h' : PI X tg iter wj) : PI X tg iter (fun σ H R => wi σ H R ∨ wj σ H R) := ⟨fun pins s σ H R I q => q.elim (h.run pins s σ H R I) (h'.run pins s σ H R I)⟩
theorem ri_seq {tg e : Expr} {f : Ev} (hK : κ.K = X.K) (h : PE X e (RE κ W f)) : PI X tg e (RI κ W (itE f)) := by
  have q := (pi_list (tg := tg) h).or (pi_tup (tg := tg) h)
  rw [← hK] at q
  exact q.imp fun σ H R => t_it
def intsU (lo : Int) : Nat → List U
  | 0 => []
  | n + 1 => .int lo :: intsU (lo + 1) n
theorem intsU_get : ∀ {n i : Nat} {lo : Int}, i < n → (intsU lo n)[i]? = some (.int (lo + i))
  | 0, i, lo, h => absurd h (Nat.not_lt_zero _)
  | n + 1, 0, lo, h => by simp [intsU]
  | n + 1, i + 1, lo, h => by
    have q := intsU_get (n := n) (i := i) (lo := lo + 1) (by omega)
    simp only [intsU, List.getElem?_cons_succ, q]
    congr 2
    push_cast
    omega
@[simp] theorem intsU_length : ∀ (n : Nat) (lo : Int), (intsU lo n).length = n
  | 0, _ => rfl
  | n + 1, lo => by simp [intsU, intsU_length n]
theorem itr_ok {lo : Int} {n : Nat} {θ1 : List Addr} {H1 : Hp} : ItG κ (intsU lo n, fun _ => true) (Itr lo n) θ1 H1 := fun i θ2 g2 H2 l2 S2 _ => by
  refine ⟨fun hi => ⟨?_, ?_⟩, fun hi => ?_⟩
  · have hi' : i < (intsU lo n).length := hi
    rw [intsU_length] at hi'
    exact hi'
  · intro x H3 hy
    obtain ⟨e3, hy⟩ := hy
    subst e3 hy
    have hi' : i < (intsU lo n).length := hi
    rw [intsU_length] at hi'
    exact ⟨_, intsU_get hi', Le.refl _ _, S2, relInt⟩
  · have hi' : i = (intsU lo n).length := hi
    rw [intsU_length] at hi'
    show n ≤ i
    omega
theorem RI.bind {a : Ea} {k : List U → Gs → Res (List U × (Gs → Bool))} {σ : L2.St} {H : Hp} {R : It → Hp → Prop} {Q : List V → Hp → Prop} (h : RI κ W (fun us g => (a us g).bind k) σ H R)
    (hk : ∀ θ H0 us g xs g1 θ1 H1 vs, Sim κ θ g H0 → RelS κ θ H0 us σ → Le θ H0 θ1 H1 → Sim κ θ1 g1 H1 → RelUs κ.K θ1 H1 xs vs → (match k xs g1 with
      | .ok p g1 => ∀ θ1' H1' J, Le θ1 H1 θ1' H1' → Sim κ θ1' g1 H1' → ItG κ p J θ1' H1' → R J H1'
      | .exc c fs g1 => False
      | .bad => False) → Q vs H1) (hne : ∀ xs g c fs g1, k xs g ≠ .exc c fs g1) : RA κ W a σ H Q := by
  obtain ⟨θ, us, g, S, RR, p⟩ := h
  refine ⟨θ, us, g, S, RR, ?_⟩
  dsimp only at p
  cases e : a us g with
  | bad => rw [e] at p; exact p
  | exc c fs g1 => rw [e] at p; exact p
  | ok xs g1 =>
    rw [e] at p
    dsimp only [Res.bind] at p
    intro θ1 H1 vs l1 S1 r
    refine hk θ H us g xs g1 θ1 H1 vs S RR l1 S1 r ?_
    cases ek : k xs g1 with
    | bad => rw [ek] at p; exact p
    | exc c fs g2 => exact absurd ek (hne _ _ _ _ _)
    | ok q g2 =>
      rw [ek] at p
      exact fun θ1' H1' J l s it => p θ1' H1' J (l1.trans l) s it
theorem relUs1 {K : PySem.W.Frag} {θ : List Addr} {H : Hp} {u : U} {vs : List V} (h : RelUs K θ H [u] vs) : ∃ v, vs = [v] ∧ RelU K θ H u v := by
  unfold RelUs at h
  obtain ⟨w, ws, e, h1, h2⟩ := h
  unfold RelUs at h2
  subst h2
  exact ⟨w, e, h1⟩
theorem relUs2 {K : PySem.W.Frag} {θ : List Addr} {H : Hp} {u u2 : U} {vs : List V} (h : RelUs K θ H [u, u2] vs) : ∃ v v2, vs = [v, v2] ∧ RelU K θ H u v ∧ RelU K θ H u2 v2 := by
  unfold RelUs at h
  obtain ⟨w, ws, e, h1, h2⟩ := h
  obtain ⟨v2, e2, h3⟩ := relUs1 h2
  subst e2
  exact ⟨w, v2, e, h1, h3⟩
theorem relInt' {K : PySem.W.Frag} {θ : List Addr} {H : Hp} {b : Int} {v : V} (h : RelU K θ H (.int b) v) : v = .int b := by unfold RelU at h; exact h
theorem relStr' {K : PySem.W.Frag} {θ : List Addr} {H : Hp} {b : Str} {v : V} (h : RelU K θ H (.str b) v) : v = .str b := by unfold RelU at h; exact h
theorem relBl' {K : PySem.W.Frag} {θ : List Addr} {H : Hp} {b : Bool} {v : V} (h : RelU K θ H (.bl b) v) : v = .bl b := by unfold RelU at h; exact h
theorem relNon' {K : PySem.W.Frag} {θ : List Addr} {H : Hp} {v : V} (h : RelU K θ H .non v) : v = .non := by unfold RelU at h; exact h
def rng1 : List U → Gs → Res (List U × (Gs → Bool)) := fun xs g1 => match xs with
  | [.int j] => if -4000000000 ≤ j ∧ j ≤ 4000000000 then .ok (intsU 0 j.toNat, fun _ => true) g1 else .bad
  | _ => .bad
def rng2 : List U → Gs → Res (List U × (Gs → Bool)) := fun xs g1 => match xs with
  | [.int i, .int j] => if (-4000000000 ≤ i ∧ i ≤ 4000000000) ∧ -4000000000 ≤ j ∧ j ≤ 4000000000 then .ok (intsU i (j - i).toNat, fun _ => true) g1 else .bad
  | _ => .bad
theorem rng1_ne (xs : List U) (g : Gs) (c : Nat) (fs : List (Str × U)) (g1 : Gs) : rng1 xs g ≠ .exc c fs g1 := by
  unfold rng1
  split <;> (try split) <;> (intro q; cases q)
theorem rng2_ne (xs : List U) (g : Gs) (c : Nat) (fs : List (Str × U)) (g1 : Gs) : rng2 xs g ≠ .exc c fs g1 := by
  unfold rng2
  split <;> (try split) <;> (intro q; cases q)
theorem rng1_ok {xs : List U} {g g1 : Gs} {p : List U × (Gs → Bool)} (h : rng1 xs g = .ok p g1) : ∃ j, xs = [.int j] ∧ (-4000000000 ≤ j ∧ j ≤ 4000000000) ∧ p = (intsU 0 j.toNat, fun _ => true) ∧ g1 = g := by
  unfold rng1 at h
  split at h
  · split at h
    · rename_i j hb
      cases h
      exact ⟨j, rfl, hb, rfl, rfl⟩
    · cases h
  · cases h
theorem rng2_ok {xs : List U} {g g1 : Gs} {p : List U × (Gs → Bool)} (h : rng2 xs g = .ok p g1) : ∃ i j, xs = [.int i, .int j] ∧ ((-4000000000 ≤ i ∧ i ≤ 4000000000) ∧ -4000000000 ≤ j ∧ j ≤ 4000000000) ∧ p = (intsU i (j - i).toNat, fun _ => true) ∧ g1 = g := by
  unfold rng2 at h
  split at h
  · split at h
    · rename_i i j hb
      cases h
      exact ⟨i, j, rfl, hb, rfl, rfl⟩
    · cases h
  · cases h
/-- range(n), range(a, b) -/
def itRng1 (a : Ea) : Ei := fun us g => (a us g).bind rng1
def itRng2 (a : Ea) : Ei := fun us g => (a us g).bind rng2
theorem ri_range1 {tg a : Expr} {p pos : Pos} {f : Ea} (hm : X.mg "range" = none) (ha : PA X [a] (RA κ W f)) (hg : Gl X "range" := by rfl) (hs : starEach [a] X.env = [(false, eval a X.env)] := by rfl) : PI X tg (.Call (.Name "range" p) [a] [] pos) (RI κ W (itRng1 f)) :=
  (pi_range1 hg hm ha hs).imp fun σ H R h => RI.bind (k := rng1) h (fun θ H0 us g xs g1 θ1 H1 vs S RR l1 S1 r q => by
    cases e : rng1 xs g1 with
    | bad => rw [e] at q; exact q.elim
    | exc c fs g2 => exact absurd e (rng1_ne _ _ _ _ _)
    | ok pp g2 =>
      rw [e] at q
      obtain ⟨j, rfl, hb, rfl, rfl⟩ := rng1_ok e
      obtain ⟨v, rfl, r1⟩ := relUs1 r
      exact ⟨j, by rw [relInt' r1], by omega, by omega, q θ1 H1 _ (Le.refl _ _) S1 itr_ok⟩) rng1_ne
theorem ri_range2 {tg a b : Expr} {p pos : Pos} {f : Ea} (hm : X.mg "range" = none) (ha : PA X [a, b] (RA κ W f)) (hg : Gl X "range" := by rfl) (hs : starEach [a, b] X.env = [(false, eval a X.env), (false, eval b X.env)] := by rfl)
    (hs2 : starEach [b] X.env = [(false, eval b X.env)] := by rfl) : PI X tg (.Call (.Name "range" p) [a, b] [] pos) (RI κ W (itRng2 f)) :=
  (pi_range2 hg hm ha hs hs2).imp fun σ H R h => RI.bind (k := rng2) h (fun θ H0 us g xs g1 θ1 H1 vs S RR l1 S1 r q => by
    cases e : rng2 xs g1 with
    | bad => rw [e] at q; exact q.elim
    | exc c fs g2 => exact absurd e (rng2_ne _ _ _ _ _)
    | ok pp g2 =>
      rw [e] at q
      obtain ⟨i, j, rfl, hb, rfl, rfl⟩ := rng2_ok e
      obtain ⟨v, v2, rfl, r1, r2⟩ := relUs2 r
      exact ⟨i, j, by rw [relInt' r1, relInt' r2], by omega, q θ1 H1 _ (Le.refl _ _) S1 itr_ok⟩) rng2_ne

/-! ### comprehensions: one for -/
/-- the items that stay, each by its element -/
def lcGo (ck : Gs → Bool) (t : Tg) (c : Et) (f : Ev) : List U → Us → Gs → Res (List U)
  | [], _, g => if ck g = true then .ok [] g else .bad
  | x :: xs, us, g => if ck g = true then (match t x us g with
    | none => .bad
    | some (us1, g1) => match c us1 g1 with
      | .ok true g2 => (match f us1 g2 with
        | .ok u g3 => (lcGo ck t c f xs us g3).bind fun r g4 => .ok (u :: r) g4
        | _ => .bad)
      | .ok false g2 => lcGo ck t c f xs us g2
      | _ => .bad) else .bad
/-- own: the slots of the comprehension's names -/
def wipeU (us : Us) : List Nat → Us
  | [] => us
  | v :: vs => (wipeU us vs).set v none
def lcE (own : List Nat) (it : Ei) (t : Tg) (c : Et) (f : Ev) : Ev := fun us g => (it us g).bind fun p g1 => if p.1.length ≤ 100000 then (lcGo p.2 t c f p.1 (wipeU us own) g1).bind newL else .bad
theorem RelS.wipe {θ : List Addr} {H : Hp} {us : Us} {σ : L2.St} (h : RelS κ θ H us σ) (hx : κ.ex = none) : ∀ own : List Nat, RelS κ θ H (wipeU us own) (wipe σ own)
  | [] => h
  | v :: vs => by
    have q := h.wipe hx vs
    unfold wipeU L2.wipe
    refine ⟨by simpa using q.len, fun i u e => ?_, fun x e => by rw [hx] at e; cases e⟩
    by_cases hi : v = i
    · subst hi
      by_cases hl : v < (wipeU us vs).length
      · rw [List.getElem?_set_self hl] at e; cases e
      · rw [List.getElem?_eq_none (by simpa using hl)] at e; cases e
    · rw [List.getElem?_set_ne hi] at e
      obtain ⟨w, e1, r⟩ := q.at' i u e
      exact ⟨w, by rw [List.getElem?_set_ne hi]; exact e1, r⟩
/-- the context without what may be raised -/
abbrev Wn : WX := fun _ _ _ _ => False
theorem lcGo_len {ck : Gs → Bool} {t : Tg} {c : Et} {f : Ev} : ∀ {xs : List U} {us : Us} {g g' : Gs} {r : List U}, lcGo ck t c f xs us g = .ok r g' → r.length ≤ xs.length
  | [], us, g, g', r, h => by
    unfold lcGo at h
    split at h
    · cases h; exact Nat.le_refl _
    · cases h
  | x :: xs, us, g, g', r, h => by
    unfold lcGo at h
    split at h
    · split at h
      · cases h
      · split at h
        · split at h
          · rename_i u g3 e3
            cases e : lcGo ck t c f xs us g3 with
            | ok r2 g4 =>
              rw [e] at h
              cases h
              have := lcGo_len e
              rw [List.length_cons, List.length_cons]
              omega
            | exc a b d => rw [e] at h; cases h
            | bad => rw [e] at h; cases h
          · cases h
        · have := lcGo_len h
          rw [List.length_cons]
          omega
        · cases h
    · cases h
/-- the target of a comprehension, its slots alone -/
def WipeOk (t : TG) (own : List Nat) : Prop := ∀ (v : V) (σ : L2.St) (H : Hp) (Q : L2.St → Hp → Prop), t v (wipe σ own) H Q → t v (wipe σ own) H fun σ2 H2 => wipe σ2 own = wipe σ own ∧ Q σ2 H2
theorem wipe_set {σ : L2.St} {i : Nat} {x : Option V} : ∀ {vs : List Nat}, i ∈ vs → wipe (σ.set i x) vs = wipe σ vs
  | [], h => nomatch h
  | v :: vs, h => by
    unfold L2.wipe
    by_cases hm : i ∈ vs
    · rw [wipe_set hm]
    · have e : i = v := by
        rcases List.mem_cons.mp h with h | h
        · exact h
        · exact absurd h hm
      subst e
      apply List.ext_getElem?
      intro j
      by_cases hj : i = j
      · subst hj
        by_cases hl : i < σ.length
        · rw [List.getElem?_set_self (by rw [wipe_length, List.length_set]; exact hl), List.getElem?_set_self (by rw [wipe_length]; exact hl)]
        · rw [List.getElem?_eq_none (by rw [List.length_set, wipe_length, List.length_set]; omega), List.getElem?_eq_none (by rw [List.length_set, wipe_length]; omega)]
      · rw [List.getElem?_set_ne hj, List.getElem?_set_ne hj]
        exact wipe_get hj
where wipe_get {σ : L2.St} {i j : Nat} {x : Option V} (hj : ¬ i = j) : ∀ {vs : List Nat}, (wipe (σ.set i x) vs)[j]? = (wipe σ vs)[j]?
  | [] => by unfold L2.wipe; rw [List.getElem?_set_ne hj]
  | v :: vs => by
    unfold L2.wipe
    by_cases hv : v = j
    · subst hv
      by_cases hl : v < σ.length
      · rw [List.getElem?_set_self (by rw [wipe_length, List.length_set]; exact hl), List.getElem?_set_self (by rw [wipe_length]; exact hl)]
      · rw [List.getElem?_eq_none (by rw [List.length_set, wipe_length, List.length_set]; omega), List.getElem?_eq_none (by rw [List.length_set, wipe_length]; omega)]
    · rw [List.getElem?_set_ne hv, List.getElem?_set_ne hv]
      exact wipe_get hj
theorem wipe_wipe {σ : L2.St} : ∀ (vs : List Nat), wipe (wipe σ vs) vs = wipe σ vs := by
  intro vs
  have key : ∀ (us vs : List Nat) (σ : L2.St), (∀ i ∈ us, i ∈ vs) → wipe (wipe σ us) vs = wipe σ vs := by
    intro us
    induction us with
    | nil => intro vs σ _; rfl
    | cons u us ih =>
      intro vs σ h
      show wipe ((wipe σ us).set u none) vs = wipe σ vs
      rw [wipe_set (h u List.mem_cons_self)]
      exact ih vs σ fun i hi => h i (List.mem_cons_of_mem _ hi)
  exact key vs vs σ fun _ h => h
theorem wipe_name {i : Nat} {own : List Nat} (h : i ∈ own) : WipeOk (gName i) own := fun v σ H Q q => ⟨by rw [wipe_set h, wipe_wipe], q⟩

theorem Sim.notIn {θ θ' : List Addr} {g' : Gs} {H H' : Hp} {D : Addr} {o o' : HO} (_S : Sim κ θ' g' H') (_h : H' D = some o') (l : Le θ H θ' H') (hD : H D = some o) (hn : D ∉ θ) : D ∉ θ' := by
  obtain ⟨more, rfl, hm, _⟩ := l
  intro z
  rcases List.mem_append.mp z with z | z
  · exact hn z
  · rw [(hm D z).2] at hD; cases hD
/-- an object that is no cell, nor a tuple, is written -/
theorem Sim.free {θ : List Addr} {g : Gs} {H : Hp} {D : Addr} {xs : List V} {o : HO} (S : Sim κ θ g H) (hD : D ∉ θ) (hx : H D = some (.lst xs)) : Sim κ θ g (upd H D o) ∧ Keep H (upd H D o) := by
  have k : Keep H (upd H D o) := ⟨fun a ys h => by
      have ne : a ≠ D := fun z => by subst z; rw [hx] at h; cases h
      rw [upd_ne ne]; exact h, fun a o' u h => by
      have ne : a ≠ D := fun z => by subst z; rw [hx] at h; cases h
      rw [upd_ne ne]; exact h⟩
  refine ⟨⟨S.len, S.nd, fun n c a hc ha => ?_⟩, k⟩
  have ne : a ≠ D := fun z => by subst z; exact hD (List.mem_of_getElem? ha)
  have q := S.ok n c a hc ha
  cases c with
  | lst us => obtain ⟨vs, e, r⟩ := q; exact ⟨vs, by rw [upd_ne ne]; exact e, r.keep k fun _ _ h => h⟩
  | ins c fs => obtain ⟨dx, gs, e, r⟩ := q; exact ⟨dx, gs, by rw [upd_ne ne]; exact e, r.1, r.2.keep k fun _ _ h => h⟩
  | dct kvs => obtain ⟨gs, e, r⟩ := q; exact ⟨gs, by rw [upd_ne ne]; exact e, r.1, r.2.keep k fun _ _ h => h⟩
  | exv c fs =>
    obtain ⟨dx, gs, e, e2, n, r⟩ := q
    have ne2 : dx ≠ D := fun z => by subst z; rw [hx] at e2; cases e2
    exact ⟨dx, gs, by rw [upd_ne ne]; exact e, by rw [upd_ne ne2]; exact e2, n, r.1, r.2.keep k fun _ _ h => h⟩
/-- the state while a comprehension fills its list at D: H1 is the heap ahead of it -/
structure LcI (κ : Ctx) (θ1 : List Addr) (H1 : Hp) (D : Addr) (as : List U) (acc : List V) (θ : List Addr) (g : Gs) (H : Hp) : Prop where
  le : Le θ1 H1 θ H
  sim : Sim κ θ g H
  at' : H D = some (.lst acc)
  out : D ∉ θ
  rel : RelUs κ.K θ H as acc
theorem LcI.step {θ1 θ θ' : List Addr} {H1 H H' : Hp} {D : Addr} {as : List U} {acc : List V} {g g' : Gs} (I : LcI κ θ1 H1 D as acc θ g H) (l : Le θ H θ' H') (S : Sim κ θ' g' H') : LcI κ θ1 H1 D as acc θ' g' H' := by
  have e := l.frame I.out I.at'
  exact ⟨I.le.trans l, S, e, S.notIn e l I.at' I.out, I.rel.le I.sim l⟩
theorem LcI.push {θ1 θ : List Addr} {H1 H : Hp} {D : Addr} {as : List U} {acc : List V} {g : Gs} {u : U} {v : V} (I : LcI κ θ1 H1 D as acc θ g H) (hD : H1 D = none) (r : RelU κ.K θ H u v) : LcI κ θ1 H1 D (as ++ [u]) (acc ++ [v]) θ g (upd H D (.lst (acc ++ [v]))) := by
  obtain ⟨S', k⟩ := I.sim.free (o := .lst (acc ++ [v])) I.out I.at'
  refine ⟨?_, S', upd_same, I.out, (I.rel.append (RelUs.cons r RelUs.nil)).keep k fun _ _ h => h⟩
  obtain ⟨more, e, hm, hf⟩ := I.le
  exact ⟨more, e, hm, fun a o ha h => by
    have ne : a ≠ D := ne_of_none h hD
    rw [upd_ne ne]
    exact hf a o ha h⟩
theorem LcI.start {θ1 : List Addr} {H1 : Hp} {D : Addr} {g : Gs} (S : Sim κ θ1 g H1) (hD : H1 D = none) : LcI κ θ1 H1 D [] [] θ1 g (upd H1 D (.lst [])) := by
  obtain ⟨l, S'⟩ := S.other (o := .lst []) hD
  exact ⟨l, S', upd_same, S.none_out hD, RelUs.nil⟩
/-- at its end the list becomes a cell -/
theorem LcI.stop {θ1 θ : List Addr} {H1 H : Hp} {D : Addr} {as : List U} {acc : List V} {g : Gs} {Q : VK} {Wx : Value → Option Addr → Hp → Prop} (I : LcI κ θ1 H1 D as acc θ g H) (hD : H1 D = none) (h : (newL as g).post κ (RlU κ) θ1 H1 Q Wx) : Q (.ref D) H := by
  unfold newL at h
  split at h
  · have S := I.sim
    have nθ1 : D ∉ θ1 := fun z => by
      obtain ⟨more, e, _, _⟩ := I.le
      exact I.out (by rw [e]; exact List.mem_append_left _ z)
    have ht : ∀ (n : Nat) (a : Addr), θ[n]? = some a → (θ ++ [D])[n]? = some a := fun n a e => by
      rw [List.getElem?_append_left (List.getElem?_eq_some_iff.mp e).1]
      exact e
    have k : Keep H H := ⟨fun _ _ h => h, fun _ _ _ h => h⟩
    refine h (θ ++ [D]) H (.ref D) ?_ ?_ ?_
    · obtain ⟨more, e, hm, hf⟩ := I.le
      refine ⟨more ++ [D], by rw [e]; simp, fun p hp => ?_, hf⟩
      rcases List.mem_append.mp hp with hp | hp
      · exact hm p hp
      · have e : p = D := by simpa using hp
        subst e
        exact ⟨nθ1, hD⟩
    · refine ⟨by simp [S.len], ?_, fun n c a hc ha => ?_⟩
      · rw [List.nodup_append]
        refine ⟨S.nd, by simp, fun a ha b hb => ?_⟩
        have e : b = D := by simpa using hb
        subst e
        exact fun z => I.out (z ▸ ha)
      · by_cases hn : n < g.length
        · rw [List.getElem?_append_left hn] at hc
          rw [List.getElem?_append_left (by rw [S.len]; exact hn)] at ha
          have q := S.ok n c a hc ha
          cases c with
          | lst us => obtain ⟨vs, e, r⟩ := q; exact ⟨vs, e, r.keep k ht⟩
          | ins c fs => obtain ⟨dx, gs, e, r⟩ := q; exact ⟨dx, gs, e, r.1, r.2.keep k ht⟩
          | dct kvs => obtain ⟨gs, e, r⟩ := q; exact ⟨gs, e, r.1, r.2.keep k ht⟩
          | exv c fs =>
            obtain ⟨dx, gs, e, e2, n, r⟩ := q
            refine ⟨dx, gs, e, e2, ⟨fun z => ?_, n.2⟩, r.1, r.2.keep k ht⟩
            rcases List.mem_append.mp z with z | z
            · exact n.1 z
            · have q : dx = D := by simpa using z
              subst q
              rw [I.at'] at e2
              cases e2
        · have e : n = g.length := by
            have := (List.getElem?_eq_some_iff.mp hc).1
            rw [List.length_append, List.length_singleton] at this
            omega
          subst e
          rw [List.getElem?_append_right (Nat.le_refl _)] at hc
          rw [← S.len, List.getElem?_append_right (Nat.le_refl _)] at ha
          simp at hc ha
          subst hc ha
          exact ⟨acc, I.at', I.rel.keep k ht⟩
    · exact S.newRef
  · exact h.elim
end
end R
set_option Elab.async false
set_option linter.all false
set_option maxRecDepth 100000
set_option maxHeartbeats 400000
namespace R
open PySem PySem.Spec L2
open PyProof.Rows hiding St
section
variable {X : Cx} {κ : Ctx} {W : WX}
/-- what the comprehension's loop has still to do from its i-th turn -/
def LcW (κ : Ctx) (W : WX) (σ : L2.St) (ck : Gs → Bool) (t : Tg) (c : Et) (f : Ev) (xs : List U) (uw : Us) (θ0 : List Addr) (H0 : Hp) (Q : VK) (θ1 : List Addr) (H1 : Hp) (D : Addr) (i : Nat) (H' : Hp) : Prop :=
  ∃ θ2 g2 acc as, LcI κ θ1 H1 D as acc θ2 g2 H' ∧ as.length ≤ i ∧ ((lcGo ck t c f (xs.drop i) uw g2).bind fun r g3 => newL (as ++ r) g3).post κ (RlU κ) θ0 H0 Q (fun c d H' => W c d σ H')
theorem lc_turn {own : List Nat} {t : Tg} {c : Et} {f : Ev} {g : TG} {tc : TT} {te : TE} (hx : κ.ex = none) (ht : TgOk κ t g) (hw : WipeOk g own) (hc : ∀ σ H Q, RT κ Wn c σ H Q → tc σ H Q) (hf : ∀ σ H Q, RE κ Wn f σ H Q → te σ H Q)
    {xs : List U} {ck : Gs → Bool} {us : Us} {σ : L2.St} {Q : VK} {θ0 θ1 θ2 : List Addr} {H0 H1 H2 H3 : Hp} {D : Addr} {i : Nat} {g0 g2 : Gs} {acc : List V} {as : List U} {u : U} {x : V} {rest : List U} (S0 : Sim κ θ0 g0 H0) (R0 : RelS κ θ0 H0 us σ) (l01 : Le θ0 H0 θ1 H1) (hD : H1 D = none)
    (I : LcI κ θ1 H1 D as acc θ2 g2 H2) (hal : as.length ≤ i) (hi : i < xs.length) (hxs : xs.drop i = u :: rest) (hrest : xs.drop (i + 1) = rest) (hlen : xs.length ≤ 100000) (hck : ck g2 = true) (l3 : Le θ2 H2 θ2 H3) (S3 : Sim κ θ2 g2 H3) (ru : RelU κ.K θ2 H3 u x)
    (p : ((lcGo ck t c f (u :: rest) (wipeU us own) g2).bind fun r g3 => newL (as ++ r) g3).post κ (RlU κ) θ0 H0 Q (fun c d H' => W c d σ H')) :
    g x (wipe σ own) H3 fun σ2 H2 => wipe σ2 own = wipe σ own ∧ tc σ2 H2 fun b H3 => if b = true then te σ2 H3 fun y H4 => ∃ acc, H4 D = some (.lst acc) ∧ acc.length < sizeLine ∧ LcW κ W σ ck t c f xs (wipeU us own) θ0 H0 Q θ1 H1 D (i + 1) (upd H4 D (.lst (acc ++ [y])))
      else LcW κ W σ ck t c f xs (wipeU us own) θ0 H0 Q θ1 H1 D (i + 1) H3 := by
  unfold lcGo at p
  rw [if_pos hck] at p
  have I3 : LcI κ θ1 H1 D as acc θ2 g2 H3 := I.step l3 S3
  have R3 : RelS κ θ2 H3 (wipeU us own) (wipe σ own) := ((R0.le S0 (l01.trans I3.le)).wipe hx own)
  cases et : t u (wipeU us own) g2 with
  | none => rw [et] at p; exact p.elim
  | some q =>
    obtain ⟨us3, g3⟩ := q
    rw [et] at p
    refine hw x σ H3 _ (ht θ2 g2 g3 H3 u x _ us3 (wipe σ own) _ S3 R3 ru et fun θ4 H4 σ4 l4 S4 R4 => ?_)
    have I4 := I3.step l4 S4
    dsimp only at p
    refine hc _ _ _ ⟨θ4, us3, g3, S4, R4, ?_⟩
    cases ec : c us3 g3 with
    | bad => rw [ec] at p; exact p.elim
    | exc a b d => rw [ec] at p; exact p.elim
    | ok b g5 =>
      rw [ec] at p
      intro θ5 H5 b' l5 S5 eb
      have eb : b = b' := eb
      subst eb
      have I5 := I4.step l5 S5
      cases b with
      | false =>
        rw [if_neg Bool.false_ne_true]
        exact ⟨θ5, g5, acc, as, I5, Nat.le_succ_of_le hal, by rw [hrest]; exact p⟩
      | true =>
        rw [if_pos rfl]
        refine hf _ _ _ ⟨θ5, us3, g5, S5, R4.le S4 l5, ?_⟩
        dsimp only at p
        cases ef : f us3 g5 with
        | bad => rw [ef] at p; exact p.elim
        | exc a b d => rw [ef] at p; exact p.elim
        | ok w g6 =>
          rw [ef] at p
          intro θ6 H6 y l6 S6 ry
          have I6 := I5.step l6 S6
          have ry : RelU κ.K θ6 H6 w y := ry
          have hacc := I6.rel.length
          refine ⟨acc, I6.at', Nat.lt_of_le_of_lt (m := 100000) (by omega) (by decide), ?_⟩
          refine ⟨θ6, g6, acc ++ [y], as ++ [w], I6.push hD ry, by rw [List.length_append, List.length_singleton]; omega, ?_⟩
          rw [hrest]
          dsimp only at p
          cases er : lcGo ck t c f rest (wipeU us own) g6 with
          | bad => rw [er] at p; exact p
          | exc a b d => rw [er] at p; exact p
          | ok r g7 =>
            rw [er] at p
            dsimp only [Res.bind] at p ⊢
            rw [List.append_assoc]
            exact p
theorem t_lc {own : List Nat} {it : Ei} {t : Tg} {c : Et} {f : Ev} {g : TG} {tc : TT} {te : TE} (hx : κ.ex = none) (ht : TgOk κ t g) (hw : WipeOk g own) (hc : ∀ σ H Q, RT κ Wn c σ H Q → tc σ H Q) (hf : ∀ σ H Q, RE κ Wn f σ H Q → te σ H Q)
    {σ : L2.St} {H : Hp} {Q : VK} (h : RE κ W (lcE own it t c f) σ H Q) : tLc (RI κ W it) g tc te own σ H Q := by
  obtain ⟨θ, us, g0, S, R, p⟩ := h
  refine ⟨θ, us, g0, S, R, ?_⟩
  unfold lcE at p
  cases e : it us g0 with
  | bad => rw [e] at p; exact p
  | exc c fs g1 => rw [e] at p; exact p
  | ok pp g1 =>
    rw [e] at p
    obtain ⟨xs, ck⟩ := pp
    dsimp only [Res.bind] at p
    split at p
    · rename_i hlen
      intro θ1 H1 J l1 S1 hit D hD
      refine ⟨fun i m H' => m = xs.length - i ∧ i ≤ xs.length ∧ LcW κ W σ ck t c f xs (wipeU us own) θ H Q θ1 H1 D i H',
        ⟨xs.length, (Nat.sub_zero _).symm, Nat.zero_le _, θ1, g1, [], [], LcI.start S1 hD, Nat.le_refl _, ?_⟩, ?_⟩
      · rw [List.drop_zero]
        exact p
      rintro i m H2 ⟨rfl, hi, θ2, g2, acc, as, I, hal, p2⟩
      have l12 : Le θ1 H1 θ2 H2 := I.le
      by_cases hlt : i < xs.length
      · have hd : xs.drop i = xs[i] :: xs.drop (i + 1) := List.drop_eq_getElem_cons hlt
        have hck : ck g2 = true := by
          cases h : ck g2 with
          | true => rfl
          | false =>
            rw [hd] at p2
            unfold lcGo at p2
            rw [h, if_neg Bool.false_ne_true] at p2
            exact p2.elim
        obtain ⟨hgo, hy⟩ := (hit i θ2 g2 H2 l12 I.sim hck).1 hlt
        refine .inr ⟨hgo, LcW κ W σ ck t c f xs (wipeU us own) θ H Q θ1 H1 D (i + 1), fun H' q => ⟨xs.length - (i + 1), by omega, rfl, hlt, q⟩, fun x H3 hyl => ?_⟩
        obtain ⟨u, hu, l3, S3, ru⟩ := hy x H3 hyl
        have eu : xs[i] = u := by
          have q : xs[i]? = some xs[i] := List.getElem?_eq_getElem hlt
          have hu' : xs[i]? = some u := hu
          rw [q] at hu'
          exact Option.some.inj hu'
        rw [hd, eu] at p2
        exact lc_turn hx ht hw hc hf S R l1 hD I hal hlt (by rw [hd, eu]) rfl hlen hck l3 S3 ru p2
      · have ei : i = xs.length := by omega
        subst ei
        rw [List.drop_length] at p2
        unfold lcGo at p2
        split at p2
        · rename_i hck
          refine .inl ⟨(hit _ θ2 g2 H2 l12 I.sim hck).2 rfl, ?_⟩
          dsimp only [Res.bind] at p2
          rw [List.append_nil] at p2
          exact I.stop hD (Res.post_mono l1 p2)
        · exact p2.elim
    · exact p.elim
def yes : Et := fun _ g => .ok true g
theorem t_yes (σ : L2.St) (H : Hp) (Q : Bool → Hp → Prop) (h : RT κ Wn yes σ H Q) : tYes σ H Q := by
  obtain ⟨θ, us, g, S, R, p⟩ := h
  exact p θ H true (Le.refl _ _) S rfl
/-- [e for x in it] -/
theorem re_lc {elt tg iter : Expr} {scope : Scope} {own : List (Str × Nat)} {pos : Pos} {it : Ei} {t : Tg} {f : Ev} {g : TG} (hx : κ.ex = none) (hc : X.calm = true) (hN : X.N.Nodup) (hi : PI X tg iter (RI κ W it)) (ok : BlkOk X.N X.env.scope scope own) (ht : TgOk κ t g) (hw : WipeOk g (own.map (·.2)))
    (hg : ∀ (s : Shared) (H : Hp) (C : Addr) (cl : List (Str × Addr)) (fp : List Addr), PG (X.blk s H scope (compEnvC scope cl C X.env) fp) tg g)
    (he : ∀ (s : Shared) (H : Hp) (C : Addr) (cl : List (Str × Addr)) (fp : List Addr), PE (X.blk s H scope (compEnvC scope cl C X.env) fp) elt (RE κ Wn f)) (hs : ∀ x, foldedSetIterable iter X.env x = pure x := by intro _; rfl) :
    PE X (.ListComp elt [⟨tg, iter, [], 0⟩] scope pos) (RE κ W (lcE (own.map (·.2)) it t yes f)) :=
  (pe_lc hc hN hi ok hg (fun _ _ _ _ _ => pts_nil) he hs).imp fun σ H Q h => t_lc hx ht hw t_yes (fun _ _ _ q => q) h
/-- [e for x in it if c] -/
theorem re_lcIf {elt tg iter cd : Expr} {scope : Scope} {own : List (Str × Nat)} {pos : Pos} {it : Ei} {t : Tg} {c : Et} {f : Ev} {g : TG} (hx : κ.ex = none) (hc : X.calm = true) (hN : X.N.Nodup) (hi : PI X tg iter (RI κ W it)) (ok : BlkOk X.N X.env.scope scope own) (ht : TgOk κ t g) (hw : WipeOk g (own.map (·.2)))
    (hg : ∀ (s : Shared) (H : Hp) (C : Addr) (cl : List (Str × Addr)) (fp : List Addr), PG (X.blk s H scope (compEnvC scope cl C X.env) fp) tg g)
    (hcd : ∀ (s : Shared) (H : Hp) (C : Addr) (cl : List (Str × Addr)) (fp : List Addr), PT (X.blk s H scope (compEnvC scope cl C X.env) fp) cd (RT κ Wn c))
    (he : ∀ (s : Shared) (H : Hp) (C : Addr) (cl : List (Str × Addr)) (fp : List Addr), PE (X.blk s H scope (compEnvC scope cl C X.env) fp) elt (RE κ Wn f)) (hs : ∀ x, foldedSetIterable iter X.env x = pure x := by intro _; rfl) :
    PE X (.ListComp elt [⟨tg, iter, [cd], 0⟩] scope pos) (RE κ W (lcE (own.map (·.2)) it t c f)) :=
  (pe_lc hc hN hi ok hg (fun s H C cl fp => pts_one (hcd s H C cl fp)) he hs).imp fun σ H Q h => t_lc hx ht hw (fun _ _ _ q => q) (fun _ _ _ q => q) h
/-- y = [..] on one line, y a local -/
theorem rs_setLc {i : Nat} {y : Str} {py : Pos} {elt tg iter : Expr} {scope : Scope} {own : List (Str × Nat)} {pos spos : Pos} {it : Ei} {t : Tg} {f : Ev} {g : TG} (hx : κ.ex = none) (hc : X.calm = true) (hN : X.N.Nodup) (hy : X.N[i]? = some y) (hyl : X.env.scope.names.lookup y = some .local)
    (hsw : swapsWith (.ListComp elt [⟨tg, iter, [], 0⟩] scope pos) (some (.Name y py)) spos.line X.env = pure true) (hi : PI X tg iter (RI κ W it)) (ok : BlkOk X.N X.env.scope scope own) (ht : TgOk κ t g) (hw : WipeOk g (own.map (·.2)))
    (hg : ∀ (s : Shared) (H : Hp) (C : Addr) (cl : List (Str × Addr)) (fp : List Addr), PG (X.blk s H scope (compEnvC scope cl C X.env) fp) tg g)
    (he : ∀ (s : Shared) (H : Hp) (C : Addr) (cl : List (Str × Addr)) (fp : List Addr), PE (X.blk s H scope (compEnvC scope cl C X.env) fp) elt (RE κ Wn f)) (hs : ∀ x, foldedSetIterable iter X.env x = pure x := by intro _; rfl) :
    PS X (.Assign [.Name y py] (.ListComp elt [⟨tg, iter, [], 0⟩] scope pos) spos) (RS κ W (asg (lcE (own.map (·.2)) it t yes f) (nameT i))) :=
  (ps_setLc hc hN hy hyl hsw hi ok hg (fun _ _ _ _ _ => pts_nil) he hs).imp fun D σ H h => t_lc hx ht hw t_yes (fun _ _ _ q => q) (by
    obtain ⟨θ, us, g, S, R, p⟩ := h
    exact RX.thn (Q1 := fun x H1 => gName i x σ H1 D.nx) S R p fun u g1 θ1 H1 v l1 S1 R1 r p1 => p1 θ1 H1 _ (Le.refl _ _) S1 (R1.set r fun x e => by rw [hx] at e; cases e))
theorem rs_setLcIf {i : Nat} {y : Str} {py : Pos} {elt tg iter cd : Expr} {scope : Scope} {own : List (Str × Nat)} {pos spos : Pos} {it : Ei} {t : Tg} {c : Et} {f : Ev} {g : TG} (hx : κ.ex = none) (hc : X.calm = true) (hN : X.N.Nodup) (hy : X.N[i]? = some y) (hyl : X.env.scope.names.lookup y = some .local)
    (hsw : swapsWith (.ListComp elt [⟨tg, iter, [cd], 0⟩] scope pos) (some (.Name y py)) spos.line X.env = pure true) (hi : PI X tg iter (RI κ W it)) (ok : BlkOk X.N X.env.scope scope own) (ht : TgOk κ t g) (hw : WipeOk g (own.map (·.2)))
    (hg : ∀ (s : Shared) (H : Hp) (C : Addr) (cl : List (Str × Addr)) (fp : List Addr), PG (X.blk s H scope (compEnvC scope cl C X.env) fp) tg g)
    (hcd : ∀ (s : Shared) (H : Hp) (C : Addr) (cl : List (Str × Addr)) (fp : List Addr), PT (X.blk s H scope (compEnvC scope cl C X.env) fp) cd (RT κ Wn c))
    (he : ∀ (s : Shared) (H : Hp) (C : Addr) (cl : List (Str × Addr)) (fp : List Addr), PE (X.blk s H scope (compEnvC scope cl C X.env) fp) elt (RE κ Wn f)) (hs : ∀ x, foldedSetIterable iter X.env x = pure x := by intro _; rfl) :
    PS X (.Assign [.Name y py] (.ListComp elt [⟨tg, iter, [cd], 0⟩] scope pos) spos) (RS κ W (asg (lcE (own.map (·.2)) it t c f) (nameT i))) :=
  (ps_setLc hc hN hy hyl hsw hi ok hg (fun s H C cl fp => pts_one (hcd s H C cl fp)) he hs).imp fun D σ H h => t_lc hx ht hw (fun _ _ _ q => q) (fun _ _ _ q => q) (by
    obtain ⟨θ, us, g, S, R, p⟩ := h
    exact RX.thn (Q1 := fun x H1 => gName i x σ H1 D.nx) S R p fun u g1 θ1 H1 v l1 S1 R1 r p1 => p1 θ1 H1 _ (Le.refl _ _) S1 (R1.set r fun x e => by rw [hx] at e; cases e))
end
end R
set_option Elab.async false
set_option linter.all false
set_option maxRecDepth 100000
set_option maxHeartbeats 1000000
namespace R
open PySem PySem.Spec L2
open PyProof.Rows hiding St
/-! ### own exceptions whose __init__ says super().__init__(..) and then stores fields -/
abbrev veInit : String := "ValueError.__init__"
/-- the call of the built-in __init__, bound to the exception at a -/
theorem call_mw {X : Cx} {A : Around} {E : Value → Shared → Prop} {pins : List (Addr × Obj)} {σ : L2.St} {H : Hp} {s : Shared} {a C u : Addr} {us : List Value} {Q : Value → Shared → Prop} (T : OexC X.K C) (I : Inv X pins σ H s) (e : H a = some (exo a C none)) (hl : us.length ≤ sizeLine)
    (hu : s.heap.get? u = some (PySem.W.kxs_mw veInit a)) (h : ∀ s', Inv X pins σ H s' → Q .none s') : wpAny (model X.prog X.w) A (call (.ref u) us) Q E s := by
  obtain ⟨nm, q, N, bs, bm, sn, sub, ab, col, dd, k0, k1, k2, k3, k5, hC, hbm⟩ := T.cls
  obtain ⟨t1, ho⟩ := exo_at I.hok e
  obtain ⟨hp, g, d, t, os⟩ := s
  have hC' := I.kIn _ _ hC
  have hQ : ∀ h' t2, (∀ b o, b ≠ a → hp.get? b = some o → h'.get? b = some o) → h'.get? a = some ({ cls := .ref C, dict := none, data := .fields #[.ref t2, .none, .none, .none, .bool false, .none] } : Obj) → Q .none ⟨h', g, d, t, os⟩ := fun h' t2 k hx => by
    have J := I.write (t' := t) (x := a) (e := a) (o := exo a C none) (by rw [e]; exact True.intro) (.inl rfl) k ⟨_, hx⟩ (exo_ok hx)
    have eu : upd H a (exo a C none) = H := by
      funext b
      by_cases hb : b = a
      · rw [hb, upd_same, e]
      · rw [upd_ne hb]
    rw [eu] at J
    exact h _ J
  refine wpAny_call (codeAny_of_tree ?_)
  show wpAny _ A.in1 (callAny (.ref u) ⟨us, []⟩) _ _ _
  simp only [callAny]
  refine wpAny_bind (wpAny_load hu ?_)
  simp only [PySem.W.kxs_mw, show (Value.type "method-wrapper" == Value.type "method" || Value.type "method-wrapper" == Value.type "builtin_function_or_method" || Value.type "method-wrapper" == Value.type "method-wrapper") = true by decide, if_true]
  refine PySem.W.KFB.if_so (by decide) ?_
  refine wpAny_bind (PySem.W.check_bound_init (F.excBase_ValueError).toExcCallFacts hC' ho rfl ?_)
  refine wpAny_bind (wpAny_pure (wpAny_pure ?_))
  refine ⟨plainId_quiet F.excBase_ValueError.init.plain _, codeAny_builtin F.excBase_ValueError.initEntry ?_⟩
  exact PySem.W.exc_init_tree (cls := .ref C) (t0 := t1) (dv := none) (c2 := .none) (c3 := .none) (b4 := .bool false) ho hl fun h' k e' _ => hQ h' _ k e'

/-- what the written part says of an own exception's class at C, its __init__ at f -/
structure XTxt (P : Program) (K : PySem.W.Frag) (mg : Str → Option Value) (x qual : Str) (st : Stmt) (C f : Addr) (fd : FuncData) : Prop where
  oex : OexC K C
  iC : PySem.W.findIn K (.ref C) "__init__" = some (some (.ref f))
  tI : PySem.W.typeIn K (.ref f) = some (.type "function")
  mgC : mg x = some (.ref C)
  sup : mg "super" = none
  along : PySem.W.ks_superIn K C C "__init__" = some (some (.builtin veInit))
  sub : PySem.W.subIn K (.ref C) (.type "ValueError") = some true
  self : PySem.W.mroIn K C (.ref C) = some true
  opq : PySem.W.nsIn K PySem.cStatics "thirdparty.any" = some none
  cls : ∃ cd, PySem.W.clsIn K C = some cd
  fn : ∃ (oc : Value) (od : Option Addr) (kV doc pm : Value) (an : Option Addr) (cda cc : Addr) (ct : Value) (osl : Array (Option Value)),
    fd = PySem.W.ksFn "__init__" qual (defArgs st) (defBody st) (defScope st) .none kV doc pm an (.ref cda) ct cc ∧ K.lookup f = some ⟨oc, od, .func fd, osl⟩ ∧ PySem.W.codeIn K (.ref cda) qual = true ∧
    (∃ ccl cdd vs ccs file tf, K.lookup cda = some ⟨ccl, cdd, .fields vs, ccs⟩ ∧ vs[2]? = some (.str file tf) ∧ ((P.main.file : Str) == file) = true) ∧
    ∃ cl cld csl, K.lookup cc = some ⟨cl, cld, .cell (some (.ref C)), csl⟩

/-- the context of an __init__ that closes over __class__ -/
def cxS (P : Program) (w : World) (K : PySem.W.Frag) (mg : Str → Option Value) (base : Heap) (N : List Str) (qual : Str) (scope : Scope) (f cda cc : Addr) (A : Around) (outer : List Env) (s : Shared) (H : Hp) (E : XK) : Cx where
  prog := P
  w := w
  K := K
  mg := mg
  base := base
  A := A.deeper (PySem.W.ksEnv qual scope s.heap.objs.size f (.ref cda) cc)
  N := N
  s_0 := s
  H_0 := H
  env := PySem.W.ksEnv qual scope s.heap.objs.size f (.ref cda) cc
  outer := outer
  stack := PySem.W.ksEnv qual scope s.heap.objs.size f (.ref cda) cc :: outer
  ex := []
  calm := true
  fn := fun _ => false
  pn := []
  xe := fun e s' => wpAny (model P w) (A.deeper (PySem.W.ksEnv qual scope s.heap.objs.size f (.ref cda) cc)) (leaving (PySem.W.ksEnv qual scope s.heap.objs.size f (.ref cda) cc) e) (fun _ s'' => L2.CX P w outer H s E e s'') (fun e' s'' => L2.CX P w outer H s E e' s'') s'
/-- the scope of such an __init__: its parameters, all local -/
structure ScS (N : List Str) (sc : Scope) : Prop where
  kind : sc.kind = .function
  co : sc.isCoroutine = false
  gen : sc.isGenerator = false
  nd : N.Nodup
  par : ∀ x ∈ N, sc.names.lookup x = some .local
  nocell : ∀ y ∈ sc.names, y.2 ≠ .cell
  onlyc : ∀ x, sc.names.lookup x = some .free → x = "__class__"
theorem bindsL_get : ∀ {ps : List Str} {us : List Value} {m : Str → Option Value} {i : Nat} {x : Str} {v : Value}, ps.Nodup → ps[i]? = some x → us[i]? = some v → ps.length = us.length → (ps.zip us).reverse.lookup x = some v
  | [], _, _, i, _, _, _, h, _, _ => by simp at h
  | p :: ps, [], _, _, _, _, _, _, _, h => by simp at h
  | p :: ps, u :: us, m, 0, x, v, nd, h1, h2, hl => by
    simp at h1 h2
    subst h1 h2
    have hn : p ∉ ps := (List.nodup_cons.mp nd).1
    rw [List.zip_cons_cons, List.reverse_cons, List.lookup_append]
    have e : (ps.zip us).reverse.lookup p = none := by
      rw [List.lookup_eq_none_iff]
      intro y hy
      have hy' := List.mem_reverse.mp hy
      have hm : y.1 ∈ ps := (List.of_mem_zip (a := y.1) (b := y.2) hy').1
      simp only [beq_eq_false_iff_ne, ne_eq, bne_iff_ne]
      exact fun z => hn (z ▸ hm)
    rw [e]
    simp [List.lookup]
  | p :: ps, u :: us, m, i + 1, x, v, nd, h1, h2, hl => by
    rw [List.zip_cons_cons, List.reverse_cons, List.lookup_append]
    rw [bindsL_get (m := m) (i := i) (List.nodup_cons.mp nd).2 (by simpa using h1) (by simpa using h2) (by simpa using hl)]
    rfl
theorem inv_startS {P : Program} {w : World} {K : PySem.W.Frag} {mg : Str → Option Value} {base : Heap} {N : List Str} {qual : Str} {scope : Scope} {f cda cc : Addr} {A : Around} {outer : List Env} {s : Shared} {H : Hp} {E : XK} {us : List Value} {vs : List V} {h1 : Heap} {tk : Nat} {cl : Value} {cld : Option Addr} {C : Addr} {csl : Array (Option Value)}
    (S : ScS N scope) (hd : A.handled = none) (e0 : Env0 P w K mg base A outer s H) (hl : vs.length = N.length) (r : Vals vs us) (hcc : K.lookup cc = some ⟨cl, cld, .cell (some (.ref C)), csl⟩)
    (hn : h1.Ns s.heap.objs.size (fun x => (N.zip us).reverse.lookup x)) (hk : ∀ b o, s.heap.get? b = some o → h1.get? b = some o) :
    Inv (cxS P w K mg base N qual scope f cda cc A outer s H E) [] (L2.start N vs) H { s with heap := h1, toks := tk } := by
  have noA : ∀ b : Addr, b ∉ (cxS P w K mg base N qual scope f cda cc A outer s H E).ex := fun b z => absurd (show b ∈ ([] : List Addr) from z) (by simp)
  have hb0 := e0.mod.kin cc _ hcc
  have hcs := (e0.bs cc _ hb0).1
  have lk : ∀ y c, (cxS P w K mg base N qual scope f cda cc A outer s H E).env.cells.lookup y = some c → y = "__class__" ∧ c = cc := fun y c h => by
    have h' : List.lookup y [(("__class__" : Str), cc)] = some c := h
    rw [List.lookup] at h'
    split at h'
    · rename_i e
      exact ⟨by simpa using e, (Option.some.inj h').symm⟩
    · simp at h'
  refine ⟨⟨e0.mod, S.kind, rfl, rfl, Nat.le_refl _, fun y z c h1 h2 => ?_, fun y hy => ?_, fun y c z _ => absurd (show false = true from z) Bool.false_ne_true, fun _ => hd, Around.frames_deeper e0.frames, .inr ⟨rfl, rfl⟩, fun b z => absurd z (noA b), e0.bs, e0.bsz, fun b _ _ => noA b, fun b z => absurd z (noA b), e0.funs, e0.frf⟩,
    rfl, e0.bare, Un.kept hk, ⟨_, hn, fun i y v h1 h2 h3 => ?_⟩, fun y c h => ?_, e0.hok.fresh (Nat.le_refl _), fun y c h => ?_, fun p hp => absurd (show p ∈ ([] : List (Addr × Obj)) from hp) (by simp), e0.hok.kept hk, ?_⟩
  · exact (lk y c h1).1.trans (lk z c h2).1.symm
  · have hy : scope.names.lookup y = some .cell ∨ scope.names.lookup y = some .free := hy
    rcases hy with hy | hy
    · exact absurd rfl (S.nocell _ (PySem.mem_of_lookup hy))
    · have e := S.onlyc y hy
      subst e
      exact ⟨cc, by show List.lookup ("__class__" : Str) [(("__class__" : Str), cc)] = some cc; simp [List.lookup]⟩
  · have h2' : (L2.start N vs)[i]? = some (some v) := h2
    have hi : i < vs.length := by
      unfold L2.start at h2'
      by_cases hi : i < vs.length
      · exact hi
      · rw [List.getElem?_append_right (by simpa using hi), List.getElem?_replicate] at h2'
        split at h2' <;> cases h2'
    have ha : vs[i]? = some v := by
      unfold L2.start at h2'
      rw [List.getElem?_append_left (by simpa using hi), List.getElem?_map] at h2'
      cases e : vs[i]? with
      | none => rw [e] at h2'; cases h2'
      | some a => rw [e] at h2'; cases h2'; rfl
    obtain ⟨u, hu, rv⟩ := r.get ha
    have h1' : N[i]? = some y := h1
    exact ⟨u, rv, .inl ⟨S.par y (List.mem_of_getElem? h1'), bindsL_get (m := fun _ => none) S.nd h1' hu (by rw [← hl]; exact r.length)⟩⟩
  · obtain ⟨_, rfl⟩ := lk y c h
    exact ⟨_, _, hk _ _ hcs, rfl⟩
  · obtain ⟨_, rfl⟩ := lk y c h
    exact (e0.bs _ _ hb0).2
  · unfold L2.start
    show _ = N.length
    rw [List.length_append, List.length_map, List.length_replicate]
    omega

/-- the statement super().__init__(e) -/
theorem sup_stmt {P : Program} {w : World} {K : PySem.W.Frag} {mg : Str → Option Value} {base : Heap} {N : List Str} {x qual : Str} {st : Stmt} {C f cda cc : Addr} {fd : FuncData} {A : Around} {outer : List Env} {s0 : Shared} {H0 : Hp} {E0 : XK} {EE : Value → Shared → Prop}
    {p0 p1 p2 p3 p4 : Pos} {e : Expr} {rest : List Stmt} {ta : TA} {a : Addr} {σ : L2.St} {H : Hp} {s : Shared} {body : List Stmt} {Q : Hp → Prop} {kV doc pm ct : Value} {an : Option Addr} {oc : Value} {od : Option Addr} {osl : Array (Option Value)}
    (S : ScS N (defScope st)) (T : XTxt P K mg x qual st C f fd) (hfd : fd = PySem.W.ksFn "__init__" qual (defArgs st) (defBody st) (defScope st) .none kV doc pm an (.ref cda) ct cc) (hf : K.lookup f = some ⟨oc, od, .func fd, osl⟩)
    (hcode : ∃ ccl cdd vs ccs file tf, K.lookup cda = some ⟨ccl, cdd, .fields vs, ccs⟩ ∧ vs[2]? = some (.str file tf) ∧ ((P.main.file : Str) == file) = true) (hcell : ∃ cl cld csl, K.lookup cc = some ⟨cl, cld, .cell (some (.ref C)), csl⟩)
    (hks : (defScope st).names.lookup ("super" : Str) = some .globalImplicit) (hkc : (defScope st).names.lookup ("__class__" : Str) = some .free) (harg : ∃ ar, ((defArgs st).posonlyargs ++ (defArgs st).args).head? = some ar ∧ ar.arg = ("self" : Str)) (hself : N[0]? = some ("self" : Str))
    (htop : (P.main.scope.names.lookup ("super" : Str)).isSome = false) {pl : Sem Bool}
    (hev : eval (.Call (.Attribute (.Call (.Name "super" p0) [] [] p1) "__init__" p2) [e] [] p3) (cxS P w K mg base N qual (defScope st) f cda cc A outer s0 H0 E0).env = (do
      let ov ← attributeBase (.Call (.Name "super" p0) [] [] p1) "__init__" (cxS P w K mg base N qual (defScope st) f cda cc A outer s0 H0 E0).env (eval (.Call (.Name "super" p0) [] [] p1) (cxS P w K mg base N qual (defScope st) f cda cc A outer s0 H0 E0).env)
      standAt p2.atName
      let (fx, first) ← holding [ov] (getMethod ov "__init__" pl)
      callWith p3 fx first (backTo p3 (starEach [e] (cxS P w K mg base N qual (defScope st) f cda cc A outer s0 H0 E0).env)) []))
    (hst : starEach [e] (cxS P w K mg base N qual (defScope st) f cda cc A outer s0 H0 E0).env = (false, eval e (cxS P w K mg base N qual (defScope st) f cda cc A outer s0 H0 E0).env) :: starEach [] (cxS P w K mg base N qual (defScope st) f cda cc A outer s0 H0 E0).env)
    (I : Inv (cxS P w K mg base N qual (defScope st) f cda cc A outer s0 H0 E0) [] σ H s) (hσ : σ[0]? = some (some (.ref a))) (hHa : H a = some (exo a C none))
    (ha : PA (cxS P w K mg base N qual (defScope st) f cda cc A outer s0 H0 E0).nox [e] ta) (h : ta σ H fun ws H' => ws.length ≤ 1000 ∧ H' a = some (exo a C none) ∧ Q H') :
    PySem.wpAt (model P w) (cxS P w K mg base N qual (defScope st) f cda cc A outer s0 H0 E0).A (.func body (cxS P w K mg base N qual (defScope st) f cda cc A outer s0 H0 E0).env)
      (exec (.Expr (.Call (.Attribute (.Call (.Name "super" p0) [] [] p1) "__init__" p2) [e] [] p3) p4) (cxS P w K mg base N qual (defScope st) f cda cc A outer s0 H0 E0).env) (fun fl s' => fl = .next ∧ ∃ H', Inv (cxS P w K mg base N qual (defScope st) f cda cc A outer s0 H0 E0) [] σ H' s' ∧ Q H') EE s := by
  obtain ⟨X, hX⟩ : ∃ X, X = cxS P w K mg base N qual (defScope st) f cda cc A outer s0 H0 E0 := ⟨_, rfl⟩
  have hXe : X.env = PySem.W.ksEnv qual (defScope st) s0.heap.objs.size f (.ref cda) cc := by rw [hX]; rfl
  rw [← hX] at I ha hev hst ⊢
  have hXP : X.prog = P := by rw [hX]; rfl
  have hXw : X.w = w := by rw [hX]; rfl
  have hXK : X.K = K := by rw [hX]; rfl
  have hXm : X.mg = mg := by rw [hX]; rfl
  have hXN : X.N = N := by rw [hX]; rfl
  subst hXP hXw hXK hXm
  refine ks_wpAt_Expr_any (ks_wpAt_MethodCall ?_ hev) I.quiet (by rw [hXe]; rfl)
  obtain ⟨ccl, cdd, vs, ccs, file, tf, hcda, hvs, hfile⟩ := hcode
  obtain ⟨cl, cld, csl, hcc⟩ := hcell
  obtain ⟨ar, hhead, harg⟩ := harg
  obtain ⟨cdC, hcdC⟩ := T.cls
  obtain ⟨hp, g, d, t, os⟩ := s
  have KX := I.kIn
  obtain ⟨oD, hD1, hD2⟩ : ∃ oD, hp.get? C = some oD ∧ oD.data = .cls cdC := by
    unfold PySem.W.clsIn at hcdC
    split at hcdC
    · rename_i c d cd' sl ho
      cases hcdC
      exact ⟨_, KX _ _ ho, rfl⟩
    · cases hcdC
  obtain ⟨t1, ho⟩ := exo_at I.hok hHa
  have hk1 : X.env.kindOf "super" = some .globalImplicit := by rw [hXe]; exact hks
  have hk2 : X.env.kindOf "__class__" = some .free := by rw [hXe]; exact hkc
  have hself' : X.N[0]? = some ("self" : Str) := by rw [hXN]; exact hself
  have hloc : X.env.scope.names.lookup ("self" : Str) = some .local := by rw [hXe]; exact S.par _ (List.mem_of_getElem? hself)
  have hk3 : X.env.kindOf ("self" : Str) = some .local := hloc
  rw [hXe]
  rw [hXe] at hk1 hk2 hk3
  refine ks_wpAt_super_base (env := PySem.W.ksEnv qual (defScope st) s0.heap.objs.size f (.ref cda) cc) hk1 hk2 (by decide) rfl (KX _ _ hf) rfl (by rw [hfd]; exact hhead) rfl (KX _ _ hcda) rfl hvs hfile htop ?_
  obtain ⟨mb, hb1, hb2⟩ := I.mod.blt
  refine PySem.W.ks_loadName_global S.kind hk1 (PySem.Calls.loadGlobal_builtin (I.mod.glob.keeps I.bk) T.sup (hb1.keeps I.bk) ((hb2 _ (by decide +kernel)).trans (by decide +kernel : bootBuiltins "super" = some (.type "super"))) ⟨rfl, ?_⟩)
  refine wpAny_loadName_free S.kind hk2 rfl ⟨_, KX _ _ hcc, rfl⟩ ?_
  rw [harg]
  obtain ⟨m, hns, hl⟩ := id I.loc
  obtain ⟨u, ru, hlk⟩ := hl 0 ("self" : Str) (.ref a) hself' hσ (.inl hloc)
  obtain rfl : u = Value.ref a := ru
  have hm : m ("self" : Str) = some (.ref a) := by
    rcases hlk with ⟨_, e⟩ | ⟨e, _⟩
    · exact e
    · rw [hXe] at e
      rw [hk3] at e
      rcases e with e | e <;> cases e
  rw [hXe] at hns
  refine wpAny_loadName_local S.kind hk3 hns hm ?_
  refine ks_wpAny_isType_cls hD1 hD2 ⟨rfl, ?_⟩
  refine ks_wpAny_call_super hD1 hD2 ho rfl (fun c e => by cases e) (PySem.W.looks_mroIn KX T.self) (fun h' eso k => ?_)
  have I1 : Inv X [] σ H ⟨h', g, d, t, os⟩ := I.kept (t' := t) k
  have KX1 := I1.kIn
  have hC : PySem.W.Looks (model X.prog X.w) h' (mroOf (.ref C)) cdC.mro := fun A Q E s k q => wpAny_bind ((PySem.W.looks_clsIn KX1 hcdC) A _ E s k (wpAny_pure q))
  have hal : PySem.W.alongIn X.K "__init__" ((cdC.mro.dropWhile (· != .ref C)).drop 1) = some (some (.builtin veInit)) := by
    have q := T.along
    unfold PySem.W.ks_superIn at q
    rw [hcdC] at q
    exact q
  have J : PySem.W.InstAt h' a { cls := .ref C, data := .fields #[.ref t1, .none, .none, .none, .bool false, .none] } C none := ⟨k _ _ ho, rfl, rfl, trivial⟩
  refine PySem.W.kxs_getMethod PySem.W.kxs_ValueError eso (PySem.W.looks_opaque KX1 T.opq) hC rfl KX1 hal (J.type.andThen (PySem.W.looks_subIn KX1 T.sub)) (PySem.W.ks_ne KX1 J hcdC) (by decide +kernel) ?_
  have hu : (h'.push (PySem.W.kxs_mw veInit a)).get? h'.objs.size = some (PySem.W.kxs_mw veInit a) := Heap.get?_push_at rfl rfl
  have I2 : Inv X [] σ H ⟨h'.push (PySem.W.kxs_mw veInit a), g, d, t + 1, os⟩ := I1.kept (t' := t + 1) (h' := h'.push (PySem.W.kxs_mw veInit a)) fun b o e => Heap.get?_push_of_some _ e
  have hfp := I1.fpOk (pins := []) (H' := H) (b := h'.objs.size) (Nat.le_refl _) (I1.hok.fresh (Nat.le_refl _))
  have I3 : Inv X [(h'.objs.size, PySem.W.kxs_mw veInit a)] σ H ⟨h'.push (PySem.W.kxs_mw veInit a), g, d, t + 1, os⟩ := I2.pins_of fun p hp => by
    have e : p = (h'.objs.size, PySem.W.kxs_mw veInit a) := by simpa using hp
    subst e
    exact ⟨hu, hfp.1, hfp.2.1, hfp.2.2.1, fun v z => by cases z⟩
  rw [hXe] at hst
  have hpl : (backTo p3 (starEach [] (PySem.W.ksEnv qual (defScope st) s0.heap.objs.size f (.ref cda) cc))).any (·.1) = false := rfl
  rw [hst]
  refine PySem.W.kxs_callWith (i := veInit) (x := a) (by show (false || (backTo p3 (starEach [] (PySem.W.ksEnv qual (defScope st) s0.heap.objs.size f (.ref cda) cc))).any (·.1)) = false; rw [hpl]; rfl) (Calls.evalArgs_plain ?_)
  have hrun := ha.run p3 [(h'.objs.size, PySem.W.kxs_mw veInit a)] _ σ H _ (I3.wish fun _ _ => False) h
  rw [hXe, hst] at hrun
  refine wpAny_mono hrun (fun us s1 hh => ?_) (fun _ _ z => False.elim z)
  obtain ⟨ws, H1, I4, rv, hwl, hHa1, q⟩ := hh
  have I5 := I4.unwish
  have hu5 := (I5.pin (h'.objs.size, PySem.W.kxs_mw veInit a) (by simp)).1
  refine ⟨hu5, ?_⟩
  refine call_mw T.oex (I5.pins_of (pins' := []) fun p hp => by cases hp) hHa1 ?_ hu5 fun s' I6 => ⟨rfl, H1, I6, q⟩
  show us.length ≤ sizeLine
  rw [← Paired.length rv, sizeLine_eq]
  omega
/-- such an __init__ by its body -/
theorem fnS_ok {P : Program} {w : World} {K : PySem.W.Frag} {mg : Str → Option Value} {base : Heap} {N : List Str} {x qual : Str} {st : Stmt} {C f : Addr} {fd : FuncData} {k : Nat} {sp : Sp} {p0 p1 p2 p3 p4 : Pos} {e : Expr} {rest : List Stmt} {ta : TA} {tr : TS}
    (S : ScS N (defScope st)) (T : XTxt P K mg x qual st C f fd) (hb : defBody st = .Expr (.Call (.Attribute (.Call (.Name "super" p0) [] [] p1) "__init__" p2) [e] [] p3) p4 :: rest)
    (hks : (defScope st).names.lookup ("super" : Str) = some .globalImplicit) (hkc : (defScope st).names.lookup ("__class__" : Str) = some .free) (harg : ∃ ar, ((defArgs st).posonlyargs ++ (defArgs st).args).head? = some ar ∧ ar.arg = ("self" : Str)) (hself : N[0]? = some ("self" : Str))
    (htop : (P.main.scope.names.lookup ("super" : Str)).isSome = false) (len : ∀ vs H Q E, sp vs H Q E → vs.length = N.length)
    (hev : ∀ (L cda cc : Addr), ∃ pl : Sem Bool, eval (.Call (.Attribute (.Call (.Name "super" p0) [] [] p1) "__init__" p2) [e] [] p3) (PySem.W.ksEnv qual (defScope st) L f (.ref cda) cc) = (do
      let ov ← attributeBase (.Call (.Name "super" p0) [] [] p1) "__init__" (PySem.W.ksEnv qual (defScope st) L f (.ref cda) cc) (eval (.Call (.Name "super" p0) [] [] p1) (PySem.W.ksEnv qual (defScope st) L f (.ref cda) cc))
      standAt p2.atName
      let (fx, first) ← holding [ov] (getMethod ov "__init__" pl)
      callWith p3 fx first (backTo p3 (starEach [e] (PySem.W.ksEnv qual (defScope st) L f (.ref cda) cc))) []))
    (hst : ∀ (L cda cc : Addr), starEach [e] (PySem.W.ksEnv qual (defScope st) L f (.ref cda) cc) = (false, eval e (PySem.W.ksEnv qual (defScope st) L f (.ref cda) cc)) :: starEach [] (PySem.W.ksEnv qual (defScope st) L f (.ref cda) cc))
    (ha : ∀ cda cc A outer s H E, PA (cxS P w K mg base N qual (defScope st) f cda cc A outer s H E).nox [e] ta) (hr : ∀ cda cc A outer s H E, PSs (cxS P w K mg base N qual (defScope st) f cda cc A outer s H E).nox rest tr)
    (hsp : ∀ vs H Q E, sp vs H Q E → ∃ a, vs[0]? = some (.ref a) ∧ H a = some (exo a C none) ∧ ta (L2.start N vs) H fun ws H' => ws.length ≤ 1000 ∧ H' a = some (exo a C none) ∧ tr { nx := fun _ H' => Q .non H', rt := Q } (L2.start N vs) H') :
    FnOk P w K mg base (L2.CX P w) (k + 1) f fd N sp := by
  refine ⟨len, fun A outer s H args us vs Q E hro e0 hbi r hq => ?_⟩
  have hl := len _ _ _ _ hq
  have KX : K.In s.heap := e0.mod.kin.keeps fun b o e => (e0.bs b o e).1
  have lim : s.heap.NoLimit := e0.mod.nolimit.keeps fun b o e => (e0.bs b o e).1
  obtain ⟨oc, od, kV, doc, pm, an, cda, cc, ct, osl, hfd, lk, hcd, hcode, hcell⟩ := T.fn
  obtain ⟨a, hv0, hHa, h⟩ := hsp _ _ _ _ hq
  have hfd' := hfd
  subst hfd
  refine ks_codeAny_call_defAt (fd := PySem.W.ksFn "__init__" qual (defArgs st) (defBody st) (defScope st) .none kV doc pm an (.ref cda) ct cc) (body := defBody st) (binds := N.zip us) hro.depth (KX _ _ lk) rfl lim (PySem.W.codeRec_of KX hcd) rfl hbi S.nocell
    (fun y hy => S.par _ (List.of_mem_zip (a := y.1) (b := y.2) hy).1) (fun h₁ hns hk₁ => ?_) S.co S.gen S.kind
  have hcell' := hcell
  obtain ⟨cl, cld, csl, hcc⟩ := hcell'
  have I : Inv (cxS P w K mg base N qual (defScope st) f cda cc A outer s H E) [] (L2.start N vs) H { s with heap := h₁, toks := s.toks + (N.zip us).length } := inv_startS (tk := s.toks + (N.zip us).length) S hro.hd e0 hl r hcc hns hk₁
  have hσ0 : (L2.start N vs)[0]? = some (some (.ref a)) := by
    unfold L2.start
    rw [List.getElem?_append_left (by rw [List.length_map]; exact (List.getElem?_eq_some_iff.mp hv0).1), List.getElem?_map, hv0]
    rfl
  obtain ⟨pl, hev'⟩ := hev s.heap.objs.size cda cc
  rw [hb]
  refine ks_wpAt_execs_cons ?_
  refine ks_wpAt_mono (sup_stmt (rest := rest) (body := .Expr (.Call (.Attribute (.Call (.Name "super" p0) [] [] p1) "__init__" p2) [e] [] p3) p4 :: rest) (ta := ta) (Q := fun H' => tr { nx := fun _ H' => Q .non H', rt := Q } (L2.start N vs) H')
    (EE := fun _ _ => False) S T hfd' lk hcode hcell hks hkc harg hself htop hev' (hst _ _ _) I hσ0 hHa (ha _ _ _ _ _ _ _) h) (fun fl s' hq' => ?_) (fun _ _ z => False.elim z)
  · obtain ⟨rfl, H1, I1, q1⟩ := hq'
    refine wpAt_of_wpAny ?_
    have run := (hr cda cc A outer s H E).run [] s' (L2.start N vs) H1 { nx := fun _ H' => Q .non H', rt := Q } (I1.wish _) q1
    refine wpAny_mono run (fun fl s2 hs => ?_) (fun _ _ z => False.elim z)
    have fin : ∀ {σ' : L2.St} {H' : Hp} {v : V} {u : Value}, Inv (cxS P w K mg base N qual (defScope st) f cda cc A outer s H E) [] σ' H' s2 → RelV v u → Q v H' → CE outer P w H s Q u s2 := fun {σ' H' v u} J rv q => ⟨v, H', J.os, J.bare, J.base, J.hok, rv, q⟩
    have hs' := SP.unwish hs
    cases fl with
    | next => obtain ⟨σ', H', J, q⟩ := hs'; exact fin (v := .non) (u := .none) J rfl q
    | ret u => obtain ⟨v, σ', H', J, rv, q⟩ := hs'; exact fin J rv q
    | brk => obtain ⟨σ', H', J, q⟩ := hs'; exact False.elim q
    | cont => obtain ⟨σ', H', J, q⟩ := hs'; exact False.elim q
end R
set_option Elab.async false
set_option linter.all false
set_option maxRecDepth 100000
set_option maxHeartbeats 1000000
namespace R
open PySem PySem.Spec L2
open PyProof.Rows hiding St
/-! ### defs and their calls -/
abbrev Mm := List U → Gs → Res U
def spR (κ : Ctx) (m : Mm) : Sp := fun vs H Q E => ∃ θ us g, Sim κ θ g H ∧ RelUs κ.K θ H us vs ∧ (m us g).post κ (RlU κ) θ H Q (fun c d H' => E c d H')
/-- a def with n parameters and k further names, by its body -/
def defM (n k : Nat) (f : Sx) : Mm := fun us g => if us.length = n then (match f (us.map some ++ List.replicate k none) g with
  | .nx _ g' => .ok .non g'
  | .rt u g' => .ok u g'
  | .exc c fs _ g' => .exc c fs g'
  | _ => .bad) else .bad
def callE (m : Mm) (d : List U) (a : Ea) : Ev := fun us g => (a us g).bind fun xs g1 => m (xs ++ d) g1
def call0 (m : Mm) (d : List U) : Ev := fun us g => match m d g with
  | .exc _ _ _ => .bad
  | r => r
section
variable {X : Cx} {κ : Ctx} {W : WX}
theorem defM_len {n k : Nat} {f : Sx} {us : List U} {g : Gs} (h : defM n k f us g ≠ .bad) : us.length = n := Classical.byContradiction fun q => h (by unfold defM; rw [if_neg q])
theorem post_bad {α β : Type} {Rl : List Addr → Hp → α → β → Prop} {θ : List Addr} {H : Hp} {Q : β → Hp → Prop} {Wx : Value → Option Addr → Hp → Prop} {r : Res α} (h : r.post κ Rl θ H Q Wx) : r ≠ .bad := fun e => by subst e; exact h
theorem relS_start {θ : List Addr} {H : Hp} {us : List U} {vs : List V} {N : List Str} {k : Nat} (hx : κ.ex = none) (r : RelUs κ.K θ H us vs) (hN : N.length = us.length + k) : RelS κ θ H (us.map some ++ List.replicate k none) (L2.start N vs) where
  len := by
    unfold L2.start
    have := r.length
    simp
    omega
  at' := fun i u e => by
    have hl := r.length
    by_cases hi : i < us.length
    · rw [List.getElem?_append_left (by simpa using hi), List.getElem?_map] at e
      cases q : us[i]? with
      | none => rw [q] at e; cases e
      | some w =>
        rw [q] at e
        cases e
        obtain ⟨v, e1, rv⟩ := r.get q
        refine ⟨v, ?_, rv⟩
        unfold L2.start
        rw [List.getElem?_append_left (by rw [List.length_map, ← hl]; exact hi), List.getElem?_map, e1]
        rfl
    · rw [List.getElem?_append_right (by simpa using hi), List.getElem?_replicate] at e
      split at e <;> cases e
  ex := fun x e => by rw [hx] at e; cases e
/-- THE RULE for a def -/
theorem fn_ok {P : Program} {w : World} {mg : Str → Option Value} {base : Heap} {x qual : Str} {st : Stmt} {f : Addr} {fd : FuncData} {N ps : List Str} {j n k : Nat} {b : Sx} (F : Fun κ.K x qual st f fd) (S : FnScope N ps (defScope st)) (hx : κ.ex = none) (hn : ps.length = n) (hk : N.length = n + k)
    (body : ∀ (cdv : Value) (A : Around) (outer : List Env) (s : Shared) (H : Hp) (E : XK), Room j (cxOf (L2.CX P w) P w κ.K mg base N qual (defScope st) f cdv A outer s H E).A → PSs (cxOf (L2.CX P w) P w κ.K mg base N qual (defScope st) f cdv A outer s H E) (defBody st) (RS κ (fun c d _ H => E c d H) b)) :
    FnOk P w κ.K mg base (L2.CX P w) (j + 1) f fd ps (spR κ (defM n k b)) := by
  refine F.okX S (fun vs H Q E h => ?_) (fun cdv A outer s H vs Q E hr h => ⟨_, body cdv A outer s H E hr, ?_⟩)
  · obtain ⟨θ, us, g, S, r, p⟩ := h
    rw [← r.length, defM_len (post_bad p), hn]
  · obtain ⟨θ, us, g, S, r, p⟩ := h
    have hl := defM_len (post_bad p)
    refine ⟨θ, us.map some ++ List.replicate k none, g, S, relS_start hx r (by omega), ?_⟩
    unfold defM at p
    rw [if_pos hl] at p
    cases e : b (us.map some ++ List.replicate k none) g with
    | nx us' g' => rw [e] at p; exact fun θ' H' σ' l s _ => p θ' H' .non l s relNon
    | rt u g' => rw [e] at p; exact fun θ' H' v l s r => p θ' H' v l s r
    | exc c fs us' g' => rw [e] at p; exact fun θ' H' σ' d gs l s _ q r => p θ' H' d gs l s q r
    | bk us' g' => rw [e] at p; exact p.elim
    | ct us' g' => rw [e] at p; exact p.elim
    | bad => rw [e] at p; exact p.elim
theorem re_call {x : Str} {p pos : Pos} {e : Expr} {es : List Expr} {f : Addr} {fd : FuncData} {ps : List Str} {j : Nat} {m : Mm} {d : List U} {dvs : List V} {ds : List Value} {a : Ea} (F : FnOk X.prog X.w X.K X.mg X.base (L2.CX X.prog X.w) j f fd ps (spR κ m)) (hr : Room j X.A) (hm : X.mg x = some (.ref f)) (hk : PySem.W.keepIn X.K (.ref f) = true)
    (hb : Binds X.K fd ps ds) (hd : Vals dvs ds) (rd : ∀ θ H, RelUs κ.K θ H d dvs) (tk : Takes X W) (ha : PA X (e :: es) (RA κ W a)) (hg : Gl X x := by rfl) (hdb : (x == ("__debug__" : Str)) = false := by decide) (he : starEach (e :: es) X.env = (false, eval e X.env) :: starEach es X.env := by rfl)
    (hpl : (backTo pos (starEach es X.env)).any (·.1) = false := by rfl) : PE X (.Call (.Name x p) (e :: es) [] pos) (RE κ W (callE m d a)) :=
  (pe_callSD (E := fun σ => WE W σ) F hr hg hm hk hb hd (fun σ => passAt tk σ) ha hdb he hpl).imp fun σ H Q h => by
    obtain ⟨θ, us, g, S, R, p⟩ := h
    exact RX.bind S R p fun xs g1 θ1 H1 vs l1 S1 R1 rx p1 => ⟨θ1, xs ++ d, g1, S1, RelUs.append rx (rd _ _), p1⟩
theorem re_call0 {x : Str} {p pos : Pos} {f : Addr} {fd : FuncData} {ps : List Str} {j : Nat} {m : Mm} {d : List U} {dvs : List V} {ds : List Value} (F : FnOk X.prog X.w X.K X.mg X.base (L2.CX X.prog X.w) j f fd ps (spR κ m)) (hr : Room j X.A) (hm : X.mg x = some (.ref f)) (hk : PySem.W.keepIn X.K (.ref f) = true)
    (hb : Binds X.K fd ps ds) (hd : Vals dvs ds) (rd : ∀ θ H, RelUs κ.K θ H d dvs) (hg : Gl X x := by rfl) (hdb : (x == ("__debug__" : Str)) = false := by decide) : PE X (.Call (.Name x p) [] [] pos) (RE κ W (call0 m d)) :=
  (pe_call0 F hr hg hm hk hb hd passL hdb).imp fun σ H Q h => by
    obtain ⟨θ, us, g, S, R, p⟩ := h
    refine ⟨θ, d, g, S, rd _ _, ?_⟩
    unfold call0 at p
    cases e : m d g with
    | ok u g1 => rw [e] at p; exact p
    | exc c fs g1 => rw [e] at p; exact p.elim
    | bad => rw [e] at p; exact p.elim

/-! ### making own exceptions -/
/-- what may stand in the f-string of such an error -/
def fmtU : U → Bool
  | .str s => decide (s.length ≤ 1000000)
  | .int i => decide (i.natAbs.log2 < 1920)
  | _ => false
def FmtV (v : V) : Prop := (∃ s : Str, v = .str s ∧ s.length ≤ 1000000) ∨ ∃ i : Int, v = .int i ∧ i.natAbs.log2 < 1920
theorem fmt_of {θ : List Addr} {H : Hp} {u : U} {v : V} (h : fmtU u = true) (r : RelU κ.K θ H u v) : FmtV v := by
  cases u with
  | str s => exact .inl ⟨s, relStr' r, of_decide_eq_true h⟩
  | int i => exact .inr ⟨i, relInt' r, of_decide_eq_true h⟩
  | _ => exact absurd h Bool.false_ne_true
/-- a part of an f-string that gives some text of no great length -/
def AnyStr (t : TE) (σ : L2.St) : Prop := ∀ (H : Hp) (k : VK), (∀ y : Str, y.length ≤ 1000000 → k (.str y) H) → t σ H k
theorem any_c {s : Str} {σ : L2.St} (h : s.length ≤ 1000000) : AnyStr (tC (.str s)) σ := fun H k q => q s h
theorem any_fmt {i : Nat} {σ : L2.St} {v : V} (e : σ[i]? = some (some v)) (h : FmtV v) : AnyStr (tFmt (tVar i)) σ := fun H k q => by
  refine ⟨v, e, ?_⟩
  rcases h with ⟨s, rfl, hl⟩ | ⟨i, rfl, hl⟩
  · exact .inl ⟨s, rfl, Nat.le_trans hl (by decide), q s hl⟩
  · exact .inr ⟨i, rfl, hl, q _ (Nat.le_trans (int_text_len_1921 hl) (by decide))⟩
theorem tJs_any {σ : L2.St} : ∀ {ts : List TE} {acc : Str} {H : Hp} {k : Str → Hp → Prop}, (∀ t ∈ ts, AnyStr t σ) → acc.length + 1000000 * ts.length ≤ 16000000 → (∀ out : Str, out.length ≤ 16000000 → k out H) → tJs ts acc σ H k
  | [], acc, H, k, _, hl, q => q acc (by simpa using hl)
  | t :: ts, acc, H, k, h, hl, q => h t List.mem_cons_self H _ fun y hy => by
    have e : (acc ++ y).length = acc.length + y.length := by
      show (acc.cps ++ y.cps).size = acc.cps.size + y.cps.size
      rw [Array.size_append]
    rw [List.length_cons] at hl
    refine ⟨y, rfl, Nat.le_trans (m := 16000000) (by rw [e]; omega) (by decide), tJs_any (fun t' ht => h t' (List.mem_cons_of_mem _ ht)) (by rw [e]; omega) q⟩
/-- one field, two fields -/
def spI1 (C : Addr) (f1 : Str) : Sp := fun vs H Q _ => ∃ (a : Addr) (v : V), vs = [.ref a, v] ∧ H a = some (exo a C none) ∧ FmtV v ∧ ∀ dx, H dx = none → dx ≠ a → Q .non (upd (upd H dx (exd dx [(f1, v)])) a (exo a C (some dx)))
def spI2 (C : Addr) (f1 f2 : Str) : Sp := fun vs H Q _ => ∃ (a : Addr) (v v2 : V), vs = [.ref a, v, v2] ∧ H a = some (exo a C none) ∧ FmtV v ∧ FmtV v2 ∧ ∀ dx, H dx = none → dx ≠ a → Q .non (upd (upd (upd H dx (exd dx [(f1, v)])) a (exo a C (some dx))) dx (exd dx [(f2, v2), (f1, v)]))
theorem exd_exo {a e C : Addr} {d : Option Addr} {fs : List (Str × V)} {H : Hp} (h : H a = some (exo a C d)) (h' : H e = some (exd e fs)) : True := trivial
/-- the readings of the stores -/
theorem rest1 {K : PySem.W.Frag} {C : Addr} {f1 : Str} {a : Addr} {v : V} {σ : L2.St} {H : Hp} {Q : VK} (T : OexC K C) (hno : PySem.W.findIn K (.ref C) f1 = some none) (e0 : σ[0]? = some (some (.ref a))) (e1 : σ[1]? = some (some v)) (ha : H a = some (exo a C none))
    (h : ∀ dx, H dx = none → dx ≠ a → Q .non (upd (upd H dx (exd dx [(f1, v)])) a (exo a C (some dx)))) : tOst K f1 (tVar 0) (tVar 1) { nx := fun _ H' => Q .non H', rt := Q } σ H :=
  ⟨v, e1, .ref a, e0, a, C, rfl, T, hno, .inl ⟨ha, fun dx hd hne => h dx hd hne⟩⟩
theorem rest2 {K : PySem.W.Frag} {C : Addr} {f1 f2 : Str} {a : Addr} {v v2 : V} {σ : L2.St} {H : Hp} {Q : VK} (T : OexC K C) (hno : PySem.W.findIn K (.ref C) f1 = some none) (hno2 : PySem.W.findIn K (.ref C) f2 = some none) (e0 : σ[0]? = some (some (.ref a))) (e1 : σ[1]? = some (some v)) (e2 : σ[2]? = some (some v2)) (ha : H a = some (exo a C none))
    (h : ∀ dx, H dx = none → dx ≠ a → Q .non (upd (upd (upd H dx (exd dx [(f1, v)])) a (exo a C (some dx))) dx (exd dx [(f2, v2), (f1, v)]))) : tSeq (tOst K f1 (tVar 0) (tVar 1)) (tOst K f2 (tVar 0) (tVar 2)) { nx := fun _ H' => Q .non H', rt := Q } σ H :=
  ⟨v, e1, .ref a, e0, a, C, rfl, T, hno, .inl ⟨ha, fun dx hd hne => ⟨v2, e2, .ref a, e0, a, C, rfl, T, hno2, .inr ⟨dx, [(f1, v)], upd_same, by rw [upd_ne hne]; exact upd_same, by show 1 ≤ 900; decide, h dx hd hne⟩⟩⟩⟩
/-- raise C(..): the class by its number, the fields by their names -/
def raiseE (c : Nat) (names : List Str) (a : Ea) : Sx := fun us g => (a us g).thn us fun xs g1 => if xs.length = names.length ∧ xs.all fmtU = true then .exc c ((names.zip xs).reverse) us g1 else .bad
theorem del_upds {H : Hp} {a d : Addr} {o o' o2 : HO} {w : HO} (ha : H a = none) (hne : d ≠ a) : upd (del (upd (upd (upd H a o) d o2) a o') a) d w = upd H d w := by
  funext b
  by_cases hd : b = d
  · rw [hd, upd_same, upd_same]
  · rw [upd_ne hd, upd_ne hd]
    by_cases hb : b = a
    · rw [hb, del_same, ha]
    · rw [del_ne hb, upd_ne hb, upd_ne hd, upd_ne hb]
theorem del_upds2 {H : Hp} {a d : Addr} {o o' o2 o3 : HO} {w : HO} (ha : H a = none) (hne : d ≠ a) : upd (del (upd (upd (upd (upd H a o) d o2) a o') d o3) a) d w = upd H d w := by
  funext b
  by_cases hd : b = d
  · rw [hd, upd_same, upd_same]
  · rw [upd_ne hd, upd_ne hd]
    by_cases hb : b = a
    · rw [hb, del_same, ha]
    · rw [del_ne hb, upd_ne hd, upd_ne hb, upd_ne hd, upd_ne hb]
theorem rs_raise1 {x : Str} {p pos pos2 : Pos} {e : Expr} {es : List Expr} {c : Nat} {fI : Addr} {k : Nat} {fd : FuncData} {ps : List Str} {f1 : Str} {a : Ea} (hc : X.calm = true) (tk : Takes X W) (T : OexC X.K (κ.C c)) (iC : PySem.W.findIn X.K (.ref (κ.C c)) "__init__" = some (some (.ref fI))) (tI : PySem.W.typeIn X.K (.ref fI) = some (.type "function"))
    (F1 : FnOk X.prog X.w X.K X.mg X.base (L2.CX X.prog X.w) k fI fd ps (spI1 (κ.C c) f1)) (hr : Room (k + 1) X.A) (hb : Binds X.K fd ps []) (hm : X.mg x = some (.ref (κ.C c))) (ha : PA X (e :: es) (RA κ W a)) (hg : Gl X x := by rfl)
    (hdb : (x == ("__debug__" : Str)) = false := by decide) (he : starEach (e :: es) X.env = (false, eval e X.env) :: starEach es X.env := by rfl) (hpl : (backTo pos (starEach es X.env)).any (·.1) = false := by rfl) :
    PS X (.Raise (some (.Call (.Name x p) (e :: es) [] pos)) none pos2) (RS κ W (raiseE c [f1] a)) :=
  (ps_raise hc tk (pmk_oex (dvs := []) (ds := []) T iC tI F1 hr hb .nil passL hg hm ha hdb he hpl)).imp fun D σ H h => by
    obtain ⟨θ, us, g, S, R, p⟩ := h
    refine RX.thn S R p fun xs g1 θ1 H1 vs l1 S1 R1 rx p1 => ?_
    split at p1
    · rename_i hx
      obtain ⟨hl, hf⟩ := hx
      match xs, hl, hf, rx, p1 with
      | [u], _, hf, rx, p1 =>
        obtain ⟨v, rfl, r1⟩ := relUs1 rx
        refine ⟨by show 1 ≤ 1000; decide, fun q hq => ?_⟩
        have hfu : fmtU u = true := by simpa using hf
        refine ⟨q, v, rfl, upd_same, fmt_of hfu r1, fun dx hdx hne => ⟨rfl, dx, [(f1, v)], upd_same, by rw [upd_ne hne]; exact upd_same, by rw [upd_ne hne] at hdx; exact hdx, ?_⟩⟩
        rw [upd_ne hne] at hdx
        rw [del_upds hq hne]
        obtain ⟨l2, S2⟩ := S1.other (o := .xd [(f1, v)]) hdx
        exact p1 θ1 _ σ dx _ l2 S2 (R1.le S1 l2) upd_same ⟨rfl, RelUs.cons (r1.le S1 l2) RelUs.nil⟩
    · exact p1.elim
theorem rs_raise2 {x : Str} {p pos pos2 : Pos} {e : Expr} {es : List Expr} {c : Nat} {fI : Addr} {k : Nat} {fd : FuncData} {ps : List Str} {f1 f2 : Str} {a : Ea} (hc : X.calm = true) (tk : Takes X W) (T : OexC X.K (κ.C c)) (iC : PySem.W.findIn X.K (.ref (κ.C c)) "__init__" = some (some (.ref fI))) (tI : PySem.W.typeIn X.K (.ref fI) = some (.type "function"))
    (F1 : FnOk X.prog X.w X.K X.mg X.base (L2.CX X.prog X.w) k fI fd ps (spI2 (κ.C c) f1 f2)) (hr : Room (k + 1) X.A) (hb : Binds X.K fd ps []) (hm : X.mg x = some (.ref (κ.C c))) (ha : PA X (e :: es) (RA κ W a)) (hg : Gl X x := by rfl)
    (hdb : (x == ("__debug__" : Str)) = false := by decide) (he : starEach (e :: es) X.env = (false, eval e X.env) :: starEach es X.env := by rfl) (hpl : (backTo pos (starEach es X.env)).any (·.1) = false := by rfl) :
    PS X (.Raise (some (.Call (.Name x p) (e :: es) [] pos)) none pos2) (RS κ W (raiseE c [f1, f2] a)) :=
  (ps_raise hc tk (pmk_oex (dvs := []) (ds := []) T iC tI F1 hr hb .nil passL hg hm ha hdb he hpl)).imp fun D σ H h => by
    obtain ⟨θ, us, g, S, R, p⟩ := h
    refine RX.thn S R p fun xs g1 θ1 H1 vs l1 S1 R1 rx p1 => ?_
    split at p1
    · rename_i hx
      obtain ⟨hl, hf⟩ := hx
      match xs, hl, hf, rx, p1 with
      | [u, u2], _, hf, rx, p1 =>
        obtain ⟨v, v2, rfl, r1, r2⟩ := relUs2 rx
        refine ⟨by show 2 ≤ 1000; decide, fun q hq => ?_⟩
        have hfu : fmtU u = true ∧ fmtU u2 = true := by simpa using hf
        refine ⟨q, v, v2, rfl, upd_same, fmt_of hfu.1 r1, fmt_of hfu.2 r2, fun dx hdx hne => ⟨rfl, dx, [(f2, v2), (f1, v)], by rw [upd_ne (Ne.symm hne)]; exact upd_same, upd_same, by rw [upd_ne hne] at hdx; exact hdx, ?_⟩⟩
        rw [upd_ne hne] at hdx
        rw [del_upds2 hq hne]
        obtain ⟨l2, S2⟩ := S1.other (o := .xd [(f2, v2), (f1, v)]) hdx
        exact p1 θ1 _ σ dx _ l2 S2 (R1.le S1 l2) upd_same ⟨rfl, RelUs.cons (r2.le S1 l2) (RelUs.cons (r1.le S1 l2) RelUs.nil)⟩
    · exact p1.elim
end
end R
set_option Elab.async false
set_option linter.all false
set_option maxRecDepth 100000
set_option maxHeartbeats 1000000
namespace R
open PySem PySem.Spec L2
open PyProof.Rows hiding St
/-! ### try .. except A as n .. except B as m .. -/
/-- a clause: the class that it names, the slot of its name, its suite's reading -/
structure Cl where
  c : Value
  i : Nat
  ts : Addr → Value → Option Addr → TS
/-- the ends of a suite: its name goes -/
def endsAt (i : Nat) (D : Ends) : Ends := { nx := fun σ' H' => D.nx (σ'.set i none) H', rt := D.rt, bk := fun σ' H' => D.bk (σ'.set i none) H', ct := fun σ' H' => D.ct (σ'.set i none) H' }
def wCls (K : PySem.W.Frag) (Wout : WX) (D : Ends) : List Cl → WX
  | [] => Wout
  | k :: r => fun cls d σ H => ∃ b, PySem.W.exmOne K cls k.c = some b ∧ (b = true → ∀ a, H a = none → k.ts a cls d (endsAt k.i D) (σ.set k.i (some (.ref a))) H) ∧ (b = false → wCls K Wout D r cls d σ H)
inductive ClsOk (X : Cx) : List ExceptHandler → List Cl → Prop
  | nil : ClsOk X [] []
  | cons {x n : Str} {k : Cl} {b₀ : Stmt} {suite : List Stmt} {np pos' : Pos} {hds : List ExceptHandler} {l : List Cl} (hi : X.N[k.i]? = some n) (hln : X.env.kindOf n = some .local) (hc : Names X x k.c)
      (hsu : ∀ (a : Addr) (oe : Obj) (cls : Value) (d : Option Addr) (pn : List (Addr × Obj)), Zc cls d oe → (∃ vs, oe.data = .fields vs) → PSs (X.suite a ((a, oe) :: pn)) (b₀ :: suite) (k.ts a cls d)) (r : ClsOk X hds l) :
      ClsOk X (.ExceptHandler (some (.Name x np)) (some n) (b₀ :: suite) pos' :: hds) (k :: l)
section
variable {X : Cx} {body : List Stmt} {h₀ : ExceptHandler} {hds : List ExceptHandler} {l : List Cl} {pos : Pos} {tb : WX → TS} {Wout : WX}
theorem ps_tryN (hs : X.stack = X.env :: X.outer) (hf : X.env.frame = some X.env.locals) (hN : X.N.Nodup) (tk : Takes X Wout)
    (hb : ∀ (W : WX) (pn : List (Addr × Obj)) (xe : Value → Shared → Prop), Takes (X.tr pn xe) W → PassesOwn (model X.prog X.w) X.A X.env xe → PSs (X.tr pn xe) body (tb W)) (hh : ClsOk X (h₀ :: hds) l) :
    PS X (.Try body (h₀ :: hds) [] [] pos) (fun D σ H => tb (wCls X.K Wout D l) D σ H) := by
  refine ⟨fun pins s σ H D I h => ?_⟩
  have ok := I.ok
  have frames : X.A.frames = some (X.env :: X.outer) := by rw [ok.frames, hs]
  refine wpAny_Try_except ?_
  refine wpAny_mono ((hb (wCls X.K Wout D l) (X.pn ++ pins) (fun e s₁ => wpAny (model X.prog X.w) X.A (noteFrame e X.env) (fun _ s₂ => wpAny (model X.prog X.w) X.A (setFlight e none) (fun _ s₃ =>
    wpAny (model X.prog X.w) X.A (handleBy e X.env (h₀ :: hds)) (SP X pins D) X.xe s₃) X.xe s₂) X.xe s₁) (fun u s' air => ?_) PassesOwn.looking).run [] s σ H D (I.toTry _) h) (fun f s1 hsp => ?_) (fun e s1 he => he)
  · -- an exception of the body
    obtain ⟨a, B, sI, pins', σ', H', cls, d, rfl, J', nb, up, sky, na, os, ag, wish⟩ := air
    have J : Inv X pins σ' H' sI := J'.ofTry ok
    have sky' : Sky B (X.env :: X.outer) a (Zc cls d) X.env.locals s'.heap := by rw [← hs]; exact sky
    show wpAny (model X.prog X.w) X.A (noteFrame (.ref a) X.env) _ _ _
    refine Sky.land Zc.steady frames hf sky' fun h3 fl3 up3 => ?_
    have J3 : Inv X pins σ' H' { s' with heap := h3 } := J.landed nb fl3.1 (up.trans up3) os ag
    obtain ⟨oe3, vs3, he3, hz3, hd3⟩ := fl3.there
    have nfr : a ∉ frs (X.env :: X.outer) := fun hm => by
      obtain ⟨_, o', e', hnf⟩ := fl3.2.2.1.mem hm
      rw [he3] at e'; cases e'
      exact hnf _ hd3
    have nL : a ≠ X.env.locals := fun z => nfr (List.mem_filterMap.mpr ⟨X.env, List.mem_cons_self, by rw [hf, z]⟩)
    have nF : a ∉ X.fs := fun hm => by
      obtain ⟨e, he, q⟩ := List.mem_filterMap.mp hm
      exact nfr (List.mem_filterMap.mpr ⟨e, List.mem_cons_of_mem _ he, q⟩)
    have S3 := J3.suite he3 hd3 na nL nF
    have go : ∀ {hds' : List ExceptHandler} {l' : List Cl}, ClsOk X hds' l' → wCls X.K Wout D l' cls d σ' H' → wpAny (model X.prog X.w) X.A (handleBy (.ref a) X.env hds') (SP X pins D) X.xe { s' with heap := h3 } := by
      intro hds' l' hk
      induction hk with
      | nil =>
        intro w
        refine wpAny_handleBy_nil ?_
        obtain ⟨k1, k2, k3, oe, vs, T, oT, ts', he, hz, hd, h1, hr⟩ := id fl3
        unfold PySem.passOn
        refine wpAny_bind (wpAny_field he hd h1 ?_)
        rw [if_neg (show ¬ ((Value.ref T == Value.none) = true) from by simp)]
        have on : wpAny (model X.prog X.w) X.A (setFlight (.ref a) X.env.frame) (fun _ s4 => wpAny (model X.prog X.w) X.A (throw (.ref a) : Sem Flow) (SP X pins D) X.xe s4) X.xe { s' with heap := h3 } := by
          rw [hf]
          refine HandSPX.setFlight_upZ fl3 fun h4 hh4 up4 => wpAny_throw (tk _ _ ?_)
          exact ⟨a, B, sI, pins, σ', H', cls, d, rfl, J, nb, (up.trans up3).trans up4, .inr (.inr (by rw [hs]; exact hh4)), na, os, ag, w⟩
        first
          | exact wpAny_bind (wpAny_pure (wpAny_bind on))
          | exact wpAny_bind on
      | @cons x n k b₀ suite np pos' hds2 l2 hi hln hc hsu r ih =>
        intro w
        obtain ⟨b, hb1, hyes, hno⟩ := w
        refine wpAny_handleBy_cons (codeAny_handlers_test ?_) (by intro q; cases q)
        have LT : PySem.W.Looks (model X.prog X.w) h3 (typeOf (.ref a)) cls := fun A Q E s kk q => wpAny_typeOf_ref (kk _ _ he3) (by rw [hz3.1]; exact q)
        have LM := PySem.W.exm_one (M := model X.prog X.w) (J3.kIn) LT hb1
        have nm : ∀ {Q : Value → Shared → Prop} {E : Value → Shared → Prop}, Q k.c { s' with heap := h3 } → wpAny (model X.prog X.w) (X.A.mark (some (.ref a))) (eval (.Name x np) X.env) Q E { s' with heap := h3 } := fun {Q E} q => by
          obtain ⟨hg, hdbg, hm | ⟨hm, hv, hnn⟩⟩ := hc
          · exact ld_glob (X := X.suite a ((a, oe3) :: (X.pn ++ pins))) S3 hg hm q hdbg
          · exact ld_blt (X := X.suite a ((a, oe3) :: (X.pn ++ pins))) S3 hg hm hv q hnn hdbg
        refine nm (LM.here ?_)
        cases b with
        | false =>
          show wpAny _ X.A (handleBy (.ref a) X.env hds2) _ _ _
          exact ih (hno rfl)
        | true =>
          refine codeAny_handlers_suite_as ?_
          refine HandSPX.lands_againZ fl3 fun h4 fl4 up4 => ?_
          have J4 : Inv X pins σ' H' { s' with heap := h4 } := J.landed nb fl4.1 ((up.trans up3).trans up4) os ag
          obtain ⟨oe4, vs4, he4, hz4, hd4⟩ := fl4.there
          have S4 := J4.suite he4 hd4 na nL nF
          refine store_ok (X := X.suite a ((a, oe4) :: (X.pn ++ pins))) (v := .ref a) S4 hN hi (.inl hln) rfl (fun s5 S5 => ?_) (.inr hln)
          refine wpAny_mono ((hsu a oe4 cls d (X.pn ++ pins) hz4 ⟨_, hd4⟩).run [] s5 _ H' _ S5 (hyes rfl a na)) (fun f s6 hsp => ?_) (fun _ _ z => False.elim z)
          have gone : ∀ {σ6 : L2.St} {H6 : Hp} {Q : Shared → Prop}, Inv (X.suite a ((a, oe4) :: (X.pn ++ pins))) [] σ6 H6 s6 → (∀ s7, Inv X pins (σ6.set k.i none) H6 s7 → Q s7) →
              wpAny (model X.prog X.w) X.A (do bindName X.env n .none; unbindBehindTheSuite X.env n pos') (fun _ s7 => Q s7) X.xe s6 := fun {σ6 H6 Q} S6 hq => gone_ok (S6.unsuite ok) hN hi hln hq
          cases f with
          | next =>
            obtain ⟨σ6, H6, S6, q6⟩ := hsp
            exact gone S6 fun s7 J7 => ⟨_, _, J7, q6⟩
          | brk =>
            obtain ⟨σ6, H6, S6, q6⟩ := hsp
            exact gone S6 fun s7 J7 => ⟨_, _, J7, q6⟩
          | cont =>
            obtain ⟨σ6, H6, S6, q6⟩ := hsp
            exact gone S6 fun s7 J7 => ⟨_, _, J7, q6⟩
          | ret u =>
            obtain ⟨v6, σ6, H6, S6, r6, q6⟩ := hsp
            exact gone S6 fun s7 J7 => ⟨_, _, _, J7, r6, q6⟩
    exact go hh wish
  · cases f with
    | next =>
      obtain ⟨σ', H', J', q⟩ := hsp
      exact wpAny_execs_nil ⟨σ', H', J'.ofTry ok, q⟩
    | brk =>
      obtain ⟨σ', H', J', q⟩ := hsp
      exact ⟨σ', H', J'.ofTry ok, q⟩
    | cont =>
      obtain ⟨σ', H', J', q⟩ := hsp
      exact ⟨σ', H', J'.ofTry ok, q⟩
    | ret u =>
      obtain ⟨v, σ', H', J', r, q⟩ := hsp
      exact ⟨v, σ', H', J'.ofTry ok, r, q⟩
end
/-! ### the same in the plain machine -/
/-- a clause: does it take an error of the class numbered c; its name's slot; its suite, given the error -/
structure Pc where
  takes : Nat → Bool
  i : Nat
  suite : Nat → List (Str × U) → Sx
/-- behind a suite its name is gone -/
def goneS (i : Nat) : SR → SR
  | .nx us g => .nx (us.set i none) g
  | .bk us g => .bk (us.set i none) g
  | .ct us g => .ct (us.set i none) g
  | r => r
def catchE (ncls : Nat) : List Pc → Nat → List (Str × U) → Us → Gs → SR
  | [], c, fs, us, g => .exc c fs us g
  | k :: r, c, fs, us, g => if c < ncls ∧ k.i < us.length then (if k.takes c = true then (match k.suite c fs (us.set k.i none) g with
      | .exc _ _ _ _ => .bad
      | q => goneS k.i q) else catchE ncls r c fs us g) else .bad
def tryE (ncls : Nat) (body : Sx) (l : List Pc) : Sx := fun us g => match body us g with
  | .exc c fs us1 g1 => catchE ncls l c fs us1 g1
  | r => r
/-- in a suite: the error is in hand -/
def Ctx.at (κ : Ctx) (i : Nat) (a dd : Addr) (c : Nat) (fs : List (Str × U)) : Ctx := { κ with ex := some ⟨i, a, dd, c, fs⟩ }
/-- what a suite's reading is -/
def tsOf (κ : Ctx) (k : Pc) (ncls : Nat) : Addr → Value → Option Addr → TS := fun a cls d D σ H => ∃ (c : Nat) (fs : List (Str × U)) (dd : Addr), c < ncls ∧ k.takes c = true ∧ cls = .ref (κ.C c) ∧ d = some dd ∧ RS (κ.at k.i a dd c fs) Wn (k.suite c fs) D σ H
section
variable {X : Cx} {κ : Ctx} {W : WX}
theorem relS_gone {κ' : Ctx} {θ : List Addr} {H : Hp} {us : Us} {σ : L2.St} {i : Nat} {o : Option V} (hK : κ'.K = κ.K) (hx : κ.ex = none) (R : RelS κ' θ H us σ) : RelS κ θ H (us.set i none) (σ.set i o) where
  len := by simpa using R.len
  at' := fun j u e => by
    by_cases hj : i = j
    · subst hj
      by_cases hl : i < us.length
      · rw [List.getElem?_set_self hl] at e; cases e
      · rw [List.getElem?_eq_none (by simpa using hl)] at e; cases e
    · rw [List.getElem?_set_ne hj] at e
      obtain ⟨v, e1, r⟩ := R.at' j u e
      rw [hK] at r
      exact ⟨v, by rw [List.getElem?_set_ne hj]; exact e1, r⟩
  ex := fun x e => by rw [hx] at e; cases e
theorem sim_at {θ : List Addr} {g : Gs} {H : Hp} {i : Nat} {a dd : Addr} {c : Nat} {fs : List (Str × U)} : Sim (κ.at i a dd c fs) θ g H ↔ Sim κ θ g H := by
  constructor
  · intro S
    exact ⟨S.len, S.nd, fun n ce b h1 h2 => by have q := S.ok n ce b h1 h2; cases ce <;> exact q⟩
  · intro S
    exact ⟨S.len, S.nd, fun n ce b h1 h2 => by have q := S.ok n ce b h1 h2; cases ce <;> exact q⟩
/-- the clauses' wishes out of the run -/
theorem catch_ok {ncls : Nat} {D : Ends} (hx : κ.ex = none) : ∀ {l : List Pc} {vs : List Value}, (hvs : vs.length = l.length) → (∀ (j : Nat) (k : Pc) (v : Value), l[j]? = some k → vs[j]? = some v → ∀ c, c < ncls → PySem.W.exmOne κ.K (.ref (κ.C c)) v = some (k.takes c)) →
    ∀ {c : Nat} {fs : List (Str × U)} {us : Us} {g : Gs} {θ : List Addr} {H : Hp} {σ : L2.St} {d : Addr} {gs : List (Str × V)}, Sim κ θ g H → RelS κ θ H us σ → H d = some (.xd gs) → RelF κ.K θ H fs gs → (catchE ncls l c fs us g).post κ θ H D W →
      wCls κ.K W D (List.zipWith (fun k v => ⟨v, k.i, tsOf κ k ncls⟩) l vs) (.ref (κ.C c)) (some d) σ H
  | [], _, _, _, c, fs, us, g, θ, H, σ, d, gs, S, R, hd, rf, p => p θ H σ d gs (Le.refl _ _) S R hd rf
  | k :: l, [], hvs, _, c, fs, us, g, θ, H, σ, d, gs, S, R, hd, rf, p => by simp at hvs
  | k :: l, v :: vs, hvs, hm, c, fs, us, g, θ, H, σ, d, gs, S, R, hd, rf, p => by
    unfold catchE at p
    split at p
    · rename_i hcc
      obtain ⟨hc, hlt⟩ := hcc
      refine ⟨k.takes c, hm 0 k v rfl rfl c hc, fun hb a na => ?_, fun hb => ?_⟩
      · rw [if_pos hb] at p
        refine ⟨c, fs, d, hc, hb, rfl, rfl, θ, us.set k.i none, g, sim_at.mpr S, ?_, ?_⟩
        · have q := relS_gone (κ := κ) (κ' := κ) (i := k.i) (o := some (.ref a)) rfl hx R
          refine ⟨q.len, q.at', fun x e => ?_⟩
          have ex : x = ⟨k.i, a, d, c, fs⟩ := (Option.some.inj e).symm
          subst ex
          exact ⟨by rw [List.getElem?_set_self hlt], by rw [List.getElem?_set_self (by rw [← R.len]; exact hlt)], gs, hd, rf⟩
        · cases e : k.suite c fs (us.set k.i none) g with
          | nx us' g' => rw [e] at p; exact fun θ' H' σ' l s r => p θ' H' _ l (sim_at.mp s) (relS_gone (κ' := κ.at k.i a d c fs) rfl hx r)
          | bk us' g' => rw [e] at p; exact fun θ' H' σ' l s r => p θ' H' _ l (sim_at.mp s) (relS_gone (κ' := κ.at k.i a d c fs) rfl hx r)
          | ct us' g' => rw [e] at p; exact fun θ' H' σ' l s r => p θ' H' _ l (sim_at.mp s) (relS_gone (κ' := κ.at k.i a d c fs) rfl hx r)
          | rt u g' => rw [e] at p; exact fun θ' H' v l s r => p θ' H' v l (sim_at.mp s) r
          | exc _ _ _ _ => rw [e] at p; exact p.elim
          | bad => rw [e] at p; exact p.elim
      · rw [if_neg (by rw [hb]; exact Bool.false_ne_true)] at p
        exact catch_ok hx (by simpa using hvs) (fun j k' v' h1 h2 => hm (j + 1) k' v' (by simpa using h1) (by simpa using h2)) S R hd rf p
    · exact p.elim
theorem rs_try {body : List Stmt} {h₀ : ExceptHandler} {hds : List ExceptHandler} {pos : Pos} {ncls : Nat} {f : Sx} {l : List Pc} {vs : List Value} (hK : X.K = κ.K) (hx : κ.ex = none) (hs : X.stack = X.env :: X.outer) (hf : X.env.frame = some X.env.locals) (hN : X.N.Nodup) (tk : Takes X W)
    (hb : ∀ (W : WX) (pn : List (Addr × Obj)) (xe : Value → Shared → Prop), Takes (X.tr pn xe) W → PassesOwn (model X.prog X.w) X.A X.env xe → PSs (X.tr pn xe) body (RS κ W f))
    (hvs : vs.length = l.length) (hm : ∀ (j : Nat) (k : Pc) (v : Value), l[j]? = some k → vs[j]? = some v → ∀ c, c < ncls → PySem.W.exmOne κ.K (.ref (κ.C c)) v = some (k.takes c))
    (hh : ClsOk X (h₀ :: hds) (List.zipWith (fun k v => ⟨v, k.i, tsOf κ k ncls⟩) l vs)) :
    PS X (.Try body (h₀ :: hds) [] [] pos) (RS κ W (tryE ncls f l)) := by
  have q := ps_tryN (pos := pos) hs hf hN tk hb hh
  refine ⟨fun pins s σ H D I h => q.run pins s σ H D I ?_⟩
  obtain ⟨θ, us, g, S, R, p⟩ := h
  refine ⟨θ, us, g, S, R, ?_⟩
  unfold tryE at p
  cases e : f us g with
  | nx us' g' => rw [e] at p; exact p
  | bk us' g' => rw [e] at p; exact p
  | ct us' g' => rw [e] at p; exact p
  | rt u g' => rw [e] at p; exact p
  | bad => rw [e] at p; exact p
  | exc c fs us1 g1 =>
    rw [e] at p
    intro θ' H' σ' d gs l' s' r' hd rf
    rw [hK]
    exact catch_ok hx hvs hm s' r' hd rf (SR.post_mono l' p)
end
end R
set_option Elab.async false
set_option linter.all false
set_option maxRecDepth 100000
set_option maxHeartbeats 1000000
namespace R
open PySem PySem.Spec L2
open PyProof.Rows hiding St
/-! ### operations on values -/
section
variable {X : Cx} {κ : Ctx} {W : WX}
theorem RelU.ofRef {θ : List Addr} {H : Hp} {n : Nat} {v : V} (h : RelU κ.K θ H (.ref n) v) : ∃ a, v = .ref a ∧ θ[n]? = some a := by unfold RelU at h; exact h
theorem RelU.ofTup {θ : List Addr} {H : Hp} {us : List U} {v : V} (h : RelU κ.K θ H (.tup us) v) : ∃ a vs, v = .ref a ∧ SqT κ.K H a vs ∧ RelUs κ.K θ H us vs := by unfold RelU at h; exact h
theorem RelU.ofWtu {θ : List Addr} {H : Hp} {us : List U} {v : V} (h : RelU κ.K θ H (.wtu us) v) : ∃ a vs, v = .ref a ∧ KU κ.K a vs ∧ RelUs κ.K θ H us vs := by unfold RelU at h; exact h
theorem RelU.ofLit {θ : List Addr} {H : Hp} {us : List U} {v : V} (h : RelU κ.K θ H (.lit us) v) : ∃ a vs, v = .ref a ∧ LitL κ.K H a vs ∧ RelUs κ.K θ H us vs := by unfold RelU at h; exact h
/-- a list by cell or by value -/
def lstV (u : U) (g : Gs) : Option (List U) := match u with
  | .ref n => lstAt g n
  | .lit us => some us
  | _ => none
def seqV (u : U) (g : Gs) : Option (List U) := match u with
  | .tup us => some us
  | .wtu us => some us
  | u => lstV u g
theorem lstV_rel {θ : List Addr} {g : Gs} {H : Hp} {u : U} {us : List U} {v : V} (S : Sim κ θ g H) (r : RelU κ.K θ H u v) (h : lstV u g = some us) : ∃ a vs, v = .ref a ∧ SqL κ.K H a vs ∧ RelUs κ.K θ H us vs := by
  cases u with
  | ref n =>
    obtain ⟨a, rfl, ha⟩ := r.ofRef
    obtain ⟨vs, hv, rv⟩ := S.lst ha h
    exact ⟨a, vs, rfl, .of hv, rv⟩
  | lit xs =>
    obtain ⟨a, vs, rfl, hl, rv⟩ := r.ofLit
    cases h
    exact ⟨a, vs, rfl, hl.seq, rv⟩
  | _ => cases h
theorem seqV_rel {θ : List Addr} {g : Gs} {H : Hp} {u : U} {us : List U} {v : V} (S : Sim κ θ g H) (r : RelU κ.K θ H u v) (h : seqV u g = some us) : ∃ a vs, v = .ref a ∧ (SqL κ.K H a vs ∨ SqT κ.K H a vs) ∧ RelUs κ.K θ H us vs := by
  cases u with
  | tup xs =>
    obtain ⟨a, vs, rfl, hl, rv⟩ := r.ofTup
    cases h
    exact ⟨a, vs, rfl, .inr hl, rv⟩
  | wtu xs =>
    obtain ⟨a, vs, rfl, hl, rv⟩ := r.ofWtu
    cases h
    exact ⟨a, vs, rfl, .inr hl.seq, rv⟩
  | ref n =>
    obtain ⟨a, vs, e, hl, rv⟩ := lstV_rel S r (us := us) h
    exact ⟨a, vs, e, .inl hl, rv⟩
  | lit xs =>
    obtain ⟨a, vs, e, hl, rv⟩ := lstV_rel S r (us := us) h
    exact ⟨a, vs, e, .inl hl, rv⟩
  | _ => cases h

def addO : O2 := fun x y g => match x, y with
  | .int i, .int j => .ok (.int (i + j)) g
  | .str s, .str t => if s.length + t.length ≤ 1000000 then .ok (.str (s ++ t)) g else .bad
  | .ref a, .ref b => match lstAt g a, lstAt g b with
    | some xs, some ys => newL (xs ++ ys) g
    | _, _ => .bad
  | .tup xs, .tup ys => if xs.length + ys.length ≤ 100000 then .ok (.tup (xs ++ ys)) g else .bad
  | _, _ => .bad
def rAddA (K : PySem.W.Frag) : R2 := fun x y H Q => rI0 (fun i j => .int (i + j)) x y H Q ∨ (∃ i j, x = .str i ∧ y = .str j ∧ i.length + j.length ≤ sizeLine ∧ Q (.str (i ++ j)) H) ∨ rCat x y H Q ∨ rCatA K x y H Q
theorem or_add : OpR X (binaryOp .Add) (rAddA X.K) := op_add.or (op_add_str.or (op_cat.or op_catA))
theorem tup_app {θ : List Addr} {g : Gs} {H : Hp} {us : List U} {vs : List V} {Q : VK} {Wx : Value → Option Addr → Hp → Prop} (S : Sim κ θ g H) (r : RelUs κ.K θ H us vs) (h : (Res.ok (.tup us) g : Res U).post κ (RlU κ) θ H Q Wx) {p : Addr} (hp : H p = none) : Q (.ref p) (upd H p (.tup vs)) := by
  obtain ⟨l2, S2⟩ := S.other (o := .tup vs) hp
  exact h _ _ _ l2 S2 (relTup (.of upd_same) (r.le S l2))
theorem ok_add : OpOk κ addO (rAddA κ.K) := by
  intro θ g H x y v w Q Wx S rx ry h
  cases x with
  | int i =>
    cases y with
    | int j => exact .inl ⟨i, j, relInt' rx, relInt' ry, h θ H _ (Le.refl _ _) S relInt⟩
    | _ => exact h.elim
  | str s =>
    cases y with
    | str t =>
      simp only [addO] at h
      split at h
      · rename_i hl
        exact .inr (.inl ⟨s, t, relStr' rx, relStr' ry, Nat.le_trans hl (by decide), h θ H _ (Le.refl _ _) S relStr⟩)
      · exact h.elim
    | _ => exact h.elim
  | ref a =>
    cases y with
    | ref b =>
      simp only [addO] at h
      cases e1 : lstAt g a with
      | none => rw [e1] at h; exact h.elim
      | some xs =>
        cases e2 : lstAt g b with
        | none => rw [e1, e2] at h; exact h.elim
        | some ys =>
          rw [e1, e2] at h
          obtain ⟨p, rfl, hp⟩ := rx.ofRef
          obtain ⟨q, rfl, hq⟩ := ry.ofRef
          obtain ⟨vs, hv, rv⟩ := S.lst hp e1
          obtain ⟨ws, hw, rw'⟩ := S.lst hq e2
          have z := post_newL S (rv.append rw') h
          rw [List.length_append] at z
          exact .inr (.inr (.inl ⟨p, q, vs, ws, rfl, rfl, hv, hw, z.1, z.2⟩))
    | _ => exact h.elim
  | tup xs =>
    cases y with
    | tup ys =>
      simp only [addO] at h
      split at h
      · rename_i hl
        obtain ⟨p, vs, rfl, hp, rv⟩ := rx.ofTup
        obtain ⟨q, ws, rfl, hq, rw'⟩ := ry.ofTup
        have e1 := rv.length
        have e2 := rw'.length
        refine .inr (.inr (.inr ⟨p, q, vs, ws, rfl, rfl, hp, hq, Nat.le_trans (by omega) (by decide : 100000 ≤ sizeLine), fun e => ?_, fun _ e => ?_, fun _ _ r hr => tup_app S (rv.append rw') h hr⟩))
        · subst e
          have ex : xs = [] := List.eq_nil_of_length_eq_zero (by simpa using e1)
          subst ex
          exact h θ H _ (Le.refl _ _) S (relTup hq rw')
        · subst e
          have ey : ys = [] := List.eq_nil_of_length_eq_zero (by simpa using e2)
          subst ey
          rw [List.append_nil] at h
          exact h θ H _ (Le.refl _ _) S (relTup hp rv)
      · exact h.elim
    | _ => exact h.elim
  | _ => exact h.elim
def subO : O2 := fun x y g => match x, y with
  | .int i, .int j => .ok (.int (i - j)) g
  | _, _ => .bad
theorem ok_sub : OpOk κ subO (rI0 fun i j => .int (i - j)) := by
  intro θ g H x y v w Q Wx S rx ry h
  cases x with
  | int i =>
    cases y with
    | int j => exact ⟨i, j, relInt' rx, relInt' ry, h θ H _ (Le.refl _ _) S relInt⟩
    | _ => exact h.elim
  | _ => exact h.elim
def mulO : O2 := fun x y g => match x, y with
  | .int i, .int j => if (-(2 ^ 64) < i ∧ i < 2 ^ 64) ∨ (-(2 ^ 64) < j ∧ j < 2 ^ 64) then .ok (.int (i * j)) g else .bad
  | .ref a, .int k => match lstAt g a with
    | some xs => if (0 ≤ k ∧ k ≤ 100000) ∧ xs.length * k.toNat ≤ 100000 then newL (List.replicate k.toNat xs).flatten g else .bad
    | none => .bad
  | _, _ => .bad
def rMulA : R2 := fun x y H Q => rI CMul (fun i j => .int (i * j)) x y H Q ∨ rRep x y H Q
theorem or_mul : OpR X (binaryOp .Mult) rMulA := op_mul.or op_rep
theorem relUs_rep {θ : List Addr} {H : Hp} {us : List U} {vs : List V} (r : RelUs κ.K θ H us vs) : ∀ n : Nat, RelUs κ.K θ H (List.replicate n us).flatten (List.replicate n vs).flatten
  | 0 => RelUs.nil
  | n + 1 => by
    rw [List.replicate_succ, List.replicate_succ, List.flatten_cons, List.flatten_cons]
    exact r.append (relUs_rep r n)
theorem ok_mul : OpOk κ mulO rMulA := by
  intro θ g H x y v w Q Wx S rx ry h
  cases x with
  | int i =>
    cases y with
    | int j =>
      simp only [mulO] at h
      split at h
      · rename_i hc
        exact .inl ⟨i, j, relInt' rx, relInt' ry, hc, h θ H _ (Le.refl _ _) S relInt⟩
      · exact h.elim
    | _ => exact h.elim
  | ref a =>
    cases y with
    | int k =>
      simp only [mulO] at h
      cases e1 : lstAt g a with
      | none => rw [e1] at h; exact h.elim
      | some xs =>
        rw [e1] at h
        dsimp only at h
        split at h
        · rename_i hc
          obtain ⟨p, rfl, hp⟩ := rx.ofRef
          obtain ⟨vs, hv, rv⟩ := S.lst hp e1
          have z := post_newL S (relUs_rep rv k.toNat) h
          have e := rv.length
          exact .inr ⟨p, k, vs, rfl, relInt' ry, hv, by omega, by omega, Nat.le_trans (by rw [← e]; exact hc.2) (by decide : 100000 ≤ sizeLine), z.2⟩
        · exact h.elim
    | _ => exact h.elim
  | _ => exact h.elim
def fdivO : O2 := fun x y g => match x, y with
  | .int i, .int j => if 0 < j ∧ j < 1073741824 then .ok (.int (i / j)) g else .bad
  | _, _ => .bad
theorem ok_fdiv : OpOk κ fdivO (rI CDiv fun i j => .int (i / j)) := by
  intro θ g H x y v w Q Wx S rx ry h
  cases x with
  | int i =>
    cases y with
    | int j =>
      simp only [fdivO] at h
      split at h
      · rename_i hc
        exact ⟨i, j, relInt' rx, relInt' ry, hc, h θ H _ (Le.refl _ _) S relInt⟩
      · exact h.elim
    | _ => exact h.elim
  | _ => exact h.elim
def modO : O2 := fun x y g => match x, y with
  | .int i, .int j => if 0 < j then .ok (.int (i % j)) g else .bad
  | _, _ => .bad
theorem ok_mod : OpOk κ modO (rI (fun _ j => 0 < j) fun i j => .int (i % j)) := by
  intro θ g H x y v w Q Wx S rx ry h
  cases x with
  | int i =>
    cases y with
    | int j =>
      simp only [modO] at h
      split at h
      · rename_i hc
        exact ⟨i, j, relInt' rx, relInt' ry, hc, h θ H _ (Le.refl _ _) S relInt⟩
      · exact h.elim
    | _ => exact h.elim
  | _ => exact h.elim
/-! ### order of ints -/
def ordO (f : Int → Int → Bool) : O2 := fun x y g => match x, y with
  | .int i, .int j => .ok (.bl (f i j)) g
  | _, _ => .bad
theorem ok_ord {f : Int → Int → Bool} : OpOk κ (ordO f) (rI0 fun i j => .bl (f i j)) := by
  intro θ g H x y v w Q Wx S rx ry h
  cases x with
  | int i =>
    cases y with
    | int j => exact ⟨i, j, relInt' rx, relInt' ry, h θ H _ (Le.refl _ _) S relBl⟩
    | _ => exact h.elim
  | _ => exact h.elim
abbrev ltO : O2 := ordO fun i j => decide (i < j)
abbrev leO : O2 := ordO fun i j => decide (i ≤ j)
abbrev gtO : O2 := ordO fun i j => decide (j < i)
abbrev geO : O2 := ordO fun i j => decide (j ≤ i)
end
/-! ### == -/
mutual
/-- a value as data; rd: what the cells are -/
def toDw (rd : Nat → Option PyData) : U → Option PyData
  | .non => some .none
  | .bl b => some (.bool b)
  | .int i => some (.int i)
  | .str s => some (.str s)
  | .tup us => (toDws rd us).map .tuple
  | .lit us => (toDws rd us).map .list
  | .wtu us => (toDws rd us).map .tuple
  | .ref k => rd k
def toDws (rd : Nat → Option PyData) : List U → Option (List PyData)
  | [] => some []
  | u :: us => match toDw rd u with
    | none => none
    | some d => match toDws rd us with
      | none => none
      | some ds => some (d :: ds)
end
def rdr (g : Gs) : Nat → Nat → Option PyData
  | 0, _ => none
  | n + 1, k => match lstAt g k with
    | some us => (toDws (rdr g n) us).map .list
    | none => none
def toD (g : Gs) (u : U) : Option PyData := toDw (rdr g 4) u
section
variable {K : PySem.W.Frag} {θ : List Addr} {H : Hp} {rd : Nat → Option PyData}
mutual
theorem toDw_dp (hr : ∀ (k : Nat) (d : PyData) (a : Addr), rd k = some d → θ[k]? = some a → Dp K H (.ref a) d) : ∀ {u : U} {v : V} {d : PyData}, RelU K θ H u v → toDw rd u = some d → Dp K H v d
  | .non, v, d, r, h => by
    have e := relNon' r
    subst e
    unfold toDw at h
    cases h
    exact .non
  | .bl b, v, d, r, h => by
    have e := relBl' r
    subst e
    unfold toDw at h
    cases h
    exact .bl b
  | .int b, v, d, r, h => by
    have e := relInt' r
    subst e
    unfold toDw at h
    cases h
    exact .int b
  | .str b, v, d, r, h => by
    have e := relStr' r
    subst e
    unfold toDw at h
    cases h
    exact .str b
  | .tup us, v, d, r, h => by
    unfold RelU at r
    obtain ⟨a, vs, rfl, hs, rv⟩ := r
    unfold toDw at h
    cases e : toDws rd us with
    | none => rw [e] at h; cases h
    | some ds =>
      rw [e] at h
      cases h
      exact .tup hs (toDws_dp hr rv e)
  | .wtu us, v, d, r, h => by
    unfold RelU at r
    obtain ⟨a, vs, rfl, hs, rv⟩ := r
    unfold toDw at h
    cases e : toDws rd us with
    | none => rw [e] at h; cases h
    | some ds =>
      rw [e] at h
      cases h
      exact .tup hs.seq (toDws_dp hr rv e)
  | .lit us, v, d, r, h => by
    unfold RelU at r
    obtain ⟨a, vs, rfl, hs, rv⟩ := r
    unfold toDw at h
    cases e : toDws rd us with
    | none => rw [e] at h; cases h
    | some ds =>
      rw [e] at h
      cases h
      exact .lst hs.seq (toDws_dp hr rv e)
  | .ref n, v, d, r, h => by
    unfold RelU at r
    obtain ⟨a, rfl, ha⟩ := r
    unfold toDw at h
    exact hr _ _ _ h ha
theorem toDws_dp (hr : ∀ (k : Nat) (d : PyData) (a : Addr), rd k = some d → θ[k]? = some a → Dp K H (.ref a) d) : ∀ {us : List U} {vs : List V} {ds : List PyData}, RelUs K θ H us vs → toDws rd us = some ds → DpAll K H vs ds
  | [], vs, ds, r, h => by
    unfold RelUs at r
    unfold toDws at h
    subst r
    cases h
    exact .nil
  | u :: us, vs, ds, r, h => by
    unfold RelUs at r
    obtain ⟨w, ws, rfl, r1, r2⟩ := r
    unfold toDws at h
    cases e1 : toDw rd u with
    | none => rw [e1] at h; cases h
    | some d =>
      rw [e1] at h
      dsimp only at h
      cases e2 : toDws rd us with
      | none => rw [e2] at h; cases h
      | some es =>
        rw [e2] at h
        cases h
        exact .cons (toDw_dp hr r1 e1) (toDws_dp hr r2 e2)
end
end
section
variable {X : Cx} {κ : Ctx} {W : WX}
theorem rdr_dp {θ : List Addr} {g : Gs} {H : Hp} (S : Sim κ θ g H) : ∀ (n k : Nat) (d : PyData) (a : Addr), rdr g n k = some d → θ[k]? = some a → Dp κ.K H (.ref a) d
  | 0, k, d, a, h, _ => by unfold rdr at h; cases h
  | n + 1, k, d, a, h, ha => by
    unfold rdr at h
    cases e : lstAt g k with
    | none => rw [e] at h; cases h
    | some us =>
      rw [e] at h
      dsimp only at h
      obtain ⟨vs, hv, rv⟩ := S.lst ha e
      cases e2 : toDws (rdr g n) us with
      | none => rw [e2] at h; cases h
      | some ds =>
        rw [e2] at h
        cases h
        exact .lst (.of hv) (toDws_dp (fun k d a => rdr_dp S n k d a) rv e2)
theorem toD_dp {θ : List Addr} {g : Gs} {H : Hp} {u : U} {v : V} {d : PyData} (S : Sim κ θ g H) (r : RelU κ.K θ H u v) (h : toD g u = some d) : Dp κ.K H v d := toDw_dp (fun k d a => rdr_dp S 4 k d a) r h
def eqD (x y : U) (g : Gs) : Option Bool := match toD g x, toD g y with
  | some d, some e => if SeqAt.shaped d = true ∧ SeqAt.shaped e = true then some (PyData.eqv d e) else none
  | _, _ => none
def eqB (x y : U) (g : Gs) : Option Bool := match x, y with
  | .int i, .int j => some (decide (i = j))
  | .str s, .str t => some (decide (s = t))
  | .bl a, .bl b => some (decide (a = b))
  | .non, .non => some true
  | .non, .int _ => some false
  | .int _, .non => some false
  | .non, .bl _ => some false
  | .bl _, .non => some false
  | .non, .str _ => some false
  | .str _, .non => some false
  | .int _, .str _ => some false
  | .str _, .int _ => some false
  | .bl _, .str _ => some false
  | .str _, .bl _ => some false
  | x, y => eqD x y g
def eqO : O2 := fun x y g => match eqB x y g with
  | some b => .ok (.bl b) g
  | none => .bad
def neO : O2 := fun x y g => match eqB x y g with
  | some b => .ok (.bl (!b)) g
  | none => .bad
def rEqA (K : PySem.W.Frag) : R2 := fun x y H Q => rEq x y H Q ∨ rEqD K x y H Q
def rNeA (K : PySem.W.Frag) : R2 := fun x y H Q => rNe x y H Q ∨ rNeD K x y H Q
theorem or_eq (hu : X.A.units + 64 < cLine) : OpR X (compareOp .Eq) (rEqA X.K) := op_eq.or (op_eqD hu)
theorem or_ne (hu : X.A.units + 64 < cLine) : OpR X (compareOp .NotEq) (rNeA X.K) := op_ne.or (op_neD hu)
/-- what eqB says is what the scalars' rule or the data's rule says -/
theorem eqB_rel {θ : List Addr} {g : Gs} {H : Hp} {x y : U} {v w : V} {b : Bool} (S : Sim κ θ g H) (rx : RelU κ.K θ H x v) (ry : RelU κ.K θ H y w) (h : eqB x y g = some b) :
    (scal v w = true ∧ decide (v = w) = b) ∨ ∃ d e, Dp κ.K H v d ∧ Dp κ.K H w e ∧ SeqAt.shaped d = true ∧ SeqAt.shaped e = true ∧ PyData.eqv d e = b := by
  have data : eqD x y g = some b → ∃ d e, Dp κ.K H v d ∧ Dp κ.K H w e ∧ SeqAt.shaped d = true ∧ SeqAt.shaped e = true ∧ PyData.eqv d e = b := fun h => by
    unfold eqD at h
    cases e1 : toD g x with
    | none => rw [e1] at h; cases h
    | some d =>
      cases e2 : toD g y with
      | none => rw [e1, e2] at h; cases h
      | some e =>
        rw [e1, e2] at h
        dsimp only at h
        split at h
        · rename_i hs
          cases h
          exact ⟨d, e, toD_dp S rx e1, toD_dp S ry e2, hs.1, hs.2, rfl⟩
        · cases h
  cases x <;> cases y <;> first
    | exact .inr (data h)
    | (have e1 := relInt' rx; have e2 := relInt' ry; subst e1; subst e2; simp only [eqB, Option.some.injEq] at h; subst h; exact .inl ⟨rfl, by simp⟩)
    | (have e1 := relStr' rx; have e2 := relStr' ry; subst e1; subst e2; simp only [eqB, Option.some.injEq] at h; subst h; exact .inl ⟨rfl, by simp⟩)
    | (have e1 := relBl' rx; have e2 := relBl' ry; subst e1; subst e2; simp only [eqB, Option.some.injEq] at h; subst h; exact .inl ⟨rfl, by simp⟩)
    | (have e1 := relNon' rx; have e2 := relNon' ry; subst e1; subst e2; simp only [eqB, Option.some.injEq] at h; subst h; exact .inl ⟨rfl, by simp⟩)
    | (have e1 := relNon' rx; have e2 := relInt' ry; subst e1; subst e2; simp only [eqB, Option.some.injEq] at h; subst h; exact .inl ⟨rfl, by simp⟩)
    | (have e1 := relInt' rx; have e2 := relNon' ry; subst e1; subst e2; simp only [eqB, Option.some.injEq] at h; subst h; exact .inl ⟨rfl, by simp⟩)
    | (have e1 := relNon' rx; have e2 := relBl' ry; subst e1; subst e2; simp only [eqB, Option.some.injEq] at h; subst h; exact .inl ⟨rfl, by simp⟩)
    | (have e1 := relBl' rx; have e2 := relNon' ry; subst e1; subst e2; simp only [eqB, Option.some.injEq] at h; subst h; exact .inl ⟨rfl, by simp⟩)
    | (have e1 := relNon' rx; have e2 := relStr' ry; subst e1; subst e2; simp only [eqB, Option.some.injEq] at h; subst h; exact .inl ⟨rfl, by simp⟩)
    | (have e1 := relStr' rx; have e2 := relNon' ry; subst e1; subst e2; simp only [eqB, Option.some.injEq] at h; subst h; exact .inl ⟨rfl, by simp⟩)
    | (have e1 := relInt' rx; have e2 := relStr' ry; subst e1; subst e2; simp only [eqB, Option.some.injEq] at h; subst h; exact .inl ⟨rfl, by simp⟩)
    | (have e1 := relStr' rx; have e2 := relInt' ry; subst e1; subst e2; simp only [eqB, Option.some.injEq] at h; subst h; exact .inl ⟨rfl, by simp⟩)
    | (have e1 := relBl' rx; have e2 := relStr' ry; subst e1; subst e2; simp only [eqB, Option.some.injEq] at h; subst h; exact .inl ⟨rfl, by simp⟩)
    | (have e1 := relStr' rx; have e2 := relBl' ry; subst e1; subst e2; simp only [eqB, Option.some.injEq] at h; subst h; exact .inl ⟨rfl, by simp⟩)
theorem ok_eq : OpOk κ eqO (rEqA κ.K) := by
  intro θ g H x y v w Q Wx S rx ry h
  unfold eqO at h
  cases e : eqB x y g with
  | none => rw [e] at h; exact h.elim
  | some b =>
    rw [e] at h
    have q : Q (.bl b) H := h θ H _ (Le.refl _ _) S relBl
    rcases eqB_rel S rx ry e with ⟨h1, h2⟩ | ⟨d, f, h1, h2, h3, h4, h5⟩
    · exact .inl ⟨h1, by rw [h2]; exact q⟩
    · exact .inr ⟨d, f, h1, h2, h3, h4, by rw [h5]; exact q⟩
theorem ok_ne : OpOk κ neO (rNeA κ.K) := by
  intro θ g H x y v w Q Wx S rx ry h
  unfold neO at h
  cases e : eqB x y g with
  | none => rw [e] at h; exact h.elim
  | some b =>
    rw [e] at h
    have q : Q (.bl (!b)) H := h θ H _ (Le.refl _ _) S relBl
    rcases eqB_rel S rx ry e with ⟨h1, h2⟩ | ⟨d, f, h1, h2, h3, h4, h5⟩
    · exact .inl ⟨h1, by rw [h2]; exact q⟩
    · exact .inr ⟨d, f, h1, h2, h3, h4, by rw [h5]; exact q⟩
/-! ### is, is not -/
def isO : O2 := fun x y g => match x, y with
  | .bl a, .bl b => .ok (.bl (decide (a = b))) g
  | .non, .non => .ok (.bl true) g
  | _, .non => .ok (.bl false) g
  | _, _ => .bad
def notIsO : O2 := fun x y g => match x, y with
  | .non, .non => .ok (.bl false) g
  | _, .non => .ok (.bl true) g
  | _, _ => .bad
def rIsA : R2 := fun x y H Q => (y = .non ∧ Q (.bl (decide (x = .non))) H) ∨ ∃ a b, x = .bl a ∧ y = .bl b ∧ Q (.bl (decide (a = b))) H
theorem or_is : OpR X (compareOp .Is) rIsA := op_isN.or op_is_bl
theorem rel_non {θ : List Addr} {H : Hp} {x : U} {v : V} (r : RelU κ.K θ H x v) : (∃ h : x = .non, v = .non) ∨ (x ≠ .non ∧ v ≠ .non) := by
  cases x with
  | non => exact .inl ⟨rfl, relNon' r⟩
  | bl b => refine .inr ⟨(fun q => nomatch q), fun q => ?_⟩; rw [relBl' r] at q; cases q
  | int b => refine .inr ⟨(fun q => nomatch q), fun q => ?_⟩; rw [relInt' r] at q; cases q
  | str b => refine .inr ⟨(fun q => nomatch q), fun q => ?_⟩; rw [relStr' r] at q; cases q
  | tup us => obtain ⟨a, vs, rfl, _⟩ := r.ofTup; exact .inr ⟨(fun q => nomatch q), fun q => nomatch q⟩
  | wtu us => obtain ⟨a, vs, rfl, _⟩ := r.ofWtu; exact .inr ⟨(fun q => nomatch q), fun q => nomatch q⟩
  | lit us => obtain ⟨a, vs, rfl, _⟩ := r.ofLit; exact .inr ⟨(fun q => nomatch q), fun q => nomatch q⟩
  | ref n => obtain ⟨a, rfl, _⟩ := r.ofRef; exact .inr ⟨(fun q => nomatch q), fun q => nomatch q⟩
theorem ok_is : OpOk κ isO rIsA := by
  intro θ g H x y v w Q Wx S rx ry h
  cases y with
  | non =>
    have e := relNon' ry
    subst e
    rcases rel_non rx with ⟨rfl, rfl⟩ | ⟨hx, hv⟩
    · exact .inl ⟨rfl, h θ H _ (Le.refl _ _) S relBl⟩
    · have hh : (isO x .non g) = .ok (.bl false) g := by cases x <;> first | rfl | exact absurd rfl hx
      rw [hh] at h
      exact .inl ⟨rfl, by rw [decide_eq_false hv]; exact h θ H _ (Le.refl _ _) S relBl⟩
  | bl b =>
    cases x with
    | bl a => exact .inr ⟨a, b, relBl' rx, relBl' ry, h θ H _ (Le.refl _ _) S relBl⟩
    | _ => exact h.elim
  | _ => cases x <;> exact h.elim
theorem ok_notIs : OpOk κ notIsO (fun x y H Q => y = .non ∧ Q (.bl (!decide (x = .non))) H) := by
  intro θ g H x y v w Q Wx S rx ry h
  cases y with
  | non =>
    have e := relNon' ry
    subst e
    rcases rel_non rx with ⟨rfl, rfl⟩ | ⟨hx, hv⟩
    · exact ⟨rfl, h θ H _ (Le.refl _ _) S relBl⟩
    · have hh : (notIsO x .non g) = .ok (.bl true) g := by cases x <;> first | rfl | exact absurd rfl hx
      rw [hh] at h
      exact ⟨rfl, by rw [decide_eq_false hv]; exact h θ H _ (Le.refl _ _) S relBl⟩
  | _ => cases x <;> exact h.elim
/-! ### in, not in -/
def flatU : U → Bool
  | .non => true
  | .bl _ => true
  | .int _ => true
  | .str _ => true
  | _ => false
def eqF : U → U → Bool
  | .non, .non => true
  | .bl a, .bl b => a == b
  | .bl a, .int b => (if a then 1 else 0) == b
  | .int a, .bl b => a == (if b then 1 else 0)
  | .int a, .int b => a == b
  | .str a, .str b => a == b
  | _, _ => false
def inL (x : U) (xs : List U) : Bool := xs.any fun y => eqF y x
def inB (x y : U) (g : Gs) : Option Bool := match x, y with
  | .str s, .str t => some (!(Builtin.Str.occurrences t s 0 t.length 1).isEmpty)
  | x, y => match seqV y g with
    | some us => if flatU x = true ∧ us.all flatU = true then some (inL x us) else none
    | none => none
def inO (neg : Bool) : O2 := fun x y g => match inB x y g with
  | some b => .ok (.bl (if neg then !b else b)) g
  | none => .bad
def rInA (K : PySem.W.Frag) (neg : Bool) : R2 := fun x y H Q => (∃ i j, x = .str i ∧ y = .str j ∧ Q (.bl (if neg then !(!(Builtin.Str.occurrences j i 0 j.length 1).isEmpty) else !(Builtin.Str.occurrences j i 0 j.length 1).isEmpty)) H) ∨ rIn K neg x y H Q
theorem or_in : OpR X (compareOp .In) (rInA X.K false) := op_in_str.or op_in_seq
theorem or_notIn : OpR X (compareOp .NotIn) (rInA X.K true) := op_notin_str.or op_notIn_seq
theorem flat_rel {θ : List Addr} {H : Hp} {x : U} {v : V} (r : RelU κ.K θ H x v) (h : flatU x = true) : flatV v = true := by
  cases x with
  | non => rw [relNon' r]; rfl
  | bl b => rw [relBl' r]; rfl
  | int b => rw [relInt' r]; rfl
  | str b => rw [relStr' r]; rfl
  | _ => cases h
theorem eqF_rel {θ : List Addr} {H : Hp} {x y : U} {v w : V} (rx : RelU κ.K θ H x v) (ry : RelU κ.K θ H y w) (hx : flatU x = true) (hy : flatU y = true) : eqF x y = eqV v w := by
  cases x <;> cases y <;> first
    | (cases hx; done)
    | (cases hy; done)
    | (have e1 := relInt' rx; have e2 := relInt' ry; subst e1; subst e2; rfl)
    | (have e1 := relStr' rx; have e2 := relStr' ry; subst e1; subst e2; rfl)
    | (have e1 := relBl' rx; have e2 := relBl' ry; subst e1; subst e2; rfl)
    | (have e1 := relNon' rx; have e2 := relNon' ry; subst e1; subst e2; rfl)
    | (have e1 := relNon' rx; have e2 := relInt' ry; subst e1; subst e2; rfl)
    | (have e1 := relInt' rx; have e2 := relNon' ry; subst e1; subst e2; rfl)
    | (have e1 := relNon' rx; have e2 := relBl' ry; subst e1; subst e2; rfl)
    | (have e1 := relBl' rx; have e2 := relNon' ry; subst e1; subst e2; rfl)
    | (have e1 := relNon' rx; have e2 := relStr' ry; subst e1; subst e2; rfl)
    | (have e1 := relStr' rx; have e2 := relNon' ry; subst e1; subst e2; rfl)
    | (have e1 := relInt' rx; have e2 := relStr' ry; subst e1; subst e2; rfl)
    | (have e1 := relStr' rx; have e2 := relInt' ry; subst e1; subst e2; rfl)
    | (have e1 := relBl' rx; have e2 := relStr' ry; subst e1; subst e2; rfl)
    | (have e1 := relStr' rx; have e2 := relBl' ry; subst e1; subst e2; rfl)
    | (have e1 := relBl' rx; have e2 := relInt' ry; subst e1; subst e2; rfl)
    | (have e1 := relInt' rx; have e2 := relBl' ry; subst e1; subst e2; rfl)
theorem inL_rel {θ : List Addr} {H : Hp} {x : U} {v : V} (rx : RelU κ.K θ H x v) (hx : flatU x = true) : ∀ {us : List U} {vs : List V}, RelUs κ.K θ H us vs → us.all flatU = true → vs.all flatV = true ∧ inL x us = inV v vs
  | [], vs, r, _ => by
    unfold RelUs at r
    subst r
    exact ⟨rfl, rfl⟩
  | u :: us, vs, r, h => by
    unfold RelUs at r
    obtain ⟨w, ws, rfl, r1, r2⟩ := r
    rw [List.all_cons, Bool.and_eq_true] at h
    obtain ⟨h1, h2⟩ := inL_rel rx hx r2 h.2
    refine ⟨by rw [List.all_cons, flat_rel r1 h.1, h1]; rfl, ?_⟩
    show (eqF u x || inL x us) = (eqV w v || inV v ws)
    rw [eqF_rel r1 rx h.1 hx, h2]
theorem ok_in {neg : Bool} : OpOk κ (inO neg) (rInA κ.K neg) := by
  intro θ g H x y v w Q Wx S rx ry h
  unfold inO at h
  cases e : inB x y g with
  | none => rw [e] at h; exact h.elim
  | some b =>
    rw [e] at h
    have q : Q (.bl (if neg then !b else b)) H := h θ H _ (Le.refl _ _) S relBl
    have seq : (match seqV y g with
      | some us => if flatU x = true ∧ us.all flatU = true then some (inL x us) else none
      | none => none) = some b → rInA κ.K neg v w H Q := fun e => by
      cases es : seqV y g with
      | none => rw [es] at e; cases e
      | some us =>
        rw [es] at e
        dsimp only at e
        split at e
        · rename_i hf
          cases e
          obtain ⟨a, vs, rfl, hs, rv⟩ := seqV_rel S ry es
          obtain ⟨h1, h2⟩ := inL_rel rx hf.1 rv hf.2
          exact .inr ⟨a, vs, rfl, hs, flat_rel rx hf.1, h1, by rw [← h2]; exact q⟩
        · cases e
    unfold inB at e
    split at e
    · rename_i s t
      cases e
      exact .inl ⟨s, t, relStr' rx, relStr' ry, q⟩
    · exact seq e
/-! ### items, slices -/
def ixO : O2 := fun x y g => match y with
  | .int i => match x with
    | .str z => if z.length ≤ 1000000 then (match atI z.cps.toList i with
      | some c => .ok (.str ⟨#[c]⟩) g
      | none => .bad) else .bad
    | x => match seqV x g with
      | some us => match atI us i with
        | some u => .ok u g
        | none => .bad
      | none => .bad
  | _ => .bad
theorem or_ix : IxR X (rIx X.K) := by
  exact ix_seq
theorem atI_rel {θ : List Addr} {H : Hp} {us : List U} {vs : List V} {i : Int} {u : U} (r : RelUs κ.K θ H us vs) (h : atI us i = some u) : ∃ v, atI vs i = some v ∧ RelU κ.K θ H u v := by
  unfold atI at h ⊢
  rw [← r.length]
  cases e : ixN us.length i with
  | none => rw [e] at h; cases h
  | some j =>
    rw [e] at h
    exact r.get h
theorem ok_ix : OpOk κ ixO (rIx κ.K) := by
  intro θ g H x y v w Q Wx S rx ry h
  cases y with
  | int i =>
    have ew := relInt' ry
    subst ew
    have seq : (match seqV x g with
      | some us => match atI us i with
        | some u => (Res.ok u g : Res U)
        | none => .bad
      | none => .bad).post κ (RlU κ) θ H Q Wx → rIx κ.K v (.int i) H Q := fun h => by
      cases es : seqV x g with
      | none => rw [es] at h; exact h.elim
      | some us =>
        rw [es] at h
        dsimp only at h
        cases ea : atI us i with
        | none => rw [ea] at h; exact h.elim
        | some u =>
          rw [ea] at h
          obtain ⟨a, vs, rfl, hs, rv⟩ := seqV_rel S rx es
          obtain ⟨z, hz, rz⟩ := atI_rel rv ea
          have q : Q z H := h θ H _ (Le.refl _ _) S rz
          rcases hs with hs | hs
          · exact .inl ⟨a, vs, i, z, rfl, rfl, hs, hz, q⟩
          · exact .inr (.inl ⟨a, vs, i, z, rfl, rfl, hs, hz, q⟩)
    cases x with
    | str z =>
      simp only [ixO] at h
      split at h
      · rename_i hl
        cases ea : atI z.cps.toList i with
        | none => rw [ea] at h; exact h.elim
        | some c =>
          rw [ea] at h
          exact .inr (.inr ⟨z, i, c, relStr' rx, rfl, Nat.le_trans hl (by decide), ea, h θ H _ (Le.refl _ _) S relStr⟩)
      · exact h.elim
    | _ => exact seq h
  | _ => exact h.elim
theorem re_ix {a b : Expr} {pos : Pos} {fa fb : Ev} (hK : X.K = κ.K) (ha : PE X a (RE κ W fa)) (hb : PE X b (RE κ W fb)) (hs : PlainIx b := by exact fun _ _ => rfl) : PE X (.Subscript a b pos) (RE κ W (op2 ixO fa fb)) :=
  (pe_ix (by rw [← hK]; exact or_ix) ha hb hs).imp (t_op2 ok_ix)
end
end R
set_option Elab.async false
set_option linter.all false
set_option maxRecDepth 100000
set_option maxHeartbeats 1000000
namespace R
open PySem PySem.Spec L2
open PyProof.Rows hiding St
section
variable {X : Cx} {κ : Ctx} {W : WX}
/-! ### built-in functions and types -/
def CkOk (κ : Ctx) (m : Mm) (r : List V → Hp → VK → Prop) : Prop := ∀ (θ : List Addr) (g : Gs) (H : Hp) (xs : List U) (vs : List V) (Q : VK) (Wx : Value → Option Addr → Hp → Prop), Sim κ θ g H → RelUs κ.K θ H xs vs → (m xs g).post κ (RlU κ) θ H Q Wx → r vs H Q
def bE (m : Mm) (a : Ea) : Ev := fun us g => (a us g).bind m
theorem t_bE {m : Mm} {r : List V → Hp → VK → Prop} (hm : CkOk κ m r) {f : Ea} (σ : L2.St) (H : Hp) (Q : VK) (h : RE κ W (bE m f) σ H Q) : tCB r (RA κ W f) σ H Q := by
  obtain ⟨θ, us, g, S, R, p⟩ := h
  exact RX.bind S R p fun xs g1 θ1 H1 vs l1 S1 R1 rx p1 => hm θ1 g1 H1 xs vs Q _ S1 rx p1
theorem re_bf {x : Str} {id : String} {p pos : Pos} {e : Expr} {es : List Expr} {m : Mm} {r : List V → Hp → VK → Prop} {a : Ea} (hc : CallR X (.builtin id) r) (hm : CkOk κ m r) (hg : Gl X x) (hx : X.mg x = none) (hv : bootBuiltins x = some (.builtin id)) (ha : PA X (e :: es) (RA κ W a)) (hn : x ≠ "__name__" := by decide) (hdb : (x == ("__debug__" : Str)) = false := by decide)
    (he : starEach (e :: es) X.env = (false, eval e X.env) :: starEach es X.env := by rfl) (hpl : (backTo pos (starEach es X.env)).any (·.1) = false := by rfl) : PE X (.Call (.Name x p) (e :: es) [] pos) (RE κ W (bE m a)) :=
  (pe_callB hc hg hx hv ha hn hdb he hpl).imp (t_bE hm)
theorem re_bt {x : Str} {id : String} {p pos : Pos} {e : Expr} {es : List Expr} {m : Mm} {r : List V → Hp → VK → Prop} {a : Ea} (hc : CallR X (.type id) r) (hm : CkOk κ m r) (hg : Gl X x) (hx : X.mg x = none) (hv : bootBuiltins x = some (.type id)) (ha : PA X (e :: es) (RA κ W a)) (hn : x ≠ "__name__" := by decide) (hdb : (x == ("__debug__" : Str)) = false := by decide)
    (he : starEach (e :: es) X.env = (false, eval e X.env) :: starEach es X.env := by rfl) (hpl : (backTo pos (starEach es X.env)).any (·.1) = false := by rfl) : PE X (.Call (.Name x p) (e :: es) [] pos) (RE κ W (bE m a)) :=
  (pe_callTy hc hg hx hv ha hn hdb he hpl).imp (t_bE hm)
def lenU (u : U) (g : Gs) : Option Nat := match u with
  | .str z => if z.length ≤ 1000000 then some z.length else none
  | u => (seqV u g).map List.length
def lenM : Mm := fun xs g => match xs with
  | [u] => match lenU u g with
    | some n => .ok (.int n) g
    | none => .bad
  | _ => .bad
theorem lenU_rel {θ : List Addr} {g : Gs} {H : Hp} {u : U} {v : V} {n : Nat} (S : Sim κ θ g H) (r : RelU κ.K θ H u v) (h : lenU u g = some n) : LenV κ.K v H n := by
  have seq : (seqV u g).map List.length = some n → LenV κ.K v H n := fun h => by
    cases es : seqV u g with
    | none => rw [es] at h; cases h
    | some us =>
      rw [es] at h
      cases h
      obtain ⟨a, vs, rfl, hs, rv⟩ := seqV_rel S r es
      rcases hs with hs | hs
      · exact .inl ⟨vs, hs, rv.length⟩
      · exact .inr ⟨vs, hs, rv.length⟩
  cases u with
  | str z =>
    simp only [lenU] at h
    split at h
    · rename_i hz
      cases h
      rw [relStr' r]
      exact ⟨Nat.le_trans hz (by decide), rfl⟩
    · cases h
  | _ => exact seq h
theorem ok_len : CkOk κ lenM (fun xs H Q => ∃ x n, xs = [x] ∧ LenV κ.K x H n ∧ Q (.int n) H) := by
  intro θ g H xs vs Q Wx S r h
  unfold lenM at h
  split at h
  · rename_i u
    obtain ⟨v, rfl, r1⟩ := relUs1 r
    cases e : lenU u g with
    | none => rw [e] at h; exact h.elim
    | some n =>
      rw [e] at h
      exact ⟨v, n, rfl, lenU_rel S r1 e, h θ H _ (Le.refl _ _) S relInt⟩
  · exact h.elim
theorem re_len {p pos : Pos} {e : Expr} {a : Ea} (hK : X.K = κ.K) (hm : X.mg "len" = none) (ha : PA X [e] (RA κ W a)) (hg : Gl X "len" := by rfl) (he : starEach [e] X.env = (false, eval e X.env) :: starEach [] X.env := by rfl) : PE X (.Call (.Name "len" p) [e] [] pos) (RE κ W (bE lenM a)) :=
  re_bf (id := "len") (by rw [← hK]; exact call_len) ok_len hg hm boot_len ha (by decide) (by decide) he rfl
def absM : Mm := fun xs g => match xs with
  | [.int i] => .ok (.int (if i < 0 then -i else i)) g
  | _ => .bad
theorem ok_abs : CkOk κ absM (fun xs H Q => ∃ i, xs = [.int i] ∧ Q (.int (if i < 0 then -i else i)) H) := by
  intro θ g H xs vs Q Wx S r h
  unfold absM at h
  split at h
  · rename_i i
    obtain ⟨v, rfl, r1⟩ := relUs1 r
    exact ⟨i, by rw [relInt' r1], h θ H _ (Le.refl _ _) S relInt⟩
  · exact h.elim
theorem re_abs {p pos : Pos} {e : Expr} {a : Ea} (hm : X.mg "abs" = none) (ha : PA X [e] (RA κ W a)) (hg : Gl X "abs" := by rfl) (he : starEach [e] X.env = (false, eval e X.env) :: starEach [] X.env := by rfl) : PE X (.Call (.Name "abs" p) [e] [] pos) (RE κ W (bE absM a)) :=
  re_bf (id := "abs") call_abs ok_abs hg hm (by first | rfl | decide +kernel) ha (by decide) (by decide) he rfl
def intM : Mm := fun xs g => match xs with
  | [.int i] => .ok (.int i) g
  | [.bl k] => .ok (.int (if k then 1 else 0)) g
  | [.str a] => if a.length ≤ 640 then (match PySem.intText? a with
    | some n => .ok (.int n) g
    | none => .bad) else .bad
  | _ => .bad
def rIntA : List V → Hp → VK → Prop := fun xs H Q => ((∃ i, xs = [.int i] ∧ Q (.int i) H) ∨ ∃ k, xs = [.bl k] ∧ Q (.int (if k then 1 else 0)) H) ∨ ∃ a n, xs = [.str a] ∧ PySem.intText? a = some n ∧ a.length ≤ 640 ∧ Q (.int n) H
theorem ok_int : CkOk κ intM rIntA := by
  intro θ g H xs vs Q Wx S r h
  unfold intM at h
  split at h
  · rename_i i
    obtain ⟨v, rfl, r1⟩ := relUs1 r
    exact .inl (.inl ⟨i, by rw [relInt' r1], h θ H _ (Le.refl _ _) S relInt⟩)
  · rename_i k
    obtain ⟨v, rfl, r1⟩ := relUs1 r
    exact .inl (.inr ⟨k, by rw [relBl' r1], h θ H _ (Le.refl _ _) S relInt⟩)
  · rename_i a
    obtain ⟨v, rfl, r1⟩ := relUs1 r
    split at h
    · rename_i hl
      cases e : PySem.intText? a with
      | none => rw [e] at h; exact h.elim
      | some n =>
        rw [e] at h
        exact .inr ⟨a, n, by rw [relStr' r1], e, hl, h θ H _ (Le.refl _ _) S relInt⟩
    · exact h.elim
  · exact h.elim
theorem re_int1 {p pos : Pos} {e : Expr} {a : Ea} (hm : X.mg "int" = none) (ha : PA X [e] (RA κ W a)) (hg : Gl X "int" := by rfl) (he : starEach [e] X.env = (false, eval e X.env) :: starEach [] X.env := by rfl) : PE X (.Call (.Name "int" p) [e] [] pos) (RE κ W (bE intM a)) :=
  re_bt (id := "int") (call_int1.or call_int_str) ok_int hg hm (by first | rfl | decide +kernel) ha (by decide) (by decide) he rfl
def strM : Mm := fun xs g => match xs with
  | [.int i] => if i.natAbs.log2 < 1920 then .ok (.str (toString i)) g else .bad
  | _ => .bad
theorem ok_str : CkOk κ strM (fun xs H Q => ∃ i, xs = [.int i] ∧ i.natAbs.log2 < 1920 ∧ Q (.str (toString i)) H) := by
  intro θ g H xs vs Q Wx S r h
  unfold strM at h
  split at h
  · rename_i i
    obtain ⟨v, rfl, r1⟩ := relUs1 r
    split at h
    · rename_i hl
      exact ⟨i, by rw [relInt' r1], hl, h θ H _ (Le.refl _ _) S relStr⟩
    · exact h.elim
  · exact h.elim
theorem re_str1 {p pos : Pos} {e : Expr} {a : Ea} (hm : X.mg "str" = none) (ha : PA X [e] (RA κ W a)) (hg : Gl X "str" := by rfl) (he : starEach [e] X.env = (false, eval e X.env) :: starEach [] X.env := by rfl) : PE X (.Call (.Name "str" p) [e] [] pos) (RE κ W (bE strM a)) :=
  re_bt (id := "str") call_str_int ok_str hg hm (by first | rfl | decide +kernel) ha (by decide) (by decide) he rfl
def listM : Mm := fun xs g => match xs with
  | [u] => match seqV u g with
    | some us => newL us g
    | none => .bad
  | _ => .bad
theorem ok_list : CkOk κ listM (fun xs H Q => ∃ p ys, xs = [.ref p] ∧ (SqL κ.K H p ys ∨ SqT κ.K H p ys) ∧ ∀ l, H l = none → Q (.ref l) (upd H l (.lst ys))) := by
  intro θ g H xs vs Q Wx S r h
  unfold listM at h
  split at h
  · rename_i u
    obtain ⟨v, rfl, r1⟩ := relUs1 r
    cases e : seqV u g with
    | none => rw [e] at h; exact h.elim
    | some us =>
      rw [e] at h
      obtain ⟨a, ys, rfl, hs, rv⟩ := seqV_rel S r1 e
      exact ⟨a, ys, rfl, hs, (post_newL S rv h).2⟩
  · exact h.elim
theorem re_list {p pos : Pos} {e : Expr} {a : Ea} (hK : X.K = κ.K) (hm : X.mg "list" = none) (ha : PA X [e] (RA κ W a)) (hg : Gl X "list" := by rfl) (he : starEach [e] X.env = (false, eval e X.env) :: starEach [] X.env := by rfl) : PE X (.Call (.Name "list" p) [e] [] pos) (RE κ W (bE listM a)) :=
  re_bt (id := "list") (by rw [← hK]; exact call_list_of) ok_list hg hm (by first | rfl | decide +kernel) ha (by decide) (by decide) he rfl
def tupM : Mm := fun xs g => match xs with
  | [u] => match seqV u g with
    | some us => .ok (.tup us) g
    | none => .bad
  | _ => .bad
theorem ok_tup : CkOk κ tupM (fun xs H Q => ∃ p ys, xs = [.ref p] ∧ ((SqL κ.K H p ys ∧ ∀ l, H l = none → Q (.ref l) (upd H l (.tup ys))) ∨ (SqT κ.K H p ys ∧ Q (.ref p) H))) := by
  intro θ g H xs vs Q Wx S r h
  unfold tupM at h
  split at h
  · rename_i u
    obtain ⟨v, rfl, r1⟩ := relUs1 r
    cases e : seqV u g with
    | none => rw [e] at h; exact h.elim
    | some us =>
      rw [e] at h
      obtain ⟨a, ys, rfl, hs, rv⟩ := seqV_rel S r1 e
      refine ⟨a, ys, rfl, ?_⟩
      rcases hs with hs | hs
      · exact .inl ⟨hs, fun l hl => tup_app S rv h hl⟩
      · exact .inr ⟨hs, h θ H _ (Le.refl _ _) S (relTup hs rv)⟩
  · exact h.elim
theorem re_tuple {p pos : Pos} {e : Expr} {a : Ea} (hK : X.K = κ.K) (hm : X.mg "tuple" = none) (ha : PA X [e] (RA κ W a)) (hg : Gl X "tuple" := by rfl) (he : starEach [e] X.env = (false, eval e X.env) :: starEach [] X.env := by rfl) : PE X (.Call (.Name "tuple" p) [e] [] pos) (RE κ W (bE tupM a)) :=
  re_bt (id := "tuple") (by rw [← hK]; exact call_tuple_of) ok_tup hg hm (by first | rfl | decide +kernel) ha (by decide) (by decide) he rfl
def max2M : Mm := fun xs g => match xs with
  | [.int i, .int j] => .ok (.int (if j > i then j else i)) g
  | _ => .bad
def min2M : Mm := fun xs g => match xs with
  | [.int i, .int j] => .ok (.int (if j < i then j else i)) g
  | _ => .bad
theorem ok_max2 : CkOk κ max2M (fun xs H Q => ∃ i j, xs = [.int i, .int j] ∧ Q (.int (if j > i then j else i)) H) := by
  intro θ g H xs vs Q Wx S r h
  unfold max2M at h
  split at h
  · rename_i i j
    obtain ⟨v, w, rfl, r1, r2⟩ := relUs2 r
    exact ⟨i, j, by rw [relInt' r1, relInt' r2], h θ H _ (Le.refl _ _) S relInt⟩
  · exact h.elim
theorem ok_min2 : CkOk κ min2M (fun xs H Q => ∃ i j, xs = [.int i, .int j] ∧ Q (.int (if j < i then j else i)) H) := by
  intro θ g H xs vs Q Wx S r h
  unfold min2M at h
  split at h
  · rename_i i j
    obtain ⟨v, w, rfl, r1, r2⟩ := relUs2 r
    exact ⟨i, j, by rw [relInt' r1, relInt' r2], h θ H _ (Le.refl _ _) S relInt⟩
  · exact h.elim
theorem re_max2 {p pos : Pos} {e e2 : Expr} {a : Ea} (hc : X.calm = true) (hm : X.mg "max" = none) (ha : PA X [e, e2] (RA κ W a)) (hg : Gl X "max" := by rfl) (he : starEach [e, e2] X.env = (false, eval e X.env) :: starEach [e2] X.env := by rfl) (hpl : (backTo pos (starEach [e2] X.env)).any (·.1) = false := by rfl) : PE X (.Call (.Name "max" p) [e, e2] [] pos) (RE κ W (bE max2M a)) :=
  re_bf (id := "max") (call_max2 hc) ok_max2 hg hm (by first | rfl | decide +kernel) ha (by decide) (by decide) he hpl
theorem re_min2 {p pos : Pos} {e e2 : Expr} {a : Ea} (hc : X.calm = true) (hm : X.mg "min" = none) (ha : PA X [e, e2] (RA κ W a)) (hg : Gl X "min" := by rfl) (he : starEach [e, e2] X.env = (false, eval e X.env) :: starEach [e2] X.env := by rfl) (hpl : (backTo pos (starEach [e2] X.env)).any (·.1) = false := by rfl) : PE X (.Call (.Name "min" p) [e, e2] [] pos) (RE κ W (bE min2M a)) :=
  re_bf (id := "min") (call_min2 hc) ok_min2 hg hm (by first | rfl | decide +kernel) ha (by decide) (by decide) he hpl
/-! ### isinstance with a built-in type -/
def tyU (u : U) (g : Gs) : Option String := match u with
  | .non => some "NoneType"
  | .bl _ => some "bool"
  | .int _ => some "int"
  | .str _ => some "str"
  | .tup _ => some "tuple"
  | .wtu _ => some "tuple"
  | .lit _ => some "list"
  | .ref n => match g[n]? with
    | some (.lst _) => some "list"
    | some (.dct _) => some "dict"
    | _ => none
def subTy (t n : String) : Bool := t == n || (t == "bool" && n == "int")
theorem kit_ty {K : PySem.W.Frag} {t n : String} (ht : t ∈ ["NoneType", "bool", "int", "str", "tuple", "list", "dict"]) (hn : n ∈ ["bool", "int", "str", "tuple", "list", "dict"]) : PySem.W.kitOne K (.type t) (.type n) = some (subTy t n) := by
  simp only [List.mem_cons, List.not_mem_nil, or_false] at ht hn
  rcases ht with rfl | rfl | rfl | rfl | rfl | rfl | rfl <;> rcases hn with rfl | rfl | rfl | rfl | rfl | rfl <;> first | rfl | kernel_rfl
theorem tyU_mem {u : U} {g : Gs} {t : String} (h : tyU u g = some t) : t ∈ ["NoneType", "bool", "int", "str", "tuple", "list", "dict"] := by
  unfold tyU at h
  split at h
  all_goals first
    | (cases h; decide)
    | (split at h <;> first | (cases h; decide) | cases h)
theorem tyx_sqL {K : PySem.W.Frag} {H : Hp} {a : Addr} {xs : List V} (h : SqL K H a xs) : TyX K H (.ref a) (.type "list") := by
  rcases h with (h | ⟨o, h⟩) | ⟨o, its, n, e, c, _⟩
  · exact .base (.lst h)
  · exact .base (.frz h)
  · exact .kList e c
theorem tyx_sqT {K : PySem.W.Frag} {H : Hp} {a : Addr} {xs : List V} (h : SqT K H a xs) : TyX K H (.ref a) (.type "tuple") := by
  rcases h with (h | ⟨o, h⟩) | ⟨o, its, n, e, c, _⟩
  · exact .base (.tup h)
  · exact .fTuple h
  · exact .kTuple e c
theorem tyU_rel {θ : List Addr} {g : Gs} {H : Hp} {u : U} {v : V} {t : String} (S : Sim κ θ g H) (r : RelU κ.K θ H u v) (h : tyU u g = some t) : TyX κ.K H v (.type t) := by
  cases u with
  | non => cases h; rw [relNon' r]; exact .base .non
  | bl b => cases h; rw [relBl' r]; exact .base (.bl b)
  | int i => cases h; rw [relInt' r]; exact .base (.int i)
  | str i => cases h; rw [relStr' r]; exact .base (.str i)
  | tup us => cases h; obtain ⟨a, vs, rfl, hs, _⟩ := r.ofTup; exact tyx_sqT hs
  | wtu us => cases h; obtain ⟨a, vs, rfl, hs, _⟩ := r.ofWtu; exact tyx_sqT (xs := vs) hs.seq
  | lit us => cases h; obtain ⟨a, vs, rfl, hs, _⟩ := r.ofLit; exact tyx_sqL hs.seq
  | ref n =>
    obtain ⟨a, rfl, ha⟩ := r.ofRef
    simp only [tyU] at h
    split at h
    · rename_i e
      cases h
      obtain ⟨vs, hv, _⟩ := S.ok n _ a e ha
      exact .base (.lst hv)
    · rename_i e
      cases h
      obtain ⟨vs, hv, _⟩ := S.ok n _ a e ha
      exact .base (.dK hv)
    · cases h
def isE (n : String) (f : Ev) : Ev := fun us g => (f us g).bind fun u g1 => match tyU u g1 with
  | some t => .ok (.bl (subTy t n)) g1
  | none => .bad
theorem pe_bty {x : Str} {n : String} {p : Pos} (hg : Gl X x) (hx : X.mg x = none) (hv : bootBuiltins x = some (.type n)) (hn : x ≠ "__name__" := by decide) (hdb : (x == ("__debug__" : Str)) = false := by decide) : PE X (.Name x p) (tC (.ty n)) :=
  ⟨fun pins s σ H Q I h => ld_blt I hg hx hv ⟨.ty n, H, I, rfl, h⟩ hn hdb⟩
theorem re_isi {x : Str} {n : String} {p pc pos : Pos} {e : Expr} {f : Ev} (hK : X.K = κ.K) (hn : n ∈ ["bool", "int", "str", "tuple", "list", "dict"]) (hm : X.mg "isinstance" = none) (hx : X.mg x = none) (hv : bootBuiltins x = some (.type n)) (he : PE X e (RE κ W f)) (hg : Gl X "isinstance" := by rfl) (hgx : Gl X x := by rfl)
    (hxn : x ≠ "__name__" := by decide) (hdb : (x == ("__debug__" : Str)) = false := by decide) (hs : starEach [e, .Name x pc] X.env = (false, eval e X.env) :: starEach [.Name x pc] X.env := by rfl) (hpl : (backTo pos (starEach [.Name x pc] X.env)).any (·.1) = false := by rfl) :
    PE X (.Call (.Name "isinstance" p) [e, .Name x pc] [] pos) (RE κ W (isE n f)) :=
  (pe_callB (id := "isinstance") call_isi hg hm (by first | rfl | decide +kernel) (pa_cons he (pa_cons (pe_bty hgx hx hv hxn hdb) pa_nil rfl) hs) (by decide) (by decide) hs hpl).imp fun σ H Q h => by
    obtain ⟨θ, us, g, S, R, p⟩ := h
    refine RX.bind S R p fun u g1 θ1 H1 v l1 S1 R1 rx p1 => ?_
    cases e : tyU u g1 with
    | none => rw [e] at p1; exact p1.elim
    | some t =>
      rw [e] at p1
      rw [hK]
      exact ⟨v, .ty n, .type t, .type n, subTy t n, rfl, .ty n, tyU_rel S1 rx e, kit_ty (tyU_mem e) hn, p1 θ1 H1 _ (Le.refl _ _) S1 relBl⟩
end
end R
set_option Elab.async false
set_option linter.all false
set_option maxRecDepth 100000
set_option maxHeartbeats 1000000
namespace R
open PySem PySem.Spec L2
open PyProof.Rows hiding St
section
variable {X : Cx} {κ : Ctx} {W : WX}
/-- a run, then a rest: what the run alone promises -/
theorem Res.post_bind {α β γ δ : Type} {Rl : List Addr → Hp → α → β → Prop} {Rm : List Addr → Hp → γ → δ → Prop} {θ : List Addr} {H : Hp} {r : Res α} {k : α → Gs → Res γ} {Q : δ → Hp → Prop} {Q1 : β → Hp → Prop} {Wx : Value → Option Addr → Hp → Prop} (h : (r.bind k).post κ Rm θ H Q Wx)
    (hk : ∀ a g1 θ1 H1 v, Le θ H θ1 H1 → Sim κ θ1 g1 H1 → Rl θ1 H1 a v → (k a g1).post κ Rm θ1 H1 Q Wx → Q1 v H1) : r.post κ Rl θ H Q1 Wx := by
  cases r with
  | ok a g1 => exact fun θ1 H1 v l s rl => hk a g1 θ1 H1 v l s rl (Res.post_mono l h)
  | exc c fs g1 => exact h
  | bad => exact h
/-! ### methods of texts, lists, tuples -/
abbrev M1 := U → List U → Gs → Res U
def MkOk (κ : Ctx) (m : M1) (r : V → List V → Hp → VK → Prop) : Prop := ∀ (θ : List Addr) (g : Gs) (H : Hp) (x : U) (xs : List U) (v : V) (vs : List V) (Q : VK) (Wx : Value → Option Addr → Hp → Prop), Sim κ θ g H → RelU κ.K θ H x v → RelUs κ.K θ H xs vs → (m x xs g).post κ (RlU κ) θ H Q Wx → r v vs H Q
def TkOk (κ : Ctx) (c : U → Gs → Bool) (T : String) : Prop := ∀ (θ : List Addr) (g : Gs) (H : Hp) (x : U) (v : V), Sim κ θ g H → RelU κ.K θ H x v → c x g = true → tyV κ.K T v H
def mE (c : U → Gs → Bool) (m : M1) (f : Ev) (a : Ea) : Ev := fun us g => (f us g).bind fun x g1 => if c x g1 = true then (a us g1).bind fun xs g2 => m x xs g2 else .bad
def mE0 (c : U → Gs → Bool) (m : M1) (f : Ev) : Ev := fun us g => (f us g).bind fun x g1 => if c x g1 = true then m x [] g1 else .bad
def isS (u : U) (_ : Gs) : Bool := match u with
  | .str _ => true
  | _ => false
def isL (u : U) (g : Gs) : Bool := (lstV u g).isSome
def isW (u : U) (_ : Gs) : Bool := match u with
  | .wtu _ => true
  | _ => false
theorem tk_str : TkOk κ isS "str" := by
  intro θ g H x v S r h
  cases x with
  | str z => rw [relStr' r]; rfl
  | _ => cases h
theorem tk_lst : TkOk κ isL "list" := by
  intro θ g H x v S r h
  unfold isL at h
  cases e : lstV x g with
  | none => rw [e] at h; cases h
  | some us =>
    obtain ⟨a, vs, rfl, hs, _⟩ := lstV_rel S r e
    exact .inl ⟨rfl, vs, hs⟩
theorem tk_wtu : TkOk κ isW "tuple" := by
  intro θ g H x v S r h
  cases x with
  | wtu us =>
    obtain ⟨a, vs, rfl, ⟨o, its, n, h1, h2, h3, _⟩, _⟩ := r.ofWtu
    exact .inr (.inl ⟨rfl, o, h1, h2, h3⟩)
  | _ => cases h
theorem re_bm {o e : Expr} {es : List Expr} {name : Str} {apos cpos : Pos} {T id : String} {c : U → Gs → Bool} {m : M1} {r : V → List V → Hp → VK → Prop} {f : Ev} {a : Ea} (hK : X.K = κ.K) (tk : TkOk κ c T) (hk : MkOk κ m r) (pa : PlainAttrs T) (slot : Slot T name id) (hty : typeOf (.builtin id) = pure (.type "method_descriptor")) (hm : MtR X id r)
    (ho : PE X o (RE κ W f)) (ha : PA X (e :: es) (RA κ W a)) (hbase : attributeBase o name X.env (eval o X.env) = eval o X.env := by rfl)
    (hfew : ((backTo cpos (starEach (e :: es) X.env)).all (fun x => !x.1) && (backToKw cpos (keywordEach [] X.env)).all (fun x => x.1.isSome)
      && decide ((e :: es).length + ([] : List Keyword).length + (if ([] : List Keyword).isEmpty then 0 else 1) < 30)) = true := by rfl)
    (hline : (apos.endLine == cpos.line) = true := by rfl) (hs : starEach (e :: es) X.env = (false, eval e X.env) :: starEach es X.env := by rfl) (hplain : (backTo cpos (starEach es X.env)).any (·.1) = false := by rfl) :
    PE X (.Call (.Attribute o name apos) (e :: es) [] cpos) (RE κ W (mE c m f a)) :=
  (pe_bm pa slot hty hm ho ha hbase hfew hline hs hplain).imp fun σ H Q h => by
    obtain ⟨θ, us, g, S, R, p⟩ := h
    refine RX.bind S R p fun x g1 θ1 H1 v l1 S1 R1 rx p1 => ?_
    split at p1
    · rename_i hc
      refine ⟨by rw [hK]; exact tk θ1 g1 H1 x v S1 rx hc, ?_⟩
      refine RX.bind S1 R1 p1 fun xs g2 θ2 H2 vs l2 S2 R2 rxs p2 => ?_
      exact hk θ2 g2 H2 x xs v vs Q _ S2 (RelU.le S1 l2 rx) rxs p2
    · exact p1.elim
theorem re_bm0 {o : Expr} {name : Str} {apos cpos : Pos} {T id : String} {c : U → Gs → Bool} {m : M1} {r : V → List V → Hp → VK → Prop} {f : Ev} (hK : X.K = κ.K) (tk : TkOk κ c T) (hk : MkOk κ m r) (pa : PlainAttrs T) (slot : Slot T name id) (hty : typeOf (.builtin id) = pure (.type "method_descriptor")) (hm : MtR X id r)
    (ho : PE X o (RE κ W f)) (hbase : attributeBase o name X.env (eval o X.env) = eval o X.env := by rfl) (hline : (apos.endLine == cpos.line) = true := by rfl) :
    PE X (.Call (.Attribute o name apos) [] [] cpos) (RE κ W (mE0 c m f)) :=
  (pe_bm0 pa slot hty hm ho hbase hline).imp fun σ H Q h => by
    obtain ⟨θ, us, g, S, R, p⟩ := h
    refine RX.bind S R p fun x g1 θ1 H1 v l1 S1 R1 rx p1 => ?_
    split at p1
    · rename_i hc
      exact ⟨by rw [hK]; exact tk θ1 g1 H1 x v S1 rx hc, hk θ1 g1 H1 x [] v [] Q _ S1 rx RelUs.nil p1⟩
    · exact p1.elim
def appM : M1 := fun x xs g => match x, xs with
  | .ref n, [u] => match lstAt g n with
    | some us => if us.length < 100000 then .ok .non (g.set n (.lst (us ++ [u]))) else .bad
    | none => .bad
  | _, _ => .bad
theorem mk_app : MkOk κ appM rAppend := by
  intro θ g H x xs v vs Q Wx S rx rxs h
  unfold appM at h
  split at h
  · rename_i n u
    obtain ⟨a, rfl, ha⟩ := rx.ofRef
    obtain ⟨w, rfl, rw'⟩ := relUs1 rxs
    cases e : lstAt g n with
    | none => rw [e] at h; exact h.elim
    | some us =>
      rw [e] at h
      dsimp only at h
      split at h
      · rename_i hl
        obtain ⟨ys, hv, rv⟩ := S.lst ha e
        have e2 := rv.length
        obtain ⟨l, S2⟩ := S.put (c := .lst (us ++ [u])) (o := .lst (ys ++ [w])) ha hv trivial ⟨_, upd_same, (rv.append (RelUs.cons rw' RelUs.nil)).keep (H' := upd H a (.lst (ys ++ [w]))) ⟨fun b zs hb => by
            have ne : b ≠ a := fun z => by subst z; rw [hv] at hb; cases hb
            rw [upd_ne ne]; exact hb, fun b o q hb => by
            have ne : b ≠ a := fun z => by subst z; rw [hv] at hb; cases hb
            rw [upd_ne ne]; exact hb⟩ fun _ _ h => h⟩
        exact ⟨a, ys, w, rfl, rfl, hv, Nat.lt_of_lt_of_le (m := 100000) (by omega) (by decide), h _ _ _ l S2 relNon⟩
      · exact h.elim
  · exact h.elim
def popM : M1 := fun x xs g => match x, xs with
  | .ref n, [] => match lstAt g n with
    | some us => match us[us.length - 1]? with
      | some u => .ok u (g.set n (.lst us.dropLast))
      | none => .bad
    | none => .bad
  | _, _ => .bad
theorem mk_pop : MkOk κ popM rPop := by
  intro θ g H x xs v vs Q Wx S rx rxs h
  unfold popM at h
  split at h
  · rename_i n
    obtain ⟨a, rfl, ha⟩ := rx.ofRef
    unfold RelUs at rxs
    subst rxs
    cases e : lstAt g n with
    | none => rw [e] at h; exact h.elim
    | some us =>
      rw [e] at h
      dsimp only at h
      cases e2 : us[us.length - 1]? with
      | none => rw [e2] at h; exact h.elim
      | some u =>
        rw [e2] at h
        obtain ⟨ys, hv, rv⟩ := S.lst ha e
        have e3 := rv.length
        have k : Keep H (upd H a (.lst ys.dropLast)) := ⟨fun b zs hb => by
            have ne : b ≠ a := fun z => by subst z; rw [hv] at hb; cases hb
            rw [upd_ne ne]; exact hb, fun b o q hb => by
            have ne : b ≠ a := fun z => by subst z; rw [hv] at hb; cases hb
            rw [upd_ne ne]; exact hb⟩
        have rd : RelUs κ.K θ H us.dropLast ys.dropLast := by
          rw [List.dropLast_eq_take, List.dropLast_eq_take, ← e3]
          exact rv.take _
        obtain ⟨w, hw, rw'⟩ := rv.get e2
        obtain ⟨l, S2⟩ := S.put (c := .lst us.dropLast) (o := .lst ys.dropLast) ha hv trivial ⟨_, upd_same, rd.keep k fun _ _ h => h⟩
        exact ⟨a, ys, w, rfl, rfl, hv, by rw [← e3]; exact hw, h _ _ _ l S2 (rw'.keep k fun _ _ h => h)⟩
  · exact h.elim
def newSs (ys : List Str) (g : Gs) : Res U := newL (ys.map U.str) g
theorem rel_strs {θ : List Addr} {H : Hp} : ∀ {ys : List Str}, RelUs κ.K θ H (ys.map U.str) (ys.map V.str)
  | [] => RelUs.nil
  | y :: ys => RelUs.cons relStr rel_strs
theorem newSs_rel {θ : List Addr} {g : Gs} {H : Hp} {ys : List Str} {Q : VK} {Wx : Value → Option Addr → Hp → Prop} (S : Sim κ θ g H) (h : (newSs ys g).post κ (RlU κ) θ H Q Wx) : rNewStrs ys H Q := (post_newL S rel_strs h).2
def splitM : M1 := fun x xs g => match x, xs with
  | .str a, [.str b] => if (b.length == 0) = false ∧ a.length ≤ 1000000 then newSs (Txt.split a b) g else .bad
  | _, _ => .bad
theorem mk_split : MkOk κ splitM (fun x xs H Q => ∃ a b, x = .str a ∧ xs = [.str b] ∧ (b.length == 0) = false ∧ a.length + 2 ≤ sizeLine ∧ rNewStrs (Txt.split a b) H Q) := by
  intro θ g H x xs v vs Q Wx S rx rxs h
  unfold splitM at h
  split at h
  · rename_i a b
    obtain ⟨w, rfl, rw'⟩ := relUs1 rxs
    split at h
    · rename_i hc
      exact ⟨a, b, relStr' rx, by rw [relStr' rw'], hc.1, by rw [sizeLine_eq]; omega, newSs_rel S h⟩
    · exact h.elim
  · exact h.elim
def strsOf : List U → Option (List Str)
  | [] => some []
  | .str s :: r => (strsOf r).map (s :: ·)
  | _ => none
theorem strsOf_rel {θ : List Addr} {H : Hp} : ∀ {us : List U} {ys : List Str} {vs : List V}, RelUs κ.K θ H us vs → strsOf us = some ys → vs = ys.map V.str
  | [], ys, vs, r, h => by
    unfold RelUs at r
    unfold strsOf at h
    cases h
    exact r
  | u :: us, ys, vs, r, h => by
    unfold RelUs at r
    obtain ⟨w, ws, rfl, r1, r2⟩ := r
    cases u with
    | str s =>
      unfold strsOf at h
      cases e : strsOf us with
      | none => rw [e] at h; cases h
      | some zs =>
        rw [e] at h
        cases h
        rw [relStr' r1, strsOf_rel r2 e]
        rfl
    | _ => cases h
def joinM : M1 := fun x xs g => match x, xs with
  | .str a, [u] => match seqV u g with
    | some us => match strsOf us with
      | some ys => if (ys.map (·.length)).sum + ys.length * a.length ≤ 1000000 then .ok (.str (Txt.join a ys)) g else .bad
      | none => .bad
    | none => .bad
  | _, _ => .bad
theorem mk_join : MkOk κ joinM (fun x xs H Q => ∃ a p, ∃ ys : List Str, x = .str a ∧ xs = [.ref p] ∧ (SqL κ.K H p (ys.map V.str) ∨ SqT κ.K H p (ys.map V.str)) ∧
    (ys.map (·.length)).sum + ys.length * a.length ≤ 16777216 ∧ Q (.str (Txt.join a ys)) H) := by
  intro θ g H x xs v vs Q Wx S rx rxs h
  unfold joinM at h
  split at h
  · rename_i a u
    obtain ⟨w, rfl, rw'⟩ := relUs1 rxs
    cases e : seqV u g with
    | none => rw [e] at h; exact h.elim
    | some us =>
      rw [e] at h
      dsimp only at h
      cases e2 : strsOf us with
      | none => rw [e2] at h; exact h.elim
      | some ys =>
        rw [e2] at h
        dsimp only at h
        split at h
        · rename_i hl
          obtain ⟨p, ws, rfl, hs, rv⟩ := seqV_rel S rw' e
          have ew := strsOf_rel rv e2
          subst ew
          exact ⟨a, p, ys, relStr' rx, rfl, hs, Nat.le_trans hl (by decide), h θ H _ (Le.refl _ _) S relStr⟩
        · exact h.elim
  · exact h.elim
def upperM : M1 := fun x xs g => match x, xs with
  | .str a, [] => if a.length ≤ 1000000 then .ok (.str (Txt.upper a)) g else .bad
  | _, _ => .bad
theorem mk_upper : MkOk κ upperM (fun x xs H Q => ∃ a, x = .str a ∧ xs = [] ∧ a.length ≤ 5592405 ∧ Q (.str (Txt.upper a)) H) := by
  intro θ g H x xs v vs Q Wx S rx rxs h
  unfold upperM at h
  split at h
  · unfold RelUs at rxs
    split at h
    · exact ⟨_, relStr' rx, rxs, by omega, h θ H _ (Le.refl _ _) S relStr⟩
    · exact h.elim
  · exact h.elim
def isdigitM : M1 := fun x xs g => match x, xs with
  | .str a, [] => .ok (.bl (Txt.isdigit a)) g
  | _, _ => .bad
theorem mk_isdigit : MkOk κ isdigitM (fun x xs H Q => ∃ a, x = .str a ∧ xs = [] ∧ True ∧ Q (.bl (Txt.isdigit a)) H) := by
  intro θ g H x xs v vs Q Wx S rx rxs h
  unfold isdigitM at h
  split at h
  · unfold RelUs at rxs
    exact ⟨_, relStr' rx, rxs, trivial, h θ H _ (Le.refl _ _) S relBl⟩
  · exact h.elim
/-- the first place of a text among texts -/
def firstS (z : Str) : List Str → Option Nat
  | [] => none
  | y :: ys => if y = z then some 0 else (firstS z ys).map (· + 1)
theorem firstS_ok {z : Str} : ∀ {ys : List Str} {j : Nat}, firstS z ys = some j → ys[j]? = some z ∧ ∀ m, m < j → ys[m]? ≠ some z
  | [], j, h => by cases h
  | y :: ys, j, h => by
    unfold firstS at h
    split at h
    · rename_i e
      cases h
      exact ⟨by rw [e]; rfl, fun m hm => absurd hm (Nat.not_lt_zero _)⟩
    · rename_i ne
      cases e : firstS z ys with
      | none => rw [e] at h; cases h
      | some i =>
        rw [e] at h
        cases h
        obtain ⟨h1, h2⟩ := firstS_ok e
        refine ⟨by simpa using h1, fun m hm => ?_⟩
        cases m with
        | zero => simpa using ne
        | succ m => simpa using h2 m (by have q : m + 1 < i + 1 := hm; omega)
def tindexM : M1 := fun x xs g => match x, xs with
  | .wtu us, [.str z] => match strsOf us with
    | some ys => match firstS z ys with
      | some j => .ok (.int j) g
      | none => .bad
    | none => .bad
  | _, _ => .bad
theorem mk_tindex : MkOk κ tindexM (fun x xs H Q => ∃ p, ∃ ys : List Str, ∃ z j, x = .ref p ∧ xs = [.str z] ∧ SqT κ.K H p (ys.map V.str) ∧ ys[j]? = some z ∧ (∀ m, m < j → ys[m]? ≠ some z) ∧ Q (.int (j : Nat)) H) := by
  intro θ g H x xs v vs Q Wx S rx rxs h
  unfold tindexM at h
  split at h
  · rename_i us z
    obtain ⟨w, rfl, rw'⟩ := relUs1 rxs
    cases e2 : strsOf us with
    | none => rw [e2] at h; exact h.elim
    | some ys =>
      rw [e2] at h
      dsimp only at h
      cases e3 : firstS z ys with
      | none => rw [e3] at h; exact h.elim
      | some j =>
        rw [e3] at h
        obtain ⟨p, ws, rfl, hs, rv⟩ := rx.ofWtu
        have ew := strsOf_rel rv e2
        subst ew
        obtain ⟨h1, h2⟩ := firstS_ok e3
        exact ⟨p, ys, z, j, rfl, by rw [relStr' rw'], hs.seq, h1, h2, h θ H _ (Le.refl _ _) S relInt⟩
  · exact h.elim
def lindexM : M1 := fun x xs g => match xs with
  | [.str z] => match lstV x g with
    | some us => match strsOf us with
      | some ys => match firstS z ys with
        | some j => .ok (.int j) g
        | none => .bad
      | none => .bad
    | none => .bad
  | _ => .bad
theorem mk_lindex : MkOk κ lindexM (rIndex κ.K) := by
  intro θ g H x xs v vs Q Wx S rx rxs h
  unfold lindexM at h
  split at h
  · rename_i z
    obtain ⟨w, rfl, rw'⟩ := relUs1 rxs
    cases e1 : lstV x g with
    | none => rw [e1] at h; exact h.elim
    | some us =>
      rw [e1] at h
      dsimp only at h
      cases e2 : strsOf us with
      | none => rw [e2] at h; exact h.elim
      | some ys =>
        rw [e2] at h
        dsimp only at h
        cases e3 : firstS z ys with
        | none => rw [e3] at h; exact h.elim
        | some j =>
          rw [e3] at h
          obtain ⟨p, ws, rfl, hs, rv⟩ := lstV_rel S rx e1
          have ew := strsOf_rel rv e2
          subst ew
          obtain ⟨h1, h2⟩ := firstS_ok e3
          refine ⟨p, ys.map V.str, .str z, j, .str z, rfl, by rw [relStr' rw'], hs, rfl, ?_, by rw [List.getElem?_map, h1]; rfl, by simp [eqV], fun m z' hm hz' => ?_, h θ H _ (Le.refl _ _) S relInt⟩
          · rw [List.all_map]
            exact List.all_eq_true.mpr fun _ _ => rfl
          · rw [List.getElem?_map] at hz'
            cases e4 : ys[m]? with
            | none => rw [e4] at hz'; cases hz'
            | some y =>
              rw [e4] at hz'
              cases hz'
              have ne : y ≠ z := fun q => h2 m hm (by rw [e4, q])
              simp [eqV, ne]
  · exact h.elim
/-! ### slices -/
abbrev Eo := Us → Gs → Res (Option Int)
def RlO : List Addr → Hp → Option Int → Option Int → Prop := fun _ _ a b => a = b
abbrev RO (κ : Ctx) (W : WX) (f : Eo) : TO := RX κ RlO W f
def noP : Eo := fun _ g => .ok none g
def atP (f : Ev) : Eo := fun us g => (f us g).bind fun u g1 => match u with
  | .int i => .ok (some i) g1
  | _ => .bad
theorem _root_.L2.PO.imp {e : Option Expr} {t u : TO} (h : PO X e t) (hi : ∀ σ H Q, u σ H Q → t σ H Q) : PO X e u := ⟨fun pins s σ H Q I q => h.run pins s σ H Q I (hi σ H Q q)⟩
theorem ro_none : PO X none (RO κ W noP) := po_none.imp fun σ H Q ⟨θ, us, g, S, R, p⟩ => p θ H none (Le.refl _ _) S rfl
theorem ro_some {e : Expr} {f : Ev} (h : PE X e (RE κ W f)) : PO X (some e) (RO κ W (atP f)) := (po_some h).imp fun σ H Q q => by
  obtain ⟨θ, us, g, S, R, p⟩ := q
  refine RX.bind S R p fun u g1 θ1 H1 v l1 S1 R1 rx p1 => ?_
  cases u with
  | int i => exact ⟨i, relInt' rx, p1 θ1 H1 (some i) (Le.refl _ _) S1 rfl⟩
  | _ => exact p1.elim
def cutU {α : Type} (xs : List α) (lo hi : Option Int) : List α := (xs.drop (HT.sIx xs.length 0 lo)).take (HT.sIx xs.length xs.length hi - HT.sIx xs.length 0 lo)
def slU (u : U) (lo hi : Option Int) (g : Gs) : Res U := match u with
  | .str z => if z.length ≤ 1000000 then .ok (.str (cutS z lo hi)) g else .bad
  | .tup us => .ok (.tup (cutU us lo hi)) g
  | .wtu us => .ok (.tup (cutU us lo hi)) g
  | u => match lstV u g with
    | some us => newL (cutU us lo hi) g
    | none => .bad
def slE (f : Ev) (lo hi : Eo) : Ev := fun us g => (f us g).bind fun x g1 => (lo us g1).bind fun l g2 => (hi us g2).bind fun h g3 => slU x l h g3
def rSlAny (K : PySem.W.Frag) : V → Option Int → Option Int → Hp → VK → Prop := fun x lo hi H Q => rSlL K x lo hi H Q ∨ rSlS x lo hi H Q ∨ rSlA K x lo hi H Q
theorem sl_any : SlR X (rSlAny X.K) := sl_list.or (sl_str.or sl_tupA)
theorem cut_rel {θ : List Addr} {H : Hp} {us : List U} {vs : List V} (lo hi : Option Int) (r : RelUs κ.K θ H us vs) : RelUs κ.K θ H (cutU us lo hi) (cutV vs lo hi) := by
  unfold cutU cutV
  rw [r.length]
  exact (r.drop _).take _
theorem sl_tupc {θ : List Addr} {g : Gs} {H : Hp} {us : List U} {a : Addr} {vs : List V} {lo hi : Option Int} {Q : VK} {Wx : Value → Option Addr → Hp → Prop} (S : Sim κ θ g H) (hs : SqT κ.K H a vs) (rv : RelUs κ.K θ H us vs) (h : (Res.ok (.tup (cutU us lo hi)) g : Res U).post κ (RlU κ) θ H Q Wx) : rSlA κ.K (.ref a) lo hi H Q := by
  refine ⟨a, vs, rfl, hs, fun hw => ?_, fun _ p hp => tup_app S (cut_rel lo hi rv) h hp⟩
  have e : cutU us lo hi = us := by
    unfold cutU
    rw [rv.length, hw.1, hw.2, List.drop_zero, Nat.sub_zero, ← rv.length, List.take_length]
  rw [e] at h
  exact h θ H _ (Le.refl _ _) S (relTup hs rv)
theorem slU_rel {θ : List Addr} {g : Gs} {H : Hp} {u : U} {v : V} {lo hi : Option Int} {Q : VK} {Wx : Value → Option Addr → Hp → Prop} (S : Sim κ θ g H) (r : RelU κ.K θ H u v) (h : (slU u lo hi g).post κ (RlU κ) θ H Q Wx) : rSlAny κ.K v lo hi H Q := by
  have seq : (match lstV u g with
    | some us => newL (cutU us lo hi) g
    | none => .bad).post κ (RlU κ) θ H Q Wx → rSlAny κ.K v lo hi H Q := fun h => by
    cases e : lstV u g with
    | none => rw [e] at h; exact h.elim
    | some us =>
      rw [e] at h
      obtain ⟨a, vs, rfl, hs, rv⟩ := lstV_rel S r e
      exact .inl ⟨a, vs, rfl, hs, (post_newL S (cut_rel lo hi rv) h).2⟩
  cases u with
  | str z =>
    simp only [slU] at h
    split at h
    · rename_i hl
      exact .inr (.inl ⟨z, relStr' r, Nat.le_trans hl (by decide), h θ H _ (Le.refl _ _) S relStr⟩)
    · exact h.elim
  | tup us =>
    obtain ⟨a, vs, rfl, hs, rv⟩ := r.ofTup
    exact .inr (.inr (sl_tupc S hs rv h))
  | wtu us =>
    obtain ⟨a, vs, rfl, hs, rv⟩ := r.ofWtu
    exact .inr (.inr (sl_tupc S hs.seq rv h))
  | _ => exact seq h
theorem re_sl {e : Expr} {lo hi : Option Expr} {p2 pos : Pos} {f : Ev} {l h : Eo} (hK : X.K = κ.K) (he : PE X e (RE κ W f)) (hl : PO X lo (RO κ W l)) (hu : PO X hi (RO κ W h)) : PE X (.Subscript e (.Slice lo hi none p2) pos) (RE κ W (slE f l h)) :=
  (pe_slice (r := rSlAny κ.K) (by rw [← hK]; exact sl_any) he hl hu).imp fun σ H Q q => by
    obtain ⟨θ, us, g, S, R, p⟩ := q
    refine RX.bind S R p fun x g1 θ1 H1 v l1 S1 R1 rx p1 => ?_
    refine RX.bind S1 R1 p1 fun lo g2 θ2 H2 w l2 S2 R2 ry p2 => ?_
    refine RX.bind S2 R2 p2 fun hi g3 θ3 H3 w' l3 S3 R3 rz p3 => ?_
    have e1 : lo = w := ry
    have e2 : hi = w' := rz
    subst e1 e2
    exact slU_rel S3 ((RelU.le S1 l2 rx).le S2 l3) p3
/-! ### a chained comparison -/
def chE (o o' : O2) (fa fb fc : Ev) : Ev := fun us g => (fa us g).bind fun x g1 => (fb us g1).bind fun y g2 => (o x y g2).bind fun z g3 => match z with
  | .bl k => if k = true then (fc us g3).bind fun w g4 => o' y w g4 else .ok (.bl false) g3
  | _ => .bad
theorem t_chain {o o' : O2} {r r' : R2} (ho : OpOk κ o r) (ho' : OpOk κ o' r') {fa fb fc : Ev} (σ : L2.St) (H : Hp) (Q : VK) (h : RE κ W (chE o o' fa fb fc) σ H Q) : tChain r r' (RE κ W fa) (RE κ W fb) (RE κ W fc) σ H Q := by
  obtain ⟨θ, us, g, S, R, p⟩ := h
  refine RX.bind S R p fun x g1 θ1 H1 v l1 S1 R1 rx p1 => ?_
  refine RX.bind S1 R1 p1 fun y g2 θ2 H2 w l2 S2 R2 ry p2 => ?_
  refine ho θ2 g2 H2 x y v w _ _ S2 (RelU.le S1 l2 rx) ry (Res.post_bind (Rl := RlU κ) p2 fun z g3 θ3 H3 zv l3 S3 rz p3 => ?_)
  cases z with
  | bl k =>
    refine ⟨k, relBl' rz, ?_⟩
    dsimp only at p3
    cases k with
    | true =>
      rw [if_pos rfl] at p3 ⊢
      refine RX.bind S3 (R2.le S2 l3) p3 fun c g4 θ4 H4 cv l4 S4 R4 rc p4 => ?_
      exact ho' θ4 g4 H4 y c w cv Q _ S4 ((RelU.le S2 l3 ry).le S3 l4) rc p4
    | false =>
      rw [if_neg Bool.false_ne_true] at p3 ⊢
      exact p3 θ3 H3 _ (Le.refl _ _) S3 relBl
  | _ => exact p3.elim
theorem re_chain {op op' : CmpOp} {o o' : O2} {r r' : R2} {a b c : Expr} {fa fb fc : Ev} {pos : Pos} (hr : OpR X (compareOp op) r) (hr' : OpR X (compareOp op') r') (ho : OpOk κ o r) (ho' : OpOk κ o' r') (ha : PE X a (RE κ W fa)) (hb : PE X b (RE κ W fb)) (hc : PE X c (RE κ W fc))
    (hm : lastMarks [op, op'] [b, c] = false := by with_unfolding_all rfl) : PE X (.Compare a [op, op'] [b, c] pos) (RE κ W (chE o o' fa fb fc)) := (pe_chain hr hr' ha hb hc hm).imp (t_chain ho ho')
theorem rt_chain {op op' : CmpOp} {o o' : O2} {r r' : R2} {a b c : Expr} {fa fb fc : Ev} {pos : Pos} (hr : OpR X (compareOp op) r) (hr' : OpR X (compareOp op') r') (ho : OpOk κ o r) (ho' : OpOk κ o' r') (ha : PE X a (RE κ W fa)) (hb : PE X b (RE κ W fb)) (hc : PE X c (RE κ W fc))
    (hm : lastMarks [op, op'] [b, c] = false := by with_unfolding_all rfl) : PT X (.Compare a [op, op'] [b, c] pos) (RT κ W (tst (chE o o' fa fb fc))) := (pt_chain hr hr' ha hb hc hm).imp fun σ H Q h => by
  obtain ⟨θ', us', g', S', R', p'⟩ := t_tst (κ := κ) (W := W) (f := chE o o' fa fb fc) σ H Q h
  exact t_chain ho ho' σ H _ ⟨θ', us', g', S', R', p'⟩
/-! ### f-strings as values -/
def fmtE (f : Ev) : Ev := fun us g => (f us g).bind fun u g1 => match u with
  | .str y => if y.length ≤ 1000000 then .ok (.str y) g1 else .bad
  | .int i => if i.natAbs.log2 < 1920 then .ok (.str (toString i)) g1 else .bad
  | _ => .bad
theorem re_fmt {e : Expr} {pos : Pos} {f : Ev} (he : PE X e (RE κ W f)) : PE X (.FormattedValue e (-1) none pos) (RE κ W (fmtE f)) := (pe_fmt he).imp fun σ H Q h => by
  obtain ⟨θ, us, g, S, R, p⟩ := h
  refine RX.bind S R p fun u g1 θ1 H1 v l1 S1 R1 rx p1 => ?_
  cases u with
  | str y =>
    dsimp only at p1
    split at p1
    · rename_i hl
      exact .inl ⟨y, relStr' rx, Nat.le_trans hl (by decide), p1 θ1 H1 _ (Le.refl _ _) S1 relStr⟩
    · exact p1.elim
  | int i =>
    dsimp only at p1
    split at p1
    · rename_i hl
      exact .inr ⟨i, relInt' rx, hl, p1 θ1 H1 _ (Le.refl _ _) S1 relStr⟩
    · exact p1.elim
  | _ => exact p1.elim
def joGo : List Ev → Str → Ev
  | [], acc => fun _ g => .ok (.str acc) g
  | f :: fs, acc => fun us g => (f us g).bind fun u g1 => match u with
    | .str y => if (acc ++ y).length ≤ 1000000 then joGo fs (acc ++ y) us g1 else .bad
    | _ => .bad
theorem t_jo {σ : L2.St} {Q : VK} : ∀ {fs : List Ev} {acc : Str} {H : Hp}, RE κ W (joGo fs acc) σ H Q → tJs (fs.map (RE κ W)) acc σ H fun out H1 => Q (.str out) H1
  | [], acc, H, h => by
    obtain ⟨θ, us, g, S, R, p⟩ := h
    exact p θ H _ (Le.refl _ _) S relStr
  | f :: fs, acc, H, h => by
    obtain ⟨θ, us, g, S, R, p⟩ := h
    refine RX.bind S R p fun u g1 θ1 H1 v l1 S1 R1 rx p1 => ?_
    cases u with
    | str y =>
      dsimp only at p1
      split at p1
      · rename_i hl
        exact ⟨y, relStr' rx, Nat.le_trans hl (by decide), t_jo ⟨θ1, us, g1, S1, R1, p1⟩⟩
      · exact p1.elim
    | _ => exact p1.elim
theorem re_joined {v1 v2 : Expr} {rest : List Expr} {fs : List Ev} {pos : Pos} (h : PJ X (v1 :: v2 :: rest) (fs.map (RE κ W))) : PE X (.JoinedStr (v1 :: v2 :: rest) pos) (RE κ W (joGo fs Str.empty)) := (pe_joined h).imp fun σ H Q q => t_jo q
/-! ### -x -/
def negE (f : Ev) : Ev := fun us g => (f us g).bind fun u g1 => match u with
  | .int i => .ok (.int (-i)) g1
  | _ => .bad
theorem re_neg {a : Expr} {pos : Pos} {f : Ev} (ha : PE X a (RE κ W f)) : PE X (.UnaryOp .USub a pos) (RE κ W (negE f)) := (pe_un un_neg ha).imp fun σ H Q h => by
  obtain ⟨θ, us, g, S, R, p⟩ := h
  refine RX.bind S R p fun u g1 θ1 H1 v l1 S1 R1 rx p1 => ?_
  cases u with
  | int i => exact ⟨i, relInt' rx, p1 θ1 H1 _ (Le.refl _ _) S1 relInt⟩
  | _ => exact p1.elim
end
end R
set_option Elab.async false
set_option linter.all false
set_option maxRecDepth 100000
set_option maxHeartbeats 1000000
namespace R
open PySem PySem.Spec L2
open PyProof.Rows hiding St
section
variable {X : Cx} {κ : Ctx} {W : WX}
/-! ### instances of own classes -/
theorem RelF.look {K : PySem.W.Frag} {θ : List Addr} {H : Hp} (f : Str) : ∀ {fs : List (Str × U)} {gs : List (Str × V)}, RelF K θ H fs gs → (∀ u, fs.lookup f = some u → ∃ v, gs.lookup f = some v ∧ RelU K θ H u v) ∧ (fs.lookup f = none → gs.lookup f = none)
  | [], [], _ => ⟨(fun u h => nomatch h), fun _ => rfl⟩
  | [], g :: gs, h => by have e := h.1; simp at e
  | a :: fs, [], h => by have e := h.1; simp at e
  | (k, u) :: fs, (k', v) :: gs, h => by
    obtain ⟨h1, h2⟩ := h
    simp only [List.map_cons, List.cons.injEq] at h1
    obtain ⟨e, h1⟩ := h1
    subst e
    rw [List.map_cons, List.map_cons] at h2
    unfold RelUs at h2
    obtain ⟨w, ws, ew, r1, r2⟩ := h2
    obtain ⟨rfl, rfl⟩ := List.cons.inj ew
    obtain ⟨q1, q2⟩ := RelF.look f (fs := fs) (gs := gs) ⟨h1, r2⟩
    rw [List.lookup_cons, List.lookup_cons]
    cases hb : f == k' with
    | true => exact ⟨fun x e => by cases e; exact ⟨_, rfl, r1⟩, (fun e => nomatch e)⟩
    | false => exact ⟨q1, q2⟩
def insV (c : Nat) (u : U) (g : Gs) : Option (List (Str × U)) := match u with
  | .ref n => match g[n]? with
    | some (.ins c' fs) => if c' = c then some fs else none
    | _ => none
  | _ => none
theorem insV_rel {θ : List Addr} {g : Gs} {H : Hp} {c : Nat} {u : U} {v : V} {fs : List (Str × U)} (S : Sim κ θ g H) (r : RelU κ.K θ H u v) (h : insV c u g = some fs) : ∃ n a dx gs, u = .ref n ∧ g[n]? = some (.ins c fs) ∧ v = .ref a ∧ θ[n]? = some a ∧ H a = some (.ins (κ.C c) dx gs) ∧ RelF κ.K θ H fs gs := by
  cases u with
  | ref n =>
    obtain ⟨a, rfl, ha⟩ := r.ofRef
    simp only [insV] at h
    split at h
    · rename_i c' fs' e
      split at h
      · rename_i ec
        subst ec
        cases h
        obtain ⟨dx, gs, hv, rv⟩ := S.ok n _ a e ha
        exact ⟨n, a, dx, gs, rfl, e, rfl, ha, hv, rv⟩
      · cases h
    · cases h
  | _ => cases h
def fldE (c : Nat) (f : Str) (fe : Ev) : Ev := fun us g => (fe us g).bind fun x g1 => match insV c x g1 with
  | some fs => match fs.lookup f with
    | some u => .ok u g1
    | none => .bad
  | none => .bad
theorem re_fld {e : Expr} {f : Str} {pos : Pos} {c : Nat} {fe : Ev} (hK : X.K = κ.K) (cl : Cls κ.K (κ.C c)) (na : NoAttr κ.K (κ.C c) f) (he : PE X e (RE κ W fe)) (hb : attributeBase e f X.env (eval e X.env) = eval e X.env := by rfl) : PE X (.Attribute e f pos) (RE κ W (fldE c f fe)) :=
  (pe_fld he hb).imp fun σ H Q h => by
    obtain ⟨θ, us, g, S, R, p⟩ := h
    refine RX.bind S R p fun x g1 θ1 H1 v l1 S1 R1 rx p1 => ?_
    cases e1 : insV c x g1 with
    | none => rw [e1] at p1; exact p1.elim
    | some fs =>
      rw [e1] at p1
      dsimp only at p1
      cases e2 : fs.lookup f with
      | none => rw [e2] at p1; exact p1.elim
      | some u =>
        rw [e2] at p1
        obtain ⟨n, a, dx, gs, rfl, hn, rfl, ha, hv, rv⟩ := insV_rel S1 rx e1
        obtain ⟨w, hw, rw'⟩ := (rv.look f).1 u e2
        rw [hK]
        exact ⟨a, κ.C c, dx, gs, w, rfl, hv, cl, na, hw, p1 θ1 H1 w (Le.refl _ _) S1 rw'⟩
def putU (f : Str) (v : U) : List (Str × U) → List (Str × U)
  | [] => [(f, v)]
  | (g, x) :: r => if g = f then (g, v) :: r else (g, x) :: putU f v r
theorem RelF.put {K : PySem.W.Frag} {θ : List Addr} {H : Hp} (f : Str) {u : U} {v : V} (ru : RelU K θ H u v) : ∀ {fs : List (Str × U)} {gs : List (Str × V)}, RelF K θ H fs gs → RelF K θ H (putU f u fs) (putF f v gs)
  | [], [], _ => ⟨rfl, RelUs.cons ru RelUs.nil⟩
  | [], g :: gs, h => by have e := h.1; simp at e
  | a :: fs, [], h => by have e := h.1; simp at e
  | (k, x) :: fs, (k', y) :: gs, h => by
    obtain ⟨h1, h2⟩ := h
    simp only [List.map_cons, List.cons.injEq] at h1
    obtain ⟨e, h1⟩ := h1
    subst e
    rw [List.map_cons, List.map_cons] at h2
    unfold RelUs at h2
    obtain ⟨w, ws, ew, r1, r2⟩ := h2
    obtain ⟨rfl, rfl⟩ := List.cons.inj ew
    unfold putU putF
    by_cases hb : k' = f
    · rw [if_pos hb, if_pos hb]
      refine ⟨?_, ?_⟩
      · rw [List.map_cons, List.map_cons, h1]
      · rw [List.map_cons, List.map_cons]
        exact RelUs.cons ru r2
    · rw [if_neg hb, if_neg hb]
      obtain ⟨q1, q2⟩ := RelF.put f ru (fs := fs) (gs := gs) ⟨h1, r2⟩
      refine ⟨?_, ?_⟩
      · rw [List.map_cons, List.map_cons, q1]
      · rw [List.map_cons, List.map_cons]
        exact RelUs.cons r1 q2
theorem keep_ins {H : Hp} {a C dx : Addr} {gs : List (Str × V)} {o : HO} (hv : H a = some (.ins C dx gs)) : Keep H (upd H a o) := ⟨fun b zs hb => by
    have ne : b ≠ a := fun z => by subst z; rw [hv] at hb; cases hb
    rw [upd_ne ne]; exact hb, fun b o' q hb => by
    have ne : b ≠ a := fun z => by subst z; rw [hv] at hb; cases hb
    rw [upd_ne ne]; exact hb⟩
/-- o.f = e -/
def setA (c : Nat) (f : Str) (fo fv : Ev) : Sx := fun us g => (fv us g).thn us fun y g1 => (fo us g1).thn us fun x g2 => match insV c x g2, x with
  | some fs, .ref n => if fs.length < 900 then .nx us (g2.set n (.ins c (putU f y fs))) else .bad
  | _, _ => .bad
theorem rs_setA {o value : Expr} {f : Str} {pos pos' : Pos} {c : Nat} {fo fv : Ev} (hK : X.K = κ.K) (cl : Cls κ.K (κ.C c)) (na : NoAttr κ.K (κ.C c) f) (ho : PE X o (RE κ W fo)) (hv : PE X value (RE κ W fv)) (hs : swapsWith value (some (.Attribute o f pos')) pos.line X.env = pure false := by rfl) :
    PS X (.Assign [.Attribute o f pos'] value pos) (RS κ W (setA c f fo fv)) := (ps_fld ho hv hs).imp fun D σ H h => by
  obtain ⟨θ, us, g, S, R, p⟩ := h
  refine RX.thn S R p fun y g1 θ1 H1 yv l1 S1 R1 ry p1 => ?_
  refine RX.thn S1 R1 p1 fun x g2 θ2 H2 xv l2 S2 R2 rx p2 => ?_
  cases e1 : insV c x g2 with
  | none => rw [e1] at p2; exact p2.elim
  | some fs =>
    rw [e1] at p2
    obtain ⟨n, a, dx, gs, rfl, hn, rfl, ha, hx, rv⟩ := insV_rel S2 rx e1
    dsimp only at p2
    split at p2
    · rename_i hl
      have el : fs.length = gs.length := by
        have q := congrArg List.length rv.1
        simpa using q.symm
      rw [hK]
      have ry2 : RelU κ.K θ2 H2 y yv := RelU.le S1 l2 ry
      have rp := RelF.put f ry2 rv
      have k := keep_ins (o := .ins (κ.C c) dx (putF f yv gs)) hx
      obtain ⟨l, S3⟩ := S2.put (c := .ins c (putU f y fs)) (o := .ins (κ.C c) dx (putF f yv gs)) ha hx trivial ⟨dx, _, upd_same, rp.1, rp.2.keep k fun _ _ h => h⟩
      exact ⟨a, κ.C c, dx, gs, rfl, hx, cl, na, by omega, p2 θ2 _ σ l S3 (R2.le S2 l)⟩
    · exact p2.elim
/-! ### calls that raise nothing -/
def noX {α : Type} : Res α → Res α
  | .exc _ _ _ => .bad
  | r => r
theorem noX_post {α β : Type} {Rl : List Addr → Hp → α → β → Prop} {θ : List Addr} {H : Hp} {Q : β → Hp → Prop} {Wx Wy : Value → Option Addr → Hp → Prop} {r : Res α} (h : (noX r).post κ Rl θ H Q Wx) : r.post κ Rl θ H Q Wy := by
  cases r with
  | ok a g => exact h
  | exc c fs g => exact h.elim
  | bad => exact h.elim
/-- o.m(..) -/
def mtE (c : Nat) (name : Str) (m : Mm) (d : List U) (f : Ev) (a : Ea) : Ev := fun us g => (f us g).bind fun x g1 => match insV c x g1 with
  | some fs => if fs.lookup name = none then (a us g1).bind fun xs g2 => noX (m (x :: (xs ++ d)) g2) else .bad
  | none => .bad
theorem re_meth {o e : Expr} {es : List Expr} {name : Str} {apos pos : Pos} {c : Nat} {g0 : Addr} {fd : FuncData} {ps : List Str} {j : Nat} {m : Mm} {d : List U} {dvs : List V} {ds : List Value} {f : Ev} {a : Ea} {pl : Sem Bool} (hK : X.K = κ.K) (cl : Cls κ.K (κ.C c)) (hm : Meth κ.K (κ.C c) name g0)
    (F : FnOk X.prog X.w X.K X.mg X.base (L2.CX X.prog X.w) j g0 fd ps (spR κ m)) (hr : Room j X.A) (hb : Binds X.K fd ps ds) (hd : Vals dvs ds) (rd : ∀ θ H, RelUs κ.K θ H d dvs) (ho : PE X o (RE κ W f)) (ha : PA X (e :: es) (RA κ W a))
    (hst : starEach (e :: es) X.env = (false, eval e X.env) :: starEach es X.env := by rfl) (hpl : (backTo pos (starEach es X.env)).any (·.1) = false := by rfl)
    (ht : eval (.Call (.Attribute o name apos) (e :: es) [] pos) X.env = (do
      let ov ← eval o X.env
      standAt apos.atName
      let (f, first) ← holding [ov] (getMethod ov name pl)
      callWith pos f first (backTo pos (starEach (e :: es) X.env)) (backToKw pos (keywordEach [] X.env))) := by rfl) :
    PE X (.Call (.Attribute o name apos) (e :: es) [] pos) (RE κ W (mtE c name m d f a)) :=
  (pe_meth (C := κ.C c) (E := E0) ho (by rw [hK]; exact cl) (by rw [hK]; exact hm) F hr hb hd passL ha hst hpl ht).imp fun σ H Q h => by
    obtain ⟨θ, us, g, S, R, p⟩ := h
    refine RX.bind S R p fun x g1 θ1 H1 v l1 S1 R1 rx p1 => ?_
    cases e1 : insV c x g1 with
    | none => rw [e1] at p1; exact p1.elim
    | some fs =>
      rw [e1] at p1
      dsimp only at p1
      split at p1
      · rename_i hl
        obtain ⟨n, b, dx, gs, rfl, hn, rfl, hb', hx, rv⟩ := insV_rel S1 rx e1
        refine ⟨b, dx, gs, rfl, hx, (rv.look name).2 hl, ?_⟩
        refine RX.bind S1 R1 p1 fun xs g2 θ2 H2 vs l2 S2 R2 rxs p2 => ?_
        exact ⟨θ2, _, g2, S2, RelUs.cons (RelU.le S1 l2 rx) (RelUs.append rxs (rd _ _)), noX_post p2⟩
      · exact p1.elim
/-- C(..): the run may raise -/
def newI (c : Nat) (m : Mm) (xs : List U) (g : Gs) : Res U := (m (.ref g.length :: xs) (g ++ [.ins c []])).bind fun v g2 => match v with
  | .non => .ok (.ref g.length) g2
  | _ => .bad
def mkE (c : Nat) (m : Mm) (d : List U) (a : Ea) : Ev := fun us g => (a us g).bind fun xs g1 => newI c m (xs ++ d) g1
theorem t_mk {c : Nat} {m : Mm} {xs : List U} {vs : List V} {g : Gs} {θ : List Addr} {H : Hp} {Q : VK} {E : XK} (S : Sim κ θ g H) (r : RelUs κ.K θ H xs vs) (p : (newI c m xs g).post κ (RlU κ) θ H Q E) :
    ∀ x dx, H x = none → H dx = none → dx ≠ x → spR κ m (.ref x :: vs) (upd (upd H dx (.own x)) x (.ins (κ.C c) dx [])) (fun v H2 => v = .non ∧ Q (.ref x) H2) E := by
  intro x dx hx hdx hne
  obtain ⟨l1, S1⟩ := S.other (o := .own x) hdx
  have hx1 : upd H dx (.own x) x = none := by rw [upd_ne (Ne.symm hne)]; exact hx
  obtain ⟨l2, S2⟩ := S1.new (p := x) (o := .ins (κ.C c) dx []) (c := .ins c []) hx1 ⟨dx, [], upd_same, rfl, RelUs.nil⟩
  have l := l1.trans l2
  have rx : RelU κ.K (θ ++ [x]) (upd (upd H dx (.own x)) x (.ins (κ.C c) dx [])) (.ref g.length) (.ref x) := S.newRef
  refine ⟨_, _, _, S2, RelUs.cons rx (r.le S l), ?_⟩
  unfold newI at p
  refine Res.post_bind (Rl := RlU κ) (Res.post_mono l p) fun v g2 θ2 H2 vv l3 S3 rv p2 => ?_
  cases v with
  | non => exact ⟨relNon' rv, p2 θ2 H2 _ (Le.refl _ _) S3 (rx.le S2 l3)⟩
  | _ => exact p2.elim
section
variable {CX : CXT} {C fI : Addr} {fd : FuncData} {ps : List Str} {sp : Sp} {dvs : List V} {ds : List Value} {j : Nat} {E : L2.St → XK}
/-- an own class called: a new instance, its __init__ runs, what that raises is wished for at the caller's slots -/
theorem run_mkS {pins : List (Addr × Obj)} {σ : L2.St} {H : Hp} {s : Shared} {Q : VK} {args : List Value} {vs : List V} (M : Mk X.K C fI) (F : FnOk X.prog X.w X.K X.mg X.base CX j fI fd ps sp) (room : Room (j + 1) X.A) (bnd : Binds X.K fd ps ds) (dv : Vals dvs ds) (pass : PassesAt CX X σ (E σ)) (I : Inv X pins σ H s) (rel : Vals vs args)
    (want : ∀ x dx, H x = none → H dx = none → dx ≠ x → sp (.ref x :: (vs ++ dvs)) (upd (upd H dx (.own x)) x (.ins C dx [])) (fun v H2 => v = .non ∧ Q (.ref x) H2) (E σ)) : wpAny (model X.prog X.w) X.A (call (.ref C) args) (EP X pins σ Q) X.xe s := by
  have go := want (s.heap.objs.size + 1) s.heap.objs.size (I.hok.fresh (Nat.le_succ _)) (I.hok.fresh (Nat.le_refl _)) (Nat.ne_of_lt (Nat.lt_succ_self _))
  have J := Inv.made (C := C) I
  have all : Vals (V.ref (s.heap.objs.size + 1) :: (vs ++ dvs)) (Value.ref (s.heap.objs.size + 1) :: (args ++ ds)) := .cons rfl (rel.append dv)
  have count : (Value.ref (s.heap.objs.size + 1) :: args ++ ds).length = ps.length := (all.length.symm.trans (F.len _ _ _ _ go))
  have code := F.run _ X.stack _ _ ⟨Value.ref (s.heap.objs.size + 1) :: args, []⟩ (Value.ref (s.heap.objs.size + 1) :: (args ++ ds)) _ _ (E σ) (room.make C args []) (J.env0.make C args []) (bnd _ (Value.ref (s.heap.objs.size + 1) :: args) J.kIn count) all go
  refine wpAny_call (make_map (f := fI) I.kIn M.makes M.init (beq_iff_eq.mp M.fn) (codeAny_mono code fun r s2 h2 => ?_))
  cases r with
  | error ex => exact pass pins _ _ ex s2 J h2
  | ok fl =>
    cases fl with
    | ret u =>
      obtain ⟨v, H3, I3, rv, ev, q3⟩ := J.after h2
      subst ev
      exact ⟨rv, ⟨V.ref (s.heap.objs.size + 1), H3, I3, rfl, q3⟩⟩
    | next => exact False.elim h2
    | brk => exact False.elim h2
    | cont => exact False.elim h2
def tMkS (C : Addr) (sp : Sp) (dvs : List V) (E : L2.St → XK) (t : TA) : TE := fun σ H Q => t σ H fun vs H1 => ∀ x dx, H1 x = none → H1 dx = none → dx ≠ x → sp (.ref x :: (vs ++ dvs)) (upd (upd H1 dx (.own x)) x (.ins C dx [])) (fun v H2 => v = .non ∧ Q (.ref x) H2) (E σ)
theorem pe_mkS {x : Str} {p pos : Pos} {e : Expr} {es : List Expr} {t : TA} (M : Mk X.K C fI) (F : FnOk X.prog X.w X.K X.mg X.base CX j fI fd ps sp) (room : Room (j + 1) X.A) (hg : Gl X x) (hm : X.mg x = some (.ref C)) (bnd : Binds X.K fd ps ds) (dv : Vals dvs ds) (pass : ∀ σ, PassesAt CX X σ (E σ)) (ha : PA X (e :: es) t)
    (hdb : (x == ("__debug__" : Str)) = false := by decide) (he : starEach (e :: es) X.env = (false, eval e X.env) :: starEach es X.env := by rfl) (hpl : (backTo pos (starEach es X.env)).any (·.1) = false := by rfl) : PE X (.Call (.Name x p) (e :: es) [] pos) (tMkS C sp dvs E t) :=
  ⟨fun pins s σ H Q I h => wpAny_Call_Name_kw (ld_glob I hg hm (PySem.W.callWith_K (h₀ := X.base) I.ok.mod.kin M.kp (thn (ha.run pos pins s σ H _ I h) fun us s1 ⟨vs, H1, I1, r, q⟩ => ⟨I1.kIn, run_mkS M F room bnd dv (pass σ) I1 r q⟩) he hpl) hdb)⟩
end
theorem re_mk {x : Str} {p pos : Pos} {e : Expr} {es : List Expr} {c : Nat} {fI : Addr} {fd : FuncData} {ps : List Str} {j : Nat} {m : Mm} {d : List U} {dvs : List V} {ds : List Value} {a : Ea} (tk : Takes X W) (M : Mk X.K (κ.C c) fI) (F : FnOk X.prog X.w X.K X.mg X.base (L2.CX X.prog X.w) j fI fd ps (spR κ m)) (hr : Room (j + 1) X.A)
    (hm : X.mg x = some (.ref (κ.C c))) (hb : Binds X.K fd ps ds) (hd : Vals dvs ds) (rd : ∀ θ H, RelUs κ.K θ H d dvs) (ha : PA X (e :: es) (RA κ W a)) (hg : Gl X x := by rfl) (hdb : (x == ("__debug__" : Str)) = false := by decide) (he : starEach (e :: es) X.env = (false, eval e X.env) :: starEach es X.env := by rfl)
    (hpl : (backTo pos (starEach es X.env)).any (·.1) = false := by rfl) : PE X (.Call (.Name x p) (e :: es) [] pos) (RE κ W (mkE c m d a)) :=
  (pe_mkS (E := fun σ => WE W σ) M F hr hg hm hb hd (fun σ => passAt tk σ) ha hdb he hpl).imp fun σ H Q h => by
    obtain ⟨θ, us, g, S, R, p⟩ := h
    exact RX.bind S R p fun xs g1 θ1 H1 vs l1 S1 R1 rx p1 => t_mk S1 (RelUs.append rx (rd _ _)) p1
/-- C() -/
def mk0 (c : Nat) (m : Mm) (d : List U) : Ev := fun _ g => noX (newI c m d g)
theorem re_mk0 {x : Str} {p pos : Pos} {c : Nat} {fI : Addr} {fd : FuncData} {ps : List Str} {j : Nat} {m : Mm} {d : List U} {dvs : List V} {ds : List Value} (M : Mk X.K (κ.C c) fI) (F : FnOk X.prog X.w X.K X.mg X.base (L2.CX X.prog X.w) j fI fd ps (spR κ m)) (hr : Room (j + 1) X.A)
    (hm : X.mg x = some (.ref (κ.C c))) (hb : Binds X.K fd ps ds) (hd : Vals dvs ds) (rd : ∀ θ H, RelUs κ.K θ H d dvs) (hg : Gl X x := by rfl) (hdb : (x == ("__debug__" : Str)) = false := by decide) : PE X (.Call (.Name x p) [] [] pos) (RE κ W (mk0 c m d)) :=
  (pe_make0 (E := E0) M F hr hg hm hb hd passL hdb).imp fun σ H Q h => by
    obtain ⟨θ, us, g, S, R, p⟩ := h
    exact t_mk S (rd _ _) (noX_post p)
end
end R
set_option Elab.async false
set_option linter.all false
set_option maxRecDepth 100000
set_option maxHeartbeats 1000000
namespace R
open PySem PySem.Spec L2
open PyProof.Rows hiding St
/-! ### static methods, read off the class -/
/-- C.m is a staticmethod: its record at p, its def at g -/
structure CSta (K : PySem.W.Frag) (C : Addr) (mc : Value) (m : Str) (p g : Addr) : Prop where
  at_ : PySem.W.findCls K (.ref C) mc m = some (.get (.builtin "staticmethod.__get__") (.ref p) .none (.ref C))
  rc : ∃ rest, PySem.W.recIn K p "staticmethod" = some (.ref g :: rest)
  kp : PySem.W.keepIn K (.ref g) = true
section
variable {X : Cx} {κ : Ctx} {W : WX}
theorem pe_sta0 {CX : CXT} {k : Nat} {C p g : Addr} {mc : Value} {fd : FuncData} {ps : List Str} {sp : Sp} {dvs : List V} {ds : List Value} {o : Expr} {m : Str} {pos apos : Pos} {ta : TE} {pl : Sem Bool} (he : PE X o ta) (r : ClX.CRead X.K C mc) (c : CSta X.K C mc m p g)
    (F : FnOk X.prog X.w X.K X.mg X.base CX k g fd ps sp) (hr : Room k X.A) (hb : Binds X.K fd ps ds) (hd : Vals dvs ds) (hx : Passes CX X E0)
    (ht : eval (.Call (.Attribute o m apos) [] [] pos) X.env = (do
      let ov ← eval o X.env
      standAt apos.atName
      let (f, first) ← holding [ov] (getMethod ov m pl)
      callWith pos f first (backTo pos (starEach [] X.env)) (backToKw pos (keywordEach [] X.env))) := by rfl) :
    PE X (.Call (.Attribute o m apos) [] [] pos) (fun σ H Q => ta σ H fun x H1 => x = .ref C ∧ sp dvs H1 Q E0) := by
  refine ⟨fun pins s σ H Q I h => ?_⟩
  refine PySem.W.methodCall_KW (pl := pl) (thn (he.run pins s σ H _ I h) fun u s1 ⟨x, H1, I1, rx, ex, q⟩ => ?_) ht
  subst ex
  obtain rfl : u = Value.ref C := rx
  obtain ⟨rest, hp⟩ := c.rc
  refine PySem.W.method_cls I1.kIn r.ga (PySem.W.cls_bind I1.kIn r.rd c.at_ (wpAny_call (PySem.W.sm_get (s := { s1 with toks := s1.toks + 1 }) I1.kIn hp (PySem.W.handed_on rfl ?_))))
  have I2 : Inv X pins σ H1 { s1 with toks := s1.toks + 1 } := I1.tok _
  exact PySem.W.callWith_K0 (first := []) I2.kIn c.kp (run_fn (us := []) (vs := []) F hr hb hd hx I2 .nil q)
theorem re_sta0 {x m : Str} {px apos pos : Pos} {c : Nat} {p g : Addr} {mc : Value} {fd : FuncData} {ps : List Str} {j : Nat} {mm : Mm} {d : List U} {dvs : List V} {ds : List Value} {pl : Sem Bool} (r : ClX.CRead X.K (κ.C c) mc) (st : CSta X.K (κ.C c) mc m p g)
    (F : FnOk X.prog X.w X.K X.mg X.base (L2.CX X.prog X.w) j g fd ps (spR κ mm)) (hr : Room j X.A) (hm : X.mg x = some (.ref (κ.C c))) (hb : Binds X.K fd ps ds) (hd : Vals dvs ds) (rd : ∀ θ H, RelUs κ.K θ H d dvs) (hg : Gl X x := by rfl) (hdb : (x == ("__debug__" : Str)) = false := by decide)
    (ht : eval (.Call (.Attribute (.Name x px) m apos) [] [] pos) X.env = (do
      let ov ← eval (.Name x px) X.env
      standAt apos.atName
      let (f, first) ← holding [ov] (getMethod ov m pl)
      callWith pos f first (backTo pos (starEach [] X.env)) (backToKw pos (keywordEach [] X.env))) := by rfl) :
    PE X (.Call (.Attribute (.Name x px) m apos) [] [] pos) (RE κ W (call0 mm d)) :=
  (pe_sta0 (pe_glob (v := .ref (κ.C c)) hg hm rfl hdb) r st F hr hb hd passL ht).imp fun σ H Q h => by
    obtain ⟨θ, us, g, S, R, p⟩ := h
    refine ⟨rfl, θ, d, g, S, rd _ _, ?_⟩
    unfold call0 at p
    cases e : mm d g with
    | ok u g1 => rw [e] at p; exact p
    | exc c fs g1 => rw [e] at p; exact p.elim
    | bad => rw [e] at p; exact p.elim
/-! ### a | b, a - b, x in a of an own class -/
/-- what the class says of such an operator: its def at f -/
structure OwnOp (K : PySem.W.Frag) (C : Addr) (name : Str) (f : Addr) : Prop where
  at_ : PySem.W.findIn K (.ref C) name = some (some (.ref f))
  fn : PySem.W.isFn K (.ref f) = true
  first : PySem.W.selfFirst K C = true
def rOwnB (C : Addr) (sp : Sp) : R2 := fun x y H Q => ∃ a dx fs b dy gs, x = .ref a ∧ H a = some (.ins C dx fs) ∧ y = .ref b ∧ H b = some (.ins C dy gs) ∧ sp [x, y] H (fun v H' => (∃ n, v = .ref n) ∧ Q v H') E0
theorem op_own {op : Operator} {C f : Addr} {fd : FuncData} {ps : List Str} {j : Nat} {sp : Sp} (o : OwnOp X.K C (PySem.dunder op.info.2) f) (F : FnOk X.prog X.w X.K X.mg X.base (L2.CX X.prog X.w) j f fd ps sp) (hr : Room j X.A) (hb : Binds X.K fd ps []) : OpR X (binaryOp op) (rOwnB C sp) := by
  intro pins s σ H x y v u Q I rx ry h
  obtain ⟨a, dx, fs, b, dy, gs, rfl, ha, rfl, hb2, q⟩ := h
  cases rx
  cases ry
  obtain ⟨m1, J1, _⟩ := ins_get I.hok ha
  obtain ⟨o1, J1, _⟩ := J1.look
  obtain ⟨m2, J2, _⟩ := ins_get I.hok hb2
  obtain ⟨o2, J2, _⟩ := J2.look
  obtain ⟨m, hF⟩ := I.fr
  refine PySem.W.binop_K hF I.ok.mod.kin J1 J2.type o.first o.at_ o.fn (wpAny_mono (run_fn (dvs := []) (ds := []) (vs := [.ref a, .ref b]) F hr hb .nil passL I (.cons rfl (.cons rfl .nil)) q) (fun r s2 h2 => ?_) fun _ _ z => z)
  obtain ⟨v, H2, I2, rv, ⟨n, rfl⟩, q2⟩ := h2
  cases rv
  exact ⟨.ref n, H2, I2, rfl, q2⟩
def ownO (c : Nat) (m : Mm) : O2 := fun x y g => if (insV c x g).isSome = true ∧ (insV c y g).isSome = true then (match m [x, y] g with
  | .ok (.ref n) g1 => .ok (.ref n) g1
  | _ => .bad) else .bad
theorem ok_own {c : Nat} {m : Mm} : OpOk κ (ownO c m) (rOwnB (κ.C c) (spR κ m)) := by
  intro θ g H x y v w Q Wx S rx ry h
  unfold ownO at h
  split at h
  · rename_i hc
    obtain ⟨fs, h1⟩ := Option.isSome_iff_exists.mp hc.1
    obtain ⟨gs, h2⟩ := Option.isSome_iff_exists.mp hc.2
    obtain ⟨n, a, dx, fs', rfl, _, rfl, _, ha, _⟩ := insV_rel S rx h1
    obtain ⟨n2, b, dy, gs', rfl, _, rfl, _, hb, _⟩ := insV_rel S ry h2
    refine ⟨a, dx, fs', b, dy, gs', rfl, ha, rfl, hb, θ, _, g, S, RelUs.cons rx (RelUs.cons ry RelUs.nil), ?_⟩
    cases e : m [.ref n, .ref n2] g with
    | ok u g1 =>
      rw [e] at h
      cases u with
      | ref k => exact fun θ' H' v l s r => ⟨(r.ofRef).imp fun _ z => z.1, h θ' H' v l s r⟩
      | _ => exact h.elim
    | exc c fs g1 => rw [e] at h; exact h.elim
    | bad => rw [e] at h; exact h.elim
  · exact h.elim
def rOwnI (C : Addr) (sp : Sp) : R2 := fun x y H Q => ∃ b dy gs, y = .ref b ∧ H b = some (.ins C dy gs) ∧ sp [y, x] H (fun v H' => ∃ k, v = .bl k ∧ Q (.bl k) H') E0
theorem op_ownIn {C f : Addr} {fd : FuncData} {ps : List Str} {j : Nat} {sp : Sp} (hs : PySem.W.findIn X.K (.ref C) "__contains__" = some (some (.ref f))) (hf : PySem.W.isFn X.K (.ref f) = true) (F : FnOk X.prog X.w X.K X.mg X.base (L2.CX X.prog X.w) j f fd ps sp) (hr : Room j X.A) (hb : Binds X.K fd ps []) : OpR X (compareOp .In) (rOwnI C sp) := by
  intro pins s σ H x y v u Q I rx ry h
  obtain ⟨b, dy, gs, rfl, hb2, q⟩ := h
  cases ry
  obtain ⟨m2, J2, _⟩ := ins_get I.hok hb2
  obtain ⟨o2, J2, _⟩ := J2.look
  obtain ⟨m, hF⟩ := I.fr
  refine PySem.W.in_K hF I.ok.mod.kin J2 hs hf (wpAny_mono (run_fn (dvs := []) (ds := []) (vs := [.ref b, x]) F hr hb .nil passL I (.cons rfl (.cons rx .nil)) q) (fun r s2 h2 => ?_) fun _ _ z => z)
  obtain ⟨v, H2, I2, rv, k, rfl, q2⟩ := h2
  cases rv
  exact wpAny_truthy_bool ⟨.bl k, H2, I2, rfl, q2⟩
def ownInO (c : Nat) (m : Mm) : O2 := fun x y g => if (insV c y g).isSome = true then (match m [y, x] g with
  | .ok (.bl k) g1 => .ok (.bl k) g1
  | _ => .bad) else .bad
theorem ok_ownIn {c : Nat} {m : Mm} : OpOk κ (ownInO c m) (rOwnI (κ.C c) (spR κ m)) := by
  intro θ g H x y v w Q Wx S rx ry h
  unfold ownInO at h
  split at h
  · rename_i hc
    obtain ⟨gs, h2⟩ := Option.isSome_iff_exists.mp hc
    obtain ⟨n2, b, dy, gs', rfl, _, rfl, _, hb, _⟩ := insV_rel S ry h2
    refine ⟨b, dy, gs', rfl, hb, θ, _, g, S, RelUs.cons ry (RelUs.cons rx RelUs.nil), ?_⟩
    cases e : m [.ref n2, x] g with
    | ok u g1 =>
      rw [e] at h
      cases u with
      | bl k =>
        intro θ' H' v l s r
        have ev := relBl' r
        subst ev
        exact ⟨k, rfl, h θ' H' _ l s r⟩
      | _ => exact h.elim
    | exc c fs g1 => rw [e] at h; exact h.elim
    | bad => rw [e] at h; exact h.elim
  · exact h.elim
end
end R
set_option Elab.async false
set_option linter.all false
set_option maxRecDepth 100000
set_option maxHeartbeats 1000000
namespace R
open PySem PySem.Spec L2
open PyProof.Rows hiding St
/-! ### an own class whose __iter__ gives a tuple's iterator -/
/-- a def's body at one call -/
theorem fn_at {CX : CXT} {P : Program} {w : World} {K : PySem.W.Frag} {mg : Str → Option Value} {base : Heap} {k : Nat} {f : Addr} {name qual : Str} {params : Arguments} {body : List Stmt} {scope : Scope} {dV kV doc pm cdv ct oc : Value} {an od : Option Addr}
    {osl : Array (Option Value)} {N ps : List Str} (lk : K.lookup f = some ⟨oc, od, .func (PySem.W.fnOf name qual params body scope dV kV doc pm an cdv ct), osl⟩) (hcd : PySem.W.codeIn K cdv qual = true) (S : FnScope N ps scope)
    {A : Around} {outer : List Env} {s : Shared} {H : Hp} {args : Args} {us : List Value} {vs : List V} {Q : VK} {E : XK} (room : Room (k + 1) A) (env0 : Env0 P w K mg base A outer s H) (bnd : BindsTo s (PySem.W.fnOf name qual params body scope dV kV doc pm an cdv ct) args (ps.zip us)) (rel : Vals vs us) (count : vs.length = ps.length)
    (hbody : Room k (A.deeper (envOfC qual scope s.heap.objs.size f cdv)) → ∃ t, PSs (cxOf CX P w K mg base N qual scope f cdv A outer s H E) body t ∧ t { nx := fun _ H' => Q .non H', rt := Q } (start N vs) H) :
    codeAny (model P w) A (.call (.ref f) args) (CR CX outer P w H s Q E) s := by
  have kin : K.In s.heap := env0.mod.kin.keeps fun b o e => (env0.bs b o e).1
  have lim : s.heap.NoLimit := env0.mod.nolimit.keeps fun b o e => (env0.bs b o e).1
  have kinds : ∀ y ∈ ps.zip us, scope.names.lookup y.1 = some .local ∨ (scope.names.lookup y.1 = some .cell ∧ ((cellsFrom (s.heap.objs.size + 1) scope.names []).lookup y.1).isSome = true) := fun ⟨n, v⟩ hy => (S.par n (List.of_mem_zip hy).1).imp id fun q => ⟨q, PySem.W.cellsFrom_some _ _ _ (.inl q)⟩
  refine codeAny_call_function room.depth (kin _ _ lk) rfl S.co S.gen rfl (PySem.W.codeRec_of kin hcd) (bnd _ _ _ _ (wpAny_newFunctionEnv_cells S.kind kinds fun env he s1 x => ?_))
  subst he
  refine ⟨lim.keeps x.toInCall.keep, codeAny_func ?_⟩
  obtain ⟨t, ht, hq⟩ := hbody (room.deeper _)
  have J : Inv (cxOf CX P w K mg base N qual scope f cdv A outer s H E) [] (start N vs) H s1 := inv_start S room.hd env0 count rel x
  refine wpAny_mono (ht.run [] s1 (start N vs) H _ J hq) (fun fl s2 hs => ?_) fun e s2 hs => hs
  cases fl with
  | ret u =>
    obtain ⟨v, σ2, H2, J2, rv, q⟩ := hs
    exact ⟨v, H2, J2.os, J2.bare, J2.base, J2.hok, rv, q⟩
  | next =>
    obtain ⟨σ2, H2, J2, q⟩ := hs
    exact ⟨V.non, H2, J2.os, J2.bare, J2.base, J2.hok, rfl, q⟩
  | brk =>
    obtain ⟨_, _, _, q⟩ := hs
    exact False.elim q
  | cont =>
    obtain ⟨_, _, _, q⟩ := hs
    exact False.elim q
/-- at it an iterator over the tuple at t, its next place i -/
def ItT (t it : Addr) (i : Nat) : HO := .ext fun h => h.IsTupleIter it t i
theorem itT_ok {P : Program} {w : World} {H : Hp} {h : Heap} {t it : Addr} {i : Nat} (e : h.IsTupleIter it t i) : ObjOk P w H h it (ItT t it i) := ⟨e, ⟨_, e.choose_spec.1⟩, fun h1 h2 q k => q.at fun o e => k o e⟩
def rIterT (K : PySem.W.Frag) (n : Nat) : List V → Hp → VK → Prop := fun xs H Q => ∃ (t : Addr) (zs : List V), xs = [.ref t] ∧ SqT K H t zs ∧ ∀ it, H it = none → n ≤ it → Q (.ref it) (upd H it (ItT t it 0))
section
variable {X : Cx} {κ : Ctx} {W : WX}
theorem call_iterT : CallR X (.builtin "iter") (rIterT X.K X.s_0.heap.objs.size) := by
  intro pins s σ H xs us Q I r h
  obtain ⟨t, zs, rfl, hq, q⟩ := h
  obtain ⟨u, rfl, ru⟩ := vals1 r
  cases ru
  obtain ⟨its, rv, pl, hz⟩ := I.tuple hq
  refine Calls.call_function_entry (by decide +kernel) (by decide +kernel) PySem.W.kdk_entry_iter (PySem.W.kdk_args_iter _) ?_
  unfold Builtin.«iter»
  refine wpAny_bind (m := someArgs "iter" 1 2 _) (wpAny_of_eq (a := [Value.ref t]) (by first | rfl | kernel_rfl!) ?_)
  show wpAny _ _ (pyIter (.ref t) >>= _) _ _ _
  refine wpAny_bind (wpAny_pyIter_tuple (show s.heap.IsTuple t its.toArray from pl) ?_)
  exact wpAny_pure ⟨_, rfl, .ref s.heap.objs.size, _, I.laid (t' := s.toks) (fun b u e => Heap.get?_push_of_some _ e) (Nat.le_refl _) (itT_ok ⟨_, Heap.get?_push_size _ rfl, rfl, rfl⟩), rfl, q _ (I.hok.fresh (Nat.le_refl _)) I.sz⟩
end
/-- a class of which __iter__ at f says: return iter(self.fld) -/
structure ItrC (P : Program) (w : World) (K : PySem.W.Frag) (mg : Str → Option Value) (base : Heap) (C f : Addr) (k : Nat) (fld : Str) : Prop where
  it : PySem.W.findIn K (.ref C) "__iter__" = some (some (.ref f))
  itF : PySem.W.isFn K (.ref f) = true
  nolen : PySem.W.findIn K (.ref C) "__len__" = some none
  nohint : PySem.W.findIn K (.ref C) "__length_hint__" = some none
  run : ∀ (A : Around) (outer : List Env) (s : Shared) (H : Hp) (a dx t : Addr) (fs : List (Str × V)) (zs : List V), Room k A → Env0 P w K mg base A outer s H → H a = some (.ins C dx fs) → fs.lookup fld = some (.ref t) → SqT K H t zs →
    codeAny (model P w) A (.call (.ref f) ⟨[.ref a], []⟩) (CR (L2.CX P w) outer P w H s (fun v H' => ∃ it, v = .ref it ∧ H it = none ∧ s.heap.objs.size ≤ it ∧ H' = upd H it (ItT t it 0)) E0) s
section
variable {X : Cx} {κ : Ctx} {W : WX}
/-- the def's text is the shape -/
theorem itr_run {P : Program} {w : World} {K : PySem.W.Frag} {mg : Str → Option Value} {base : Heap} {x qual : Str} {st : Stmt} {f C : Addr} {fd : FuncData} {k : Nat} {fld : Str} (F : Fun K x qual st f fd) {N : List Str} (S : FnScope ("self" :: N) ["self"] (defScope st)) (cl : Cls K C) (na : NoAttr K C fld)
    (hb : Binds K fd ["self"] [])
    {p1 p2 p3 p4 p5 : Pos} (hbody : defBody st = [.Return (some (.Call (.Name "iter" p1) [.Attribute (.Name "self" p2) fld p3] [] p4)) p5]) (hm : mg "iter" = none)
    (hg : ∀ (cdv : Value) (A : Around) (outer : List Env) (s : Shared) (H : Hp) (E : XK), Gl (cxOf (L2.CX P w) P w K mg base ("self" :: N) qual (defScope st) f cdv A outer s H E) "iter") (hv : Vis (defScope st) "self") :
    ∀ (A : Around) (outer : List Env) (s : Shared) (H : Hp) (a dx t : Addr) (fs : List (Str × V)) (zs : List V), Room (k + 1) A → Env0 P w K mg base A outer s H → H a = some (.ins C dx fs) → fs.lookup fld = some (.ref t) → SqT K H t zs →
    codeAny (model P w) A (.call (.ref f) ⟨[.ref a], []⟩) (CR (L2.CX P w) outer P w H s (fun v H' => ∃ it, v = .ref it ∧ H it = none ∧ s.heap.objs.size ≤ it ∧ H' = upd H it (ItT t it 0)) E0) s := by
  intro A outer s H a dx t fs zs room env0 ha hl ht
  obtain ⟨oc, od, kV, doc, pm, an, cdv, ct, osl, rfl, lk, hcd⟩ := F.ex
  have kin : K.In s.heap := env0.mod.kin.keeps fun b o e => (env0.bs b o e).1
  refine fn_at lk hcd S (vs := [.ref a]) (us := [.ref a]) room env0 (by simpa using hb s [.ref a] kin rfl) (.cons rfl .nil) rfl fun _ => ?_
  rw [hbody]
  refine ⟨_, pss_one (ps_ret (pe_callB (id := "iter") call_iterT (hg cdv A outer s H E0) hm (by first | rfl | decide +kernel) (pa_cons (pe_fld (pe_var (i := 0) rfl hv) rfl) pa_nil rfl))), ?_⟩
  refine ⟨.ref a, rfl, a, C, dx, fs, .ref t, rfl, ha, cl, na, hl, t, zs, rfl, ht, fun it hn hsz => ⟨it, rfl, hn, hsz, rfl⟩⟩
/-- iter(o) -/
theorem own_iterT {A1 : Around} {C f : Addr} {n : Nat} {fld : Str} {pins : List (Addr × Obj)} {σ : L2.St} {H : Hp} {s : Shared} {Q : Value → Shared → Prop} {a dx t : Addr} {fs : List (Str × V)} {zs : List V} (sb : Sub X n A1) (hc : ItrC X.prog X.w X.K X.mg X.base C f n fld)
    (I : Inv X pins σ H s) (ha : H a = some (.ins C dx fs)) (hl : fs.lookup fld = some (.ref t)) (ht : SqT X.K H t zs)
    (hq : ∀ it s1, Inv X pins σ H s1 → s1.heap.IsTupleIter it t 0 → FpOk X pins H it → Q (.ref it) s1) : wpAny (model X.prog X.w) A1 (pyIter (.ref a)) Q X.xe s := by
  obtain ⟨mA, J, _⟩ := ins_get I.hok ha
  obtain ⟨od, J, _⟩ := J.look
  obtain ⟨m0, hF⟩ := I.fr
  refine PySem.W.owit_iter hF I.ok.mod.kin J hc.it hc.itF ?_
  have e0 : Env0 X.prog X.w X.K X.mg X.base A1 X.stack s H := by
    have e := I.env0
    exact ⟨by rw [sb.fr]; exact e.frames, e.mod, e.bs, e.bsz, e.funs, e.frf, e.hok, e.bare⟩
  refine wpAny_call (codeAny_mono (hc.run A1 X.stack s H a dx t fs zs sb.room e0 ha hl ht) fun r s1 h1 => ?_)
  cases r with
  | error e => exact (passL pins σ H s e s1 I h1)
  | ok fl =>
    cases fl with
    | next => exact False.elim h1
    | brk => exact False.elim h1
    | cont => exact False.elim h1
    | ret u =>
      obtain ⟨v, H1, I1, rv, it, ev, hn, hsz, eH⟩ := I.after h1
      subst ev
      subst eH
      cases rv
      have hi : s1.heap.IsTupleIter it t 0 := (I1.hok it _ upd_same).1
      have I2 := ItX.inv_drop I1 (a := it) upd_same
      rw [ItX.dropH_upd hn] at I2
      obtain ⟨mA', J', _⟩ := ins_get I2.hok ha
      have tT : s1.TypeIs (.ref it) "tuple_iterator" := ⟨_, hi.choose_spec.1, hi.choose_spec.2.1⟩
      exact wpAny_specialOf (name := Str.ofString "__next__") tT PySem.F.slot_tuple_iterator_next.lookup (hq it s1 I2 hi (I.fpOk hsz hn))
/-- for x in o -/
def iOwnT (K : PySem.W.Frag) (C : Addr) (fld : Str) (te : TE) : TI := fun σ H R => te σ H fun x H1 => ∃ a dx t fs zs, x = .ref a ∧ H1 a = some (.ins C dx fs) ∧ fs.lookup fld = some (.ref t) ∧ SqT K H1 t zs ∧ R (Itt K t) H1
theorem pi_ownT {tg e : Expr} {te : TE} {C f : Addr} {n : Nat} {fld : Str} (hr : Room n X.A) (hc : ItrC X.prog X.w X.K X.mg X.base C f n fld) (he : PE X e te) : PI X tg e (iOwnT X.K C fld te) := by
  refine ⟨fun pins s σ H R I h => ?_⟩
  refine thn (he.run pins s σ H _ I h) fun v s1 ⟨x, H1, I1, r1, a, dx, t, fs, zs, ex, ha, hl, ht, q⟩ => ?_
  subst ex
  cases r1
  refine own_iterT ⟨hr, rfl⟩ hc I1 ha hl ht fun it s2 I2 hi hf => ?_
  exact ⟨it, [it], _, _, H1, rfl, I2, turn_tuple t it, hi, fun b hb => by
    have e : b = it := by simpa using hb
    subst e
    exact hf, q⟩
/-! ### list(o) -/
theorem tl_loop {A1 : Around} {pins : List (Addr × Obj)} {σ : L2.St} {H : Hp} {q it t : Addr} {zs : List V} {Rs : Result → Shared → Prop} (hA : A1.in1.handled = none) (hqn : H q = none) (ht : SqT X.K H t zs) (hzl : zs.length ≤ sizeLine) (hf : FpOk X pins H it) (hne : q ≠ it)
    (hdone : ∀ s, Inv X pins σ (upd H q (.lst zs)) s → Rs (.ok (.ret .none)) s) :
    ∀ (m i : Nat) (s : Shared), m = zs.length - i → i ≤ zs.length → Inv X pins σ (upd H q (.lst (zs.take i))) s → s.heap.IsTupleIter it t i → codeAny (model X.prog X.w) A1 (.builtin "list.extend.loop" ⟨[.ref q, .ref it, .none], []⟩) Rs s := by
  intro m
  induction m with
  | zero =>
    intro i s hm hi I st
    have ei : i = zs.length := by omega
    subst ei
    have ht2 : SqT X.K (upd H q (.lst (zs.take zs.length))) t zs := by
      refine Keep.t ⟨fun a xs h => ?_, fun a o u h => ?_⟩ ht
      · rw [upd_ne (ne_of_none h hqn)]; exact h
      · rw [upd_ne (ne_of_none h hqn)]; exact h
    obtain ⟨its, rv, p, hz⟩ := I.tuple ht2
    have hl := rv.length
    obtain ⟨f0, f1, f2, f3, f4, f5⟩ := hf
    have f0' : upd H q (.lst (zs.take zs.length)) it = none := by rw [upd_ne (Ne.symm hne)]; exact f0
    refine codeAny_builtin PySem.F.entry_extend_loop ?_
    rw [Around.under_plainId PySem.F.plain_extend_loop _]
    show wpAny _ A1.in1 (pyNext (.ref it) >>= _) _ _ s
    refine wpAny_bind (wpAny_pyNext_tuple_end hA st (show s.heap.IsTuple t its.toArray from p) (by simp [← hl]) fun h' eb => ?_)
    have I1 : Inv X pins σ (upd H q (.lst (zs.take zs.length))) { s with heap := h' } := I.turned (t' := s.toks) (fun b o hb e => eb b o hb e) f0' f1 f3 f4 f5
    rw [List.take_length] at I1
    exact wpAny_pure (hdone _ I1)
  | succ m ih =>
    intro i s hm hi I st
    have hlt : i < zs.length := by omega
    have ht2 : SqT X.K (upd H q (.lst (zs.take i))) t zs := by
      refine Keep.t ⟨fun a xs h => ?_, fun a o u h => ?_⟩ ht
      · rw [upd_ne (ne_of_none h hqn)]; exact h
      · rw [upd_ne (ne_of_none h hqn)]; exact h
    obtain ⟨its, rv, p, hz⟩ := I.tuple ht2
    obtain ⟨u, hu, ru⟩ := rv.get (List.getElem?_eq_getElem hlt)
    obtain ⟨f0, f1, f2, f3, f4, f5⟩ := hf
    have f0' : upd H q (.lst (zs.take i)) it = none := by rw [upd_ne (Ne.symm hne)]; exact f0
    refine codeAny_builtin PySem.F.entry_extend_loop ?_
    rw [Around.under_plainId PySem.F.plain_extend_loop _]
    show wpAny _ A1.in1 (pyNext (.ref it) >>= _) _ _ s
    refine wpAny_bind (wpAny_pyNext_tuple_item st (show s.heap.IsTuple t its.toArray from p) (x := u) (by simpa using hu) fun h' st' sb => ?_)
    have I1 : Inv X pins σ (upd H q (.lst (zs.take i))) { s with heap := h' } := I.turned (t' := s.toks) (fun b o hb e => (sb.2 b hb).trans e) f0' f1 f3 f4 f5
    show wpAny _ A1.in1 (updateSeq q (·.push u) >>= _) _ _ _
    obtain ⟨z, its2, k, r2, hl2, e2⟩ := I1.lstM upd_same
    have hz2 : its2.length ≤ sizeLine := by rw [← r2.length, List.length_take]; omega
    have I2 := I1.lset (f := (·.push u)) (its' := its2 ++ [u]) (ys := zs.take i ++ [zs[i]]) (t' := s.toks) upd_same e2 (by simp) (r2.append (.cons ru .nil)) (by rw [List.length_append, List.length_singleton, List.length_take]; omega)
    rw [upd_upd, List.take_append_getElem hlt] at I2
    refine wpAny_bind (wpAny_updateSeq e2 rfl (wpAny_pure ⟨plainId_quiet PySem.F.plain_extend_loop _, ?_⟩) (by rw [List.size_toArray]; exact hz2) (by show (its2.toArray.push u).size ≤ sizeLine + 1; rw [Array.size_push, List.size_toArray]; omega))
    refine ih (i + 1) _ (by omega) (by omega) I2 ?_
    obtain ⟨o, eo, c, d⟩ := st'
    exact ⟨o, by show (h'.update q _).get? it = some o; rw [Heap.get?_update_other _ _ hne]; exact eo, c, d⟩
theorem tl_hint {M : Model} {A : Around} {E : Value → Shared → Prop} {Q : Bool → Shared → Prop} {K : PySem.W.Frag} {s : Shared} {a C : Addr} {ox : Obj} {od : Option Obj} (nolen : PySem.W.findIn K (.ref C) "__len__" = some none) (nohint : PySem.W.findIn K (.ref C) "__length_hint__" = some none) (hK : K.In s.heap)
    (J : PySem.W.InstAt s.heap a ox C od) (h : Q true s) : wpAny M A (Builtin.List.listLengthHint (.ref a)) Q E s := by
  unfold Builtin.List.listLengthHint
  refine wpAny_bind (wpAny_bind (J.type.here ((PySem.W.looks_findIn hK nolen).here ?_)))
  refine PySem.W.KFB.if_not rfl (PySem.W.KFB.if_not rfl ?_)
  exact wpAny_bind (wpAny_bind (J.type.here ((PySem.W.looks_findIn hK nohint).here (wpAny_pure h))))
theorem tl_extend {A1 : Around} {C f : Addr} {n : Nat} {fld : Str} {pins : List (Addr × Obj)} {σ : L2.St} {H : Hp} {s : Shared} {q a dx t : Addr} {fs : List (Str × V)} {zs : List V} {Rs : Result → Shared → Prop} (hcal : A1.in1.handled = none) (sb : Sub X n A1.in1) (hc : ItrC X.prog X.w X.K X.mg X.base C f n fld)
    (hqn : H q = none) (I : Inv X pins σ (upd H q (.lst [])) s) (ha : H a = some (.ins C dx fs)) (hl : fs.lookup fld = some (.ref t)) (ht : SqT X.K H t zs)
    (hdone : ∀ s, Inv X pins σ (upd H q (.lst zs)) s → Rs (.ok (.ret .none)) s) (herr : ∀ e s, X.xe e s → Rs (.error e) s) :
    wpAny (model X.prog X.w) A1.in1 (Builtin.List.listExtendWith (.ref q) (.ref a) .none)
      (fun fin s' => match fin with | .done f => Rs (.ok f) s' | .again c' => c'.quiet = true ∧ codeAny (model X.prog X.w) A1 c' Rs s') (fun e s' => Rs (.error e) s') s := by
  have hne : q ≠ a := fun z => by subst z; rw [hqn] at ha; cases ha
  have ha1 : upd H q (.lst []) a = some (.ins C dx fs) := by rw [upd_ne (Ne.symm hne)]; exact ha
  have kp : Keep H (upd H q (.lst [])) := ⟨fun b xs h => by rw [upd_ne (ne_of_none h hqn)]; exact h, fun b o u h => by rw [upd_ne (ne_of_none h hqn)]; exact h⟩
  have ht1 : SqT X.K (upd H q (.lst [])) t zs := kp.t ht
  obtain ⟨its0, rv0, p0, hz0⟩ := I.tuple ht1
  obtain ⟨mA, J, _⟩ := ins_get I.hok ha1
  obtain ⟨od, J, _⟩ := J.look
  unfold Builtin.List.listExtendWith
  refine wpAny_bind (J.type.here ?_)
  have h1 : Builtin.List.listSameRef (.ref q) (.ref a) = false := by simp [Builtin.List.listSameRef, hne]
  have h2 : (Value.ref C == Value.type "list") = false := rfl
  have h3 : (Value.ref C == Value.type "tuple") = false := rfl
  simp only [h1, h2, h3, Bool.or_false, Bool.false_eq_true, if_false]
  refine wpAny_bind (wpAny_mono (own_iterT (Q := fun v s1 => ∃ it, v = .ref it ∧ Inv X pins σ (upd H q (.lst [])) s1 ∧ s1.heap.IsTupleIter it t 0 ∧ FpOk X pins (upd H q (.lst [])) it) sb hc I ha1 hl ht1 fun it s1 I1 hi hf => ⟨it, rfl, I1, hi, hf⟩) (fun v s1 h => ?_) fun e s1 he => herr e s1 he)
  obtain ⟨it, rfl, I1, hi, hf⟩ := h
  have hqi : q ≠ it := fun z => by
    have e := hf.1
    rw [← z, upd_same] at e
    cases e
  have hf2 : FpOk X pins H it := ⟨by have e := hf.1; rw [upd_ne (Ne.symm hqi)] at e; exact e, hf.2⟩
  obtain ⟨mA', J', _⟩ := ins_get I1.hok ha1
  obtain ⟨od', J', _⟩ := J'.look
  refine wpAny_bind (wpAny_holding (tl_hint hc.nolen hc.nohint I1.kIn J' ?_))
  have hzl : zs.length ≤ sizeLine := hz0
  have go : ∀ (s : Shared), Inv X pins σ (upd H q (.lst [])) s → s.heap.IsTupleIter it t 0 → codeAny (model X.prog X.w) A1 (.builtin "list.extend.loop" ⟨[.ref q, .ref it, .none], []⟩) Rs s := fun s2 J2 st2 =>
    tl_loop hcal hqn ht hzl hf2 hqi hdone _ 0 s2 rfl (Nat.zero_le _) (by rw [List.take_zero]; exact J2) st2
  obtain ⟨z, its, k, r3, hl3, e3⟩ := I1.lstM upd_same
  cases r3
  refine wpAny_ite_split (fun _ => ?_) (fun _ => wpAny_pure ⟨plainId_quiet PySem.F.plain_extend_loop _, go _ I1 hi⟩)
  refine wpAny_bind (wpAny_rule (wpAny_bind ?_))
  show wpAny _ _ (updateSeq q (·.push .none) >>= fun _ => updateSeq q (·.pop)) _ _ _
  have I2 := I1.lset (f := (·.push Value.none)) (its' := [Value.none]) (ys := [.non]) (t' := s1.toks) upd_same e3 (by simp) (.cons rfl .nil) (by rw [List.length_singleton, sizeLine_eq]; decide)
  refine wpAny_bind (wpAny_updateSeq e3 rfl ?_)
  obtain ⟨z4, its4, k4, r4, hl4, e4⟩ := I2.lstM upd_same
  obtain ⟨u4, rfl, ru4⟩ := r4.one
  refine wpAny_updateSeq e4 rfl (wpAny_pure ⟨plainId_quiet PySem.F.plain_extend_loop _, go _ ?_ ?_⟩) (by show 1 ≤ sizeLine; rw [sizeLine_eq]; decide) (by show 0 ≤ sizeLine + 1; exact Nat.zero_le _)
  · have I3 := I2.lset (f := (·.pop)) (its := [u4]) (its' := []) (ys := []) (t' := s1.toks) upd_same e4 (by rfl) .nil (Nat.zero_le _)
    rw [upd_upd, upd_upd] at I3
    exact I3
  · obtain ⟨o, eo, c, d⟩ := hi
    exact ⟨o, by
      show ((s1.heap.update q _).update q _).get? it = some o
      rw [Heap.get?_update_other _ _ hqi, Heap.get?_update_other _ _ hqi]
      exact eo, c, d⟩
/-- list(o) -/
def rListT (K : PySem.W.Frag) (C : Addr) (fld : Str) : List V → Hp → VK → Prop := fun xs H Q => ∃ a dx t fs zs, xs = [.ref a] ∧ H a = some (.ins C dx fs) ∧ fs.lookup fld = some (.ref t) ∧ SqT K H t zs ∧ ∀ q, H q = none → Q (.ref q) (upd H q (.lst zs))
theorem call_listT {C f : Addr} {n : Nat} {fld : Str} (hcal : X.calm = true) (hr : Room (n + 2) X.A) (hc : ItrC X.prog X.w X.K X.mg X.base C f n fld) : CallR X (.type "list") (rListT X.K C fld) := by
  intro pins s σ H xs us Q I rv h
  obtain ⟨a, dx, t, fs, zs, rfl, ha, hl, ht, q⟩ := h
  obtain ⟨u, rfl, ru⟩ := rv.one
  cases ru
  have sb : Sub X n X.A.in1.in1 := (Sub.in1 (Sub.in1 (⟨hr, rfl⟩ : Sub X (n + 2) X.A)))
  refine callType_codes (Q₁ := fun obj s₁ => obj = .ref s.heap.objs.size ∧ s₁ = { s with heap := s.heap.push { cls := .type "list", data := .seq #[] } }) PySem.F.called_list (PySem.F.typeCall_list_1 _) PySem.F.entry_list_init
    (code_list_new _ ⟨rfl, rfl⟩) fun obj s₁ h₁ => ?_
  obtain ⟨rfl, rfl⟩ := h₁
  have hS : (s.heap.push { cls := .type "list", data := .seq #[] }).get? s.heap.objs.size = some { cls := .type "list", data := .seq #[] } := Heap.get?_push_size _ rfl
  refine ⟨⟨_, hS, rfl⟩, PySem.F.args_list_init_2 _ _, ?_⟩
  have fr : H s.heap.objs.size = none := I.hok.fresh (Nat.le_refl _)
  have I1 : Inv X pins σ (upd H s.heap.objs.size (.lst [])) { s with heap := s.heap.push { cls := .type "list", data := .seq #[] } } := I.lnew (its := []) (t' := s.toks) .nil (Nat.zero_le _)
  show wpAny _ _ (do let old ← Builtin.List.listItems (.ref s.heap.objs.size); Builtin.List.listUpdate (.ref s.heap.objs.size) (fun _ => #[]); letGo old.toList.reverse; Builtin.List.listExtendWith (.ref s.heap.objs.size) (.ref a) .none) _ _ _
  refine wpAny_bind ?_
  unfold Builtin.List.listItems
  refine wpAny_bind (wpAny_seqItems hS rfl (wpAny_pure ?_))
  show wpAny _ _ (updateSeq s.heap.objs.size (fun _ => #[]) >>= fun _ => letGo (#[] : Array Value).toList.reverse >>= fun _ => Builtin.List.listExtendWith (.ref s.heap.objs.size) (.ref a) .none) _ _ _
  refine wpAny_bind (wpAny_updateSeq hS rfl ?_)
  have I2 := I1.lset (f := fun _ => #[]) (its := []) (its' := []) (ys := []) (t' := s.toks) upd_same hS rfl .nil (Nat.zero_le _)
  rw [upd_upd] at I2
  refine wpAny_bind (wpAny_letGo ?_)
  exact tl_extend (A1 := X.A.in1) (Rs := wants (fun r s₂ => r = .none ∧ EP X pins σ Q (.ref s.heap.objs.size) s₂) X.xe) (I.ok.hd hcal) sb hc fr I2 ha hl ht (fun s' I' => ⟨rfl, .ref s.heap.objs.size, _, I', rfl, q _ fr⟩) fun e s' he => he
end
end R
set_option Elab.async false
set_option linter.all false
set_option maxRecDepth 100000
set_option maxHeartbeats 1000000
namespace R
open PySem PySem.Spec L2
open PyProof.Rows hiding St
section
variable {X : Cx} {κ : Ctx} {W : WX}
/-! ### walking an own class -/
def tupV : U → Option (List U)
  | .tup us => some us
  | .wtu us => some us
  | _ => none
theorem tupV_rel {θ : List Addr} {H : Hp} {u : U} {us : List U} {v : V} (r : RelU κ.K θ H u v) (h : tupV u = some us) : ∃ a vs, v = .ref a ∧ SqT κ.K H a vs ∧ RelUs κ.K θ H us vs := by
  cases u with
  | tup xs => cases h; exact r.ofTup
  | wtu xs =>
    cases h
    obtain ⟨a, vs, rfl, hk, rv⟩ := r.ofWtu
    exact ⟨a, vs, rfl, hk.seq, rv⟩
  | _ => cases h
def ownV (c : Nat) (fld : Str) (u : U) (g : Gs) : Option (List U) := match insV c u g with
  | some fs => match fs.lookup fld with
    | some z => tupV z
    | none => none
  | none => none
theorem ownV_rel {θ : List Addr} {g : Gs} {H : Hp} {c : Nat} {fld : Str} {u : U} {us : List U} {v : V} (S : Sim κ θ g H) (r : RelU κ.K θ H u v) (h : ownV c fld u g = some us) : ∃ a dx t fs zs, v = .ref a ∧ H a = some (.ins (κ.C c) dx fs) ∧ fs.lookup fld = some (.ref t) ∧ SqT κ.K H t zs ∧ RelUs κ.K θ H us zs := by
  unfold ownV at h
  cases e1 : insV c u g with
  | none => rw [e1] at h; cases h
  | some fs =>
    rw [e1] at h
    dsimp only at h
    cases e2 : fs.lookup fld with
    | none => rw [e2] at h; cases h
    | some z =>
      rw [e2] at h
      dsimp only at h
      obtain ⟨n, a, dx, gs, rfl, hn, rfl, ha, hv, rv⟩ := insV_rel S r e1
      obtain ⟨w, hw, rw'⟩ := (rv.look fld).1 z e2
      obtain ⟨t, zs, rfl, hs, rz⟩ := tupV_rel rw' h
      exact ⟨a, dx, t, gs, zs, rfl, hv, hw, hs, rz⟩
theorem itt_ok {θ1 : List Addr} {H1 : Hp} {g1 : Gs} {t : Addr} {us : List U} {zs : List V} (S1 : Sim κ θ1 g1 H1) (ht : SqT κ.K H1 t zs) (rz : RelUs κ.K θ1 H1 us zs) : ItG κ (us, fun _ => true) (Itt κ.K t) θ1 H1 := fun i θ2 g2 H2 l2 S2 _ => by
  have ht2 : SqT κ.K H2 t zs := (l2.keep S1).t ht
  have rv2 : RelUs κ.K θ2 H2 us zs := rz.le S1 l2
  have hl := rv2.length
  refine ⟨fun hi => ⟨?_, ?_⟩, fun hi => ?_⟩
  · exact ⟨zs, zs[i]'(by rw [← hl]; exact hi), ht2, List.getElem?_eq_getElem _⟩
  · intro x H3 hy
    obtain ⟨e3, hy⟩ := hy
    subst e3
    obtain ⟨u, hu, ru⟩ := rv2.getV (hy zs ht2)
    exact ⟨u, hu, Le.refl _ _, S2, ru⟩
  · exact ⟨zs, ht2, by rw [hi, ← hl]; exact Nat.le_refl _⟩
/-- a list's, a tuple's, or an own object's items -/
def itO (c : Nat) (fld : Str) (f : Ev) : Ei := fun us g => (f us g).bind fun u g1 => match ownV c fld u g1 with
  | some xs => .ok (xs, fun _ => true) g1
  | none => itV u g1
theorem ri_own {tg e : Expr} {f : Ev} {c : Nat} {fld : Str} {f0 : Addr} {n : Nat} (hK : κ.K = X.K) (hr : Room n X.A) (hc : ItrC X.prog X.w X.K X.mg X.base (κ.C c) f0 n fld) (h : PE X e (RE κ W f)) : PI X tg e (RI κ W (itO c fld f)) := by
  have q := (pi_list (tg := tg) h).or ((pi_tup (tg := tg) h).or (pi_ownT (tg := tg) hr hc h))
  rw [← hK] at q
  refine q.imp fun σ H R hh => ?_
  obtain ⟨θ, us, g, S, RR, p⟩ := hh
  unfold itO at p
  cases e1 : f us g with
  | bad => rw [e1] at p; exact p.elim
  | exc cc fs g1 =>
    rw [e1] at p
    exact .inl ⟨θ, us, g, S, RR, by rw [e1]; exact p⟩
  | ok u g1 =>
    cases e2 : ownV c fld u g1 with
    | none =>
      rcases t_it (κ := κ) (W := W) (f := f) (σ := σ) (H := H) (R := R) ⟨θ, us, g, S, RR, by
        unfold itE
        rw [e1] at p ⊢
        dsimp only [Res.bind] at p ⊢
        rw [e2] at p
        exact p⟩ with z | z
      · exact .inl z
      · exact .inr (.inl z)
    | some xs =>
      rw [e1] at p
      dsimp only [Res.bind] at p
      rw [e2] at p
      refine .inr (.inr ⟨θ, us, g, S, RR, ?_⟩)
      rw [e1]
      intro θ1 H1 v l1 S1 r
      obtain ⟨a, dx, t, fs, zs, rfl, ha, hl, ht, rz⟩ := ownV_rel S1 r e2
      exact ⟨a, dx, t, fs, zs, rfl, ha, hl, ht, p θ1 H1 _ l1 S1 (itt_ok S1 ht rz)⟩
def listO (c : Nat) (fld : Str) : Mm := fun xs g => match xs with
  | [u] => match ownV c fld u g with
    | some us => newL us g
    | none => listM [u] g
  | _ => .bad
theorem ok_listO {c : Nat} {fld : Str} : CkOk κ (listO c fld) (fun xs H Q => (∃ p ys, xs = [.ref p] ∧ (SqL κ.K H p ys ∨ SqT κ.K H p ys) ∧ ∀ l, H l = none → Q (.ref l) (upd H l (.lst ys))) ∨ rListT κ.K (κ.C c) fld xs H Q) := by
  intro θ g H xs vs Q Wx S r h
  unfold listO at h
  split at h
  · rename_i u
    cases e : ownV c fld u g with
    | none => rw [e] at h; exact .inl (ok_list θ g H _ vs Q Wx S r h)
    | some us =>
      rw [e] at h
      obtain ⟨v, rfl, r1⟩ := relUs1 r
      obtain ⟨a, dx, t, fs, zs, rfl, ha, hl, ht, rz⟩ := ownV_rel S r1 e
      exact .inr ⟨a, dx, t, fs, zs, rfl, ha, hl, ht, (post_newL S rz h).2⟩
  · exact h.elim
theorem re_listO {p pos : Pos} {e : Expr} {a : Ea} {c : Nat} {fld : Str} {f0 : Addr} {n : Nat} (hK : X.K = κ.K) (hcal : X.calm = true) (hr : Room (n + 2) X.A) (hc : ItrC X.prog X.w X.K X.mg X.base (κ.C c) f0 n fld) (hm : X.mg "list" = none) (ha : PA X [e] (RA κ W a)) (hg : Gl X "list" := by rfl) (he : starEach [e] X.env = (false, eval e X.env) :: starEach [] X.env := by rfl) : PE X (.Call (.Name "list" p) [e] [] pos) (RE κ W (bE (listO c fld) a)) :=
  re_bt (id := "list") (by rw [← hK]; exact call_list_of.or (call_listT hcal hr hc)) ok_listO hg hm (by first | rfl | decide +kernel) ha (by decide) (by decide) he rfl
/-! ### reversed of a tuple -/
def revT (f : Ev) : Ei := fun us g => (f us g).bind fun u g1 => match tupV u with
  | some xs => .ok (xs.reverse, fun _ => true) g1
  | none => .bad
theorem ri_rev {tg e : Expr} {p pos : Pos} {f : Ev} (hK : X.K = κ.K) (hm : X.mg "reversed" = none) (he : PE X e (RE κ W f)) (hg : Gl X "reversed" := by rfl) (hs : starEach [e] X.env = (false, eval e X.env) :: starEach [] X.env := by rfl) : PI X tg (.Call (.Name "reversed" p) [e] [] pos) (RI κ W (revT f)) :=
  (RT.pi_revA (tg := tg) (pos := pos) hg hm he hs).imp fun σ H R h => by
    obtain ⟨θ, us, g, S, RR, q⟩ := h
    unfold revT at q
    refine ⟨θ, us, g, S, RR, ?_⟩
    cases e1 : f us g with
    | bad => rw [e1] at q; exact q.elim
    | exc cc fs g1 => rw [e1] at q; exact q
    | ok u g1 =>
      rw [e1] at q
      dsimp only [Res.bind] at q
      cases e2 : tupV u with
      | none => rw [e2] at q; exact q.elim
      | some xs =>
        rw [e2] at q
        intro θ1 H1 v l1 S1 r
        obtain ⟨a, zs, rfl, ht, rz⟩ := tupV_rel r e2
        refine ⟨a, zs, rfl, .inr ⟨by rw [hK]; exact ht, q θ1 H1 _ l1 S1 fun i θ2 g2 H2 l2 S2 _ => ?_⟩⟩
        rw [hK]
        have ht2 : SqT κ.K H2 a zs := (l2.keep S1).t ht
        have rv2 : RelUs κ.K θ2 H2 xs zs := rz.le S1 l2
        have hl := rv2.length
        refine ⟨fun hi => ⟨?_, ?_⟩, fun hi => ?_⟩
        · have hi' : i < zs.length := by rw [← hl]; simpa using hi
          exact ⟨hi', zs, zs[zs.length - 1 - i]'(by omega), ht2, List.getElem?_eq_getElem _⟩
        · intro x H3 hy
          obtain ⟨e3, hy⟩ := hy
          subst e3
          have hi' : i < xs.length := by simpa using hi
          obtain ⟨u, hu, ru⟩ := rv2.getV (hy zs ht2)
          refine ⟨u, ?_, Le.refl _ _, S2, ru⟩
          show xs.reverse[i]? = some u
          rw [List.getElem?_reverse hi', hl]
          exact hu
        · show zs.length ≤ i
          have hi' : i = xs.length := by simpa using hi
          omega
/-! ### xs[::-1] -/
def revE (f : Ev) : Ev := fun us g => (f us g).bind fun u g1 => match lstV u g1 with
  | some xs => newL xs.reverse g1
  | none => .bad
theorem relUs_rev {K : PySem.W.Frag} {θ : List Addr} {H : Hp} : ∀ {us : List U} {vs : List V}, RelUs K θ H us vs → RelUs K θ H us.reverse vs.reverse
  | [], vs, h => by unfold RelUs at h; subst h; exact RelUs.nil
  | u :: us, vs, h => by
    unfold RelUs at h
    obtain ⟨w, ws, rfl, h1, h2⟩ := h
    rw [List.reverse_cons, List.reverse_cons]
    exact (relUs_rev h2).append (RelUs.cons h1 RelUs.nil)
theorem re_rev {e : Expr} {k : Nat} {p1 p2 p3 pos : Pos} {f : Ev} (hK : X.K = κ.K) (he : PE X e (RE κ W f)) : PE X (.Subscript e (.Slice none none (some (.UnaryOp .USub (.Constant (.int 1) k p1) p2)) p3) pos) (RE κ W (revE f)) := (pe_revL he).imp fun σ H Q h => by
  obtain ⟨θ, us, g, S, R, p⟩ := h
  refine RX.bind S R p fun u g1 θ1 H1 v l1 S1 R1 rx p1 => ?_
  cases e1 : lstV u g1 with
  | none => rw [e1] at p1; exact p1.elim
  | some xs =>
    rw [e1] at p1
    obtain ⟨a, zs, rfl, hs, rz⟩ := lstV_rel S1 rx e1
    exact ⟨a, zs, rfl, by rw [hK]; exact hs, (post_newL S1 (relUs_rev rz) p1).2⟩
end
/-! ### in a suite: isinstance of the error, its fields -/
/-- what an own exception class says -/
structure ExcD (K : PySem.W.Frag) (D : Addr) : Prop where
  cl : (PySem.W.clsIn K D).isSome = true
  ga : PySem.W.findIn K (.ref D) "__getattribute__" = some (some (.builtin "BaseException.__getattribute__"))
  gt : PySem.W.findIn K (.ref D) "__getattr__" = some none
  sb : PySem.W.subIn K (.ref D) (.type "BaseException") = some true
  ca : PySem.W.findIn K (.ref D) "__class__" = some (some (.builtin "object.__class__"))
  cn : PySem.W.specialIn K (.builtin "object.__class__") "__get__" = some (some (.builtin "getset_descriptor.__get__"))
  ct : PySem.W.takesIn K (.builtin "object.__class__") = some true
  mo : PySem.W.mroIn K D (.type "object") = some true
def rIsD (K : PySem.W.Frag) (D a dd : Addr) : List V → Hp → VK → Prop := fun xs H Q => (∃ fs, H dd = some (.xd fs)) ∧ ((∃ (c : V) (u : Value) (b : Bool), xs = [.ref a, c] ∧ ClsV c u ∧ PySem.W.kitOne K (.ref D) u = some b ∧ Q (.bl b) H) ∨
  ∃ (tp : Addr) (cs : List V) (us : List Value) (b : Bool), xs = [.ref a, .ref tp] ∧ H tp = some (.tup cs) ∧ Paired ClsV cs us ∧ PySem.W.kitAny K (.ref D) us = some b ∧ Q (.bl b) H)
theorem call_isD {X : Cx} {a D dd : Addr} {oe : Obj} {pn : List (Addr × Obj)} (C : ExcD X.K D) (hz : Zc (.ref D) (some dd) oe) (hf : ∃ vs, oe.data = .fields vs) : CallR (X.suite a ((a, oe) :: pn)) (.builtin "isinstance") (rIsD X.K D a dd) := by
  intro pins s σ H xs us Q I r h
  obtain ⟨⟨fs, hd⟩, h⟩ := h
  obtain ⟨hget, _⟩ := I.pin (a, oe) (List.mem_append.mpr (.inl List.mem_cons_self))
  obtain ⟨vs, hv⟩ := hf
  obtain ⟨mA, hns, _⟩ := (show ObjOk X.prog X.w H s.heap dd (.xd fs) from I.hok dd _ hd)
  obtain ⟨od, ho, _⟩ := lookIn_ns hns
  have J : PySem.W.InstAt s.heap a oe D (some od) := ⟨hget, hz.1, by unfold PySem.W.notCls; rw [hv] <;> rfl, by rw [hz.2]; exact ho⟩
  have Z := PySem.W.kitx_exc (x := a) (ox := oe) (od := some od) C.cl C.ga C.gt C.sb C.ca C.cn C.ct C.mo
  rcases h with ⟨c, u, b, rfl, k, e, q⟩ | ⟨tp, cs, ws, b, rfl, hT, k, e, q⟩
  · obtain ⟨u1, u2, rfl, r1, r2⟩ := vals2 r
    cases r1
    have e2 := k.eq r2
    subst e2
    exact PySem.W.kia_one Z I.kIn J e (fun z => nomatch z) fun tk => ⟨.bl b, H, I.tok tk, rfl, q⟩
  · obtain ⟨u1, u2, rfl, r1, r2⟩ := vals2 r
    cases r1
    cases (show u2 = Value.ref tp from r2)
    obtain ⟨_, its, rv, o, h1, h2, n, h3⟩ := (show ObjOk X.prog X.w H s.heap tp (.tup cs) from I.hok tp _ hT)
    have e3 := ClsV.all k rv
    subst e3
    obtain ⟨oc, od', dt, sl⟩ := o
    simp only at h2 h3
    subst h2 h3
    exact PySem.W.kia_tup Z I.kIn J h1 e (fun z => nomatch z) fun tk => ⟨.bl b, H, I.tok tk, rfl, q⟩
/-- written classes, one after the other -/
inductive PCs (X : Cx) : List Expr → List V → Prop where
  | nil : PCs X [] []
  | cons {e : Expr} {es : List Expr} {c : V} {cs : List V} (h : PE X e (tC c)) (hs : starEach (e :: es) X.env = (false, eval e X.env) :: starEach es X.env) (r : PCs X es cs) : PCs X (e :: es) (c :: cs)
def tCs : List V → TA
  | [] => tNil
  | c :: cs => tCons (tC c) (tCs cs)
theorem PCs.pa {X : Cx} {es : List Expr} {cs : List V} (h : PCs X es cs) : PA X es (tCs cs) := by
  induction h with
  | nil => exact pa_nil
  | cons h hs r ih => exact pa_cons h ih hs
theorem tCs_run : ∀ {cs : List V} {σ : L2.St} {H : Hp} {Q : List V → Hp → Prop}, Q cs H → tCs cs σ H Q
  | [], σ, H, Q, h => h
  | c :: cs, σ, H, Q, h => tCs_run (cs := cs) h
section
variable {X : Cx} {κ : Ctx} {a dd : Addr} {i c : Nat} {fs : List (Str × U)} {oe : Obj} {pn : List (Addr × Obj)}
theorem re_isx1 {x y : Str} {p px py pos : Pos} {cv : V} {u : Value} {b : Bool} {W : WX} (hK : X.K = κ.K) (C : ExcD X.K (κ.C c)) (hz : Zc (.ref (κ.C c)) (some dd) oe) (hf : ∃ vs, oe.data = .fields vs) (hk : ClsV cv u) (hb : PySem.W.kitOne X.K (.ref (κ.C c)) u = some b) (hm : X.mg "isinstance" = none)
    (hx : PE (X.suite a ((a, oe) :: pn)) (.Name x px) (tVar i)) (hy : PE (X.suite a ((a, oe) :: pn)) (.Name y py) (tC cv)) (hg : Gl (X.suite a ((a, oe) :: pn)) "isinstance" := by rfl)
    (hs : starEach [.Name x px, .Name y py] (X.suite a ((a, oe) :: pn)).env = (false, eval (.Name x px) (X.suite a ((a, oe) :: pn)).env) :: starEach [.Name y py] (X.suite a ((a, oe) :: pn)).env := by rfl)
    (hs2 : starEach [.Name y py] (X.suite a ((a, oe) :: pn)).env = (false, eval (.Name y py) (X.suite a ((a, oe) :: pn)).env) :: starEach [] (X.suite a ((a, oe) :: pn)).env := by rfl)
    (hpl : (backTo pos (starEach [.Name y py] (X.suite a ((a, oe) :: pn)).env)).any (·.1) = false := by rfl) :
    PE (X.suite a ((a, oe) :: pn)) (.Call (.Name "isinstance" p) [.Name x px, .Name y py] [] pos) (RE (κ.at i a dd c fs) W (con (.bl b))) :=
  (pe_callB (id := "isinstance") (call_isD C hz hf) hg hm (by first | rfl | decide +kernel) (pa_cons hx (pa_cons hy pa_nil hs2) hs) (by decide) (by decide) hs hpl).imp fun σ H Q h => by
    obtain ⟨θ, us, g, S, R, q⟩ := h
    obtain ⟨_, e1, gs, e2, rf⟩ := R.ex _ rfl
    exact ⟨.ref a, e1, ⟨gs, e2⟩, .inl ⟨cv, u, b, rfl, hk, hb, q θ H _ (Le.refl _ _) S relBl⟩⟩
theorem re_isxT {x : Str} {es : List Expr} {k1 : Nat} {p px pt pos : Pos} {cs : List V} {us0 : List Value} {b : Bool} {W : WX} (hK : X.K = κ.K) (C : ExcD X.K (κ.C c)) (hz : Zc (.ref (κ.C c)) (some dd) oe) (hf : ∃ vs, oe.data = .fields vs) (hk : Paired ClsV cs us0) (hb : PySem.W.kitAny X.K (.ref (κ.C c)) us0 = some b) (hm : X.mg "isinstance" = none)
    (hx : PE (X.suite a ((a, oe) :: pn)) (.Name x px) (tVar i)) (hy : PCs (X.suite a ((a, oe) :: pn)) es cs) (hl : cs.length ≤ 1000 := by exact Nat.le_of_ble_eq_true rfl) (hg : Gl (X.suite a ((a, oe) :: pn)) "isinstance" := by rfl)
    (hs : starEach [.Name x px, .Tuple es k1 pt] (X.suite a ((a, oe) :: pn)).env = (false, eval (.Name x px) (X.suite a ((a, oe) :: pn)).env) :: starEach [.Tuple es k1 pt] (X.suite a ((a, oe) :: pn)).env := by rfl)
    (hs2 : starEach [.Tuple es k1 pt] (X.suite a ((a, oe) :: pn)).env = (false, eval (.Tuple es k1 pt) (X.suite a ((a, oe) :: pn)).env) :: starEach [] (X.suite a ((a, oe) :: pn)).env := by rfl)
    (hpl : (backTo pos (starEach [.Tuple es k1 pt] (X.suite a ((a, oe) :: pn)).env)).any (·.1) = false := by rfl) :
    PE (X.suite a ((a, oe) :: pn)) (.Call (.Name "isinstance" p) [.Name x px, .Tuple es k1 pt] [] pos) (RE (κ.at i a dd c fs) W (con (.bl b))) :=
  (pe_callB (id := "isinstance") (call_isD C hz hf) hg hm (by first | rfl | decide +kernel) (pa_cons hx (pa_cons (pe_tup hy.pa) pa_nil hs2) hs) (by decide) (by decide) hs hpl).imp fun σ H Q h => by
    obtain ⟨θ, us, g, S, R, q⟩ := h
    obtain ⟨_, e1, gs, e2, rf⟩ := R.ex _ rfl
    refine ⟨.ref a, e1, tCs_run ⟨Nat.le_trans hl (by decide), fun tp htp => ⟨⟨gs, by rw [upd_ne (ne_of_none e2 htp)]; exact e2⟩, .inr ⟨tp, cs, us0, b, rfl, upd_same, hk, hb, ?_⟩⟩⟩⟩
    obtain ⟨l2, S2⟩ := S.other (o := .tup cs) htp
    exact q θ _ _ l2 S2 relBl
/-- e.f of the error in hand -/
def exF (fs : List (Str × U)) (n : Str) : Ev := fun _ g => match fs.lookup n with
  | some u => .ok u g
  | none => .bad
theorem re_exF {e : Expr} {n : Str} {pos : Pos} {W : WX} (hK : X.K = κ.K) (T : XfC X.K (κ.C c)) (hno : PySem.W.findIn X.K (.ref (κ.C c)) n = some none) (hz : Zc (.ref (κ.C c)) (some dd) oe) (hf : ∃ vs, oe.data = .fields vs) (he : PE (X.suite a ((a, oe) :: pn)) e (tVar i))
    (hb : attributeBase e n X.env (eval e X.env) = eval e X.env := by rfl) : PE (X.suite a ((a, oe) :: pn)) (.Attribute e n pos) (RE (κ.at i a dd c fs) W (exF fs n)) :=
  (pe_xf T hno hz hf he hb).imp fun σ H Q h => by
    obtain ⟨θ, us, g, S, R, q⟩ := h
    obtain ⟨_, e1, gs, e2, rf⟩ := R.ex _ rfl
    unfold exF at q
    cases e3 : fs.lookup n with
    | none => rw [e3] at q; exact q.elim
    | some u =>
      rw [e3] at q
      obtain ⟨v, hv, rv⟩ := (rf.look n).1 u e3
      exact ⟨.ref a, e1, rfl, rfl, dd, gs, v, rfl, e2, hv, q θ H v (Le.refl _ _) S rv⟩
/-- a suite by its body -/
theorem suite_ok {k : Pc} {ncls : Nat} {suite : List Stmt} {cls : Value} {d : Option Addr} (h : ∀ (c : Nat) (fs : List (Str × U)) (dd : Addr), c < ncls → k.takes c = true → cls = .ref (κ.C c) → d = some dd → PSs (X.suite a ((a, oe) :: pn)) suite (RS (κ.at k.i a dd c fs) Wn (k.suite c fs))) :
    PSs (X.suite a ((a, oe) :: pn)) suite (tsOf κ k ncls a cls d) := ⟨fun pins s σ H D I q => by
  obtain ⟨c, fs, dd, h1, h2, h3, h4, hq⟩ := q
  exact (h c fs dd h1 h2 h3 h4).run pins s σ H D I hq⟩
end
end R
set_option Elab.async false
set_option linter.all false
set_option maxRecDepth 100000
set_option maxHeartbeats 1000000
namespace R
open PySem PySem.Spec L2
open PyProof.Rows hiding St
open PySem.W (Frag)
/-! ### defs, asked of the written part by names -/
abbrev FnR : Type := Option (Str × Str × Arguments × FuncBody × Scope × Addr × List Str × Addr)
def fnR (K : Frag) (a : Addr) : FnR := match K.lookup a with
  | some ⟨_, _, .func fd, _⟩ => some (fd.name, fd.qualname, fd.params, fd.body, fd.scope, fd.globals, fd.closure.map (·.1), fd.builtins)
  | _ => none
structure DefR where
  at_ : Frag → Addr
  name : Str
  qual : Str
  st : Stmt
  clo : List Str := []
  dfl : List He.Dv := []
def DefR.val (d : DefR) : FnR := some (d.name, d.qual, defArgs d.st, .stmts (defBody d.st), defScope d.st, mainGlobals, d.clo, builtinsNs)
def DefR.dvs (K : Frag) (d : DefR) : List V := d.dfl.map (He.Dv.v K)
def DefR.ok (K : Frag) (d : DefR) : Bool := PySem.W.keepIn K (.ref (d.at_ K)) && (match K.lookup (d.at_ K) with
  | some ⟨_, _, .func fd, _⟩ => PySem.W.codeIn K fd.code d.qual && He.dflB K fd.defaults (d.dvs K)
  | _ => false)
theorem bb {a b : Bool} (h : (a && b) = true) : a = true ∧ b = true := Bool.and_eq_true_iff.mp h
/-- what stands of such a def -/
theorem DefR.got {K : Frag} {d : DefR} (e : fnR K (d.at_ K) = d.val) (c : d.ok K = true) : PySem.W.keepIn K (.ref (d.at_ K)) = true ∧ ∃ (oc : Value) (od : Option Addr) (osl : Array (Option Value)) (fd : FuncData), K.lookup (d.at_ K) = some ⟨oc, od, .func fd, osl⟩ ∧
    fd.name = d.name ∧ fd.qualname = d.qual ∧ fd.params = defArgs d.st ∧ fd.body = .stmts (defBody d.st) ∧ fd.scope = defScope d.st ∧ fd.globals = mainGlobals ∧ fd.closure.map (·.1) = d.clo ∧ fd.builtins = builtinsNs ∧ PySem.W.codeIn K fd.code d.qual = true ∧ DflV K fd.defaults (d.dvs K) := by
  obtain ⟨kp, c2⟩ := bb c
  refine ⟨kp, ?_⟩
  unfold fnR at e
  cases q : K.lookup (d.at_ K) with
  | none => rw [q] at c2; cases c2
  | some o =>
    obtain ⟨oc, od, dt, osl⟩ := o
    rw [q] at c2 e
    cases dt with
    | func fd =>
      have e2 : (some (fd.name, fd.qualname, fd.params, fd.body, fd.scope, fd.globals, fd.closure.map (·.1), fd.builtins) : FnR) = some (d.name, d.qual, defArgs d.st, .stmts (defBody d.st), defScope d.st, mainGlobals, d.clo, builtinsNs) := e
      simp only [Option.some.injEq, Prod.mk.injEq] at e2
      obtain ⟨h1, h2, h3, h4, h5, h6, h7, h8⟩ := e2
      obtain ⟨k1, k2⟩ := bb (show (PySem.W.codeIn K fd.code d.qual && He.dflB K fd.defaults (d.dvs K)) = true from c2)
      exact ⟨oc, od, osl, fd, rfl, h1, h2, h3, h4, h5, h6, h7, h8, k1, He.dflB_ok k2⟩
    | _ => cases c2
theorem DefR.funD {K : Frag} {d : DefR} (hc : d.clo = []) (e : fnR K (d.at_ K) = d.val) (c : d.ok K = true) : ∃ fd, FunD K d.name d.qual (defArgs d.st) (defBody d.st) (defScope d.st) (d.dvs K) [] (d.at_ K) fd := by
  obtain ⟨kp, oc, od, osl, fd, lk, h1, h2, h3, h4, h5, h6, h7, h8, h9, h10⟩ := DefR.got e c
  obtain ⟨n1, n2, n3, n4, n5, n6, n7, n8, n9, n10, n11, n12, n13, n14, n15⟩ := fd
  dsimp only at h1 h2 h3 h4 h5 h6 h7 h8 h9 h10
  rw [hc] at h7
  have h7' : n7 = [] := List.map_eq_nil_iff.mp h7
  subst h1 h2 h3 h4 h5 h6 h7' h8
  exact ⟨_, ⟨oc, od, n8, n9, n10, n11, n12, n13, n14, osl, rfl, lk, h9, h10, .inl rfl⟩, kp⟩
/-! ### the Hook -/
abbrev AlR : Type := Bool × List FnR
def obsR (ex : List (Frag → Bool)) (fn : List DefR) (K : Frag) : AlR := ((ex.all fun f => f K) && fn.all fun d => d.ok K, fn.map fun d => fnR K (d.at_ K))
def valR (fn : List DefR) : AlR := (true, fn.map DefR.val)
def SaysR (ex : List (Frag → Bool)) (fn : List DefR) (K : Frag) : Prop := obsR ex fn K = valR fn
def obsRG (n : Nat) (ex : List (Frag → Bool)) (fn : List DefR) (g : Addr → Option Obj) : AlR := obsR ex fn (He.frG g (He.asD g n))
def hookR (n : Nat) (ex : List (Frag → Bool)) (fn : List DefR) : PySem.W.Hook where
  α := AlR
  obs := fun s => obsRG n ex fn s.heap.get?
  val := fun _ => valR fn
  says := fun _ h => ∃ K : Frag, K.In h ∧ SaysR ex fn K
  of := fun _ _ e => ⟨_, He.frG_in, e⟩
  keeps := fun _ _ _ ⟨K, hK, c⟩ k => ⟨K, PySem.W.Frag.In.keeps hK k, c⟩
theorem obsRG_eq {n : Nat} {ex : List (Frag → Bool)} {fn : List DefR} {g : Addr → Option Obj} {s : Shared} (h : ∀ a, g a = s.heap.get? a) : obsRG n ex fn g = (hookR n ex fn).obs s := by
  have e : g = s.heap.get? := funext h
  rw [e] <;> rfl
section
variable {ex : List (Frag → Bool)} {fn : List DefR} {K : Frag}
theorem SaysR.fact (c : SaysR ex fn K) (i : Nat) {f : Frag → Bool} (h : ex[i]? = some f := by rfl) : f K = true := by
  have c1 := (bb (show ((ex.all fun f => f K) && fn.all fun d => d.ok K) = true from congrArg (fun z : AlR => z.1) c)).1
  exact List.all_eq_true.mp c1 f (List.mem_of_getElem? h)
theorem SaysR.get (c : SaysR ex fn K) (i : Nat) {d : DefR} (h : fn[i]? = some d := by rfl) : fnR K (d.at_ K) = d.val ∧ d.ok K = true := by
  have c2 := (bb (show ((ex.all fun f => f K) && fn.all fun d => d.ok K) = true from congrArg (fun z : AlR => z.1) c)).2
  have e : fn.map (fun d => fnR K (d.at_ K)) = fn.map DefR.val := congrArg (fun z : AlR => z.2) c
  have e2 : (fn.map fun d => fnR K (d.at_ K))[i]? = (fn.map DefR.val)[i]? := by rw [e]
  rw [List.getElem?_map, List.getElem?_map, h] at e2
  exact ⟨Option.some.inj e2, List.all_eq_true.mp c2 d (List.mem_of_getElem? h)⟩
theorem SaysR.def_ (c : SaysR ex fn K) (i : Nat) {d : DefR} (h : fn[i]? = some d := by rfl) (hc : d.clo = [] := by rfl) : ∃ fd, FunD K d.name d.qual (defArgs d.st) (defBody d.st) (defScope d.st) (d.dvs K) [] (d.at_ K) fd := by
  obtain ⟨h1, h2⟩ := c.get i h
  exact DefR.funD hc h1 h2
end
/-! ### facts -/
section
variable {K : Frag} {h : Heap} {mg : Str → Option Value}
mutual
/-- a written value stands for u -/
def uB (K : Frag) : U → Value → Bool
  | .non, .none => true
  | .bl b, .bool c => b == c
  | .int i, .int j _ => decide (i = j)
  | .str x, .str y _ => decide (x = y)
  | .wtu us, .ref a => match K.lookup a with
    | some ⟨.type c, none, .seq its _, _⟩ => decide (c = "tuple") && (decide (its.size ≤ sizeLine) && uBs K us its.toList)
    | _ => false
  | _, _ => false
def uBs (K : Frag) : List U → List Value → Bool
  | [], [] => true
  | u :: us, v :: vs => uB K u v && uBs K us vs
  | _, _ => false
end
mutual
theorem uB_ok : ∀ {u : U} {v : Value}, uB K u v = true → ∃ w, RelV w v ∧ ∀ θ H, RelU K θ H u w
  | .non, v, e => by
    cases v with
    | none => exact ⟨.non, rfl, fun _ _ => relNon⟩
    | _ => simp [uB] at e
  | .bl b, v, e => by
    cases v with
    | bool c =>
      have q : b = c := by simpa [uB] using e
      subst q
      exact ⟨.bl b, rfl, fun _ _ => relBl⟩
    | _ => simp [uB] at e
  | .int b, v, e => by
    cases v with
    | int c t =>
      have q : b = c := by simpa [uB] using e
      subst q
      exact ⟨.int b, ⟨t, rfl⟩, fun _ _ => relInt⟩
    | _ => simp [uB] at e
  | .str b, v, e => by
    cases v with
    | str c t =>
      have q : b = c := by simpa [uB] using e
      subst q
      exact ⟨.str b, ⟨t, rfl⟩, fun _ _ => relStr⟩
    | _ => simp [uB] at e
  | .wtu us, v, e => by
    cases v with
    | ref a =>
      unfold uB at e
      split at e
      · rename_i c its n sl lk
        obtain ⟨e1, e⟩ := bb e
        obtain ⟨e2, e3⟩ := bb e
        obtain ⟨ws, r1, r2⟩ := uBs_ok e3
        refine ⟨.ref a, rfl, fun θ H => ?_⟩
        unfold RelU
        exact ⟨a, ws, rfl, ⟨_, its, n, lk, by rw [of_decide_eq_true e1], rfl, rfl, of_decide_eq_true e2, r1⟩, r2 θ H⟩
      · cases e
    | _ => simp [uB] at e
  | .tup us, v, e => by cases v <;> simp [uB] at e
  | .lit us, v, e => by cases v <;> simp [uB] at e
  | .ref us, v, e => by cases v <;> simp [uB] at e
theorem uBs_ok : ∀ {us : List U} {vs : List Value}, uBs K us vs = true → ∃ ws, Vals ws vs ∧ ∀ θ H, RelUs K θ H us ws
  | [], vs, e => by
    cases vs with
    | nil => exact ⟨[], .nil, fun _ _ => RelUs.nil⟩
    | cons _ _ => simp [uBs] at e
  | u :: us, vs, e => by
    cases vs with
    | nil => simp [uBs] at e
    | cons v vs =>
      unfold uBs at e
      obtain ⟨e1, e2⟩ := bb e
      obtain ⟨w, r1, r2⟩ := uB_ok e1
      obtain ⟨ws, q1, q2⟩ := uBs_ok e2
      exact ⟨w :: ws, .cons r1 q1, fun θ H => RelUs.cons (r2 θ H) (q2 θ H)⟩
end
/-- the module's name x holds u -/
def fVal (x : Str) (u : U) (K : Frag) : Bool := match PySem.W.nsIn K mainGlobals x with
  | some (some v) => uB K u v
  | _ => false
/-- .. told -/
def HasU (K : Frag) (mg : Str → Option Value) (x : Str) (u : U) : Prop := ∃ (v : V) (w : Value), mg x = some w ∧ RelV v w ∧ ∀ θ H, RelU K θ H u v
theorem fVal_ok (X : K.In h) (G : h.Ns mainGlobals mg) {x : Str} {u : U} (c : fVal x u K = true) : HasU K mg x u := by
  unfold fVal at c
  split at c
  · rename_i v e
    obtain ⟨w, r1, r2⟩ := uB_ok c
    exact ⟨w, v, PySem.W.mg_of X G e, r1, r2⟩
  · cases c
def fFa (f : He.Fa) (K : Frag) : Bool := f.ok K
/-- an own exception's class -/
def oexB (K : Frag) (C : Addr) : Bool := (match K.lookup C with
  | some ⟨.type t, _, .cls cd, sl⟩ => decide (t = "type") && (cd.hasDict && (!cd.hasDel && ((match cd.mro with
    | .ref D :: r => decide (D = C) && PySem.HandSPX.refsVE r
    | _ => false) && (match sl.toList with
      | [_, _, _, _, some (.builtin n), _] => decide (n = "ValueError.__new__")
      | _ => false))))
  | _ => false) && (decide (PySem.W.findIn K (.ref C) "__setattr__" = some (some (.builtin "object.__setattr__"))) && (decide (PySem.W.subIn K (.ref C) (.type "BaseException") = some true) && (decide (PySem.W.typeIn K (.ref C) = some (.type "type")) && PySem.W.keepIn K (.ref C))))
theorem oexB_ok {C : Addr} (e : oexB K C = true) : OexC K C := by
  obtain ⟨e1, e⟩ := bb e
  obtain ⟨e2, e⟩ := bb e
  obtain ⟨e3, e⟩ := bb e
  obtain ⟨e4, e5⟩ := bb e
  refine ⟨?_, of_decide_eq_true e2, of_decide_eq_true e3, of_decide_eq_true e4, e5⟩
  split at e1
  · rename_i t dd cd sl lk
    obtain ⟨q1, e1⟩ := bb e1
    obtain ⟨q2, e1⟩ := bb e1
    obtain ⟨q3, e1⟩ := bb e1
    obtain ⟨q4, q5⟩ := bb e1
    have qt := of_decide_eq_true q1
    subst qt
    obtain ⟨m1, m2, m3, m4, m5, m6, m7, m8, m9, m10, m11⟩ := cd
    dsimp only at q2 q3 q4
    have q3' : m11 = false := by simpa using q3
    subst q2 q3'
    split at q4
    · rename_i D r
      obtain ⟨z1, z2⟩ := bb q4
      have zD := of_decide_eq_true z1
      subst zD
      split at q5
      · rename_i k0 k1 k2 k3 n k5 esl
        have zn := of_decide_eq_true q5
        subst zn
        refine ⟨m1, m5, m4, m2, _, m7, m8, m9, m10, dd, k0, k1, k2, k3, k5, ?_, z2⟩
        rw [lk]
        have es : sl = #[k0, k1, k2, k3, some (.builtin "ValueError.__new__"), k5] := by
          have q := congrArg List.toArray esl
          simpa using q
        rw [es]
      · cases q5
    · cases q4
  · cases e1
end
end R
set_option Elab.async false
set_option linter.all false
set_option maxRecDepth 100000
set_option maxHeartbeats 1000000
namespace R
open PySem PySem.Spec L2
open PyProof.Rows hiding St
open PySem.W (Frag)
/-! ### the Hook, the model's own cells too -/
def asR (g : Addr → Option Obj) : Nat → List Addr
  | 0 => [mainGlobals, PySem.cStatics]
  | n + 1 => He.growD g (asR g n)
def obsS (n : Nat) (ex : List (Frag → Bool)) (fn : List DefR) (g : Addr → Option Obj) : AlR := obsR ex fn (He.frG g (asR g n))
def hookS (n : Nat) (ex : List (Frag → Bool)) (fn : List DefR) : PySem.W.Hook where
  α := AlR
  obs := fun s => obsS n ex fn s.heap.get?
  val := fun _ => valR fn
  says := fun _ h => ∃ K : Frag, K.In h ∧ SaysR ex fn K
  of := fun _ _ e => ⟨_, He.frG_in, e⟩
  keeps := fun _ _ _ ⟨K, hK, c⟩ k => ⟨K, PySem.W.Frag.In.keeps hK k, c⟩
theorem obsS_eq {n : Nat} {ex : List (Frag → Bool)} {fn : List DefR} {g : Addr → Option Obj} {s : Shared} (h : ∀ a, g a = s.heap.get? a) : obsS n ex fn g = (hookS n ex fn).obs s := by
  have e : g = s.heap.get? := funext h
  rw [e] <;> rfl
/-! ### calls by name -/
section
variable {P : Program} {w : World} {K : Frag} {mg : Str → Option Value} {base : Heap}
/-- a def of the module that may be called by its name -/
structure CalR (P : Program) (w : World) (K : Frag) (mg : Str → Option Value) (base : Heap) (k : Nat) (x : Str) (κ : Ctx) (m : Mm) (d : List U) : Prop where
  ex : ∃ (f : Addr) (fd : FuncData) (ps : List Str) (ds : List Value) (dvs : List V), FnOk P w K mg base (L2.CX P w) k f fd ps (spR κ m) ∧ mg x = some (.ref f) ∧ PySem.W.keepIn K (.ref f) = true ∧ Binds K fd ps ds ∧ Vals dvs ds ∧ ∀ θ H, RelUs κ.K θ H d dvs
/-- a method -/
structure MetR (P : Program) (w : World) (K : Frag) (mg : Str → Option Value) (base : Heap) (k : Nat) (c : Nat) (x : Str) (κ : Ctx) (m : Mm) : Prop where
  ex : ∃ (f : Addr) (fd : FuncData) (ps : List Str), Cls κ.K (κ.C c) ∧ Meth κ.K (κ.C c) x f ∧ FnOk P w K mg base (L2.CX P w) k f fd ps (spR κ m) ∧ Binds K fd ps []
/-- a class to be called -/
structure MakR (P : Program) (w : World) (K : Frag) (mg : Str → Option Value) (base : Heap) (k : Nat) (x : Str) (c : Nat) (κ : Ctx) (m : Mm) (d : List U) : Prop where
  ex : ∃ (f : Addr) (fd : FuncData) (ps : List Str) (ds : List Value) (dvs : List V), Mk K (κ.C c) f ∧ FnOk P w K mg base (L2.CX P w) k f fd ps (spR κ m) ∧ mg x = some (.ref (κ.C c)) ∧ Binds K fd ps ds ∧ Vals dvs ds ∧ ∀ θ H, RelUs κ.K θ H d dvs
/-- a refinement: what m' promises, m keeps -/
def Refines (κ : Ctx) (m' m : Mm) : Prop := ∀ (θ : List Addr) (g : Gs) (H : Hp) (us : List U) (vs : List V) (Q : VK) (Wx : Value → Option Addr → Hp → Prop), Sim κ θ g H → RelUs κ.K θ H us vs → (m' us g).post κ (RlU κ) θ H Q Wx → (m us g).post κ (RlU κ) θ H Q Wx
theorem spR_ref {κ : Ctx} {m m' : Mm} (h : Refines κ m' m) : ∀ vs H Q E, spR κ m' vs H Q E → spR κ m vs H Q E := fun vs H Q E ⟨θ, us, g, S, r, p⟩ => ⟨θ, us, g, S, r, h θ g H us vs Q _ S r p⟩
theorem CalR.ref {k : Nat} {x : Str} {κ : Ctx} {m m' : Mm} {d : List U} (c : CalR P w K mg base k x κ m d) (h : Refines κ m' m) : CalR P w K mg base k x κ m' d := by
  obtain ⟨f, fd, ps, ds, dvs, h1, h2⟩ := c.ex
  exact ⟨f, fd, ps, ds, dvs, h1.imp (spR_ref h), h2⟩
theorem MetR.ref {k c : Nat} {x : Str} {κ : Ctx} {m m' : Mm} (cc : MetR P w K mg base k c x κ m) (h : Refines κ m' m) : MetR P w K mg base k c x κ m' := by
  obtain ⟨f, fd, ps, h0, h0', h1, h2⟩ := cc.ex
  exact ⟨f, fd, ps, h0, h0', h1.imp (spR_ref h), h2⟩
theorem MakR.ref {k c : Nat} {x : Str} {κ : Ctx} {m m' : Mm} {d : List U} (cc : MakR P w K mg base k x c κ m d) (h : Refines κ m' m) : MakR P w K mg base k x c κ m' d := by
  obtain ⟨f, fd, ps, ds, dvs, h0, h1, h2⟩ := cc.ex
  exact ⟨f, fd, ps, ds, dvs, h0, h1.imp (spR_ref h), h2⟩
/-- equal where the run is good -/
theorem Refines.of_eq {κ : Ctx} {m m' : Mm} (h : ∀ us g, m' us g ≠ .bad → m us g = m' us g) : Refines κ m' m := fun θ g H us vs Q Wx S r p => by
  rw [h us g (post_bad p)]
  exact p
end
section
variable {X : Cx} {κ : Ctx} {W : WX}
theorem re_c {x : Str} {p pos : Pos} {e : Expr} {es : List Expr} {k j : Nat} {m : Mm} {d : List U} {a : Ea} (c : CalR X.prog X.w X.K X.mg X.base k x κ m d) (hr : Room j X.A) (tk : Takes X W) (ha : PA X (e :: es) (RA κ W a)) (hk : k ≤ j := by decide) (hg : Gl X x := by rfl) (hdb : (x == ("__debug__" : Str)) = false := by decide) (he : starEach (e :: es) X.env = (false, eval e X.env) :: starEach es X.env := by rfl)
    (hpl : (backTo pos (starEach es X.env)).any (·.1) = false := by rfl) : PE X (.Call (.Name x p) (e :: es) [] pos) (RE κ W (callE m d a)) := by
  obtain ⟨f, fd, ps, ds, dvs, h1, h2, h3, h4, h5, h6⟩ := c.ex
  exact re_call (h1.mono hk) hr h2 h3 h4 h5 h6 tk ha hg hdb he hpl
theorem re_c0 {x : Str} {p pos : Pos} {k j : Nat} {m : Mm} {d : List U} (c : CalR X.prog X.w X.K X.mg X.base k x κ m d) (hr : Room j X.A) (hk : k ≤ j := by decide) (hg : Gl X x := by rfl) (hdb : (x == ("__debug__" : Str)) = false := by decide) : PE X (.Call (.Name x p) [] [] pos) (RE κ W (call0 m d)) := by
  obtain ⟨f, fd, ps, ds, dvs, h1, h2, h3, h4, h5, h6⟩ := c.ex
  exact re_call0 (h1.mono hk) hr h2 h3 h4 h5 h6 hg hdb
theorem re_m {o e : Expr} {es : List Expr} {name : Str} {apos pos : Pos} {c k j : Nat} {m : Mm} {f : Ev} {a : Ea} {pl : Sem Bool} (hK : X.K = κ.K) (cc : MetR X.prog X.w X.K X.mg X.base k c name κ m) (hr : Room j X.A) (ho : PE X o (RE κ W f)) (ha : PA X (e :: es) (RA κ W a)) (hk : k ≤ j := by decide)
    (hst : starEach (e :: es) X.env = (false, eval e X.env) :: starEach es X.env := by rfl) (hpl : (backTo pos (starEach es X.env)).any (·.1) = false := by rfl)
    (ht : eval (.Call (.Attribute o name apos) (e :: es) [] pos) X.env = (do
      let ov ← eval o X.env
      standAt apos.atName
      let (f, first) ← holding [ov] (getMethod ov name pl)
      callWith pos f first (backTo pos (starEach (e :: es) X.env)) (backToKw pos (keywordEach [] X.env))) := by rfl) :
    PE X (.Call (.Attribute o name apos) (e :: es) [] pos) (RE κ W (mtE c name m [] f a)) := by
  obtain ⟨g0, fd, ps, h0, h1, h2, h3⟩ := cc.ex
  exact re_meth (dvs := []) (ds := []) hK h0 h1 (h2.mono hk) hr h3 .nil (fun _ _ => RelUs.nil) ho ha hst hpl ht
theorem re_k {x : Str} {p pos : Pos} {e : Expr} {es : List Expr} {c k j : Nat} {m : Mm} {d : List U} {a : Ea} (cc : MakR X.prog X.w X.K X.mg X.base k x c κ m d) (hr : Room j X.A) (tk : Takes X W) (ha : PA X (e :: es) (RA κ W a)) (hk : k + 1 ≤ j := by decide) (hg : Gl X x := by rfl) (hdb : (x == ("__debug__" : Str)) = false := by decide) (he : starEach (e :: es) X.env = (false, eval e X.env) :: starEach es X.env := by rfl)
    (hpl : (backTo pos (starEach es X.env)).any (·.1) = false := by rfl) : PE X (.Call (.Name x p) (e :: es) [] pos) (RE κ W (mkE c m d a)) := by
  obtain ⟨f, fd, ps, ds, dvs, h0, h1, h2, h4, h5, h6⟩ := cc.ex
  exact re_mk tk h0 h1 (hr.mono hk) h2 h4 h5 h6 ha hg hdb he hpl
theorem re_k0 {x : Str} {p pos : Pos} {c k j : Nat} {m : Mm} {d : List U} (cc : MakR X.prog X.w X.K X.mg X.base k x c κ m d) (hr : Room j X.A) (hk : k + 1 ≤ j := by decide) (hg : Gl X x := by rfl) (hdb : (x == ("__debug__" : Str)) = false := by decide) : PE X (.Call (.Name x p) [] [] pos) (RE κ W (mk0 c m d)) := by
  obtain ⟨f, fd, ps, ds, dvs, h0, h1, h2, h4, h5, h6⟩ := cc.ex
  exact re_mk0 h0 h1 (hr.mono hk) h2 h4 h5 h6 hg hdb
/-- a global that holds a written value -/
theorem re_gv {x : Str} {u : U} {pos : Pos} (hK : X.K = κ.K) (h : HasU X.K X.mg x u) (hg : Gl X x := by rfl) (hd : (x == ("__debug__" : Str)) = false := by decide) : PE X (.Name x pos) (RE κ W (con u)) := by
  obtain ⟨v, w, h1, h2, h3⟩ := h
  exact re_glob h1 (fun θ H => hK ▸ h3 θ H) h2 hg hd
/-- a local name -/
theorem rv (i : Nat) {x : Str} {pos : Pos} (hN : X.N[i]? = some x := by rfl) (hv : Vis X.env.scope x := by first | exact Or.inl rfl | exact Or.inr (Or.inl rfl) | exact Or.inr (Or.inr rfl)) (hd : (x == ("__debug__" : Str)) = false := by decide)
    (hcd : (x == ("__classdict__" : Str)) = false := by decide) : PE X (.Name x pos) (RE κ W (var i)) := re_var (pe_var hN hv hd hcd)
/-- what is never reached -/
def badS : Sx := fun _ _ => .bad
theorem rs_bad {st : Stmt} : PS X st (RS κ W badS) := ⟨fun pins s σ H D I h => by
  obtain ⟨θ, us, g, S, R, p⟩ := h
  exact p.elim⟩
theorem rss_bad {st : List Stmt} : PSs X st (RS κ W badS) := ⟨fun pins s σ H D I h => by
  obtain ⟨θ, us, g, S, R, p⟩ := h
  exact p.elim⟩
def badE : Ev := fun _ _ => .bad
theorem re_bad {e : Expr} : PE X e (RE κ W badE) := ⟨fun pins s σ H Q I h => by
  obtain ⟨θ, us, g, S, R, p⟩ := h
  exact p.elim⟩
end
/-! ### the def of a FunD -/
section
variable {P : Program} {w : World} {K : Frag} {mg : Str → Option Value} {base : Heap}
theorem fd_ok {κ : Ctx} {x qual : Str} {st : Stmt} {dvs : List V} {f : Addr} {fd : FuncData} {N ps : List Str} {j n k : Nat} {b : Sx} (F : FunD κ.K x qual (defArgs st) (defBody st) (defScope st) dvs [] f fd) (S : FnScope N ps (defScope st)) (hx : κ.ex = none) (hn : ps.length = n) (hk : N.length = n + k)
    (body : ∀ (cdv : Value) (A : Around) (outer : List Env) (s : Shared) (H : Hp) (E : XK), Room j (cxOf (L2.CX P w) P w κ.K mg base N qual (defScope st) f cdv A outer s H E).A → PSs (cxOf (L2.CX P w) P w κ.K mg base N qual (defScope st) f cdv A outer s H E) (defBody st) (RS κ (fun c d _ H => E c d H) b)) :
    FnOk P w κ.K mg base (L2.CX P w) (j + 1) f fd ps (spR κ (defM n k b)) := by
  refine FunD.ok F S (fun vs H Q E h => ?_) (fun cdv A outer s H vs Q E hr h => ⟨_, body cdv A outer s H E hr, ?_⟩)
  · obtain ⟨θ, us, g, S, r, p⟩ := h
    rw [← r.length, defM_len (post_bad p), hn]
  · obtain ⟨θ, us, g, S, r, p⟩ := h
    have hl := defM_len (post_bad p)
    refine ⟨θ, us.map some ++ List.replicate k none, g, S, relS_start hx r (by omega), ?_⟩
    unfold defM at p
    rw [if_pos hl] at p
    cases e : b (us.map some ++ List.replicate k none) g with
    | nx us' g' => rw [e] at p; exact fun θ' H' σ' l s _ => p θ' H' .non l s relNon
    | rt u g' => rw [e] at p; exact fun θ' H' v l s r => p θ' H' v l s r
    | exc c fs us' g' => rw [e] at p; exact fun θ' H' σ' d gs l s _ q r => p θ' H' d gs l s q r
    | bk us' g' => rw [e] at p; exact p.elim
    | ct us' g' => rw [e] at p; exact p.elim
    | bad => rw [e] at p; exact p.elim
end
/-! ### own exceptions, by name -/
def codeFile (K : Frag) (cda : Addr) (file : Str) : Bool := match K.lookup cda with
  | some ⟨_, _, .fields vs, _⟩ => (match (vs[2]? : Option Value) with
    | some (.str fl _) => file == fl
    | _ => false)
  | _ => false
def cellOf (K : Frag) (cc C : Addr) : Bool := match K.lookup cc with
  | some ⟨_, _, .cell (some (.ref D)), _⟩ => decide (D = C)
  | _ => false
/-- what is asked of the class named x and its __init__ -/
def excB (file : Str) (x : Str) (fs : List Str) (K : Frag) : Bool :=
  He.eqO (PySem.W.nsIn K mainGlobals x) (some (some (.ref (He.ga K x)))) && (oexB K (He.ga K x) &&
  (He.eqO (PySem.W.findIn K (.ref (He.ga K x)) "__init__") (some (some (.ref (He.ma K (He.ga K x) "__init__")))) &&
  (decide (PySem.W.typeIn K (.ref (He.ma K (He.ga K x) "__init__")) = some (.type "function")) &&
  (He.eqO (PySem.W.ks_superIn K (He.ga K x) (He.ga K x) "__init__") (some (some (.builtin veInit))) &&
  (decide (PySem.W.subIn K (.ref (He.ga K x)) (.type "ValueError") = some true) &&
  (decide (PySem.W.mroIn K (He.ga K x) (.ref (He.ga K x)) = some true) &&
  (He.eqO (PySem.W.nsIn K PySem.cStatics "thirdparty.any") (some none) &&
  ((match K.lookup (He.ma K (He.ga K x) "__init__") with
    | some ⟨_, _, .func fd, _⟩ => (match fd.closure, fd.code with
      | [(_, cc)], .ref cda => codeFile K cda file && cellOf K cc (He.ga K x)
      | _, _ => false)
    | _ => false) && fs.all fun f => He.eqO (PySem.W.findIn K (.ref (He.ga K x)) f) (some none)))))))))
theorem excB_ok {P : Program} {K : Frag} {h : Heap} {mg : Str → Option Value} {x : Str} {fs : List Str} {d : DefR} (X : K.In h) (G : h.Ns mainGlobals mg) (c : excB P.main.file x fs K = true) (hat : d.at_ = fun K => He.ma K (He.ga K x) "__init__") (hn : d.name = "__init__") (hc : d.clo = [("__class__" : Str)]) (hd : d.dfl = []) (hs : mg "super" = none)
    (e : fnR K (d.at_ K) = d.val ∧ d.ok K = true) : ∃ fd, XTxt P K mg x d.qual d.st (He.ga K x) (He.ma K (He.ga K x) "__init__") fd ∧ fd.defaults = .none ∧ fd.params = defArgs d.st ∧ ∀ f ∈ fs, PySem.W.findIn K (.ref (He.ga K x)) f = some none := by
  unfold excB at c
  obtain ⟨c1, c⟩ := bb c
  obtain ⟨c2, c⟩ := bb c
  obtain ⟨c3, c⟩ := bb c
  obtain ⟨c4, c⟩ := bb c
  obtain ⟨c5, c⟩ := bb c
  obtain ⟨c6, c⟩ := bb c
  obtain ⟨c7, c⟩ := bb c
  obtain ⟨c8, c⟩ := bb c
  obtain ⟨c9, c10⟩ := bb c
  obtain ⟨kp, oc, od, osl, fd, lk, h1, h2, h3, h4, h5, h6, h7, h8, h9, h10⟩ := DefR.got e.1 e.2
  rw [hat] at lk
  dsimp only at lk
  rw [lk] at c9
  dsimp only at c9
  rw [hc] at h7
  have hdef : fd.defaults = .none := by
    rcases h10 with ⟨_, z⟩ | ⟨z, _⟩
    · exact z
    · exact absurd (by unfold DefR.dvs; rw [hd]; rfl) z
  have oex := oexB_ok c2
  have hcls : ∃ cd, PySem.W.clsIn K (He.ga K x) = some cd := by
    obtain ⟨nm, q, N, bs, bm, sn, sub, ab, col, dd, k0, k1, k2, k3, k5, e, _⟩ := oex.cls
    exact ⟨_, by unfold PySem.W.clsIn; rw [e]⟩
  obtain ⟨n1, n2, n3, n4, n5, n6, n7, n8, n9, n10, n11, n12, n13, n14, n15⟩ := fd
  dsimp only at h1 h2 h3 h4 h5 h6 h7 h8 h9 h10 c9 hdef
  split at c9
  · rename_i y cc cda
    obtain ⟨z1, z2⟩ := bb c9
    have ey : y = ("__class__" : Str) := by simpa using h7
    subst ey
    rw [hn] at h1
    subst h1 h2 h3 h4 h5 h6 h8 hdef
    refine ⟨_, ⟨oex, He.eqO_ok c3, of_decide_eq_true c4, PySem.W.mg_of X G (He.eqO_ok c1), hs, He.eqO_ok c5, of_decide_eq_true c6, of_decide_eq_true c7, He.eqO_ok c8, hcls,
      oc, od, n9, n10, n11, n12, cda, cc, n14, osl, rfl, lk, h9, ?_, ?_⟩, rfl, rfl, fun f hf => He.eqO_ok (List.all_eq_true.mp c10 f hf)⟩
    · unfold codeFile at z1
      split at z1
      · rename_i a b vs cs lk2
        split at z1
        · rename_i fl tf hv
          exact ⟨a, b, vs, cs, fl, tf, lk2, hv, z1⟩
        · cases z1
      · cases z1
    · unfold cellOf at z2
      split at z2
      · rename_i a b D cs lk2
        have eD := of_decide_eq_true z2
        subst eD
        exact ⟨a, b, cs, lk2⟩
      · cases z2
  · cases c9
end R
set_option Elab.async false
set_option linter.all false
set_option maxRecDepth 100000
set_option maxHeartbeats 1000000
namespace R
open PySem PySem.Spec L2
open PyProof.Rows hiding St
open PySem.W (Frag)
/-! ### own exceptions that are raised: their __init__ by its text -/
structure RaiR1 (P : Program) (w : World) (K : Frag) (mg : Str → Option Value) (base : Heap) (k : Nat) (x : Str) (c : Nat) (f1 : Str) (κ : Ctx) : Prop where
  ex : ∃ (fI : Addr) (fd : FuncData) (ps : List Str), OexC K (κ.C c) ∧ PySem.W.findIn K (.ref (κ.C c)) "__init__" = some (some (.ref fI)) ∧ PySem.W.typeIn K (.ref fI) = some (.type "function") ∧ FnOk P w K mg base (L2.CX P w) k fI fd ps (spI1 (κ.C c) f1) ∧ Binds K fd ps [] ∧ mg x = some (.ref (κ.C c))
structure RaiR2 (P : Program) (w : World) (K : Frag) (mg : Str → Option Value) (base : Heap) (k : Nat) (x : Str) (c : Nat) (f1 f2 : Str) (κ : Ctx) : Prop where
  ex : ∃ (fI : Addr) (fd : FuncData) (ps : List Str), OexC K (κ.C c) ∧ PySem.W.findIn K (.ref (κ.C c)) "__init__" = some (some (.ref fI)) ∧ PySem.W.typeIn K (.ref fI) = some (.type "function") ∧ FnOk P w K mg base (L2.CX P w) k fI fd ps (spI2 (κ.C c) f1 f2) ∧ Binds K fd ps [] ∧ mg x = some (.ref (κ.C c))
section
variable {X : Cx} {κ : Ctx} {W : WX}
theorem rs_r1 {x : Str} {p pos pos2 : Pos} {e : Expr} {es : List Expr} {c k j : Nat} {f1 : Str} {a : Ea} (hc : X.calm = true) (tk : Takes X W) (r : RaiR1 X.prog X.w X.K X.mg X.base k x c f1 κ) (hr : Room j X.A) (ha : PA X (e :: es) (RA κ W a)) (hk : k + 1 ≤ j := by decide) (hg : Gl X x := by rfl)
    (hdb : (x == ("__debug__" : Str)) = false := by decide) (he : starEach (e :: es) X.env = (false, eval e X.env) :: starEach es X.env := by rfl) (hpl : (backTo pos (starEach es X.env)).any (·.1) = false := by rfl) :
    PS X (.Raise (some (.Call (.Name x p) (e :: es) [] pos)) none pos2) (RS κ W (raiseE c [f1] a)) := by
  obtain ⟨fI, fd, ps, h1, h2, h3, h4, h5, h6⟩ := r.ex
  exact rs_raise1 hc tk h1 h2 h3 h4 (hr.mono hk) h5 h6 ha hg hdb he hpl
theorem rs_r2 {x : Str} {p pos pos2 : Pos} {e : Expr} {es : List Expr} {c k j : Nat} {f1 f2 : Str} {a : Ea} (hc : X.calm = true) (tk : Takes X W) (r : RaiR2 X.prog X.w X.K X.mg X.base k x c f1 f2 κ) (hr : Room j X.A) (ha : PA X (e :: es) (RA κ W a)) (hk : k + 1 ≤ j := by decide) (hg : Gl X x := by rfl)
    (hdb : (x == ("__debug__" : Str)) = false := by decide) (he : starEach (e :: es) X.env = (false, eval e X.env) :: starEach es X.env := by rfl) (hpl : (backTo pos (starEach es X.env)).any (·.1) = false := by rfl) :
    PS X (.Raise (some (.Call (.Name x p) (e :: es) [] pos)) none pos2) (RS κ W (raiseE c [f1, f2] a)) := by
  obtain ⟨fI, fd, ps, h1, h2, h3, h4, h5, h6⟩ := r.ex
  exact rs_raise2 hc tk h1 h2 h3 h4 (hr.mono hk) h5 h6 ha hg hdb he hpl
end
section
variable {P : Program} {w : World} {K : Frag} {mg : Str → Option Value} {base : Heap} {x qual f1 : Str} {st : Stmt} {C f : Addr} {fd : FuncData}
/-- super().__init__(f'..{f1}'); self.f1 = f1 -/
theorem init1_ok {z : Str} {j : Nat} {p0 p1 p2 p3 p4 q1 q2 q3 q4 q5 q6 q7 q8 : Pos} (T : XTxt P K mg x qual st C f fd) (S : ScS [("self" : Str), f1] (defScope st)) (hz : z.length ≤ 1000000) (hno : PySem.W.findIn K (.ref C) f1 = some none)
    (hb : defBody st = [.Expr (.Call (.Attribute (.Call (.Name "super" p0) [] [] p1) "__init__" p2) [.JoinedStr [.Constant (.str z) j q1, .FormattedValue (.Name f1 q2) (-1) none q3] q4] [] p3) p4, .Assign [.Attribute (.Name "self" q5) f1 q6] (.Name f1 q7) q8])
    (hks : (defScope st).names.lookup ("super" : Str) = some .globalImplicit) (hkc : (defScope st).names.lookup ("__class__" : Str) = some .free) (harg : ∃ ar, ((defArgs st).posonlyargs ++ (defArgs st).args).head? = some ar ∧ ar.arg = ("self" : Str)) (htop : (P.main.scope.names.lookup ("super" : Str)).isSome = false)
    (hev : ∀ (L cda cc : Addr), ∃ pl : Sem Bool, eval (.Call (.Attribute (.Call (.Name "super" p0) [] [] p1) "__init__" p2) [.JoinedStr [.Constant (.str z) j q1, .FormattedValue (.Name f1 q2) (-1) none q3] q4] [] p3) (PySem.W.ksEnv qual (defScope st) L f (.ref cda) cc) = (do
      let ov ← attributeBase (.Call (.Name "super" p0) [] [] p1) "__init__" (PySem.W.ksEnv qual (defScope st) L f (.ref cda) cc) (eval (.Call (.Name "super" p0) [] [] p1) (PySem.W.ksEnv qual (defScope st) L f (.ref cda) cc))
      standAt p2.atName
      let (fx, first) ← holding [ov] (getMethod ov "__init__" pl)
      callWith p3 fx first (backTo p3 (starEach [.JoinedStr [.Constant (.str z) j q1, .FormattedValue (.Name f1 q2) (-1) none q3] q4] (PySem.W.ksEnv qual (defScope st) L f (.ref cda) cc))) []))
    (hd : (f1 == ("__debug__" : Str)) = false) (hcd : (f1 == ("__classdict__" : Str)) = false) : FnOk P w K mg base (L2.CX P w) 1 f fd [("self" : Str), f1] (spI1 C f1) := by
  have v0 : Vis (defScope st) ("self" : Str) := .inl (S.par _ (by simp))
  have v1 : Vis (defScope st) f1 := .inl (S.par _ (by simp))
  refine fnS_ok (k := 0) (tr := tOst K f1 (tVar 0) (tVar 1)) S T hb hks hkc harg rfl htop (fun vs H Q E h => ?_) hev (fun L cda cc => rfl) (fun cda cc A outer s H E => pa_cons (pe_joined (.cons pe_str (.cons (pe_fmt (pe_var (i := 1) rfl v1 hd hcd)) .nil))) pa_nil)
    (fun cda cc A outer s H E => by refine pss_one (ps_ost (pe_var (x := ("self" : Str)) (i := 0) rfl v0 (by decide) (by decide)) (pe_var (i := 1) rfl v1 hd hcd) ?_); rfl) (fun vs H Q E h => ?_)
  · obtain ⟨a, v, rfl, _⟩ := h
    rfl
  · obtain ⟨a, v, rfl, ha, hf, hq⟩ := h
    refine ⟨a, rfl, ha, ?_⟩
    refine tJs_any (σ := L2.start [("self" : Str), f1] [.ref a, v]) (fun t ht => ?_) (by show 0 + 1000000 * 2 ≤ 16000000; decide) fun out ho => ⟨by show 1 ≤ 1000; decide, ha, rest1 T.oex hno rfl rfl ha hq⟩
    simp only [List.mem_cons, List.not_mem_nil, or_false] at ht
    rcases ht with rfl | rfl
    · exact any_c hz
    · exact any_fmt rfl hf
/-- super().__init__(f'.. {f1}..{f2}..'); self.f1 = f1; self.f2 = f2 -/
theorem init2_ok {f2 z z2 z3 : Str} {j j2 j3 : Nat} {p0 p1 p2 p3 p4 q1 q2 q3 q4 q5 q6 q7 q8 q9 q10 q11 q12 q13 q14 q15 q16 : Pos} (T : XTxt P K mg x qual st C f fd) (S : ScS [("self" : Str), f1, f2] (defScope st)) (hz : z.length ≤ 1000000) (hz2 : z2.length ≤ 1000000) (hz3 : z3.length ≤ 1000000) (hno : PySem.W.findIn K (.ref C) f1 = some none) (hno2 : PySem.W.findIn K (.ref C) f2 = some none)
    (hb : defBody st = [.Expr (.Call (.Attribute (.Call (.Name "super" p0) [] [] p1) "__init__" p2) [.JoinedStr [.Constant (.str z) j q1, .FormattedValue (.Name f1 q2) (-1) none q3, .Constant (.str z2) j2 q4, .FormattedValue (.Name f2 q5) (-1) none q6, .Constant (.str z3) j3 q7] q8] [] p3) p4, .Assign [.Attribute (.Name "self" q9) f1 q10] (.Name f1 q11) q12, .Assign [.Attribute (.Name "self" q13) f2 q14] (.Name f2 q15) q16])
    (hks : (defScope st).names.lookup ("super" : Str) = some .globalImplicit) (hkc : (defScope st).names.lookup ("__class__" : Str) = some .free) (harg : ∃ ar, ((defArgs st).posonlyargs ++ (defArgs st).args).head? = some ar ∧ ar.arg = ("self" : Str)) (htop : (P.main.scope.names.lookup ("super" : Str)).isSome = false)
    (hev : ∀ (L cda cc : Addr), ∃ pl : Sem Bool, eval (.Call (.Attribute (.Call (.Name "super" p0) [] [] p1) "__init__" p2) [.JoinedStr [.Constant (.str z) j q1, .FormattedValue (.Name f1 q2) (-1) none q3, .Constant (.str z2) j2 q4, .FormattedValue (.Name f2 q5) (-1) none q6, .Constant (.str z3) j3 q7] q8] [] p3) (PySem.W.ksEnv qual (defScope st) L f (.ref cda) cc) = (do
      let ov ← attributeBase (.Call (.Name "super" p0) [] [] p1) "__init__" (PySem.W.ksEnv qual (defScope st) L f (.ref cda) cc) (eval (.Call (.Name "super" p0) [] [] p1) (PySem.W.ksEnv qual (defScope st) L f (.ref cda) cc))
      standAt p2.atName
      let (fx, first) ← holding [ov] (getMethod ov "__init__" pl)
      callWith p3 fx first (backTo p3 (starEach [.JoinedStr [.Constant (.str z) j q1, .FormattedValue (.Name f1 q2) (-1) none q3, .Constant (.str z2) j2 q4, .FormattedValue (.Name f2 q5) (-1) none q6, .Constant (.str z3) j3 q7] q8] (PySem.W.ksEnv qual (defScope st) L f (.ref cda) cc))) []))
    (hd : (f1 == ("__debug__" : Str)) = false) (hcd : (f1 == ("__classdict__" : Str)) = false) (hd2 : (f2 == ("__debug__" : Str)) = false) (hcd2 : (f2 == ("__classdict__" : Str)) = false) : FnOk P w K mg base (L2.CX P w) 1 f fd [("self" : Str), f1, f2] (spI2 C f1 f2) := by
  have v0 : Vis (defScope st) ("self" : Str) := .inl (S.par _ (by simp))
  have v1 : Vis (defScope st) f1 := .inl (S.par _ (by simp))
  have v2 : Vis (defScope st) f2 := .inl (S.par _ (by simp))
  refine fnS_ok (k := 0) (tr := tSeq (tOst K f1 (tVar 0) (tVar 1)) (tOst K f2 (tVar 0) (tVar 2))) S T hb hks hkc harg rfl htop (fun vs H Q E h => ?_) hev (fun L cda cc => rfl) (fun cda cc A outer s H E => pa_cons (pe_joined (.cons pe_str (.cons (pe_fmt (pe_var (i := 1) rfl v1 hd hcd)) (.cons pe_str (.cons (pe_fmt (pe_var (i := 2) rfl v2 hd2 hcd2)) (.cons pe_str .nil)))))) pa_nil)
    (fun cda cc A outer s H E => by
      refine pss_cons (ps_ost (pe_var (x := ("self" : Str)) (i := 0) rfl v0 (by decide) (by decide)) (pe_var (i := 1) rfl v1 hd hcd) ?_) (pss_one (ps_ost (pe_var (x := ("self" : Str)) (i := 0) rfl v0 (by decide) (by decide)) (pe_var (i := 2) rfl v2 hd2 hcd2) ?_)) <;> rfl) (fun vs H Q E h => ?_)
  · obtain ⟨a, v, v2, rfl, _⟩ := h
    rfl
  · obtain ⟨a, v, u, rfl, ha, hf, hf2, hq⟩ := h
    refine ⟨a, rfl, ha, ?_⟩
    refine tJs_any (σ := L2.start [("self" : Str), f1, f2] [.ref a, v, u]) (fun t ht => ?_) (by show 0 + 1000000 * 5 ≤ 16000000; decide) fun out ho => ⟨by show 1 ≤ 1000; decide, ha, rest2 T.oex hno hno2 rfl rfl rfl ha hq⟩
    simp only [List.mem_cons, List.not_mem_nil, or_false] at ht
    rcases ht with rfl | rfl | rfl | rfl | rfl
    · exact any_c hz
    · exact any_fmt rfl hf
    · exact any_c hz2
    · exact any_fmt rfl hf2
    · exact any_c hz3
end
end R
set_option Elab.async false
set_option linter.all false
set_option maxRecDepth 100000
set_option maxHeartbeats 1000000
namespace R
open PySem PySem.Spec L2
open PyProof.Rows hiding St
open PySem.W (Frag)
/-! ### a comprehension's names -/
def blkC (N : List Str) (sc scope : Scope) (own : List (Str × Nat)) : Bool := decide (scope.kind = .function) && (scope.names.all (fun y => decide (scope.names.lookup y.1 = some y.2)) && (own.all (fun p => decide (N[p.2]? = some p.1)) &&
  (scope.names.all (fun y => !decide (y.2 = .free) || (decide (sc.names.lookup y.1 = some .cell) || decide (sc.names.lookup y.1 = some .free))) && scope.names.all (fun y => !(decide (y.2 = .local) || decide (y.2 = .cell)) || (decide (y.1 ∈ own.map (·.1)) || decide (y.1 ∉ N))))))
theorem blk_by {N : List Str} {sc scope : Scope} {own : List (Str × Nat)} (h : blkC N sc scope own = true) : BlkOk N sc scope own := by
  unfold blkC at h
  simp only [Bool.and_eq_true, Bool.or_eq_true, Bool.not_eq_true', decide_eq_true_eq, List.all_eq_true, decide_eq_false_iff_not, Bool.or_eq_false_iff] at h
  obtain ⟨h1, h2, h3, h4, h5⟩ := h
  refine ⟨h1, h2, h3, fun y hy hf => ?_, fun y hy hl => ?_⟩
  · rcases h4 y hy with q | q
    · exact absurd hf q
    · exact q
  · rcases h5 y hy with q | q
    · rcases hl with z | z
      · exact absurd z q.1
      · exact absurd z q.2
    · exact q
/-! ### packages: operators, static methods, walks of an own class -/
structure OwnR (P : Program) (w : World) (K : Frag) (mg : Str → Option Value) (base : Heap) (k c : Nat) (name : Str) (κ : Ctx) (m : Mm) : Prop where
  ex : ∃ (f : Addr) (fd : FuncData) (ps : List Str), OwnOp K (κ.C c) name f ∧ FnOk P w K mg base (L2.CX P w) k f fd ps (spR κ m) ∧ Binds K fd ps []
structure StaR (P : Program) (w : World) (K : Frag) (mg : Str → Option Value) (base : Heap) (k : Nat) (x : Str) (c : Nat) (name : Str) (κ : Ctx) (m : Mm) : Prop where
  ex : ∃ (p g : Addr) (mc : Value) (fd : FuncData) (ps : List Str), ClX.CRead K (κ.C c) mc ∧ CSta K (κ.C c) mc name p g ∧ FnOk P w K mg base (L2.CX P w) k g fd ps (spR κ m) ∧ mg x = some (.ref (κ.C c)) ∧ Binds K fd ps []
structure ItrR (P : Program) (w : World) (K : Frag) (mg : Str → Option Value) (base : Heap) (k c : Nat) (fld : Str) (κ : Ctx) : Prop where
  ex : ∃ f, ItrC P w K mg base (κ.C c) f k fld
section
variable {P : Program} {w : World} {K : Frag} {mg : Str → Option Value} {base : Heap}
theorem OwnR.ref {k c : Nat} {name : Str} {κ : Ctx} {m m' : Mm} (cc : OwnR P w K mg base k c name κ m) (h : Refines κ m' m) : OwnR P w K mg base k c name κ m' := by
  obtain ⟨f, fd, ps, h0, h1, h2⟩ := cc.ex
  exact ⟨f, fd, ps, h0, h1.imp (spR_ref h), h2⟩
theorem StaR.ref {k c : Nat} {x name : Str} {κ : Ctx} {m m' : Mm} (cc : StaR P w K mg base k x c name κ m) (h : Refines κ m' m) : StaR P w K mg base k x c name κ m' := by
  obtain ⟨p, g, mc, fd, ps, h0, h0', h1, h2⟩ := cc.ex
  exact ⟨p, g, mc, fd, ps, h0, h0', h1.imp (spR_ref h), h2⟩
end
section
variable {X : Cx} {κ : Ctx} {W : WX}
theorem or_own {op : Operator} {k c j : Nat} {name : Str} {m : Mm} (cc : OwnR X.prog X.w X.K X.mg X.base k c name κ m) (hr : Room j X.A) (hk : k ≤ j := by decide) (hn : name = PySem.dunder op.info.2 := by rfl) : OpR X (binaryOp op) (rOwnB (κ.C c) (spR κ m)) := by
  obtain ⟨f, fd, ps, h0, h1, h2⟩ := cc.ex
  exact op_own (hn ▸ h0) (h1.mono hk) hr h2
theorem or_ownIn {k c j : Nat} {m : Mm} (cc : OwnR X.prog X.w X.K X.mg X.base k c "__contains__" κ m) (hr : Room j X.A) (hk : k ≤ j := by decide) : OpR X (compareOp .In) (rOwnI (κ.C c) (spR κ m)) := by
  obtain ⟨f, fd, ps, h0, h1, h2⟩ := cc.ex
  exact op_ownIn h0.at_ h0.fn (h1.mono hk) hr h2
theorem re_s0 {x m : Str} {px apos pos : Pos} {c k j : Nat} {mm : Mm} {pl : Sem Bool} (cc : StaR X.prog X.w X.K X.mg X.base k x c m κ mm) (hr : Room j X.A) (hk : k ≤ j := by decide) (hg : Gl X x := by rfl) (hdb : (x == ("__debug__" : Str)) = false := by decide)
    (ht : eval (.Call (.Attribute (.Name x px) m apos) [] [] pos) X.env = (do
      let ov ← eval (.Name x px) X.env
      standAt apos.atName
      let (f, first) ← holding [ov] (getMethod ov m pl)
      callWith pos f first (backTo pos (starEach [] X.env)) (backToKw pos (keywordEach [] X.env))) := by rfl) :
    PE X (.Call (.Attribute (.Name x px) m apos) [] [] pos) (RE κ W (call0 mm [])) := by
  obtain ⟨p, g, mc, fd, ps, h0, h1, h2, h3, h4⟩ := cc.ex
  exact re_sta0 (dvs := []) (ds := []) h0 h1 (h2.mono hk) hr h3 h4 .nil (fun _ _ => RelUs.nil) hg hdb ht
theorem ri_o {tg e : Expr} {f : Ev} {c k j : Nat} {fld : Str} (hK : κ.K = X.K) (cc : ItrR X.prog X.w X.K X.mg X.base k c fld κ) (hr : Room j X.A) (h : PE X e (RE κ W f)) (hk : k ≤ j := by decide) : PI X tg e (RI κ W (itO c fld f)) := by
  obtain ⟨f0, h0⟩ := cc.ex
  exact ri_own hK (hr.mono hk) h0 h
theorem re_lo {p pos : Pos} {e : Expr} {a : Ea} {c k j : Nat} {fld : Str} (hK : X.K = κ.K) (hcal : X.calm = true) (cc : ItrR X.prog X.w X.K X.mg X.base k c fld κ) (hr : Room j X.A) (hm : X.mg "list" = none) (ha : PA X [e] (RA κ W a)) (hk : k + 2 ≤ j := by decide) (hg : Gl X "list" := by rfl) (he : starEach [e] X.env = (false, eval e X.env) :: starEach [] X.env := by rfl) : PE X (.Call (.Name "list" p) [e] [] pos) (RE κ W (bE (listO c fld) a)) := by
  obtain ⟨f0, h0⟩ := cc.ex
  exact re_listO hK hcal (hr.mono hk) h0 hm ha hg he
end
end R
set_option Elab.async false
set_option linter.all false
set_option maxRecDepth 100000
set_option maxHeartbeats 1000000
namespace R
open PySem PySem.Spec L2
open PyProof.Rows hiding St
open PySem.W (Frag)
/-- the only free name is __class__ -/
def onlyF : List (Str × NameKind) → Bool
  | [] => true
  | (x, k) :: r => (decide (x = ("__class__" : Str)) || decide (k ≠ .free)) && onlyF r
theorem only_free {y : Str} (hy : y ≠ ("__class__" : Str)) : ∀ {l : List (Str × NameKind)}, onlyF l = true → l.lookup y ≠ some .free
  | [], _, h => by cases h
  | (x, k) :: r, h, e => by
    unfold onlyF at h
    obtain ⟨h1, h2⟩ := bb h
    rw [List.lookup_cons] at e
    cases hb : y == x with
    | true =>
      rw [hb] at e
      have e1 : k = .free := Option.some.inj e
      have e2 : y = x := beq_iff_eq.mp hb
      subst e2 e1
      simp [hy] at h1
    | false =>
      rw [hb] at e
      exact only_free hy h2 e
theorem scs_only {sc : Scope} (h : onlyF sc.names = true) : ∀ x, sc.names.lookup x = some .free → x = "__class__" := fun x e => Classical.byContradiction fun hx => only_free hx h e
/-- how the arguments of such an __init__ bind -/
theorem sup_binds {P : Program} {K : Frag} {mg : Str → Option Value} {x qual : Str} {st : Stmt} {C f : Addr} {fd : FuncData} {ps : List Str} (T : XTxt P K mg x qual st C f fd)
    (h : ∀ (kV doc pm : Value) (an : Option Addr) (cda ct : Value) (cc : Addr) (us : List Value), us.length = ps.length → bindArgs (PySem.W.ksFn "__init__" qual (defArgs st) (defBody st) (defScope st) .none kV doc pm an cda ct cc) ⟨us, []⟩ = pure (ps.zip us)) : Binds K fd ps [] := by
  obtain ⟨oc, od, kV, doc, pm, an, cda, cc, ct, osl, rfl, lk, _⟩ := T.fn
  exact .all (h kV doc pm an (.ref cda) ct cc)
end R
set_option Elab.async false
set_option linter.all false
set_option maxRecDepth 100000
set_option maxHeartbeats 1000000
namespace R
open PySem PySem.Spec L2
open PyProof.Rows hiding St
open PySem.W (Frag)
/-! ### what names only the first n cells -/
mutual
def clU (n : Nat) : U → Bool
  | .ref k => decide (k < n)
  | .tup us => clUs n us
  | .lit us => clUs n us
  | .wtu us => clUs n us
  | _ => true
def clUs (n : Nat) : List U → Bool
  | [] => true
  | u :: us => clU n u && clUs n us
end
def clC (n : Nat) : Cell → Bool
  | .lst us => clUs n us
  | .ins _ fs => clUs n (fs.map (·.2))
  | .dct kvs => clUs n (kvs.map (·.2))
  | .exv _ fs => clUs n (fs.map (·.2))
section
variable {K : Frag} {θ θ' : List Addr} {H : Hp} {n : Nat}
mutual
theorem clU_of : ∀ {u : U} {v : V}, RelU K θ H u v → clU θ.length u = true
  | .non, _, _ => rfl
  | .bl _, _, _ => rfl
  | .int _, _, _ => rfl
  | .str _, _, _ => rfl
  | .tup us, v, h => by
    unfold RelU at h
    obtain ⟨a, vs, e, h1, h2⟩ := h
    unfold clU
    exact clUs_of h2
  | .lit us, v, h => by
    unfold RelU at h
    obtain ⟨a, vs, e, h1, h2⟩ := h
    unfold clU
    exact clUs_of h2
  | .wtu us, v, h => by
    unfold RelU at h
    obtain ⟨a, vs, e, h1, h2⟩ := h
    unfold clU
    exact clUs_of h2
  | .ref k, v, h => by
    unfold RelU at h
    obtain ⟨a, e, h1⟩ := h
    unfold clU
    exact decide_eq_true (List.getElem?_eq_some_iff.mp h1).1
theorem clUs_of : ∀ {us : List U} {vs : List V}, RelUs K θ H us vs → clUs θ.length us = true
  | [], _, _ => rfl
  | u :: us, v, h => by
    unfold RelUs at h
    obtain ⟨w, ws, e, h1, h2⟩ := h
    unfold clUs
    rw [clU_of h1, clUs_of h2]
    rfl
end
mutual
theorem RelU.cut (ht : ∀ (k : Nat) (a : Addr), k < n → θ[k]? = some a → θ'[k]? = some a) : ∀ {u : U} {v : V}, clU n u = true → RelU K θ H u v → RelU K θ' H u v
  | .non, v, _, h => by unfold RelU at *; exact h
  | .bl b, v, _, h => by unfold RelU at *; exact h
  | .int b, v, _, h => by unfold RelU at *; exact h
  | .str b, v, _, h => by unfold RelU at *; exact h
  | .tup us, v, c, h => by
    unfold RelU at *
    obtain ⟨a, vs, e, h1, h2⟩ := h
    unfold clU at c
    exact ⟨a, vs, e, h1, RelUs.cut ht c h2⟩
  | .lit us, v, c, h => by
    unfold RelU at *
    obtain ⟨a, vs, e, h1, h2⟩ := h
    unfold clU at c
    exact ⟨a, vs, e, h1, RelUs.cut ht c h2⟩
  | .wtu us, v, c, h => by
    unfold RelU at *
    obtain ⟨a, vs, e, h1, h2⟩ := h
    unfold clU at c
    exact ⟨a, vs, e, h1, RelUs.cut ht c h2⟩
  | .ref k, v, c, h => by
    unfold RelU at *
    obtain ⟨a, e, h1⟩ := h
    unfold clU at c
    exact ⟨a, e, ht _ _ (of_decide_eq_true c) h1⟩
theorem RelUs.cut (ht : ∀ (k : Nat) (a : Addr), k < n → θ[k]? = some a → θ'[k]? = some a) : ∀ {us : List U} {vs : List V}, clUs n us = true → RelUs K θ H us vs → RelUs K θ' H us vs
  | [], v, _, h => by unfold RelUs at *; exact h
  | u :: us, v, c, h => by
    unfold RelUs at *
    obtain ⟨w, ws, e, h1, h2⟩ := h
    unfold clUs at c
    obtain ⟨c1, c2⟩ := bb c
    exact ⟨w, ws, e, RelU.cut ht c1 h1, RelUs.cut ht c2 h2⟩
end
end
def Closed (g : Gs) : Prop := ∀ c ∈ g, clC g.length c = true
section
variable {κ : Ctx} {θ θ' : List Addr} {g : Gs} {H : Hp}
theorem CellOk.cut {n : Nat} {a : Addr} {c : Cell} (hs : ∀ dx gs, H dx = some (exd dx gs) → dx ∉ θ → dx ∉ θ') (ht : ∀ (k : Nat) (b : Addr), k < n → θ[k]? = some b → θ'[k]? = some b) (hc : clC n c = true) (h : CellOk κ θ H a c) : CellOk κ θ' H a c := by
  cases c with
  | lst us => obtain ⟨vs, e, r⟩ := h; exact ⟨vs, e, r.cut ht hc⟩
  | ins c fs => obtain ⟨dx, gs, e, r⟩ := h; exact ⟨dx, gs, e, r.1, r.2.cut ht hc⟩
  | dct kvs => obtain ⟨gs, e, r⟩ := h; exact ⟨gs, e, r.1, r.2.cut ht hc⟩
  | exv c fs => obtain ⟨dx, gs, e, e2, n, r⟩ := h; exact ⟨dx, gs, e, e2, ⟨hs _ _ e2 n.1, n.2⟩, r.1, r.2.cut ht hc⟩
theorem CellOk.cl {a : Addr} {c : Cell} (h : CellOk κ θ H a c) : clC θ.length c = true := by
  cases c with
  | lst us => obtain ⟨vs, e, r⟩ := h; exact clUs_of r
  | ins c fs => obtain ⟨dx, gs, e, r⟩ := h; exact clUs_of r.2
  | dct kvs => obtain ⟨gs, e, r⟩ := h; exact clUs_of r.2
  | exv c fs => obtain ⟨dx, gs, e, e2, n, r⟩ := h; exact clUs_of r.2
theorem Sim.closed (S : Sim κ θ g H) : Closed g := fun c hc => by
  obtain ⟨i, hi, e⟩ := List.getElem_of_mem hc
  have hθ : i < θ.length := by rw [S.len]; exact hi
  have q := (S.ok i c θ[i] (by rw [← e]; exact List.getElem?_eq_getElem hi) (List.getElem?_eq_getElem hθ)).cl
  rw [S.len] at q
  exact q
theorem Sim.cut {J : Gs} (S : Sim κ θ (g ++ J) H) (hc : Closed g) : Sim κ (θ.take g.length) g H := by
  have hl : g.length ≤ θ.length := by rw [S.len, List.length_append]; omega
  refine ⟨by rw [List.length_take]; omega, S.nd.sublist (List.take_sublist _ _), fun n c a h1 h2 => ?_⟩
  have hn : n < g.length := (List.getElem?_eq_some_iff.mp h1).1
  have q := S.ok n c a (by rw [List.getElem?_append_left hn]; exact h1) (by rw [List.getElem?_take, if_pos hn] at h2; exact h2)
  refine q.cut (n := g.length) (fun _ _ _ n z => n (List.mem_of_mem_take z)) (fun k b hk e => ?_) (hc c (List.mem_of_getElem? h1))
  rw [List.getElem?_take, if_pos hk]
  exact e
theorem Le.cut {H' : Hp} {n : Nat} (l : Le θ H θ' H') (hn : θ.length ≤ n) : Le θ H (θ'.take n) H' := by
  obtain ⟨more, rfl, hm, hf⟩ := l
  refine ⟨more.take (n - θ.length), by rw [List.take_append, List.take_of_length_le hn], fun p hp => hm p (List.mem_of_mem_take hp), hf⟩
/-! ### a run that leaves other cells behind -/
inductive Drops (g : Gs) : Res U → Res U → Prop where
  | same (r : Res U) : Drops g r r
  | junk {u : U} {g1 : Gs} (J : Gs) (h1 : g.length ≤ g1.length) (h2 : clU g1.length u = true) (h3 : Closed g1) : Drops g (.ok u g1) (.ok u (g1 ++ J))
  | new {k : Nat} {J : Gs} {c : Cell} (h1 : g.length ≤ k) (h2 : (g ++ J)[k]? = some c) (h3 : clC g.length c = true) (h0 : Closed g) : Drops g (.ok (.ref g.length) (g ++ [c])) (.ok (.ref k) (g ++ J))
  | exc {c : Nat} {fs : List (Str × U)} {g1 : Gs} (J : Gs) (h1 : g.length ≤ g1.length) (h2 : clUs g1.length (fs.map (·.2)) = true) (h3 : Closed g1) : Drops g (.exc c fs g1) (.exc c fs (g1 ++ J))
theorem Drops.post {p m : Res U} {Q : VK} {Wx : Value → Option Addr → Hp → Prop} (S : Sim κ θ g H) (d : Drops g p m) (h : p.post κ (RlU κ) θ H Q Wx) : m.post κ (RlU κ) θ H Q Wx := by
  cases d with
  | same => exact h
  | @junk u g1 J h1 h2 h3 =>
    intro θ' H' v l s r
    have hl : θ.length ≤ g1.length := by rw [S.len]; exact h1
    refine h (θ'.take g1.length) H' v (l.cut hl) (s.cut h3) (RelU.cut (n := g1.length) (fun k a hk e => ?_) h2 r)
    rw [List.getElem?_take, if_pos hk]
    exact e
  | @new k J c h1 h2 h3 h0 =>
    intro θ' H' v l s r
    have r' : RelU κ.K θ' H' (.ref k) v := r
    unfold RelU at r'
    obtain ⟨a, rfl, ha⟩ := r'
    obtain ⟨more, e, hm, hf⟩ := id l
    have hlt : θ.length ≤ g.length := by rw [S.len]; exact Nat.le_refl _
    have S1 : Sim κ (θ'.take g.length) g H' := Sim.cut s h0
    have eθ : θ'.take g.length = θ := by rw [e, ← S.len, List.take_left]
    rw [eθ] at S1
    have hk : θ.length ≤ k := by rw [S.len]; exact h1
    have am : a ∈ more := by
      rw [e, List.getElem?_append_right hk] at ha
      exact List.mem_of_getElem? ha
    obtain ⟨z1, z2⟩ := hm a am
    have hc := s.ok k c a h2 ha
    have out1 : ∀ dx gs, H' dx = some (exd dx gs) → dx ≠ a := fun dx gs e2 z => by
      subst z
      obtain ⟨o, eo, mo⟩ := hc.mu
      rw [e2] at eo
      cases eo
      exact mo.exd
    have out2 : ∀ dx gs, H' dx = some (exd dx gs) → dx ∉ θ := fun dx gs e2 z => by
      obtain ⟨o, eo, mo⟩ := S1.mu z
      rw [e2] at eo
      cases eo
      exact mo.exd
    refine h (θ ++ [a]) H' (.ref a) ⟨[a], rfl, fun p hp => ?_, hf⟩ ⟨by simp [S.len], ?_, fun i c' b hi hb => ?_⟩ ?_
    · have ep : p = a := by simpa using hp
      subst ep
      exact ⟨z1, z2⟩
    · rw [List.nodup_append]
      refine ⟨S.nd, by simp, fun x hx y hy => ?_⟩
      have ey : y = a := by simpa using hy
      subst ey
      exact fun q => z1 (q ▸ hx)
    · by_cases hi2 : i < g.length
      · rw [List.getElem?_append_left hi2] at hi
        rw [List.getElem?_append_left (by rw [S.len]; exact hi2)] at hb
        refine (S1.ok i c' b hi hb).cut (n := g.length) (fun dx gs e2 n z => (List.mem_append.mp z).elim n fun z => out1 dx gs e2 (by simpa using z)) (fun k2 b2 hk2 e2 => ?_) (h0 c' (List.mem_of_getElem? hi))
        rw [List.getElem?_append_left (by rw [S.len]; exact hk2)]
        exact e2
      · have ei : i = g.length := by
          have := (List.getElem?_eq_some_iff.mp hi).1
          rw [List.length_append, List.length_singleton] at this
          omega
        subst ei
        rw [List.getElem?_append_right (Nat.le_refl _)] at hi
        rw [← S.len, List.getElem?_append_right (Nat.le_refl _)] at hb
        simp at hi hb
        subst hi hb
        refine hc.cut (n := g.length) (fun dx gs e2 n z => (List.mem_append.mp z).elim (fun z => out2 dx gs e2 z) fun z => out1 dx gs e2 (by simpa using z)) (fun k2 b2 hk2 e2 => ?_) h3
        rw [e, List.getElem?_append_left (by rw [S.len]; exact hk2)] at e2
        rw [List.getElem?_append_left (by rw [S.len]; exact hk2)]
        exact e2
    · exact relRef (by rw [← S.len, List.getElem?_append_right (Nat.le_refl _)]; simp)
  | @exc c fs g1 J h1 h2 h3 =>
    intro θ' H' d gs l s hd rf
    have hl : θ.length ≤ g1.length := by rw [S.len]; exact h1
    refine h (θ'.take g1.length) H' d gs (l.cut hl) (s.cut h3) hd ⟨rf.1, RelUs.cut (n := g1.length) (fun k a hk e => ?_) h2 rf.2⟩
    rw [List.getElem?_take, if_pos hk]
    exact e
theorem Refines.of_drops {p m : Mm} (h : ∀ us g, Closed g → clUs g.length us = true → p us g ≠ .bad → Drops g (p us g) (m us g)) : Refines κ p m := fun θ g H us vs Q Wx S r q => by
  have hc : clUs g.length us = true := by
    have z := clUs_of r
    rw [S.len] at z
    exact z
  exact (h us g S.closed hc (post_bad q)).post S q
/-! ### a run of scalars on no cells at all -/
/-- on the empty heap; what comes out is taken over -/
def isoM (m : Mm) : Mm := fun us g => if clUs 0 us = true then (match m us [] with
  | .ok (.ref k) J => (match J[k]? with
    | some (.lst xs) => if clUs 0 xs = true then .ok (.ref g.length) (g ++ [.lst xs]) else .bad
    | _ => .bad)
  | .ok u _ => if clU 0 u = true then .ok u g else .bad
  | .exc c fs _ => if clUs 0 (fs.map (·.2)) = true then .exc c fs g else .bad
  | .bad => .bad) else .bad
theorem rel0 {u : U} {v : V} {θ2 : List Addr} (hc : clU 0 u = true) (h : RelU κ.K θ H u v) : RelU κ.K θ2 H u v := h.cut (n := 0) (fun k a hk => absurd hk (Nat.not_lt_zero _)) hc
theorem rels0 {u : List U} {v : List V} {θ2 : List Addr} (hc : clUs 0 u = true) (h : RelUs κ.K θ H u v) : RelUs κ.K θ2 H u v := h.cut (n := 0) (fun k a hk => absurd hk (Nat.not_lt_zero _)) hc
theorem Sim.empty : Sim κ [] [] H := ⟨rfl, List.nodup_nil, fun n c a h => by simp at h⟩
/-- the cells of before, the heap having grown -/
theorem Sim.grown {H' : Hp} (S : Sim κ θ g H) (l : ∀ a o, H a = some o → H' a = some o) : Sim κ θ g H' ∧ Le θ H θ H' :=
  ⟨⟨S.len, S.nd, fun n c a h1 h2 => by
    have q := S.ok n c a h1 h2
    have k : Keep H H' := ⟨fun _ _ h => l _ _ h, fun _ _ _ h => l _ _ h⟩
    cases c with
    | lst us => obtain ⟨vs, e, r⟩ := q; exact ⟨vs, l _ _ e, r.keep k fun _ _ h => h⟩
    | ins c fs => obtain ⟨dx, gs, e, r⟩ := q; exact ⟨dx, gs, l _ _ e, r.1, r.2.keep k fun _ _ h => h⟩
    | dct kvs => obtain ⟨gs, e, r⟩ := q; exact ⟨gs, l _ _ e, r.1, r.2.keep k fun _ _ h => h⟩
    | exv c fs => obtain ⟨dx, gs, e, e2, n, r⟩ := q; exact ⟨dx, gs, l _ _ e, l _ _ e2, n, r.1, r.2.keep k fun _ _ h => h⟩⟩, [], by simp, (fun q hq => nomatch hq), fun a o _ h => l a o h⟩
theorem spR_iso {m : Mm} : ∀ vs H Q E, spR κ (isoM m) vs H Q E → spR κ m vs H Q E := fun vs H Q E ⟨θ, us, g, S, r, p⟩ => by
  unfold isoM at p
  split at p
  · rename_i hus
    refine ⟨[], us, [], Sim.empty, rels0 hus r, ?_⟩
    cases e : m us [] with
    | bad => rw [e] at p; exact p.elim
    | exc c fs J =>
      rw [e] at p
      dsimp only at p
      split at p
      · rename_i hf
        intro θ' H' d gs l s hd rf
        obtain ⟨S2, l2⟩ := S.grown (H' := H') fun a o h => l.frame (by simp) h
        exact p θ H' d gs l2 S2 hd ⟨rf.1, rels0 hf rf.2⟩
      · exact p.elim
    | ok u J =>
      rw [e] at p
      have grow : ∀ {θ' : List Addr} {H' : Hp}, Le [] H θ' H' → ∀ a o, H a = some o → H' a = some o := fun l a o h => l.frame (by simp) h
      have plain : (∀ k, u ≠ .ref k) → (if clU 0 u = true then (Res.ok u g : Res U) else .bad).post κ (RlU κ) θ H Q E → (Res.ok u J : Res U).post κ (RlU κ) [] H Q E := fun _ p => by
        split at p
        · rename_i hc
          intro θ' H' v l s rv
          obtain ⟨S2, l2⟩ := S.grown (grow l)
          exact p θ H' v l2 S2 (rel0 hc rv)
        · exact p.elim
      cases u with
      | ref k =>
        dsimp only at p
        split at p
        · rename_i xs hx
          split at p
          · rename_i hc
            intro θ' H' v l s rv
            obtain ⟨S2, l2⟩ := S.grown (grow l)
            have rv' : RelU κ.K θ' H' (.ref k) v := rv
            unfold RelU at rv'
            obtain ⟨a, rfl, ha⟩ := rv'
            obtain ⟨more, em, hm, hf⟩ := id l
            rw [List.nil_append] at em
            subst em
            obtain ⟨_, hn⟩ := hm a (List.mem_of_getElem? ha)
            obtain ⟨ws, hw, rw'⟩ := s.ok k _ a hx ha
            have na : a ∉ θ := S.none_out hn
            refine p (θ ++ [a]) H' (.ref a) ⟨[a], rfl, fun q hq => ?_, fun a o ha h => l2.frame ha h⟩ ⟨by simp [S.len], ?_, fun i c' b hi hb => ?_⟩ ?_
            · have eq : q = a := by simpa using hq
              subst eq
              exact ⟨na, hn⟩
            · rw [List.nodup_append]
              refine ⟨S.nd, by simp, fun x hx y hy => ?_⟩
              have ey : y = a := by simpa using hy
              subst ey
              exact fun q => na (q ▸ hx)
            · by_cases hi2 : i < g.length
              · rw [List.getElem?_append_left hi2] at hi
                rw [List.getElem?_append_left (by rw [S.len]; exact hi2)] at hb
                refine (S2.ok i c' b hi hb).cut (n := g.length) (fun dx gs e2 n z => (List.mem_append.mp z).elim n fun z => by
                  have q : dx = a := by simpa using z
                  subst q
                  rw [hw] at e2
                  cases e2) (fun k2 b2 hk2 e2 => ?_) (S.closed c' (List.mem_of_getElem? hi))
                rw [List.getElem?_append_left (by rw [S.len]; exact hk2)]
                exact e2
              · have ei : i = g.length := by
                  have := (List.getElem?_eq_some_iff.mp hi).1
                  rw [List.length_append, List.length_singleton] at this
                  omega
                subst ei
                rw [List.getElem?_append_right (Nat.le_refl _)] at hi
                rw [← S.len, List.getElem?_append_right (Nat.le_refl _)] at hb
                simp at hi hb
                subst hi hb
                exact ⟨ws, hw, rels0 hc rw'⟩
            · exact relRef (by rw [← S.len, List.getElem?_append_right (Nat.le_refl _)]; simp)
          · exact p.elim
        · exact p.elim
      | non => exact plain (fun _ h => nomatch h) p
      | bl b => exact plain (fun _ h => nomatch h) p
      | int b => exact plain (fun _ h => nomatch h) p
      | str b => exact plain (fun _ h => nomatch h) p
      | tup b => exact plain (fun _ h => nomatch h) p
      | lit b => exact plain (fun _ h => nomatch h) p
      | wtu b => exact plain (fun _ h => nomatch h) p
  · exact p.elim
section
variable {P : Program} {w : World} {K : Frag} {mg : Str → Option Value} {base : Heap}
theorem CalR.iso {k : Nat} {x : Str} {κ : Ctx} {m : Mm} {d : List U} (c : CalR P w K mg base k x κ m d) : CalR P w K mg base k x κ (isoM m) d := by
  obtain ⟨f, fd, ps, ds, dvs, h1, h2⟩ := c.ex
  exact ⟨f, fd, ps, ds, dvs, h1.imp spR_iso, h2⟩
end
end
/-! ### loops, plainly -/
theorem each_inv {ck : Gs → Bool} {step : U → Sx} : ∀ (xs : List U) (I : List U → Us → Gs → Prop) {us : Us} {g : Gs}, I xs us g → (∀ rest us g, I rest us g → ck g = true) →
    (∀ x rest us g, I (x :: rest) us g → ∃ us' g', (step x us g = .nx us' g' ∨ step x us g = .ct us' g') ∧ I rest us' g') → ∃ us' g', each ck xs step us g = .nx us' g' ∧ I [] us' g'
  | [], I, us, g, h0, hc, _ => ⟨us, g, by unfold each; rw [if_pos (hc _ _ _ h0)], h0⟩
  | x :: xs, I, us, g, h0, hc, hs => by
    obtain ⟨us', g', h1, h2⟩ := hs x xs us g h0
    obtain ⟨us2, g2, h3, h4⟩ := each_inv xs I h2 hc hs
    refine ⟨us2, g2, ?_, h4⟩
    unfold each
    rw [if_pos (hc _ _ _ h0)]
    rcases h1 with h1 | h1
    · rw [h1]; exact h3
    · rw [h1]; exact h3
end R
set_option Elab.async false
set_option linter.all false
set_option maxRecDepth 100000
set_option maxHeartbeats 1000000
namespace R
open PySem PySem.Spec L2
open PyProof.Rows hiding St
/-! ### evaluation by simp -/
section
variable {us : Us} {g : Gs}
@[simp] theorem seq_ev (f k : Sx) : seq f k us g = (f us g).seq k := rfl
@[simp] theorem skip_ev : skip us g = .nx us g := rfl
@[simp] theorem brk_ev : brk us g = .bk us g := rfl
@[simp] theorem cnt_ev : cnt us g = .ct us g := rfl
@[simp] theorem retE_ev (f : Ev) : retE f us g = (f us g).thn us fun u g1 => .rt u g1 := rfl
@[simp] theorem retN_ev : retN us g = .rt .non g := rfl
@[simp] theorem dropE_ev (f : Ev) : dropE f us g = (f us g).thn us fun _ g1 => .nx us g1 := rfl
@[simp] theorem ifS_ev (c : Et) (f k : Sx) : ifS c f k us g = (c us g).thn us fun b g1 => if b = true then f us g1 else k us g1 := rfl
@[simp] theorem asg_ev (f : Ev) (i : Nat) : asg f (nameT i) us g = (f us g).thn us fun u g1 => .nx (us.set i (some u)) g1 := rfl
@[simp] theorem con_ev (u : U) : con u us g = .ok u g := rfl
@[simp] theorem op2_ev (o : O2) (a b : Ev) : op2 o a b us g = (a us g).bind fun x g1 => (b us g1).bind fun y g2 => o x y g2 := rfl
theorem tst_eq (f : Ev) : tst f us g = (f us g).bind fun u g1 => match u with
    | .bl b => .ok b g1
    | _ => .bad := rfl
@[simp] theorem tst_ok {f : Ev} {b : Bool} {g1 : Gs} (h : f us g = .ok (.bl b) g1) : tst f us g = .ok b g1 := by rw [tst_eq, h]; rfl
@[simp] theorem tst_exc {f : Ev} {c : Nat} {fs : List (Str × U)} {g1 : Gs} (h : f us g = .exc c fs g1) : tst f us g = .exc c fs g1 := by rw [tst_eq, h]; rfl
@[simp] theorem andT_ev (f h : Et) : andT f h us g = (f us g).bind fun b g1 => if b = true then h us g1 else .ok false g1 := rfl
@[simp] theorem orT_ev (f h : Et) : orT f h us g = (f us g).bind fun b g1 => if b = true then .ok true g1 else h us g1 := rfl
@[simp] theorem notT_ev (f : Et) : notT f us g = (f us g).bind fun b g1 => .ok (!b) g1 := rfl
@[simp] theorem andV_ev (f h : Ev) : andV f h us g = (tst f us g).bind fun b g1 => if b = true then h us g1 else .ok (.bl false) g1 := rfl
@[simp] theorem orV_ev (f h : Ev) : orV f h us g = (tst f us g).bind fun b g1 => if b = true then .ok (.bl true) g1 else h us g1 := rfl
@[simp] theorem notV_ev (f : Ev) : notV f us g = (tst f us g).bind fun b g1 => .ok (.bl (!b)) g1 := rfl
@[simp] theorem ifE_ev (c : Et) (f h : Ev) : ifE c f h us g = (c us g).bind fun b g1 => if b = true then f us g1 else h us g1 := rfl
@[simp] theorem aNil_ev : aNil us g = .ok [] g := rfl
@[simp] theorem aCons_ev (f : Ev) (h : Ea) : aCons f h us g = (f us g).bind fun u g1 => (h us g1).bind fun vs g2 => .ok (u :: vs) g2 := rfl
@[simp] theorem bE_ev (m : Mm) (a : Ea) : bE m a us g = (a us g).bind m := rfl
@[simp] theorem callE_ev (m : Mm) (d : List U) (a : Ea) : callE m d a us g = (a us g).bind fun xs g1 => m (xs ++ d) g1 := rfl
@[simp] theorem tupE_ev (a : Ea) : tupE a us g = (a us g).bind fun xs g1 => if xs.length ≤ 100000 then .ok (.tup xs) g1 else .bad := rfl
@[simp] theorem lstE_ev (a : Ea) : lstE a us g = (a us g).bind newL := rfl
@[simp] theorem itE_ev (f : Ev) : itE f us g = (f us g).bind itV := rfl
@[simp] theorem itRng1_ev (a : Ea) : itRng1 a us g = (a us g).bind rng1 := rfl
@[simp] theorem itRng2_ev (a : Ea) : itRng2 a us g = (a us g).bind rng2 := rfl
@[simp] theorem forE_ev (it : Ei) (t : Tg) (body : Sx) : forE it t body us g = (it us g).thn us fun p g1 => each p.2 p.1 (turn t body) us g1 := rfl
@[simp] theorem turn_ev (i : Nat) (body : Sx) (x : U) : turn (nameT i) body x us g = body (us.set i (some x)) g := rfl
@[simp] theorem fldE_ev (c : Nat) (f : Str) (fe : Ev) : fldE c f fe us g = (fe us g).bind fun x g1 => match insV c x g1 with
  | some fs => match fs.lookup f with
    | some u => .ok u g1
    | none => .bad
  | none => .bad := rfl
@[simp] theorem mE_ev (c : U → Gs → Bool) (m : M1) (f : Ev) (a : Ea) : mE c m f a us g = (f us g).bind fun x g1 => if c x g1 = true then (a us g1).bind fun xs g2 => m x xs g2 else .bad := rfl
@[simp] theorem mE0_ev (c : U → Gs → Bool) (m : M1) (f : Ev) : mE0 c m f us g = (f us g).bind fun x g1 => if c x g1 = true then m x [] g1 else .bad := rfl
@[simp] theorem isE_ev (n : String) (f : Ev) : isE n f us g = (f us g).bind fun u g1 => match tyU u g1 with
  | some t => .ok (.bl (subTy t n)) g1
  | none => .bad := rfl
@[simp] theorem slE_ev (f : Ev) (lo hi : Eo) : slE f lo hi us g = (f us g).bind fun x g1 => (lo us g1).bind fun l g2 => (hi us g2).bind fun h g3 => slU x l h g3 := rfl
@[simp] theorem noP_ev : noP us g = .ok none g := rfl
@[simp] theorem atP_ev (f : Ev) : atP f us g = (f us g).bind fun u g1 => match u with
  | .int i => .ok (some i) g1
  | _ => .bad := rfl
@[simp] theorem revE_ev (f : Ev) : revE f us g = (f us g).bind fun u g1 => match lstV u g1 with
  | some xs => newL xs.reverse g1
  | none => .bad := rfl
@[simp] theorem negE_ev (f : Ev) : negE f us g = (f us g).bind fun u g1 => match u with
  | .int i => .ok (.int (-i)) g1
  | _ => .bad := rfl
@[simp] theorem chE_ev (o o' : O2) (fa fb fc : Ev) : chE o o' fa fb fc us g = (fa us g).bind fun x g1 => (fb us g1).bind fun y g2 => (o x y g2).bind fun z g3 => match z with
  | .bl k => if k = true then (fc us g3).bind fun w g4 => o' y w g4 else .ok (.bl false) g3
  | _ => .bad := rfl
@[simp] theorem mtE_ev (c : Nat) (name : Str) (m : Mm) (d : List U) (f : Ev) (a : Ea) : mtE c name m d f a us g = (f us g).bind fun x g1 => match insV c x g1 with
  | some fs => if fs.lookup name = none then (a us g1).bind fun xs g2 => noX (m (x :: (xs ++ d)) g2) else .bad
  | none => .bad := rfl
@[simp] theorem mkE_ev (c : Nat) (m : Mm) (d : List U) (a : Ea) : mkE c m d a us g = (a us g).bind fun xs g1 => newI c m (xs ++ d) g1 := rfl
@[simp] theorem mk0_ev (c : Nat) (m : Mm) (d : List U) : mk0 c m d us g = noX (newI c m d g) := rfl
@[simp] theorem call0_ev (m : Mm) (d : List U) : call0 m d us g = match m d g with
  | .exc _ _ _ => .bad
  | r => r := rfl
@[simp] theorem noX_ok {α : Type} (a : α) (g : Gs) : noX (.ok a g) = .ok a g := rfl
@[simp] theorem raiseE_ev (c : Nat) (names : List Str) (a : Ea) : raiseE c names a us g = (a us g).thn us fun xs g1 => if xs.length = names.length ∧ xs.all fmtU = true then .exc c ((names.zip xs).reverse) us g1 else .bad := rfl
@[simp] theorem setA_ev (c : Nat) (f : Str) (fo fv : Ev) : setA c f fo fv us g = (fv us g).thn us fun y g1 => (fo us g1).thn us fun x g2 => match insV c x g2, x with
  | some fs, .ref n => if fs.length < 900 then .nx us (g2.set n (.ins c (putU f y fs))) else .bad
  | _, _ => .bad := rfl
@[simp] theorem lcE_ev (own : List Nat) (it : Ei) (t : Tg) (c : Et) (f : Ev) : lcE own it t c f us g = (it us g).bind fun p g1 => if p.1.length ≤ 100000 then (lcGo p.2 t c f p.1 (wipeU us own) g1).bind newL else .bad := rfl
@[simp] theorem yes_ev : yes us g = .ok true g := rfl
end
@[simp] theorem var_0 {us : Us} {g : Gs} {u : U} : var 0 (some u :: us) g = .ok u g := rfl
@[simp] theorem var_s {a : Option U} {us : Us} {g : Gs} {i : Nat} : var (i + 1) (a :: us) g = var i us g := rfl
@[simp] theorem SR.thn_nx (us : Us) (g : Gs) : True := trivial
/-! ### list cells -/
@[simp] theorem lstAt_new (g : Gs) (xs : List U) : lstAt (g ++ [.lst xs]) g.length = some xs := by
  unfold lstAt
  rw [List.getElem?_append_right (Nat.le_refl _)]
  simp
theorem lstAt_lt {g : Gs} {n : Nat} {xs : List U} (h : lstAt g n = some xs) : n < g.length := by
  unfold lstAt at h
  cases e : g[n]? with
  | none => rw [e] at h; cases h
  | some c => exact (List.getElem?_eq_some_iff.mp e).1
theorem lstAt_app {g J : Gs} {n : Nat} {xs : List U} (h : lstAt g n = some xs) : lstAt (g ++ J) n = some xs := by
  unfold lstAt at *
  rw [List.getElem?_append_left (lstAt_lt (by unfold lstAt; exact h))]
  exact h
theorem lstAt_set_ne {g : Gs} {n k : Nat} {c : Cell} (h : k ≠ n) : lstAt (g.set k c) n = lstAt g n := by
  unfold lstAt
  rw [List.getElem?_set_ne h]
theorem lstAt_set_self {g : Gs} {n : Nat} {xs : List U} (h : n < g.length) : lstAt (g.set n (.lst xs)) n = some xs := by
  unfold lstAt
  rw [List.getElem?_set_self h]
theorem newL_ok {xs : List U} {g : Gs} (h : xs.length ≤ 100000) : newL xs g = .ok (.ref g.length) (g ++ [.lst xs]) := by
  unfold newL
  rw [if_pos h]
end R
set_option Elab.async false
set_option linter.all false
set_option maxRecDepth 100000
set_option maxHeartbeats 1000000
namespace R
open PySem PySem.Spec L2
open PyProof.Rows hiding St
open PySem.W (Frag)
/-! ### where a token is out -/
section
variable {α : Type} {M : Model} {A : Around} {E : Value → Shared → Prop} {s : Shared}
theorem upT {t : Sem α} {Q Q' : α → Shared → Prop} (h0 : 1 ≤ s.toks) (h : wpAny M A t Q E s) (hq : ∀ a s', 1 ≤ s'.toks → Q a s' → Q' a s') : wpAny M A t Q' E s :=
  wpAny_mono (PySem.wpAny_toks_of h0 h) (fun a s' z => hq a s' z.1 z.2) fun _ _ z => z.2
end
section
variable {X : Cx} {κ : Ctx} {W : WX}
theorem PST.imp' {st : Stmt} {t u : TS} (h : PST X st t) (hi : ∀ D σ H, u D σ H → t D σ H) : PST X st u := fun pins s σ H D h0 I q => h pins s σ H D h0 I (hi D σ H q)
theorem PSsT.imp' {st : List Stmt} {t u : TS} (h : PSsT X st t) (hi : ∀ D σ H, u D σ H → t D σ H) : PSsT X st u := fun pins s σ H D h0 I q => h pins s σ H D h0 I (hi D σ H q)
theorem PET.imp' {e : Expr} {t u : TE} (h : PET X e t) (hi : ∀ σ H Q, u σ H Q → t σ H Q) : PET X e u := fun pins s σ H Q h0 I q => h pins s σ H Q h0 I (hi σ H Q q)
/-- a loop whose body wants a token -/
theorem forT {tg iter : Expr} {body : List Stmt} {wi : TI} {gt : TG} {tb : TS} {pos : Pos} (own : PassesOwn (model X.prog X.w) X.A X.env X.xe) (calm : X.calm = true) (hit : PI X tg iter wi) (htg : PG X tg gt) (hbd : PSsT X body tb)
    (fold : ∀ x, foldedSetIterable iter X.env x = pure x := by intro _; rfl) : PST X (.For tg iter body [] pos) (tFor wi gt tb) := by
  intro pins s σ H D h0 I hq
  refine wpAny_For (upT h0 (hit.run pins s σ H _ I hq) fun v sa ha pa => upT ha pa fun itv sb hb pb => ?_) fold
  obtain ⟨J0, fps, tn, J, Hb, eq, Ib, T, stb, frb, W0, ⟨m, wm⟩, nextOne⟩ := pb
  subst eq
  refine codeAny_forLoop_any (fun n z => ∃ i τ G, 1 ≤ z.toks ∧ Inv X pins τ G z ∧ tn i z.heap ∧ (∀ b ∈ fps, G b = none) ∧ W0 i n τ G) ?_ m ⟨0, σ, Hb, hb, Ib, stb, fun b q => (frb b q).1, wm⟩
  rintro n z ⟨i, τ, G, hz, Iz, tz, fz, wz⟩
  have ok : ∀ {G' : Hp}, (∀ b ∈ fps, G' b = none) → ∀ b ∈ fps, FpOk X pins G' b := fun q b hb => ⟨q b hb, (frb b hb).2⟩
  rcases nextOne i n τ G wz with ⟨over, last⟩ | ⟨more, N, smaller, one⟩
  · refine wpAny_passesOwn own (thn (T.done X rfl rfl rfl calm i pins z τ G X.xe Iz (ok fz) tz over) fun r z1 q => ?_)
    obtain ⟨e1, I1⟩ := q
    subst e1
    exact wpAny_execs_nil ⟨τ, G, I1, last⟩
  · refine wpAny_passesOwn own (upT hz (T.item X rfl rfl rfl calm i pins z τ G X.xe Iz (ok fz) tz more) fun r z1 t1 q => ?_)
    obtain ⟨u, e1, q1⟩ := q
    subst e1
    refine wpAny_passesOwn own (upT t1 q1 fun _ z2 t2 q => ?_)
    obtain ⟨x, G2, I2, r2, y2, st2, fr2⟩ := q
    have I2' := I2.pinned (ok fr2) (T.obj _ _ st2)
    refine wpAny_passesOwn own (upT t2 (htg.run _ z2 τ G2 x u _ I2' r2 (one x G2 y2)) fun _ z3 t3 q => ?_)
    obtain ⟨τ3, G3, I3, q3⟩ := q
    refine wpAny_passesOwn own (upT t3 (hbd _ z3 τ3 G3 _ t3 I3 q3) fun fl z4 t4 q4 => ?_)
    have onward : ∀ {τ4 : L2.St} {G4 : Hp}, Inv X (pins ++ pinsAt fps z2.heap) τ4 G4 z4 → N τ4 G4 → ∃ k, k < n ∧ ∃ i τ G, 1 ≤ z4.toks ∧ Inv X pins τ G z4 ∧ tn i z4.heap ∧ (∀ b ∈ fps, G b = none) ∧ W0 i k τ G := fun {τ4 G4} I4 n4 => by
      obtain ⟨k, hk, w4⟩ := smaller τ4 G4 n4
      refine ⟨k, hk, i + 1, τ4, G4, t4, I4.unpinned, T.keep _ _ _ st2 fun b hb o e => ?_, fun b hb => ?_, w4⟩
      · exact (I4.pin (b, o) (List.mem_append_right _ (List.mem_append_right _ (mem_pinsAt hb e)))).1
      · obtain ⟨o, e, _⟩ := T.obj _ _ st2 b hb
        exact (I4.pin (b, o) (List.mem_append_right _ (List.mem_append_right _ (mem_pinsAt hb e)))).2.1
    cases fl with
    | next => exact q4.elim fun τ4 q => q.elim fun G4 q => onward q.1 q.2
    | cont => exact q4.elim fun τ4 q => q.elim fun G4 q => onward q.1 q.2
    | brk => exact q4.elim fun τ4 q => q.elim fun G4 q => ⟨τ4, G4, q.1.unpinned, q.2⟩
    | ret v => obtain ⟨x4, τ4, G4, I4, r4, q4⟩ := q4; exact ⟨x4, τ4, G4, I4.unpinned, r4, q4⟩
theorem rsT_for {iter tg : Expr} {body : List Stmt} {g : TG} {it : Ei} {t : Tg} {f : Sx} {pos : Pos} (hp : PassesOwn (model X.prog X.w) X.A X.env X.xe) (hc : X.calm = true) (hi : PI X tg iter (RI κ W it)) (hg : PG X tg g) (ht : TgOk κ t g) (hb : PSsT X body (RS κ W f))
    (hs : ∀ x, foldedSetIterable iter X.env x = pure x := by intro _; rfl) : PST X (.For tg iter body [] pos) (RS κ W (forE it t f)) :=
  PST.imp' (forT hp hc hi hg hb hs) fun D σ H h => ps_imp_for (iter := iter) (body := body) ht (fun _ _ _ q => q) h
theorem rsT_cons {st : Stmt} {rest : List Stmt} {f k : Sx} (h1 : PST X st (RS κ W f)) (h2 : PSsT X rest (RS κ W k)) : PSsT X (st :: rest) (RS κ W (seq f k)) := PSsT.imp' (psst_cons h1 h2) fun D σ H ⟨θ, us, g, S, R, p⟩ => ⟨θ, us, g, S, R, SR.cut p⟩
theorem rsT_one {st : Stmt} {f : Sx} (h1 : PST X st (RS κ W f)) : PSsT X [st] (RS κ W f) := CwR.psst_one h1
theorem rsT_nil : PSsT X [] (RS κ W skip) := PSsT.of rs_nil
theorem rsT_if {c : Expr} {a b : List Stmt} {pos : Pos} {tc : Et} {f k : Sx} (hc : PT X c (RT κ W tc)) (ha : PSsT X a (RS κ W f)) (hb : PSsT X b (RS κ W k)) : PST X (.If c a b pos) (RS κ W (ifS tc f k)) := PST.imp' (CwR.pst_if hc ha hb) fun D σ H ⟨θ, us, g, S, R, p⟩ =>
  RX.thn S R p fun u g1 θ1 H1 v l1 S1 R1 r p1 => by
    have e : u = v := r
    subst e
    cases u with
    | true => exact ⟨θ1, us, g1, S1, R1, p1⟩
    | false => exact ⟨θ1, us, g1, S1, R1, p1⟩
theorem setT {i : Nat} {x : Str} {e : Expr} {te : TE} {pos pos' : Pos} (nd : X.N.Nodup) (at_i : X.N[i]? = some x) (lo : Loc X.env.scope x) (he : PET X e te) (sw : swapsWith e (some (.Name x pos')) pos.line X.env = pure false := by rfl)
    (hf : X.fn x = true ∨ X.env.scope.names.lookup x = some .local := by first | exact .inl rfl | exact .inr rfl | assumption) : PST X (.Assign [.Name x pos'] e pos) (tAsg te (gName i)) := by
  intro pins s σ H D h0 I hq
  refine wpAny_Assign_Name (thn (he pins s σ H _ h0 I hq) fun v s1 q => ?_) sw
  obtain ⟨y, H1, I1, r1, q1⟩ := q
  exact store_ok I1 nd at_i lo r1 (fun s2 I2 => ⟨_, H1, I2, q1⟩) hf
theorem rsT_set {i : Nat} {x : Str} {e : Expr} {pos pos' : Pos} {f : Ev} (hN : X.N.Nodup) (hi : X.N[i]? = some x) (hx : Loc X.env.scope x) (he : PET X e (RE κ W f)) (hs : swapsWith e (some (.Name x pos')) pos.line X.env = pure false := by rfl)
    (hf : X.fn x = true ∨ X.env.scope.names.lookup x = some .local := by first | exact .inl rfl | exact .inr rfl | assumption) (hk : ∀ y, κ.ex = some y → y.i ≠ i := by intro _ q; exact nomatch q) : PST X (.Assign [.Name x pos'] e pos) (RS κ W (asg f (nameT i))) :=
  PST.imp' (setT hN hi hx he hs hf) (t_asg (tg_name hk))
/-! ### e.replace of written texts -/
def repE (y z : Str) (f : Ev) : Ev := fun us g => (f us g).bind fun u g1 => match u with
  | .str x => if x.length + (x.length + 1) * z.length ≤ 16777216 then .ok (.str (Txt.replace x y z)) g1 else .bad
  | _ => .bad
theorem reT_rep {o : Expr} {f : Ev} {y z : Str} {j k : Nat} {c0 c1 apos pos : Pos} (ho : PE X o (RE κ W f)) (hyz : (y == z) = false := by decide)
    (hst : starEach [.Constant (.str y) j c0, .Constant (.str z) k c1] X.env = [(false, eval (.Constant (.str y) j c0) X.env), (false, eval (.Constant (.str z) k c1) X.env)] := by rfl)
    (hbase : attributeBase o "replace" X.env (eval o X.env) = eval o X.env := by rfl) (hline : (apos.endLine == pos.line) = true := by rfl) :
    PET X (.Call (.Attribute o "replace" apos) [.Constant (.str y) j c0, .Constant (.str z) k c1] [] pos) (RE κ W (repE y z f)) := PET.imp' (CwR.pet_replC ho hyz hst hbase hline) fun σ H Q h => by
  obtain ⟨θ, us, g, S, R, p⟩ := h
  refine RX.bind S R p fun u g1 θ1 H1 v l1 S1 R1 rx p1 => ?_
  cases u with
  | str x =>
    dsimp only at p1
    split at p1
    · rename_i hl
      exact ⟨x, relStr' rx, hl, p1 θ1 H1 _ (Le.refl _ _) S1 relStr⟩
    · exact p1.elim
  | _ => exact p1.elim
end
section
variable {P : Program} {w : World} {K : Frag} {mg : Str → Option Value} {base : Heap}
/-- a def with at least one parameter: a token is out as its suite begins -/
theorem fdT_ok {κ : Ctx} {x qual : Str} {st : Stmt} {dvs : List V} {f : Addr} {fd : FuncData} {N ps : List Str} {j n k : Nat} {b : Sx} (F : FunD κ.K x qual (defArgs st) (defBody st) (defScope st) dvs [] f fd) (S : FnScope N ps (defScope st)) (hnc : ∀ y ∈ (defScope st).names, y.2 ≠ .cell) (h1 : 1 ≤ ps.length) (hx : κ.ex = none) (hn : ps.length = n) (hk : N.length = n + k)
    (body : ∀ (cdv : Value) (A : Around) (outer : List Env) (s : Shared) (H : Hp) (E : XK), Room j (cxOf (L2.CX P w) P w κ.K mg base N qual (defScope st) f cdv A outer s H E).A → PSsT (cxOf (L2.CX P w) P w κ.K mg base N qual (defScope st) f cdv A outer s H E) (defBody st) (RS κ (fun c d _ H => E c d H) b)) :
    FnOk P w κ.K mg base (L2.CX P w) (j + 1) f fd ps (spR κ (defM n k b)) := by
  obtain ⟨oc, od, dV, kV, doc, pm, an, cdv, ct, osl, rfl, lk, hcd, _, _⟩ := F.ex
  refine fn_ofT lk hcd S hnc h1 (fun vs H Q E h => ?_) (fun A outer s H vs Q E hr h => ⟨_, body cdv A outer s H E hr, ?_⟩)
  · obtain ⟨θ, us, g, S, r, p⟩ := h
    rw [← r.length, defM_len (post_bad p), hn]
  · obtain ⟨θ, us, g, S, r, p⟩ := h
    have hl := defM_len (post_bad p)
    refine ⟨θ, us.map some ++ List.replicate k none, g, S, relS_start hx r (by omega), ?_⟩
    unfold defM at p
    rw [if_pos hl] at p
    cases e : b (us.map some ++ List.replicate k none) g with
    | nx us' g' => rw [e] at p; exact fun θ' H' σ' l s _ => p θ' H' .non l s relNon
    | rt u g' => rw [e] at p; exact fun θ' H' v l s r => p θ' H' v l s r
    | exc c fs us' g' => rw [e] at p; exact fun θ' H' σ' d gs l s _ q r => p θ' H' d gs l s q r
    | bk us' g' => rw [e] at p; exact p.elim
    | ct us' g' => rw [e] at p; exact p.elim
    | bad => rw [e] at p; exact p.elim
end
end R
set_option Elab.async false
set_option linter.all false
set_option maxRecDepth 100000
set_option maxHeartbeats 1000000
namespace R
open PySem PySem.Spec L2
open PyProof.Rows hiding St
open PySem.W (Frag)
/-! ### facts, told by Booleans -/
variable {K : Frag}
def excDB (K : Frag) (D : Addr) : Bool := (PySem.W.clsIn K D).isSome && (decide (PySem.W.findIn K (.ref D) "__getattribute__" = some (some (.builtin "BaseException.__getattribute__"))) && (decide (PySem.W.findIn K (.ref D) "__getattr__" = some none) &&
  (decide (PySem.W.subIn K (.ref D) (.type "BaseException") = some true) && (decide (PySem.W.findIn K (.ref D) "__class__" = some (some (.builtin "object.__class__"))) && (decide (PySem.W.specialIn K (.builtin "object.__class__") "__get__" = some (some (.builtin "getset_descriptor.__get__"))) &&
  (decide (PySem.W.takesIn K (.builtin "object.__class__") = some true) && decide (PySem.W.mroIn K D (.type "object") = some true)))))))
theorem excDB_ok {D : Addr} (h : excDB K D = true) : ExcD K D := by
  obtain ⟨h1, h⟩ := bb h
  obtain ⟨h2, h⟩ := bb h
  obtain ⟨h3, h⟩ := bb h
  obtain ⟨h4, h⟩ := bb h
  obtain ⟨h5, h⟩ := bb h
  obtain ⟨h6, h⟩ := bb h
  obtain ⟨h7, h8⟩ := bb h
  exact ⟨h1, of_decide_eq_true h2, of_decide_eq_true h3, of_decide_eq_true h4, of_decide_eq_true h5, of_decide_eq_true h6, of_decide_eq_true h7, of_decide_eq_true h8⟩
/-- an operator's def -/
def ownB (x m : Str) (K : Frag) : Bool := He.eqO (PySem.W.findIn K (.ref (He.ga K x)) m) (some (some (.ref (He.ma K (He.ga K x) m)))) && (PySem.W.isFn K (.ref (He.ma K (He.ga K x) m)) && PySem.W.selfFirst K (He.ga K x))
theorem ownB_ok {x m : Str} (h : ownB x m K = true) : OwnOp K (He.ga K x) m (He.ma K (He.ga K x) m) := by
  obtain ⟨h1, h⟩ := bb h
  obtain ⟨h2, h3⟩ := bb h
  exact ⟨He.eqO_ok h1, h2, h3⟩
/-- where a static method's def stands -/
def staG (K : Frag) (p : Addr) : Addr := match PySem.W.recIn K p "staticmethod" with
  | some (.ref g :: _) => g
  | _ => 0
def staAt (x m : Str) (K : Frag) : Addr := staG K (He.ma K (He.ga K x) m)
def staB (x m : Str) (K : Frag) : Bool := (match PySem.W.findCls K (.ref (He.ga K x)) (.type "type") m with
  | some (.get g a o t) => decide (g = .builtin "staticmethod.__get__") && (decide (a = .ref (He.ma K (He.ga K x) m)) && (decide (o = .none) && decide (t = .ref (He.ga K x))))
  | _ => false) && ((match PySem.W.recIn K (He.ma K (He.ga K x) m) "staticmethod" with
  | some (.ref g :: _) => PySem.W.keepIn K (.ref g)
  | _ => false) && (PySem.W.readsIn K (He.ga K x) (.type "type") && decide (PySem.W.specialIn K (.ref (He.ga K x)) "__getattribute__" = some (some (.builtin "type.__getattribute__")))))
theorem staB_ok {x m : Str} (h : staB x m K = true) : ClX.CRead K (He.ga K x) (.type "type") ∧ CSta K (He.ga K x) (.type "type") m (He.ma K (He.ga K x) m) (staAt x m K) := by
  obtain ⟨h1, h⟩ := bb h
  obtain ⟨h2, h⟩ := bb h
  obtain ⟨h3, h4⟩ := bb h
  refine ⟨⟨h3, of_decide_eq_true h4⟩, ?_⟩
  have e1 : PySem.W.findCls K (.ref (He.ga K x)) (.type "type") m = some (.get (.builtin "staticmethod.__get__") (.ref (He.ma K (He.ga K x) m)) .none (.ref (He.ga K x))) := by
    split at h1
    · rename_i g a o t e
      obtain ⟨q1, q⟩ := bb h1
      obtain ⟨q2, q⟩ := bb q
      obtain ⟨q3, q4⟩ := bb q
      rw [e, of_decide_eq_true q1, of_decide_eq_true q2, of_decide_eq_true q3, of_decide_eq_true q4]
    · cases h1
  split at h2
  · rename_i g rest e
    have eg : staAt x m K = g := by
      unfold staAt staG
      rw [e]
    rw [eg]
    exact ⟨e1, ⟨rest, e⟩, h2⟩
  · cases h2
/-- what a class with an own __iter__ says -/
def itrB (x : Str) (K : Frag) : Bool := He.eqO (PySem.W.findIn K (.ref (He.ga K x)) "__iter__") (some (some (.ref (He.ma K (He.ga K x) "__iter__")))) && (PySem.W.isFn K (.ref (He.ma K (He.ga K x) "__iter__")) &&
  (decide (PySem.W.findIn K (.ref (He.ga K x)) "__len__" = some none) && decide (PySem.W.findIn K (.ref (He.ga K x)) "__length_hint__" = some none)))
theorem itrB_ok {x : Str} (h : itrB x K = true) : PySem.W.findIn K (.ref (He.ga K x)) "__iter__" = some (some (.ref (He.ma K (He.ga K x) "__iter__"))) ∧ PySem.W.isFn K (.ref (He.ma K (He.ga K x) "__iter__")) = true ∧ PySem.W.findIn K (.ref (He.ga K x)) "__len__" = some none ∧ PySem.W.findIn K (.ref (He.ga K x)) "__length_hint__" = some none := by
  obtain ⟨h1, h⟩ := bb h
  obtain ⟨h2, h⟩ := bb h
  obtain ⟨h3, h4⟩ := bb h
  exact ⟨He.eqO_ok h1, h2, of_decide_eq_true h3, of_decide_eq_true h4⟩
section
variable {P : Program} {w : World} {mg : Str → Option Value} {base : Heap} {κ : Ctx}
/-- a def without defaults, called by its name -/
theorem CalR.mk' {x qual : Str} {st : Stmt} {f : Addr} {fd : FuncData} {ps : List Str} {k : Nat} {m : Mm} (F : FunD K x qual (defArgs st) (defBody st) (defScope st) [] [] f fd) (ok : FnOk P w K mg base (L2.CX P w) k f fd ps (spR κ m)) (hm : mg x = some (.ref f)) (hb : Binds K fd ps []) : CalR P w K mg base k x κ m [] :=
  ⟨f, fd, ps, [], [], ok, hm, F.kp, hb, .nil, fun _ _ => RelUs.nil⟩
end
end R
set_option Elab.async false
set_option linter.all false
set_option maxRecDepth 100000
set_option maxHeartbeats 2000000
namespace K88
open R
open PySem PySem.Spec L2
open PyProof.Rows hiding St
open PySem.W (Frag)
abbrev Pr : Program := PySem.Challenge.pw_guestscarried_k88_policies_are_sets
def top (i : Nat) : Stmt := PySem.Challenge.pw_guestscarried_k88_policies_are_sets.main.body.getD i (.Pass ⟨0, 0, 0, 0⟩)
def clsAt (i j : Nat) : Stmt := match top i with
  | .ClassDef (body := b) .. => b.getD j (.Pass ⟨0, 0, 0, 0⟩)
  | _ => .Pass ⟨0, 0, 0, 0⟩
def cn : Nat → Str
  | 0 => "TextError"
  | 1 => "InstructionError"
  | 2 => "GuestError"
  | 3 => "PolicyError"
  | 4 => "ActionError"
  | 5 => "SettingError"
  | 6 => "DebuggerError"
  | 7 => "Policy"
  | _ => ""
def κ (K : Frag) : R.Ctx := { K := K, C := fun c => He.ga K (cn c), ex := none }
def u_RULES : U := .wtu [.str "invalidate_store", .str "invalidate_device", .str "track_frames", .str "track_prepared", .str "track_second", .str "invalidate_map", .str "invalidate_rights", .str "key_level", .str "leave_self", .str "leave_other", .str "cut_links", .str "clear_links", .str "hold_slot", .str "check_entry", .str "stop_page", .str "stop_store", .str "no_links", .str "single", .str "eager", .str "flush_exit", .str "flush_source", .str "keep_dropped", .str "map_inspect", .str "map_fault", .str "flush_fault", .str "map_leave", .str "prompt_store", .str "poll_entry", .str "poll_backward"]
def u_CODE_RULES : U := .wtu [.str "invalidate_store", .str "invalidate_device", .str "track_frames", .str "track_prepared", .str "track_second", .str "invalidate_map", .str "invalidate_rights", .str "key_level", .str "leave_self", .str "leave_other", .str "cut_links", .str "clear_links", .str "hold_slot", .str "check_entry", .str "stop_page", .str "stop_store", .str "no_links", .str "single"]
def u_VALUE_RULES : U := .wtu [.str "eager", .str "flush_exit", .str "flush_source", .str "keep_dropped", .str "map_inspect", .str "map_fault", .str "flush_fault", .str "map_leave", .str "prompt_store"]
def u_POLL_RULES : U := .wtu [.str "poll_entry", .str "poll_backward"]
def u_MOST_NUMBER : U := .int 536870911
structure Txt (P : Program) (w : World) (K : Frag) (mg : Str → Option Value) : Prop where
  n_abs : mg "abs" = none
  n_int : mg "int" = none
  n_len : mg "len" = none
  n_range : mg "range" = none
  n_isinstance : mg "isinstance" = none
  n_list : mg "list" = none
  n_tuple : mg "tuple" = none
  n_reversed : mg "reversed" = none
  n_str : mg "str" = none
  n_bool : mg "bool" = none
  n_dict : mg "dict" = none
  n_iter : mg "iter" = none
  n_super : mg "super" = none
  n_ValueError : mg "ValueError" = none
  v_RULES : HasU K mg "RULES" u_RULES
  v_CODE_RULES : HasU K mg "CODE_RULES" u_CODE_RULES
  v_VALUE_RULES : HasU K mg "VALUE_RULES" u_VALUE_RULES
  v_POLL_RULES : HasU K mg "POLL_RULES" u_POLL_RULES
  v_MOST_NUMBER : HasU K mg "MOST_NUMBER" u_MOST_NUMBER
  g_TextError : mg "TextError" = some (.ref (He.ga K "TextError"))
  g_InstructionError : mg "InstructionError" = some (.ref (He.ga K "InstructionError"))
  g_GuestError : mg "GuestError" = some (.ref (He.ga K "GuestError"))
  g_PolicyError : mg "PolicyError" = some (.ref (He.ga K "PolicyError"))
  g_ActionError : mg "ActionError" = some (.ref (He.ga K "ActionError"))
  g_SettingError : mg "SettingError" = some (.ref (He.ga K "SettingError"))
  g_DebuggerError : mg "DebuggerError" = some (.ref (He.ga K "DebuggerError"))
  g_Policy : mg "Policy" = some (.ref (He.ga K "Policy"))
  g_GuestlivesError : mg "GuestlivesError" = some (.ref (He.ga K "GuestlivesError"))
  cls7 : Cls K (He.ga K "Policy")
  na_names : NoAttr K (He.ga K "Policy") "names"
  ed_PolicyError : ExcD K (He.ga K "PolicyError")
  xf_PolicyError : XfC K (He.ga K "PolicyError")
  no_PolicyError : PySem.W.findIn K (.ref (He.ga K "PolicyError")) "name" = some none
  k_PolicyError_T_I_G_A_S_D : PySem.W.kitAny K (.ref (He.ga K "PolicyError")) [.ref (He.ga K "TextError"), .ref (He.ga K "InstructionError"), .ref (He.ga K "GuestError"), .ref (He.ga K "ActionError"), .ref (He.ga K "SettingError"), .ref (He.ga K "DebuggerError")] = some false
  k_PolicyError_ValueError : PySem.W.kitOne K (.ref (He.ga K "PolicyError")) (.type "ValueError") = some true
  k_PolicyError_GuestlivesError : PySem.W.kitOne K (.ref (He.ga K "PolicyError")) (.ref (He.ga K "GuestlivesError")) = some true
  em_PolicyError : ∀ c, c < 7 → PySem.W.exmOne K (.ref (He.ga K (cn c))) (.ref (He.ga K "PolicyError")) = some (c == 3)
  x_PolicyError : ∃ fd, XTxt P K mg "PolicyError" "PolicyError.__init__" (clsAt 5 0) (He.ga K "PolicyError") (He.ma K (He.ga K "PolicyError") "__init__") fd ∧ fd.defaults = .none ∧ fd.params = defArgs (clsAt 5 0)
  ed_SettingError : ExcD K (He.ga K "SettingError")
  xf_SettingError : XfC K (He.ga K "SettingError")
  no_SettingError : PySem.W.findIn K (.ref (He.ga K "SettingError")) "name" = some none
  k_SettingError_T_I_G_P_A_D : PySem.W.kitAny K (.ref (He.ga K "SettingError")) [.ref (He.ga K "TextError"), .ref (He.ga K "InstructionError"), .ref (He.ga K "GuestError"), .ref (He.ga K "PolicyError"), .ref (He.ga K "ActionError"), .ref (He.ga K "DebuggerError")] = some false
  k_SettingError_ValueError : PySem.W.kitOne K (.ref (He.ga K "SettingError")) (.type "ValueError") = some true
  k_SettingError_GuestlivesError : PySem.W.kitOne K (.ref (He.ga K "SettingError")) (.ref (He.ga K "GuestlivesError")) = some true
  em_SettingError : ∀ c, c < 7 → PySem.W.exmOne K (.ref (He.ga K (cn c))) (.ref (He.ga K "SettingError")) = some (c == 5)
  x_SettingError : ∃ fd, XTxt P K mg "SettingError" "SettingError.__init__" (clsAt 7 0) (He.ga K "SettingError") (He.ma K (He.ga K "SettingError") "__init__") fd ∧ fd.defaults = .none ∧ fd.params = defArgs (clsAt 7 0)
  htop : (P.main.scope.names.lookup ("super" : Str)).isSome = false
theorem exm_one {K : Frag} {C : Addr} {p : Pc} {x : Nat} {j : Nat} {k : Pc} {v : Value} {c : Nat} (h : ∀ c, c < 7 → PySem.W.exmOne K (.ref (He.ga K (cn c))) (.ref C) = some (c == x)) (h1 : [p][j]? = some k) (h2 : [Value.ref C][j]? = some v) (hc : c < 7) (hp : p.takes = fun c => c == x := by rfl) : PySem.W.exmOne (κ K).K (.ref ((κ K).C c)) v = some (k.takes c) := by
  match j, h1, h2 with
  | 0, h1, h2 =>
    cases h1
    cases h2
    rw [hp]
    exact h c hc
  | n + 1, h1, _ => simp at h1
section
variable {P : Program} {w : World} {K : Frag} {mg : Str → Option Value} {base : Heap}
theorem sx_PolicyError : ScS ["self", "name"] (defScope (clsAt 5 0)) := ⟨rfl, rfl, rfl, by decide, by decide +kernel, by decide +kernel, scs_only (by decide +kernel)⟩
theorem r_PolicyError (T : Txt P w K mg) : RaiR1 P w K mg base 1 "PolicyError" 3 "name" (κ K) := by
  obtain ⟨fd, X, h1, h2⟩ := T.x_PolicyError
  refine ⟨_, fd, ["self", "name"], X.oex, X.iC, X.tI, init1_ok (st := clsAt 5 0) X sx_PolicyError (by decide) T.no_PolicyError rfl rfl rfl ⟨_, rfl, rfl⟩ T.htop (fun L cda cc => ⟨_, rfl⟩) (by decide) (by decide), ?_, X.mgC⟩
  exact sup_binds (ps := ["self", "name"]) X fun _ _ _ _ _ _ _ us hl => match us, hl with | [_, _], _ => rfl
theorem sx_SettingError : ScS ["self", "name"] (defScope (clsAt 7 0)) := ⟨rfl, rfl, rfl, by decide, by decide +kernel, by decide +kernel, scs_only (by decide +kernel)⟩
theorem r_SettingError (T : Txt P w K mg) : RaiR1 P w K mg base 1 "SettingError" 5 "name" (κ K) := by
  obtain ⟨fd, X, h1, h2⟩ := T.x_SettingError
  refine ⟨_, fd, ["self", "name"], X.oex, X.iC, X.tI, init1_ok (st := clsAt 7 0) X sx_SettingError (by decide) T.no_SettingError rfl rfl rfl ⟨_, rfl, rfl⟩ T.htop (fun L cda cc => ⟨_, rfl⟩) (by decide) (by decide), ?_, X.mgC⟩
  exact sup_binds (ps := ["self", "name"]) X fun _ _ _ _ _ _ _ us hl => match us, hl with | [_, _], _ => rfl
abbrev s_init : Stmt := clsAt 11 0
def N_init : List Str := ["self", "names", "chosen", "name"]
theorem sc_init : FnScope N_init ["self", "names"] (defScope s_init) := ⟨rfl, rfl, rfl, by decide +kernel, rfl, by decide +kernel, by decide +kernel⟩
def b_init : Sx := (seq (asg (lstE aNil) (nameT 2))
  (seq (forE (itO 7 "names" (var 1)) (nameT 3) (seq (ifS (orT (tst (op2 (inO true) (var 3) (con u_RULES))) (tst (op2 (inO false) (var 3) (var 2)))) (raiseE 3 [("name" : Str)] (aCons (var 3) aNil)) skip)
  (dropE (mE isL appM (var 2) (aCons (var 3) aNil)))))
  (setA 7 "names" (var 0) (bE tupM (aCons (lcE [3] (itE (con u_RULES)) (nameT 3) (tst (op2 (inO false) (var 3) (var 2))) (var 3)) aNil)))))
def m_init : Mm := defM 2 2 (b_init)
theorem f_init (T : Txt P w K mg) (c_itr : ItrR P w K mg base 1 7 "names" (κ K)) {f : Addr} {fd : FuncData} {dvs : List V} {x qual : Str} (F : FunD K x qual (defArgs s_init) (defBody s_init) (defScope s_init) dvs [] f fd) : FnOk P w K mg base (L2.CX P w) 3 f fd ["self", "names"] (spR (κ K) (m_init)) := by
  refine fd_ok (κ := κ K) (j := 2) F sc_init rfl rfl rfl fun cdv A outer s H E hr => ?_
  exact (rs_cons (rs_set (i := 2) (sc_init).nd rfl (Or.inr rfl) (re_lst ra_nil))
  (rs_cons (rs_for (passes_of rfl) rfl (ri_o rfl c_itr hr (rv 1)) (pg_name (i := 3) (sc_init).nd rfl (Or.inl rfl)) (tg_name (i := 3) (by intro _ q; exact nomatch q)) (rs_cons (rs_if (PW.pt (rw_or (rt_cmp or_notIn ok_in (rv 3) (re_gv rfl T.v_RULES)) (pw_or1 (rt_cmp or_in ok_in (rv 3) (rv 2))))) (rs_one (rs_r1 rfl (takes_of rfl rfl rfl rfl) (r_PolicyError T) hr (ra_cons (rv 3) ra_nil))) rs_nil)
  (rs_one (rs_expr (re_bm rfl tk_lst mk_app PySem.F.plainAttrs_list PySem.F.slot_list_append PySem.F.type_list_append mt_append (rv 2) (ra_cons (rv 3) ra_nil))))))
  (rs_one (rs_setA rfl T.cls7 T.na_names (rv 0) (re_tuple rfl T.n_tuple (ra_cons (re_lcIf (own := [("name", 3)]) rfl rfl (sc_init).nd (ri_seq rfl (re_gv rfl T.v_RULES)) (blk_by (N := N_init) (sc := defScope s_init) (own := [("name", 3)]) (by decide +kernel)) (tg_name (i := 3) (by intro _ q; exact nomatch q)) (wipe_name (by simp)) (fun _ _ _ _ _ => pg_name (i := 3) (sc_init).nd rfl (Or.inl rfl)) (fun _ _ _ _ _ => (rt_cmp or_in ok_in (rv 3) (rv 2))) (fun _ _ _ _ _ => (rv 3))) ra_nil))))))
abbrev s_empty : Stmt := clsAt 11 1
def N_empty : List Str := []
theorem sc_empty : FnScope N_empty [] (defScope s_empty) := ⟨rfl, rfl, rfl, by decide +kernel, rfl, by decide +kernel, by decide +kernel⟩
def b_empty (p_init : Mm) : Sx := (retE (mk0 7 p_init [.wtu []]))
def m_empty (p_init : Mm) : Mm := defM 0 0 (b_empty p_init)
theorem f_empty (T : Txt P w K mg) {p_init : Mm} (k_Policy0 : MakR P w K mg base 3 "Policy" 7 (κ K) p_init [.wtu []]) {f : Addr} {fd : FuncData} {dvs : List V} {x qual : Str} (F : FunD K x qual (defArgs s_empty) (defBody s_empty) (defScope s_empty) dvs [] f fd) : FnOk P w K mg base (L2.CX P w) 5 f fd [] (spR (κ K) (m_empty p_init)) := by
  refine fd_ok (κ := κ K) (j := 4) F sc_empty rfl rfl rfl fun cdv A outer s H E hr => ?_
  exact (rs_one (rs_ret (re_k0 k_Policy0 hr)))
abbrev s_full : Stmt := clsAt 11 2
def N_full : List Str := []
theorem sc_full : FnScope N_full [] (defScope s_full) := ⟨rfl, rfl, rfl, by decide +kernel, rfl, by decide +kernel, by decide +kernel⟩
def b_full (p_init : Mm) : Sx := (retE (mkE 7 p_init [] (aCons (con u_RULES) aNil)))
def m_full (p_init : Mm) : Mm := defM 0 0 (b_full p_init)
theorem f_full (T : Txt P w K mg) {p_init : Mm} (k_Policy : MakR P w K mg base 3 "Policy" 7 (κ K) p_init []) {f : Addr} {fd : FuncData} {dvs : List V} {x qual : Str} (F : FunD K x qual (defArgs s_full) (defBody s_full) (defScope s_full) dvs [] f fd) : FnOk P w K mg base (L2.CX P w) 5 f fd [] (spR (κ K) (m_full p_init)) := by
  refine fd_ok (κ := κ K) (j := 4) F sc_full rfl rfl rfl fun cdv A outer s H E hr => ?_
  exact (rs_one (rs_ret (re_k k_Policy hr (takes_of rfl rfl rfl rfl) (ra_cons (re_gv rfl T.v_RULES) ra_nil))))
abbrev s_has : Stmt := clsAt 11 3
def N_has : List Str := ["self", "name"]
theorem sc_has : FnScope N_has ["self", "name"] (defScope s_has) := ⟨rfl, rfl, rfl, by decide +kernel, rfl, by decide +kernel, by decide +kernel⟩
def b_has : Sx := (retE (op2 (inO false) (var 1) (fldE 7 "names" (var 0))))
def m_has : Mm := defM 2 0 (b_has)
theorem f_has (T : Txt P w K mg) {f : Addr} {fd : FuncData} {dvs : List V} {x qual : Str} (F : FunD K x qual (defArgs s_has) (defBody s_has) (defScope s_has) dvs [] f fd) : FnOk P w K mg base (L2.CX P w) 1 f fd ["self", "name"] (spR (κ K) (m_has)) := by
  refine fd_ok (κ := κ K) (j := 0) F sc_has rfl rfl rfl fun cdv A outer s H E hr => ?_
  exact (rs_one (rs_ret (re_cmp or_in ok_in (rv 1) (re_fld rfl T.cls7 T.na_names (rv 0)))))
abbrev s_contains : Stmt := clsAt 11 4
def N_contains : List Str := ["self", "name"]
theorem sc_contains : FnScope N_contains ["self", "name"] (defScope s_contains) := ⟨rfl, rfl, rfl, by decide +kernel, rfl, by decide +kernel, by decide +kernel⟩
def b_contains : Sx := (retE (op2 (inO false) (var 1) (fldE 7 "names" (var 0))))
def m_contains : Mm := defM 2 0 (b_contains)
theorem f_contains (T : Txt P w K mg) {f : Addr} {fd : FuncData} {dvs : List V} {x qual : Str} (F : FunD K x qual (defArgs s_contains) (defBody s_contains) (defScope s_contains) dvs [] f fd) : FnOk P w K mg base (L2.CX P w) 1 f fd ["self", "name"] (spR (κ K) (m_contains)) := by
  refine fd_ok (κ := κ K) (j := 0) F sc_contains rfl rfl rfl fun cdv A outer s H E hr => ?_
  exact (rs_one (rs_ret (re_cmp or_in ok_in (rv 1) (re_fld rfl T.cls7 T.na_names (rv 0)))))
abbrev s_or : Stmt := clsAt 11 6
def N_or : List Str := ["self", "other", "name"]
theorem sc_or : FnScope N_or ["self", "other"] (defScope s_or) := ⟨rfl, rfl, rfl, by decide +kernel, rfl, by decide +kernel, by decide +kernel⟩
def b_or (p_init : Mm) : Sx := (retE (mkE 7 p_init [] (aCons (lcE [2] (itE (con u_RULES)) (nameT 2) (orT (tst (op2 (inO false) (var 2) (fldE 7 "names" (var 0)))) (tst (op2 (inO false) (var 2) (fldE 7 "names" (var 1))))) (var 2)) aNil)))
def m_or (p_init : Mm) : Mm := defM 2 1 (b_or p_init)
theorem f_or (T : Txt P w K mg) {p_init : Mm} (k_Policy : MakR P w K mg base 3 "Policy" 7 (κ K) p_init []) {f : Addr} {fd : FuncData} {dvs : List V} {x qual : Str} (F : FunD K x qual (defArgs s_or) (defBody s_or) (defScope s_or) dvs [] f fd) : FnOk P w K mg base (L2.CX P w) 5 f fd ["self", "other"] (spR (κ K) (m_or p_init)) := by
  refine fd_ok (κ := κ K) (j := 4) F sc_or rfl rfl rfl fun cdv A outer s H E hr => ?_
  exact (rs_one (rs_ret (re_k k_Policy hr (takes_of rfl rfl rfl rfl) (ra_cons (re_lcIf (own := [("name", 2)]) rfl rfl (sc_or).nd (ri_seq rfl (re_gv rfl T.v_RULES)) (blk_by (N := N_or) (sc := defScope s_or) (own := [("name", 2)]) (by decide +kernel)) (tg_name (i := 2) (by intro _ q; exact nomatch q)) (wipe_name (by simp)) (fun _ _ _ _ _ => pg_name (i := 2) (sc_or).nd rfl (Or.inl rfl)) (fun _ _ _ _ _ => (PW.pt (rw_or (rt_cmp or_in ok_in (rv 2) (re_fld rfl T.cls7 T.na_names (rv 0))) (pw_or1 (rt_cmp or_in ok_in (rv 2) (re_fld rfl T.cls7 T.na_names (rv 1))))))) (fun _ _ _ _ _ => (rv 2))) ra_nil))))
abbrev s_sub : Stmt := clsAt 11 7
def N_sub : List Str := ["self", "other", "name"]
theorem sc_sub : FnScope N_sub ["self", "other"] (defScope s_sub) := ⟨rfl, rfl, rfl, by decide +kernel, rfl, by decide +kernel, by decide +kernel⟩
def b_sub (p_init : Mm) : Sx := (retE (mkE 7 p_init [] (aCons (lcE [2] (itE (fldE 7 "names" (var 0))) (nameT 2) (tst (op2 (inO true) (var 2) (fldE 7 "names" (var 1)))) (var 2)) aNil)))
def m_sub (p_init : Mm) : Mm := defM 2 1 (b_sub p_init)
theorem f_sub (T : Txt P w K mg) {p_init : Mm} (k_Policy : MakR P w K mg base 3 "Policy" 7 (κ K) p_init []) {f : Addr} {fd : FuncData} {dvs : List V} {x qual : Str} (F : FunD K x qual (defArgs s_sub) (defBody s_sub) (defScope s_sub) dvs [] f fd) : FnOk P w K mg base (L2.CX P w) 5 f fd ["self", "other"] (spR (κ K) (m_sub p_init)) := by
  refine fd_ok (κ := κ K) (j := 4) F sc_sub rfl rfl rfl fun cdv A outer s H E hr => ?_
  exact (rs_one (rs_ret (re_k k_Policy hr (takes_of rfl rfl rfl rfl) (ra_cons (re_lcIf (own := [("name", 2)]) rfl rfl (sc_sub).nd (ri_seq rfl (re_fld rfl T.cls7 T.na_names (rv 0))) (blk_by (N := N_sub) (sc := defScope s_sub) (own := [("name", 2)]) (by decide +kernel)) (tg_name (i := 2) (by intro _ q; exact nomatch q)) (wipe_name (by simp)) (fun _ _ _ _ _ => pg_name (i := 2) (sc_sub).nd rfl (Or.inl rfl)) (fun _ _ _ _ _ => (rt_cmp or_notIn ok_in (rv 2) (re_fld rfl T.cls7 T.na_names (rv 1)))) (fun _ _ _ _ _ => (rv 2))) ra_nil))))
abbrev s_policy_number : Stmt := top 18
def N_policy_number : List Str := ["policy", "number", "name"]
theorem sc_policy_number : FnScope N_policy_number ["policy"] (defScope s_policy_number) := ⟨rfl, rfl, rfl, by decide +kernel, rfl, by decide +kernel, by decide +kernel⟩
def b_policy_number (p_has : Mm) : Sx := (seq (asg (con (.int 0)) (nameT 1))
  (seq (forE (revT (con u_RULES)) (nameT 2) (asg (op2 addO (op2 mulO (con (.int 2)) (var 1)) (bE intM (aCons (mtE 7 "has" p_has [] (var 0) (aCons (var 2) aNil)) aNil))) (nameT 1)))
  (retE (var 1))))
def m_policy_number (p_has : Mm) : Mm := defM 1 2 (b_policy_number p_has)
theorem f_policy_number (T : Txt P w K mg) {p_has : Mm} (q_has : MetR P w K mg base 1 7 "has" (κ K) p_has) {f : Addr} {fd : FuncData} {dvs : List V} {x qual : Str} (F : FunD K x qual (defArgs s_policy_number) (defBody s_policy_number) (defScope s_policy_number) dvs [] f fd) : FnOk P w K mg base (L2.CX P w) 2 f fd ["policy"] (spR (κ K) (m_policy_number p_has)) := by
  refine fd_ok (κ := κ K) (j := 1) F sc_policy_number rfl rfl rfl fun cdv A outer s H E hr => ?_
  exact (rs_cons (rs_set (i := 1) (sc_policy_number).nd rfl (Or.inl rfl) re_int)
  (rs_cons (rs_for (passes_of rfl) rfl (ri_rev rfl T.n_reversed (re_gv rfl T.v_RULES)) (pg_name (i := 2) (sc_policy_number).nd rfl (Or.inl rfl)) (tg_name (i := 2) (by intro _ q; exact nomatch q)) (rs_one (rs_set (i := 1) (sc_policy_number).nd rfl (Or.inl rfl) (re_bin or_add ok_add (re_bin or_mul ok_mul re_int (rv 1)) (re_int1 T.n_int (ra_cons (re_m rfl q_has hr (rv 0) (ra_cons (rv 2) ra_nil)) ra_nil))))))
  (rs_one (rs_ret (rv 1)))))
abbrev s_policy_numbered : Stmt := top 19
def N_policy_numbered : List Str := ["number", "names", "name"]
theorem sc_policy_numbered : FnScope N_policy_numbered ["number"] (defScope s_policy_numbered) := ⟨rfl, rfl, rfl, by decide +kernel, rfl, by decide +kernel, by decide +kernel⟩
def b_policy_numbered (p_init : Mm) : Sx := (seq (ifS (notT (tst (chE leO leO (con (.int 0)) (var 0) (con u_MOST_NUMBER)))) (raiseE 5 [("name" : Str)] (aCons (con (.str "number")) aNil)) skip)
  (seq (asg (lstE aNil) (nameT 1))
  (seq (forE (itE (con u_RULES)) (nameT 2) (seq (ifS (tst (op2 eqO (op2 modO (var 0) (con (.int 2))) (con (.int 1)))) (dropE (mE isL appM (var 1) (aCons (var 2) aNil))) skip)
  (asg (op2 fdivO (var 0) (con (.int 2))) (nameT 0))))
  (retE (mkE 7 p_init [] (aCons (var 1) aNil))))))
def m_policy_numbered (p_init : Mm) : Mm := defM 1 2 (b_policy_numbered p_init)
theorem f_policy_numbered (T : Txt P w K mg) {p_init : Mm} (k_Policy : MakR P w K mg base 3 "Policy" 7 (κ K) p_init []) {f : Addr} {fd : FuncData} {dvs : List V} {x qual : Str} (F : FunD K x qual (defArgs s_policy_numbered) (defBody s_policy_numbered) (defScope s_policy_numbered) dvs [] f fd) : FnOk P w K mg base (L2.CX P w) 5 f fd ["number"] (spR (κ K) (m_policy_numbered p_init)) := by
  refine fd_ok (κ := κ K) (j := 4) F sc_policy_numbered rfl rfl rfl fun cdv A outer s H E hr => ?_
  exact (rs_cons (rs_if (rt_not (rt_chain op_le op_le ok_ord ok_ord re_int (rv 0) (re_gv rfl T.v_MOST_NUMBER))) (rs_one (rs_r1 rfl (takes_of rfl rfl rfl rfl) (r_SettingError T) hr (ra_cons re_str ra_nil))) rs_nil)
  (rs_cons (rs_set (i := 1) (sc_policy_numbered).nd rfl (Or.inl rfl) (re_lst ra_nil))
  (rs_cons (rs_for (passes_of rfl) rfl (ri_seq rfl (re_gv rfl T.v_RULES)) (pg_name (i := 2) (sc_policy_numbered).nd rfl (Or.inl rfl)) (tg_name (i := 2) (by intro _ q; exact nomatch q)) (rs_cons (rs_if (rt_cmp (or_eq hr.units) ok_eq (re_bin op_mod ok_mod (rv 0) re_int) re_int) (rs_one (rs_expr (re_bm rfl tk_lst mk_app PySem.F.plainAttrs_list PySem.F.slot_list_append PySem.F.type_list_append mt_append (rv 1) (ra_cons (rv 2) ra_nil)))) rs_nil)
  (rs_one (rs_set (i := 0) (sc_policy_numbered).nd rfl (Or.inl rfl) (re_bin op_fdiv ok_fdiv (rv 0) re_int)))))
  (rs_one (rs_ret (re_k k_Policy hr (takes_of rfl rfl rfl rfl) (ra_cons (rv 1) ra_nil)))))))
abbrev s__law_row : Stmt := top 21
def N__law_row : List Str := ["script", "most", "row", "cell", "rest", "k"]
theorem sc__law_row : FnScope N__law_row ["script", "most"] (defScope s__law_row) := ⟨rfl, rfl, rfl, by decide +kernel, rfl, by decide +kernel, by decide +kernel⟩
def b__law_row : Sx := (seq (asg (lstE aNil) (nameT 2))
  (seq (forE (itE (var 0)) (nameT 3) (seq (asg (bE absM (aCons (bE intM (aCons (var 3) aNil)) aNil)) (nameT 4))
  (forE (itRng1 (aCons (con (.int 60)) aNil)) (nameT 5) (seq (ifS (tst (op2 ltO (bE lenM (aCons (var 2) aNil)) (var 1))) (dropE (mE isL appM (var 2) (aCons (op2 modO (var 4) (con (.int 16))) aNil))) skip)
  (seq (asg (op2 fdivO (var 4) (con (.int 16))) (nameT 4))
  (ifS (tst (op2 eqO (var 4) (con (.int 0)))) brk skip))))))
  (retE (var 2))))
def m__law_row : Mm := defM 2 4 (b__law_row)
theorem f__law_row (T : Txt P w K mg) {f : Addr} {fd : FuncData} {dvs : List V} {x qual : Str} (F : FunD K x qual (defArgs s__law_row) (defBody s__law_row) (defScope s__law_row) dvs [] f fd) : FnOk P w K mg base (L2.CX P w) 1 f fd ["script", "most"] (spR (κ K) (m__law_row)) := by
  refine fd_ok (κ := κ K) (j := 0) F sc__law_row rfl rfl rfl fun cdv A outer s H E hr => ?_
  exact (rs_cons (rs_set (i := 2) (sc__law_row).nd rfl (Or.inl rfl) (re_lst ra_nil))
  (rs_cons (rs_for (passes_of rfl) rfl (ri_seq rfl (rv 0)) (pg_name (i := 3) (sc__law_row).nd rfl (Or.inl rfl)) (tg_name (i := 3) (by intro _ q; exact nomatch q)) (rs_cons (rs_set (i := 4) (sc__law_row).nd rfl (Or.inl rfl) (re_abs T.n_abs (ra_cons (re_int1 T.n_int (ra_cons (rv 3) ra_nil)) ra_nil)))
  (rs_one (rs_for (passes_of rfl) rfl (ri_range1 T.n_range (ra_cons re_int ra_nil)) (pg_name (i := 5) (sc__law_row).nd rfl (Or.inl rfl)) (tg_name (i := 5) (by intro _ q; exact nomatch q)) (rs_cons (rs_if (rt_cmp op_lt ok_ord (re_len rfl T.n_len (ra_cons (rv 2) ra_nil)) (rv 1)) (rs_one (rs_expr (re_bm rfl tk_lst mk_app PySem.F.plainAttrs_list PySem.F.slot_list_append PySem.F.type_list_append mt_append (rv 2) (ra_cons (re_bin op_mod ok_mod (rv 4) re_int) ra_nil)))) rs_nil)
  (rs_cons (rs_set (i := 4) (sc__law_row).nd rfl (Or.inl rfl) (re_bin op_fdiv ok_fdiv (rv 4) re_int))
  (rs_one (rs_if (rt_cmp (or_eq hr.units) ok_eq (rv 4) re_int) (rs_one rs_break) rs_nil))))))))
  (rs_one (rs_ret (rv 2)))))
abbrev s__law_pick : Stmt := top 22
def N__law_pick : List Str := ["row", "at", "limit", "value"]
theorem sc__law_pick : FnScope N__law_pick ["row", "at", "limit"] (defScope s__law_pick) := ⟨rfl, rfl, rfl, by decide +kernel, rfl, by decide +kernel, by decide +kernel⟩
def b__law_pick : Sx := (seq (asg (con (.int 0)) (nameT 3))
  (seq (ifS (tst (op2 ltO (var 1) (bE lenM (aCons (var 0) aNil)))) (asg (op2 ixO (var 0) (var 1)) (nameT 3)) skip)
  (seq (ifS (tst (op2 ltO (op2 addO (var 1) (con (.int 1))) (bE lenM (aCons (var 0) aNil)))) (asg (op2 addO (var 3) (op2 mulO (con (.int 16)) (op2 ixO (var 0) (op2 addO (var 1) (con (.int 1)))))) (nameT 3)) skip)
  (retE (op2 modO (bE intM (aCons (var 3) aNil)) (var 2))))))
def m__law_pick : Mm := defM 3 1 (b__law_pick)
theorem f__law_pick (T : Txt P w K mg) {f : Addr} {fd : FuncData} {dvs : List V} {x qual : Str} (F : FunD K x qual (defArgs s__law_pick) (defBody s__law_pick) (defScope s__law_pick) dvs [] f fd) : FnOk P w K mg base (L2.CX P w) 1 f fd ["row", "at", "limit"] (spR (κ K) (m__law_pick)) := by
  refine fd_ok (κ := κ K) (j := 0) F sc__law_pick rfl rfl rfl fun cdv A outer s H E hr => ?_
  exact (rs_cons (rs_set (i := 3) (sc__law_pick).nd rfl (Or.inl rfl) re_int)
  (rs_cons (rs_if (rt_cmp op_lt ok_ord (rv 1) (re_len rfl T.n_len (ra_cons (rv 0) ra_nil))) (rs_one (rs_set (i := 3) (sc__law_pick).nd rfl (Or.inl rfl) (re_ix rfl (rv 0) (rv 1)))) rs_nil)
  (rs_cons (rs_if (rt_cmp op_lt ok_ord (re_bin or_add ok_add (rv 1) re_int) (re_len rfl T.n_len (ra_cons (rv 0) ra_nil))) (rs_one (rs_set (i := 3) (sc__law_pick).nd rfl (Or.inl rfl) (re_bin or_add ok_add (rv 3) (re_bin or_mul ok_mul re_int (re_ix rfl (rv 0) (re_bin or_add ok_add (rv 1) re_int)))))) rs_nil)
  (rs_one (rs_ret (re_bin op_mod ok_mod (re_int1 T.n_int (ra_cons (rv 3) ra_nil)) (rv 2)))))))
abbrev s__law_rules : Stmt := top 23
def N__law_rules : List Str := ["text"]
theorem sc__law_rules : FnScope N__law_rules [] (defScope s__law_rules) := ⟨rfl, rfl, rfl, by decide +kernel, rfl, by decide +kernel, by decide +kernel⟩
def b__law_rules : Sx := (seq (asg (con (.str "invalidate_store invalidate_device track_frames track_prepared track_second invalidate_map")) (nameT 0))
  (seq (asg (op2 addO (var 0) (con (.str " invalidate_rights key_level leave_self leave_other cut_links clear_links hold_slot check_entry"))) (nameT 0))
  (seq (asg (op2 addO (var 0) (con (.str " stop_page stop_store no_links single eager flush_exit flush_source keep_dropped map_inspect"))) (nameT 0))
  (seq (asg (op2 addO (var 0) (con (.str " map_fault flush_fault map_leave prompt_store poll_entry poll_backward"))) (nameT 0))
  (retE (mE isS splitM (var 0) (aCons (con (.str " ")) aNil)))))))
def m__law_rules : Mm := defM 0 1 (b__law_rules)
theorem f__law_rules (T : Txt P w K mg) {f : Addr} {fd : FuncData} {dvs : List V} {x qual : Str} (F : FunD K x qual (defArgs s__law_rules) (defBody s__law_rules) (defScope s__law_rules) dvs [] f fd) : FnOk P w K mg base (L2.CX P w) 1 f fd [] (spR (κ K) (m__law_rules)) := by
  refine fd_ok (κ := κ K) (j := 0) F sc__law_rules rfl rfl rfl fun cdv A outer s H E hr => ?_
  exact (rs_cons (rs_set (i := 0) (sc__law_rules).nd rfl (Or.inl rfl) re_str)
  (rs_cons (rs_set (i := 0) (sc__law_rules).nd rfl (Or.inl rfl) (re_bin or_add ok_add (rv 0) re_str))
  (rs_cons (rs_set (i := 0) (sc__law_rules).nd rfl (Or.inl rfl) (re_bin or_add ok_add (rv 0) re_str))
  (rs_cons (rs_set (i := 0) (sc__law_rules).nd rfl (Or.inl rfl) (re_bin or_add ok_add (rv 0) re_str))
  (rs_one (rs_ret (re_bm rfl tk_str mk_split PySem.F.plainAttrs_str PySem.F.slot_str_split PySem.F.type_str_split mt_split (rv 0) (ra_cons re_str ra_nil))))))))
abbrev s__law_chosen : Stmt := top 24
def N__law_chosen : List Str := ["row", "at", "rules", "k"]
theorem sc__law_chosen : FnScope N__law_chosen ["row", "at"] (defScope s__law_chosen) := ⟨rfl, rfl, rfl, by decide +kernel, rfl, by decide +kernel, by decide +kernel⟩
def b__law_chosen (p__law_pick p__law_rules : Mm) : Sx := (seq (asg (call0 p__law_rules []) (nameT 2))
  (retE (lcE [3] (itRng1 (aCons (con (.int 29)) aNil)) (nameT 3) (tst (op2 eqO (callE p__law_pick [] (aCons (var 0) (aCons (op2 addO (var 1) (var 3)) (aCons (con (.int 2)) aNil)))) (con (.int 1)))) (op2 ixO (var 2) (var 3)))))
def m__law_chosen (p__law_pick p__law_rules : Mm) : Mm := defM 2 2 (b__law_chosen p__law_pick p__law_rules)
theorem f__law_chosen (T : Txt P w K mg) {p__law_pick p__law_rules : Mm} (c__law_pick : CalR P w K mg base 1 "_law_pick" (κ K) p__law_pick []) (c__law_rules : CalR P w K mg base 1 "_law_rules" (κ K) p__law_rules []) {f : Addr} {fd : FuncData} {dvs : List V} {x qual : Str} (F : FunD K x qual (defArgs s__law_chosen) (defBody s__law_chosen) (defScope s__law_chosen) dvs [] f fd) : FnOk P w K mg base (L2.CX P w) 2 f fd ["row", "at"] (spR (κ K) (m__law_chosen p__law_pick p__law_rules)) := by
  refine fd_ok (κ := κ K) (j := 1) F sc__law_chosen rfl rfl rfl fun cdv A outer s H E hr => ?_
  exact (rs_cons (rs_set (i := 2) (sc__law_chosen).nd rfl (Or.inr rfl) (re_c0 c__law_rules hr))
  (rs_one (rs_ret (re_lcIf (own := [("k", 3)]) rfl rfl (sc__law_chosen).nd (ri_range1 T.n_range (ra_cons re_int ra_nil)) (blk_by (N := N__law_chosen) (sc := defScope s__law_chosen) (own := [("k", 3)]) (by decide +kernel)) (tg_name (i := 3) (by intro _ q; exact nomatch q)) (wipe_name (by simp)) (fun _ _ _ _ _ => pg_name (i := 3) (sc__law_chosen).nd rfl (Or.inl rfl)) (fun _ _ _ _ _ => (rt_cmp (or_eq hr.units) ok_eq (re_c c__law_pick hr takes0 (ra_cons (rv 0) (ra_cons (re_bin or_add ok_add (rv 1) (rv 3)) (ra_cons re_int ra_nil)))) re_int)) (fun _ _ _ _ _ => (re_ix rfl (rv 2) (rv 3)))))))
abbrev s__law_turned : Stmt := top 25
def N__law_turned : List Str := ["names", "place", "backwards", "turned"]
theorem sc__law_turned : FnScope N__law_turned ["names", "place", "backwards"] (defScope s__law_turned) := ⟨rfl, rfl, rfl, by decide +kernel, rfl, by decide +kernel, by decide +kernel⟩
def b__law_turned : Sx := (seq (asg (op2 addO (slE (var 0) (atP (var 1)) noP) (slE (var 0) noP (atP (var 1)))) (nameT 3))
  (seq (ifS (tst (op2 eqO (var 2) (con (.int 1)))) (retE (revE (var 3))) skip)
  (retE (var 3))))
def m__law_turned : Mm := defM 3 1 (b__law_turned)
theorem f__law_turned (T : Txt P w K mg) {f : Addr} {fd : FuncData} {dvs : List V} {x qual : Str} (F : FunD K x qual (defArgs s__law_turned) (defBody s__law_turned) (defScope s__law_turned) dvs [] f fd) : FnOk P w K mg base (L2.CX P w) 1 f fd ["names", "place", "backwards"] (spR (κ K) (m__law_turned)) := by
  refine fd_ok (κ := κ K) (j := 0) F sc__law_turned rfl rfl rfl fun cdv A outer s H E hr => ?_
  exact (rs_cons (rs_set (i := 3) (sc__law_turned).nd rfl (Or.inl rfl) (re_bin or_add ok_add (re_sl rfl (rv 0) (ro_some (rv 1)) ro_none) (re_sl rfl (rv 0) ro_none (ro_some (rv 1)))))
  (rs_cons (rs_if (rt_cmp (or_eq hr.units) ok_eq (rv 2) re_int) (rs_one (rs_ret (re_rev rfl (rv 3)))) rs_nil)
  (rs_one (rs_ret (rv 3)))))
abbrev s__law_holds : Stmt := top 26
def N__law_holds : List Str := ["policy", "names", "name"]
theorem sc__law_holds : FnScope N__law_holds ["policy", "names"] (defScope s__law_holds) := ⟨rfl, rfl, rfl, by decide +kernel, rfl, by decide +kernel, by decide +kernel⟩
def b__law_holds (p_has p__law_rules p_contains : Mm) : Sx := (seq (ifS (orT (notT (tst (isE "tuple" (fldE 7 "names" (var 0))))) (tst (op2 neO (bE listM (aCons (fldE 7 "names" (var 0)) aNil)) (var 1)))) (retE (con (.bl false))) skip)
  (seq (ifS (orT (tst (op2 neO (bE (listO 7 "names") (aCons (var 0) aNil)) (var 1))) (tst (op2 neO (lcE [2] (itO 7 "names" (var 0)) (nameT 2) yes (var 2)) (var 1)))) (retE (con (.bl false))) skip)
  (seq (forE (itE (op2 addO (call0 p__law_rules []) (lstE (aCons (con (.str "")) (aCons (con (.str "eage")) (aCons (con (.str "Eager")) aNil)))))) (nameT 2) (ifS (orT (tst (op2 neO (mtE 7 "has" p_has [] (var 0) (aCons (var 2) aNil)) (op2 (inO false) (var 2) (var 1)))) (tst (op2 neO (op2 (ownInO 7 p_contains) (var 2) (var 0)) (op2 (inO false) (var 2) (var 1))))) (retE (con (.bl false))) skip))
  (retE (orV (op2 isO (mtE 7 "has" p_has [] (var 0) (aCons (con (.str "eager")) aNil)) (con (.bl true))) (op2 isO (mtE 7 "has" p_has [] (var 0) (aCons (con (.str "eager")) aNil)) (con (.bl false))))))))
def m__law_holds (p_has p__law_rules p_contains : Mm) : Mm := defM 2 1 (b__law_holds p_has p__law_rules p_contains)
theorem f__law_holds (T : Txt P w K mg) {p_has p__law_rules p_contains : Mm} (q_has : MetR P w K mg base 1 7 "has" (κ K) p_has) (c__law_rules : CalR P w K mg base 1 "_law_rules" (κ K) p__law_rules []) (o_contains : OwnR P w K mg base 1 7 "__contains__" (κ K) p_contains) (c_itr : ItrR P w K mg base 1 7 "names" (κ K)) {f : Addr} {fd : FuncData} {dvs : List V} {x qual : Str} (F : FunD K x qual (defArgs s__law_holds) (defBody s__law_holds) (defScope s__law_holds) dvs [] f fd) : FnOk P w K mg base (L2.CX P w) 4 f fd ["policy", "names"] (spR (κ K) (m__law_holds p_has p__law_rules p_contains)) := by
  refine fd_ok (κ := κ K) (j := 3) F sc__law_holds rfl rfl rfl fun cdv A outer s H E hr => ?_
  exact (rs_cons (rs_if (PW.pt (rw_or (rt_not (rt_val (re_isi (n := "tuple") rfl (by decide) T.n_isinstance T.n_tuple (by first | rfl | decide +kernel) (re_fld rfl T.cls7 T.na_names (rv 0))))) (pw_or1 (rt_cmp (or_ne hr.units) ok_ne (re_list rfl T.n_list (ra_cons (re_fld rfl T.cls7 T.na_names (rv 0)) ra_nil)) (rv 1))))) (rs_one (rs_ret re_bl)) rs_nil)
  (rs_cons (rs_if (PW.pt (rw_or (rt_cmp (or_ne hr.units) ok_ne (re_lo rfl rfl c_itr hr T.n_list (ra_cons (rv 0) ra_nil)) (rv 1)) (pw_or1 (rt_cmp (or_ne hr.units) ok_ne (re_lc (own := [("name", 2)]) rfl rfl (sc__law_holds).nd (ri_o rfl c_itr hr (rv 0)) (blk_by (N := N__law_holds) (sc := defScope s__law_holds) (own := [("name", 2)]) (by decide +kernel)) (tg_name (i := 2) (by intro _ q; exact nomatch q)) (wipe_name (by simp)) (fun _ _ _ _ _ => pg_name (i := 2) (sc__law_holds).nd rfl (Or.inl rfl)) (fun _ _ _ _ _ => (rv 2))) (rv 1))))) (rs_one (rs_ret re_bl)) rs_nil)
  (rs_cons (rs_for (passes_of rfl) rfl (ri_seq rfl (re_bin or_add ok_add (re_c0 c__law_rules hr) (re_lst (ra_cons re_str (ra_cons re_str (ra_cons re_str ra_nil)))))) (pg_name (i := 2) (sc__law_holds).nd rfl (Or.inl rfl)) (tg_name (i := 2) (by intro _ q; exact nomatch q)) (rs_one (rs_if (PW.pt (rw_or (rt_cmp (or_ne hr.units) ok_ne (re_m rfl q_has hr (rv 0) (ra_cons (rv 2) ra_nil)) (re_cmp or_in ok_in (rv 2) (rv 1))) (pw_or1 (rt_cmp (or_ne hr.units) ok_ne (re_cmp (or_ownIn o_contains hr) ok_ownIn (rv 2) (rv 0)) (re_cmp or_in ok_in (rv 2) (rv 1)))))) (rs_one (rs_ret re_bl)) rs_nil)))
  (rs_one (rs_ret (re_or (re_cmp or_is ok_is (re_m rfl q_has hr (rv 0) (ra_cons re_str ra_nil)) re_bl) (pe_one (re_cmp or_is ok_is (re_m rfl q_has hr (rv 0) (ra_cons re_str ra_nil)) re_bl))))))))
abbrev s__law_refused : Stmt := top 27
def N__law_refused : List Str := ["names", "e", "other_kind"]
theorem sc__law_refused : FnScope N__law_refused ["names"] (defScope s__law_refused) := ⟨rfl, rfl, rfl, by decide +kernel, rfl, by decide +kernel, by decide +kernel⟩
def pc__law_refused_0 (p_init : Mm) : Pc := ⟨fun c => c == 3, 1, fun c fs => (seq (asg (con (.bl false)) (nameT 2))
  (ifS (andT (tst (con (.bl true))) (andT (tst (con (.bl true))) (notT (tst (var 2))))) (retE (exF fs "name")) skip))⟩
def b__law_refused (p_init : Mm) : Sx := (seq (tryE 7 (dropE (mkE 7 p_init [] (aCons (var 0) aNil))) [(pc__law_refused_0 p_init)])
  (retE (con (.str "accepted"))))
def m__law_refused (p_init : Mm) : Mm := defM 1 2 (b__law_refused p_init)
theorem f__law_refused (T : Txt P w K mg) {p_init : Mm} (k_Policy : MakR P w K mg base 3 "Policy" 7 (κ K) p_init []) {f : Addr} {fd : FuncData} {dvs : List V} {x qual : Str} (F : FunD K x qual (defArgs s__law_refused) (defBody s__law_refused) (defScope s__law_refused) dvs [] f fd) : FnOk P w K mg base (L2.CX P w) 5 f fd ["names"] (spR (κ K) (m__law_refused p_init)) := by
  refine fd_ok (κ := κ K) (j := 4) F sc__law_refused rfl rfl rfl fun cdv A outer s H E hr => ?_
  exact (rs_cons (rs_try (ncls := 7) (l := [(pc__law_refused_0 p_init)]) (vs := [.ref (He.ga K "PolicyError")]) rfl rfl rfl rfl (sc__law_refused).nd (takes_of rfl rfl rfl rfl) (fun W pn xe tk hp => (rs_one (rs_expr (re_k k_Policy hr tk (ra_cons (rv 0) ra_nil))))) rfl (fun j k v h1 h2 c hc => exm_one (T.em_PolicyError) h1 h2 hc) (.cons rfl rfl ⟨rfl, by decide, Or.inl T.g_PolicyError⟩ (fun a oe cls d pn hz hf => suite_ok (k := pc__law_refused_0 p_init) (ncls := 7) fun c fs dd hc ht e1 e2 => by
      subst e1 e2
      obtain rfl : c = 3 := by simpa [pc__law_refused_0] using ht
      exact (rs_cons (rs_set (i := 2) (sc__law_refused).nd rfl (Or.inl rfl) (re_isxT rfl T.ed_PolicyError hz hf (.cons (.own _) (.cons (.own _) (.cons (.own _) (.cons (.own _) (.cons (.own _) (.cons (.own _) .nil)))))) T.k_PolicyError_T_I_G_A_S_D T.n_isinstance (pv 1) (.cons (pe_glob (v := .ref (He.ga K "TextError")) (by rfl) T.g_TextError rfl) rfl (.cons (pe_glob (v := .ref (He.ga K "InstructionError")) (by rfl) T.g_InstructionError rfl) rfl (.cons (pe_glob (v := .ref (He.ga K "GuestError")) (by rfl) T.g_GuestError rfl) rfl (.cons (pe_glob (v := .ref (He.ga K "ActionError")) (by rfl) T.g_ActionError rfl) rfl (.cons (pe_glob (v := .ref (He.ga K "SettingError")) (by rfl) T.g_SettingError rfl) rfl (.cons (pe_glob (v := .ref (He.ga K "DebuggerError")) (by rfl) T.g_DebuggerError rfl) rfl .nil))))))) (hk := by intro y q; cases q; exact Nat.ne_of_beq_eq_false rfl))
  (rs_one (rs_if (PW.pt (rw_and (rt_val (re_isx1 rfl T.ed_PolicyError hz hf (.own _) T.k_PolicyError_GuestlivesError T.n_isinstance (pv 1) (pe_glob (v := .ref (He.ga K "GuestlivesError")) (by rfl) T.g_GuestlivesError rfl))) (rw_and (rt_val (re_isx1 rfl T.ed_PolicyError hz hf (.ty "ValueError") T.k_PolicyError_ValueError T.n_isinstance (pv 1) (pe_bty (by rfl) T.n_ValueError (by first | rfl | decide +kernel)))) (pw_and1 (rt_not (rt_val (rv 2))))))) (rs_one (rs_ret (re_exF rfl T.xf_PolicyError T.no_PolicyError hz hf (pv 1)))) rs_nil)))) .nil))
  (rs_one (rs_ret re_str)))
abbrev s__law_wrong_names : Stmt := top 28
def N__law_wrong_names : List Str := ["row", "names", "wrong", "place", "bad", "first", "double", "late"]
theorem sc__law_wrong_names : FnScope N__law_wrong_names ["row", "names"] (defScope s__law_wrong_names) := ⟨rfl, rfl, rfl, by decide +kernel, rfl, by decide +kernel, by decide +kernel⟩
def b__law_wrong_names (p__law_refused p__law_pick : Mm) : Sx := (seq (asg (op2 ixO (lstE (aCons (con (.str "")) (aCons (con (.str "Eager")) (aCons (con (.str "eager ")) (aCons (con (.str "singles")) (aCons (con (.str "no link")) (aCons (con (.str "flush")) aNil))))))) (callE p__law_pick [] (aCons (var 0) (aCons (con (.int 90)) (aCons (con (.int 6)) aNil))))) (nameT 2))
  (seq (asg (callE p__law_pick [] (aCons (var 0) (aCons (con (.int 92)) (aCons (op2 addO (bE lenM (aCons (var 1) aNil)) (con (.int 1))) aNil)))) (nameT 3))
  (seq (asg (op2 addO (op2 addO (slE (var 1) noP (atP (var 3))) (lstE (aCons (var 2) aNil))) (slE (var 1) (atP (var 3)) noP)) (nameT 4))
  (seq (ifS (orT (tst (op2 neO (callE p__law_refused [] (aCons (var 4) aNil)) (var 2))) (tst (op2 neO (callE p__law_refused [] (aCons (op2 addO (var 4) (lstE (aCons (con (.str "stop_pages")) aNil))) aNil)) (var 2)))) (retE (con (.bl false))) skip)
  (seq (ifS (tst (op2 eqO (bE lenM (aCons (var 1) aNil)) (con (.int 0)))) (retE (con (.bl true))) skip)
  (seq (asg (callE p__law_pick [] (aCons (var 0) (aCons (con (.int 94)) (aCons (bE lenM (aCons (var 1) aNil)) aNil)))) (nameT 5))
  (seq (asg (op2 addO (var 1) (lstE (aCons (op2 ixO (var 1) (var 5)) aNil))) (nameT 6))
  (seq (ifS (orT (tst (op2 neO (callE p__law_refused [] (aCons (var 6) aNil)) (op2 ixO (var 1) (var 5)))) (tst (op2 neO (callE p__law_refused [] (aCons (op2 addO (var 6) (lstE (aCons (var 2) aNil))) aNil)) (op2 ixO (var 1) (var 5))))) (retE (con (.bl false))) skip)
  (seq (asg (op2 addO (op2 addO (slE (var 1) noP (atP (op2 addO (var 5) (con (.int 1))))) (lstE (aCons (op2 ixO (var 1) (var 5)) aNil))) (slE (var 1) (atP (op2 addO (var 5) (con (.int 1)))) noP)) (nameT 7))
  (retE (andV (op2 eqO (callE p__law_refused [] (aCons (var 7) aNil)) (op2 ixO (var 1) (var 5))) (op2 eqO (callE p__law_refused [] (aCons (op2 addO (lstE (aCons (var 2) aNil)) (var 7)) aNil)) (var 2)))))))))))))
def m__law_wrong_names (p__law_refused p__law_pick : Mm) : Mm := defM 2 6 (b__law_wrong_names p__law_refused p__law_pick)
theorem f__law_wrong_names (T : Txt P w K mg) {p__law_refused p__law_pick : Mm} (c__law_refused : CalR P w K mg base 5 "_law_refused" (κ K) p__law_refused []) (c__law_pick : CalR P w K mg base 1 "_law_pick" (κ K) p__law_pick []) {f : Addr} {fd : FuncData} {dvs : List V} {x qual : Str} (F : FunD K x qual (defArgs s__law_wrong_names) (defBody s__law_wrong_names) (defScope s__law_wrong_names) dvs [] f fd) : FnOk P w K mg base (L2.CX P w) 6 f fd ["row", "names"] (spR (κ K) (m__law_wrong_names p__law_refused p__law_pick)) := by
  refine fd_ok (κ := κ K) (j := 5) F sc__law_wrong_names rfl rfl rfl fun cdv A outer s H E hr => ?_
  exact (rs_cons (rs_set (i := 2) (sc__law_wrong_names).nd rfl (Or.inl rfl) (re_ix rfl (re_lst (ra_cons re_str (ra_cons re_str (ra_cons re_str (ra_cons re_str (ra_cons re_str (ra_cons re_str ra_nil))))))) (re_c c__law_pick hr (takes_of rfl rfl rfl rfl) (ra_cons (rv 0) (ra_cons re_int (ra_cons re_int ra_nil))))))
  (rs_cons (rs_set (i := 3) (sc__law_wrong_names).nd rfl (Or.inl rfl) (re_c c__law_pick hr (takes_of rfl rfl rfl rfl) (ra_cons (rv 0) (ra_cons re_int (ra_cons (re_bin or_add ok_add (re_len rfl T.n_len (ra_cons (rv 1) ra_nil)) re_int) ra_nil)))))
  (rs_cons (rs_set (i := 4) (sc__law_wrong_names).nd rfl (Or.inl rfl) (re_bin or_add ok_add (re_bin or_add ok_add (re_sl rfl (rv 1) ro_none (ro_some (rv 3))) (re_lst (ra_cons (rv 2) ra_nil))) (re_sl rfl (rv 1) (ro_some (rv 3)) ro_none)))
  (rs_cons (rs_if (PW.pt (rw_or (rt_cmp (or_ne hr.units) ok_ne (re_c c__law_refused hr (takes_of rfl rfl rfl rfl) (ra_cons (rv 4) ra_nil)) (rv 2)) (pw_or1 (rt_cmp (or_ne hr.units) ok_ne (re_c c__law_refused hr (takes_of rfl rfl rfl rfl) (ra_cons (re_bin or_add ok_add (rv 4) (re_lst (ra_cons re_str ra_nil))) ra_nil)) (rv 2))))) (rs_one (rs_ret re_bl)) rs_nil)
  (rs_cons (rs_if (rt_cmp (or_eq hr.units) ok_eq (re_len rfl T.n_len (ra_cons (rv 1) ra_nil)) re_int) (rs_one (rs_ret re_bl)) rs_nil)
  (rs_cons (rs_set (i := 5) (sc__law_wrong_names).nd rfl (Or.inl rfl) (re_c c__law_pick hr (takes_of rfl rfl rfl rfl) (ra_cons (rv 0) (ra_cons re_int (ra_cons (re_len rfl T.n_len (ra_cons (rv 1) ra_nil)) ra_nil)))))
  (rs_cons (rs_set (i := 6) (sc__law_wrong_names).nd rfl (Or.inl rfl) (re_bin or_add ok_add (rv 1) (re_lst (ra_cons (re_ix rfl (rv 1) (rv 5)) ra_nil))))
  (rs_cons (rs_if (PW.pt (rw_or (rt_cmp (or_ne hr.units) ok_ne (re_c c__law_refused hr (takes_of rfl rfl rfl rfl) (ra_cons (rv 6) ra_nil)) (re_ix rfl (rv 1) (rv 5))) (pw_or1 (rt_cmp (or_ne hr.units) ok_ne (re_c c__law_refused hr (takes_of rfl rfl rfl rfl) (ra_cons (re_bin or_add ok_add (rv 6) (re_lst (ra_cons (rv 2) ra_nil))) ra_nil)) (re_ix rfl (rv 1) (rv 5)))))) (rs_one (rs_ret re_bl)) rs_nil)
  (rs_cons (rs_set (i := 7) (sc__law_wrong_names).nd rfl (Or.inl rfl) (re_bin or_add ok_add (re_bin or_add ok_add (re_sl rfl (rv 1) ro_none (ro_some (re_bin or_add ok_add (rv 5) re_int))) (re_lst (ra_cons (re_ix rfl (rv 1) (rv 5)) ra_nil))) (re_sl rfl (rv 1) (ro_some (re_bin or_add ok_add (rv 5) re_int)) ro_none)))
  (rs_one (rs_ret (re_and (re_cmp (or_eq hr.units) ok_eq (re_c c__law_refused hr (takes_of rfl rfl rfl rfl) (ra_cons (rv 7) ra_nil)) (re_ix rfl (rv 1) (rv 5))) (pe_one (re_cmp (or_eq hr.units) ok_eq (re_c c__law_refused hr (takes_of rfl rfl rfl rfl) (ra_cons (re_bin or_add ok_add (re_lst (ra_cons (rv 2) ra_nil)) (rv 7)) ra_nil)) (rv 2)))))))))))))))
abbrev s__law_digit : Stmt := top 29
def N__law_digit : List Str := ["row", "at"]
theorem sc__law_digit : FnScope N__law_digit ["row", "at"] (defScope s__law_digit) := ⟨rfl, rfl, rfl, by decide +kernel, rfl, by decide +kernel, by decide +kernel⟩
def b__law_digit : Sx := (seq (ifS (tst (op2 ltO (var 1) (bE lenM (aCons (var 0) aNil)))) (retE (op2 ixO (var 0) (var 1))) skip)
  (retE (con (.int 0))))
def m__law_digit : Mm := defM 2 0 (b__law_digit)
theorem f__law_digit (T : Txt P w K mg) {f : Addr} {fd : FuncData} {dvs : List V} {x qual : Str} (F : FunD K x qual (defArgs s__law_digit) (defBody s__law_digit) (defScope s__law_digit) dvs [] f fd) : FnOk P w K mg base (L2.CX P w) 1 f fd ["row", "at"] (spR (κ K) (m__law_digit)) := by
  refine fd_ok (κ := κ K) (j := 0) F sc__law_digit rfl rfl rfl fun cdv A outer s H E hr => ?_
  exact (rs_cons (rs_if (rt_cmp op_lt ok_ord (rv 1) (re_len rfl T.n_len (ra_cons (rv 0) ra_nil))) (rs_one (rs_ret (re_ix rfl (rv 0) (rv 1)))) rs_nil)
  (rs_one (rs_ret re_int)))
abbrev s__law_whole : Stmt := top 30
def N__law_whole : List Str := ["value"]
theorem sc__law_whole : FnScope N__law_whole ["value"] (defScope s__law_whole) := ⟨rfl, rfl, rfl, by decide +kernel, rfl, by decide +kernel, by decide +kernel⟩
def b__law_whole : Sx := (retE (andV (isE "int" (var 0)) (notV (isE "bool" (var 0)))))
def m__law_whole : Mm := defM 1 0 (b__law_whole)
theorem f__law_whole (T : Txt P w K mg) {f : Addr} {fd : FuncData} {dvs : List V} {x qual : Str} (F : FunD K x qual (defArgs s__law_whole) (defBody s__law_whole) (defScope s__law_whole) dvs [] f fd) : FnOk P w K mg base (L2.CX P w) 1 f fd ["value"] (spR (κ K) (m__law_whole)) := by
  refine fd_ok (κ := κ K) (j := 0) F sc__law_whole rfl rfl rfl fun cdv A outer s H E hr => ?_
  exact (rs_one (rs_ret (re_and (re_isi (n := "int") rfl (by decide) T.n_isinstance T.n_int (by first | rfl | decide +kernel) (rv 0)) (pe_one (re_not (re_isi (n := "bool") rfl (by decide) T.n_isinstance T.n_bool (by first | rfl | decide +kernel) (rv 0)))))))
abbrev s__law_equal : Stmt := top 31
def N__law_equal : List Str := ["actual", "expected", "waiting", "k", "pair", "one", "due", "j", "key"]
theorem sc__law_equal : FnScope N__law_equal ["actual", "expected"] (defScope s__law_equal) := ⟨rfl, rfl, rfl, by decide +kernel, rfl, by decide +kernel, by decide +kernel⟩
def b__law_equal (p__law_whole : Mm) : Sx := (seq (asg (lstE (aCons (tupE (aCons (var 0) (aCons (var 1) aNil))) aNil)) (nameT 2))
  (seq (forE (itRng1 (aCons (con (.int 6000)) aNil)) (nameT 3) (seq (ifS (tst (op2 eqO (bE lenM (aCons (var 2) aNil)) (con (.int 0)))) (retE (con (.bl true))) skip)
  (seq (asg (mE0 isL popM (var 2)) (nameT 4))
  (seq (asg (op2 ixO (var 4) (con (.int 0))) (nameT 5))
  (seq (asg (op2 ixO (var 4) (con (.int 1))) (nameT 6))
  (ifS (orT (tst (op2 isO (var 6) (con .non))) (tst (isE "bool" (var 6)))) (ifS (orT (tst (op2 neO (isE "bool" (var 5)) (isE "bool" (var 6)))) (tst (op2 neO (var 5) (var 6)))) (retE (con (.bl false))) skip) (ifS (tst (isE "int" (var 6))) (ifS (orT (notT (tst (callE p__law_whole [] (aCons (var 5) aNil)))) (tst (op2 neO (var 5) (var 6)))) (retE (con (.bl false))) skip) (ifS (tst (isE "str" (var 6))) (ifS (orT (notT (tst (isE "str" (var 5)))) (tst (op2 neO (var 5) (var 6)))) (retE (con (.bl false))) skip) (seq (ifS (orT (tst (op2 neO (isE "list" (var 5)) (isE "list" (var 6)))) (tst (op2 neO (isE "tuple" (var 5)) (isE "tuple" (var 6))))) (retE (con (.bl false))) skip)
  (seq (ifS (tst (isE "dict" (var 6))) badS skip)
  (seq (ifS (tst (op2 neO (bE lenM (aCons (var 5) aNil)) (bE lenM (aCons (var 6) aNil)))) (retE (con (.bl false))) skip)
  (forE (itRng1 (aCons (bE lenM (aCons (var 6) aNil)) aNil)) (nameT 7) (dropE (mE isL appM (var 2) (aCons (tupE (aCons (op2 ixO (var 5) (var 7)) (aCons (op2 ixO (var 6) (var 7)) aNil))) aNil)))))))))))))))
  (retE (con (.bl false)))))
def m__law_equal (p__law_whole : Mm) : Mm := defM 2 7 (b__law_equal p__law_whole)
theorem f__law_equal (T : Txt P w K mg) {p__law_whole : Mm} (c__law_whole : CalR P w K mg base 1 "_law_whole" (κ K) p__law_whole []) {f : Addr} {fd : FuncData} {dvs : List V} {x qual : Str} (F : FunD K x qual (defArgs s__law_equal) (defBody s__law_equal) (defScope s__law_equal) dvs [] f fd) : FnOk P w K mg base (L2.CX P w) 2 f fd ["actual", "expected"] (spR (κ K) (m__law_equal p__law_whole)) := by
  refine fd_ok (κ := κ K) (j := 1) F sc__law_equal rfl rfl rfl fun cdv A outer s H E hr => ?_
  exact (rs_cons (rs_set (i := 2) (sc__law_equal).nd rfl (Or.inl rfl) (re_lst (ra_cons (re_tup (ra_cons (rv 0) (ra_cons (rv 1) ra_nil))) ra_nil)))
  (rs_cons (rs_for (passes_of rfl) rfl (ri_range1 T.n_range (ra_cons re_int ra_nil)) (pg_name (i := 3) (sc__law_equal).nd rfl (Or.inl rfl)) (tg_name (i := 3) (by intro _ q; exact nomatch q)) (rs_cons (rs_if (rt_cmp (or_eq hr.units) ok_eq (re_len rfl T.n_len (ra_cons (rv 2) ra_nil)) re_int) (rs_one (rs_ret re_bl)) rs_nil)
  (rs_cons (rs_set (i := 4) (sc__law_equal).nd rfl (Or.inl rfl) (re_bm0 rfl tk_lst mk_pop PySem.F.plainAttrs_list PySem.F.slot_list_pop PySem.F.type_list_pop mt_pop (rv 2)))
  (rs_cons (rs_set (i := 5) (sc__law_equal).nd rfl (Or.inr rfl) (re_ix rfl (rv 4) re_int))
  (rs_cons (rs_set (i := 6) (sc__law_equal).nd rfl (Or.inr rfl) (re_ix rfl (rv 4) re_int))
  (rs_one (rs_if (PW.pt (rw_or (rt_cmp or_is ok_is (rv 6) re_non) (pw_or1 (rt_val (re_isi (n := "bool") rfl (by decide) T.n_isinstance T.n_bool (by first | rfl | decide +kernel) (rv 6)))))) (rs_one (rs_if (PW.pt (rw_or (rt_cmp (or_ne hr.units) ok_ne (re_isi (n := "bool") rfl (by decide) T.n_isinstance T.n_bool (by first | rfl | decide +kernel) (rv 5)) (re_isi (n := "bool") rfl (by decide) T.n_isinstance T.n_bool (by first | rfl | decide +kernel) (rv 6))) (pw_or1 (rt_cmp (or_ne hr.units) ok_ne (rv 5) (rv 6))))) (rs_one (rs_ret re_bl)) rs_nil)) (rs_one (rs_if (rt_val (re_isi (n := "int") rfl (by decide) T.n_isinstance T.n_int (by first | rfl | decide +kernel) (rv 6))) (rs_one (rs_if (PW.pt (rw_or (rt_not (rt_val (re_c c__law_whole hr (takes_of rfl rfl rfl rfl) (ra_cons (rv 5) ra_nil)))) (pw_or1 (rt_cmp (or_ne hr.units) ok_ne (rv 5) (rv 6))))) (rs_one (rs_ret re_bl)) rs_nil)) (rs_one (rs_if (rt_val (re_isi (n := "str") rfl (by decide) T.n_isinstance T.n_str (by first | rfl | decide +kernel) (rv 6))) (rs_one (rs_if (PW.pt (rw_or (rt_not (rt_val (re_isi (n := "str") rfl (by decide) T.n_isinstance T.n_str (by first | rfl | decide +kernel) (rv 5)))) (pw_or1 (rt_cmp (or_ne hr.units) ok_ne (rv 5) (rv 6))))) (rs_one (rs_ret re_bl)) rs_nil)) (rs_cons (rs_if (PW.pt (rw_or (rt_cmp (or_ne hr.units) ok_ne (re_isi (n := "list") rfl (by decide) T.n_isinstance T.n_list (by first | rfl | decide +kernel) (rv 5)) (re_isi (n := "list") rfl (by decide) T.n_isinstance T.n_list (by first | rfl | decide +kernel) (rv 6))) (pw_or1 (rt_cmp (or_ne hr.units) ok_ne (re_isi (n := "tuple") rfl (by decide) T.n_isinstance T.n_tuple (by first | rfl | decide +kernel) (rv 5)) (re_isi (n := "tuple") rfl (by decide) T.n_isinstance T.n_tuple (by first | rfl | decide +kernel) (rv 6)))))) (rs_one (rs_ret re_bl)) rs_nil)
  (rs_cons (rs_if (rt_val (re_isi (n := "dict") rfl (by decide) T.n_isinstance T.n_dict (by first | rfl | decide +kernel) (rv 6))) rss_bad rs_nil)
  (rs_cons (rs_if (rt_cmp (or_ne hr.units) ok_ne (re_len rfl T.n_len (ra_cons (rv 5) ra_nil)) (re_len rfl T.n_len (ra_cons (rv 6) ra_nil))) (rs_one (rs_ret re_bl)) rs_nil)
  (rs_one (rs_for (passes_of rfl) rfl (ri_range1 T.n_range (ra_cons (re_len rfl T.n_len (ra_cons (rv 6) ra_nil)) ra_nil)) (pg_name (i := 7) (sc__law_equal).nd rfl (Or.inl rfl)) (tg_name (i := 7) (by intro _ q; exact nomatch q)) (rs_one (rs_expr (re_bm rfl tk_lst mk_app PySem.F.plainAttrs_list PySem.F.slot_list_append PySem.F.type_list_append mt_append (rv 2) (ra_cons (re_tup (ra_cons (re_ix rfl (rv 5) (rv 7)) (ra_cons (re_ix rfl (rv 6) (rv 7)) ra_nil))) ra_nil))))))))))))))))))))
  (rs_one (rs_ret re_bl))))
abbrev s__law_number : Stmt := top 32
def N__law_number : List Str := ["names", "number", "place", "name"]
theorem sc__law_number : FnScope N__law_number ["names"] (defScope s__law_number) := ⟨rfl, rfl, rfl, by decide +kernel, rfl, by decide +kernel, by decide +kernel⟩
def b__law_number (p__law_rules : Mm) : Sx := (seq (asg (con (.int 0)) (nameT 1))
  (seq (asg (con (.int 1)) (nameT 2))
  (seq (forE (itE (call0 p__law_rules [])) (nameT 3) (seq (ifS (tst (op2 (inO false) (var 3) (var 0))) (asg (op2 addO (var 1) (var 2)) (nameT 1)) skip)
  (asg (op2 mulO (con (.int 2)) (var 2)) (nameT 2))))
  (retE (var 1)))))
def m__law_number (p__law_rules : Mm) : Mm := defM 1 3 (b__law_number p__law_rules)
theorem f__law_number (T : Txt P w K mg) {p__law_rules : Mm} (c__law_rules : CalR P w K mg base 1 "_law_rules" (κ K) p__law_rules []) {f : Addr} {fd : FuncData} {dvs : List V} {x qual : Str} (F : FunD K x qual (defArgs s__law_number) (defBody s__law_number) (defScope s__law_number) dvs [] f fd) : FnOk P w K mg base (L2.CX P w) 2 f fd ["names"] (spR (κ K) (m__law_number p__law_rules)) := by
  refine fd_ok (κ := κ K) (j := 1) F sc__law_number rfl rfl rfl fun cdv A outer s H E hr => ?_
  exact (rs_cons (rs_set (i := 1) (sc__law_number).nd rfl (Or.inl rfl) re_int)
  (rs_cons (rs_set (i := 2) (sc__law_number).nd rfl (Or.inl rfl) re_int)
  (rs_cons (rs_for (passes_of rfl) rfl (ri_seq rfl (re_c0 c__law_rules hr)) (pg_name (i := 3) (sc__law_number).nd rfl (Or.inl rfl)) (tg_name (i := 3) (by intro _ q; exact nomatch q)) (rs_cons (rs_if (rt_cmp or_in ok_in (rv 3) (rv 0)) (rs_one (rs_set (i := 1) (sc__law_number).nd rfl (Or.inl rfl) (re_bin or_add ok_add (rv 1) (rv 2)))) rs_nil)
  (rs_one (rs_set (i := 2) (sc__law_number).nd rfl (Or.inl rfl) (re_bin or_mul ok_mul re_int (rv 2))))))
  (rs_one (rs_ret (rv 1))))))
abbrev s__law_numbered : Stmt := top 33
def N__law_numbered : List Str := ["number", "names", "rest", "name"]
theorem sc__law_numbered : FnScope N__law_numbered ["number"] (defScope s__law_numbered) := ⟨rfl, rfl, rfl, by decide +kernel, rfl, by decide +kernel, by decide +kernel⟩
def b__law_numbered (p__law_rules : Mm) : Sx := (seq (asg (lstE aNil) (nameT 1))
  (seq (asg (var 0) (nameT 2))
  (seq (forE (itE (call0 p__law_rules [])) (nameT 3) (seq (ifS (tst (op2 eqO (op2 modO (bE intM (aCons (var 2) aNil)) (con (.int 2))) (con (.int 1)))) (dropE (mE isL appM (var 1) (aCons (var 3) aNil))) skip)
  (asg (op2 fdivO (var 2) (con (.int 2))) (nameT 2))))
  (retE (var 1)))))
def m__law_numbered (p__law_rules : Mm) : Mm := defM 1 3 (b__law_numbered p__law_rules)
theorem f__law_numbered (T : Txt P w K mg) {p__law_rules : Mm} (c__law_rules : CalR P w K mg base 1 "_law_rules" (κ K) p__law_rules []) {f : Addr} {fd : FuncData} {dvs : List V} {x qual : Str} (F : FunD K x qual (defArgs s__law_numbered) (defBody s__law_numbered) (defScope s__law_numbered) dvs [] f fd) : FnOk P w K mg base (L2.CX P w) 2 f fd ["number"] (spR (κ K) (m__law_numbered p__law_rules)) := by
  refine fd_ok (κ := κ K) (j := 1) F sc__law_numbered rfl rfl rfl fun cdv A outer s H E hr => ?_
  exact (rs_cons (rs_set (i := 1) (sc__law_numbered).nd rfl (Or.inl rfl) (re_lst ra_nil))
  (rs_cons (rs_set (i := 2) (sc__law_numbered).nd rfl (Or.inl rfl) (rv 0))
  (rs_cons (rs_for (passes_of rfl) rfl (ri_seq rfl (re_c0 c__law_rules hr)) (pg_name (i := 3) (sc__law_numbered).nd rfl (Or.inl rfl)) (tg_name (i := 3) (by intro _ q; exact nomatch q)) (rs_cons (rs_if (rt_cmp (or_eq hr.units) ok_eq (re_bin op_mod ok_mod (re_int1 T.n_int (ra_cons (rv 2) ra_nil)) re_int) re_int) (rs_one (rs_expr (re_bm rfl tk_lst mk_app PySem.F.plainAttrs_list PySem.F.slot_list_append PySem.F.type_list_append mt_append (rv 1) (ra_cons (rv 3) ra_nil)))) rs_nil)
  (rs_one (rs_set (i := 2) (sc__law_numbered).nd rfl (Or.inl rfl) (re_bin op_fdiv ok_fdiv (rv 2) re_int)))))
  (rs_one (rs_ret (rv 1))))))
abbrev s__law_both : Stmt := top 34
def N__law_both : List Str := ["number", "names", "policy"]
theorem sc__law_both : FnScope N__law_both ["number"] (defScope s__law_both) := ⟨rfl, rfl, rfl, by decide +kernel, rfl, by decide +kernel, by decide +kernel⟩
def b__law_both (p_init p_policy_number p__law_equal p__law_number p_policy_numbered p__law_numbered : Mm) : Sx := (seq (asg (callE p__law_numbered [] (aCons (var 0) aNil)) (nameT 1))
  (seq (asg (callE p_policy_numbered [] (aCons (var 0) aNil)) (nameT 2))
  (seq (ifS (orT (notT (tst (callE p__law_equal [] (aCons (fldE 7 "names" (var 2)) (aCons (bE tupM (aCons (var 1) aNil)) aNil))))) (tst (op2 neO (callE p__law_number [] (aCons (var 1) aNil)) (var 0)))) (retE (con (.bl false))) skip)
  (retE (andV (callE p__law_equal [] (aCons (callE p_policy_number [] (aCons (var 2) aNil)) (aCons (var 0) aNil))) (callE p__law_equal [] (aCons (callE p_policy_number [] (aCons (mkE 7 p_init [] (aCons (var 1) aNil)) aNil)) (aCons (var 0) aNil))))))))
def m__law_both (p_init p_policy_number p__law_equal p__law_number p_policy_numbered p__law_numbered : Mm) : Mm := defM 1 2 (b__law_both p_init p_policy_number p__law_equal p__law_number p_policy_numbered p__law_numbered)
theorem f__law_both (T : Txt P w K mg) {p_init p_policy_number p__law_equal p__law_number p_policy_numbered p__law_numbered : Mm} (k_Policy : MakR P w K mg base 3 "Policy" 7 (κ K) p_init []) (c_policy_number : CalR P w K mg base 2 "policy_number" (κ K) p_policy_number []) (c__law_equal : CalR P w K mg base 2 "_law_equal" (κ K) p__law_equal []) (c__law_number : CalR P w K mg base 2 "_law_number" (κ K) p__law_number []) (c_policy_numbered : CalR P w K mg base 5 "policy_numbered" (κ K) p_policy_numbered []) (c__law_numbered : CalR P w K mg base 2 "_law_numbered" (κ K) p__law_numbered []) {f : Addr} {fd : FuncData} {dvs : List V} {x qual : Str} (F : FunD K x qual (defArgs s__law_both) (defBody s__law_both) (defScope s__law_both) dvs [] f fd) : FnOk P w K mg base (L2.CX P w) 6 f fd ["number"] (spR (κ K) (m__law_both p_init p_policy_number p__law_equal p__law_number p_policy_numbered p__law_numbered)) := by
  refine fd_ok (κ := κ K) (j := 5) F sc__law_both rfl rfl rfl fun cdv A outer s H E hr => ?_
  exact (rs_cons (rs_set (i := 1) (sc__law_both).nd rfl (Or.inl rfl) (re_c c__law_numbered hr (takes_of rfl rfl rfl rfl) (ra_cons (rv 0) ra_nil)))
  (rs_cons (rs_set (i := 2) (sc__law_both).nd rfl (Or.inl rfl) (re_c c_policy_numbered hr (takes_of rfl rfl rfl rfl) (ra_cons (rv 0) ra_nil)))
  (rs_cons (rs_if (PW.pt (rw_or (rt_not (rt_val (re_c c__law_equal hr (takes_of rfl rfl rfl rfl) (ra_cons (re_fld rfl T.cls7 T.na_names (rv 2)) (ra_cons (re_tuple rfl T.n_tuple (ra_cons (rv 1) ra_nil)) ra_nil))))) (pw_or1 (rt_cmp (or_ne hr.units) ok_ne (re_c c__law_number hr (takes_of rfl rfl rfl rfl) (ra_cons (rv 1) ra_nil)) (rv 0))))) (rs_one (rs_ret re_bl)) rs_nil)
  (rs_one (rs_ret (re_and (re_c c__law_equal hr (takes_of rfl rfl rfl rfl) (ra_cons (re_c c_policy_number hr (takes_of rfl rfl rfl rfl) (ra_cons (rv 2) ra_nil)) (ra_cons (rv 0) ra_nil))) (pe_one (re_c c__law_equal hr (takes_of rfl rfl rfl rfl) (ra_cons (re_c c_policy_number hr (takes_of rfl rfl rfl rfl) (ra_cons (re_k k_Policy hr (takes_of rfl rfl rfl rfl) (ra_cons (rv 1) ra_nil)) ra_nil)) (ra_cons (rv 0) ra_nil))))))))))
abbrev s__law_refused_number : Stmt := top 35
def N__law_refused_number : List Str := ["number", "e", "others"]
theorem sc__law_refused_number : FnScope N__law_refused_number ["number"] (defScope s__law_refused_number) := ⟨rfl, rfl, rfl, by decide +kernel, rfl, by decide +kernel, by decide +kernel⟩
def pc__law_refused_number_0 (p_policy_numbered : Mm) : Pc := ⟨fun c => c == 5, 1, fun c fs => (seq (asg (con (.bl false)) (nameT 2))
  (retE (andV (op2 eqO (exF fs "name") (con (.str "number"))) (andV (con (.bl true)) (andV (con (.bl true)) (notV (var 2)))))))⟩
def b__law_refused_number (p_policy_numbered : Mm) : Sx := (seq (tryE 7 (dropE (callE p_policy_numbered [] (aCons (var 0) aNil))) [(pc__law_refused_number_0 p_policy_numbered)])
  (retE (con (.bl false))))
def m__law_refused_number (p_policy_numbered : Mm) : Mm := defM 1 2 (b__law_refused_number p_policy_numbered)
theorem f__law_refused_number (T : Txt P w K mg) {p_policy_numbered : Mm} (c_policy_numbered : CalR P w K mg base 5 "policy_numbered" (κ K) p_policy_numbered []) {f : Addr} {fd : FuncData} {dvs : List V} {x qual : Str} (F : FunD K x qual (defArgs s__law_refused_number) (defBody s__law_refused_number) (defScope s__law_refused_number) dvs [] f fd) : FnOk P w K mg base (L2.CX P w) 6 f fd ["number"] (spR (κ K) (m__law_refused_number p_policy_numbered)) := by
  refine fd_ok (κ := κ K) (j := 5) F sc__law_refused_number rfl rfl rfl fun cdv A outer s H E hr => ?_
  exact (rs_cons (rs_try (ncls := 7) (l := [(pc__law_refused_number_0 p_policy_numbered)]) (vs := [.ref (He.ga K "SettingError")]) rfl rfl rfl rfl (sc__law_refused_number).nd (takes_of rfl rfl rfl rfl) (fun W pn xe tk hp => (rs_one (rs_expr (re_c c_policy_numbered hr tk (ra_cons (rv 0) ra_nil))))) rfl (fun j k v h1 h2 c hc => exm_one (T.em_SettingError) h1 h2 hc) (.cons rfl rfl ⟨rfl, by decide, Or.inl T.g_SettingError⟩ (fun a oe cls d pn hz hf => suite_ok (k := pc__law_refused_number_0 p_policy_numbered) (ncls := 7) fun c fs dd hc ht e1 e2 => by
      subst e1 e2
      obtain rfl : c = 5 := by simpa [pc__law_refused_number_0] using ht
      exact (rs_cons (rs_set (i := 2) (sc__law_refused_number).nd rfl (Or.inl rfl) (re_isxT rfl T.ed_SettingError hz hf (.cons (.own _) (.cons (.own _) (.cons (.own _) (.cons (.own _) (.cons (.own _) (.cons (.own _) .nil)))))) T.k_SettingError_T_I_G_P_A_D T.n_isinstance (pv 1) (.cons (pe_glob (v := .ref (He.ga K "TextError")) (by rfl) T.g_TextError rfl) rfl (.cons (pe_glob (v := .ref (He.ga K "InstructionError")) (by rfl) T.g_InstructionError rfl) rfl (.cons (pe_glob (v := .ref (He.ga K "GuestError")) (by rfl) T.g_GuestError rfl) rfl (.cons (pe_glob (v := .ref (He.ga K "PolicyError")) (by rfl) T.g_PolicyError rfl) rfl (.cons (pe_glob (v := .ref (He.ga K "ActionError")) (by rfl) T.g_ActionError rfl) rfl (.cons (pe_glob (v := .ref (He.ga K "DebuggerError")) (by rfl) T.g_DebuggerError rfl) rfl .nil))))))) (hk := by intro y q; cases q; exact Nat.ne_of_beq_eq_false rfl))
  (rs_one (rs_ret (re_and (re_cmp (or_eq hr.units) ok_eq (re_exF rfl T.xf_SettingError T.no_SettingError hz hf (pv 1)) re_str) (re_and (re_isx1 rfl T.ed_SettingError hz hf (.own _) T.k_SettingError_GuestlivesError T.n_isinstance (pv 1) (pe_glob (v := .ref (He.ga K "GuestlivesError")) (by rfl) T.g_GuestlivesError rfl)) (re_and (re_isx1 rfl T.ed_SettingError hz hf (.ty "ValueError") T.k_SettingError_ValueError T.n_isinstance (pv 1) (pe_bty (by rfl) T.n_ValueError (by first | rfl | decide +kernel))) (pe_one (re_not (rv 2)))))))))) .nil))
  (rs_one (rs_ret re_bl)))
abbrev s__law_refused_name : Stmt := top 36
def N__law_refused_name : List Str := ["name", "e", "others"]
theorem sc__law_refused_name : FnScope N__law_refused_name ["name"] (defScope s__law_refused_name) := ⟨rfl, rfl, rfl, by decide +kernel, rfl, by decide +kernel, by decide +kernel⟩
def pc__law_refused_name_0 (p_describe : Mm) : Pc := ⟨fun c => c == 3, 1, fun c fs => (seq (asg (con (.bl false)) (nameT 2))
  (retE (andV (op2 eqO (exF fs "name") (var 0)) (andV (con (.bl true)) (andV (con (.bl true)) (notV (var 2)))))))⟩
def b__law_refused_name (p_describe : Mm) : Sx := (seq (tryE 7 (dropE (callE p_describe [] (aCons (var 0) aNil))) [(pc__law_refused_name_0 p_describe)])
  (retE (con (.bl false))))
def m__law_refused_name (p_describe : Mm) : Mm := defM 1 2 (b__law_refused_name p_describe)
theorem f__law_refused_name (T : Txt P w K mg) {p_describe : Mm} (c_describe : CalR P w K mg base 3 "describe" (κ K) p_describe []) {f : Addr} {fd : FuncData} {dvs : List V} {x qual : Str} (F : FunD K x qual (defArgs s__law_refused_name) (defBody s__law_refused_name) (defScope s__law_refused_name) dvs [] f fd) : FnOk P w K mg base (L2.CX P w) 4 f fd ["name"] (spR (κ K) (m__law_refused_name p_describe)) := by
  refine fd_ok (κ := κ K) (j := 3) F sc__law_refused_name rfl rfl rfl fun cdv A outer s H E hr => ?_
  exact (rs_cons (rs_try (ncls := 7) (l := [(pc__law_refused_name_0 p_describe)]) (vs := [.ref (He.ga K "PolicyError")]) rfl rfl rfl rfl (sc__law_refused_name).nd (takes_of rfl rfl rfl rfl) (fun W pn xe tk hp => (rs_one (rs_expr (re_c c_describe hr tk (ra_cons (rv 0) ra_nil))))) rfl (fun j k v h1 h2 c hc => exm_one (T.em_PolicyError) h1 h2 hc) (.cons rfl rfl ⟨rfl, by decide, Or.inl T.g_PolicyError⟩ (fun a oe cls d pn hz hf => suite_ok (k := pc__law_refused_name_0 p_describe) (ncls := 7) fun c fs dd hc ht e1 e2 => by
      subst e1 e2
      obtain rfl : c = 3 := by simpa [pc__law_refused_name_0] using ht
      exact (rs_cons (rs_set (i := 2) (sc__law_refused_name).nd rfl (Or.inl rfl) (re_isxT rfl T.ed_PolicyError hz hf (.cons (.own _) (.cons (.own _) (.cons (.own _) (.cons (.own _) (.cons (.own _) (.cons (.own _) .nil)))))) T.k_PolicyError_T_I_G_A_S_D T.n_isinstance (pv 1) (.cons (pe_glob (v := .ref (He.ga K "TextError")) (by rfl) T.g_TextError rfl) rfl (.cons (pe_glob (v := .ref (He.ga K "InstructionError")) (by rfl) T.g_InstructionError rfl) rfl (.cons (pe_glob (v := .ref (He.ga K "GuestError")) (by rfl) T.g_GuestError rfl) rfl (.cons (pe_glob (v := .ref (He.ga K "ActionError")) (by rfl) T.g_ActionError rfl) rfl (.cons (pe_glob (v := .ref (He.ga K "SettingError")) (by rfl) T.g_SettingError rfl) rfl (.cons (pe_glob (v := .ref (He.ga K "DebuggerError")) (by rfl) T.g_DebuggerError rfl) rfl .nil))))))) (hk := by intro y q; cases q; exact Nat.ne_of_beq_eq_false rfl))
  (rs_one (rs_ret (re_and (re_cmp (or_eq hr.units) ok_eq (re_exF rfl T.xf_PolicyError T.no_PolicyError hz hf (pv 1)) (rv 0)) (re_and (re_isx1 rfl T.ed_PolicyError hz hf (.own _) T.k_PolicyError_GuestlivesError T.n_isinstance (pv 1) (pe_glob (v := .ref (He.ga K "GuestlivesError")) (by rfl) T.g_GuestlivesError rfl)) (re_and (re_isx1 rfl T.ed_PolicyError hz hf (.ty "ValueError") T.k_PolicyError_ValueError T.n_isinstance (pv 1) (pe_bty (by rfl) T.n_ValueError (by first | rfl | decide +kernel))) (pe_one (re_not (rv 2)))))))))) .nil))
  (rs_one (rs_ret re_bl)))
abbrev s__law_sentences : Stmt := top 37
def N__law_sentences : List Str := ["name", "told", "words", "wrong"]
theorem sc__law_sentences : FnScope N__law_sentences [] (defScope s__law_sentences) := ⟨rfl, rfl, rfl, by decide +kernel, rfl, by decide +kernel, by decide +kernel⟩
def b__law_sentences (p__law_refused_name p__law_rules p_describe : Mm) : Sx := (seq (forE (itE (call0 p__law_rules [])) (nameT 0) (seq (asg (callE p_describe [] (aCons (var 0) aNil)) (nameT 1))
  (seq (asg (mE isS joinM (con (.str " ")) (aCons (mE isS splitM (var 0) (aCons (con (.str "_")) aNil)) aNil)) (nameT 2))
  (seq (ifS (orT (notT (tst (isE "str" (var 1)))) (tst (op2 (inO true) (var 2) (var 1)))) (retE (con (.bl false))) skip)
  (forE (itE (lstE (aCons (slE (var 0) (atP (con (.int 1))) noP) (aCons (op2 addO (var 0) (con (.str " "))) (aCons (op2 addO (con (.str " ")) (var 0)) (aCons (mE0 isS upperM (var 0)) (aCons (op2 addO (var 0) (con (.str "s"))) (aCons (op2 addO (con (.str "no ")) (var 2)) aNil)))))))) (nameT 3) (ifS (notT (tst (callE p__law_refused_name [] (aCons (var 3) aNil)))) (retE (con (.bl false))) skip))))))
  (retE (andV (callE p__law_refused_name [] (aCons (con (.str "")) aNil)) (andV (callE p__law_refused_name [] (aCons (con (.str "rule")) aNil)) (callE p__law_refused_name [] (aCons (con (.str "track frames")) aNil))))))
def m__law_sentences (p__law_refused_name p__law_rules p_describe : Mm) : Mm := defM 0 4 (b__law_sentences p__law_refused_name p__law_rules p_describe)
theorem f__law_sentences (T : Txt P w K mg) {p__law_refused_name p__law_rules p_describe : Mm} (c__law_refused_name : CalR P w K mg base 4 "_law_refused_name" (κ K) p__law_refused_name []) (c__law_rules : CalR P w K mg base 1 "_law_rules" (κ K) p__law_rules []) (c_describe : CalR P w K mg base 3 "describe" (κ K) p_describe []) {f : Addr} {fd : FuncData} {dvs : List V} {x qual : Str} (F : FunD K x qual (defArgs s__law_sentences) (defBody s__law_sentences) (defScope s__law_sentences) dvs [] f fd) : FnOk P w K mg base (L2.CX P w) 5 f fd [] (spR (κ K) (m__law_sentences p__law_refused_name p__law_rules p_describe)) := by
  refine fd_ok (κ := κ K) (j := 4) F sc__law_sentences rfl rfl rfl fun cdv A outer s H E hr => ?_
  exact (rs_cons (rs_for (passes_of rfl) rfl (ri_seq rfl (re_c0 c__law_rules hr)) (pg_name (i := 0) (sc__law_sentences).nd rfl (Or.inl rfl)) (tg_name (i := 0) (by intro _ q; exact nomatch q)) (rs_cons (rs_set (i := 1) (sc__law_sentences).nd rfl (Or.inl rfl) (re_c c_describe hr (takes_of rfl rfl rfl rfl) (ra_cons (rv 0) ra_nil)))
  (rs_cons (rs_set (i := 2) (sc__law_sentences).nd rfl (Or.inl rfl) (re_bm rfl tk_str mk_join PySem.F.plainAttrs_str PySem.F.slot_str_join PySem.F.type_str_join mt_join re_str (ra_cons (re_bm rfl tk_str mk_split PySem.F.plainAttrs_str PySem.F.slot_str_split PySem.F.type_str_split mt_split (rv 0) (ra_cons re_str ra_nil)) ra_nil)))
  (rs_cons (rs_if (PW.pt (rw_or (rt_not (rt_val (re_isi (n := "str") rfl (by decide) T.n_isinstance T.n_str (by first | rfl | decide +kernel) (rv 1)))) (pw_or1 (rt_cmp or_notIn ok_in (rv 2) (rv 1))))) (rs_one (rs_ret re_bl)) rs_nil)
  (rs_one (rs_for (passes_of rfl) rfl (ri_seq rfl (re_lst (ra_cons (re_sl rfl (rv 0) (ro_some re_int) ro_none) (ra_cons (re_bin or_add ok_add (rv 0) re_str) (ra_cons (re_bin or_add ok_add re_str (rv 0)) (ra_cons (re_bm0 rfl tk_str mk_upper PySem.F.plainAttrs_str PySem.F.slot_str_upper PySem.F.type_str_upper mt_upper (rv 0)) (ra_cons (re_bin or_add ok_add (rv 0) re_str) (ra_cons (re_bin or_add ok_add re_str (rv 2)) ra_nil)))))))) (pg_name (i := 3) (sc__law_sentences).nd rfl (Or.inl rfl)) (tg_name (i := 3) (by intro _ q; exact nomatch q)) (rs_one (rs_if (rt_not (rt_val (re_c c__law_refused_name hr (takes_of rfl rfl rfl rfl) (ra_cons (rv 3) ra_nil)))) (rs_one (rs_ret re_bl)) rs_nil))))))))
  (rs_one (rs_ret (re_and (re_c c__law_refused_name hr (takes_of rfl rfl rfl rfl) (ra_cons re_str ra_nil)) (re_and (re_c c__law_refused_name hr (takes_of rfl rfl rfl rfl) (ra_cons re_str ra_nil)) (pe_one (re_c c__law_refused_name hr (takes_of rfl rfl rfl rfl) (ra_cons re_str ra_nil))))))))
abbrev s__law_numbers : Stmt := top 38
def N__law_numbers : List Str := ["row", "one", "first", "two", "second", "rules", "joined", "apart", "pair", "value", "k", "numbers", "place", "number", "name"]
theorem sc__law_numbers : FnScope N__law_numbers ["row", "one", "first", "two", "second"] (defScope s__law_numbers) := ⟨rfl, rfl, rfl, by decide +kernel, rfl, by decide +kernel, by decide +kernel⟩
def b__law_numbers (p__law_equal p__law_refused_number p__law_both p__law_number p__law_digit p_or p_sub p_policy_number p__law_rules : Mm) : Sx := (seq (asg (call0 p__law_rules []) (nameT 5))
  (seq (asg (lcE [14] (itE (var 5)) (nameT 14) (orT (tst (op2 (inO false) (var 14) (var 2))) (tst (op2 (inO false) (var 14) (var 4)))) (var 14)) (nameT 6))
  (seq (asg (lcE [14] (itE (var 2)) (nameT 14) (tst (op2 (inO true) (var 14) (var 4))) (var 14)) (nameT 7))
  (seq (forE (itE (lstE (aCons (tupE (aCons (var 1) (aCons (var 2) aNil))) (aCons (tupE (aCons (var 3) (aCons (var 4) aNil))) (aCons (tupE (aCons (op2 (ownO 7 p_or) (var 1) (var 3)) (aCons (var 6) aNil))) (aCons (tupE (aCons (op2 (ownO 7 p_sub) (var 1) (var 3)) (aCons (var 7) aNil))) (aCons (tupE (aCons (var 1) (aCons (var 2) aNil))) aNil))))))) (nameT 8) (ifS (notT (tst (callE p__law_equal [] (aCons (callE p_policy_number [] (aCons (op2 ixO (var 8) (con (.int 0))) aNil)) (aCons (callE p__law_number [] (aCons (op2 ixO (var 8) (con (.int 1))) aNil)) aNil))))) (retE (con (.bl false))) skip))
  (seq (asg (con (.int 0)) (nameT 9))
  (seq (forE (itRng1 (aCons (con (.int 8)) aNil)) (nameT 10) (asg (op2 addO (op2 mulO (con (.int 16)) (var 9)) (callE p__law_digit [] (aCons (var 0) (aCons (op2 addO (con (.int 96)) (var 10)) aNil)))) (nameT 9)))
  (seq (asg (op2 modO (bE intM (aCons (op2 addO (var 9) (con (.int 305419896))) aNil)) (con (.int 536870912))) (nameT 9))
  (seq (asg (lstE (aCons (var 9) (aCons (op2 subO (con (.int 536870911)) (var 9)) (aCons (con (.int 0)) (aCons (con (.int 536870911)) (aCons (callE p__law_number [] (aCons (var 2) aNil)) (aCons (callE p__law_number [] (aCons (var 4) aNil)) aNil))))))) (nameT 11))
  (seq (asg (con (.int 1)) (nameT 12))
  (seq (forE (itRng1 (aCons (con (.int 29)) aNil)) (nameT 10) (seq (dropE (mE isL appM (var 11) (aCons (var 12) aNil)))
  (asg (op2 mulO (con (.int 2)) (var 12)) (nameT 12))))
  (seq (forE (itE (var 11)) (nameT 13) (ifS (notT (tst (callE p__law_both [] (aCons (var 13) aNil)))) (retE (con (.bl false))) skip))
  (seq (forE (itE (lstE (aCons (negE (con (.int 1))) (aCons (con (.int 536870912)) (aCons (op2 subO (negE (con (.int 2))) (op2 modO (bE intM (aCons (var 9) aNil)) (con (.int 899)))) (aCons (op2 addO (con (.int 536870913)) (op2 modO (bE intM (aCons (var 9) aNil)) (con (.int 899)))) aNil)))))) (nameT 13) (ifS (notT (tst (callE p__law_refused_number [] (aCons (var 13) aNil)))) (retE (con (.bl false))) skip))
  (retE (callE p__law_equal [] (aCons (tupE (aCons (con u_CODE_RULES) (aCons (con u_VALUE_RULES) (aCons (con u_POLL_RULES) aNil)))) (aCons (tupE (aCons (bE tupM (aCons (slE (var 5) noP (atP (con (.int 18)))) aNil)) (aCons (bE tupM (aCons (slE (var 5) (atP (con (.int 18))) (atP (con (.int 27)))) aNil)) (aCons (bE tupM (aCons (slE (var 5) (atP (con (.int 27))) noP) aNil)) aNil)))) aNil))))))))))))))))
def m__law_numbers (p__law_equal p__law_refused_number p__law_both p__law_number p__law_digit p_or p_sub p_policy_number p__law_rules : Mm) : Mm := defM 5 10 (b__law_numbers p__law_equal p__law_refused_number p__law_both p__law_number p__law_digit p_or p_sub p_policy_number p__law_rules)
theorem f__law_numbers (T : Txt P w K mg) {p__law_equal p__law_refused_number p__law_both p__law_number p__law_digit p_or p_sub p_policy_number p__law_rules : Mm} (c__law_equal : CalR P w K mg base 2 "_law_equal" (κ K) p__law_equal []) (c__law_refused_number : CalR P w K mg base 6 "_law_refused_number" (κ K) p__law_refused_number []) (c__law_both : CalR P w K mg base 6 "_law_both" (κ K) p__law_both []) (c__law_number : CalR P w K mg base 2 "_law_number" (κ K) p__law_number []) (c__law_digit : CalR P w K mg base 1 "_law_digit" (κ K) p__law_digit []) (o_or : OwnR P w K mg base 5 7 "__or__" (κ K) p_or) (o_sub : OwnR P w K mg base 5 7 "__sub__" (κ K) p_sub) (c_policy_number : CalR P w K mg base 2 "policy_number" (κ K) p_policy_number []) (c__law_rules : CalR P w K mg base 1 "_law_rules" (κ K) p__law_rules []) {f : Addr} {fd : FuncData} {dvs : List V} {x qual : Str} (F : FunD K x qual (defArgs s__law_numbers) (defBody s__law_numbers) (defScope s__law_numbers) dvs [] f fd) : FnOk P w K mg base (L2.CX P w) 7 f fd ["row", "one", "first", "two", "second"] (spR (κ K) (m__law_numbers p__law_equal p__law_refused_number p__law_both p__law_number p__law_digit p_or p_sub p_policy_number p__law_rules)) := by
  refine fd_ok (κ := κ K) (j := 6) F sc__law_numbers rfl rfl rfl fun cdv A outer s H E hr => ?_
  exact (rs_cons (rs_set (i := 5) (sc__law_numbers).nd rfl (Or.inl rfl) (re_c0 c__law_rules hr))
  (rs_cons (rs_setLcIf (own := [("name", 14)]) rfl rfl (sc__law_numbers).nd rfl rfl (by rfl) (ri_seq rfl (rv 5)) (blk_by (N := N__law_numbers) (sc := defScope s__law_numbers) (own := [("name", 14)]) (by decide +kernel)) (tg_name (i := 14) (by intro _ q; exact nomatch q)) (wipe_name (by simp)) (fun _ _ _ _ _ => pg_name (i := 14) (sc__law_numbers).nd rfl (Or.inl rfl)) (fun _ _ _ _ _ => (PW.pt (rw_or (rt_cmp or_in ok_in (rv 14) (rv 2)) (pw_or1 (rt_cmp or_in ok_in (rv 14) (rv 4)))))) (fun _ _ _ _ _ => (rv 14)))
  (rs_cons (rs_setLcIf (own := [("name", 14)]) rfl rfl (sc__law_numbers).nd rfl rfl (by rfl) (ri_seq rfl (rv 2)) (blk_by (N := N__law_numbers) (sc := defScope s__law_numbers) (own := [("name", 14)]) (by decide +kernel)) (tg_name (i := 14) (by intro _ q; exact nomatch q)) (wipe_name (by simp)) (fun _ _ _ _ _ => pg_name (i := 14) (sc__law_numbers).nd rfl (Or.inl rfl)) (fun _ _ _ _ _ => (rt_cmp or_notIn ok_in (rv 14) (rv 4))) (fun _ _ _ _ _ => (rv 14)))
  (rs_cons (rs_for (passes_of rfl) rfl (ri_seq rfl (re_lst (ra_cons (re_tup (ra_cons (rv 1) (ra_cons (rv 2) ra_nil))) (ra_cons (re_tup (ra_cons (rv 3) (ra_cons (rv 4) ra_nil))) (ra_cons (re_tup (ra_cons (re_bin (or_own o_or hr) ok_own (rv 1) (rv 3)) (ra_cons (rv 6) ra_nil))) (ra_cons (re_tup (ra_cons (re_bin (or_own o_sub hr) ok_own (rv 1) (rv 3)) (ra_cons (rv 7) ra_nil))) (ra_cons (re_tup (ra_cons (rv 1) (ra_cons (rv 2) ra_nil))) ra_nil))))))) (pg_name (i := 8) (sc__law_numbers).nd rfl (Or.inl rfl)) (tg_name (i := 8) (by intro _ q; exact nomatch q)) (rs_one (rs_if (rt_not (rt_val (re_c c__law_equal hr (takes_of rfl rfl rfl rfl) (ra_cons (re_c c_policy_number hr (takes_of rfl rfl rfl rfl) (ra_cons (re_ix rfl (rv 8) re_int) ra_nil)) (ra_cons (re_c c__law_number hr (takes_of rfl rfl rfl rfl) (ra_cons (re_ix rfl (rv 8) re_int) ra_nil)) ra_nil))))) (rs_one (rs_ret re_bl)) rs_nil)))
  (rs_cons (rs_set (i := 9) (sc__law_numbers).nd rfl (Or.inl rfl) re_int)
  (rs_cons (rs_for (passes_of rfl) rfl (ri_range1 T.n_range (ra_cons re_int ra_nil)) (pg_name (i := 10) (sc__law_numbers).nd rfl (Or.inl rfl)) (tg_name (i := 10) (by intro _ q; exact nomatch q)) (rs_one (rs_set (i := 9) (sc__law_numbers).nd rfl (Or.inl rfl) (re_bin or_add ok_add (re_bin or_mul ok_mul re_int (rv 9)) (re_c c__law_digit hr (takes_of rfl rfl rfl rfl) (ra_cons (rv 0) (ra_cons (re_bin or_add ok_add re_int (rv 10)) ra_nil)))))))
  (rs_cons (rs_set (i := 9) (sc__law_numbers).nd rfl (Or.inl rfl) (re_bin op_mod ok_mod (re_int1 T.n_int (ra_cons (re_bin or_add ok_add (rv 9) re_int) ra_nil)) re_int))
  (rs_cons (rs_set (i := 11) (sc__law_numbers).nd rfl (Or.inl rfl) (re_lst (ra_cons (rv 9) (ra_cons (re_bin op_sub ok_sub re_int (rv 9)) (ra_cons re_int (ra_cons re_int (ra_cons (re_c c__law_number hr (takes_of rfl rfl rfl rfl) (ra_cons (rv 2) ra_nil)) (ra_cons (re_c c__law_number hr (takes_of rfl rfl rfl rfl) (ra_cons (rv 4) ra_nil)) ra_nil))))))))
  (rs_cons (rs_set (i := 12) (sc__law_numbers).nd rfl (Or.inl rfl) re_int)
  (rs_cons (rs_for (passes_of rfl) rfl (ri_range1 T.n_range (ra_cons re_int ra_nil)) (pg_name (i := 10) (sc__law_numbers).nd rfl (Or.inl rfl)) (tg_name (i := 10) (by intro _ q; exact nomatch q)) (rs_cons (rs_expr (re_bm rfl tk_lst mk_app PySem.F.plainAttrs_list PySem.F.slot_list_append PySem.F.type_list_append mt_append (rv 11) (ra_cons (rv 12) ra_nil)))
  (rs_one (rs_set (i := 12) (sc__law_numbers).nd rfl (Or.inl rfl) (re_bin or_mul ok_mul re_int (rv 12))))))
  (rs_cons (rs_for (passes_of rfl) rfl (ri_seq rfl (rv 11)) (pg_name (i := 13) (sc__law_numbers).nd rfl (Or.inl rfl)) (tg_name (i := 13) (by intro _ q; exact nomatch q)) (rs_one (rs_if (rt_not (rt_val (re_c c__law_both hr (takes_of rfl rfl rfl rfl) (ra_cons (rv 13) ra_nil)))) (rs_one (rs_ret re_bl)) rs_nil)))
  (rs_cons (rs_for (passes_of rfl) rfl (ri_seq rfl (re_lst (ra_cons (re_neg re_int) (ra_cons re_int (ra_cons (re_bin op_sub ok_sub (re_neg re_int) (re_bin op_mod ok_mod (re_int1 T.n_int (ra_cons (rv 9) ra_nil)) re_int)) (ra_cons (re_bin or_add ok_add re_int (re_bin op_mod ok_mod (re_int1 T.n_int (ra_cons (rv 9) ra_nil)) re_int)) ra_nil)))))) (pg_name (i := 13) (sc__law_numbers).nd rfl (Or.inl rfl)) (tg_name (i := 13) (by intro _ q; exact nomatch q)) (rs_one (rs_if (rt_not (rt_val (re_c c__law_refused_number hr (takes_of rfl rfl rfl rfl) (ra_cons (rv 13) ra_nil)))) (rs_one (rs_ret re_bl)) rs_nil)))
  (rs_one (rs_ret (re_c c__law_equal hr (takes_of rfl rfl rfl rfl) (ra_cons (re_tup (ra_cons (re_gv rfl T.v_CODE_RULES) (ra_cons (re_gv rfl T.v_VALUE_RULES) (ra_cons (re_gv rfl T.v_POLL_RULES) ra_nil)))) (ra_cons (re_tup (ra_cons (re_tuple rfl T.n_tuple (ra_cons (re_sl rfl (rv 5) ro_none (ro_some re_int)) ra_nil)) (ra_cons (re_tuple rfl T.n_tuple (ra_cons (re_sl rfl (rv 5) (ro_some re_int) (ro_some re_int)) ra_nil)) (ra_cons (re_tuple rfl T.n_tuple (ra_cons (re_sl rfl (rv 5) (ro_some re_int) ro_none) ra_nil)) ra_nil)))) ra_nil)))))))))))))))))
abbrev s_law : Stmt := top 39
def N_law : List Str := ["script", "row", "names", "others", "handed", "kept", "policy", "other", "rules", "both", "first", "second", "name"]
theorem sc_law : FnScope N_law ["script"] (defScope s_law) := ⟨rfl, rfl, rfl, by decide +kernel, rfl, by decide +kernel, by decide +kernel⟩
def b_law (p__law_wrong_names p__law_sentences p__law_numbers p_init p__law_holds p_empty p_full p_sub p_or p__law_rules p__law_pick p__law_turned p__law_chosen p__law_row : Mm) : Sx := (seq (asg (callE p__law_row [] (aCons (var 0) (aCons (con (.int 110)) aNil))) (nameT 1))
  (seq (asg (callE p__law_chosen [] (aCons (var 1) (aCons (con (.int 0)) aNil))) (nameT 2))
  (seq (asg (callE p__law_chosen [] (aCons (var 1) (aCons (con (.int 31)) aNil))) (nameT 3))
  (seq (asg (callE p__law_turned [] (aCons (var 2) (aCons (callE p__law_pick [] (aCons (var 1) (aCons (con (.int 62)) (aCons (op2 addO (bE lenM (aCons (var 2) aNil)) (con (.int 1))) aNil)))) (aCons (callE p__law_pick [] (aCons (var 1) (aCons (con (.int 64)) (aCons (con (.int 2)) aNil)))) aNil)))) (nameT 4))
  (seq (asg (bE listM (aCons (var 4) aNil)) (nameT 5))
  (seq (asg (mkE 7 p_init [] (aCons (var 4) aNil)) (nameT 6))
  (seq (asg (mkE 7 p_init [] (aCons (bE tupM (aCons (callE p__law_turned [] (aCons (var 3) (aCons (callE p__law_pick [] (aCons (var 1) (aCons (con (.int 66)) (aCons (op2 addO (bE lenM (aCons (var 3) aNil)) (con (.int 1))) aNil)))) (aCons (con (.int 1)) aNil)))) aNil)) aNil)) (nameT 7))
  (seq (ifS (orT (tst (op2 neO (var 4) (var 5))) (orT (notT (tst (callE p__law_holds [] (aCons (var 6) (aCons (var 2) aNil))))) (notT (tst (callE p__law_holds [] (aCons (var 7) (aCons (var 3) aNil))))))) (retE (con (.bl false))) skip)
  (seq (dropE (mE isL appM (var 4) (aCons (con (.str "quick")) aNil)))
  (seq (asg (call0 p__law_rules []) (nameT 8))
  (seq (asg (lcE [12] (itE (var 8)) (nameT 12) (orT (tst (op2 (inO false) (var 12) (var 2))) (tst (op2 (inO false) (var 12) (var 3)))) (var 12)) (nameT 9))
  (seq (ifS (orT (notT (tst (callE p__law_holds [] (aCons (op2 (ownO 7 p_or) (var 6) (var 7)) (aCons (var 9) aNil))))) (notT (tst (callE p__law_holds [] (aCons (op2 (ownO 7 p_or) (var 7) (var 6)) (aCons (var 9) aNil)))))) (retE (con (.bl false))) skip)
  (seq (asg (lcE [12] (itE (var 2)) (nameT 12) (tst (op2 (inO true) (var 12) (var 3))) (var 12)) (nameT 10))
  (seq (ifS (orT (notT (tst (callE p__law_holds [] (aCons (op2 (ownO 7 p_sub) (var 6) (var 7)) (aCons (var 10) aNil))))) (notT (tst (callE p__law_holds [] (aCons (mkE 7 p_init [] (aCons (var 6) aNil)) (aCons (var 2) aNil)))))) (retE (con (.bl false))) skip)
  (seq (asg (lcE [12] (itE (var 3)) (nameT 12) (tst (op2 (inO true) (var 12) (var 2))) (var 12)) (nameT 11))
  (seq (ifS (orT (notT (tst (callE p__law_holds [] (aCons (op2 (ownO 7 p_sub) (var 7) (var 6)) (aCons (var 11) aNil))))) (orT (notT (tst (callE p__law_holds [] (aCons (var 6) (aCons (var 2) aNil))))) (notT (tst (callE p__law_holds [] (aCons (var 7) (aCons (var 3) aNil))))))) (retE (con (.bl false))) skip)
  (seq (ifS (orT (notT (tst (isE "tuple" (con u_RULES)))) (tst (op2 neO (bE listM (aCons (con u_RULES) aNil)) (var 8)))) (retE (con (.bl false))) skip)
  (seq (ifS (orT (notT (tst (callE p__law_holds [] (aCons (call0 p_full []) (aCons (var 8) aNil))))) (orT (notT (tst (callE p__law_holds [] (aCons (call0 p_empty []) (aCons (lstE aNil) aNil))))) (notT (tst (callE p__law_holds [] (aCons (mk0 7 p_init [.wtu []]) (aCons (lstE aNil) aNil))))))) (retE (con (.bl false))) skip)
  (seq (ifS (orT (notT (tst (callE p__law_numbers [] (aCons (var 1) (aCons (var 6) (aCons (var 2) (aCons (var 7) (aCons (var 3) aNil)))))))) (notT (tst (call0 p__law_sentences [])))) (retE (con (.bl false))) skip)
  (retE (callE p__law_wrong_names [] (aCons (var 1) (aCons (var 5) aNil)))))))))))))))))))))))
def m_law (p__law_wrong_names p__law_sentences p__law_numbers p_init p__law_holds p_empty p_full p_sub p_or p__law_rules p__law_pick p__law_turned p__law_chosen p__law_row : Mm) : Mm := defM 1 12 (b_law p__law_wrong_names p__law_sentences p__law_numbers p_init p__law_holds p_empty p_full p_sub p_or p__law_rules p__law_pick p__law_turned p__law_chosen p__law_row)
theorem f_law (T : Txt P w K mg) {p__law_wrong_names p__law_sentences p__law_numbers p_init p__law_holds p_empty p_full p_sub p_or p__law_rules p__law_pick p__law_turned p__law_chosen p__law_row : Mm} (c__law_wrong_names : CalR P w K mg base 6 "_law_wrong_names" (κ K) p__law_wrong_names []) (c__law_sentences : CalR P w K mg base 5 "_law_sentences" (κ K) p__law_sentences []) (c__law_numbers : CalR P w K mg base 7 "_law_numbers" (κ K) p__law_numbers []) (k_Policy0 : MakR P w K mg base 3 "Policy" 7 (κ K) p_init [.wtu []]) (c__law_holds : CalR P w K mg base 4 "_law_holds" (κ K) p__law_holds []) (s_empty : StaR P w K mg base 5 "Policy" 7 "empty" (κ K) p_empty) (s_full : StaR P w K mg base 5 "Policy" 7 "full" (κ K) p_full) (o_sub : OwnR P w K mg base 5 7 "__sub__" (κ K) p_sub) (k_Policy : MakR P w K mg base 3 "Policy" 7 (κ K) p_init []) (o_or : OwnR P w K mg base 5 7 "__or__" (κ K) p_or) (c__law_rules : CalR P w K mg base 1 "_law_rules" (κ K) p__law_rules []) (c__law_pick : CalR P w K mg base 1 "_law_pick" (κ K) p__law_pick []) (c__law_turned : CalR P w K mg base 1 "_law_turned" (κ K) p__law_turned []) (c__law_chosen : CalR P w K mg base 2 "_law_chosen" (κ K) p__law_chosen []) (c__law_row : CalR P w K mg base 1 "_law_row" (κ K) p__law_row []) {f : Addr} {fd : FuncData} {dvs : List V} {x qual : Str} (F : FunD K x qual (defArgs s_law) (defBody s_law) (defScope s_law) dvs [] f fd) : FnOk P w K mg base (L2.CX P w) 8 f fd ["script"] (spR (κ K) (m_law p__law_wrong_names p__law_sentences p__law_numbers p_init p__law_holds p_empty p_full p_sub p_or p__law_rules p__law_pick p__law_turned p__law_chosen p__law_row)) := by
  refine fd_ok (κ := κ K) (j := 7) F sc_law rfl rfl rfl fun cdv A outer s H E hr => ?_
  exact (rs_cons (rs_set (i := 1) (sc_law).nd rfl (Or.inl rfl) (re_c c__law_row hr (takes_of rfl rfl rfl rfl) (ra_cons (rv 0) (ra_cons re_int ra_nil))))
  (rs_cons (rs_set (i := 2) (sc_law).nd rfl (Or.inr rfl) (re_c c__law_chosen hr (takes_of rfl rfl rfl rfl) (ra_cons (rv 1) (ra_cons re_int ra_nil))))
  (rs_cons (rs_set (i := 3) (sc_law).nd rfl (Or.inr rfl) (re_c c__law_chosen hr (takes_of rfl rfl rfl rfl) (ra_cons (rv 1) (ra_cons re_int ra_nil))))
  (rs_cons (rs_set (i := 4) (sc_law).nd rfl (Or.inl rfl) (re_c c__law_turned hr (takes_of rfl rfl rfl rfl) (ra_cons (rv 2) (ra_cons (re_c c__law_pick hr (takes_of rfl rfl rfl rfl) (ra_cons (rv 1) (ra_cons re_int (ra_cons (re_bin or_add ok_add (re_len rfl T.n_len (ra_cons (rv 2) ra_nil)) re_int) ra_nil)))) (ra_cons (re_c c__law_pick hr (takes_of rfl rfl rfl rfl) (ra_cons (rv 1) (ra_cons re_int (ra_cons re_int ra_nil)))) ra_nil)))))
  (rs_cons (rs_set (i := 5) (sc_law).nd rfl (Or.inl rfl) (re_list rfl T.n_list (ra_cons (rv 4) ra_nil)))
  (rs_cons (rs_set (i := 6) (sc_law).nd rfl (Or.inl rfl) (re_k k_Policy hr (takes_of rfl rfl rfl rfl) (ra_cons (rv 4) ra_nil)))
  (rs_cons (rs_set (i := 7) (sc_law).nd rfl (Or.inl rfl) (re_k k_Policy hr (takes_of rfl rfl rfl rfl) (ra_cons (re_tuple rfl T.n_tuple (ra_cons (re_c c__law_turned hr (takes_of rfl rfl rfl rfl) (ra_cons (rv 3) (ra_cons (re_c c__law_pick hr (takes_of rfl rfl rfl rfl) (ra_cons (rv 1) (ra_cons re_int (ra_cons (re_bin or_add ok_add (re_len rfl T.n_len (ra_cons (rv 3) ra_nil)) re_int) ra_nil)))) (ra_cons re_int ra_nil)))) ra_nil)) ra_nil)))
  (rs_cons (rs_if (PW.pt (rw_or (rt_cmp (or_ne hr.units) ok_ne (rv 4) (rv 5)) (rw_or (rt_not (rt_val (re_c c__law_holds hr (takes_of rfl rfl rfl rfl) (ra_cons (rv 6) (ra_cons (rv 2) ra_nil))))) (pw_or1 (rt_not (rt_val (re_c c__law_holds hr (takes_of rfl rfl rfl rfl) (ra_cons (rv 7) (ra_cons (rv 3) ra_nil))))))))) (rs_one (rs_ret re_bl)) rs_nil)
  (rs_cons (rs_expr (re_bm rfl tk_lst mk_app PySem.F.plainAttrs_list PySem.F.slot_list_append PySem.F.type_list_append mt_append (rv 4) (ra_cons re_str ra_nil)))
  (rs_cons (rs_set (i := 8) (sc_law).nd rfl (Or.inl rfl) (re_c0 c__law_rules hr))
  (rs_cons (rs_setLcIf (own := [("name", 12)]) rfl rfl (sc_law).nd rfl rfl (by rfl) (ri_seq rfl (rv 8)) (blk_by (N := N_law) (sc := defScope s_law) (own := [("name", 12)]) (by decide +kernel)) (tg_name (i := 12) (by intro _ q; exact nomatch q)) (wipe_name (by simp)) (fun _ _ _ _ _ => pg_name (i := 12) (sc_law).nd rfl (Or.inl rfl)) (fun _ _ _ _ _ => (PW.pt (rw_or (rt_cmp or_in ok_in (rv 12) (rv 2)) (pw_or1 (rt_cmp or_in ok_in (rv 12) (rv 3)))))) (fun _ _ _ _ _ => (rv 12)))
  (rs_cons (rs_if (PW.pt (rw_or (rt_not (rt_val (re_c c__law_holds hr (takes_of rfl rfl rfl rfl) (ra_cons (re_bin (or_own o_or hr) ok_own (rv 6) (rv 7)) (ra_cons (rv 9) ra_nil))))) (pw_or1 (rt_not (rt_val (re_c c__law_holds hr (takes_of rfl rfl rfl rfl) (ra_cons (re_bin (or_own o_or hr) ok_own (rv 7) (rv 6)) (ra_cons (rv 9) ra_nil)))))))) (rs_one (rs_ret re_bl)) rs_nil)
  (rs_cons (rs_setLcIf (own := [("name", 12)]) rfl rfl (sc_law).nd rfl rfl (by rfl) (ri_seq rfl (rv 2)) (blk_by (N := N_law) (sc := defScope s_law) (own := [("name", 12)]) (by decide +kernel)) (tg_name (i := 12) (by intro _ q; exact nomatch q)) (wipe_name (by simp)) (fun _ _ _ _ _ => pg_name (i := 12) (sc_law).nd rfl (Or.inl rfl)) (fun _ _ _ _ _ => (rt_cmp or_notIn ok_in (rv 12) (rv 3))) (fun _ _ _ _ _ => (rv 12)))
  (rs_cons (rs_if (PW.pt (rw_or (rt_not (rt_val (re_c c__law_holds hr (takes_of rfl rfl rfl rfl) (ra_cons (re_bin (or_own o_sub hr) ok_own (rv 6) (rv 7)) (ra_cons (rv 10) ra_nil))))) (pw_or1 (rt_not (rt_val (re_c c__law_holds hr (takes_of rfl rfl rfl rfl) (ra_cons (re_k k_Policy hr (takes_of rfl rfl rfl rfl) (ra_cons (rv 6) ra_nil)) (ra_cons (rv 2) ra_nil)))))))) (rs_one (rs_ret re_bl)) rs_nil)
  (rs_cons (rs_setLcIf (own := [("name", 12)]) rfl rfl (sc_law).nd rfl rfl (by rfl) (ri_seq rfl (rv 3)) (blk_by (N := N_law) (sc := defScope s_law) (own := [("name", 12)]) (by decide +kernel)) (tg_name (i := 12) (by intro _ q; exact nomatch q)) (wipe_name (by simp)) (fun _ _ _ _ _ => pg_name (i := 12) (sc_law).nd rfl (Or.inl rfl)) (fun _ _ _ _ _ => (rt_cmp or_notIn ok_in (rv 12) (rv 2))) (fun _ _ _ _ _ => (rv 12)))
  (rs_cons (rs_if (PW.pt (rw_or (rt_not (rt_val (re_c c__law_holds hr (takes_of rfl rfl rfl rfl) (ra_cons (re_bin (or_own o_sub hr) ok_own (rv 7) (rv 6)) (ra_cons (rv 11) ra_nil))))) (rw_or (rt_not (rt_val (re_c c__law_holds hr (takes_of rfl rfl rfl rfl) (ra_cons (rv 6) (ra_cons (rv 2) ra_nil))))) (pw_or1 (rt_not (rt_val (re_c c__law_holds hr (takes_of rfl rfl rfl rfl) (ra_cons (rv 7) (ra_cons (rv 3) ra_nil))))))))) (rs_one (rs_ret re_bl)) rs_nil)
  (rs_cons (rs_if (PW.pt (rw_or (rt_not (rt_val (re_isi (n := "tuple") rfl (by decide) T.n_isinstance T.n_tuple (by first | rfl | decide +kernel) (re_gv rfl T.v_RULES)))) (pw_or1 (rt_cmp (or_ne hr.units) ok_ne (re_list rfl T.n_list (ra_cons (re_gv rfl T.v_RULES) ra_nil)) (rv 8))))) (rs_one (rs_ret re_bl)) rs_nil)
  (rs_cons (rs_if (PW.pt (rw_or (rt_not (rt_val (re_c c__law_holds hr (takes_of rfl rfl rfl rfl) (ra_cons (re_s0 s_full hr) (ra_cons (rv 8) ra_nil))))) (rw_or (rt_not (rt_val (re_c c__law_holds hr (takes_of rfl rfl rfl rfl) (ra_cons (re_s0 s_empty hr) (ra_cons (re_lst ra_nil) ra_nil))))) (pw_or1 (rt_not (rt_val (re_c c__law_holds hr (takes_of rfl rfl rfl rfl) (ra_cons (re_k0 k_Policy0 hr) (ra_cons (re_lst ra_nil) ra_nil))))))))) (rs_one (rs_ret re_bl)) rs_nil)
  (rs_cons (rs_if (PW.pt (rw_or (rt_not (rt_val (re_c c__law_numbers hr (takes_of rfl rfl rfl rfl) (ra_cons (rv 1) (ra_cons (rv 6) (ra_cons (rv 2) (ra_cons (rv 7) (ra_cons (rv 3) ra_nil)))))))) (pw_or1 (rt_not (rt_val (re_c0 c__law_sentences hr)))))) (rs_one (rs_ret re_bl)) rs_nil)
  (rs_one (rs_ret (re_c c__law_wrong_names hr (takes_of rfl rfl rfl rfl) (ra_cons (rv 1) (ra_cons (rv 5) ra_nil))))))))))))))))))))))))end
end K88
set_option Elab.async false
set_option linter.all false
set_option maxRecDepth 100000
set_option maxHeartbeats 2000000
namespace K88
open R
open PySem PySem.Spec L2
open PyProof.Rows hiding St
def rules : List Str := ["invalidate_store", "invalidate_device", "track_frames", "track_prepared", "track_second", "invalidate_map", "invalidate_rights", "key_level", "leave_self", "leave_other", "cut_links", "clear_links", "hold_slot", "check_entry", "stop_page", "stop_store", "no_links", "single", "eager", "flush_exit", "flush_source", "keep_dropped", "map_inspect", "map_fault", "flush_fault", "map_leave", "prompt_store", "poll_entry", "poll_backward"]
def ss (xs : List Str) : List U := xs.map U.str
def intsOf : List U → Option (List Int)
  | [] => some []
  | .int i :: r => (intsOf r).map (i :: ·)
  | _ => none
def pickI (xs : List Int) (i : Nat) (lim : Int) : Int := ((xs[i]?.getD 0) + 16 * (xs[i + 1]?.getD 0)) % lim
def p__law_pick : Mm := fun us g => match us with
  | [.ref n, .int i, .int lim] => (match lstAt g n with
    | some us => (match intsOf us with
      | some xs => if 0 ≤ i ∧ 0 < lim then .ok (.int (pickI xs i.toNat lim)) g else .bad
      | none => .bad)
    | none => .bad)
  | _ => .bad
theorem intsOf_at : ∀ {us : List U} {xs : List Int}, intsOf us = some xs → us = xs.map U.int
  | [], xs, h => by cases h; rfl
  | u :: us, xs, h => by
    cases u with
    | int i =>
      unfold intsOf at h
      cases e : intsOf us with
      | none => rw [e] at h; cases h
      | some ys =>
        rw [e] at h
        cases h
        rw [intsOf_at e]
        rfl
    | _ => cases h
theorem ixO_ref {g : Gs} {n : Nat} {us : List U} {i : Int} {u : U} (h : lstAt g n = some us) (h0 : 0 ≤ i) (hu : us[i.toNat]? = some u) : ixO (.ref n) (.int i) g = .ok u g := by
  have hl := (List.getElem?_eq_some_iff.mp hu).1
  have e : atI us i = some u := by
    unfold atI ixN
    rw [if_pos h0, if_pos (by omega)]
    exact hu
  show (match seqV (.ref n) g with
      | some us => match atI us i with
        | some u => (Res.ok u g : Res U)
        | none => .bad
      | none => .bad) = _
  have e1 : seqV (.ref n) g = some us := h
  rw [e1]
  dsimp only
  rw [e]
theorem len_ref {g : Gs} {n : Nat} {us : List U} (h : lstAt g n = some us) : lenM [.ref n] g = .ok (.int us.length) g := by
  have e1 : lenU (.ref n) g = some us.length := by
    show (seqV (.ref n) g).map List.length = _
    have e1 : seqV (.ref n) g = some us := h
    rw [e1]
    rfl
  unfold lenM
  dsimp only
  rw [e1]
theorem run_pick {g : Gs} {n : Nat} {xs : List Int} {i lim : Int} (h : lstAt g n = some (xs.map U.int)) (h0 : 0 ≤ i) (hl : 0 < lim) : m__law_pick [.ref n, .int i, .int lim] g = .ok (.int (pickI xs i.toNat lim)) g := by
  have e2 : (i + 1).toNat = i.toNat + 1 := by omega
  unfold m__law_pick defM b__law_pick pickI
  by_cases h1 : i < xs.length
  · have g1 : xs[i.toNat]? = some xs[i.toNat] := List.getElem?_eq_getElem (by omega)
    have q1 := ixO_ref (i := i) h h0 (by rw [List.getElem?_map, g1]; rfl)
    by_cases h2 : i + 1 < xs.length
    · have g2 : xs[i.toNat + 1]? = some xs[i.toNat + 1] := List.getElem?_eq_getElem (by omega)
      have q2 := ixO_ref (i := i + 1) h (by omega) (by rw [List.getElem?_map, e2, g2]; rfl)
      simp [len_ref h, ordO, tst_eq, h1, h2, q1, q2, g1, g2, addO, mulO, intM, modO, hl]
    · have g2 : xs[i.toNat + 1]? = none := List.getElem?_eq_none (by omega)
      simp [len_ref h, ordO, tst_eq, h1, h2, q1, g1, g2, addO, mulO, intM, modO, hl]
  · have g1 : xs[i.toNat]? = none := List.getElem?_eq_none (by omega)
    have g2 : xs[i.toNat + 1]? = none := List.getElem?_eq_none (by omega)
    have h2 : ¬ (i + 1 < xs.length) := by omega
    simp [len_ref h, ordO, tst_eq, h1, h2, g1, g2, addO, mulO, intM, modO, hl]
theorem ref_pick {κ : R.Ctx} : Refines κ p__law_pick m__law_pick := Refines.of_eq fun us g hb => by
  unfold p__law_pick at hb ⊢
  split at hb
  · rename_i n i lim
    split at hb
    · rename_i vs e1
      split at hb
      · rename_i xs e2
        split at hb
        · rename_i hc
          have ev := intsOf_at e2
          subst ev
          rw [run_pick e1 hc.1 hc.2]
          simp only [e1, e2, if_pos hc]
        · exact absurd rfl hb
      · exact absurd rfl hb
    · exact absurd rfl hb
  · exact absurd rfl hb
end K88
set_option Elab.async false
set_option linter.all false
set_option maxRecDepth 100000
set_option maxHeartbeats 2000000
namespace K88
open R
open PySem PySem.Spec L2
open PyProof.Rows hiding St
/-! ### texts in lists -/
@[simp] theorem ss_length (xs : List Str) : (ss xs).length = xs.length := by simp [ss]
@[simp] theorem ss_nil : ss [] = [] := rfl
@[simp] theorem ss_cons (x : Str) (xs : List Str) : ss (x :: xs) = .str x :: ss xs := rfl
theorem ss_append (xs ys : List Str) : ss (xs ++ ys) = ss xs ++ ss ys := by simp [ss]
theorem ss_get {xs : List Str} {i : Nat} {x : Str} (h : xs[i]? = some x) : (ss xs)[i]? = some (.str x) := by simp [ss, h]
theorem strsOf_ss : ∀ xs : List Str, strsOf (ss xs) = some xs
  | [] => rfl
  | x :: xs => by
    show (strsOf (ss xs)).map (x :: ·) = _
    rw [strsOf_ss xs]
    rfl
theorem strsOf_eq : ∀ {us : List U} {xs : List Str}, strsOf us = some xs → us = ss xs
  | [], xs, h => by cases h; rfl
  | u :: us, xs, h => by
    cases u with
    | str s =>
      unfold strsOf at h
      cases e : strsOf us with
      | none => rw [e] at h; cases h
      | some ys =>
        rw [e] at h
        cases h
        rw [strsOf_eq e]
        rfl
    | _ => cases h
theorem clUs_ss (n : Nat) : ∀ xs : List Str, clUs n (ss xs) = true
  | [] => rfl
  | x :: xs => by
    show (clU n (.str x) && clUs n (ss xs)) = true
    rw [clUs_ss n xs]
    rfl
theorem flat_ss : ∀ xs : List Str, (ss xs).all flatU = true
  | [] => rfl
  | x :: xs => by
    rw [ss_cons, List.all_cons, flat_ss xs]
    rfl
theorem inL_ss (x : Str) : ∀ xs : List Str, inL (.str x) (ss xs) = decide (x ∈ xs)
  | [] => by simp [inL]
  | y :: xs => by
    have ih := inL_ss x xs
    unfold inL at ih ⊢
    rw [ss_cons, List.any_cons, ih]
    show ((y == x) || _) = _
    by_cases h : y = x
    · subst h; simp
    · have h2 : ¬ x = y := fun q => h q.symm
      simp [h, h2]
theorem in_ss {neg : Bool} {x : Str} {v : U} {g : Gs} {ys : List Str} (hv : ∀ z, v ≠ .str z) (h : seqV v g = some (ss ys)) : inO neg (.str x) v g = .ok (.bl (if neg then !decide (x ∈ ys) else decide (x ∈ ys))) g := by
  have e : inB (.str x) v g = some (decide (x ∈ ys)) := by
    have e2 : (match seqV v g with
      | some us => if flatU (.str x) = true ∧ us.all flatU = true then some (inL (.str x) us) else none
      | none => none) = some (decide (x ∈ ys)) := by
      rw [h]
      dsimp only
      rw [if_pos ⟨rfl, flat_ss ys⟩, inL_ss]
    unfold inB
    split
    · rename_i z _ _
      exact absurd rfl (hv _)
    · exact e2
  unfold inO
  rw [e]
@[simp] theorem seq_RULES (g : Gs) : seqV u_RULES g = some (ss rules) := rfl
theorem in_rules {neg : Bool} {x : Str} {g : Gs} : inO neg (.str x) u_RULES g = .ok (.bl (if neg then !decide (x ∈ rules) else decide (x ∈ rules))) g := in_ss (fun z h => nomatch h) rfl
theorem in_ref {neg : Bool} {x : Str} {n : Nat} {g : Gs} {ys : List Str} (h : lstAt g n = some (ss ys)) : inO neg (.str x) (.ref n) g = .ok (.bl (if neg then !decide (x ∈ ys) else decide (x ∈ ys))) g := in_ss (fun z h => nomatch h) h
theorem in_tup {neg : Bool} {x : Str} {g : Gs} {ys : List Str} : inO neg (.str x) (.tup (ss ys)) g = .ok (.bl (if neg then !decide (x ∈ ys) else decide (x ∈ ys))) g := in_ss (fun z h => nomatch h) rfl
/-! ### lists by comprehension -/
theorem lcGo_pure {ck : Gs → Bool} {i : Nat} {c : Et} {f : Ev} {us : Us} {g : Gs} {Pc : U → Bool} {F : U → U} (hck : ck g = true) : ∀ {xs : List U}, (∀ x ∈ xs, c (us.set i (some x)) g = .ok (Pc x) g ∧ (Pc x = true → f (us.set i (some x)) g = .ok (F x) g)) → lcGo ck (nameT i) c f xs us g = .ok ((xs.filter Pc).map F) g
  | [], _ => by unfold lcGo; rw [if_pos hck]; rfl
  | x :: xs, h => by
    obtain ⟨h1, h2⟩ := h x List.mem_cons_self
    have ih := lcGo_pure hck (xs := xs) fun y hy => h y (List.mem_cons_of_mem _ hy)
    unfold lcGo
    rw [if_pos hck]
    unfold nameT
    dsimp only
    rw [h1]
    cases e : Pc x with
    | true =>
      dsimp only
      rw [h2 e]
      dsimp only
      unfold nameT at ih
      rw [ih]
      simp [e]
    | false =>
      dsimp only
      unfold nameT at ih
      rw [ih]
      simp [e]
theorem filter_ss (p : Str → Bool) (q : U → Bool) (h : ∀ s, q (.str s) = p s) : ∀ xs : List Str, (ss xs).filter q = ss (xs.filter p)
  | [] => rfl
  | x :: xs => by
    rw [ss_cons, List.filter_cons, List.filter_cons, h, filter_ss p q h xs]
    cases p x <;> rfl
/-! ### sublists of the rules -/
theorem rules_nodup : rules.Nodup := by decide +kernel
theorem sub_filter : ∀ {ns l : List Str}, ns.Sublist l → l.Nodup → l.filter (fun x => decide (x ∈ ns)) = ns
  | _, _, .slnil, _ => rfl
  | _, _, .cons (l₁ := ns) (l₂ := l) a h, nd => by
    have na : a ∉ l := (List.nodup_cons.mp nd).1
    have nn : a ∉ ns := fun q => na (h.subset q)
    rw [List.filter_cons, if_neg (by simpa using nn)]
    exact sub_filter h (List.nodup_cons.mp nd).2
  | _, _, .cons₂ (l₁ := ns) (l₂ := l) a h, nd => by
    have na : a ∉ l := (List.nodup_cons.mp nd).1
    rw [List.filter_cons, if_pos (by simp)]
    congr 1
    have e : l.filter (fun x => decide (x ∈ a :: ns)) = l.filter (fun x => decide (x ∈ ns)) := by
      refine List.filter_congr fun x hx => ?_
      have ne : x ≠ a := fun q => na (q ▸ hx)
      simp [ne]
    rw [e]
    exact sub_filter h (List.nodup_cons.mp nd).2
theorem filter_mem_congr {ns ms : List Str} (h : ∀ x, x ∈ ns ↔ x ∈ ms) : rules.filter (fun x => decide (x ∈ ns)) = rules.filter (fun x => decide (x ∈ ms)) := by
  refine List.filter_congr fun x _ => ?_
  simp [h x]
/-! ### Policy.__init__ -/
/-- the first name that is no rule or has come before -/
def firstBad : List Str → List Str → Option Str
  | _, [] => none
  | acc, x :: r => if x ∉ rules ∨ x ∈ acc then some x else firstBad (acc ++ [x]) r
theorem firstBad_none : ∀ {xs acc : List Str}, (∀ x ∈ xs, x ∈ rules ∧ x ∉ acc) → xs.Nodup → firstBad acc xs = none
  | [], _, _, _ => rfl
  | x :: xs, acc, h, nd => by
    obtain ⟨h1, h2⟩ := h x List.mem_cons_self
    obtain ⟨n1, n2⟩ := List.nodup_cons.mp nd
    unfold firstBad
    rw [if_neg (by simp [h1, h2])]
    refine firstBad_none (fun y hy => ?_) n2
    obtain ⟨q1, q2⟩ := h y (List.mem_cons_of_mem _ hy)
    refine ⟨q1, fun z => ?_⟩
    rcases List.mem_append.mp z with z | z
    · exact q2 z
    · have e : y = x := by simpa using z
      exact n1 (e ▸ hy)
theorem firstBad_none' : ∀ {xs acc : List Str}, firstBad acc xs = none → ∀ x ∈ xs, x ∈ rules
  | [], _, _, x, h => nomatch h
  | y :: xs, acc, h, x, hx => by
    unfold firstBad at h
    split at h
    · cases h
    · rename_i hc
      rcases List.mem_cons.mp hx with e | hx
      · subst e
        exact Classical.byContradiction fun q => hc (.inl q)
      · exact firstBad_none' h x hx
/-- the items that a walk over u gives -/
def itemsU (u : U) (g : Gs) : Option (List U) := match ownV 7 "names" u g with
  | some xs => some xs
  | none => seqV u g
def p_init : Mm := fun us g => match us with
  | [.ref s, u] => match g[s]?, (itemsU u g).bind strsOf with
    | some (.ins 7 []), some xs => if xs.length ≤ 1000 ∧ xs.all (fun x => decide (x.length ≤ 1000)) = true then (match firstBad [] xs with
      | some x => .exc 3 [("name", .str x)] g
      | none => .ok .non (g.set s (.ins 7 [("names", .tup (ss (rules.filter fun x => decide (x ∈ xs))))]))) else .bad
    | _, _ => .bad
  | _ => .bad
end K88
set_option Elab.async false
set_option linter.all false
set_option maxRecDepth 100000
set_option maxHeartbeats 2000000
namespace K88
open R
open PySem PySem.Spec L2
open PyProof.Rows hiding St
theorem set_last (g : Gs) (c c' : Cell) : (g ++ [c]).set g.length c' = g ++ [c'] := by
  rw [List.set_append_right _ _ (Nat.le_refl _), Nat.sub_self]
  rfl
theorem get_app {g J : Gs} {n : Nat} (h : n < g.length) : (g ++ J)[n]? = g[n]? := List.getElem?_append_left h
theorem insV_app {g J : Gs} {c : Nat} {u : U} (h : clU g.length u = true) : insV c u (g ++ J) = insV c u g := by
  cases u with
  | ref n =>
    unfold clU at h
    unfold insV
    dsimp only
    rw [get_app (of_decide_eq_true h)]
  | _ => rfl
theorem ownV_app {g J : Gs} {c : Nat} {f : Str} {u : U} (h : clU g.length u = true) : ownV c f u (g ++ J) = ownV c f u g := by
  unfold ownV
  rw [insV_app h]
/-- a walk over u, the heap having grown -/
theorem itO_run {g J : Gs} {u : U} {xs : List U} (hu : clU g.length u = true) (h : itemsU u g = some xs) : ∃ ck, (match ownV 7 "names" u (g ++ J) with
    | some xs => (Res.ok (xs, fun _ => true) (g ++ J) : Res (List U × (Gs → Bool)))
    | none => itV u (g ++ J)) = .ok (xs, ck) (g ++ J) ∧ ∀ J', ck (g ++ J') = true := by
  rw [ownV_app hu]
  unfold itemsU at h
  cases e : ownV 7 "names" u g with
  | some ys =>
    rw [e] at h
    cases h
    exact ⟨_, rfl, fun _ => rfl⟩
  | none =>
    rw [e] at h
    dsimp only at h ⊢
    cases u with
    | tup us => cases h; exact ⟨_, rfl, fun _ => rfl⟩
    | wtu us => cases h; exact ⟨_, rfl, fun _ => rfl⟩
    | lit us => cases h; exact ⟨_, rfl, fun _ => rfl⟩
    | ref n =>
      have h' : lstAt g n = some xs := h
      refine ⟨ckL n xs, ?_, fun J' => ?_⟩
      · unfold itV
        dsimp only
        rw [lstAt_app h']
      · unfold ckL
        rw [lstAt_app h']
        exact U.beqs_refl xs
    | _ => cases h
theorem app_last {g : Gs} {acc : List Str} {x : Str} (h : acc.length < 100000) : appM (.ref g.length) [.str x] (g ++ [.lst (ss acc)]) = .ok .non (g ++ [.lst (ss (acc ++ [x]))]) := by
  unfold appM
  dsimp only
  rw [lstAt_new]
  dsimp only
  rw [if_pos (by simpa using h), set_last, ss_append]
  rfl
/-- the loop of __init__ -/
theorem init_loop {ck : Gs → Bool} {g : Gs} {s u : U} (hck : ∀ J, ck (g ++ J) = true) : ∀ (xs acc : List Str) (o : Option U), acc.length + xs.length ≤ 1000 → (∀ x ∈ xs, x.length ≤ 1000) →
    ∃ o' acc', each ck (ss xs) (turn (nameT 3) (seq (ifS (orT (tst (op2 (inO true) (var 3) (con u_RULES))) (tst (op2 (inO false) (var 3) (var 2)))) (raiseE 3 [("name" : Str)] (aCons (var 3) aNil)) skip) (dropE (mE isL appM (var 2) (aCons (var 3) aNil))))) [some s, some u, some (.ref g.length), o] (g ++ [.lst (ss acc)]) =
      (match firstBad acc xs with
      | some x => .exc 3 [("name", .str x)] [some s, some u, some (.ref g.length), o'] (g ++ [.lst (ss acc')])
      | none => .nx [some s, some u, some (.ref g.length), o'] (g ++ [.lst (ss (acc ++ xs))]))
  | [], acc, o, hl, _ => ⟨o, acc, by unfold each; rw [ss_nil]; dsimp only; rw [if_pos (hck _)]; simp [firstBad]⟩
  | x :: xs, acc, o, hl, hx => by
    rw [List.length_cons] at hl
    have hf : fmtU (.str x) = true := decide_eq_true (Nat.le_trans (hx x List.mem_cons_self) (by decide))
    have hi : inO false (.str x) (.ref g.length) (g ++ [.lst (ss acc)]) = _ := in_ref (lstAt_new g (ss acc))
    rw [ss_cons]
    unfold each
    rw [if_pos (hck _)]
    unfold firstBad
    by_cases h1 : x ∈ rules
    · by_cases h2 : x ∈ acc
      · rw [if_pos (.inr h2)]
        refine ⟨some (.str x), acc, ?_⟩
        simp [in_rules, hi, tst_eq, h1, h2, hf]
      · rw [if_neg (by simp [h1, h2])]
        obtain ⟨o', acc', ih⟩ := init_loop hck xs (acc ++ [x]) (some (.str x)) (by rw [List.length_append, List.length_singleton]; omega) fun y hy => hx y (List.mem_cons_of_mem _ hy)
        refine ⟨o', acc', ?_⟩
        rw [List.append_assoc] at ih
        rw [← List.singleton_append (x := x) (l := xs), ← ih]
        have ha := app_last (g := g) (acc := acc) (x := x) (by omega)
        have hL : isL (.ref g.length) (g ++ [.lst (ss acc)]) = true := by
          unfold isL
          show (lstAt (g ++ [.lst (ss acc)]) g.length).isSome = true
          rw [lstAt_new]
          rfl
        simp [in_rules, hi, tst_eq, h1, h2, ha, hL]
    · rw [if_pos (.inl h1)]
      refine ⟨some (.str x), acc, ?_⟩
      simp [in_rules, tst_eq, h1, hf]
theorem lc_rules {g : Gs} {s u : U} {o : Option U} {m : Nat} {ys : List Str} (h : lstAt g m = some (ss ys)) : lcE [3] (itE (con u_RULES)) (nameT 3) (tst (op2 (inO false) (var 3) (var 2))) (var 3) [some s, some u, some (.ref m), o] g = .ok (.ref g.length) (g ++ [.lst (ss (rules.filter fun x => decide (x ∈ ys)))]) := by
  have e : lcGo (fun _ => true) (nameT 3) (tst (op2 (inO false) (var 3) (var 2))) (var 3) (ss rules) [some s, some u, some (.ref m), none] g = .ok ((ss rules).filter (fun u => match u with | .str x => decide (x ∈ ys) | _ => false) |>.map id) g := by
    refine lcGo_pure rfl fun v hv => ?_
    obtain ⟨x, hx, rfl⟩ := List.mem_map.mp hv
    refine ⟨?_, fun _ => ?_⟩
    · simp [tst_eq, in_ref h]
    · simp
  rw [List.map_id, filter_ss (fun x => decide (x ∈ ys)) _ (fun s => rfl)] at e
  have e2 : (con u_RULES [some s, some u, some (.ref m), o] g).bind itV = .ok (ss rules, fun _ => true) g := rfl
  have hlen : (rules.filter fun x => decide (x ∈ ys)).length ≤ 29 := Nat.le_trans (List.length_filter_le _ _) (by decide)
  rw [lcE_ev, itE_ev, e2]
  dsimp only [Res.bind]
  rw [if_pos (by decide +kernel)]
  show (lcGo _ _ _ _ _ [some s, some u, some (.ref m), none] g).bind newL = _
  rw [e]
  exact newL_ok (by rw [ss_length]; omega)
theorem run_init {g : Gs} {s : Nat} {u : U} {xs : List Str} (hs : g[s]? = some (.ins 7 [])) (hu : clU g.length u = true) (hi : itemsU u g = some (ss xs)) (hl : xs.length ≤ 1000) (hx : ∀ x ∈ xs, x.length ≤ 1000) :
    ∃ J, m_init [.ref s, u] g = (match firstBad [] xs with
      | some x => .exc 3 [("name", .str x)] (g ++ J)
      | none => .ok .non (g.set s (.ins 7 [("names", .tup (ss (rules.filter fun x => decide (x ∈ xs))))]) ++ J)) := by
  obtain ⟨ck, h1, h2⟩ := itO_run (J := [.lst []]) hu hi
  obtain ⟨o', acc', h3⟩ := init_loop (s := .ref s) (u := u) h2 xs [] none (by simpa using hl) hx
  have hsl : s < g.length := (List.getElem?_eq_some_iff.mp hs).1
  have e0 : m_init [.ref s, u] g = (match (seq (forE (itO 7 "names" (var 1)) (nameT 3) (seq (ifS (orT (tst (op2 (inO true) (var 3) (con u_RULES))) (tst (op2 (inO false) (var 3) (var 2)))) (raiseE 3 [("name" : Str)] (aCons (var 3) aNil)) skip) (dropE (mE isL appM (var 2) (aCons (var 3) aNil)))))
      (setA 7 "names" (var 0) (bE tupM (aCons (lcE [3] (itE (con u_RULES)) (nameT 3) (tst (op2 (inO false) (var 3) (var 2))) (var 3)) aNil)))) [some (.ref s), some u, some (.ref g.length), none] (g ++ [.lst []]) with
    | .nx _ g' => .ok .non g'
    | .rt u g' => .ok u g'
    | .exc c fs _ g' => .exc c fs g'
    | _ => .bad) := by
    unfold m_init defM b_init
    rfl
  have e1 : forE (itO 7 "names" (var 1)) (nameT 3) (seq (ifS (orT (tst (op2 (inO true) (var 3) (con u_RULES))) (tst (op2 (inO false) (var 3) (var 2)))) (raiseE 3 [("name" : Str)] (aCons (var 3) aNil)) skip) (dropE (mE isL appM (var 2) (aCons (var 3) aNil)))) [some (.ref s), some u, some (.ref g.length), none] (g ++ [.lst []]) = (match firstBad [] xs with
      | some x => .exc 3 [("name", .str x)] [some (.ref s), some u, some (.ref g.length), o'] (g ++ [.lst (ss acc')])
      | none => .nx [some (.ref s), some u, some (.ref g.length), o'] (g ++ [.lst (ss ([] ++ xs))])) := by
    rw [forE_ev]
    have q : itO 7 "names" (var 1) [some (.ref s), some u, some (.ref g.length), none] (g ++ [.lst []]) = .ok (ss xs, ck) (g ++ [.lst []]) := h1
    rw [q]
    exact h3
  rw [e0, seq_ev, e1]
  cases hb : firstBad [] xs with
  | some x =>
    exact ⟨[Cell.lst (ss acc')], rfl⟩
  | none =>
    refine ⟨[Cell.lst (ss xs), Cell.lst (ss (rules.filter fun x => decide (x ∈ xs)))], ?_⟩
    dsimp only [SR.seq_nx, List.nil_append]
    have hlc := lc_rules (s := .ref s) (u := u) (o := o') (m := g.length) (lstAt_new g (ss xs))
    have hins : insV 7 (.ref s) (g ++ [Cell.lst (ss xs)] ++ [Cell.lst (ss (rules.filter fun x => decide (x ∈ xs)))]) = some [] := by
      unfold insV
      dsimp only
      rw [List.append_assoc, get_app hsl, hs]
      rfl
    have htup : tupM [.ref (g ++ [Cell.lst (ss xs)]).length] (g ++ [Cell.lst (ss xs)] ++ [Cell.lst (ss (rules.filter fun x => decide (x ∈ xs)))]) = .ok (.tup (ss (rules.filter fun x => decide (x ∈ xs)))) (g ++ [Cell.lst (ss xs)] ++ [Cell.lst (ss (rules.filter fun x => decide (x ∈ xs)))]) := by
      unfold tupM
      dsimp only
      have q : seqV (.ref (g ++ [Cell.lst (ss xs)]).length) (g ++ [Cell.lst (ss xs)] ++ [Cell.lst (ss (rules.filter fun x => decide (x ∈ xs)))]) = some _ := lstAt_new _ _
      rw [q]
    rw [setA_ev, bE_ev, aCons_ev, hlc]
    dsimp only [Res.bind, aNil_ev]
    rw [htup]
    dsimp only [Res.thn, var_0]
    rw [hins]
    dsimp only
    rw [if_pos (by decide), List.append_assoc, List.set_append_left _ _ hsl]
    rfl
end K88
set_option Elab.async false
set_option linter.all false
set_option maxRecDepth 100000
set_option maxHeartbeats 2000000
namespace K88
open R
open PySem PySem.Spec L2
open PyProof.Rows hiding St
def pol (ns : List Str) : Cell := .ins 7 [("names", .tup (ss ns))]
theorem clC_pol (n : Nat) (ns : List Str) : clC n (pol ns) = true := by
  show (clU n (.tup (ss ns)) && true) = true
  rw [Bool.and_true]
  unfold clU
  exact clUs_ss n ns
theorem clC_lst (n : Nat) (ns : List Str) : clC n (.lst (ss ns)) = true := clUs_ss n ns
theorem closed_app {g : Gs} {c : Cell} (h : Closed g) (hc : clC (g.length + 1) c = true) (up : ∀ d, clC g.length d = true → clC (g.length + 1) d = true) : Closed (g ++ [c]) := fun d hd => by
  rw [List.length_append, List.length_singleton]
  rcases List.mem_append.mp hd with hd | hd
  · exact up d (h d hd)
  · have e : d = c := by simpa using hd
    rw [e]
    exact hc
mutual
theorem clU_mono {n m : Nat} (h : n ≤ m) : ∀ {u : U}, clU n u = true → clU m u = true
  | .non, _ => rfl
  | .bl _, _ => rfl
  | .int _, _ => rfl
  | .str _, _ => rfl
  | .tup us, q => by unfold clU at *; exact clUs_mono h q
  | .lit us, q => by unfold clU at *; exact clUs_mono h q
  | .wtu us, q => by unfold clU at *; exact clUs_mono h q
  | .ref k, q => by
    unfold clU at *
    have := of_decide_eq_true q
    exact decide_eq_true (by omega)
theorem clUs_mono {n m : Nat} (h : n ≤ m) : ∀ {us : List U}, clUs n us = true → clUs m us = true
  | [], _ => rfl
  | u :: us, q => by
    unfold clUs at *
    obtain ⟨q1, q2⟩ := bb q
    rw [clU_mono h q1, clUs_mono h q2]
    rfl
end
theorem clC_mono {n m : Nat} (h : n ≤ m) {c : Cell} (q : clC n c = true) : clC m c = true := by
  cases c <;> exact clUs_mono h q
theorem closed_new {g : Gs} {c : Cell} (h : Closed g) (hc : clC (g.length + 1) c = true) : Closed (g ++ [c]) := closed_app h hc fun d q => clC_mono (Nat.le_succ _) q
theorem closed_set {g : Gs} {n : Nat} {c : Cell} (h : Closed g) (hc : clC g.length c = true) : Closed (g.set n c) := fun d hd => by
  rw [List.length_set]
  rcases List.mem_or_eq_of_mem_set hd with hd | hd
  · exact h d hd
  · rw [hd]; exact hc
theorem ref_init {κ : R.Ctx} : Refines κ p_init m_init := Refines.of_drops fun us g hc hu hb => by
  unfold p_init at hb ⊢
  split at hb
  · rename_i s u
    split at hb
    · rename_i xs e1 e2
      split at hb
      · rename_i hx
        rw [if_pos hx]
        cases e3 : itemsU u g with
        | none => rw [e3] at e2; cases e2
        | some vs =>
          rw [e3] at e2
          have ev := strsOf_eq e2
          subst ev
          have hu' : clU g.length u = true := by
            unfold clUs at hu
            have q := (bb hu).2
            unfold clUs at q
            exact (bb q).1
          obtain ⟨J, hJ⟩ := run_init e1 hu' e3 hx.1 fun x hx' => by
            have q := List.all_eq_true.mp hx.2 x hx'
            exact of_decide_eq_true q
          rw [hJ]
          cases firstBad [] xs with
          | some x => exact .exc J (Nat.le_refl _) rfl hc
          | none => exact .junk J (by rw [List.length_set]; exact Nat.le_refl _) rfl (closed_set hc (clC_pol _ _))
      · exact absurd rfl hb
    · exact absurd rfl hb
  · exact absurd rfl hb
/-- Policy(u) -/
theorem run_new {g : Gs} {u : U} {xs : List Str} (hi : itemsU u (g ++ [Cell.ins 7 []]) = some (ss xs)) (hl : xs.length ≤ 1000) (hx : ∀ x ∈ xs, x.length ≤ 1000) :
    newI 7 p_init [u] g = (match firstBad [] xs with
      | some x => .exc 3 [("name", .str x)] (g ++ [Cell.ins 7 []])
      | none => .ok (.ref g.length) (g ++ [pol (rules.filter fun x => decide (x ∈ xs))])) := by
  have e : (g ++ [Cell.ins 7 []])[g.length]? = some (.ins 7 []) := by
    rw [List.getElem?_append_right (Nat.le_refl _)]
    simp
  have e2 : (some (ss xs)).bind strsOf = some xs := strsOf_ss xs
  have e3 : p_init [.ref g.length, u] (g ++ [Cell.ins 7 []]) = (match firstBad [] xs with
      | some x => .exc 3 [("name", .str x)] (g ++ [Cell.ins 7 []])
      | none => .ok .non ((g ++ [Cell.ins 7 []]).set g.length (.ins 7 [("names", .tup (ss (rules.filter fun x => decide (x ∈ xs))))]))) := by
    show (match (g ++ [Cell.ins 7 []])[g.length]?, (itemsU u (g ++ [Cell.ins 7 []])).bind strsOf with
      | some (.ins 7 []), some xs => if xs.length ≤ 1000 ∧ xs.all (fun x => decide (x.length ≤ 1000)) = true then (match firstBad [] xs with
        | some x => (Res.exc 3 [("name", .str x)] (g ++ [Cell.ins 7 []]) : Res U)
        | none => .ok .non ((g ++ [Cell.ins 7 []]).set g.length (.ins 7 [("names", .tup (ss (rules.filter fun x => decide (x ∈ xs))))]))) else .bad
      | _, _ => .bad) = _
    rw [e, hi, e2]
    show (if xs.length ≤ 1000 ∧ xs.all (fun x => decide (x.length ≤ 1000)) = true then _ else _) = _
    rw [if_pos ⟨hl, List.all_eq_true.mpr fun x h => decide_eq_true (hx x h)⟩]
  unfold newI
  rw [e3]
  cases firstBad [] xs with
  | some x => rfl
  | none =>
    dsimp only [Res.bind]
    rw [set_last]
    rfl
theorem rules_short : ∀ x ∈ rules, x.length ≤ 1000 := by decide +kernel
theorem run_new_sub {g : Gs} {u : U} {xs : List Str} (hi : itemsU u (g ++ [.ins 7 []]) = some (ss xs)) (hs : ∀ x ∈ xs, x ∈ rules) (nd : xs.Nodup) (hl : xs.length ≤ 1000) : newI 7 p_init [u] g = .ok (.ref g.length) (g ++ [pol (rules.filter fun x => decide (x ∈ xs))]) := by
  rw [run_new hi hl fun x hx => rules_short x (hs x hx), firstBad_none (fun x hx => ⟨hs x hx, by simp⟩) nd]
/-- a policy's cell -/
def polAt (g : Gs) (n : Nat) : Option (List Str) := match g[n]? with
  | some (.ins 7 [(f, .tup us)]) => if f = "names" then strsOf us else none
  | _ => none
theorem polAt_eq {g : Gs} {n : Nat} {ns : List Str} (h : polAt g n = some ns) : g[n]? = some (pol ns) := by
  unfold polAt at h
  split at h
  · rename_i f us e
    split at h
    · rename_i ef
      subst ef
      rw [e, strsOf_eq h]
      rfl
    · cases h
  · cases h
theorem polAt_of {g : Gs} {n : Nat} {ns : List Str} (h : g[n]? = some (pol ns)) : polAt g n = some ns := by
  unfold polAt
  rw [h]
  show (if ("names" : Str) = "names" then strsOf (ss ns) else none) = _
  rw [if_pos rfl, strsOf_ss]
theorem insV_pol {g : Gs} {n : Nat} {ns : List Str} (h : polAt g n = some ns) : insV 7 (.ref n) g = some [(("names" : Str), U.tup (ss ns))] := by
  unfold insV
  dsimp only
  rw [polAt_eq h]
  rfl
theorem polAt_lt {g : Gs} {n : Nat} {ns : List Str} (h : polAt g n = some ns) : n < g.length := (List.getElem?_eq_some_iff.mp (polAt_eq h)).1
theorem polAt_app {g J : Gs} {n : Nat} {ns : List Str} (h : polAt g n = some ns) : polAt (g ++ J) n = some ns := polAt_of (by rw [get_app (polAt_lt h)]; exact polAt_eq h)
theorem run_has {g : Gs} {n : Nat} {ns : List Str} {x : Str} (h : polAt g n = some ns) : m_has [.ref n, .str x] g = .ok (.bl (decide (x ∈ ns))) g := by
  unfold m_has defM b_has
  simp [insV_pol h, in_tup]
theorem run_contains {g : Gs} {n : Nat} {ns : List Str} {x : Str} (h : polAt g n = some ns) : m_contains [.ref n, .str x] g = .ok (.bl (decide (x ∈ ns))) g := by
  unfold m_contains defM b_contains
  simp [insV_pol h, in_tup]
theorem items_ref {g : Gs} {n : Nat} {xs : List U} (h : lstAt g n = some xs) : itemsU (.ref n) g = some xs := by
  have e : ownV 7 "names" (.ref n) g = none := by
    unfold lstAt at h
    split at h
    · rename_i us e
      unfold ownV insV
      dsimp only
      rw [e]
    · cases h
  unfold itemsU
  rw [e]
  exact h
def orL (ns ms : List Str) : List Str := rules.filter fun x => decide (x ∈ ns) || decide (x ∈ ms)
def subL (ns ms : List Str) : List Str := ns.filter fun x => decide (x ∉ ms)
def p_or : Mm := fun us g => match us with
  | [.ref a, .ref b] => match polAt g a, polAt g b with
    | some ns, some ms => .ok (.ref g.length) (g ++ [pol (orL ns ms)])
    | _, _ => .bad
  | _ => .bad
theorem filter_rules_idem (p : Str → Bool) : (rules.filter fun x => decide (x ∈ rules.filter p)) = rules.filter p := sub_filter List.filter_sublist rules_nodup
theorem run_or {g : Gs} {a b : Nat} {ns ms : List Str} (ha : polAt g a = some ns) (hb : polAt g b = some ms) : m_or p_init [.ref a, .ref b] g = .ok (.ref (g.length + 1)) (g ++ [.lst (ss (orL ns ms)), pol (orL ns ms)]) := by
  have e : lcGo (fun _ => true) (nameT 2) (orT (tst (op2 (inO false) (var 2) (fldE 7 "names" (var 0)))) (tst (op2 (inO false) (var 2) (fldE 7 "names" (var 1))))) (var 2) (ss rules) [some (.ref a), some (.ref b), none] g = .ok ((ss rules).filter (fun u => match u with | .str x => decide (x ∈ ns) || decide (x ∈ ms) | _ => false) |>.map id) g := by
    refine lcGo_pure rfl fun v hv => ?_
    obtain ⟨x, hx, rfl⟩ := List.mem_map.mp hv
    refine ⟨?_, fun _ => ?_⟩
    · by_cases h1 : x ∈ ns <;> simp [tst_eq, insV_pol ha, insV_pol hb, in_tup, h1]
    · simp
  rw [List.map_id, filter_ss (fun x => decide (x ∈ ns) || decide (x ∈ ms)) _ (fun s => rfl)] at e
  have hlen : (orL ns ms).length ≤ 29 := Nat.le_trans (List.length_filter_le _ _) (by decide)
  have e2 : lcE [2] (itE (con u_RULES)) (nameT 2) (orT (tst (op2 (inO false) (var 2) (fldE 7 "names" (var 0)))) (tst (op2 (inO false) (var 2) (fldE 7 "names" (var 1))))) (var 2) [some (.ref a), some (.ref b), none] g = .ok (.ref g.length) (g ++ [.lst (ss (orL ns ms))]) := by
    have e2 : (con u_RULES [some (.ref a), some (.ref b), none] g).bind itV = .ok (ss rules, fun _ => true) g := rfl
    rw [lcE_ev, itE_ev, e2]
    dsimp only [Res.bind]
    rw [if_pos (by decide +kernel)]
    show (lcGo _ _ _ _ _ [some (.ref a), some (.ref b), none] g).bind newL = _
    rw [e]
    exact newL_ok (by rw [ss_length]; exact Nat.le_trans hlen (by decide))
  have e3 : newI 7 p_init [.ref g.length] (g ++ [.lst (ss (orL ns ms))]) = .ok (.ref (g.length + 1)) (g ++ [.lst (ss (orL ns ms)), pol (orL ns ms)]) := by
    rw [run_new_sub (xs := orL ns ms) (items_ref (lstAt_app (lstAt_new _ _))) (fun x hx => (List.mem_filter.mp hx).1) (rules_nodup.filter _) (Nat.le_trans hlen (by decide))]
    have q : (rules.filter fun x => decide (x ∈ orL ns ms)) = orL ns ms := filter_rules_idem _
    rw [q, List.length_append, List.append_assoc]
    rfl
  unfold m_or defM b_or
  simp [-lcE_ev, e2, e3]
theorem ref_or {κ : R.Ctx} : Refines κ p_or (m_or p_init) := Refines.of_drops fun us g hc hu hb => by
  unfold p_or at hb ⊢
  split at hb
  · rename_i a b
    split at hb
    · rename_i ns ms e1 e2
      rw [run_or e1 e2]
      refine .new (J := [.lst (ss (orL ns ms)), pol (orL ns ms)]) (Nat.le_succ _) ?_ (clC_pol _ _) hc
      rw [List.getElem?_append_right (Nat.le_succ _)]
      simp
    · exact absurd rfl hb
  · exact absurd rfl hb
def p_sub : Mm := fun us g => match us with
  | [.ref a, .ref b] => match polAt g a, polAt g b with
    | some ns, some ms => if ns.Sublist rules then .ok (.ref g.length) (g ++ [pol (subL ns ms)]) else .bad
    | _, _ => .bad
  | _ => .bad
theorem run_sub {g : Gs} {a b : Nat} {ns ms : List Str} (ha : polAt g a = some ns) (hb : polAt g b = some ms) (hs : ns.Sublist rules) : m_sub p_init [.ref a, .ref b] g = .ok (.ref (g.length + 1)) (g ++ [.lst (ss (subL ns ms)), pol (subL ns ms)]) := by
  have e : lcGo (fun _ => true) (nameT 2) (tst (op2 (inO true) (var 2) (fldE 7 "names" (var 1)))) (var 2) (ss ns) [some (.ref a), some (.ref b), none] g = .ok ((ss ns).filter (fun u => match u with | .str x => decide (x ∉ ms) | _ => false) |>.map id) g := by
    refine lcGo_pure rfl fun v hv => ?_
    obtain ⟨x, hx, rfl⟩ := List.mem_map.mp hv
    refine ⟨?_, fun _ => ?_⟩
    · simp [tst_eq, insV_pol hb, in_tup]
    · simp
  rw [List.map_id, filter_ss (fun x => decide (x ∉ ms)) _ (fun s => rfl)] at e
  have hln : ns.length ≤ 29 := hs.length_le
  have hlen : (subL ns ms).length ≤ 29 := Nat.le_trans (List.length_filter_le _ _) hln
  have hsub : (subL ns ms).Sublist rules := List.filter_sublist.trans hs
  have e2 : lcE [2] (itE (fldE 7 "names" (var 0))) (nameT 2) (tst (op2 (inO true) (var 2) (fldE 7 "names" (var 1)))) (var 2) [some (.ref a), some (.ref b), none] g = .ok (.ref g.length) (g ++ [.lst (ss (subL ns ms))]) := by
    have e2 : (fldE 7 "names" (var 0) [some (.ref a), some (.ref b), none] g).bind itV = .ok (ss ns, fun _ => true) g := by
      simp [insV_pol ha]
      rfl
    rw [lcE_ev, itE_ev, e2]
    dsimp only [Res.bind]
    rw [if_pos (by rw [ss_length]; omega)]
    show (lcGo _ _ _ _ _ [some (.ref a), some (.ref b), none] g).bind newL = _
    rw [e]
    exact newL_ok (by rw [ss_length]; exact Nat.le_trans hlen (by decide))
  have e3 : newI 7 p_init [.ref g.length] (g ++ [.lst (ss (subL ns ms))]) = .ok (.ref (g.length + 1)) (g ++ [.lst (ss (subL ns ms)), pol (subL ns ms)]) := by
    rw [run_new_sub (xs := subL ns ms) (items_ref (lstAt_app (lstAt_new _ _))) (fun x hx => hsub.subset hx) (hsub.nodup rules_nodup) (Nat.le_trans hlen (by decide))]
    have q : (rules.filter fun x => decide (x ∈ subL ns ms)) = subL ns ms := sub_filter hsub rules_nodup
    rw [q, List.length_append, List.append_assoc]
    rfl
  unfold m_sub defM b_sub
  simp [-lcE_ev, e2, e3]
theorem ref_sub {κ : R.Ctx} : Refines κ p_sub (m_sub p_init) := Refines.of_drops fun us g hc hu hb => by
  unfold p_sub at hb ⊢
  split at hb
  · rename_i a b
    split at hb
    · rename_i ns ms e1 e2
      split at hb
      · rename_i hs
        rw [run_sub e1 e2 hs, if_pos hs]
        refine .new (J := [.lst (ss (subL ns ms)), pol (subL ns ms)]) (Nat.le_succ _) ?_ (clC_pol _ _) hc
        rw [List.getElem?_append_right (Nat.le_succ _)]
        simp
      · exact absurd rfl hb
    · exact absurd rfl hb
  · exact absurd rfl hb
theorem run_empty {g : Gs} : m_empty p_init [] g = .ok (.ref g.length) (g ++ [pol []]) := by
  have e : newI 7 p_init [.wtu []] g = _ := run_new_sub (xs := []) rfl (fun x h => nomatch h) List.nodup_nil (by decide)
  rw [show (rules.filter fun x => decide (x ∈ ([] : List Str))) = [] from by decide +kernel] at e
  unfold m_empty defM b_empty
  simp only [List.length_nil, if_true, List.map_nil, List.replicate_zero, List.append_nil, retE_ev, mk0_ev]
  rw [e]
  simp
theorem run_full {g : Gs} : m_full p_init [] g = .ok (.ref g.length) (g ++ [pol rules]) := by
  have e : newI 7 p_init [u_RULES] g = _ := run_new_sub (xs := rules) rfl (fun x h => h) rules_nodup (by decide)
  have q : (rules.filter fun x => decide (x ∈ rules)) = rules := sub_filter (List.Sublist.refl _) rules_nodup
  rw [q] at e
  unfold m_full defM b_full
  simp [e]
end K88
set_option Elab.async false
set_option linter.all false
set_option maxRecDepth 100000
set_option maxHeartbeats 2000000
namespace K88
open R
open PySem PySem.Spec L2
open PyProof.Rows hiding St
theorem rules_run : m__law_rules [] [] = .ok (.ref 0) [.lst (ss rules)] := by
  kernel_rfl
end K88
set_option Elab.async false
set_option linter.all false
set_option maxRecDepth 100000
set_option maxHeartbeats 2000000
namespace K88
open R
open PySem PySem.Spec L2
open PyProof.Rows hiding St
def p__law_rules : Mm := fun us g => match us with
  | [] => .ok (.ref g.length) (g ++ [.lst (ss rules)])
  | _ => .bad
theorem run_rules {g : Gs} : p__law_rules [] g = .ok (.ref g.length) (g ++ [.lst (ss rules)]) := rfl
theorem ref_rules {κ : R.Ctx} : Refines κ p__law_rules (isoM m__law_rules) := Refines.of_eq fun us g hb => by
  unfold p__law_rules at hb ⊢
  split at hb
  · unfold isoM
    rw [rules_run]
    have h0 : clUs 0 [] = true := rfl
    rw [if_pos h0]
    dsimp only
    have h1 : ([Cell.lst (ss rules)] : Gs)[0]? = some (.lst (ss rules)) := rfl
    rw [h1]
    dsimp only
    rw [if_pos (clUs_ss 0 rules)]
  · exact absurd rfl hb
theorem mul_2 {v : Int} {g : Gs} : mulO (.int 2) (.int v) g = .ok (.int (2 * v)) g := by
  unfold mulO
  simp
theorem mul_16 {v : Int} {g : Gs} : mulO (.int 16) (.int v) g = .ok (.int (16 * v)) g := by
  unfold mulO
  simp
theorem add_int {a b : Int} {g : Gs} : addO (.int a) (.int b) g = .ok (.int (a + b)) g := rfl
theorem sub_int {a b : Int} {g : Gs} : subO (.int a) (.int b) g = .ok (.int (a - b)) g := rfl
theorem mod_2 {v : Int} {g : Gs} : modO (.int v) (.int 2) g = .ok (.int (v % 2)) g := rfl
theorem div_2 {v : Int} {g : Gs} : fdivO (.int v) (.int 2) g = .ok (.int (v / 2)) g := rfl
theorem eq_int {a b : Int} {g : Gs} : eqO (.int a) (.int b) g = .ok (.bl (decide (a = b))) g := rfl
theorem ne_int {a b : Int} {g : Gs} : neO (.int a) (.int b) g = .ok (.bl (!decide (a = b))) g := rfl
theorem lookup_has {u : U} : List.lookup ("has" : Str) [(("names" : Str), u)] = none := by
  rw [List.lookup_cons]
  have e : (("has" : Str) == ("names" : Str)) = false := by decide
  rw [e]
  rfl
def bit (ns : List Str) (x : Str) : Int := if x ∈ ns then 1 else 0
/-- the number of a list of rules: bit k for the k-th rule of l -/
def numL (ns : List Str) : List Str → Int
  | [] => 0
  | x :: r => 2 * numL ns r + bit ns x
theorem numL_foldr (ns l : List Str) : l.foldr (fun x v => 2 * v + bit ns x) 0 = numL ns l := by
  induction l with
  | nil => rfl
  | cons x r ih => rw [List.foldr_cons, ih]; rfl
/-- .has as an argument -/
theorem has_ev {us : Us} {g : Gs} {n i j : Nat} {ns : List Str} {x : Str} (h0 : var i us g = .ok (.ref n) g) (h1 : var j us g = .ok (.str x) g) (h : polAt g n = some ns) : mtE 7 "has" m_has [] (var i) (aCons (var j) aNil) us g = .ok (.bl (decide (x ∈ ns))) g := by
  rw [mtE_ev, h0]
  dsimp only [Res.bind]
  rw [insV_pol h]
  dsimp only
  rw [if_pos lookup_has, aCons_ev, h1]
  dsimp only [Res.bind, aNil_ev]
  show noX (m_has [.ref n, .str x] g) = _
  rw [run_has h]
  rfl
theorem number_loop {g : Gs} {n : Nat} {ns : List Str} (h : polAt g n = some ns) : ∀ (xs : List Str) (v : Int) (o : Option U), ∃ o', each (fun _ => true) (ss xs) (turn (nameT 2) (asg (op2 addO (op2 mulO (con (.int 2)) (var 1)) (bE intM (aCons (mtE 7 "has" m_has [] (var 0) (aCons (var 2) aNil)) aNil))) (nameT 1))) [some (.ref n), some (.int v), o] g =
    .nx [some (.ref n), some (.int (xs.foldl (fun v x => 2 * v + bit ns x) v)), o'] g
  | [], v, o => ⟨o, rfl⟩
  | x :: xs, v, o => by
    obtain ⟨o', ih⟩ := number_loop h xs (2 * v + bit ns x) (some (.str x))
    refine ⟨o', ?_⟩
    rw [ss_cons]
    unfold each
    rw [if_pos rfl, turn_ev]
    have e : asg (op2 addO (op2 mulO (con (.int 2)) (var 1)) (bE intM (aCons (mtE 7 "has" m_has [] (var 0) (aCons (var 2) aNil)) aNil))) (nameT 1) [some (.ref n), some (.int v), some (.str x)] g = .nx [some (.ref n), some (.int (2 * v + bit ns x)), some (.str x)] g := by
      have q := has_ev (us := [some (.ref n), some (.int v), some (.str x)]) (i := 0) (j := 2) rfl rfl h
      rw [asg_ev, op2_ev, op2_ev]
      simp only [con_ev, Res.bind_ok, var_s, var_0, mul_2, bE_ev, aCons_ev (mtE 7 "has" m_has [] (var 0) (aCons (var 2) aNil))]
      rw [q]
      by_cases hx : x ∈ ns <;> simp [hx, intM, bit, add_int]
    show (match asg _ (nameT 1) [some (.ref n), some (.int v), some (.str x)] g with
      | .nx us1 g1 => each _ (ss xs) _ us1 g1
      | .ct us1 g1 => each _ (ss xs) _ us1 g1
      | .bk us1 g1 => .nx us1 g1
      | .rt u g1 => .rt u g1
      | .exc c fs us1 g1 => .exc c fs us1 g1
      | .bad => .bad) = _
    rw [e]
    exact ih
abbrev p_policy_number : Mm := m_policy_number m_has
theorem run_policy_number {g : Gs} {n : Nat} {ns : List Str} (h : polAt g n = some ns) : p_policy_number [.ref n] g = .ok (.int (numL ns rules)) g := by
  obtain ⟨o', e⟩ := number_loop h rules.reverse 0 none
  have er : (ss rules).reverse = ss rules.reverse := by unfold ss; rw [List.map_reverse]
  rw [List.foldl_reverse, numL_foldr] at e
  have e2 : forE (revT (con u_RULES)) (nameT 2) (asg (op2 addO (op2 mulO (con (.int 2)) (var 1)) (bE intM (aCons (mtE 7 "has" m_has [] (var 0) (aCons (var 2) aNil)) aNil))) (nameT 1)) [some (.ref n), some (.int 0), none] g = .nx [some (.ref n), some (.int (numL ns rules)), o'] g := by
    rw [forE_ev]
    have q : revT (con u_RULES) [some (.ref n), some (.int 0), none] g = .ok ((ss rules).reverse, fun _ => true) g := rfl
    rw [q, er]
    exact e
  unfold p_policy_number m_policy_number defM b_policy_number
  simp [-forE_ev, e2]
theorem lawnum_loop {g : Gs} {n : Nat} {ns : List Str} {ck : Gs → Bool} (hck : ck g = true) (h : lstAt g n = some (ss ns)) : ∀ (xs : List Str) (a p : Int) (o : Option U), ∃ p' o', each ck (ss xs) (turn (nameT 3) (seq (ifS (tst (op2 (inO false) (var 3) (var 0))) (asg (op2 addO (var 1) (var 2)) (nameT 1)) skip) (asg (op2 mulO (con (.int 2)) (var 2)) (nameT 2)))) [some (.ref n), some (.int a), some (.int p), o] g =
    .nx [some (.ref n), some (.int (a + p * numL ns xs)), some (.int p'), o'] g
  | [], a, p, o => ⟨p, o, by unfold each; rw [ss_nil]; dsimp only; rw [if_pos hck]; simp [numL]⟩
  | x :: xs, a, p, o => by
    obtain ⟨p', o', ih⟩ := lawnum_loop hck h xs (a + p * bit ns x) (2 * p) (some (.str x))
    refine ⟨p', o', ?_⟩
    rw [ss_cons]
    unfold each
    rw [if_pos hck, turn_ev]
    have e : (seq (ifS (tst (op2 (inO false) (var 3) (var 0))) (asg (op2 addO (var 1) (var 2)) (nameT 1)) skip) (asg (op2 mulO (con (.int 2)) (var 2)) (nameT 2))) [some (.ref n), some (.int a), some (.int p), some (.str x)] g = .nx [some (.ref n), some (.int (a + p * bit ns x)), some (.int (2 * p)), some (.str x)] g := by
      by_cases hx : x ∈ ns <;> simp [tst_eq, in_ref h, hx, add_int, mul_2, bit]
    show (match (seq _ _) [some (.ref n), some (.int a), some (.int p), some (.str x)] g with
      | .nx us1 g1 => each _ (ss xs) _ us1 g1
      | .ct us1 g1 => each _ (ss xs) _ us1 g1
      | .bk us1 g1 => .nx us1 g1
      | .rt u g1 => .rt u g1
      | .exc c fs us1 g1 => .exc c fs us1 g1
      | .bad => .bad) = _
    rw [e]
    have ea : a + p * numL ns (x :: xs) = a + p * bit ns x + 2 * p * numL ns xs := by
      show a + p * (2 * numL ns xs + bit ns x) = _
      rw [Int.mul_add, Int.mul_comm 2 p, Int.mul_assoc]
      omega
    rw [ea]
    exact ih
theorem ckL_new (g : Gs) (xs : List U) : ckL g.length xs (g ++ [.lst xs]) = true := by
  unfold ckL
  rw [lstAt_new]
  exact U.beqs_refl xs
def p__law_number : Mm := fun us g => match us with
  | [.ref n] => match (lstAt g n).bind strsOf with
    | some ns => .ok (.int (numL ns rules)) g
    | none => .bad
  | _ => .bad
theorem run_law_number {g : Gs} {n : Nat} {ns : List Str} (h : lstAt g n = some (ss ns)) : m__law_number p__law_rules [.ref n] g = .ok (.int (numL ns rules)) (g ++ [.lst (ss rules)]) := by
  obtain ⟨p', o', e⟩ := lawnum_loop (ckL_new g (ss rules)) (lstAt_app h) rules 0 1 none
  rw [Int.zero_add, Int.one_mul] at e
  have e2 : forE (itE (call0 p__law_rules [])) (nameT 3) (seq (ifS (tst (op2 (inO false) (var 3) (var 0))) (asg (op2 addO (var 1) (var 2)) (nameT 1)) skip) (asg (op2 mulO (con (.int 2)) (var 2)) (nameT 2))) [some (.ref n), some (.int 0), some (.int 1), none] g = .nx [some (.ref n), some (.int (numL ns rules)), some (.int p'), o'] (g ++ [.lst (ss rules)]) := by
    rw [forE_ev]
    have q : itE (call0 p__law_rules []) [some (.ref n), some (.int 0), some (.int 1), none] g = .ok (ss rules, ckL g.length (ss rules)) (g ++ [.lst (ss rules)]) := by
      rw [itE_ev, call0_ev, run_rules]
      show itV (.ref g.length) (g ++ [.lst (ss rules)]) = _
      unfold itV
      dsimp only
      rw [lstAt_new]
    rw [q]
    exact e
  unfold m__law_number defM b__law_number
  simp [-forE_ev, e2]
theorem ref_law_number {κ : R.Ctx} : Refines κ p__law_number (m__law_number p__law_rules) := Refines.of_drops fun us g hc hu hb => by
  unfold p__law_number at hb ⊢
  split at hb
  · rename_i n
    split at hb
    · rename_i ns e
      cases e1 : lstAt g n with
      | none => rw [e1] at e; cases e
      | some vs =>
        rw [e1] at e
        have ev := strsOf_eq e
        subst ev
        rw [run_law_number e1]
        exact .junk _ (Nat.le_refl _) rfl hc
    · exact absurd rfl hb
  · exact absurd rfl hb
/-- the rules of l whose bits v has -/
def bitsL : List Str → Int → List Str
  | [], _ => []
  | x :: r, v => if v % 2 = 1 then x :: bitsL r (v / 2) else bitsL r (v / 2)
theorem bitsL_sub : ∀ (l : List Str) (v : Int), (bitsL l v).Sublist l
  | [], _ => .slnil
  | x :: r, v => by
    unfold bitsL
    split
    · exact .cons₂ _ (bitsL_sub r _)
    · exact .cons _ (bitsL_sub r _)
theorem numL_skip {ns : List Str} {x : Str} : ∀ {l : List Str}, x ∉ l → numL (x :: ns) l = numL ns l
  | [], _ => rfl
  | y :: r, h => by
    have hy : y ≠ x := fun q => h (q ▸ List.mem_cons_self)
    show 2 * numL (x :: ns) r + bit (x :: ns) y = 2 * numL ns r + bit ns y
    rw [numL_skip fun q => h (List.mem_cons_of_mem _ q)]
    unfold bit
    simp [hy]
theorem num_bits : ∀ (l : List Str) (v : Int), l.Nodup → 0 ≤ v → v < 2 ^ l.length → numL (bitsL l v) l = v
  | [], v, _, h0, h1 => by
    have : v < 1 := by simpa using h1
    show (0 : Int) = v
    omega
  | x :: r, v, nd, h0, h1 => by
    obtain ⟨n1, n2⟩ := List.nodup_cons.mp nd
    have hp : (2 : Int) ^ (x :: r).length = 2 * 2 ^ r.length := by rw [List.length_cons, Int.pow_succ, Int.mul_comm]
    rw [hp] at h1
    have ih := num_bits r (v / 2) n2 (by omega) (by omega)
    have nb : x ∉ bitsL r (v / 2) := fun q => n1 ((bitsL_sub r _).subset q)
    unfold bitsL
    split
    · rename_i hb
      show 2 * numL (x :: bitsL r (v / 2)) r + bit (x :: bitsL r (v / 2)) x = v
      rw [numL_skip n1, ih]
      unfold bit
      rw [if_pos List.mem_cons_self]
      omega
    · rename_i hb
      show 2 * numL (bitsL r (v / 2)) r + bit (bitsL r (v / 2)) x = v
      rw [ih]
      unfold bit
      rw [if_neg nb]
      omega
end K88
set_option Elab.async false
set_option linter.all false
set_option maxRecDepth 100000
set_option maxHeartbeats 2000000
namespace K88
open R
open PySem PySem.Spec L2
open PyProof.Rows hiding St
theorem isL_ref {g : Gs} {n : Nat} {us : List U} (h : lstAt g n = some us) : isL (.ref n) g = true := by
  unfold isL
  show (lstAt g n).isSome = true
  rw [h]
  rfl
/-- a cell in the middle is written -/
theorem set_mid (g : Gs) (c c' : Cell) (J : Gs) : (g ++ c :: J).set g.length c' = g ++ c' :: J := by
  rw [List.set_append_right _ _ (Nat.le_refl _), Nat.sub_self]
  rfl
theorem lstAt_mid (g : Gs) (us : List U) (J : Gs) : lstAt (g ++ .lst us :: J) g.length = some us := by
  unfold lstAt
  rw [List.getElem?_append_right (Nat.le_refl _), Nat.sub_self]
  rfl
theorem app_mid {g J : Gs} {acc : List Str} {x : Str} (h : acc.length < 100000) : appM (.ref g.length) [.str x] (g ++ .lst (ss acc) :: J) = .ok .non (g ++ .lst (ss (acc ++ [x])) :: J) := by
  unfold appM
  dsimp only
  rw [lstAt_mid]
  dsimp only
  rw [if_pos (by simpa using h), set_mid, ss_append]
  rfl
theorem each_cons {ck : Gs → Bool} {step : U → Sx} {x : U} {xs : List U} {us : Us} {g : Gs} (h : ck g = true) : each ck (x :: xs) step us g = (match step x us g with
    | .nx us1 g1 => each ck xs step us1 g1
    | .ct us1 g1 => each ck xs step us1 g1
    | .bk us1 g1 => .nx us1 g1
    | .rt u g1 => .rt u g1
    | .exc c fs us1 g1 => .exc c fs us1 g1
    | .bad => .bad) := by
  conv => lhs; unfold each
  rw [if_pos h]
  try rfl
theorem each_nil {ck : Gs → Bool} {step : U → Sx} {us : Us} {g : Gs} (h : ck g = true) : each ck [] step us g = .nx us g := by
  unfold each
  rw [if_pos h]
/-- the loops that read a number's bits: over rules, the list at slot i, the number at slot j, the name at slot 3 / 2 -/
theorem bits_loop {g J : Gs} {ck : Gs → Bool} (hck : ∀ ys, ck (g ++ .lst (ss ys) :: J) = true) : ∀ (xs acc : List Str) (v : Int) (o : Option U), acc.length + xs.length ≤ 1000 → ∃ v' o', each ck (ss xs) (turn (nameT 2) (seq (ifS (tst (op2 eqO (op2 modO (var 0) (con (.int 2))) (con (.int 1)))) (dropE (mE isL appM (var 1) (aCons (var 2) aNil))) skip) (asg (op2 fdivO (var 0) (con (.int 2))) (nameT 0)))) [some (.int v), some (.ref g.length), o] (g ++ .lst (ss acc) :: J) =
    .nx [some (.int v'), some (.ref g.length), o'] (g ++ .lst (ss (acc ++ bitsL xs v)) :: J)
  | [], acc, v, o, _ => ⟨v, o, by rw [ss_nil, each_nil (hck _)]; simp [bitsL]⟩
  | x :: xs, acc, v, o, hl => by
    rw [List.length_cons] at hl
    rw [ss_cons, each_cons (hck _), turn_ev]
    by_cases hb : v % 2 = 1
    · obtain ⟨v', o', ih⟩ := bits_loop hck xs (acc ++ [x]) (v / 2) (some (.str x)) (by rw [List.length_append, List.length_singleton]; omega)
      refine ⟨v', o', ?_⟩
      have e : bitsL (x :: xs) v = x :: bitsL xs (v / 2) := by
        conv => lhs; unfold bitsL
        rw [if_pos hb]
      rw [e]
      rw [List.append_assoc] at ih
      rw [show acc ++ x :: bitsL xs (v / 2) = acc ++ ([x] ++ bitsL xs (v / 2)) from rfl, ← ih]
      have ha := app_mid (g := g) (J := J) (acc := acc) (x := x) (by omega)
      have hL : isL (.ref g.length) (g ++ .lst (ss acc) :: J) = true := isL_ref (lstAt_mid _ _ _)
      simp [tst_eq, mod_2, eq_int, hb, ha, hL, div_2]
    · obtain ⟨v', o', ih⟩ := bits_loop hck xs acc (v / 2) (some (.str x)) (by omega)
      refine ⟨v', o', ?_⟩
      have e : bitsL (x :: xs) v = bitsL xs (v / 2) := by
        conv => lhs; unfold bitsL
        rw [if_neg hb]
      rw [e, ← ih]
      simp [tst_eq, mod_2, eq_int, hb, div_2]
def p_policy_numbered : Mm := fun us g => match us with
  | [.int v] => if 0 ≤ v ∧ v ≤ 536870911 then .ok (.ref g.length) (g ++ [pol (bitsL rules v)]) else .exc 5 [("name", .str "number")] g
  | _ => .bad
theorem run_numbered {g : Gs} {v : Int} (h : 0 ≤ v ∧ v ≤ 536870911) : m_policy_numbered p_init [.int v] g = .ok (.ref (g.length + 1)) (g ++ [.lst (ss (bitsL rules v)), pol (bitsL rules v)]) := by
  obtain ⟨v', o', e⟩ := bits_loop (g := g) (J := []) (ck := fun _ => true) (fun _ => rfl) rules [] v none (by decide +kernel)
  rw [List.nil_append] at e
  have hs := bitsL_sub rules v
  have e3 : newI 7 p_init [.ref g.length] (g ++ [.lst (ss (bitsL rules v))]) = .ok (.ref (g.length + 1)) (g ++ [.lst (ss (bitsL rules v)), pol (bitsL rules v)]) := by
    rw [run_new_sub (xs := bitsL rules v) (items_ref (lstAt_app (lstAt_new _ _))) (fun x hx => hs.subset hx) (hs.nodup rules_nodup) (Nat.le_trans hs.length_le (by decide))]
    rw [sub_filter hs rules_nodup, List.length_append, List.append_assoc]
    rfl
  have e2 : forE (itE (con u_RULES)) (nameT 2) (seq (ifS (tst (op2 eqO (op2 modO (var 0) (con (.int 2))) (con (.int 1)))) (dropE (mE isL appM (var 1) (aCons (var 2) aNil))) skip) (asg (op2 fdivO (var 0) (con (.int 2))) (nameT 0))) [some (.int v), some (.ref g.length), none] (g ++ [.lst []]) = _ := e
  unfold m_policy_numbered defM b_policy_numbered
  have q1 : leO (.int 0) (.int v) g = .ok (.bl true) g := by
    show (Res.ok (.bl (decide (0 ≤ v))) g : Res U) = _
    rw [decide_eq_true h.1]
  have q2 : leO (.int v) u_MOST_NUMBER g = .ok (.bl true) g := by
    show (Res.ok (.bl (decide (v ≤ 536870911))) g : Res U) = _
    rw [decide_eq_true h.2]
  have q0 : newL [] g = .ok (.ref g.length) (g ++ [.lst []]) := rfl
  simp [-forE_ev, tst_eq, q1, q2, q0, e2, e3]
theorem run_numbered_out {g : Gs} {v : Int} (h : ¬ (0 ≤ v ∧ v ≤ 536870911)) : m_policy_numbered p_init [.int v] g = .exc 5 [("name", .str "number")] g := by
  unfold m_policy_numbered defM b_policy_numbered
  have q3 : fmtU (.str "number") = true := by decide
  by_cases h0 : 0 ≤ v
  · have h1 : ¬ v ≤ 536870911 := fun q => h ⟨h0, q⟩
    have q1 : leO (.int 0) (.int v) g = .ok (.bl true) g := by
      show (Res.ok (.bl (decide (0 ≤ v))) g : Res U) = _
      rw [decide_eq_true h0]
    have q2 : leO (.int v) u_MOST_NUMBER g = .ok (.bl false) g := by
      show (Res.ok (.bl (decide (v ≤ 536870911))) g : Res U) = _
      rw [decide_eq_false h1]
    simp [tst_eq, q1, q2, q3]
  · have q1 : leO (.int 0) (.int v) g = .ok (.bl false) g := by
      show (Res.ok (.bl (decide (0 ≤ v))) g : Res U) = _
      rw [decide_eq_false h0]
    simp [tst_eq, q1, q3]
theorem ref_numbered {κ : R.Ctx} : Refines κ p_policy_numbered (m_policy_numbered p_init) := Refines.of_drops fun us g hc hu hb => by
  unfold p_policy_numbered at hb ⊢
  split at hb
  · rename_i v
    by_cases h : 0 ≤ v ∧ v ≤ 536870911
    · rw [if_pos h, run_numbered h]
      refine .new (J := [.lst (ss (bitsL rules v)), pol (bitsL rules v)]) (Nat.le_succ _) ?_ (clC_pol _ _) hc
      rw [List.getElem?_append_right (Nat.le_succ _)]
      simp
    · rw [if_neg h, run_numbered_out h]
      exact .same _
  · exact absurd rfl hb
theorem lbits_loop {g J : Gs} {ck : Gs → Bool} {u : U} (hck : ∀ ys, ck (g ++ .lst (ss ys) :: J) = true) : ∀ (xs acc : List Str) (v : Int) (o : Option U), acc.length + xs.length ≤ 1000 → ∃ v' o', each ck (ss xs) (turn (nameT 3) (seq (ifS (tst (op2 eqO (op2 modO (bE intM (aCons (var 2) aNil)) (con (.int 2))) (con (.int 1)))) (dropE (mE isL appM (var 1) (aCons (var 3) aNil))) skip) (asg (op2 fdivO (var 2) (con (.int 2))) (nameT 2)))) [some u, some (.ref g.length), some (.int v), o] (g ++ .lst (ss acc) :: J) =
    .nx [some u, some (.ref g.length), some (.int v'), o'] (g ++ .lst (ss (acc ++ bitsL xs v)) :: J)
  | [], acc, v, o, _ => ⟨v, o, by rw [ss_nil, each_nil (hck _)]; simp [bitsL]⟩
  | x :: xs, acc, v, o, hl => by
    rw [List.length_cons] at hl
    rw [ss_cons, each_cons (hck _), turn_ev]
    by_cases hb : v % 2 = 1
    · obtain ⟨v', o', ih⟩ := lbits_loop (u := u) hck xs (acc ++ [x]) (v / 2) (some (.str x)) (by rw [List.length_append, List.length_singleton]; omega)
      refine ⟨v', o', ?_⟩
      have e : bitsL (x :: xs) v = x :: bitsL xs (v / 2) := by
        conv => lhs; unfold bitsL
        rw [if_pos hb]
      rw [e]
      rw [List.append_assoc] at ih
      rw [show acc ++ x :: bitsL xs (v / 2) = acc ++ ([x] ++ bitsL xs (v / 2)) from rfl, ← ih]
      have ha := app_mid (g := g) (J := J) (acc := acc) (x := x) (by omega)
      have hL : isL (.ref g.length) (g ++ .lst (ss acc) :: J) = true := isL_ref (lstAt_mid _ _ _)
      simp [tst_eq, mod_2, eq_int, hb, ha, hL, div_2, intM]
    · obtain ⟨v', o', ih⟩ := lbits_loop (u := u) hck xs acc (v / 2) (some (.str x)) (by omega)
      refine ⟨v', o', ?_⟩
      have e : bitsL (x :: xs) v = bitsL xs (v / 2) := by
        conv => lhs; unfold bitsL
        rw [if_neg hb]
      rw [e, ← ih]
      simp [tst_eq, mod_2, eq_int, hb, div_2, intM]
def p__law_numbered : Mm := fun us g => match us with
  | [.int v] => .ok (.ref g.length) (g ++ [.lst (ss (bitsL rules v))])
  | _ => .bad
theorem run_law_numbered {g : Gs} {v : Int} : m__law_numbered p__law_rules [.int v] g = .ok (.ref g.length) (g ++ [.lst (ss (bitsL rules v)), .lst (ss rules)]) := by
  have hck : ∀ ys, ckL (g.length + 1) (ss rules) (g ++ .lst (ss ys) :: [.lst (ss rules)]) = true := fun ys => by
    have q := ckL_new (g ++ [.lst (ss ys)]) (ss rules)
    rw [List.length_append, List.append_assoc] at q
    exact q
  obtain ⟨v', o', e⟩ := lbits_loop (g := g) (J := [.lst (ss rules)]) (u := .int v) hck rules [] v none (by decide +kernel)
  rw [List.nil_append] at e
  have e2 : forE (itE (call0 p__law_rules [])) (nameT 3) (seq (ifS (tst (op2 eqO (op2 modO (bE intM (aCons (var 2) aNil)) (con (.int 2))) (con (.int 1)))) (dropE (mE isL appM (var 1) (aCons (var 3) aNil))) skip) (asg (op2 fdivO (var 2) (con (.int 2))) (nameT 2))) [some (.int v), some (.ref g.length), some (.int v), none] (g ++ [.lst []]) = .nx [some (.int v), some (.ref g.length), some (.int v'), o'] (g ++ [.lst (ss (bitsL rules v)), .lst (ss rules)]) := by
    rw [forE_ev]
    have q : itE (call0 p__law_rules []) [some (.int v), some (.ref g.length), some (.int v), none] (g ++ [.lst []]) = .ok (ss rules, ckL (g.length + 1) (ss rules)) (g ++ .lst (ss []) :: [.lst (ss rules)]) := by
      rw [itE_ev, call0_ev, run_rules]
      show itV (.ref (g ++ [Cell.lst []]).length) ((g ++ [Cell.lst []]) ++ [Cell.lst (ss rules)]) = _
      unfold itV
      dsimp only
      rw [lstAt_new, List.length_append, List.append_assoc]
      rfl
    rw [q]
    exact e
  unfold m__law_numbered defM b__law_numbered
  have q0 : newL [] g = .ok (.ref g.length) (g ++ [.lst []]) := rfl
  simp [-forE_ev, q0, e2]
theorem ref_law_numbered {κ : R.Ctx} : Refines κ p__law_numbered (m__law_numbered p__law_rules) := Refines.of_drops fun us g hc hu hb => by
  unfold p__law_numbered at hb ⊢
  split at hb
  · rename_i v
    rw [run_law_numbered]
    refine .new (J := [.lst (ss (bitsL rules v)), .lst (ss rules)]) (Nat.le_refl _) ?_ (clC_lst _ _) hc
    rw [List.getElem?_append_right (Nat.le_refl _)]
    simp
  · exact absurd rfl hb
end K88
set_option Elab.async false
set_option linter.all false
set_option maxRecDepth 100000
set_option maxHeartbeats 2000000
namespace K88
open R
open PySem PySem.Spec L2
open PyProof.Rows hiding St
/-! ### lists compared -/
def StrOk (xs : List Str) : Prop := ∀ x ∈ xs, (PyData.str x).canLay0 = true
theorem toDws_ss (rd : Nat → Option PyData) : ∀ xs : List Str, toDws rd (ss xs) = some (xs.map PyData.str)
  | [] => rfl
  | x :: xs => by
    show (match toDw rd (.str x) with
      | none => none
      | some d => match toDws rd (ss xs) with
        | none => none
        | some ds => some (d :: ds)) = _
    rw [toDws_ss rd xs]
    rfl
theorem toD_ref {g : Gs} {n : Nat} {xs : List Str} (h : lstAt g n = some (ss xs)) : toD g (.ref n) = some (.list (xs.map PyData.str)) := by
  unfold toD
  show rdr g 4 n = _
  unfold rdr
  rw [h]
  dsimp only
  rw [toDws_ss]
  rfl
theorem eqv_strs : ∀ xs ys : List Str, PyData.eqvAll (xs.map PyData.str) (ys.map PyData.str) = decide (xs = ys)
  | [], [] => by simp [PyData.eqvAll]
  | [], y :: ys => by simp [PyData.eqvAll]
  | x :: xs, [] => by simp [PyData.eqvAll]
  | x :: xs, y :: ys => by
    rw [List.map_cons, List.map_cons]
    unfold PyData.eqvAll
    rw [eqv_strs xs ys]
    unfold PyData.eqv
    by_cases h1 : x = y <;> by_cases h2 : xs = ys <;> simp [h1, h2]
theorem can_strs : ∀ {xs : List Str}, StrOk xs → PyData.canLayAll0 (xs.map PyData.str) = true
  | [], _ => rfl
  | x :: xs, h => by
    rw [List.map_cons]
    unfold PyData.canLayAll0
    rw [h x List.mem_cons_self, can_strs fun y hy => h y (List.mem_cons_of_mem _ hy)]
    rfl
theorem depth_strs : ∀ xs : List Str, PyData.depthAll (xs.map PyData.str) ≤ 1
  | [] => by simp [PyData.depthAll]
  | x :: xs => by
    have ih := depth_strs xs
    rw [List.map_cons]
    simp only [PyData.depthAll, PyData.depth]
    omega
theorem shaped_strs {xs : List Str} (h : StrOk xs) : SeqAt.shaped (.list (xs.map PyData.str)) = true := by
  unfold SeqAt.shaped
  have q := depth_strs xs
  have c : PyData.canLay0 (.list (xs.map PyData.str)) = true := can_strs h
  rw [c]
  simp only [PyData.depth, Bool.true_and, decide_eq_true_eq]
  exact decide_eq_true (by omega)
theorem eqB_refs {g : Gs} {n m : Nat} {xs ys : List Str} (h1 : lstAt g n = some (ss xs)) (h2 : lstAt g m = some (ss ys)) (o1 : StrOk xs) (o2 : StrOk ys) : eqB (.ref n) (.ref m) g = some (decide (xs = ys)) := by
  show eqD (.ref n) (.ref m) g = _
  unfold eqD
  rw [toD_ref h1, toD_ref h2]
  dsimp only
  rw [if_pos ⟨shaped_strs o1, shaped_strs o2⟩]
  show some (PyData.eqvAll _ _) = _
  rw [eqv_strs]
theorem ne_refs {g : Gs} {n m : Nat} {xs ys : List Str} (h1 : lstAt g n = some (ss xs)) (h2 : lstAt g m = some (ss ys)) (o1 : StrOk xs) (o2 : StrOk ys) : neO (.ref n) (.ref m) g = .ok (.bl (!decide (xs = ys))) g := by
  unfold neO
  rw [eqB_refs h1 h2 o1 o2]
theorem rules_ok : StrOk rules := by
  have h : rules.all (fun x => (PyData.str x).canLay0) = true := by decide +kernel
  exact fun x hx => List.all_eq_true.mp h x hx
theorem sub_ok {ns : List Str} (h : ns.Sublist rules) : StrOk ns := fun x hx => rules_ok x (h.subset hx)
/-! ### pick, chosen, turned, digit -/
theorem p_pick_run {g : Gs} {n : Nat} {xs : List Int} {i lim : Int} (h : lstAt g n = some (xs.map U.int)) (h0 : 0 ≤ i) (hl : 0 < lim) : p__law_pick [.ref n, .int i, .int lim] g = .ok (.int (pickI xs i.toNat lim)) g := by
  have e : ∀ ys : List Int, intsOf (ys.map U.int) = some ys := fun ys => by
    induction ys with
    | nil => rfl
    | cons y ys ih =>
      show (intsOf (ys.map U.int)).map (y :: ·) = _
      rw [ih]
      rfl
  unfold p__law_pick
  dsimp only
  rw [h]
  dsimp only
  rw [e]
  dsimp only
  rw [if_pos ⟨h0, hl⟩]
theorem p_pick_inv {us : List U} {g : Gs} (h : p__law_pick us g ≠ .bad) : ∃ (n : Nat) (i lim : Int) (xs : List Int), us = [.ref n, .int i, .int lim] ∧ lstAt g n = some (xs.map U.int) ∧ 0 ≤ i ∧ 0 < lim := by
  unfold p__law_pick at h
  split at h
  · rename_i n i lim
    split at h
    · rename_i vs e1
      split at h
      · rename_i xs e2
        split at h
        · rename_i hc
          exact ⟨n, i, lim, xs, rfl, by rw [e1, intsOf_at e2], hc.1, hc.2⟩
        · exact absurd rfl h
      · exact absurd rfl h
    · exact absurd rfl h
  · exact absurd rfl h
def chosenL (xs : List Int) (i : Nat) : List Str := ((List.range 29).filter fun k => decide (pickI xs (i + k) 2 = 1)).map fun k => rules.getD k ""
theorem rules_range : rules = (List.range 29).map fun k => rules.getD k "" := by decide +kernel
theorem chosen_sub (xs : List Int) (i : Nat) : (chosenL xs i).Sublist rules := by
  have q : (chosenL xs i).Sublist ((List.range 29).map fun k => rules.getD k "") := List.Sublist.map _ List.filter_sublist
  rw [← rules_range] at q
  exact q
theorem chosen_items (xs : List Int) (i : Nat) : ∀ l : List Nat, (((l.map fun k : Nat => U.int (k : Int)).filter (fun u => match u with | .int k => decide (pickI xs (i + k.toNat) 2 = 1) | _ => false)).map (fun u => match u with | .int k => U.str (rules.getD k.toNat "") | u => u)) = ss ((l.filter fun k => decide (pickI xs (i + k) 2 = 1)).map fun k => rules.getD k "")
  | [] => rfl
  | k :: l => by
    have ih := chosen_items xs i l
    by_cases h : pickI xs (i + k) 2 = 1
    · rw [List.map_cons, List.filter_cons_of_pos (by simpa using h), List.filter_cons_of_pos (by simpa using h), List.map_cons, List.map_cons, ih]
      rfl
    · rw [List.map_cons, List.filter_cons_of_neg (by simpa using h), List.filter_cons_of_neg (by simpa using h), ih]
theorem ints29 : intsU 0 29 = (List.range 29).map fun k : Nat => U.int (k : Int) := by rfl
def p__law_chosen : Mm := fun us g => match us with
  | [.ref n, .int i] => (match (lstAt g n).bind intsOf with
    | some xs => if 0 ≤ i then .ok (.ref g.length) (g ++ [.lst (ss (chosenL xs i.toNat))]) else .bad
    | none => .bad)
  | _ => .bad
theorem run_chosen {g : Gs} {n : Nat} {xs : List Int} {i : Int} (h : lstAt g n = some (xs.map U.int)) (h0 : 0 ≤ i) : m__law_chosen p__law_pick p__law_rules [.ref n, .int i] g = .ok (.ref (g.length + 1)) (g ++ [.lst (ss rules), .lst (ss (chosenL xs i.toNat))]) := by
  have hr : lstAt (g ++ [.lst (ss rules)]) g.length = some (ss rules) := lstAt_new _ _
  have hn : lstAt (g ++ [.lst (ss rules)]) n = some (xs.map U.int) := lstAt_app h
  have e : lcGo (fun _ => true) (nameT 3) (tst (op2 eqO (callE p__law_pick [] (aCons (var 0) (aCons (op2 addO (var 1) (var 3)) (aCons (con (.int 2)) aNil)))) (con (.int 1)))) (op2 ixO (var 2) (var 3)) (intsU 0 29) [some (.ref n), some (.int i), some (.ref g.length), none] (g ++ [.lst (ss rules)]) =
      .ok (((intsU 0 29).filter (fun u => match u with | .int k => decide (pickI xs (i.toNat + k.toNat) 2 = 1) | _ => false)).map (fun u => match u with | .int k => U.str (rules.getD k.toNat "") | u => u)) (g ++ [.lst (ss rules)]) := by
    refine lcGo_pure rfl fun v hv => ?_
    rw [ints29] at hv
    obtain ⟨k, hk, rfl⟩ := List.mem_map.mp hv
    have hk29 : k < 29 := List.mem_range.mp hk
    have e1 := p_pick_run hn (i := i + k) (lim := 2) (by omega) (by decide)
    have e2 : (i + (k : Int)).toNat = i.toNat + k := by omega
    rw [e2] at e1
    refine ⟨?_, fun _ => ?_⟩
    · simp [tst_eq, add_int, e1, eq_int]
    · have hg : (ss rules)[(k : Int).toNat]? = some (.str (rules.getD k "")) := by
        have hk' : k < rules.length := hk29
        rw [Int.toNat_natCast]
        refine ss_get ?_
        rw [List.getElem?_eq_getElem hk', List.getD_eq_getElem?_getD, List.getElem?_eq_getElem hk']
        rfl
      have e3 := ixO_ref hr (by omega : (0 : Int) ≤ (k : Int)) hg
      simp [e3]
  rw [ints29, chosen_items] at e
  have hl : (ss (chosenL xs i.toNat)).length ≤ 100000 := by
    rw [ss_length]
    exact Nat.le_trans (chosen_sub xs i.toNat).length_le (by decide)
  have e4 : lcE [3] (itRng1 (aCons (con (.int 29)) aNil)) (nameT 3) (tst (op2 eqO (callE p__law_pick [] (aCons (var 0) (aCons (op2 addO (var 1) (var 3)) (aCons (con (.int 2)) aNil)))) (con (.int 1)))) (op2 ixO (var 2) (var 3)) [some (.ref n), some (.int i), some (.ref g.length), none] (g ++ [.lst (ss rules)]) = .ok (.ref (g.length + 1)) (g ++ [.lst (ss rules), .lst (ss (chosenL xs i.toNat))]) := by
    have q : itRng1 (aCons (con (.int 29)) aNil) [some (.ref n), some (.int i), some (.ref g.length), none] (g ++ [.lst (ss rules)]) = .ok (intsU 0 29, fun _ => true) (g ++ [.lst (ss rules)]) := rfl
    rw [lcE_ev, q, ints29]
    dsimp only [Res.bind]
    rw [if_pos (by decide +kernel)]
    show (lcGo _ _ _ _ _ [some (.ref n), some (.int i), some (.ref g.length), none] _).bind newL = _
    rw [e]
    show newL (ss (chosenL xs i.toNat)) (g ++ [.lst (ss rules)]) = _
    rw [newL_ok hl, List.length_append, List.append_assoc]
    rfl
  unfold m__law_chosen defM b__law_chosen
  simp [-lcE_ev, run_rules, e4]
theorem ref_chosen {κ : R.Ctx} : Refines κ p__law_chosen (m__law_chosen p__law_pick p__law_rules) := Refines.of_drops fun us g hc hu hb => by
  unfold p__law_chosen at hb ⊢
  split at hb
  · rename_i n i
    split at hb
    · rename_i xs e
      split at hb
      · rename_i h0
        cases e1 : lstAt g n with
        | none => rw [e1] at e; cases e
        | some vs =>
          rw [e1] at e
          have ev := intsOf_at e
          subst ev
          rw [run_chosen e1 h0, if_pos h0]
          refine .new (J := [.lst (ss rules), .lst (ss (chosenL xs i.toNat))]) (Nat.le_succ _) ?_ (clC_lst _ _) hc
          rw [List.getElem?_append_right (Nat.le_succ _)]
          simp
      · exact absurd rfl hb
    · exact absurd rfl hb
  · exact absurd rfl hb
end K88
set_option Elab.async false
set_option linter.all false
set_option maxRecDepth 100000
set_option maxHeartbeats 2000000
namespace K88
open R
open PySem PySem.Spec L2
open PyProof.Rows hiding St
/-! ### slices of lists -/
theorem sl_from {g : Gs} {n : Nat} {us : List U} {p : Nat} (h : lstAt g n = some us) (hp : p ≤ us.length) (hl : us.length ≤ 100000) : slU (.ref n) (some (p : Int)) none g = .ok (.ref g.length) (g ++ [.lst (us.drop p)]) := by
  have e : cutU us (some (p : Int)) none = us.drop p := by
    unfold cutU
    rw [HT.sIx_nat, HT.sIx_none, Nat.min_eq_left hp]
    exact List.take_of_length_le (by rw [List.length_drop]; exact Nat.le_refl _)
  show (match lstV (.ref n) g with
    | some us => newL (cutU us (some (p : Int)) none) g
    | none => .bad) = _
  have q : lstV (.ref n) g = some us := h
  rw [q]
  dsimp only
  rw [e, newL_ok (by rw [List.length_drop]; omega)]
theorem sl_to {g : Gs} {n : Nat} {us : List U} {p : Nat} (h : lstAt g n = some us) (hp : p ≤ us.length) (hl : us.length ≤ 100000) : slU (.ref n) none (some (p : Int)) g = .ok (.ref g.length) (g ++ [.lst (us.take p)]) := by
  have e : cutU us none (some (p : Int)) = us.take p := by
    unfold cutU
    rw [HT.sIx_nat, HT.sIx_none, Nat.min_eq_left hp, List.drop_zero, Nat.sub_zero]
  show (match lstV (.ref n) g with
    | some us => newL (cutU us none (some (p : Int))) g
    | none => .bad) = _
  have q : lstV (.ref n) g = some us := h
  rw [q]
  dsimp only
  rw [e, newL_ok (by rw [List.length_take]; omega)]
theorem add_refs {g : Gs} {n m : Nat} {us vs : List U} (h1 : lstAt g n = some us) (h2 : lstAt g m = some vs) (hl : us.length + vs.length ≤ 100000) : addO (.ref n) (.ref m) g = .ok (.ref g.length) (g ++ [.lst (us ++ vs)]) := by
  show (match lstAt g n, lstAt g m with
    | some xs, some ys => newL (xs ++ ys) g
    | _, _ => .bad) = _
  rw [h1, h2]
  dsimp only
  rw [newL_ok (by rw [List.length_append]; exact hl)]
theorem lstAt_2 (g : Gs) (a b : List U) : lstAt (g ++ [.lst a, .lst b]) (g.length + 1) = some b := by
  have q := lstAt_new (g ++ [.lst a]) b
  rw [List.length_append, List.append_assoc] at q
  exact q
theorem lstAt_3 (g : Gs) (a b c : List U) : lstAt (g ++ [.lst a, .lst b, .lst c]) (g.length + 2) = some c := by
  have q := lstAt_new (g ++ [.lst a, .lst b]) c
  rw [List.length_append, List.append_assoc] at q
  exact q
/-- names from a place on, then those ahead of it; backwards: the other way round -/
def turnU (us : List U) (p : Nat) (b : Int) : List U := if b = 1 then (us.drop p ++ us.take p).reverse else us.drop p ++ us.take p
def p__law_turned : Mm := fun us g => match us with
  | [.ref n, .int p, .int b] => (match lstAt g n with
    | some us => if (0 ≤ p ∧ p ≤ us.length) ∧ us.length ≤ 1000 then .ok (.ref g.length) (g ++ [.lst (turnU us p.toNat b)]) else .bad
    | none => .bad)
  | _ => .bad
theorem run_turned {g : Gs} {n p : Nat} {b : Int} {us : List U} (h : lstAt g n = some us) (hp : p ≤ us.length) (hl : us.length ≤ 1000) : ∃ k J, g.length ≤ k ∧ (g ++ J)[k]? = some (.lst (turnU us p b)) ∧ m__law_turned [.ref n, .int p, .int b] g = .ok (.ref k) (g ++ J) := by
  have e1 := sl_from h hp (by omega)
  have h2 : lstAt (g ++ [.lst (us.drop p)]) n = some us := lstAt_app h
  have e2 := sl_to h2 hp (by omega)
  rw [List.length_append, List.append_assoc] at e2
  have q1 : lstAt (g ++ [.lst (us.drop p), .lst (us.take p)]) g.length = some (us.drop p) := lstAt_mid _ _ _
  have q2 := lstAt_2 g (us.drop p) (us.take p)
  have e3 := add_refs q1 q2 (by rw [List.length_drop, List.length_take]; omega)
  rw [List.length_append, List.append_assoc] at e3
  by_cases hb : b = 1
  · have q3 := lstAt_3 g (us.drop p) (us.take p) (us.drop p ++ us.take p)
    refine ⟨g.length + 3, [.lst (us.drop p), .lst (us.take p), .lst (us.drop p ++ us.take p), .lst (us.drop p ++ us.take p).reverse], by omega, ?_, ?_⟩
    · rw [List.getElem?_append_right (by omega)]
      unfold turnU
      rw [if_pos hb]
      have : g.length + 3 - g.length = 3 := by omega
      rw [this]
      rfl
    · have e4 : newL (us.drop p ++ us.take p).reverse (g ++ [.lst (us.drop p), .lst (us.take p), .lst (us.drop p ++ us.take p)]) = .ok (.ref (g.length + 3)) (g ++ [.lst (us.drop p), .lst (us.take p), .lst (us.drop p ++ us.take p), .lst (us.drop p ++ us.take p).reverse]) := by
        rw [newL_ok (by rw [List.length_reverse, List.length_append, List.length_drop, List.length_take]; omega), List.length_append, List.append_assoc]
        rfl
      have q3' : lstV (.ref (g.length + 2)) (g ++ [.lst (us.drop p), .lst (us.take p), .lst (us.drop p ++ us.take p)]) = some (us.drop p ++ us.take p) := q3
      unfold m__law_turned defM b__law_turned
      simp at e1 e2 e3 q3' e4
      simp [tst_eq, e1, e2, e3, eq_int, hb, q3', e4]
  · refine ⟨g.length + 2, [.lst (us.drop p), .lst (us.take p), .lst (us.drop p ++ us.take p)], by omega, ?_, ?_⟩
    · rw [List.getElem?_append_right (by omega)]
      unfold turnU
      rw [if_neg hb]
      have : g.length + 2 - g.length = 2 := by omega
      rw [this]
      rfl
    · unfold m__law_turned defM b__law_turned
      simp at e1 e2 e3
      simp [tst_eq, e1, e2, e3, eq_int, hb]
theorem ref_turned {κ : R.Ctx} : Refines κ p__law_turned m__law_turned := Refines.of_drops fun us g hc hu hb => by
  unfold p__law_turned at hb ⊢
  split at hb
  · rename_i n p b
    split at hb
    · rename_i vs e1
      split at hb
      · rename_i hp
        obtain ⟨q, rfl⟩ : ∃ q : Nat, p = q := ⟨p.toNat, by omega⟩
        obtain ⟨k, J, h1, h2, h3⟩ := run_turned (p := q) (b := b) e1 (by omega) hp.2
        rw [h3, if_pos hp, Int.toNat_natCast]
        have hv : clUs g.length vs = true := by
          unfold lstAt at e1
          split at e1
          · rename_i ws ew
            cases e1
            exact hc _ (List.mem_of_getElem? ew)
          · cases e1
        refine .new h1 h2 ?_ hc
        have hall : ∀ {ws : List U}, (∀ w ∈ ws, w ∈ vs) → clUs g.length ws = true := by
          have key : ∀ {l : List U}, clUs g.length l = true → ∀ w ∈ l, clU g.length w = true := by
            intro l
            induction l with
            | nil => intro _ w hw; cases hw
            | cons a l ih =>
              intro hl w hw
              unfold clUs at hl
              obtain ⟨h1, h2⟩ := bb hl
              rcases List.mem_cons.mp hw with rfl | hw
              · exact h1
              · exact ih h2 w hw
          intro ws
          induction ws with
          | nil => intro _; rfl
          | cons a ws ih =>
            intro h
            unfold clUs
            rw [key hv a (h a List.mem_cons_self), ih fun w hw => h w (List.mem_cons_of_mem _ hw)]
            rfl
        refine hall fun w hw => ?_
        unfold turnU at hw
        split at hw
        · rw [List.mem_reverse] at hw
          rcases List.mem_append.mp hw with hw | hw
          · exact List.mem_of_mem_drop hw
          · exact List.mem_of_mem_take hw
        · rcases List.mem_append.mp hw with hw | hw
          · exact List.mem_of_mem_drop hw
          · exact List.mem_of_mem_take hw
      · exact absurd rfl hb
    · exact absurd rfl hb
  · exact absurd rfl hb
theorem run_digit {g : Gs} {n : Nat} {xs : List Int} {i : Int} (h : lstAt g n = some (xs.map U.int)) (h0 : 0 ≤ i) : m__law_digit [.ref n, .int i] g = .ok (.int (xs[i.toNat]?.getD 0)) g := by
  unfold m__law_digit defM b__law_digit
  by_cases h1 : i < xs.length
  · have g1 : xs[i.toNat]? = some xs[i.toNat] := List.getElem?_eq_getElem (by omega)
    have q1 := ixO_ref (i := i) h h0 (by rw [List.getElem?_map, g1]; rfl)
    simp [len_ref h, ordO, tst_eq, h1, q1, g1]
  · have g1 : xs[i.toNat]? = none := List.getElem?_eq_none (by omega)
    simp [len_ref h, ordO, tst_eq, h1, g1]
/-! ### refusals -/
def p__law_refused : Mm := fun us g => match us with
  | [.ref n] => (match (lstAt g n).bind strsOf with
    | some xs => if xs.length ≤ 1000 ∧ xs.all (fun x => decide (x.length ≤ 1000)) = true then .ok (.str ((firstBad [] xs).getD "accepted")) g else .bad
    | none => .bad)
  | _ => .bad
theorem look_name {u : U} : List.lookup ("name" : Str) [(("name" : Str), u)] = some u := by
  rw [List.lookup_cons]
  have e : (("name" : Str) == ("name" : Str)) = true := by decide
  rw [e]
theorem run_refused {g : Gs} {n : Nat} {xs : List Str} (h : lstAt g n = some (ss xs)) (hl : xs.length ≤ 1000) (hx : ∀ x ∈ xs, x.length ≤ 1000) : ∃ c, m__law_refused p_init [.ref n] g = .ok (.str ((firstBad [] xs).getD "accepted")) (g ++ [c]) := by
  have e := run_new (u := .ref n) (items_ref (lstAt_app (J := [.ins 7 []]) h)) hl hx
  unfold m__law_refused defM b__law_refused
  cases hb : firstBad [] xs with
  | some x =>
    rw [hb] at e
    dsimp only at e
    refine ⟨.ins 7 [], ?_⟩
    have ex : exF [(("name" : Str), U.str x)] "name" = fun _ g => .ok (.str x) g := by
      funext us g
      unfold exF
      rw [look_name]
    simp [tryE, catchE, pc__law_refused_0, e, goneS, tst_eq, ex]
  | none =>
    rw [hb] at e
    dsimp only at e
    refine ⟨pol (rules.filter fun x => decide (x ∈ xs)), ?_⟩
    simp [tryE, e]
theorem ref_refused {κ : R.Ctx} : Refines κ p__law_refused (m__law_refused p_init) := Refines.of_drops fun us g hc hu hb => by
  unfold p__law_refused at hb ⊢
  split at hb
  · rename_i n
    split at hb
    · rename_i xs e
      split at hb
      · rename_i hx
        cases e1 : lstAt g n with
        | none => rw [e1] at e; cases e
        | some vs =>
          rw [e1] at e
          have ev := strsOf_eq e
          subst ev
          obtain ⟨c, hr⟩ := run_refused e1 hx.1 fun x hx' => of_decide_eq_true (List.all_eq_true.mp hx.2 x hx')
          rw [hr, if_pos hx]
          exact .junk _ (Nat.le_refl _) rfl hc
      · exact absurd rfl hb
    · exact absurd rfl hb
  · exact absurd rfl hb
theorem run_refused_number {g : Gs} {v : Int} (h : ¬ (0 ≤ v ∧ v ≤ 536870911)) : m__law_refused_number p_policy_numbered [.int v] g = .ok (.bl true) g := by
  have e : p_policy_numbered [.int v] g = .exc 5 [("name", .str "number")] g := by
    unfold p_policy_numbered
    dsimp only
    rw [if_neg h]
  have ex : exF [(("name" : Str), U.str "number")] "name" = fun _ g => .ok (.str "number") g := by
    funext us g
    unfold exF
    rw [look_name]
  have eqs : ∀ g : Gs, eqO (.str "number") (.str "number") g = .ok (.bl true) g := fun g => by
    show (Res.ok (.bl (decide (("number" : Str) = "number"))) g : Res U) = _
    rw [decide_eq_true rfl]
  unfold m__law_refused_number defM b__law_refused_number
  simp [tryE, catchE, pc__law_refused_number_0, e, goneS, tst_eq, ex, eqs]
end K88
set_option Elab.async false
set_option linter.all false
set_option maxRecDepth 100000
set_option maxHeartbeats 2000000
namespace K88
open R
open PySem PySem.Spec L2
open PyProof.Rows hiding St
/-! ### _law_holds -/
theorem ownV_pol {g : Gs} {n : Nat} {ns : List Str} (h : polAt g n = some ns) : ownV 7 "names" (.ref n) g = some (ss ns) := by
  unfold ownV
  rw [insV_pol h]
  dsimp only
  have e : List.lookup ("names" : Str) [(("names" : Str), U.tup (ss ns))] = some (.tup (ss ns)) := by
    rw [List.lookup_cons]
    have e : (("names" : Str) == ("names" : Str)) = true := by decide
    rw [e]
  rw [e]
  rfl
theorem fld_pol {us : Us} {g : Gs} {i n : Nat} {ns : List Str} (h0 : var i us g = .ok (.ref n) g) (h : polAt g n = some ns) : fldE 7 "names" (var i) us g = .ok (.tup (ss ns)) g := by
  rw [fldE_ev, h0]
  dsimp only [Res.bind]
  rw [insV_pol h]
  dsimp only
  have e : List.lookup ("names" : Str) [(("names" : Str), U.tup (ss ns))] = some (.tup (ss ns)) := by
    rw [List.lookup_cons]
    have e : (("names" : Str) == ("names" : Str)) = true := by decide
    rw [e]
  rw [e]
theorem polAt_ref {g : Gs} {n : Nat} {us : List U} (h : lstAt g n = some us) (k : Nat) {ns : List Str} (hk : polAt g k = some ns) : n ≠ k := fun e => by
  subst e
  have q := polAt_eq hk
  unfold lstAt at h
  rw [q] at h
  cases h
def odd3 : List Str := ["", "eage", "Eager"]
/-- the loop over all rules and three more names -/
theorem holds_loop {g : Gs} {ck : Gs → Bool} {p n : Nat} {ns : List Str} (hck : ck g = true) (hp : polAt g p = some ns) (hn : lstAt g n = some (ss ns)) : ∀ (xs : List Str) (o : Option U), ∃ o', each ck (ss xs) (turn (nameT 2) (ifS (orT (tst (op2 neO (mtE 7 "has" m_has [] (var 0) (aCons (var 2) aNil)) (op2 (inO false) (var 2) (var 1)))) (tst (op2 neO (op2 (ownInO 7 m_contains) (var 2) (var 0)) (op2 (inO false) (var 2) (var 1))))) (retE (con (.bl false))) skip)) [some (.ref p), some (.ref n), o] g = .nx [some (.ref p), some (.ref n), o'] g
  | [], o => ⟨o, by rw [ss_nil, each_nil hck]⟩
  | x :: xs, o => by
    obtain ⟨o', ih⟩ := holds_loop hck hp hn xs (some (.str x))
    refine ⟨o', ?_⟩
    rw [ss_cons, each_cons hck, turn_ev]
    have q1 := has_ev (us := [some (.ref p), some (.ref n), some (.str x)]) (i := 0) (j := 2) rfl rfl hp
    have q2 : ownInO 7 m_contains (.str x) (.ref p) g = .ok (.bl (decide (x ∈ ns))) g := by
      unfold ownInO
      rw [insV_pol hp]
      show (match m_contains [.ref p, .str x] g with
        | .ok (.bl k) g1 => (Res.ok (.bl k) g1 : Res U)
        | _ => .bad) = _
      rw [run_contains hp]
    have q3 : ∀ b : Bool, neO (.bl b) (.bl b) g = .ok (.bl false) g := fun b => by
      show (Res.ok (.bl (!decide (b = b))) g : Res U) = _
      simp
    rw [← ih]
    simp [-mtE_ev, tst_eq, q1, q2, q3, in_ref hn]
def p__law_holds : Mm := fun us g => match us with
  | [.ref p, .ref n] => (match polAt g p, (lstAt g n).bind strsOf with
    | some ns, some ms => if ns = ms ∧ ns.Sublist rules then .ok (.bl true) g else .bad
    | _, _ => .bad)
  | _ => .bad
theorem run_holds {g : Gs} {p n : Nat} {ns : List Str} (hp : polAt g p = some ns) (hn : lstAt g n = some (ss ns)) (hs : ns.Sublist rules) : ∃ J, m__law_holds m_has p__law_rules m_contains [.ref p, .ref n] g = .ok (.bl true) (g ++ J) := by
  have hl : ns.length ≤ 29 := hs.length_le
  have ok := sub_ok hs
  -- list(policy.names)
  have e1 : bE listM (aCons (fldE 7 "names" (var 0)) aNil) [some (.ref p), some (.ref n), none] g = .ok (.ref g.length) (g ++ [.lst (ss ns)]) := by
    rw [bE_ev, aCons_ev, fld_pol rfl hp]
    dsimp only [Res.bind, aNil_ev]
    show newL (ss ns) g = _
    exact newL_ok (by rw [ss_length]; omega)
  have n1 := ne_refs (lstAt_new g (ss ns)) (lstAt_app (J := [.lst (ss ns)]) hn) ok ok
  -- list(policy)
  have hp1 : polAt (g ++ [.lst (ss ns)]) p = some ns := polAt_app hp
  have e2 : bE (listO 7 "names") (aCons (var 0) aNil) [some (.ref p), some (.ref n), none] (g ++ [.lst (ss ns)]) = .ok (.ref (g.length + 1)) (g ++ [.lst (ss ns), .lst (ss ns)]) := by
    rw [bE_ev, aCons_ev, var_0]
    dsimp only [Res.bind, aNil_ev]
    unfold listO
    dsimp only
    rw [ownV_pol hp1]
    dsimp only
    rw [newL_ok (by rw [ss_length]; omega), List.length_append, List.append_assoc]
    rfl
  have hn2 : lstAt (g ++ [.lst (ss ns), .lst (ss ns)]) n = some (ss ns) := lstAt_app hn
  have n2 := ne_refs (lstAt_2 g (ss ns) (ss ns)) hn2 ok ok
  -- [name for name in policy]
  have hp2 : polAt (g ++ [.lst (ss ns), .lst (ss ns)]) p = some ns := polAt_app hp
  have e3 : lcE [2] (itO 7 "names" (var 0)) (nameT 2) yes (var 2) [some (.ref p), some (.ref n), none] (g ++ [.lst (ss ns), .lst (ss ns)]) = .ok (.ref (g.length + 2)) (g ++ [.lst (ss ns), .lst (ss ns), .lst (ss ns)]) := by
    have q : itO 7 "names" (var 0) [some (.ref p), some (.ref n), none] (g ++ [.lst (ss ns), .lst (ss ns)]) = .ok (ss ns, fun _ => true) (g ++ [.lst (ss ns), .lst (ss ns)]) := by
      unfold itO
      rw [var_0]
      dsimp only [Res.bind]
      rw [ownV_pol hp2]
    have e : lcGo (fun _ => true) (nameT 2) yes (var 2) (ss ns) [some (.ref p), some (.ref n), none] (g ++ [.lst (ss ns), .lst (ss ns)]) = .ok (((ss ns).filter fun _ => true).map id) (g ++ [.lst (ss ns), .lst (ss ns)]) :=
      lcGo_pure rfl fun v hv => ⟨rfl, fun _ => by simp⟩
    rw [List.map_id, List.filter_eq_self.mpr (fun _ _ => rfl)] at e
    rw [lcE_ev, q]
    dsimp only [Res.bind]
    rw [if_pos (by rw [ss_length]; omega)]
    show (lcGo _ _ _ _ _ [some (.ref p), some (.ref n), none] _).bind newL = _
    rw [e]
    show newL (ss ns) (g ++ [.lst (ss ns), .lst (ss ns)]) = _
    rw [newL_ok (by rw [ss_length]; omega), List.length_append, List.append_assoc]
    rfl
  have hn3 : lstAt (g ++ [.lst (ss ns), .lst (ss ns), .lst (ss ns)]) n = some (ss ns) := lstAt_app hn
  have n3 := ne_refs (lstAt_3 g (ss ns) (ss ns) (ss ns)) hn3 ok ok
  -- the loop's list
  obtain ⟨g3, hg3⟩ : ∃ g3, g3 = g ++ [.lst (ss ns), .lst (ss ns), .lst (ss ns)] := ⟨_, rfl⟩
  have e4 : (itE (op2 addO (call0 p__law_rules []) (lstE (aCons (con (.str "")) (aCons (con (.str "eage")) (aCons (con (.str "Eager")) aNil)))))) [some (.ref p), some (.ref n), none] g3 = .ok (ss (rules ++ odd3), ckL (g3.length + 2) (ss (rules ++ odd3))) (g3 ++ [.lst (ss rules), .lst (ss odd3), .lst (ss (rules ++ odd3))]) := by
    have a1 : newL (ss odd3) (g3 ++ [.lst (ss rules)]) = .ok (.ref (g3.length + 1)) (g3 ++ [.lst (ss rules), .lst (ss odd3)]) := by
      rw [newL_ok (by decide), List.length_append, List.append_assoc]
      rfl
    have a2 : addO (.ref g3.length) (.ref (g3.length + 1)) (g3 ++ [.lst (ss rules), .lst (ss odd3)]) = .ok (.ref (g3.length + 2)) (g3 ++ [.lst (ss rules), .lst (ss odd3), .lst (ss (rules ++ odd3))]) := by
      rw [add_refs (lstAt_mid g3 (ss rules) [.lst (ss odd3)]) (lstAt_2 g3 _ _) (by decide), List.length_append, List.append_assoc, ss_append]
      rfl
    have a3 : itV (.ref (g3.length + 2)) (g3 ++ [.lst (ss rules), .lst (ss odd3), .lst (ss (rules ++ odd3))]) = .ok (ss (rules ++ odd3), ckL (g3.length + 2) (ss (rules ++ odd3))) (g3 ++ [.lst (ss rules), .lst (ss odd3), .lst (ss (rules ++ odd3))]) := by
      unfold itV
      dsimp only
      rw [lstAt_3]
    have a0 : lstE (aCons (con (.str "")) (aCons (con (.str "eage")) (aCons (con (.str "Eager")) aNil))) [some (.ref p), some (.ref n), none] (g3 ++ [.lst (ss rules)]) = newL (ss odd3) (g3 ++ [.lst (ss rules)]) := rfl
    rw [itE_ev, op2_ev, call0_ev, run_rules]
    dsimp only [Res.bind]
    rw [a0, a1]
    dsimp only [Res.bind]
    rw [a2]
    exact a3
  have hck : ckL (g3.length + 2) (ss (rules ++ odd3)) (g3 ++ [.lst (ss rules), .lst (ss odd3), .lst (ss (rules ++ odd3))]) = true := by
    unfold ckL
    rw [lstAt_3]
    exact U.beqs_refl _
  have hp4 : polAt (g3 ++ [.lst (ss rules), .lst (ss odd3), .lst (ss (rules ++ odd3))]) p = some ns := by
    rw [hg3]
    exact polAt_app (polAt_app hp)
  have hn4 : lstAt (g3 ++ [.lst (ss rules), .lst (ss odd3), .lst (ss (rules ++ odd3))]) n = some (ss ns) := by
    rw [hg3]
    exact lstAt_app hn3
  obtain ⟨o', e5⟩ := holds_loop hck hp4 hn4 (rules ++ odd3) none
  refine ⟨[.lst (ss ns), .lst (ss ns), .lst (ss ns), .lst (ss rules), .lst (ss odd3), .lst (ss (rules ++ odd3))], ?_⟩
  have e6 : forE (itE (op2 addO (call0 p__law_rules []) (lstE (aCons (con (.str "")) (aCons (con (.str "eage")) (aCons (con (.str "Eager")) aNil)))))) (nameT 2) (ifS (orT (tst (op2 neO (mtE 7 "has" m_has [] (var 0) (aCons (var 2) aNil)) (op2 (inO false) (var 2) (var 1)))) (tst (op2 neO (op2 (ownInO 7 m_contains) (var 2) (var 0)) (op2 (inO false) (var 2) (var 1))))) (retE (con (.bl false))) skip) [some (.ref p), some (.ref n), none] g3 = .nx [some (.ref p), some (.ref n), o'] (g3 ++ [.lst (ss rules), .lst (ss odd3), .lst (ss (rules ++ odd3))]) := by
    rw [forE_ev, e4]
    exact e5
  have e7 : ∀ o, (orV (op2 isO (mtE 7 "has" m_has [] (var 0) (aCons (con (.str "eager")) aNil)) (con (.bl true))) (op2 isO (mtE 7 "has" m_has [] (var 0) (aCons (con (.str "eager")) aNil)) (con (.bl false)))) [some (.ref p), some (.ref n), o] (g3 ++ [.lst (ss rules), .lst (ss odd3), .lst (ss (rules ++ odd3))]) = .ok (.bl true) (g3 ++ [.lst (ss rules), .lst (ss odd3), .lst (ss (rules ++ odd3))]) := fun o => by
    have q : mtE 7 "has" m_has [] (var 0) (aCons (con (.str "eager")) aNil) [some (.ref p), some (.ref n), o] (g3 ++ [.lst (ss rules), .lst (ss odd3), .lst (ss (rules ++ odd3))]) = .ok (.bl (decide (("eager" : Str) ∈ ns))) (g3 ++ [.lst (ss rules), .lst (ss odd3), .lst (ss (rules ++ odd3))]) := by
      rw [mtE_ev, var_0]
      dsimp only [Res.bind]
      rw [insV_pol hp4]
      dsimp only
      rw [if_pos lookup_has]
      show noX (m_has [.ref p, .str "eager"] _) = _
      rw [run_has hp4]
      rfl
    have i1 : ∀ a b : Bool, ∀ g : Gs, isO (.bl a) (.bl b) g = .ok (.bl (decide (a = b))) g := fun a b g => rfl
    have z : ∀ c : Bool, (op2 isO (mtE 7 "has" m_has [] (var 0) (aCons (con (.str "eager")) aNil)) (con (.bl c))) [some (.ref p), some (.ref n), o] (g3 ++ [.lst (ss rules), .lst (ss odd3), .lst (ss (rules ++ odd3))]) = .ok (.bl (decide (decide (("eager" : Str) ∈ ns) = c))) (g3 ++ [.lst (ss rules), .lst (ss odd3), .lst (ss (rules ++ odd3))]) := fun c => by
      rw [op2_ev, q]
      rfl
    rw [orV_ev, tst_eq, z]
    dsimp only [Res.bind]
    cases hd : decide (("eager" : Str) ∈ ns) with
    | true => rfl
    | false =>
      have z2 := z false
      rw [hd] at z2
      exact z2
  have f1 : isE "tuple" (fldE 7 "names" (var 0)) [some (.ref p), some (.ref n), none] g = .ok (.bl true) g := by
    rw [isE_ev, fld_pol rfl hp]
    rfl
  subst hg3
  have e1' := e1
  unfold m__law_holds defM b__law_holds
  simp only [decide_true, Bool.not_true] at n1 n2 n3
  have e8 := e7 o'
  simp only [List.append_assoc, List.cons_append, List.nil_append] at e6 e8
  simp [-forE_ev, -lcE_ev, -bE_ev, -isE_ev, -orV_ev, tst_eq, f1, e1, n1, e2, n2, e3, n3, e6, e8]
theorem ref_holds {κ : R.Ctx} : Refines κ p__law_holds (m__law_holds m_has p__law_rules m_contains) := Refines.of_drops fun us g hc hu hb => by
  unfold p__law_holds at hb ⊢
  split at hb
  · rename_i p n
    split at hb
    · rename_i ns ms e1 e2
      split at hb
      · rename_i h
        obtain ⟨h1, h2⟩ := h
        subst h1
        cases e3 : lstAt g n with
        | none => rw [e3] at e2; cases e2
        | some vs =>
          rw [e3] at e2
          have ev := strsOf_eq e2
          subst ev
          obtain ⟨J, hJ⟩ := run_holds e1 e3 h2
          rw [hJ, if_pos ⟨rfl, h2⟩]
          exact .junk J (Nat.le_refl _) rfl hc
      · exact absurd rfl hb
    · exact absurd rfl hb
  · exact absurd rfl hb
end K88
set_option Elab.async false
set_option linter.all false
set_option maxRecDepth 100000
set_option maxHeartbeats 2000000
namespace K88
open R
open PySem PySem.Spec L2
open PyProof.Rows hiding St
/-! ### _law_equal -/
mutual
def smU (a : U) : U → Bool
  | .int j => (match a with
    | .int i => decide (i = j)
    | _ => false)
  | .str t => (match a with
    | .str s => decide (s = t)
    | _ => false)
  | .tup ys => (match a with
    | .tup xs => smUs xs ys
    | .wtu xs => smUs xs ys
    | _ => false)
  | .wtu ys => (match a with
    | .tup xs => smUs xs ys
    | .wtu xs => smUs xs ys
    | _ => false)
  | _ => false
def smUs (xs : List U) : List U → Bool
  | [] => xs.isEmpty
  | y :: ys => (match xs with
    | x :: xs => smU x y && smUs xs ys
    | [] => false)
end
mutual
def wtU : U → Nat
  | .tup us => wtUs us + 1
  | .wtu us => wtUs us + 1
  | _ => 1
def wtUs : List U → Nat
  | [] => 0
  | u :: us => wtU u + wtUs us
end
def prU (p : U × U) : U := .tup [p.1, p.2]
def wtP : List (U × U) → Nat
  | [] => 0
  | p :: ps => wtU p.2 + wtP ps
theorem wtP_app : ∀ ps qs : List (U × U), wtP (ps ++ qs) = wtP ps + wtP qs
  | [], qs => by simp [wtP]
  | p :: ps, qs => by simp [wtP, wtP_app ps qs]; omega
theorem wtP_zip : ∀ {xs ys : List U}, xs.length = ys.length → wtP (xs.zip ys) = wtUs ys
  | [], [], _ => rfl
  | x :: xs, y :: ys, h => by
    show wtU y + wtP (xs.zip ys) = wtU y + wtUs ys
    rw [wtP_zip (by simpa using h)]
  | [], _ :: _, h => by simp at h
  | _ :: _, [], h => by simp at h
theorem wt_pos : ∀ u : U, 1 ≤ wtU u
  | .tup us => by unfold wtU; omega
  | .wtu us => by unfold wtU; omega
  | .non => Nat.le_refl _
  | .bl _ => Nat.le_refl _
  | .int _ => Nat.le_refl _
  | .str _ => Nat.le_refl _
  | .lit _ => Nat.le_refl _
  | .ref _ => Nat.le_refl _
theorem len_wt : ∀ us : List U, us.length ≤ wtUs us
  | [] => Nat.le_refl _
  | u :: us => by
    have := wt_pos u
    have := len_wt us
    rw [List.length_cons]
    show _ ≤ wtU u + wtUs us
    omega
theorem len_wp : ∀ ps : List (U × U), ps.length ≤ wtP ps
  | [] => Nat.le_refl _
  | p :: ps => by
    have := wt_pos p.2
    have := len_wp ps
    rw [List.length_cons]
    show _ ≤ wtU p.2 + wtP ps
    omega
theorem smUs_length : ∀ {xs ys : List U}, smUs xs ys = true → xs.length = ys.length
  | [], [], _ => rfl
  | x :: xs, y :: ys, h => by
    unfold smUs at h
    rw [List.length_cons, List.length_cons, smUs_length (bb h).2]
  | [], _ :: _, h => by unfold smUs at h; cases h
  | _ :: _, [], h => by unfold smUs at h; cases h
theorem smUs_zip : ∀ {xs ys : List U}, smUs xs ys = true → ∀ p ∈ xs.zip ys, smU p.1 p.2 = true
  | [], [], _, p, h => nomatch h
  | x :: xs, y :: ys, h, p, hp => by
    unfold smUs at h
    obtain ⟨h1, h2⟩ := bb h
    rcases List.mem_cons.mp hp with e | hp
    · subst e; exact h1
    · exact smUs_zip h2 p hp
  | [], _ :: _, h, _, _ => by unfold smUs at h; cases h
  | _ :: _, [], h, _, _ => by unfold smUs at h; cases h
theorem app_cell {g J : Gs} {us : List U} {u : U} (h : us.length < 100000) : appM (.ref g.length) [u] (g ++ .lst us :: J) = .ok .non (g ++ .lst (us ++ [u]) :: J) := by
  unfold appM
  dsimp only
  rw [lstAt_mid]
  dsimp only
  rw [if_pos h, set_mid]
theorem pop_cell {g J : Gs} {us : List U} {u : U} : popM (.ref g.length) [] (g ++ .lst (us ++ [u]) :: J) = .ok u (g ++ .lst us :: J) := by
  unfold popM
  dsimp only
  rw [lstAt_mid]
  dsimp only
  have e : (us ++ [u])[(us ++ [u]).length - 1]? = some u := by
    rw [List.length_append, List.length_singleton, Nat.add_sub_cancel, List.getElem?_append_right (Nat.le_refl _)]
    simp
  rw [e]
  dsimp only
  rw [set_mid, List.dropLast_concat]
theorem ix_tup {us : List U} {i : Nat} {u : U} {g : Gs} (h : us[i]? = some u) : ixO (.tup us) (.int i) g = .ok u g := by
  have hl := (List.getElem?_eq_some_iff.mp h).1
  have e : atI us i = some u := by
    unfold atI ixN
    rw [if_pos (by omega), if_pos (by omega)]
    exact h
  show (match atI us i with
        | some u => (Res.ok u g : Res U)
        | none => .bad) = _
  rw [e]
theorem ix_wtu {us : List U} {i : Nat} {u : U} {g : Gs} (h : us[i]? = some u) : ixO (.wtu us) (.int i) g = .ok u g := ix_tup (us := us) h
def eqIn : Sx := dropE (mE isL appM (var 2) (aCons (tupE (aCons (op2 ixO (var 5) (var 7)) (aCons (op2 ixO (var 6) (var 7)) aNil))) aNil))
theorem eq_in {g J : Gs} {xs ys : List U} {o0 o1 o3 o4 : Option U} {a b : U} (ha : a = .tup xs ∨ a = .wtu xs) (hb : b = .tup ys ∨ b = .wtu ys) (hl : xs.length = ys.length) : ∀ (m k : Nat) (W : List U) (o7 : Option U), k + m = ys.length → W.length + m ≤ 50000 → ∃ o7', each (fun _ => true) (intsU k m) (turn (nameT 7) eqIn) [o0, o1, some (.ref g.length), o3, o4, some a, some b, o7, none] (g ++ .lst W :: J) = .nx [o0, o1, some (.ref g.length), o3, o4, some a, some b, o7', none] (g ++ .lst (W ++ ((xs.drop k).zip (ys.drop k)).map prU) :: J)
  | 0, k, W, o7, h, _ => ⟨o7, by
    rw [List.drop_eq_nil_of_le (as := ys) (by omega)]
    unfold intsU each
    rw [if_pos rfl]
    simp⟩
  | m + 1, k, W, o7, h, hW => by
    have hky : k < ys.length := by omega
    have hkx : k < xs.length := by omega
    obtain ⟨o7', ih⟩ := eq_in (o0 := o0) (o1 := o1) (o3 := o3) (o4 := o4) (g := g) (J := J) ha hb hl m (k + 1) (W ++ [prU (xs[k], ys[k])]) (some (.int k)) (by omega) (by rw [List.length_append, List.length_singleton]; omega)
    refine ⟨o7', ?_⟩
    unfold intsU
    rw [each_cons rfl, turn_ev, List.drop_eq_getElem_cons hkx, List.drop_eq_getElem_cons hky]
    rw [List.append_assoc] at ih
    rw [List.zip_cons_cons, List.map_cons, show W ++ prU (xs[k], ys[k]) :: ((xs.drop (k + 1)).zip (ys.drop (k + 1))).map prU = W ++ ([prU (xs[k], ys[k])] ++ ((xs.drop (k + 1)).zip (ys.drop (k + 1))).map prU) from rfl, ← ih]
    have q1 : ixO a (.int k) (g ++ .lst W :: J) = .ok xs[k] (g ++ .lst W :: J) := by
      rcases ha with rfl | rfl
      · exact ix_tup (List.getElem?_eq_getElem hkx)
      · exact ix_wtu (List.getElem?_eq_getElem hkx)
    have q2 : ixO b (.int k) (g ++ .lst W :: J) = .ok ys[k] (g ++ .lst W :: J) := by
      rcases hb with rfl | rfl
      · exact ix_tup (List.getElem?_eq_getElem hky)
      · exact ix_wtu (List.getElem?_eq_getElem hky)
    have q3 : isL (.ref g.length) (g ++ .lst W :: J) = true := isL_ref (lstAt_mid _ _ _)
    have q4 := app_cell (g := g) (J := J) (us := W) (u := prU (xs[k], ys[k])) (by omega)
    unfold prU at q4
    unfold eqIn
    simp [q1, q2, q3, q4]
    rfl
def eqStep (p__law_whole : Mm) : Sx := (seq (ifS (tst (op2 eqO (bE lenM (aCons (var 2) aNil)) (con (.int 0)))) (retE (con (.bl true))) skip)
  (seq (asg (mE0 isL popM (var 2)) (nameT 4))
  (seq (asg (op2 ixO (var 4) (con (.int 0))) (nameT 5))
  (seq (asg (op2 ixO (var 4) (con (.int 1))) (nameT 6))
  (ifS (orT (tst (op2 isO (var 6) (con .non))) (tst (isE "bool" (var 6)))) (ifS (orT (tst (op2 neO (isE "bool" (var 5)) (isE "bool" (var 6)))) (tst (op2 neO (var 5) (var 6)))) (retE (con (.bl false))) skip) (ifS (tst (isE "int" (var 6))) (ifS (orT (notT (tst (callE p__law_whole [] (aCons (var 5) aNil)))) (tst (op2 neO (var 5) (var 6)))) (retE (con (.bl false))) skip) (ifS (tst (isE "str" (var 6))) (ifS (orT (notT (tst (isE "str" (var 5)))) (tst (op2 neO (var 5) (var 6)))) (retE (con (.bl false))) skip) (seq (ifS (orT (tst (op2 neO (isE "list" (var 5)) (isE "list" (var 6)))) (tst (op2 neO (isE "tuple" (var 5)) (isE "tuple" (var 6))))) (retE (con (.bl false))) skip)
  (seq (ifS (tst (isE "dict" (var 6))) badS skip)
  (seq (ifS (tst (op2 neO (bE lenM (aCons (var 5) aNil)) (bE lenM (aCons (var 6) aNil)))) (retE (con (.bl false))) skip)
  (forE (itRng1 (aCons (bE lenM (aCons (var 6) aNil)) aNil)) (nameT 7) eqIn)))))))))))
theorem b_equal (m : Mm) : b__law_equal m = seq (asg (lstE (aCons (tupE (aCons (var 0) (aCons (var 1) aNil))) aNil)) (nameT 2)) (seq (forE (itRng1 (aCons (con (.int 6000)) aNil)) (nameT 3) (eqStep m)) (retE (con (.bl false)))) := rfl
theorem whole_int {i : Int} {g : Gs} : m__law_whole [.int i] g = .ok (.bl true) g := rfl
theorem eq_step {g J : Gs} {ps : List (U × U)} {o0 o1 o3 o4 o5 o6 o7 : Option U} {a b : U} (hs : smU a b = true) (hl : (ps.map prU).length + wtU b ≤ 6000) : ∃ o4' o5' o6' o7' qs, eqStep m__law_whole [o0, o1, some (.ref g.length), o3, o4, o5, o6, o7, none] (g ++ .lst ((ps ++ [(a, b)]).map prU) :: J) = .nx [o0, o1, some (.ref g.length), o3, o4', o5', o6', o7', none] (g ++ .lst ((ps ++ qs).map prU) :: J) ∧ wtP qs + 1 = wtU b ∧ ∀ p ∈ qs, smU p.1 p.2 = true := by
  have l0 := lstAt_mid g ((ps ++ [(a, b)]).map prU) J
  have q0 := len_ref l0
  have q1 := isL_ref l0
  have q2 := pop_cell (g := g) (J := J) (us := ps.map prU) (u := prU (a, b))
  have hM : (ps ++ [(a, b)]).map prU = ps.map prU ++ [prU (a, b)] := by simp
  rw [hM] at q0 q1 ⊢
  have q3 : ∀ g : Gs, ixO (prU (a, b)) (.int 0) g = .ok a g := fun g => ix_tup (us := [a, b]) (i := 0) rfl
  have q4 : ∀ g : Gs, ixO (prU (a, b)) (.int 1) g = .ok b g := fun g => ix_tup (us := [a, b]) (i := 1) rfl
  have q5 : ∀ g : Gs, eqO (.int ((ps.map prU ++ [prU (a, b)]).length : Nat)) (.int 0) g = .ok (.bl false) g := fun g => by
    rw [eq_int, decide_eq_false]
    rw [List.length_append, List.length_singleton]
    omega
  have seqC : ∀ (xs ys : List U), (a = .tup xs ∨ a = .wtu xs) → (b = .tup ys ∨ b = .wtu ys) → smUs xs ys = true → wtU b = wtUs ys + 1 → ∃ o4' o5' o6' o7' qs, eqStep m__law_whole [o0, o1, some (.ref g.length), o3, o4, o5, o6, o7, none] (g ++ .lst (ps.map prU ++ [prU (a, b)]) :: J) = .nx [o0, o1, some (.ref g.length), o3, o4', o5', o6', o7', none] (g ++ .lst ((ps ++ qs).map prU) :: J) ∧ wtP qs + 1 = wtU b ∧ ∀ p ∈ qs, smU p.1 p.2 = true := fun xs ys ha hb h hw => by
    have hlen := smUs_length h
    have hyl : ys.length ≤ wtUs ys := len_wt ys
    have t1 : ∀ g : Gs, tyU a g = some "tuple" := fun g => by rcases ha with rfl | rfl <;> rfl
    have t2 : ∀ g : Gs, tyU b g = some "tuple" := fun g => by rcases hb with rfl | rfl <;> rfl
    have i2 : ∀ g : Gs, isO b .non g = .ok (.bl false) g := fun g => by rcases hb with rfl | rfl <;> rfl
    have n1 : ∀ g : Gs, lenM [a] g = .ok (.int xs.length) g := fun g => by rcases ha with rfl | rfl <;> rfl
    have n2 : ∀ g : Gs, lenM [b] g = .ok (.int ys.length) g := fun g => by rcases hb with rfl | rfl <;> rfl
    have nb : ∀ (c : Bool) (g : Gs), neO (.bl c) (.bl c) g = .ok (.bl false) g := fun c g => by
      show (Res.ok (.bl (!decide (c = c))) g : Res U) = _
      simp
    have ni : ∀ (c : Int) (g : Gs), neO (.int c) (.int c) g = .ok (.bl false) g := fun c g => by
      show (Res.ok (.bl (!decide (c = c))) g : Res U) = _
      simp
    have r1 : ∀ g : Gs, rng1 [.int (ys.length : Nat)] g = .ok (intsU 0 ys.length, fun _ => true) g := fun g => by
      unfold rng1
      dsimp only
      rw [if_pos (by omega), Int.toNat_natCast]
    obtain ⟨o7', e⟩ := eq_in (g := g) (J := J) (o0 := o0) (o1 := o1) (o3 := o3) (o4 := some (prU (a, b))) ha hb hlen ys.length 0 (ps.map prU) o7 (by omega) (by omega)
    rw [List.drop_zero, List.drop_zero, ← List.map_append] at e
    refine ⟨some (prU (a, b)), some a, some b, o7', xs.zip ys, ?_, by rw [wtP_zip hlen, hw], smUs_zip h⟩
    unfold eqStep
    simp [tst_eq, q0, q1, q2, q3, q4, q5, i2, t1, t2, n1, n2, nb, ni, hlen, r1, subTy, -List.length_append, -List.map_append]
    exact e
  cases b with
  | int j =>
    cases a with
    | int i =>
      have e : i = j := by simpa [smU] using hs
      subst e
      refine ⟨some (prU (.int i, .int i)), some (.int i), some (.int i), o7, [], ?_, rfl, fun p h => nomatch h⟩
      unfold eqStep
      simp [tst_eq, q0, q1, q2, q3, q4, q5, isO, tyU, subTy, whole_int, ne_int, -List.length_append, -List.map_append]
    | _ => simp [smU] at hs
  | str t =>
    cases a with
    | str s =>
      have e : s = t := by simpa [smU] using hs
      subst e
      have ns : ∀ g : Gs, neO (.str s) (.str s) g = .ok (.bl false) g := fun g => by
        show (Res.ok (.bl (!decide (s = s))) g : Res U) = _
        simp
      refine ⟨some (prU (.str s, .str s)), some (.str s), some (.str s), o7, [], ?_, rfl, fun p h => nomatch h⟩
      unfold eqStep
      simp [tst_eq, q0, q1, q2, q3, q4, q5, isO, tyU, subTy, ns, -List.length_append, -List.map_append]
    | _ => simp [smU] at hs
  | tup ys =>
    cases a with
    | tup xs => exact seqC xs ys (.inl rfl) (.inl rfl) hs rfl
    | wtu xs => exact seqC xs ys (.inr rfl) (.inl rfl) hs rfl
    | _ => simp [smU] at hs
  | wtu ys =>
    cases a with
    | tup xs => exact seqC xs ys (.inl rfl) (.inr rfl) hs rfl
    | wtu xs => exact seqC xs ys (.inr rfl) (.inr rfl) hs rfl
    | _ => simp [smU] at hs
  | _ => simp [smU] at hs
theorem eq_loop {g J : Gs} {o0 o1 : Option U} : ∀ (xs : List U) (n : Nat) (ps : List (U × U)) (o3 o4 o5 o6 o7 : Option U), wtP ps = n → n < xs.length → n ≤ 6000 → (∀ p ∈ ps, smU p.1 p.2 = true) → ∃ W, each (fun _ => true) xs (turn (nameT 3) (eqStep m__law_whole)) [o0, o1, some (.ref g.length), o3, o4, o5, o6, o7, none] (g ++ .lst (ps.map prU) :: J) = .rt (.bl true) (g ++ .lst W :: J)
  | [], n, ps, o3, o4, o5, o6, o7, h, hx, hn, hp => by simp at hx
  | x :: xs, n, ps, o3, o4, o5, o6, o7, h, hx, hn, hp => by
    rw [each_cons rfl, turn_ev]
    rcases List.eq_nil_or_concat ps with rfl | ⟨qs, ⟨a, b⟩, rfl⟩
    · refine ⟨[], ?_⟩
      have q0 : lenM [.ref g.length] (g ++ .lst [] :: J) = .ok (.int 0) (g ++ .lst [] :: J) := len_ref (lstAt_mid g [] J)
      have q5 : eqO (.int 0) (.int 0) (g ++ .lst [] :: J) = .ok (.bl true) (g ++ .lst [] :: J) := rfl
      unfold eqStep
      simp [tst_eq, q0, q5]
    · rw [List.concat_eq_append] at *
      have hs : smU a b = true := hp (a, b) (by simp)
      have hw := wtP_app qs [(a, b)]
      have hw1 : wtP [(a, b)] = wtU b := rfl
      have hql : qs.length ≤ wtP qs := len_wp qs
      obtain ⟨o4', o5', o6', o7', rs, e, e1, e2⟩ := eq_step (g := g) (J := J) (ps := qs) (o0 := o0) (o1 := o1) (o3 := some x) (o4 := o4) (o5 := o5) (o6 := o6) (o7 := o7) hs (by rw [List.length_map]; omega)
      have hx' : n < xs.length + 1 := hx
      have hw2 := wtP_app qs rs
      obtain ⟨W, e3⟩ := eq_loop (g := g) (J := J) (o0 := o0) (o1 := o1) xs (n - 1) (qs ++ rs) (some x) o4' o5' o6' o7' (by omega) (by omega) (by omega) fun p h => by
        rcases List.mem_append.mp h with h | h
        · exact hp p (List.mem_append_left _ h)
        · exact e2 p h
      refine ⟨W, ?_⟩
      show (match eqStep m__law_whole [o0, o1, some (.ref g.length), some x, o4, o5, o6, o7, none] (g ++ .lst ((qs ++ [(a, b)]).map prU) :: J) with
        | .nx us1 g1 => each _ xs _ us1 g1
        | .ct us1 g1 => each _ xs _ us1 g1
        | .bk us1 g1 => .nx us1 g1
        | .rt u g1 => .rt u g1
        | .exc c fs us1 g1 => .exc c fs us1 g1
        | .bad => .bad) = _
      rw [e]
      exact e3
def p__law_equal : Mm := fun us g => match us with
  | [a, b] => if smU a b = true ∧ wtU b < 6000 then .ok (.bl true) g else .bad
  | _ => .bad
theorem run_equal {g : Gs} {a b : U} (h : smU a b = true) (hw : wtU b < 6000) : ∃ W, m__law_equal m__law_whole [a, b] g = .ok (.bl true) (g ++ [.lst W]) := by
  obtain ⟨W, e⟩ := eq_loop (g := g) (J := []) (o0 := some a) (o1 := some b) (intsU 0 6000) (wtU b) [(a, b)] none none none none none (by simp [wtP]) (by rw [intsU_length]; exact hw) (by omega) fun p hp => by
    have e : p = (a, b) := by simpa using hp
    subst e
    exact h
  refine ⟨W, ?_⟩
  have r1 : ∀ g : Gs, rng1 [.int 6000] g = .ok (intsU 0 6000, fun _ => true) g := fun g => rfl
  have q0 : newL [.tup [a, b]] g = .ok (.ref g.length) (g ++ [.lst [.tup [a, b]]]) := rfl
  rw [show [(a, b)].map prU = [U.tup [a, b]] from rfl] at e
  unfold m__law_equal defM
  rw [b_equal]
  generalize hz : intsU 0 6000 = zs at e r1
  simp [r1, q0, e]
theorem ref_equal {κ : R.Ctx} : Refines κ p__law_equal (m__law_equal m__law_whole) := Refines.of_drops fun us g hc hu hb => by
  unfold p__law_equal at hb ⊢
  split at hb
  · rename_i a b
    split at hb
    · rename_i h
      obtain ⟨W, e⟩ := run_equal (g := g) h.1 h.2
      rw [e, if_pos h]
      exact .junk _ (Nat.le_refl _) rfl hc
    · exact absurd rfl hb
  · exact absurd rfl hb
end K88
set_option Elab.async false
set_option linter.all false
set_option maxRecDepth 100000
set_option maxHeartbeats 2000000
namespace K88
open R
open PySem PySem.Spec L2
open PyProof.Rows hiding St
theorem equal_int {i : Int} {g : Gs} : p__law_equal [.int i, .int i] g = .ok (.bl true) g := by
  unfold p__law_equal
  dsimp only
  rw [if_pos ⟨by simp [smU], by show 1 < 6000; decide⟩]
theorem smUs_ss : ∀ xs : List Str, smUs (ss xs) (ss xs) = true
  | [] => rfl
  | x :: xs => by
    show (smU (.str x) (.str x) && smUs (ss xs) (ss xs)) = true
    rw [smUs_ss xs]
    simp [smU]
theorem wtUs_ss : ∀ xs : List Str, wtUs (ss xs) = xs.length
  | [] => rfl
  | x :: xs => by
    rw [List.length_cons]
    show 1 + wtUs (ss xs) = _
    rw [wtUs_ss xs]
    omega
theorem equal_strs {xs : List Str} {g : Gs} (h : xs.length < 5000) : p__law_equal [.tup (ss xs), .tup (ss xs)] g = .ok (.bl true) g := by
  unfold p__law_equal
  dsimp only
  have e : wtU (.tup (ss xs)) = xs.length + 1 := by
    show wtUs (ss xs) + 1 = _
    rw [wtUs_ss]
  rw [if_pos ⟨smUs_ss xs, by rw [e]; omega⟩]
theorem law_number_run {g : Gs} {n : Nat} {ns : List Str} (h : lstAt g n = some (ss ns)) : p__law_number [.ref n] g = .ok (.int (numL ns rules)) g := by
  have e : (lstAt g n).bind strsOf = some ns := by rw [h]; exact strsOf_ss ns
  unfold p__law_number
  dsimp only
  rw [e]
theorem numbered_run {g : Gs} {v : Int} (h : 0 ≤ v ∧ v ≤ 536870911) : p_policy_numbered [.int v] g = .ok (.ref g.length) (g ++ [pol (bitsL rules v)]) := by
  unfold p_policy_numbered
  dsimp only
  rw [if_pos h]
theorem tup_ref {g : Gs} {n : Nat} {us : List U} (h : lstAt g n = some us) : tupM [.ref n] g = .ok (.tup us) g := by
  have e1 : seqV (.ref n) g = some us := h
  unfold tupM
  dsimp only
  rw [e1]
theorem num_rules {v : Int} (h : 0 ≤ v ∧ v ≤ 536870911) : numL (bitsL rules v) rules = v := num_bits rules v rules_nodup h.1 (by
  have : (2 : Int) ^ rules.length = 536870912 := by decide +kernel
  rw [this]
  omega)
theorem run_both {g : Gs} {v : Int} (h : 0 ≤ v ∧ v ≤ 536870911) : ∃ J, m__law_both p_init p_policy_number p__law_equal p__law_number p_policy_numbered p__law_numbered [.int v] g = .ok (.bl true) (g ++ J) := by
  have hs := bitsL_sub rules v
  have hl : (bitsL rules v).length ≤ 29 := hs.length_le
  have e1 : p__law_numbered [.int v] g = .ok (.ref g.length) (g ++ [.lst (ss (bitsL rules v))]) := rfl
  have e2 : p_policy_numbered [.int v] (g ++ [.lst (ss (bitsL rules v))]) = .ok (.ref (g.length + 1)) (g ++ [.lst (ss (bitsL rules v)), pol (bitsL rules v)]) := by
    rw [numbered_run h, List.length_append, List.append_assoc]
    rfl
  have l1 : lstAt (g ++ [.lst (ss (bitsL rules v)), pol (bitsL rules v)]) g.length = some (ss (bitsL rules v)) := lstAt_mid _ _ _
  have l2 : polAt (g ++ [.lst (ss (bitsL rules v)), pol (bitsL rules v)]) (g.length + 1) = some (bitsL rules v) := polAt_of (by
    rw [List.getElem?_append_right (Nat.le_succ _)]
    simp)
  have e3 := equal_strs (xs := bitsL rules v) (g := g ++ [.lst (ss (bitsL rules v)), pol (bitsL rules v)]) (by omega)
  have e4 := tup_ref l1
  have e5 := law_number_run l1
  have e6 := run_policy_number l2
  rw [num_rules h] at e5 e6
  have e7 : newI 7 p_init [.ref g.length] (g ++ [.lst (ss (bitsL rules v)), pol (bitsL rules v)]) = .ok (.ref (g.length + 2)) (g ++ [.lst (ss (bitsL rules v)), pol (bitsL rules v), pol (bitsL rules v)]) := by
    rw [run_new_sub (items_ref (lstAt_app l1)) (fun x hx => hs.subset hx) (hs.nodup rules_nodup) (by omega), sub_filter hs rules_nodup, List.length_append, List.append_assoc]
    rfl
  have l3 : polAt (g ++ [.lst (ss (bitsL rules v)), pol (bitsL rules v), pol (bitsL rules v)]) (g.length + 2) = some (bitsL rules v) := polAt_of (by
    rw [List.getElem?_append_right (Nat.le_add_right _ _)]
    simp)
  have e8 := run_policy_number l3
  rw [num_rules h] at e8
  have f1 : fldE 7 "names" (var 2) [some (.int v), some (.ref g.length), some (.ref (g.length + 1))] (g ++ [.lst (ss (bitsL rules v)), pol (bitsL rules v)]) = .ok (.tup (ss (bitsL rules v))) (g ++ [.lst (ss (bitsL rules v)), pol (bitsL rules v)]) := fld_pol rfl l2
  refine ⟨[.lst (ss (bitsL rules v)), pol (bitsL rules v), pol (bitsL rules v)], ?_⟩
  unfold m__law_both defM b__law_both
  simp [-fldE_ev, tst_eq, e1, e2, f1, e3, e4, e5, e6, e7, e8, ne_int, equal_int]
def p__law_both : Mm := fun us g => match us with
  | [.int v] => if 0 ≤ v ∧ v ≤ 536870911 then .ok (.bl true) g else .bad
  | _ => .bad
theorem ref_both {κ : R.Ctx} : Refines κ p__law_both (m__law_both p_init p_policy_number p__law_equal p__law_number p_policy_numbered p__law_numbered) := Refines.of_drops fun us g hc hu hb => by
  unfold p__law_both at hb ⊢
  split at hb
  · rename_i v
    split at hb
    · rename_i h
      obtain ⟨J, e⟩ := run_both (g := g) h
      rw [e, if_pos h]
      exact .junk _ (Nat.le_refl _) rfl hc
    · exact absurd rfl hb
  · exact absurd rfl hb
end K88
set_option Elab.async false
set_option linter.all false
set_option maxRecDepth 100000
set_option maxHeartbeats 2000000
namespace K88
open R
open PySem PySem.Spec L2
open PyProof.Rows hiding St
/-! ### heaps that grow -/
def Ext (g G : Gs) : Prop := ∃ J, G = g ++ J
theorem Ext.refl (g : Gs) : Ext g g := ⟨[], by simp⟩
theorem Ext.trans {g G G2 : Gs} (h : Ext g G) (k : Ext G G2) : Ext g G2 := by
  obtain ⟨J, rfl⟩ := h
  obtain ⟨J2, rfl⟩ := k
  exact ⟨J ++ J2, by rw [List.append_assoc]⟩
theorem Ext.lst {g G : Gs} {n : Nat} {us : List U} (h : Ext g G) (k : lstAt g n = some us) : lstAt G n = some us := by
  obtain ⟨J, rfl⟩ := h
  exact lstAt_app k
theorem Ext.pol {g G : Gs} {n : Nat} {ns : List Str} (h : Ext g G) (k : polAt g n = some ns) : polAt G n = some ns := by
  obtain ⟨J, rfl⟩ := h
  exact polAt_app k
theorem new_x {us : List U} (g : Gs) (h : us.length ≤ 100000) : ∃ n G, newL us g = .ok (.ref n) G ∧ lstAt G n = some us ∧ Ext g G :=
  ⟨g.length, g ++ [.lst us], newL_ok h, lstAt_new _ _, ⟨_, rfl⟩⟩
theorem add_x {g : Gs} {n m : Nat} {us vs : List U} (h1 : lstAt g n = some us) (h2 : lstAt g m = some vs) (hl : us.length + vs.length ≤ 100000) : ∃ k G, addO (.ref n) (.ref m) g = .ok (.ref k) G ∧ lstAt G k = some (us ++ vs) ∧ Ext g G :=
  ⟨g.length, _, add_refs h1 h2 hl, lstAt_new _ _, ⟨_, rfl⟩⟩
theorem slf_x {g : Gs} {n : Nat} {us : List U} {p : Nat} (h : lstAt g n = some us) (hp : p ≤ us.length) (hl : us.length ≤ 100000) : ∃ k G, slU (.ref n) (some (p : Int)) none g = .ok (.ref k) G ∧ lstAt G k = some (us.drop p) ∧ Ext g G :=
  ⟨g.length, _, sl_from h hp hl, lstAt_new _ _, ⟨_, rfl⟩⟩
theorem slt_x {g : Gs} {n : Nat} {us : List U} {p : Nat} (h : lstAt g n = some us) (hp : p ≤ us.length) (hl : us.length ≤ 100000) : ∃ k G, slU (.ref n) none (some (p : Int)) g = .ok (.ref k) G ∧ lstAt G k = some (us.take p) ∧ Ext g G :=
  ⟨g.length, _, sl_to h hp hl, lstAt_new _ _, ⟨_, rfl⟩⟩
theorem ne_str {a b : Str} {g : Gs} : neO (.str a) (.str b) g = .ok (.bl (!decide (a = b))) g := rfl
theorem eq_str {a b : Str} {g : Gs} : eqO (.str a) (.str b) g = .ok (.bl (decide (a = b))) g := rfl
/-! ### _law_wrong_names -/
def wrongs : List Str := ["", "Eager", "eager ", "singles", "no link", "flush"]
theorem wrongs_out : ∀ x ∈ wrongs, x ∉ rules ∧ x.length ≤ 1000 := by decide +kernel
theorem firstBad_at : ∀ {xs acc : List Str} {w : Str} {r : List Str}, (∀ x ∈ xs, x ∈ rules ∧ x ∉ acc) → xs.Nodup → (w ∉ rules ∨ w ∈ acc ++ xs) → firstBad acc (xs ++ w :: r) = some w
  | [], acc, w, r, _, _, h => by
    rw [List.nil_append]
    unfold firstBad
    rw [List.append_nil] at h
    rw [if_pos h]
  | x :: xs, acc, w, r, h, nd, hw => by
    obtain ⟨h1, h2⟩ := h x List.mem_cons_self
    obtain ⟨n1, n2⟩ := List.nodup_cons.mp nd
    rw [List.cons_append]
    unfold firstBad
    rw [if_neg (by simp [h1, h2])]
    refine firstBad_at (fun y hy => ?_) n2 ?_
    · obtain ⟨q1, q2⟩ := h y (List.mem_cons_of_mem _ hy)
      refine ⟨q1, fun z => ?_⟩
      rcases List.mem_append.mp z with z | z
      · exact q2 z
      · have e : y = x := by simpa using z
        exact n1 (e ▸ hy)
    · rwa [List.append_assoc]
theorem pickI_ok {xs : List Int} {i : Nat} {l : Int} (h : 0 < l) : 0 ≤ pickI xs i l ∧ pickI xs i l < l := ⟨Int.emod_nonneg _ (by omega), Int.emod_lt_of_pos _ h⟩
theorem refused_run {g : Gs} {n : Nat} {xs : List Str} {w : Str} (h : lstAt g n = some (ss xs)) (hl : xs.length ≤ 1000) (hx : ∀ x ∈ xs, x.length ≤ 1000) (hw : firstBad [] xs = some w) : p__law_refused [.ref n] g = .ok (.str w) g := by
  have e : (lstAt g n).bind strsOf = some xs := by rw [h]; exact strsOf_ss xs
  unfold p__law_refused
  dsimp only
  rw [e]
  dsimp only
  rw [if_pos ⟨hl, List.all_eq_true.mpr fun x h => decide_eq_true (hx x h)⟩, hw]
  rfl
def p__law_wrong_names : Mm := fun us g => match us with
  | [.ref r, .ref k] => (match (lstAt g r).bind intsOf, (lstAt g k).bind strsOf with
    | some _, some ks => if (∀ x ∈ ks, x ∈ rules) ∧ ks.Nodup ∧ ks.length ≤ 29 then .ok (.bl true) g else .bad
    | _, _ => .bad)
  | _ => .bad
theorem run_wrong_names {g : Gs} {r k : Nat} {xs : List Int} {ks : List Str} (hr : lstAt g r = some (xs.map U.int)) (hk : lstAt g k = some (ss ks)) (hm : ∀ x ∈ ks, x ∈ rules) (nd : ks.Nodup) (hl : ks.length ≤ 29) : ∃ G, m__law_wrong_names p__law_refused p__law_pick [.ref r, .ref k] g = .ok (.bl true) G ∧ Ext g G := by
  have short : ∀ x ∈ ks, x.length ≤ 1000 := fun x hx => rules_short x (hm x hx)
  obtain ⟨n0, G0, a0, l0, x0⟩ := new_x (us := ss wrongs) g (by decide)
  -- the wrong name
  obtain ⟨i, hi, hi2⟩ : ∃ i : Nat, pickI xs 90 6 = i ∧ i < 6 := ⟨(pickI xs 90 6).toNat, by have := pickI_ok (xs := xs) (i := 90) (l := 6) (by omega); omega, by have := pickI_ok (xs := xs) (i := 90) (l := 6) (by omega); omega⟩
  have a1 : p__law_pick [.ref r, .int 90, .int 6] G0 = .ok (.int i) G0 := by
    rw [p_pick_run (x0.lst hr) (by omega) (by omega)]
    show Res.ok (U.int (pickI xs 90 6)) G0 = _
    rw [hi]
  obtain ⟨w, hw⟩ : ∃ w, wrongs[i]? = some w := ⟨_, List.getElem?_eq_getElem (by exact hi2)⟩
  obtain ⟨w1, w2⟩ := wrongs_out w (List.mem_of_getElem? hw)
  have a2 : ixO (.ref n0) (.int i) G0 = .ok (.str w) G0 := ixO_ref l0 (by omega) (by rw [Int.toNat_natCast]; exact ss_get hw)
  -- the place
  obtain ⟨p, hp, hp2⟩ : ∃ p : Nat, pickI xs 92 (ks.length + 1) = p ∧ p ≤ ks.length := by
    have := pickI_ok (xs := xs) (i := 92) (l := ks.length + 1) (by omega)
    exact ⟨(pickI xs 92 (ks.length + 1)).toNat, by omega, by omega⟩
  have k0 := x0.lst hk
  have a3 : lenM [.ref k] G0 = .ok (.int ks.length) G0 := by rw [len_ref k0, ss_length]
  have a4 : p__law_pick [.ref r, .int 92, .int (ks.length + 1)] G0 = .ok (.int p) G0 := by
    rw [p_pick_run (x0.lst hr) (by omega) (by omega)]
    show Res.ok (U.int (pickI xs 92 (ks.length + 1))) G0 = _
    rw [hp]
  -- names with the wrong one
  obtain ⟨n1, G1, b1, l1, x1⟩ := slt_x (p := p) k0 (by rw [ss_length]; exact hp2) (by rw [ss_length]; omega)
  obtain ⟨n2, G2, b2, l2, x2⟩ := new_x (us := [U.str w]) G1 (by simp)
  obtain ⟨n3, G3, b3, l3, x3⟩ := add_x (x2.lst l1) l2 (by simp; omega)
  have k3 := x3.lst (x2.lst (x1.lst k0))
  obtain ⟨n4, G4, b4, l4, x4⟩ := slf_x (p := p) k3 (by rw [ss_length]; exact hp2) (by rw [ss_length]; omega)
  obtain ⟨n5, G5, b5, l5, x5⟩ := add_x (x4.lst l3) l4 (by simp; omega)
  have k5 := x5.lst (x4.lst k3)
  have m5 : (ss ks).take p ++ [.str w] ++ (ss ks).drop p = ss (ks.take p ++ w :: ks.drop p) := by simp [ss, List.map_take, List.map_drop]
  rw [m5] at l5
  have hsp : ∀ x ∈ ks.take p, x ∈ rules ∧ x ∉ ([] : List Str) := fun x hx => ⟨hm x (List.mem_of_mem_take hx), by simp⟩
  have ndt : (ks.take p).Nodup := nd.sublist (List.take_sublist _ _)
  have sh5 : ∀ x ∈ ks.take p ++ w :: ks.drop p, x.length ≤ 1000 := fun x hx => by
    rcases List.mem_append.mp hx with hx | hx
    · exact short x (List.mem_of_mem_take hx)
    · rcases List.mem_cons.mp hx with rfl | hx
      · exact w2
      · exact short x (List.mem_of_mem_drop hx)
  have b6 := refused_run (w := w) l5 (by simp; omega) sh5 (firstBad_at hsp ndt (.inl w1))
  obtain ⟨n6, G6, b7, l6, x6⟩ := new_x (us := [U.str "stop_pages"]) G5 (by decide)
  obtain ⟨n7, G7, b8, l7, x7⟩ := add_x (x6.lst l5) l6 (by simp; omega)
  have m7 : ss (ks.take p ++ w :: ks.drop p) ++ [.str "stop_pages"] = ss (ks.take p ++ w :: (ks.drop p ++ [("stop_pages" : Str)])) := by simp [ss]
  rw [m7] at l7
  have b9 := refused_run (w := w) l7 (by simp; omega) (fun x hx => by
    rcases List.mem_append.mp hx with hx | hx
    · exact sh5 x (List.mem_append_left _ hx)
    · rcases List.mem_cons.mp hx with rfl | hx
      · exact w2
      · rcases List.mem_append.mp hx with hx | hx
        · exact short x (List.mem_of_mem_drop hx)
        · have e : x = "stop_pages" := by simpa using hx
          subst e
          decide) (firstBad_at hsp ndt (.inl w1))
  have k7 := x7.lst (x6.lst k5)
  have y7 := x0.trans (x1.trans (x2.trans (x3.trans (x4.trans (x5.trans (x6.trans x7))))))
  have c1 : lenM [.ref k] G7 = .ok (.int ks.length) G7 := by rw [len_ref k7, ss_length]
  by_cases h0 : ks.length = 0
  · refine ⟨G7, ?_, y7⟩
    have z : ks = [] := List.eq_nil_of_length_eq_zero h0
    unfold m__law_wrong_names defM b__law_wrong_names
    unfold wrongs ss at a0
    simp only [h0] at a3 a4 c1
    simp only [List.map_cons, List.map_nil] at a0
    simp at a3 a4 c1
    simp [tst_eq, a0, a1, a2, a3, add_int, a4, b1, b2, b3, b4, b5, b6, b7, b8, b9, ne_str, c1, eq_int]
  · -- a name that comes twice
    obtain ⟨a, ha, ha2⟩ : ∃ a : Nat, pickI xs 94 ks.length = a ∧ a < ks.length := by
      have := pickI_ok (xs := xs) (i := 94) (l := ks.length) (by omega)
      exact ⟨(pickI xs 94 ks.length).toNat, by omega, by omega⟩
    have r7 := y7.lst hr
    have c2 : p__law_pick [.ref r, .int 94, .int ks.length] G7 = .ok (.int a) G7 := by
      rw [p_pick_run r7 (by omega) (by omega)]
      show Res.ok (U.int (pickI xs 94 ks.length)) G7 = _
      rw [ha]
    obtain ⟨x, hx⟩ : ∃ x, ks[a]? = some x := ⟨_, List.getElem?_eq_getElem ha2⟩
    have xm : x ∈ ks := List.mem_of_getElem? hx
    have gx : ∀ {G : Gs}, lstAt G k = some (ss ks) → ixO (.ref k) (.int a) G = .ok (.str x) G := fun h => ixO_ref h (by omega) (by rw [Int.toNat_natCast]; exact ss_get hx)
    have c3 := gx k7
    obtain ⟨n8, G8, c4, l8, x8⟩ := new_x (us := [U.str x]) G7 (by simp)
    have k8 := x8.lst k7
    obtain ⟨n9, G9, c5, l9, x9⟩ := add_x k8 l8 (by simp; omega)
    have k9 := x9.lst k8
    have m9 : ss ks ++ [.str x] = ss (ks ++ [x]) := by simp [ss]
    rw [m9] at l9
    have hks : ∀ y ∈ ks, y ∈ rules ∧ y ∉ ([] : List Str) := fun y hy => ⟨hm y hy, by simp⟩
    have c6 := refused_run (w := x) l9 (by simp; omega) (fun y hy => by
      rcases List.mem_append.mp hy with hy | hy
      · exact short y hy
      · have e : y = x := by simpa using hy
        subst e
        exact short y xm) (firstBad_at hks nd (.inr xm))
    have c7 := gx k9
    obtain ⟨n10, G10, c8, l10, x10⟩ := new_x (us := [U.str w]) G9 (by simp)
    obtain ⟨n11, G11, c9, l11, x11⟩ := add_x (x10.lst l9) l10 (by simp; omega)
    have m11 : ss (ks ++ [x]) ++ [.str w] = ss (ks ++ x :: [w]) := by simp [ss]
    rw [m11] at l11
    have c10 := refused_run (w := x) l11 (by simp; omega) (fun y hy => by
      rcases List.mem_append.mp hy with hy | hy
      · exact short y hy
      · rcases List.mem_cons.mp hy with rfl | hy
        · exact short y xm
        · have e : y = w := by simpa using hy
          subst e
          exact w2) (firstBad_at hks nd (.inr xm))
    have k11 := x11.lst (x10.lst k9)
    have c11 := gx k11
    -- the name twice, in its own place
    have hq : ((a : Int) + 1) = ((a + 1 : Nat) : Int) := by push_cast; rfl
    obtain ⟨n12, G12, d1, l12, x12⟩ := slt_x (p := a + 1) k11 (by rw [ss_length]; omega) (by rw [ss_length]; omega)
    have k12 := x12.lst k11
    have d2 := gx k12
    obtain ⟨n13, G13, d3, l13, x13⟩ := new_x (us := [U.str x]) G12 (by simp)
    obtain ⟨n14, G14, d4, l14, x14⟩ := add_x (x13.lst l12) l13 (by simp; omega)
    have k14 := x14.lst (x13.lst k12)
    obtain ⟨n15, G15, d5, l15, x15⟩ := slf_x (p := a + 1) k14 (by rw [ss_length]; omega) (by rw [ss_length]; omega)
    obtain ⟨n16, G16, d6, l16, x16⟩ := add_x (x15.lst l14) l15 (by simp; omega)
    have k16 := x16.lst (x15.lst k14)
    have m16 : (ss ks).take (a + 1) ++ [.str x] ++ (ss ks).drop (a + 1) = ss (ks.take (a + 1) ++ x :: ks.drop (a + 1)) := by simp [ss, List.map_take, List.map_drop]
    rw [m16] at l16
    have hst : ∀ y ∈ ks.take (a + 1), y ∈ rules ∧ y ∉ ([] : List Str) := fun y hy => ⟨hm y (List.mem_of_mem_take hy), by simp⟩
    have ndt2 : (ks.take (a + 1)).Nodup := nd.sublist (List.take_sublist _ _)
    have xt : x ∈ ks.take (a + 1) := List.mem_of_getElem? (i := a) (by rw [List.getElem?_take, if_pos (Nat.lt_succ_self _)]; exact hx)
    have sh16 : ∀ y ∈ ks.take (a + 1) ++ x :: ks.drop (a + 1), y.length ≤ 1000 := fun y hy => by
      rcases List.mem_append.mp hy with hy | hy
      · exact short y (List.mem_of_mem_take hy)
      · rcases List.mem_cons.mp hy with rfl | hy
        · exact short y xm
        · exact short y (List.mem_of_mem_drop hy)
    have d7 := refused_run (w := x) l16 (by simp; omega) sh16 (firstBad_at hst ndt2 (.inr xt))
    have d8 := gx k16
    obtain ⟨n17, G17, d9, l17, x17⟩ := new_x (us := [U.str w]) G16 (by simp)
    obtain ⟨n18, G18, d10, l18, x18⟩ := add_x l17 (x17.lst l16) (by simp; omega)
    have m18 : [.str w] ++ ss (ks.take (a + 1) ++ x :: ks.drop (a + 1)) = ss ([] ++ w :: (ks.take (a + 1) ++ x :: ks.drop (a + 1))) := by simp [ss]
    rw [m18] at l18
    have d11 := refused_run (w := w) l18 (by simp; omega) (fun y hy => by
      rcases List.mem_cons.mp hy with rfl | hy
      · exact w2
      · exact sh16 y hy) (firstBad_at (fun y hy => nomatch hy) List.nodup_nil (.inl w1))
    refine ⟨G18, ?_, y7.trans (x8.trans (x9.trans (x10.trans (x11.trans (x12.trans (x13.trans (x14.trans (x15.trans (x16.trans (x17.trans x18))))))))))⟩
    rw [← hq] at d1 d5
    have hn0 : ¬ ks = [] := fun q => h0 (by rw [q]; rfl)
    unfold m__law_wrong_names defM b__law_wrong_names
    unfold wrongs ss at a0
    simp only [List.map_cons, List.map_nil] at a0
    simp (maxSteps := 10000000) [tst_eq, a0, a1, a2, a3, add_int, a4, b1, b2, b3, b4, b5, b6, b7, b8, b9, ne_str, c1, eq_int, hn0, c2, c3, c4, c5, c6, c7, c8, c9, c10, c11, d1, d2, d3, d4, d5, d6, d7, d8, d9, d10, d11, eq_str]
theorem Drops.ext {g G : Gs} {b : Bool} (hc : Closed g) (h : Ext g G) : Drops g (.ok (.bl b) g) (.ok (.bl b) G) := by
  obtain ⟨J, rfl⟩ := h
  exact .junk _ (Nat.le_refl _) rfl hc
theorem ref_wrong_names {κ : R.Ctx} : Refines κ p__law_wrong_names (m__law_wrong_names p__law_refused p__law_pick) := Refines.of_drops fun us g hc hu hb => by
  unfold p__law_wrong_names at hb ⊢
  split at hb
  · rename_i r k
    split at hb
    · rename_i xs ks e1 e2
      split at hb
      · rename_i h
        cases e3 : lstAt g r with
        | none => rw [e3] at e1; cases e1
        | some vs =>
          rw [e3] at e1
          have ev := intsOf_at e1
          subst ev
          cases e4 : lstAt g k with
          | none => rw [e4] at e2; cases e2
          | some ws =>
            rw [e4] at e2
            have ew := strsOf_eq e2
            subst ew
            obtain ⟨G, e, x⟩ := run_wrong_names e3 e4 h.1 h.2.1 h.2.2
            rw [e, if_pos h]
            exact Drops.ext hc x
      · exact absurd rfl hb
    · exact absurd rfl hb
  · exact absurd rfl hb
end K88
set_option Elab.async false
set_option linter.all false
set_option maxRecDepth 100000
set_option maxHeartbeats 2000000
namespace K88
open R
open PySem PySem.Spec L2
open PyProof.Rows hiding St
/-! ### _law_row -/
def rowIn : Sx := (seq (ifS (tst (op2 ltO (bE lenM (aCons (var 2) aNil)) (var 1))) (dropE (mE isL appM (var 2) (aCons (op2 modO (var 4) (con (.int 16))) aNil))) skip)
  (seq (asg (op2 fdivO (var 4) (con (.int 16))) (nameT 4))
  (ifS (tst (op2 eqO (var 4) (con (.int 0)))) brk skip)))
theorem row_step {g : Gs} {o0 o3 o5 : Option U} {rows : List Int} {v : Int} (hl : rows.length ≤ 110) : ∃ rows' : List Int, rows'.length ≤ 110 ∧ rowIn [o0, some (.int 110), some (.ref g.length), o3, some (.int v), o5] (g ++ [.lst (rows.map U.int)]) = (if v / 16 = 0 then .bk [o0, some (.int 110), some (.ref g.length), o3, some (.int (v / 16)), o5] (g ++ [.lst (rows'.map U.int)]) else .nx [o0, some (.int 110), some (.ref g.length), o3, some (.int (v / 16)), o5] (g ++ [.lst (rows'.map U.int)])) := by
  have q0 := lstAt_new g (rows.map U.int)
  have q1 := len_ref q0
  have q2 := isL_ref q0
  have q3 := app_cell (g := g) (J := []) (us := rows.map U.int) (u := .int (v % 16)) (by rw [List.length_map]; omega)
  rw [List.length_map] at q1
  have m16 : ∀ g : Gs, modO (.int v) (.int 16) g = .ok (.int (v % 16)) g := fun _ => rfl
  have d16 : ∀ g : Gs, fdivO (.int v) (.int 16) g = .ok (.int (v / 16)) g := fun _ => rfl
  by_cases h : rows.length < 110
  · have h' : (rows.length : Int) < 110 := by omega
    refine ⟨rows ++ [v % 16], by simp; omega, ?_⟩
    rw [List.map_append, List.map_singleton]
    unfold rowIn
    by_cases hz : v / 16 = 0
    · simp [tst_eq, q1, q2, q3, ordO, m16, d16, eq_int, hz, h']
    · simp [tst_eq, q1, q2, q3, ordO, m16, d16, eq_int, hz, h']
  · have h' : ¬ (rows.length : Int) < 110 := by omega
    refine ⟨rows, hl, ?_⟩
    unfold rowIn
    by_cases hz : v / 16 = 0
    · simp [tst_eq, q1, q2, ordO, d16, eq_int, hz, h']
    · simp [tst_eq, q1, q2, ordO, d16, eq_int, hz, h']
theorem row_in {g : Gs} {o0 o3 : Option U} : ∀ (xs : List U) (rows : List Int) (v : Int) (o5 : Option U), rows.length ≤ 110 → ∃ (rows' : List Int) (v' : Int) (o5' : Option U), rows'.length ≤ 110 ∧ each (fun _ => true) xs (turn (nameT 5) rowIn) [o0, some (.int 110), some (.ref g.length), o3, some (.int v), o5] (g ++ [.lst (rows.map U.int)]) = .nx [o0, some (.int 110), some (.ref g.length), o3, some (.int v'), o5'] (g ++ [.lst (rows'.map U.int)])
  | [], rows, v, o5, h => ⟨rows, v, o5, h, each_nil rfl⟩
  | x :: xs, rows, v, o5, h => by
    obtain ⟨r1, h1, e1⟩ := row_step (g := g) (o0 := o0) (o3 := o3) (o5 := some x) (v := v) h
    obtain ⟨r2, v2, o2, h2, e2⟩ := row_in (g := g) (o0 := o0) (o3 := o3) xs r1 (v / 16) (some x) h1
    rw [each_cons rfl, turn_ev]
    have e3 : ([o0, some (U.int 110), some (U.ref g.length), o3, some (U.int v), o5].set 5 (some x)) = [o0, some (.int 110), some (.ref g.length), o3, some (.int v), some x] := rfl
    rw [e3, e1]
    by_cases hz : v / 16 = 0
    · rw [if_pos hz]
      exact ⟨r1, v / 16, some x, h1, rfl⟩
    · rw [if_neg hz]
      exact ⟨r2, v2, o2, h2, e2⟩
theorem row_out {g : Gs} {o0 : Option U} : ∀ (cs : List Int) (rows : List Int) (o3 o4 o5 : Option U), rows.length ≤ 110 → ∃ (rows' : List Int) (o3' o4' o5' : Option U), rows'.length ≤ 110 ∧ each (fun _ => true) (cs.map U.int) (turn (nameT 3) (seq (asg (bE absM (aCons (bE intM (aCons (var 3) aNil)) aNil)) (nameT 4)) (forE (itRng1 (aCons (con (.int 60)) aNil)) (nameT 5) rowIn))) [o0, some (.int 110), some (.ref g.length), o3, o4, o5] (g ++ [.lst (rows.map U.int)]) = .nx [o0, some (.int 110), some (.ref g.length), o3', o4', o5'] (g ++ [.lst (rows'.map U.int)])
  | [], rows, o3, o4, o5, h => ⟨rows, o3, o4, o5, h, each_nil rfl⟩
  | c :: cs, rows, o3, o4, o5, h => by
    have r1 : ∀ g : Gs, rng1 [.int 60] g = .ok (intsU 0 60, fun _ => true) g := fun g => rfl
    obtain ⟨q1, v1, z1, h1, e1⟩ := row_in (g := g) (o0 := o0) (o3 := some (.int c)) (intsU 0 60) rows (if c < 0 then -c else c) o5 h
    obtain ⟨q2, o3', o4', o5', h2, e2⟩ := row_out (g := g) (o0 := o0) cs q1 (some (.int c)) (some (.int v1)) z1 h1
    refine ⟨q2, o3', o4', o5', h2, ?_⟩
    rw [List.map_cons, each_cons rfl, turn_ev, ← e2]
    generalize hz : intsU 0 60 = zs at e1 r1
    simp [intM, absM, r1, e1]
theorem run_row {g : Gs} {cs : List Int} : ∃ rows : List Int, m__law_row [.lit (cs.map U.int), .int 110] g = .ok (.ref g.length) (g ++ [.lst (rows.map U.int)]) := by
  obtain ⟨rows, o3, o4, o5, h, e⟩ := row_out (g := g) (o0 := some (.lit (cs.map U.int))) cs [] none none none (by simp)
  refine ⟨rows, ?_⟩
  have q0 : newL [] g = .ok (.ref g.length) (g ++ [.lst []]) := rfl
  have q1 : itV (.lit (cs.map U.int)) (g ++ [.lst []]) = .ok (cs.map U.int, fun _ => true) (g ++ [.lst []]) := rfl
  rw [List.map_nil] at e
  unfold rowIn at e
  unfold m__law_row defM b__law_row
  simp [q0, q1, e]
end K88
set_option Elab.async false
set_option linter.all false
set_option maxRecDepth 100000
set_option maxHeartbeats 4000000
namespace K88
open R
open PySem PySem.Spec L2
open PyProof.Rows hiding St
theorem it_ref {g : Gs} {n : Nat} {us : List U} (h : lstAt g n = some us) : itV (.ref n) g = .ok (us, ckL n us) g := by
  unfold itV
  dsimp only
  rw [h]
theorem ck_ref {g : Gs} {n : Nat} {us : List U} (h : lstAt g n = some us) : ckL n us g = true := by
  unfold ckL
  rw [h]
  exact U.beqs_refl us
theorem lc_x {i j n : Nat} {us : Us} {g : Gs} {ys : List Str} {c : Et} (p : Str → Bool) (hv : var j us g = .ok (.ref n) g) (hl : lstAt g n = some (ss ys)) (hy : ys.length ≤ 1000) (hc : ∀ x ∈ ys, c ((wipeU us [i]).set i (some (.str x))) g = .ok (p x) g) (hx : ∀ v, var i ((wipeU us [i]).set i (some v)) g = .ok v g) : ∃ k G, lcE [i] (itE (var j)) (nameT i) c (var i) us g = .ok (.ref k) G ∧ lstAt G k = some (ss (ys.filter p)) ∧ Ext g G := by
  have e : lcGo (ckL n (ss ys)) (nameT i) c (var i) (ss ys) (wipeU us [i]) g = .ok (((ss ys).filter fun u => match u with | .str x => p x | _ => false).map id) g :=
    lcGo_pure (ck_ref hl) fun v hv2 => by
      obtain ⟨x, hx2, rfl⟩ := List.mem_map.mp hv2
      exact ⟨hc x hx2, fun _ => hx _⟩
  rw [List.map_id, filter_ss p _ (fun _ => rfl)] at e
  have hf : (ys.filter p).length ≤ ys.length := List.length_filter_le _ _
  obtain ⟨k, G, e1, e2, e3⟩ := new_x (us := ss (ys.filter p)) g (by rw [ss_length]; omega)
  refine ⟨k, G, ?_, e2, e3⟩
  rw [lcE_ev, itE_ev, hv]
  dsimp only [Res.bind]
  rw [it_ref hl]
  dsimp only
  rw [if_pos (by rw [ss_length]; omega), e]
  exact e1
theorem each_true {ck : Gs → Bool} {c : Et} {i : Nat} {g : Gs} {us : Us} (hck : ck g = true) : ∀ (xs : List U) (o : Option U), (∀ x ∈ xs, c (us.set i (some x)) g = .ok true g) → ∃ o', each ck xs (turn (nameT i) (ifS (notT c) (retE (con (.bl false))) skip)) (us.set i o) g = .nx (us.set i o') g
  | [], o, _ => ⟨o, each_nil hck⟩
  | x :: xs, o, h => by
    obtain ⟨o', h3⟩ := each_true hck xs (some x) fun y hy => h y (List.mem_cons_of_mem _ hy)
    refine ⟨o', ?_⟩
    rw [each_cons hck, turn_ev, ← h3, List.set_set]
    have e := h x List.mem_cons_self
    simp [e]
theorem numL_bd (ns : List Str) : ∀ l : List Str, 0 ≤ numL ns l ∧ numL ns l < 2 ^ l.length
  | [] => by simp [numL]
  | x :: r => by
    obtain ⟨h1, h2⟩ := numL_bd ns r
    have hp : (2 : Int) ^ (x :: r).length = 2 * 2 ^ r.length := by rw [List.length_cons, Int.pow_succ, Int.mul_comm]
    rw [hp]
    have hb : bit ns x = 0 ∨ bit ns x = 1 := by
      unfold bit
      split
      · exact .inr rfl
      · exact .inl rfl
    show 0 ≤ 2 * numL ns r + bit ns x ∧ 2 * numL ns r + bit ns x < _
    omega
theorem numL_ok (ns : List Str) : 0 ≤ numL ns rules ∧ numL ns rules ≤ 536870911 := by
  have h := numL_bd ns rules
  have e : (2 : Int) ^ rules.length = 536870912 := by decide +kernel
  rw [e] at h
  omega
def okN (i : Int) : Prop := 0 ≤ i ∧ i ≤ 536870911
def valL (xs : List Int) : Nat → Nat → Int → Int
  | 0, _, v => v
  | n + 1, k, v => valL xs n (k + 1) (16 * v + xs[96 + k]?.getD 0)
/-- the loop that puts a value together -/
theorem val_loop {g : Gs} {r : Nat} {xs : List Int} (hr : lstAt g r = some (xs.map U.int)) {o1 o2 o3 o4 o5 o6 o7 o8 o11 o12 o13 o14 : Option U} : ∀ (n k : Nat) (v : Int) (o : Option U), ∃ o', each (fun _ => true) (intsU k n) (turn (nameT 10) (asg (op2 addO (op2 mulO (con (.int 16)) (var 9)) (callE m__law_digit [] (aCons (var 0) (aCons (op2 addO (con (.int 96)) (var 10)) aNil)))) (nameT 9))) [some (.ref r), o1, o2, o3, o4, o5, o6, o7, o8, some (.int v), o, o11, o12, o13, o14] g = .nx [some (.ref r), o1, o2, o3, o4, o5, o6, o7, o8, some (.int (valL xs n k v)), o', o11, o12, o13, o14] g
  | 0, k, v, o => ⟨o, each_nil rfl⟩
  | n + 1, k, v, o => by
    obtain ⟨o', e⟩ := val_loop hr (o1 := o1) (o2 := o2) (o3 := o3) (o4 := o4) (o5 := o5) (o6 := o6) (o7 := o7) (o8 := o8) (o11 := o11) (o12 := o12) (o13 := o13) (o14 := o14) n (k + 1) (16 * v + xs[96 + k]?.getD 0) (some (.int k))
    refine ⟨o', ?_⟩
    have q := run_digit (i := 96 + k) hr (by omega)
    have et : ((96 : Int) + k).toNat = 96 + k := by omega
    rw [et] at q
    show each _ (U.int k :: intsU (k + 1) n) _ _ _ = _
    rw [each_cons rfl, turn_ev]
    push_cast at e
    unfold valL
    rw [← e]
    simp [mul_16, add_int, q]
theorem pow_step {m : Nat} {p : Int} (h : p * 2 ^ (m + 1) ≤ 536870912) (hp : 1 ≤ p) : p ≤ 536870911 ∧ (2 * p) * 2 ^ m ≤ 536870912 := by
  rw [Int.pow_succ] at h
  have e : p * (2 ^ m * 2) = (2 * p) * 2 ^ m := by
    rw [Int.mul_comm 2 p, Int.mul_assoc, Int.mul_comm 2 (2 ^ m)]
  rw [e] at h
  refine ⟨?_, h⟩
  have h1 : (1 : Int) ≤ 2 ^ m := Int.pow_pos (by omega)
  have h2 : 2 * p * 1 ≤ 2 * p * 2 ^ m := Int.mul_le_mul_of_nonneg_left h1 (by omega)
  omega
theorem place_loop {g : Gs} {o0 o1 o2 o3 o4 o5 o6 o7 o8 o9 o13 o14 : Option U} : ∀ (m k : Nat) (ns : List Int) (p : Int) (o : Option U), (∀ n ∈ ns, okN n) → ns.length + m ≤ 1000 → 1 ≤ p → p * 2 ^ m ≤ 536870912 → ∃ (ns' : List Int) (p' : Int) (o' : Option U), (∀ n ∈ ns', okN n) ∧ each (fun _ => true) (intsU k m) (turn (nameT 10) (seq (dropE (mE isL appM (var 11) (aCons (var 12) aNil))) (asg (op2 mulO (con (.int 2)) (var 12)) (nameT 12)))) [o0, o1, o2, o3, o4, o5, o6, o7, o8, o9, o, some (.ref g.length), some (.int p), o13, o14] (g ++ [.lst (ns.map U.int)]) = .nx [o0, o1, o2, o3, o4, o5, o6, o7, o8, o9, o', some (.ref g.length), some (.int p'), o13, o14] (g ++ [.lst (ns'.map U.int)])
  | 0, k, ns, p, o, h, _, _, _ => ⟨ns, p, o, h, each_nil rfl⟩
  | m + 1, k, ns, p, o, h, hl, hp, hm => by
    obtain ⟨h1, h2⟩ := pow_step hm hp
    obtain ⟨ns', p', o', e1, e2⟩ := place_loop (g := g) (o0 := o0) (o1 := o1) (o2 := o2) (o3 := o3) (o4 := o4) (o5 := o5) (o6 := o6) (o7 := o7) (o8 := o8) (o9 := o9) (o13 := o13) (o14 := o14) m (k + 1) (ns ++ [p]) (2 * p) (some (.int k)) (fun n hn => by
      rcases List.mem_append.mp hn with hn | hn
      · exact h n hn
      · have e : n = p := by simpa using hn
        subst e
        exact ⟨by omega, h1⟩) (by rw [List.length_append, List.length_singleton]; omega) (by omega) h2
    refine ⟨ns', p', o', e1, ?_⟩
    have q2 := isL_ref (lstAt_new g (ns.map U.int))
    have q3 := app_cell (g := g) (J := []) (us := ns.map U.int) (u := .int p) (by rw [List.length_map]; omega)
    show each _ (U.int k :: intsU (k + 1) m) _ _ _ = _
    push_cast at e2
    rw [List.map_append, List.map_singleton] at e2
    rw [each_cons rfl, turn_ev, ← e2]
    simp [q2, q3, mul_2]
theorem both_run {g : Gs} {v : Int} (h : okN v) : p__law_both [.int v] g = .ok (.bl true) g := by
  unfold p__law_both
  dsimp only
  rw [if_pos (show 0 ≤ v ∧ v ≤ 536870911 from h)]
theorem consts_same : smU (.tup [u_CODE_RULES, u_VALUE_RULES, u_POLL_RULES]) (.tup [.tup ((ss rules).take 18), .tup (((ss rules).take 27).drop 18), .tup ((ss rules).drop 27)]) = true ∧ wtU (.tup [.tup ((ss rules).take 18), .tup (((ss rules).take 27).drop 18), .tup ((ss rules).drop 27)]) < 6000 := by decide +kernel
theorem sl_x {g : Gs} {n : Nat} {us : List U} {p q : Nat} (h : lstAt g n = some us) (hq : q ≤ us.length) (hp : p ≤ q) (hl : us.length ≤ 100000) : ∃ k G, slU (.ref n) (some (p : Int)) (some (q : Int)) g = .ok (.ref k) G ∧ lstAt G k = some ((us.take q).drop p) ∧ Ext g G := by
  have e : cutU us (some (p : Int)) (some (q : Int)) = (us.take q).drop p := by
    unfold cutU
    rw [HT.sIx_nat, HT.sIx_nat, Nat.min_eq_left hq, Nat.min_eq_left (Nat.le_trans hp hq), List.drop_take]
  obtain ⟨k, G, e1, e2, e3⟩ := new_x (us := (us.take q).drop p) g (by rw [List.length_drop, List.length_take]; omega)
  refine ⟨k, G, ?_, e2, e3⟩
  show (match lstV (.ref n) g with
    | some us => newL (cutU us (some (p : Int)) (some (q : Int))) g
    | none => .bad) = _
  have q : lstV (.ref n) g = some us := h
  rw [q]
  dsimp only
  rw [e]
  exact e1
end K88
set_option Elab.async false
set_option linter.all false
set_option maxRecDepth 100000
set_option maxHeartbeats 8000000
namespace K88
open R
open PySem PySem.Spec L2
open PyProof.Rows hiding St
theorem rules_x (g : Gs) : ∃ k G, p__law_rules [] g = .ok (.ref k) G ∧ lstAt G k = some (ss rules) ∧ Ext g G := ⟨_, _, run_rules, lstAt_new _ _, ⟨_, rfl⟩⟩
theorem polAt_new (g : Gs) (ns : List Str) : polAt (g ++ [pol ns]) g.length = some ns := polAt_of (by
  rw [List.getElem?_append_right (Nat.le_refl _)]
  simp)
theorem or_x {g : Gs} {a b : Nat} {ns ms : List Str} (ha : polAt g a = some ns) (hb : polAt g b = some ms) : ∃ k G, ownO 7 p_or (.ref a) (.ref b) g = .ok (.ref k) G ∧ polAt G k = some (orL ns ms) ∧ Ext g G := by
  refine ⟨g.length, g ++ [pol (orL ns ms)], ?_, polAt_new _ _, ⟨_, rfl⟩⟩
  unfold ownO
  rw [if_pos ⟨by rw [insV_pol ha]; rfl, by rw [insV_pol hb]; rfl⟩]
  unfold p_or
  simp [ha, hb]
theorem sub_x {g : Gs} {a b : Nat} {ns ms : List Str} (ha : polAt g a = some ns) (hb : polAt g b = some ms) (hs : ns.Sublist rules) : ∃ k G, ownO 7 p_sub (.ref a) (.ref b) g = .ok (.ref k) G ∧ polAt G k = some (subL ns ms) ∧ Ext g G := by
  refine ⟨g.length, g ++ [pol (subL ns ms)], ?_, polAt_new _ _, ⟨_, rfl⟩⟩
  unfold ownO
  rw [if_pos ⟨by rw [insV_pol ha]; rfl, by rw [insV_pol hb]; rfl⟩]
  unfold p_sub
  simp [ha, hb, hs]
theorem pair_ok {g : Gs} {us : Us} {a l : Nat} {ns : List Str} (ha : polAt g a = some ns) (hl : lstAt g l = some (ss ns)) (hu : var 8 us g = .ok (.tup [.ref a, .ref l]) g) : tst (callE p__law_equal [] (aCons (callE p_policy_number [] (aCons (op2 ixO (var 8) (con (.int 0))) aNil)) (aCons (callE p__law_number [] (aCons (op2 ixO (var 8) (con (.int 1))) aNil)) aNil))) us g = .ok true g := by
  have q1 : ixO (.tup [.ref a, .ref l]) (.int 0) g = .ok (.ref a) g := ix_tup (us := [.ref a, .ref l]) (i := 0) rfl
  have q2 : ixO (.tup [.ref a, .ref l]) (.int 1) g = .ok (.ref l) g := ix_tup (us := [.ref a, .ref l]) (i := 1) rfl
  simp [tst_eq, hu, q1, q2, run_policy_number ha, law_number_run hl, equal_int]
theorem run_numbers {g : Gs} {r a f b s : Nat} {xs : List Int} {ns ms : List Str} (hr : lstAt g r = some (xs.map U.int)) (ha : polAt g a = some ns) (hf : lstAt g f = some (ss ns)) (hb : polAt g b = some ms) (hs : lstAt g s = some (ss ms)) (hn : ns.Sublist rules) (hm : ms.Sublist rules) : ∃ G, m__law_numbers p__law_equal (m__law_refused_number p_policy_numbered) p__law_both p__law_number m__law_digit p_or p_sub p_policy_number p__law_rules [.ref r, .ref a, .ref f, .ref b, .ref s] g = .ok (.bl true) G ∧ Ext g G := by
  have hnl : ns.length ≤ 29 := hn.length_le
  have hml : ms.length ≤ 29 := hm.length_le
  obtain ⟨k0, G0, a0, l0, x0⟩ := rules_x g
  -- joined
  obtain ⟨k1, G1, a1, l1, x1⟩ := lc_x (i := 14) (j := 5) (us := [some (.ref r), some (.ref a), some (.ref f), some (.ref b), some (.ref s), some (.ref k0), none, none, none, none, none, none, none, none, none]) (c := orT (tst (op2 (inO false) (var 14) (var 2))) (tst (op2 (inO false) (var 14) (var 4)))) (fun x => decide (x ∈ ns) || decide (x ∈ ms)) rfl l0 (by decide) (fun x _ => by
    simp [tst_eq, wipeU, in_ref (x0.lst hf), in_ref (x0.lst hs)]
    by_cases q : x ∈ ns <;> simp [q]) fun _ => rfl
  -- apart
  have y1 := x0.trans x1
  obtain ⟨k2, G2, a2, l2, x2⟩ := lc_x (i := 14) (j := 2) (us := [some (.ref r), some (.ref a), some (.ref f), some (.ref b), some (.ref s), some (.ref k0), some (.ref k1), none, none, none, none, none, none, none, none]) (c := tst (op2 (inO true) (var 14) (var 4))) (fun x => decide (x ∉ ms)) rfl (y1.lst hf) (by omega) (fun x _ => by
    simp [tst_eq, wipeU, in_ref (y1.lst hs)]) fun _ => rfl
  have y2 := y1.trans x2
  obtain ⟨k3, G3, a3, l3, x3⟩ := or_x (y2.pol ha) (y2.pol hb)
  have y3 := y2.trans x3
  obtain ⟨k4, G4, a4, l4, x4⟩ := sub_x (y3.pol ha) (y3.pol hb) hn
  have y4 := y3.trans x4
  obtain ⟨k5, G5, a5, l5, x5⟩ := new_x (us := [.tup [.ref a, .ref f], .tup [.ref b, .ref s], .tup [.ref k3, .ref k1], .tup [.ref k4, .ref k2], .tup [.ref a, .ref f]]) G4 (by simp)
  have y5 := y4.trans x5
  obtain ⟨o8, a6⟩ := each_true (i := 8) (us := [some (.ref r), some (.ref a), some (.ref f), some (.ref b), some (.ref s), some (.ref k0), some (.ref k1), some (.ref k2), none, none, none, none, none, none, none]) (c := tst (callE p__law_equal [] (aCons (callE p_policy_number [] (aCons (op2 ixO (var 8) (con (.int 0))) aNil)) (aCons (callE p__law_number [] (aCons (op2 ixO (var 8) (con (.int 1))) aNil)) aNil)))) (ck_ref l5) [.tup [.ref a, .ref f], .tup [.ref b, .ref s], .tup [.ref k3, .ref k1], .tup [.ref k4, .ref k2], .tup [.ref a, .ref f]] none (fun x hx => by
    simp only [List.mem_cons, List.not_mem_nil, or_false] at hx
    rcases hx with rfl | rfl | rfl | rfl | rfl
    · exact pair_ok (y5.pol ha) (y5.lst hf) rfl
    · exact pair_ok (y5.pol hb) (y5.lst hs) rfl
    · exact pair_ok ((x4.trans x5).pol l3) ((x2.trans (x3.trans (x4.trans x5))).lst l1) rfl
    · exact pair_ok (x5.pol l4) ((x3.trans (x4.trans x5)).lst l2) rfl
    · exact pair_ok (y5.pol ha) (y5.lst hf) rfl)
  have r5 := y5.lst hr
  obtain ⟨o10, a7⟩ := val_loop r5 (o1 := some (.ref a)) (o2 := some (.ref f)) (o3 := some (.ref b)) (o4 := some (.ref s)) (o5 := some (.ref k0)) (o6 := some (.ref k1)) (o7 := some (.ref k2)) (o8 := o8) (o11 := none) (o12 := none) (o13 := none) (o14 := none) 8 0 0 none
  obtain ⟨w, hw⟩ : ∃ w, valL xs 8 0 0 = w := ⟨_, rfl⟩
  rw [hw] at a7
  obtain ⟨v, hv⟩ : ∃ v, (w + 305419896) % 536870912 = v := ⟨_, rfl⟩
  have hv1 : okN v := by
    unfold okN
    omega
  have a8 : modO (.int (w + 305419896)) (.int 536870912) G5 = .ok (.int v) G5 := by
    show Res.ok (U.int ((w + 305419896) % 536870912)) G5 = _
    rw [hv]
  have n1 := numL_ok ns
  have n2 := numL_ok ms
  have f5 := law_number_run (y5.lst hf)
  have s5 := law_number_run (y5.lst hs)
  have a9 : newL [.int v, .int (536870911 - v), .int 0, .int 536870911, .int (numL ns rules), .int (numL ms rules)] G5 = .ok (.ref G5.length) (G5 ++ [.lst ([v, 536870911 - v, 0, 536870911, numL ns rules, numL ms rules].map U.int)]) := newL_ok (by simp)
  obtain ⟨zs, p', o10', hz, b1⟩ := place_loop (g := G5) (o0 := some (.ref r)) (o1 := some (.ref a)) (o2 := some (.ref f)) (o3 := some (.ref b)) (o4 := some (.ref s)) (o5 := some (.ref k0)) (o6 := some (.ref k1)) (o7 := some (.ref k2)) (o8 := o8) (o9 := some (.int v)) (o13 := none) (o14 := none) 29 0 [v, 536870911 - v, 0, 536870911, numL ns rules, numL ms rules] 1 o10 (fun n hn => by
    unfold okN at hv1 ⊢
    simp only [List.mem_cons, List.not_mem_nil, or_false] at hn
    rcases hn with rfl | rfl | rfl | rfl | rfl | rfl <;> omega) (by simp) (by omega) (by decide)
  obtain ⟨G6, hG6⟩ : ∃ G6, G6 = G5 ++ [Cell.lst (zs.map U.int)] := ⟨_, rfl⟩
  have x6 : Ext G5 G6 := ⟨_, hG6⟩
  have l6 : lstAt G6 G5.length = some (zs.map U.int) := by
    rw [hG6]
    exact lstAt_new _ _
  rw [← hG6] at b1
  obtain ⟨o13, b2⟩ := each_true (i := 13) (us := [some (.ref r), some (.ref a), some (.ref f), some (.ref b), some (.ref s), some (.ref k0), some (.ref k1), some (.ref k2), o8, some (.int v), o10', some (.ref G5.length), some (.int p'), none, none]) (c := tst (callE p__law_both [] (aCons (var 13) aNil))) (ck_ref l6) (zs.map U.int) none (fun x hx => by
    obtain ⟨z, hz2, rfl⟩ := List.mem_map.mp hx
    simp [tst_eq, both_run (hz z hz2)])
  obtain ⟨k7, G7, b3, l7, x7⟩ := new_x (us := [.int (-1), .int 536870912, .int (-2 - v % 899), .int (536870913 + v % 899)]) G6 (by simp)
  have m899 : ∀ g : Gs, modO (.int v) (.int 899) g = .ok (.int (v % 899)) g := fun _ => rfl
  have hm9 : 0 ≤ v % 899 := Int.emod_nonneg _ (by omega)
  obtain ⟨o13', b4⟩ := each_true (i := 13) (us := [some (.ref r), some (.ref a), some (.ref f), some (.ref b), some (.ref s), some (.ref k0), some (.ref k1), some (.ref k2), o8, some (.int v), o10', some (.ref G5.length), some (.int p'), none, none]) (c := tst (callE (m__law_refused_number p_policy_numbered) [] (aCons (var 13) aNil))) (ck_ref l7) [.int (-1), .int 536870912, .int (-2 - v % 899), .int (536870913 + v % 899)] o13 (fun x hx => by
    have key : ∀ i : Int, ¬ (0 ≤ i ∧ i ≤ 536870911) → x = .int i → tst (callE (m__law_refused_number p_policy_numbered) [] (aCons (var 13) aNil)) [some (.ref r), some (.ref a), some (.ref f), some (.ref b), some (.ref s), some (.ref k0), some (.ref k1), some (.ref k2), o8, some (.int v), o10', some (.ref G5.length), some (.int p'), some x, none] G7 = .ok true G7 := fun i hi e => by
      subst e
      simp [tst_eq, run_refused_number hi]
    simp only [List.mem_cons, List.not_mem_nil, or_false] at hx
    rcases hx with h | h | h | h
    · exact key _ (by omega) h
    · exact key _ (by omega) h
    · exact key _ (by omega) h
    · exact key _ (by omega) h)
  have y7 := x6.trans x7
  have l8 := (x1.trans (x2.trans (x3.trans (x4.trans (x5.trans y7))))).lst l0
  obtain ⟨k8, G8, c1, l9, x8⟩ := slt_x (p := 18) l8 (by decide) (by decide)
  obtain ⟨k9, G9, c2, l10, x9⟩ := sl_x (p := 18) (q := 27) (x8.lst l8) (by decide) (by decide) (by decide)
  obtain ⟨k10, G10, c3, l11, x10⟩ := slf_x (p := 27) (x9.lst (x8.lst l8)) (by decide) (by decide)
  have t1 := tup_ref l9
  have t2 := tup_ref l10
  have t3 := tup_ref l11
  have c4 : p__law_equal [.tup [u_CODE_RULES, u_VALUE_RULES, u_POLL_RULES], .tup [.tup ((ss rules).take 18), .tup (((ss rules).take 27).drop 18), .tup ((ss rules).drop 27)]] G10 = .ok (.bl true) G10 := by
    unfold p__law_equal
    dsimp only
    rw [if_pos consts_same]
  refine ⟨G10, ?_, y5.trans (y7.trans (x8.trans (x9.trans x10)))⟩
  unfold m__law_numbers defM b__law_numbers
  have r8 : ∀ g : Gs, rng1 [.int 8] g = .ok (intsU 0 8, fun _ => true) g := fun g => rfl
  have r29 : ∀ g : Gs, rng1 [.int 29] g = .ok (intsU 0 29, fun _ => true) g := fun g => rfl
  have i5 := it_ref l5
  have i6 := it_ref l6
  have i7 := it_ref l7
  simp only [List.set_cons_zero, List.set_cons_succ] at a6 b2 b4
  simp only [List.map_cons, List.map_nil] at a9 b1
  rw [show ((18 : Nat) : Int) = 18 from rfl] at c1 c2
  rw [show ((27 : Nat) : Int) = 27 from rfl] at c2 c3
  rw [show ((0 : Nat) : Int) = 0 from rfl] at a7 b1
  generalize intsU 0 8 = i8 at r8 a7
  generalize intsU 0 29 = i29 at r29 b1
  simp (maxSteps := 10000000) [-lcE_ev, tst_eq, a0, a1, a2, a3, a4, a5, i5, a6, r8, a7, add_int, sub_int, intM, a8, f5, s5, a9, r29, b1, i6, b2, b3, i7, b4, m899, c1, c2, c3, t1, t2, t3, c4]
def p__law_numbers : Mm := fun us g => match us with
  | [.ref r, .ref a, .ref f, .ref b, .ref s] => (match (lstAt g r).bind intsOf, polAt g a, (lstAt g f).bind strsOf, polAt g b, (lstAt g s).bind strsOf with
    | some _, some ns, some fs, some ms, some gs => if (ns = fs ∧ ms = gs) ∧ ns.Sublist rules ∧ ms.Sublist rules then .ok (.bl true) g else .bad
    | _, _, _, _, _ => .bad)
  | _ => .bad
theorem strs_at {g : Gs} {n : Nat} {xs : List Str} (h : (lstAt g n).bind strsOf = some xs) : lstAt g n = some (ss xs) := by
  cases e : lstAt g n with
  | none => rw [e] at h; cases h
  | some us =>
    rw [e] at h
    have q := strsOf_eq h
    rw [q]
theorem ints_at {g : Gs} {n : Nat} {xs : List Int} (h : (lstAt g n).bind intsOf = some xs) : lstAt g n = some (xs.map U.int) := by
  cases e : lstAt g n with
  | none => rw [e] at h; cases h
  | some us =>
    rw [e] at h
    have q := intsOf_at h
    rw [q]
theorem ref_numbers {κ : R.Ctx} : Refines κ p__law_numbers (m__law_numbers p__law_equal (m__law_refused_number p_policy_numbered) p__law_both p__law_number m__law_digit p_or p_sub p_policy_number p__law_rules) := Refines.of_drops fun us g hc hu hb => by
  unfold p__law_numbers at hb ⊢
  split at hb
  · rename_i r a f b s
    split at hb
    · rename_i xs ns fs ms gs e1 e2 e3 e4 e5
      split at hb
      · rename_i h
        obtain ⟨⟨rfl, rfl⟩, h3, h4⟩ := h
        obtain ⟨G, e, x⟩ := run_numbers (ints_at e1) e2 (strs_at e3) e4 (strs_at e5) h3 h4
        rw [e, if_pos ⟨⟨rfl, rfl⟩, h3, h4⟩]
        exact Drops.ext hc x
      · exact absurd rfl hb
    · exact absurd rfl hb
  · exact absurd rfl hb
end K88
set_option Elab.async false
set_option linter.all false
set_option maxRecDepth 100000
set_option maxHeartbeats 4000000
namespace K88
open R
open PySem PySem.Spec L2
open PyProof.Rows hiding St
open PySem.W (Frag)
variable {P : Program} {w : World} {K : Frag} {mg : Str → Option Value} {base : Heap}
abbrev s_describe : Stmt := top 17
def N_describe : List Str := ["name", "title", "names", "words"]
theorem sc_describe : FnScope N_describe ["name"] (defScope s_describe) := ⟨rfl, rfl, rfl, by decide +kernel, rfl, by decide +kernel, by decide +kernel⟩
def b_describe : Sx := (seq (forE (itE (tupE (aCons (tupE (aCons (con (.str "Code")) (aCons (con u_CODE_RULES) aNil))) (aCons (tupE (aCons (con (.str "Value")) (aCons (con u_VALUE_RULES) aNil))) (aCons (tupE (aCons (con (.str "Interrupt")) (aCons (con u_POLL_RULES) aNil))) aNil))))) (tupT 2 (consT (nameT 1) (consT (nameT 2) nilT))) (ifS (tst (op2 (inO false) (var 0) (var 2))) (seq (asg (repE "_" " " (var 0)) (nameT 3))
  (retE (joGo [(fmtE (var 1)), (con (.str " rule ")), (fmtE (op2 addO (mE isW tindexM (var 2) (aCons (var 0) aNil)) (con (.int 1)))), (con (.str " of ")), (fmtE (bE lenM (aCons (var 2) aNil))), (con (.str ": ")), (fmtE (var 3)), (con (.str "."))] Str.empty))) skip))
  (raiseE 3 [("name" : Str)] (aCons (var 0) aNil)))
def m_describe : Mm := defM 1 3 (b_describe)
theorem f_describe (T : Txt P w K mg) {f : Addr} {fd : FuncData} {dvs : List V} {x qual : Str} (F : FunD K x qual (defArgs s_describe) (defBody s_describe) (defScope s_describe) dvs [] f fd) : FnOk P w K mg base (L2.CX P w) 3 f fd ["name"] (spR (κ K) (m_describe)) := by
  refine fdT_ok (κ := κ K) (j := 2) F sc_describe (by decide +kernel) (by decide) rfl rfl rfl fun cdv A outer s H E hr => ?_
  exact (rsT_cons (rsT_for (passes_of rfl) rfl (ri_seq rfl (re_tup (ra_cons (re_tup (ra_cons re_str (ra_cons (re_gv rfl T.v_CODE_RULES) ra_nil))) (ra_cons (re_tup (ra_cons re_str (ra_cons (re_gv rfl T.v_VALUE_RULES) ra_nil))) (ra_cons (re_tup (ra_cons re_str (ra_cons (re_gv rfl T.v_POLL_RULES) ra_nil))) ra_nil))))) (pg_tup (n := 2) rfl (pgs_cons (pg_name (i := 1) (sc_describe).nd rfl (Or.inl rfl)) (pgs_cons (pg_name (i := 2) (sc_describe).nd rfl (Or.inl rfl)) pgs_nil))) (tg_tup (n := 2) (tgs_cons (tg_name (i := 1) (by intro _ q; exact nomatch q)) (tgs_cons (tg_name (i := 2) (by intro _ q; exact nomatch q)) tgs_nil))) (rsT_one (rsT_if (rt_cmp or_in ok_in (rv 0) (rv 2)) (rsT_cons (rsT_set (i := 3) (sc_describe).nd rfl (Or.inl rfl) (reT_rep (rv 0)))
  (PSsT.of (rs_one (rs_ret (re_joined (fs := [(fmtE (var 1)), (con (.str " rule ")), (fmtE (op2 addO (mE isW tindexM (var 2) (aCons (var 0) aNil)) (con (.int 1)))), (con (.str " of ")), (fmtE (bE lenM (aCons (var 2) aNil))), (con (.str ": ")), (fmtE (var 3)), (con (.str "."))]) (.cons (re_fmt (rv 1)) (.cons re_str (.cons (re_fmt (re_bin or_add ok_add (re_bm rfl tk_wtu mk_tindex PySem.F.plainAttrs_tuple PySem.F.slot_tuple_index PySem.F.type_tuple_index mt_tup_index (rv 2) (ra_cons (rv 0) ra_nil)) re_int)) (.cons re_str (.cons (re_fmt (re_len rfl T.n_len (ra_cons (rv 2) ra_nil))) (.cons re_str (.cons (re_fmt (rv 3)) (.cons re_str .nil))))))))))))) rsT_nil)))
  (PSsT.of (rs_one (rs_r1 rfl (takes_of rfl rfl rfl rfl) (r_PolicyError T) hr (ra_cons (rv 0) ra_nil)))))

end K88
set_option Elab.async false
set_option linter.all false
set_option maxRecDepth 1000000
set_option maxHeartbeats 20000000
namespace K88
open R
open PySem PySem.Spec L2
open PyProof.Rows hiding St
abbrev p_describe : Mm := isoM m_describe
def code18 : List Str := rules.take 18
def vals9 : List Str := (rules.drop 18).take 9
def poll2 : List Str := rules.drop 27
theorem in_code {neg : Bool} {x : Str} {g : Gs} : inO neg (.str x) u_CODE_RULES g = .ok (.bl (if neg then !decide (x ∈ code18) else decide (x ∈ code18))) g := in_ss (fun z h => nomatch h) rfl
theorem in_vals {neg : Bool} {x : Str} {g : Gs} : inO neg (.str x) u_VALUE_RULES g = .ok (.bl (if neg then !decide (x ∈ vals9) else decide (x ∈ vals9))) g := in_ss (fun z h => nomatch h) rfl
theorem in_poll {neg : Bool} {x : Str} {g : Gs} : inO neg (.str x) u_POLL_RULES g = .ok (.bl (if neg then !decide (x ∈ poll2) else decide (x ∈ poll2))) g := in_ss (fun z h => nomatch h) rfl
theorem describe_out {w : Str} (h : w ∉ rules) (hl : w.length ≤ 1000) : m_describe [.str w] [] = .exc 3 [("name", .str w)] [] := by
  have h1 : w ∉ code18 := fun z => h (List.mem_of_mem_take z)
  have h2 : w ∉ vals9 := fun z => h (List.mem_of_mem_drop (List.mem_of_mem_take z))
  have h3 : w ∉ poll2 := fun z => h (List.mem_of_mem_drop z)
  have hf : fmtU (.str w) = true := by unfold fmtU; exact decide_eq_true (by omega)
  have t3 : ∀ (a b : U) (us : Us) (g : Gs), tupT 2 (consT (nameT 1) (consT (nameT 2) nilT)) (.tup [a, b]) us g = some ((us.set 1 (some a)).set 2 (some b), g) := fun _ _ _ _ => rfl
  have i3 : ∀ (a b c : U) (g : Gs), itV (.tup [a, b, c]) g = .ok ([a, b, c], fun _ => true) g := fun _ _ _ _ => rfl
  unfold m_describe defM b_describe
  simp [i3, each_cons, each_nil, turn, t3, tst_eq, in_code, in_vals, in_poll, h1, h2, h3, hf]
def p__law_refused_name : Mm := fun us g => match us with
  | [.str w] => if w ∉ rules ∧ w.length ≤ 1000 then .ok (.bl true) g else .bad
  | _ => .bad
theorem iso_describe {w : Str} {g : Gs} (h : w ∉ rules) (hl : w.length ≤ 1000) : p_describe [.str w] g = .exc 3 [("name", .str w)] g := by
  have h0 : clUs 0 [U.str w] = true := rfl
  unfold p_describe isoM
  rw [if_pos h0, describe_out h hl]
  rfl
theorem run_refused_name {w : Str} {g : Gs} (h : w ∉ rules) (hl : w.length ≤ 1000) : m__law_refused_name p_describe [.str w] g = .ok (.bl true) g := by
  have e := iso_describe (g := g) h hl
  generalize p_describe = pd at e ⊢
  unfold m__law_refused_name defM b__law_refused_name
  simp [tryE, e, catchE, pc__law_refused_name_0, exF, tst_eq, eq_str, goneS]
theorem ref_refused_name {κ : R.Ctx} : Refines κ p__law_refused_name (m__law_refused_name p_describe) := Refines.of_eq fun us g hb => by
  unfold p__law_refused_name at hb ⊢
  split at hb
  · rename_i w
    split at hb
    · rename_i h
      rw [run_refused_name h.1 h.2, if_pos h]
    · exact absurd rfl hb
  · exact absurd rfl hb
def isTrueRes : Res U → Bool
  | .ok (.bl true) _ => true
  | _ => false
abbrev m_sent : Mm := m__law_sentences p__law_refused_name p__law_rules p_describe
theorem sent_true : isTrueRes (m_sent [] []) = true := by decide +kernel
theorem isTrueRes_ok {r : Res U} (h : isTrueRes r = true) : ∃ J, r = .ok (.bl true) J := by
  unfold isTrueRes at h
  split at h
  · exact ⟨_, rfl⟩
  · cases h
def p__law_sentences : Mm := isoM m_sent
theorem run_sentences {g : Gs} : p__law_sentences [] g = .ok (.bl true) g := by
  obtain ⟨J, e⟩ := isTrueRes_ok sent_true
  have h0 : clUs 0 [] = true := rfl
  unfold p__law_sentences isoM
  rw [if_pos h0, e]
  rfl
end K88
set_option Elab.async false
set_option linter.all false
set_option maxRecDepth 100000
set_option maxHeartbeats 8000000
namespace K88
open R
open PySem PySem.Spec L2
open PyProof.Rows hiding St
theorem holds_run {g : Gs} {p n : Nat} {ns : List Str} (hp : polAt g p = some ns) (hn : lstAt g n = some (ss ns)) (hs : ns.Sublist rules) : p__law_holds [.ref p, .ref n] g = .ok (.bl true) g := by
  have e : (lstAt g n).bind strsOf = some ns := by rw [hn]; exact strsOf_ss ns
  unfold p__law_holds
  dsimp only
  rw [hp, e]
  dsimp only
  rw [if_pos ⟨rfl, hs⟩]
theorem intsOf_map : ∀ xs : List Int, intsOf (xs.map U.int) = some xs
  | [] => rfl
  | x :: xs => by
    show (intsOf (xs.map U.int)).map (x :: ·) = _
    rw [intsOf_map xs]
    rfl
theorem chosen_run {g : Gs} {r : Nat} {xs : List Int} {i : Nat} (h : lstAt g r = some (xs.map U.int)) : p__law_chosen [.ref r, .int i] g = .ok (.ref g.length) (g ++ [.lst (ss (chosenL xs i))]) := by
  have e : (lstAt g r).bind intsOf = some xs := by rw [h]; exact intsOf_map xs
  unfold p__law_chosen
  dsimp only
  rw [e]
  dsimp only
  rw [if_pos (by omega), Int.toNat_natCast]
def turnS (ns : List Str) (p : Nat) (b : Int) : List Str := if b = 1 then (ns.drop p ++ ns.take p).reverse else ns.drop p ++ ns.take p
theorem turn_ss (ns : List Str) (p : Nat) (b : Int) : turnU (ss ns) p b = ss (turnS ns p b) := by
  unfold turnU turnS
  split <;> simp [ss, List.map_drop, List.map_take]
theorem turn_perm (ns : List Str) (p : Nat) (b : Int) : (turnS ns p b).Perm ns := by
  have h : (ns.drop p ++ ns.take p).Perm ns := by
    have q : (ns.drop p ++ ns.take p).Perm (ns.take p ++ ns.drop p) := List.perm_append_comm
    rwa [List.take_append_drop] at q
  unfold turnS
  split
  · exact (List.reverse_perm _).trans h
  · exact h
theorem turned_run {g : Gs} {n : Nat} {ns : List Str} {p : Nat} {b : Int} (h : lstAt g n = some (ss ns)) (hp : p ≤ ns.length) (hl : ns.length ≤ 1000) : p__law_turned [.ref n, .int p, .int b] g = .ok (.ref g.length) (g ++ [.lst (ss (turnS ns p b))]) := by
  unfold p__law_turned
  dsimp only
  rw [h]
  dsimp only
  rw [if_pos (by rw [ss_length]; omega), Int.toNat_natCast, turn_ss]
theorem new_sub_run {g : Gs} {u : U} {hs ns : List Str} (hi : itemsU u (g ++ [.ins 7 []]) = some (ss hs)) (hp : hs.Perm ns) (hs2 : ns.Sublist rules) : newI 7 p_init [u] g = .ok (.ref g.length) (g ++ [pol ns]) := by
  have hl : ns.length ≤ 29 := hs2.length_le
  have e := run_new_sub hi (fun x hx => hs2.subset (hp.mem_iff.mp hx)) (hp.nodup_iff.mpr (hs2.nodup rules_nodup)) (by rw [hp.length_eq]; omega)
  rw [e, filter_mem_congr (ns := hs) (ms := ns) fun x => hp.mem_iff, sub_filter hs2 rules_nodup]
theorem pick_run {g : Gs} {r : Nat} {xs : List Int} {i : Int} {m : Nat} (h : lstAt g r = some (xs.map U.int)) (h0 : 0 ≤ i) : ∃ p : Nat, p ≤ m ∧ p__law_pick [.ref r, .int i, .int (m + 1)] g = .ok (.int p) g := by
  have q := pickI_ok (xs := xs) (i := i.toNat) (l := m + 1) (by omega)
  refine ⟨(pickI xs i.toNat (m + 1)).toNat, by omega, ?_⟩
  rw [p_pick_run h h0 (by omega)]
  have : ((pickI xs i.toNat (m + 1)).toNat : Int) = pickI xs i.toNat (m + 1) := by omega
  rw [this]
theorem polAt_set_ne {g : Gs} {n k : Nat} {c : Cell} (h : k ≠ n) : polAt (g.set k c) n = polAt g n := by
  unfold polAt
  rw [List.getElem?_set_ne h]
theorem items_pol {g : Gs} {n : Nat} {ns : List Str} (h : polAt g n = some ns) : itemsU (.ref n) g = some (ss ns) := by
  unfold itemsU
  rw [ownV_pol h]
theorem ne_lists {g : Gs} {a b : Nat} {hs : List Str} (h1 : lstAt g a = some (ss hs)) (h2 : lstAt g b = some (ss hs)) (ok : StrOk hs) : neO (.ref a) (.ref b) g = .ok (.bl false) g := by
  rw [ne_refs h1 h2 ok ok]
  simp
/-- what stands ready behind handed.append('quick') -/
structure At (G : Gs) (r a f b s k : Nat) (xs : List Int) (ns ms hs : List Str) : Prop where
  row : lstAt G r = some (xs.map U.int)
  pol : polAt G a = some ns
  names : lstAt G f = some (ss ns)
  oth : polAt G b = some ms
  others : lstAt G s = some (ss ms)
  kept : lstAt G k = some (ss hs)
theorem At.ext {G G2 : Gs} {r a f b s k : Nat} {xs : List Int} {ns ms hs : List Str} (h : At G r a f b s k xs ns ms hs) (x : Ext G G2) : At G2 r a f b s k xs ns ms hs :=
  ⟨x.lst h.row, x.pol h.pol, x.lst h.names, x.pol h.oth, x.lst h.others, x.lst h.kept⟩
abbrev mLaw : Mm := m_law p__law_wrong_names p__law_sentences p__law_numbers p_init p__law_holds (m_empty p_init) (m_full p_init) p_sub p_or p__law_rules p__law_pick p__law_turned p__law_chosen m__law_row
end K88
set_option Elab.async false
set_option linter.all false
set_option maxRecDepth 100000
set_option maxHeartbeats 20000000
namespace K88
open R
open PySem PySem.Spec L2
open PyProof.Rows hiding St
theorem seq_go {f k : Sx} {us us1 : Us} {g g1 : Gs} {r : SR} (h : f us g = .nx us1 g1) (h2 : k us1 g1 = r) : seq f k us g = r := by
  show (f us g).seq k = r
  rw [h]
  exact h2
theorem defM_rt {n k : Nat} {b : Sx} {us : List U} {us0 : Us} {g g1 : Gs} {u : U} (hn : us.length = n) (h0 : us.map some ++ List.replicate k none = us0) (h : b us0 g = .rt u g1) : defM n k b us g = .ok u g1 := by
  unfold defM
  rw [if_pos hn, h0, h]
theorem isL_at {g : Gs} {n : Nat} {us : List U} (h : lstAt g n = some us) : isL (.ref n) g = true := isL_ref h
theorem run_law (cs : List Int) : ∃ G, mLaw [.lit (cs.map U.int)] [] = .ok (.bl true) G := by
  obtain ⟨xs, q1⟩ := run_row (g := []) (cs := cs)
  obtain ⟨L, hL⟩ : ∃ L, U.lit (cs.map U.int) = L := ⟨_, rfl⟩
  rw [hL] at q1 ⊢
  obtain ⟨r, G1, e1, hr⟩ : ∃ r G1, m__law_row [L, .int 110] [] = .ok (.ref r) G1 ∧ lstAt G1 r = some (xs.map U.int) := ⟨_, _, q1, lstAt_new _ _⟩
  obtain ⟨ns, hns⟩ : ∃ ns, chosenL xs 0 = ns := ⟨_, rfl⟩
  obtain ⟨ms, hms⟩ : ∃ ms, chosenL xs 31 = ms := ⟨_, rfl⟩
  have sn : ns.Sublist rules := by rw [← hns]; exact chosen_sub _ _
  have sm : ms.Sublist rules := by rw [← hms]; exact chosen_sub _ _
  have nl : ns.length ≤ 29 := sn.length_le
  have ml : ms.length ≤ 29 := sm.length_le
  obtain ⟨f, G2, e2, hf, x2⟩ : ∃ f G2, p__law_chosen [.ref r, .int 0] G1 = .ok (.ref f) G2 ∧ lstAt G2 f = some (ss ns) ∧ Ext G1 G2 := ⟨_, _, by rw [← hns]; exact chosen_run (i := 0) hr, lstAt_new _ _, ⟨_, rfl⟩⟩
  obtain ⟨s, G3, e3, hs, x3⟩ : ∃ s G3, p__law_chosen [.ref r, .int 31] G2 = .ok (.ref s) G3 ∧ lstAt G3 s = some (ss ms) ∧ Ext G2 G3 := ⟨_, _, by rw [← hms]; exact chosen_run (i := 31) (x2.lst hr), lstAt_new _ _, ⟨_, rfl⟩⟩
  have hr3 := x3.lst (x2.lst hr)
  have hf3 := x3.lst hf
  have fl := len_ref hf3
  rw [ss_length] at fl
  obtain ⟨p, hp, e4⟩ := pick_run (i := 62) (m := ns.length) hr3 (by omega)
  obtain ⟨b, e5⟩ : ∃ b, p__law_pick [.ref r, .int 64, .int 2] G3 = .ok (.int b) G3 := ⟨_, p_pick_run hr3 (by omega) (by omega)⟩
  obtain ⟨hd, hhd⟩ : ∃ hd, turnS ns p b = hd := ⟨_, rfl⟩
  have hperm : hd.Perm ns := by rw [← hhd]; exact turn_perm _ _ _
  have hdl : hd.length = ns.length := hperm.length_eq
  obtain ⟨h, G4, e6, h4, x4, hh, len4⟩ : ∃ h G4, p__law_turned [.ref f, .int p, .int b] G3 = .ok (.ref h) G4 ∧ lstAt G4 h = some (ss hd) ∧ Ext G3 G4 ∧ h = G3.length ∧ G4.length = h + 1 := ⟨_, _, by rw [← hhd]; exact turned_run hf3 hp (by omega), lstAt_new _ _, ⟨_, rfl⟩, rfl, by rw [List.length_append]; rfl⟩
  obtain ⟨k, G5, e7, h5, x5, hk, len5⟩ : ∃ k G5, listM [.ref h] G4 = .ok (.ref k) G5 ∧ lstAt G5 k = some (ss hd) ∧ Ext G4 G5 ∧ k = h + 1 ∧ G5.length = k + 1 := by
    refine ⟨G4.length, G4 ++ [.lst (ss hd)], ?_, lstAt_new _ _, ⟨_, rfl⟩, len4, by rw [List.length_append]; rfl⟩
    have q : seqV (.ref h) G4 = some (ss hd) := h4
    unfold listM
    dsimp only
    rw [q]
    exact newL_ok (by rw [ss_length]; omega)
  obtain ⟨a, G6, e8, h6, x6, ha, len6⟩ : ∃ a G6, newI 7 p_init [.ref h] G5 = .ok (.ref a) G6 ∧ polAt G6 a = some ns ∧ Ext G5 G6 ∧ a = k + 1 ∧ G6.length = a + 1 := ⟨_, _, new_sub_run (items_ref (lstAt_app (x5.lst h4))) hperm sn, polAt_new _ _, ⟨_, rfl⟩, len5, by rw [List.length_append]; rfl⟩
  have y6 := x4.trans (x5.trans x6)
  have hr6 := y6.lst hr3
  have hs6 := y6.lst hs
  have sl := len_ref hs6
  rw [ss_length] at sl
  obtain ⟨p2, hp2, e9⟩ := pick_run (i := 66) (m := ms.length) hr6 (by omega)
  obtain ⟨od, hod⟩ : ∃ od, turnS ms p2 1 = od := ⟨_, rfl⟩
  have operm : od.Perm ms := by rw [← hod]; exact turn_perm _ _ _
  obtain ⟨t, G7, e10, h7, x7, len7⟩ : ∃ t G7, p__law_turned [.ref s, .int p2, .int 1] G6 = .ok (.ref t) G7 ∧ lstAt G7 t = some (ss od) ∧ Ext G6 G7 ∧ G7.length = G6.length + 1 := ⟨_, _, by rw [← hod]; exact turned_run hs6 hp2 (by omega), lstAt_new _ _, ⟨_, rfl⟩, by rw [List.length_append]; rfl⟩
  have e11 := tup_ref h7
  obtain ⟨o, G8, e12, h8, x8, ho⟩ : ∃ o G8, newI 7 p_init [.tup (ss od)] G7 = .ok (.ref o) G8 ∧ polAt G8 o = some ms ∧ Ext G7 G8 ∧ o = G7.length := ⟨_, _, new_sub_run (hs := od) rfl operm sm, polAt_new _ _, ⟨_, rfl⟩, rfl⟩
  have y8 := x7.trans x8
  have z8 := y6.trans y8
  have okd : StrOk hd := fun x hx => rules_ok x (sn.subset (hperm.mem_iff.mp hx))
  have h48 := (x5.trans (x6.trans y8)).lst h4
  have h58 := (x6.trans y8).lst h5
  have e13 := ne_lists h48 h58 okd
  have A8 : At G8 r a f o s k xs ns ms hd := ⟨z8.lst hr3, y8.pol h6, z8.lst hf3, h8, z8.lst hs, h58⟩
  have e14 := holds_run A8.pol A8.names sn
  have e15 := holds_run A8.oth A8.others sm
  obtain ⟨G9, e16, hG9⟩ : ∃ G9, appM (.ref h) [.str "quick"] G8 = .ok .non G9 ∧ G9 = G8.set h (.lst (ss hd ++ [.str "quick"])) := by
    refine ⟨_, ?_, rfl⟩
    unfold appM
    dsimp only
    rw [h48]
    dsimp only
    rw [if_pos (by rw [ss_length]; omega)]
  have lr := lstAt_lt hr3
  have lf := lstAt_lt hf3
  have ls := lstAt_lt hs
  have A9 : At G9 r a f o s k xs ns ms hd := by
    rw [hG9]
    refine ⟨?_, ?_, ?_, ?_, ?_, ?_⟩
    · rw [lstAt_set_ne (by omega)]; exact A8.row
    · rw [polAt_set_ne (by omega)]; exact A8.pol
    · rw [lstAt_set_ne (by omega)]; exact A8.names
    · rw [polAt_set_ne (by omega)]; exact A8.oth
    · rw [lstAt_set_ne (by omega)]; exact A8.others
    · rw [lstAt_set_ne (by omega)]; exact A8.kept
  have isl := isL_at h48
  -- rules, and both
  obtain ⟨k8, H1, f1, r1, w1⟩ := rules_x G9
  have B1 := A9.ext w1
  obtain ⟨k9, H2, f2, r2, w2⟩ := lc_x (i := 12) (j := 8) (us := [some L, some (.ref r), some (.ref f), some (.ref s), some (.ref h), some (.ref k), some (.ref a), some (.ref o), some (.ref k8), none, none, none, none]) (c := orT (tst (op2 (inO false) (var 12) (var 2))) (tst (op2 (inO false) (var 12) (var 3)))) (fun x => decide (x ∈ ns) || decide (x ∈ ms)) rfl r1 (by decide) (fun x _ => by
    simp [tst_eq, wipeU, in_ref B1.names, in_ref B1.others]
    by_cases q : x ∈ ns <;> simp [q]) fun _ => rfl
  have r2' : lstAt H2 k9 = some (ss (orL ns ms)) := r2
  have sor : (orL ns ms).Sublist rules := List.filter_sublist
  have oc : orL ms ns = orL ns ms := by
    unfold orL
    refine List.filter_congr fun x _ => Bool.or_comm _ _
  have B2 := B1.ext w2
  obtain ⟨n3, H3, f3, r3, w3⟩ := or_x B2.pol B2.oth
  have B3 := B2.ext w3
  have g3 := holds_run r3 (w3.lst r2') sor
  obtain ⟨n4, H4, f4, r4, w4⟩ := or_x B3.oth B3.pol
  rw [oc] at r4
  have B4 := B3.ext w4
  have g4 := holds_run r4 (w4.lst (w3.lst r2')) sor
  -- first
  obtain ⟨k10, H5, f5, r5, w5⟩ := lc_x (i := 12) (j := 2) (us := [some L, some (.ref r), some (.ref f), some (.ref s), some (.ref h), some (.ref k), some (.ref a), some (.ref o), some (.ref k8), some (.ref k9), none, none, none]) (c := tst (op2 (inO true) (var 12) (var 3))) (fun x => decide (x ∉ ms)) rfl B4.names (by omega) (fun x _ => by
    simp [tst_eq, wipeU, in_ref B4.others]) fun _ => rfl
  have r5' : lstAt H5 k10 = some (ss (subL ns ms)) := r5
  have sfi : (subL ns ms).Sublist rules := (List.filter_sublist).trans sn
  have B5 := B4.ext w5
  obtain ⟨n6, H6, f6, r6, w6⟩ := sub_x B5.pol B5.oth sn
  have B6 := B5.ext w6
  have g6 := holds_run r6 (w6.lst r5') sfi
  obtain ⟨n7, H7, f7, r7, w7⟩ : ∃ n7 H7, newI 7 p_init [.ref a] H6 = .ok (.ref n7) H7 ∧ polAt H7 n7 = some ns ∧ Ext H6 H7 := ⟨_, _, new_sub_run (hs := ns) (items_pol (polAt_app B6.pol)) (List.Perm.refl _) sn, polAt_new _ _, ⟨_, rfl⟩⟩
  have B7 := B6.ext w7
  have g7 := holds_run r7 B7.names sn
  -- second
  obtain ⟨k11, H8, f8, r8, w8⟩ := lc_x (i := 12) (j := 3) (us := [some L, some (.ref r), some (.ref f), some (.ref s), some (.ref h), some (.ref k), some (.ref a), some (.ref o), some (.ref k8), some (.ref k9), some (.ref k10), none, none]) (c := tst (op2 (inO true) (var 12) (var 2))) (fun x => decide (x ∉ ns)) rfl B7.others (by omega) (fun x _ => by
    simp [tst_eq, wipeU, in_ref B7.names]) fun _ => rfl
  have r8' : lstAt H8 k11 = some (ss (subL ms ns)) := r8
  have sse : (subL ms ns).Sublist rules := (List.filter_sublist).trans sm
  have B8 := B7.ext w8
  obtain ⟨n9, H9, f9, r9, w9⟩ := sub_x B8.oth B8.pol sm
  have B9 := B8.ext w9
  have g9 := holds_run r9 (w9.lst r8') sse
  have g9a := holds_run B9.pol B9.names sn
  have g9b := holds_run B9.oth B9.others sm
  -- RULES
  have k89 := (w2.trans (w3.trans (w4.trans (w5.trans (w6.trans (w7.trans (w8.trans w9))))))).lst r1
  obtain ⟨n10, H10, f10, r10, w10⟩ : ∃ n10 H10, listM [u_RULES] H9 = .ok (.ref n10) H10 ∧ lstAt H10 n10 = some (ss rules) ∧ Ext H9 H10 := ⟨_, _, newL_ok (xs := ss rules) (by decide), lstAt_new _ _, ⟨_, rfl⟩⟩
  have k810 := w10.lst k89
  have g10 := ne_lists r10 k810 rules_ok
  have B10 := B9.ext w10
  -- full, empty, none
  obtain ⟨n11, H11, f11, r11, w11⟩ : ∃ n11 H11, m_full p_init [] H10 = .ok (.ref n11) H11 ∧ polAt H11 n11 = some rules ∧ Ext H10 H11 := ⟨_, _, run_full, polAt_new _ _, ⟨_, rfl⟩⟩
  have g11 := holds_run r11 (w11.lst k810) (List.Sublist.refl _)
  have B11 := B10.ext w11
  obtain ⟨n12, H12, f12, r12, w12⟩ : ∃ n12 H12, m_empty p_init [] H11 = .ok (.ref n12) H12 ∧ polAt H12 n12 = some [] ∧ Ext H11 H12 := ⟨_, _, run_empty, polAt_new _ _, ⟨_, rfl⟩⟩
  have B12 := B11.ext w12
  obtain ⟨n13, H13, f13, r13, w13⟩ := new_x (us := []) H12 (by simp)
  have g13 := holds_run (ns := []) (w13.pol r12) r13 (List.nil_sublist _)
  have B13 := B12.ext w13
  obtain ⟨n14, H14, f14, r14, w14⟩ : ∃ n14 H14, newI 7 p_init [.wtu []] H13 = .ok (.ref n14) H14 ∧ polAt H14 n14 = some [] ∧ Ext H13 H14 := ⟨_, _, new_sub_run (hs := []) (ns := []) rfl (List.Perm.refl _) (List.nil_sublist _), polAt_new _ _, ⟨_, rfl⟩⟩
  have B14 := B13.ext w14
  obtain ⟨n15, H15, f15, r15, w15⟩ := new_x (us := []) H14 (by simp)
  have g15 := holds_run (ns := []) (w15.pol r14) r15 (List.nil_sublist _)
  have B15 := B14.ext w15
  -- the rest
  have g16 : p__law_numbers [.ref r, .ref a, .ref f, .ref o, .ref s] H15 = .ok (.bl true) H15 := by
    have q1 : (lstAt H15 r).bind intsOf = some xs := by rw [B15.row]; exact intsOf_map xs
    have q2 : (lstAt H15 f).bind strsOf = some ns := by rw [B15.names]; exact strsOf_ss ns
    have q3 : (lstAt H15 s).bind strsOf = some ms := by rw [B15.others]; exact strsOf_ss ms
    unfold p__law_numbers
    dsimp only
    rw [q1, q2, q3, B15.pol, B15.oth]
    dsimp only
    rw [if_pos ⟨⟨rfl, rfl⟩, sn, sm⟩]
  have g17 : p__law_sentences [] H15 = .ok (.bl true) H15 := run_sentences
  have g18 : p__law_wrong_names [.ref r, .ref k] H15 = .ok (.bl true) H15 := by
    have q1 : (lstAt H15 r).bind intsOf = some xs := by rw [B15.row]; exact intsOf_map xs
    have q2 : (lstAt H15 k).bind strsOf = some hd := by rw [B15.kept]; exact strsOf_ss hd
    unfold p__law_wrong_names
    dsimp only
    rw [q1, q2]
    dsimp only
    rw [if_pos ⟨fun x hx => sn.subset (hperm.mem_iff.mp hx), hperm.nodup_iff.mpr (sn.nodup rules_nodup), by omega⟩]
  have ty : ∀ g : Gs, tyU u_RULES g = some "tuple" := fun g => rfl
  refine ⟨H15, ?_⟩
  unfold mLaw m_law
  generalize p__law_sentences = PS at g17 ⊢
  refine defM_rt (us0 := [some L, none, none, none, none, none, none, none, none, none, none, none, none]) rfl rfl ?_
  unfold b_law
  refine seq_go (us1 := [some L, some (.ref r), none, none, none, none, none, none, none, none, none, none, none]) (g1 := G1) (by as_aux_lemma => simp [e1]) ?_
  refine seq_go (us1 := [some L, some (.ref r), some (.ref f), none, none, none, none, none, none, none, none, none, none]) (g1 := G2) (by as_aux_lemma => simp [e2]) ?_
  refine seq_go (us1 := [some L, some (.ref r), some (.ref f), some (.ref s), none, none, none, none, none, none, none, none, none]) (g1 := G3) (by as_aux_lemma => simp [e3]) ?_
  refine seq_go (us1 := [some L, some (.ref r), some (.ref f), some (.ref s), some (.ref h), none, none, none, none, none, none, none, none]) (g1 := G4) (by as_aux_lemma => simp [fl, add_int, e4, e5, e6]) ?_
  refine seq_go (us1 := [some L, some (.ref r), some (.ref f), some (.ref s), some (.ref h), some (.ref k), none, none, none, none, none, none, none]) (g1 := G5) (by as_aux_lemma => simp [e7]) ?_
  refine seq_go (us1 := [some L, some (.ref r), some (.ref f), some (.ref s), some (.ref h), some (.ref k), some (.ref a), none, none, none, none, none, none]) (g1 := G6) (by as_aux_lemma => simp [e8]) ?_
  refine seq_go (us1 := [some L, some (.ref r), some (.ref f), some (.ref s), some (.ref h), some (.ref k), some (.ref a), some (.ref o), none, none, none, none, none]) (g1 := G8) (by as_aux_lemma => simp [sl, add_int, e9, e10, e11, e12]) ?_
  refine seq_go (us1 := [some L, some (.ref r), some (.ref f), some (.ref s), some (.ref h), some (.ref k), some (.ref a), some (.ref o), none, none, none, none, none]) (g1 := G8) (by as_aux_lemma => simp [tst_eq, e13, e14, e15]) ?_
  refine seq_go (us1 := [some L, some (.ref r), some (.ref f), some (.ref s), some (.ref h), some (.ref k), some (.ref a), some (.ref o), none, none, none, none, none]) (g1 := G9) (by as_aux_lemma => simp [isl, e16]) ?_
  refine seq_go (us1 := [some L, some (.ref r), some (.ref f), some (.ref s), some (.ref h), some (.ref k), some (.ref a), some (.ref o), some (.ref k8), none, none, none, none]) (g1 := H1) (by as_aux_lemma => simp [f1]) ?_
  refine seq_go (us1 := [some L, some (.ref r), some (.ref f), some (.ref s), some (.ref h), some (.ref k), some (.ref a), some (.ref o), some (.ref k8), some (.ref k9), none, none, none]) (g1 := H2) (by as_aux_lemma => simp [-lcE_ev, f2]) ?_
  refine seq_go (us1 := [some L, some (.ref r), some (.ref f), some (.ref s), some (.ref h), some (.ref k), some (.ref a), some (.ref o), some (.ref k8), some (.ref k9), none, none, none]) (g1 := H4) (by as_aux_lemma => simp [tst_eq, f3, g3, f4, g4]) ?_
  refine seq_go (us1 := [some L, some (.ref r), some (.ref f), some (.ref s), some (.ref h), some (.ref k), some (.ref a), some (.ref o), some (.ref k8), some (.ref k9), some (.ref k10), none, none]) (g1 := H5) (by as_aux_lemma => simp [-lcE_ev, f5]) ?_
  refine seq_go (us1 := [some L, some (.ref r), some (.ref f), some (.ref s), some (.ref h), some (.ref k), some (.ref a), some (.ref o), some (.ref k8), some (.ref k9), some (.ref k10), none, none]) (g1 := H7) (by as_aux_lemma => simp [tst_eq, f6, g6, f7, g7]) ?_
  refine seq_go (us1 := [some L, some (.ref r), some (.ref f), some (.ref s), some (.ref h), some (.ref k), some (.ref a), some (.ref o), some (.ref k8), some (.ref k9), some (.ref k10), some (.ref k11), none]) (g1 := H8) (by as_aux_lemma => simp [-lcE_ev, f8]) ?_
  refine seq_go (us1 := [some L, some (.ref r), some (.ref f), some (.ref s), some (.ref h), some (.ref k), some (.ref a), some (.ref o), some (.ref k8), some (.ref k9), some (.ref k10), some (.ref k11), none]) (g1 := H9) (by as_aux_lemma => simp [tst_eq, f9, g9, g9a, g9b]) ?_
  refine seq_go (us1 := [some L, some (.ref r), some (.ref f), some (.ref s), some (.ref h), some (.ref k), some (.ref a), some (.ref o), some (.ref k8), some (.ref k9), some (.ref k10), some (.ref k11), none]) (g1 := H10) (by as_aux_lemma => simp [tst_eq, ty, subTy, f10, g10]) ?_
  refine seq_go (us1 := [some L, some (.ref r), some (.ref f), some (.ref s), some (.ref h), some (.ref k), some (.ref a), some (.ref o), some (.ref k8), some (.ref k9), some (.ref k10), some (.ref k11), none]) (g1 := H15) (by as_aux_lemma => simp [tst_eq, f11, g11, f12, f13, g13, f14, f15, g15]) ?_
  refine seq_go (us1 := [some L, some (.ref r), some (.ref f), some (.ref s), some (.ref h), some (.ref k), some (.ref a), some (.ref o), some (.ref k8), some (.ref k9), some (.ref k10), some (.ref k11), none]) (g1 := H15) (by as_aux_lemma => simp [tst_eq, g16, g17]) ?_
  simp [g18]
end K88
set_option Elab.async false
set_option linter.all false
set_option maxRecDepth 100000
set_option maxHeartbeats 4000000
namespace K88
open R
open PySem PySem.Spec L2
open PyProof.Rows hiding St
open PySem.W (Frag)
def d_describe : DefR := { at_ := fun K => He.ga K "describe", name := "describe", qual := "describe", st := top 17 }
def d_policy_number : DefR := { at_ := fun K => He.ga K "policy_number", name := "policy_number", qual := "policy_number", st := top 18 }
def d_policy_numbered : DefR := { at_ := fun K => He.ga K "policy_numbered", name := "policy_numbered", qual := "policy_numbered", st := top 19 }
def d__law_row : DefR := { at_ := fun K => He.ga K "_law_row", name := "_law_row", qual := "_law_row", st := top 21 }
def d__law_pick : DefR := { at_ := fun K => He.ga K "_law_pick", name := "_law_pick", qual := "_law_pick", st := top 22 }
def d__law_rules : DefR := { at_ := fun K => He.ga K "_law_rules", name := "_law_rules", qual := "_law_rules", st := top 23 }
def d__law_chosen : DefR := { at_ := fun K => He.ga K "_law_chosen", name := "_law_chosen", qual := "_law_chosen", st := top 24 }
def d__law_turned : DefR := { at_ := fun K => He.ga K "_law_turned", name := "_law_turned", qual := "_law_turned", st := top 25 }
def d__law_holds : DefR := { at_ := fun K => He.ga K "_law_holds", name := "_law_holds", qual := "_law_holds", st := top 26 }
def d__law_refused : DefR := { at_ := fun K => He.ga K "_law_refused", name := "_law_refused", qual := "_law_refused", st := top 27 }
def d__law_wrong_names : DefR := { at_ := fun K => He.ga K "_law_wrong_names", name := "_law_wrong_names", qual := "_law_wrong_names", st := top 28 }
def d__law_digit : DefR := { at_ := fun K => He.ga K "_law_digit", name := "_law_digit", qual := "_law_digit", st := top 29 }
def d__law_whole : DefR := { at_ := fun K => He.ga K "_law_whole", name := "_law_whole", qual := "_law_whole", st := top 30 }
def d__law_equal : DefR := { at_ := fun K => He.ga K "_law_equal", name := "_law_equal", qual := "_law_equal", st := top 31 }
def d__law_number : DefR := { at_ := fun K => He.ga K "_law_number", name := "_law_number", qual := "_law_number", st := top 32 }
def d__law_numbered : DefR := { at_ := fun K => He.ga K "_law_numbered", name := "_law_numbered", qual := "_law_numbered", st := top 33 }
def d__law_both : DefR := { at_ := fun K => He.ga K "_law_both", name := "_law_both", qual := "_law_both", st := top 34 }
def d__law_refused_number : DefR := { at_ := fun K => He.ga K "_law_refused_number", name := "_law_refused_number", qual := "_law_refused_number", st := top 35 }
def d__law_refused_name : DefR := { at_ := fun K => He.ga K "_law_refused_name", name := "_law_refused_name", qual := "_law_refused_name", st := top 36 }
def d__law_sentences : DefR := { at_ := fun K => He.ga K "_law_sentences", name := "_law_sentences", qual := "_law_sentences", st := top 37 }
def d__law_numbers : DefR := { at_ := fun K => He.ga K "_law_numbers", name := "_law_numbers", qual := "_law_numbers", st := top 38 }
def d_law : DefR := { at_ := fun K => He.ga K "law", name := "law", qual := "law", st := top 39 }
def d___init__ : DefR := { at_ := fun K => He.ma K (He.ga K "Policy") "__init__", name := "__init__", qual := "Policy.__init__", st := clsAt 11 0, dfl := [.adr (He.dflAt ("Policy", some "__init__") 0)] }
def d_empty : DefR := { at_ := staAt "Policy" "empty", name := "empty", qual := "Policy.empty", st := clsAt 11 1 }
def d_full : DefR := { at_ := staAt "Policy" "full", name := "full", qual := "Policy.full", st := clsAt 11 2 }
def d_has : DefR := { at_ := fun K => He.ma K (He.ga K "Policy") "has", name := "has", qual := "Policy.has", st := clsAt 11 3 }
def d___contains__ : DefR := { at_ := fun K => He.ma K (He.ga K "Policy") "__contains__", name := "__contains__", qual := "Policy.__contains__", st := clsAt 11 4 }
def d___iter__ : DefR := { at_ := fun K => He.ma K (He.ga K "Policy") "__iter__", name := "__iter__", qual := "Policy.__iter__", st := clsAt 11 5 }
def d___or__ : DefR := { at_ := fun K => He.ma K (He.ga K "Policy") "__or__", name := "__or__", qual := "Policy.__or__", st := clsAt 11 6 }
def d___sub__ : DefR := { at_ := fun K => He.ma K (He.ga K "Policy") "__sub__", name := "__sub__", qual := "Policy.__sub__", st := clsAt 11 7 }
def d_PolicyError : DefR := { at_ := fun K => He.ma K (He.ga K "PolicyError") "__init__", name := "__init__", qual := "PolicyError.__init__", st := clsAt 5 0, clo := [("__class__" : Str)] }
def d_SettingError : DefR := { at_ := fun K => He.ma K (He.ga K "SettingError") "__init__", name := "__init__", qual := "SettingError.__init__", st := clsAt 7 0, clo := [("__class__" : Str)] }
def fn : List DefR := [d_describe, d_policy_number, d_policy_numbered, d__law_row, d__law_pick, d__law_rules, d__law_chosen, d__law_turned, d__law_holds, d__law_refused, d__law_wrong_names, d__law_digit, d__law_whole, d__law_equal, d__law_number, d__law_numbered, d__law_both, d__law_refused_number, d__law_refused_name, d__law_sentences, d__law_numbers, d_law, d___init__, d_empty, d_full, d_has, d___contains__, d___iter__, d___or__, d___sub__, d_PolicyError, d_SettingError]
def fa : List (Frag → Bool) := [fFa (.free "abs"),
  fFa (.free "int"),
  fFa (.free "len"),
  fFa (.free "range"),
  fFa (.free "isinstance"),
  fFa (.free "list"),
  fFa (.free "tuple"),
  fFa (.free "reversed"),
  fFa (.free "str"),
  fFa (.free "bool"),
  fFa (.free "dict"),
  fFa (.free "iter"),
  fFa (.free "super"),
  fFa (.free "ValueError"),
  fVal "RULES" u_RULES,
  fVal "CODE_RULES" u_CODE_RULES,
  fVal "VALUE_RULES" u_VALUE_RULES,
  fVal "POLL_RULES" u_POLL_RULES,
  fVal "MOST_NUMBER" u_MOST_NUMBER,
  fFa (.glo "TextError"),
  fFa (.glo "InstructionError"),
  fFa (.glo "GuestError"),
  fFa (.glo "PolicyError"),
  fFa (.glo "ActionError"),
  fFa (.glo "SettingError"),
  fFa (.glo "DebuggerError"),
  fFa (.glo "Policy"),
  fFa (.glo "GuestlivesError"),
  fFa (.cls "Policy"),
  fFa (.noat "Policy" "names"),
  fun K => excDB K (He.ga K "PolicyError"),
  fun K => xfB K (He.ga K "PolicyError"),
  fFa (.noat "PolicyError" "name"),
  fun K => decide (PySem.W.kitAny K (.ref (He.ga K "PolicyError")) [.ref (He.ga K "TextError"), .ref (He.ga K "InstructionError"), .ref (He.ga K "GuestError"), .ref (He.ga K "ActionError"), .ref (He.ga K "SettingError"), .ref (He.ga K "DebuggerError")] = some false),
  fun K => decide (PySem.W.kitOne K (.ref (He.ga K "PolicyError")) (.type "ValueError") = some true),
  fun K => decide (PySem.W.kitOne K (.ref (He.ga K "PolicyError")) (.ref (He.ga K "GuestlivesError")) = some true),
  fun K => (List.range 7).all fun c => decide (PySem.W.exmOne K (.ref (He.ga K (cn c))) (.ref (He.ga K "PolicyError")) = some (c == 3)),
  excB Pr.main.file "PolicyError" ["name"],
  fun K => excDB K (He.ga K "SettingError"),
  fun K => xfB K (He.ga K "SettingError"),
  fFa (.noat "SettingError" "name"),
  fun K => decide (PySem.W.kitAny K (.ref (He.ga K "SettingError")) [.ref (He.ga K "TextError"), .ref (He.ga K "InstructionError"), .ref (He.ga K "GuestError"), .ref (He.ga K "PolicyError"), .ref (He.ga K "ActionError"), .ref (He.ga K "DebuggerError")] = some false),
  fun K => decide (PySem.W.kitOne K (.ref (He.ga K "SettingError")) (.type "ValueError") = some true),
  fun K => decide (PySem.W.kitOne K (.ref (He.ga K "SettingError")) (.ref (He.ga K "GuestlivesError")) = some true),
  fun K => (List.range 7).all fun c => decide (PySem.W.exmOne K (.ref (He.ga K (cn c))) (.ref (He.ga K "SettingError")) = some (c == 5)),
  excB Pr.main.file "SettingError" ["name"],
  fFa (.glo "describe"),
  fFa (.glo "policy_number"),
  fFa (.glo "policy_numbered"),
  fFa (.glo "_law_row"),
  fFa (.glo "_law_pick"),
  fFa (.glo "_law_rules"),
  fFa (.glo "_law_chosen"),
  fFa (.glo "_law_turned"),
  fFa (.glo "_law_holds"),
  fFa (.glo "_law_refused"),
  fFa (.glo "_law_wrong_names"),
  fFa (.glo "_law_digit"),
  fFa (.glo "_law_whole"),
  fFa (.glo "_law_equal"),
  fFa (.glo "_law_number"),
  fFa (.glo "_law_numbered"),
  fFa (.glo "_law_both"),
  fFa (.glo "_law_refused_number"),
  fFa (.glo "_law_refused_name"),
  fFa (.glo "_law_sentences"),
  fFa (.glo "_law_numbers"),
  fFa (.glo "law"),
  fFa (.meth "Policy" "has"),
  fFa (.mkr "Policy"),
  ownB "Policy" "__contains__",
  ownB "Policy" "__or__",
  ownB "Policy" "__sub__",
  staB "Policy" "empty",
  staB "Policy" "full",
  itrB "Policy",
  fun K => uB K (.wtu []) (.ref (He.dflAt ("Policy", some "__init__") 0 K))]
theorem txt {w : World} {K : Frag} {h : Heap} {mg : Str → Option Value} (X : K.In h) (G : h.Ns mainGlobals mg) (c : SaysR fa fn K) : Txt Pr w K mg where
  n_abs := He.free_ok X G (c.fact 0 rfl)
  n_int := He.free_ok X G (c.fact 1 rfl)
  n_len := He.free_ok X G (c.fact 2 rfl)
  n_range := He.free_ok X G (c.fact 3 rfl)
  n_isinstance := He.free_ok X G (c.fact 4 rfl)
  n_list := He.free_ok X G (c.fact 5 rfl)
  n_tuple := He.free_ok X G (c.fact 6 rfl)
  n_reversed := He.free_ok X G (c.fact 7 rfl)
  n_str := He.free_ok X G (c.fact 8 rfl)
  n_bool := He.free_ok X G (c.fact 9 rfl)
  n_dict := He.free_ok X G (c.fact 10 rfl)
  n_iter := He.free_ok X G (c.fact 11 rfl)
  n_super := He.free_ok X G (c.fact 12 rfl)
  n_ValueError := He.free_ok X G (c.fact 13 rfl)
  v_RULES := fVal_ok X G (c.fact 14 rfl)
  v_CODE_RULES := fVal_ok X G (c.fact 15 rfl)
  v_VALUE_RULES := fVal_ok X G (c.fact 16 rfl)
  v_POLL_RULES := fVal_ok X G (c.fact 17 rfl)
  v_MOST_NUMBER := fVal_ok X G (c.fact 18 rfl)
  g_TextError := He.glo_ok X G (c.fact 19 rfl)
  g_InstructionError := He.glo_ok X G (c.fact 20 rfl)
  g_GuestError := He.glo_ok X G (c.fact 21 rfl)
  g_PolicyError := He.glo_ok X G (c.fact 22 rfl)
  g_ActionError := He.glo_ok X G (c.fact 23 rfl)
  g_SettingError := He.glo_ok X G (c.fact 24 rfl)
  g_DebuggerError := He.glo_ok X G (c.fact 25 rfl)
  g_Policy := He.glo_ok X G (c.fact 26 rfl)
  g_GuestlivesError := He.glo_ok X G (c.fact 27 rfl)
  cls7 := He.cls_ok (c.fact 28 rfl)
  na_names := He.noat_ok (c.fact 29 rfl)
  ed_PolicyError := excDB_ok (c.fact 30 rfl)
  xf_PolicyError := xfB_ok (c.fact 31 rfl)
  no_PolicyError := He.noat_ok (c.fact 32 rfl)
  k_PolicyError_T_I_G_A_S_D := of_decide_eq_true (c.fact 33 rfl)
  k_PolicyError_ValueError := of_decide_eq_true (c.fact 34 rfl)
  k_PolicyError_GuestlivesError := of_decide_eq_true (c.fact 35 rfl)
  em_PolicyError := fun k hk => of_decide_eq_true (List.all_eq_true.mp (c.fact 36 rfl) k (List.mem_range.mpr hk))
  x_PolicyError := by
      obtain ⟨fd, h1, h2, h3, _⟩ := excB_ok (P := Pr) X G (c.fact 37 rfl) (d := d_PolicyError) rfl rfl rfl rfl (He.free_ok X G (c.fact 12 rfl)) (c.get 30 rfl)
      exact ⟨fd, h1, h2, h3⟩
  ed_SettingError := excDB_ok (c.fact 38 rfl)
  xf_SettingError := xfB_ok (c.fact 39 rfl)
  no_SettingError := He.noat_ok (c.fact 40 rfl)
  k_SettingError_T_I_G_P_A_D := of_decide_eq_true (c.fact 41 rfl)
  k_SettingError_ValueError := of_decide_eq_true (c.fact 42 rfl)
  k_SettingError_GuestlivesError := of_decide_eq_true (c.fact 43 rfl)
  em_SettingError := fun k hk => of_decide_eq_true (List.all_eq_true.mp (c.fact 44 rfl) k (List.mem_range.mpr hk))
  x_SettingError := by
      obtain ⟨fd, h1, h2, h3, _⟩ := excB_ok (P := Pr) X G (c.fact 45 rfl) (d := d_SettingError) rfl rfl rfl rfl (He.free_ok X G (c.fact 12 rfl)) (c.get 31 rfl)
      exact ⟨fd, h1, h2, h3⟩
  htop := by kernel_rfl

theorem FunD.toFun {K : Frag} {x qual : Str} {st : Stmt} {f : Addr} {fd : FuncData} (F : FunD K x qual (defArgs st) (defBody st) (defScope st) [] [] f fd) : Fun K x qual st f fd := by
  obtain ⟨oc, od, dV, kV, doc, pm, an, cdv, ct, osl, e, lk, hc, hD, _⟩ := F.ex
  rcases hD with ⟨_, rfl⟩ | ⟨q, _⟩
  · exact ⟨⟨oc, od, kV, doc, pm, an, cdv, ct, osl, e, lk, hc⟩, F.kp⟩
  · exact absurd rfl q
theorem bAll {K : Frag} {x qual : Str} {params : Arguments} {body : List Stmt} {scope : Scope} {dvs : List V} {kws : List (Str × V)} {f : Addr} {fd : FuncData} {ps : List Str} (F : FunD K x qual params body scope dvs kws f fd)
    (h : ∀ (dV kV doc pm : Value) (an : Option Addr) (cdv ct : Value) (us : List Value), us.length = ps.length → bindArgs (PySem.W.fnOf x qual params body scope dV kV doc pm an cdv ct) ⟨us, []⟩ = pure (ps.zip us)) : Binds K fd ps [] := by
  obtain ⟨oc, od, dV, kV, doc, pm, an, cdv, ct, osl, rfl, lk, hcd, hD, hK⟩ := F.ex
  exact .all (h dV kV doc pm an cdv ct)
theorem sc_iter : FnScope ["self"] ["self"] (defScope (clsAt 11 5)) := ⟨rfl, rfl, rfl, by decide +kernel, rfl, by decide +kernel, by decide +kernel⟩
theorem rdf {K : Frag} {θ : List Addr} {H : Hp} {u : U} {w : V} {a : Addr} (h : RelU K θ H u w) (r : RelV w (.ref a)) : RelU K θ H u (.ref a) := by
  cases w with
  | ref b => cases r; exact h
  | _ => first | (cases r; done) | (obtain ⟨_, r⟩ := r; cases r; done)

set_option maxHeartbeats 20000000 in
theorem law_ok {w : World} {K : Frag} {h : Heap} {mg : Str → Option Value} (X : K.In h) (G : h.Ns mainGlobals mg) (c : SaysR fa fn K) :
    ∃ fd, FunD K "law" "law" (defArgs s_law) (defBody s_law) (defScope s_law) [] [] (He.ga K "law") fd ∧ ∀ base : Heap, FnOk Pr w K mg base (L2.CX Pr w) 8 (He.ga K "law") fd ["script"] (spR (κ K) mLaw) := by
  have T : Txt Pr w K mg := txt X G c
  obtain ⟨fd_init, F_init⟩ := c.def_ 22 (d := d___init__) rfl rfl
  obtain ⟨fd_has, F_has⟩ := c.def_ 25 (d := d_has) rfl rfl
  obtain ⟨fd_contains, F_contains⟩ := c.def_ 26 (d := d___contains__) rfl rfl
  obtain ⟨fd_or, F_or⟩ := c.def_ 28 (d := d___or__) rfl rfl
  obtain ⟨fd_sub, F_sub⟩ := c.def_ 29 (d := d___sub__) rfl rfl
  obtain ⟨fd_empty, F_empty⟩ := c.def_ 23 (d := d_empty) rfl rfl
  obtain ⟨fd_full, F_full⟩ := c.def_ 24 (d := d_full) rfl rfl
  obtain ⟨fd_describe, F_describe⟩ := c.def_ 0 (d := d_describe) rfl rfl
  obtain ⟨fd_policy_number, F_policy_number⟩ := c.def_ 1 (d := d_policy_number) rfl rfl
  obtain ⟨fd_policy_numbered, F_policy_numbered⟩ := c.def_ 2 (d := d_policy_numbered) rfl rfl
  obtain ⟨fd__law_row, F__law_row⟩ := c.def_ 3 (d := d__law_row) rfl rfl
  obtain ⟨fd__law_pick, F__law_pick⟩ := c.def_ 4 (d := d__law_pick) rfl rfl
  obtain ⟨fd__law_rules, F__law_rules⟩ := c.def_ 5 (d := d__law_rules) rfl rfl
  obtain ⟨fd__law_chosen, F__law_chosen⟩ := c.def_ 6 (d := d__law_chosen) rfl rfl
  obtain ⟨fd__law_turned, F__law_turned⟩ := c.def_ 7 (d := d__law_turned) rfl rfl
  obtain ⟨fd__law_holds, F__law_holds⟩ := c.def_ 8 (d := d__law_holds) rfl rfl
  obtain ⟨fd__law_refused, F__law_refused⟩ := c.def_ 9 (d := d__law_refused) rfl rfl
  obtain ⟨fd__law_wrong_names, F__law_wrong_names⟩ := c.def_ 10 (d := d__law_wrong_names) rfl rfl
  obtain ⟨fd__law_digit, F__law_digit⟩ := c.def_ 11 (d := d__law_digit) rfl rfl
  obtain ⟨fd__law_whole, F__law_whole⟩ := c.def_ 12 (d := d__law_whole) rfl rfl
  obtain ⟨fd__law_equal, F__law_equal⟩ := c.def_ 13 (d := d__law_equal) rfl rfl
  obtain ⟨fd__law_number, F__law_number⟩ := c.def_ 14 (d := d__law_number) rfl rfl
  obtain ⟨fd__law_numbered, F__law_numbered⟩ := c.def_ 15 (d := d__law_numbered) rfl rfl
  obtain ⟨fd__law_both, F__law_both⟩ := c.def_ 16 (d := d__law_both) rfl rfl
  obtain ⟨fd__law_refused_number, F__law_refused_number⟩ := c.def_ 17 (d := d__law_refused_number) rfl rfl
  obtain ⟨fd__law_refused_name, F__law_refused_name⟩ := c.def_ 18 (d := d__law_refused_name) rfl rfl
  obtain ⟨fd__law_sentences, F__law_sentences⟩ := c.def_ 19 (d := d__law_sentences) rfl rfl
  obtain ⟨fd__law_numbers, F__law_numbers⟩ := c.def_ 20 (d := d__law_numbers) rfl rfl
  obtain ⟨fd_law, F_law⟩ := c.def_ 21 (d := d_law) rfl rfl
  refine ⟨fd_law, F_law, fun base => ?_⟩
  have c_itr : ItrR Pr w K mg base 1 7 "names" (κ K) := by
    obtain ⟨fi, Fi⟩ := c.def_ 27 (d := d___iter__) rfl rfl
    obtain ⟨i1, i2, i3, i4⟩ := itrB_ok (c.fact 75 rfl)
    have bi := FunD.bindsN (ps := ["self"]) Fi fun _ _ _ _ _ _ us hl => match us, hl with | [_], _ => rfl
    exact ⟨_, i1, i2, i3, i4, itr_run (N := []) (FunD.toFun Fi) sc_iter T.cls7 T.na_names bi rfl T.n_iter (fun _ _ _ _ _ _ => rfl) (Or.inl rfl)⟩
  obtain ⟨ds1, v1, b1⟩ := FunD.binds1 (ps := ["self", "names"]) F_init 2 1 (by simp [DefR.dvs, d___init__]) rfl fun T kV doc pm an cdv ct us its hl hi => match us, its, hl, hi with | [_, _], [_], _, _ => ⟨_, rfl, rfl⟩
  have e1 : ds1 = [] := by cases v1; rfl
  have b_init : Binds K fd_init ["self", "names"] [] := e1 ▸ b1
  obtain ⟨dw0, rw0, ru0⟩ := uB_ok (c.fact 76 rfl)
  obtain ⟨ds0, v0, b0⟩ := FunD.binds1 (ps := ["self", "names"]) F_init 1 0 (by simp [DefR.dvs, d___init__]) rfl fun T kV doc pm an cdv ct us its hl hi => match us, its, hl, hi with | [_], [_], _, _ => ⟨_, rfl, rfl⟩
  obtain ⟨dv0, hv0, r0⟩ : ∃ dv0 : List V, DefR.dvs K d___init__ = dv0 ∧ ∀ θ H, RelUs K θ H [.wtu []] dv0 := ⟨_, rfl, fun θ H => RelUs.cons (rdf (ru0 θ H) rw0) RelUs.nil⟩
  rw [List.drop_zero, hv0] at v0
  have ok_init := f_init (w := w) (base := base) T c_itr F_init
  have k_Policy : MakR Pr w K mg base 3 "Policy" 7 (κ K) p_init [] := MakR.ref ⟨_, _, _, [], [], He.mkr_ok (c.fact 69 rfl), ok_init, T.g_Policy, b_init, .nil, fun _ _ => RelUs.nil⟩ ref_init
  have k_Policy0 : MakR Pr w K mg base 3 "Policy" 7 (κ K) p_init [.wtu []] := MakR.ref ⟨_, _, _, ds0, dv0, He.mkr_ok (c.fact 69 rfl), ok_init, T.g_Policy, b0, v0, r0⟩ ref_init
  have b_has := FunD.bindsN (ps := ["self", "name"]) F_has fun _ _ _ _ _ _ us hl => match us, hl with | [_, _], _ => rfl
  have ok_has := f_has (w := w) (base := base) T  F_has
  have q_has : MetR Pr w K mg base 1 7 "has" (κ K) (m_has) := ⟨_, _, _, T.cls7, He.meth_ok (c.fact 68 rfl), ok_has, b_has⟩
  have b_contains := FunD.bindsN (ps := ["self", "name"]) F_contains fun _ _ _ _ _ _ us hl => match us, hl with | [_, _], _ => rfl
  have ok_contains := f_contains (w := w) (base := base) T  F_contains
  have o_contains : OwnR Pr w K mg base 1 7 "__contains__" (κ K) m_contains := ⟨_, _, _, ownB_ok (c.fact 70 rfl), ok_contains, b_contains⟩
  have b_or := FunD.bindsN (ps := ["self", "other"]) F_or fun _ _ _ _ _ _ us hl => match us, hl with | [_, _], _ => rfl
  have ok_or := f_or (w := w) (base := base) T k_Policy F_or
  have o_or : OwnR Pr w K mg base 5 7 "__or__" (κ K) p_or := OwnR.ref ⟨_, _, _, ownB_ok (c.fact 71 rfl), ok_or, b_or⟩ ref_or
  have b_sub := FunD.bindsN (ps := ["self", "other"]) F_sub fun _ _ _ _ _ _ us hl => match us, hl with | [_, _], _ => rfl
  have ok_sub := f_sub (w := w) (base := base) T k_Policy F_sub
  have o_sub : OwnR Pr w K mg base 5 7 "__sub__" (κ K) p_sub := OwnR.ref ⟨_, _, _, ownB_ok (c.fact 72 rfl), ok_sub, b_sub⟩ ref_sub
  have b_empty := FunD.bindsN (ps := []) F_empty fun _ _ _ _ _ _ us hl => match us, hl with | [], _ => rfl
  have ok_empty := f_empty (w := w) (base := base) T k_Policy0 F_empty
  have s_empty : StaR Pr w K mg base 5 "Policy" 7 "empty" (κ K) (m_empty p_init) := ⟨_, _, _, _, _, (staB_ok (c.fact 73 rfl)).1, (staB_ok (c.fact 73 rfl)).2, ok_empty, T.g_Policy, b_empty⟩
  have b_full := FunD.bindsN (ps := []) F_full fun _ _ _ _ _ _ us hl => match us, hl with | [], _ => rfl
  have ok_full := f_full (w := w) (base := base) T k_Policy F_full
  have s_full : StaR Pr w K mg base 5 "Policy" 7 "full" (κ K) (m_full p_init) := ⟨_, _, _, _, _, (staB_ok (c.fact 74 rfl)).1, (staB_ok (c.fact 74 rfl)).2, ok_full, T.g_Policy, b_full⟩
  have b_describe := FunD.bindsN (ps := ["name"]) F_describe fun _ _ _ _ _ _ us hl => match us, hl with | [_], _ => rfl
  have ok_describe := f_describe (w := w) (base := base) T  F_describe
  have c_describe : CalR Pr w K mg base 3 "describe" (κ K) p_describe [] := CalR.iso (CalR.mk' F_describe ok_describe (He.glo_ok X G (c.fact 46 rfl)) b_describe)
  have b_policy_number := FunD.bindsN (ps := ["policy"]) F_policy_number fun _ _ _ _ _ _ us hl => match us, hl with | [_], _ => rfl
  have ok_policy_number := f_policy_number (w := w) (base := base) T q_has F_policy_number
  have c_policy_number := CalR.mk' F_policy_number ok_policy_number (He.glo_ok X G (c.fact 47 rfl)) b_policy_number
  have b_policy_numbered := FunD.bindsN (ps := ["number"]) F_policy_numbered fun _ _ _ _ _ _ us hl => match us, hl with | [_], _ => rfl
  have ok_policy_numbered := f_policy_numbered (w := w) (base := base) T k_Policy F_policy_numbered
  have c_policy_numbered : CalR Pr w K mg base 5 "policy_numbered" (κ K) p_policy_numbered [] := CalR.ref (CalR.mk' F_policy_numbered ok_policy_numbered (He.glo_ok X G (c.fact 48 rfl)) b_policy_numbered) ref_numbered
  have b__law_row := FunD.bindsN (ps := ["script", "most"]) F__law_row fun _ _ _ _ _ _ us hl => match us, hl with | [_, _], _ => rfl
  have ok__law_row := f__law_row (w := w) (base := base) T  F__law_row
  have c__law_row := CalR.mk' F__law_row ok__law_row (He.glo_ok X G (c.fact 49 rfl)) b__law_row
  have b__law_pick := FunD.bindsN (ps := ["row", "at", "limit"]) F__law_pick fun _ _ _ _ _ _ us hl => match us, hl with | [_, _, _], _ => rfl
  have ok__law_pick := f__law_pick (w := w) (base := base) T  F__law_pick
  have c__law_pick : CalR Pr w K mg base 1 "_law_pick" (κ K) p__law_pick [] := CalR.ref (CalR.mk' F__law_pick ok__law_pick (He.glo_ok X G (c.fact 50 rfl)) b__law_pick) ref_pick
  have b__law_rules := FunD.bindsN (ps := []) F__law_rules fun _ _ _ _ _ _ us hl => match us, hl with | [], _ => rfl
  have ok__law_rules := f__law_rules (w := w) (base := base) T  F__law_rules
  have c__law_rules : CalR Pr w K mg base 1 "_law_rules" (κ K) p__law_rules [] := CalR.ref (CalR.iso (CalR.mk' F__law_rules ok__law_rules (He.glo_ok X G (c.fact 51 rfl)) b__law_rules)) ref_rules
  have b__law_chosen := FunD.bindsN (ps := ["row", "at"]) F__law_chosen fun _ _ _ _ _ _ us hl => match us, hl with | [_, _], _ => rfl
  have ok__law_chosen := f__law_chosen (w := w) (base := base) T c__law_pick c__law_rules F__law_chosen
  have c__law_chosen : CalR Pr w K mg base 2 "_law_chosen" (κ K) p__law_chosen [] := CalR.ref (CalR.mk' F__law_chosen ok__law_chosen (He.glo_ok X G (c.fact 52 rfl)) b__law_chosen) ref_chosen
  have b__law_turned := FunD.bindsN (ps := ["names", "place", "backwards"]) F__law_turned fun _ _ _ _ _ _ us hl => match us, hl with | [_, _, _], _ => rfl
  have ok__law_turned := f__law_turned (w := w) (base := base) T  F__law_turned
  have c__law_turned : CalR Pr w K mg base 1 "_law_turned" (κ K) p__law_turned [] := CalR.ref (CalR.mk' F__law_turned ok__law_turned (He.glo_ok X G (c.fact 53 rfl)) b__law_turned) ref_turned
  have b__law_holds := FunD.bindsN (ps := ["policy", "names"]) F__law_holds fun _ _ _ _ _ _ us hl => match us, hl with | [_, _], _ => rfl
  have ok__law_holds := f__law_holds (w := w) (base := base) T q_has c__law_rules o_contains c_itr F__law_holds
  have c__law_holds : CalR Pr w K mg base 4 "_law_holds" (κ K) p__law_holds [] := CalR.ref (CalR.mk' F__law_holds ok__law_holds (He.glo_ok X G (c.fact 54 rfl)) b__law_holds) ref_holds
  have b__law_refused := FunD.bindsN (ps := ["names"]) F__law_refused fun _ _ _ _ _ _ us hl => match us, hl with | [_], _ => rfl
  have ok__law_refused := f__law_refused (w := w) (base := base) T k_Policy F__law_refused
  have c__law_refused : CalR Pr w K mg base 5 "_law_refused" (κ K) p__law_refused [] := CalR.ref (CalR.mk' F__law_refused ok__law_refused (He.glo_ok X G (c.fact 55 rfl)) b__law_refused) ref_refused
  have b__law_wrong_names := FunD.bindsN (ps := ["row", "names"]) F__law_wrong_names fun _ _ _ _ _ _ us hl => match us, hl with | [_, _], _ => rfl
  have ok__law_wrong_names := f__law_wrong_names (w := w) (base := base) T c__law_refused c__law_pick F__law_wrong_names
  have c__law_wrong_names : CalR Pr w K mg base 6 "_law_wrong_names" (κ K) p__law_wrong_names [] := CalR.ref (CalR.mk' F__law_wrong_names ok__law_wrong_names (He.glo_ok X G (c.fact 56 rfl)) b__law_wrong_names) ref_wrong_names
  have b__law_digit := FunD.bindsN (ps := ["row", "at"]) F__law_digit fun _ _ _ _ _ _ us hl => match us, hl with | [_, _], _ => rfl
  have ok__law_digit := f__law_digit (w := w) (base := base) T  F__law_digit
  have c__law_digit := CalR.mk' F__law_digit ok__law_digit (He.glo_ok X G (c.fact 57 rfl)) b__law_digit
  have b__law_whole := FunD.bindsN (ps := ["value"]) F__law_whole fun _ _ _ _ _ _ us hl => match us, hl with | [_], _ => rfl
  have ok__law_whole := f__law_whole (w := w) (base := base) T  F__law_whole
  have c__law_whole := CalR.mk' F__law_whole ok__law_whole (He.glo_ok X G (c.fact 58 rfl)) b__law_whole
  have b__law_equal := FunD.bindsN (ps := ["actual", "expected"]) F__law_equal fun _ _ _ _ _ _ us hl => match us, hl with | [_, _], _ => rfl
  have ok__law_equal := f__law_equal (w := w) (base := base) T c__law_whole F__law_equal
  have c__law_equal : CalR Pr w K mg base 2 "_law_equal" (κ K) p__law_equal [] := CalR.ref (CalR.mk' F__law_equal ok__law_equal (He.glo_ok X G (c.fact 59 rfl)) b__law_equal) ref_equal
  have b__law_number := FunD.bindsN (ps := ["names"]) F__law_number fun _ _ _ _ _ _ us hl => match us, hl with | [_], _ => rfl
  have ok__law_number := f__law_number (w := w) (base := base) T c__law_rules F__law_number
  have c__law_number : CalR Pr w K mg base 2 "_law_number" (κ K) p__law_number [] := CalR.ref (CalR.mk' F__law_number ok__law_number (He.glo_ok X G (c.fact 60 rfl)) b__law_number) ref_law_number
  have b__law_numbered := FunD.bindsN (ps := ["number"]) F__law_numbered fun _ _ _ _ _ _ us hl => match us, hl with | [_], _ => rfl
  have ok__law_numbered := f__law_numbered (w := w) (base := base) T c__law_rules F__law_numbered
  have c__law_numbered : CalR Pr w K mg base 2 "_law_numbered" (κ K) p__law_numbered [] := CalR.ref (CalR.mk' F__law_numbered ok__law_numbered (He.glo_ok X G (c.fact 61 rfl)) b__law_numbered) ref_law_numbered
  have b__law_both := FunD.bindsN (ps := ["number"]) F__law_both fun _ _ _ _ _ _ us hl => match us, hl with | [_], _ => rfl
  have ok__law_both := f__law_both (w := w) (base := base) T k_Policy c_policy_number c__law_equal c__law_number c_policy_numbered c__law_numbered F__law_both
  have c__law_both : CalR Pr w K mg base 6 "_law_both" (κ K) p__law_both [] := CalR.ref (CalR.mk' F__law_both ok__law_both (He.glo_ok X G (c.fact 62 rfl)) b__law_both) ref_both
  have b__law_refused_number := FunD.bindsN (ps := ["number"]) F__law_refused_number fun _ _ _ _ _ _ us hl => match us, hl with | [_], _ => rfl
  have ok__law_refused_number := f__law_refused_number (w := w) (base := base) T c_policy_numbered F__law_refused_number
  have c__law_refused_number := CalR.mk' F__law_refused_number ok__law_refused_number (He.glo_ok X G (c.fact 63 rfl)) b__law_refused_number
  have b__law_refused_name := FunD.bindsN (ps := ["name"]) F__law_refused_name fun _ _ _ _ _ _ us hl => match us, hl with | [_], _ => rfl
  have ok__law_refused_name := f__law_refused_name (w := w) (base := base) T c_describe F__law_refused_name
  have c__law_refused_name : CalR Pr w K mg base 4 "_law_refused_name" (κ K) p__law_refused_name [] := CalR.ref (CalR.mk' F__law_refused_name ok__law_refused_name (He.glo_ok X G (c.fact 64 rfl)) b__law_refused_name) ref_refused_name
  have b__law_sentences := FunD.bindsN (ps := []) F__law_sentences fun _ _ _ _ _ _ us hl => match us, hl with | [], _ => rfl
  have ok__law_sentences := f__law_sentences (w := w) (base := base) T c__law_refused_name c__law_rules c_describe F__law_sentences
  have c__law_sentences : CalR Pr w K mg base 5 "_law_sentences" (κ K) p__law_sentences [] := CalR.iso (CalR.mk' F__law_sentences ok__law_sentences (He.glo_ok X G (c.fact 65 rfl)) b__law_sentences)
  have b__law_numbers := FunD.bindsN (ps := ["row", "one", "first", "two", "second"]) F__law_numbers fun _ _ _ _ _ _ us hl => match us, hl with | [_, _, _, _, _], _ => rfl
  have ok__law_numbers := f__law_numbers (w := w) (base := base) T c__law_equal c__law_refused_number c__law_both c__law_number c__law_digit o_or o_sub c_policy_number c__law_rules F__law_numbers
  have c__law_numbers : CalR Pr w K mg base 7 "_law_numbers" (κ K) p__law_numbers [] := CalR.ref (CalR.mk' F__law_numbers ok__law_numbers (He.glo_ok X G (c.fact 66 rfl)) b__law_numbers) ref_numbers
  have b_law := FunD.bindsN (ps := ["script"]) F_law fun _ _ _ _ _ _ us hl => match us, hl with | [_], _ => rfl
  have ok_law := f_law (w := w) (base := base) T c__law_wrong_names c__law_sentences c__law_numbers k_Policy0 c__law_holds s_empty s_full o_sub k_Policy o_or c__law_rules c__law_pick c__law_turned c__law_chosen c__law_row F_law
  exact ok_law
end K88
set_option Elab.async false
set_option linter.all false
set_option maxRecDepth 100000
set_option maxHeartbeats 0
namespace K88
open R
open PySem PySem.Spec L2
open PyProof.Rows hiding St
open PySem.W (Frag)
abbrev Rw : PySem.W.OpenRow := PySem.W.OpenLaw.row PySem.Challenge.rw_guestscarried_k88_policies_are_sets
abbrev hk : PySem.W.Hook := hookS 6 fa fn
def ob (s : PySem.W.SharedT) : AlR := obsS 6 fa fn (HandSHeadRun.getT s)
theorem ob_eq (s : PySem.W.SharedT) : ob s = hk.obs s.abs := obsS_eq (HandSHeadRun.getT_eq s)
def loose0 : List Str := ["GuestlivesError", "TextError", "InstructionError", "GuestError", "PolicyError", "ActionError", "SettingError", "DebuggerError", "RULES", "Policy", "CODE_RULES", "VALUE_RULES"]
def loose1 : List Str := ["POLL_RULES", "MOST_NUMBER", "describe", "policy_number", "policy_numbered", "_law_row", "_law_pick", "_law_rules", "_law_chosen", "_law_turned", "_law_holds", "_law_refused"]
def loose2 : List Str := ["_law_wrong_names", "_law_digit", "_law_whole", "_law_equal", "_law_number", "_law_numbered", "_law_both", "_law_refused_number", "_law_refused_name", "_law_sentences", "_law_numbers"]
def loose : List Str := loose0 ++ loose1 ++ loose2
theorem run (w : World) : HandSHeadRun.RunEq Rw (PySem.W.view Rw.prog [39]) hk ob 4600 loose w := by
  intro os
  kernel_rfl
/-- from the law's own promise, where a call may let exceptions out -/
theorem walk_w {l : PySem.W.OpenLaw} {n k : Nat} {q : Program} {lo : List Str} {XP : (Str → Option Value) → Heap → Prop} {YP : World → Heap → Prop} {d : DefRec} {CX : World → CXT} {x : Str} (hn : l.most = some n) (hz : n ≤ sizeLine) (hd : d.params.defaults = []) (hr : Room k callerA)
    (F : ∀ (w : World) (mg : Str → Option Value) (fa : Addr) (h : Heap), YP w h → h.Ns mainGlobals mg → mg d.name = some (.ref fa) → ∃ (K : Frag) (fd : FuncData) (sp : Sp), K.In h ∧ (∀ (s : Shared) (u : Value), BindsTo s fd ⟨[u], []⟩ [(x, u)]) ∧ (∀ (H : Hp) (a : Addr) (ns : List Int), ns.length ≤ n → Only H → SqL K H a (ns.map V.int) → sp [.ref a] H (fun v _ => v = .bl true) fun _ _ _ => False) ∧ ∀ base : Heap, K.In base → base.Ns mainGlobals mg → FnOk l.prog w K mg base (CX w) k fa fd [x] sp)
    (hC : ∀ (w : World) (H : Hp) (s : Shared) (e : Value) (s' : Shared), CX w [] H s (fun _ _ _ => False) e s' → False) : PySem.W.WalkO q lo XP YP l.row.toRowW d [] (fun f vs => PySem.call f vs) := by
  refine Att.attach_call hn hd fun w s0 s1 mg mb fa o pm cd doc a vs ns G Y ho hdd hcd hmg hobj hints hlen hg => ?_
  obtain ⟨K, fd, sp, KX, hb, hsp, hF⟩ := F w mg fa _ Y G.T.g hmg
  exact law_call KX G.T.g G.T.b G.T.builtins G.T.nolimit hg hobj hints (Nat.le_trans hlen hz) hr hF hb (fun H hO hS => hsp H a ns hlen hO hS) fun H e s' => hC w H s1 e s'
theorem facts {w : World} {K : Frag} {h : Heap} {mg : Str → Option Value} {f : Addr} (X : K.In h) (G : h.Ns mainGlobals mg) (hf : mg ("law" : Str) = some (.ref f)) (c : SaysR fa fn K) : ∃ fd : FuncData, (∀ (s : Shared) (v : Value), BindsTo s fd ⟨[v], []⟩ [("script", v)]) ∧ ∀ base : Heap, FnOk Pr w K mg base (L2.CX Pr w) 8 f fd ["script"] (spR (κ K) mLaw) := by
  have T : Txt Pr w K mg := txt X G c
  have e := hf.symm.trans (He.glo_ok X G (c.fact 67 rfl))
  cases e
  obtain ⟨fd, F, ok⟩ := law_ok (w := w) X G c
  have b := FunD.bindsA (ps := ["script"]) F fun _ _ _ _ _ _ us hl => match us, hl with | [_], _ => rfl
  exact ⟨fd, fun s v => b s [v] rfl, ok⟩
theorem relLit {K : Frag} {H : Hp} {a : Addr} {ns : List Int} {θ : List Addr} (hO : Only H) (hS : SqL K H a (ns.map V.int)) : RelU K θ H (.lit (ns.map U.int)) (.ref a) := by
  unfold RelU
  refine ⟨a, ns.map V.int, rfl, ?_, ?_⟩
  · rcases hS with (h | ⟨o, h⟩) | h
    · rcases hO a with q | ⟨o, xs, q⟩ <;> rw [q] at h <;> cases h
    · exact .inl ⟨o, h⟩
    · exact .inr h
  · clear hS
    induction ns with
    | nil => exact RelUs.nil
    | cons n ns ih => exact RelUs.cons relInt ih
/-- the script, handed in -/
theorem sp_law {K : Frag} {H : Hp} {a : Addr} {ns : List Int} (hO : Only H) (hS : SqL K H a (ns.map V.int)) : spR (κ K) mLaw [.ref a] H (fun v _ => v = .bl true) fun _ _ _ => False := by
  obtain ⟨G, e⟩ := run_law ns
  refine ⟨[], [.lit (ns.map U.int)], [], Sim.empty, RelUs.cons (relLit hO hS) RelUs.nil, ?_⟩
  rw [e]
  intro θ' H' v l s r
  have r' : RelU K θ' H' (.bl true) v := r
  unfold RelU at r'
  exact r'
end K88
open PySem PySem.W PySem.Calls PyProof.Rows
theorem PySem.Challenge.cw_guestscarried_k88_policies_are_sets_holds : PySem.Challenge.rw_guestscarried_k88_policies_are_sets.Holds := by
  w_on; o_law
  refine HandSHeadRun.head_any (r := OpenLaw.row PySem.Challenge.rw_guestscarried_k88_policies_are_sets) (q := view (OpenLaw.row PySem.Challenge.rw_guestscarried_k88_policies_are_sets).prog [39]) (H := K88.hk) (ob := K88.ob) (M := 4600) (loose := K88.loose) (d := HandSHeadRun.topDef (OpenLaw.row PySem.Challenge.rw_guestscarried_k88_policies_are_sets).prog 39) (kwd := []) K88.ob_eq
    (by kernel_rfl) (fun s => by kernel_rfl) K88.run (by kernel_rfl) (by kernel_rfl) (by kernel_rfl) (by rfl) (by first | assumption | decide +kernel) (by decide +kernel) ⟨rfl, rfl, rfl, rfl, rfl, by decide +kernel⟩ ?hw ?hc
  case hw => w_witness2
  case hc =>
    refine K88.walk_w (l := PySem.Challenge.rw_guestscarried_k88_policies_are_sets) (n := 63) (k := 8) (x := "script") (CX := L2.CX K88.Pr) rfl (by decide) (by kernel_rfl) ⟨rfl, by decide, by decide⟩ ?F (fun w H s e s' z => by
      obtain ⟨a, B, H', cls, d, _, _, _, _, _, _, _, q⟩ := z
      exact q)
    intro w mg fa h Y G hmg0
    obtain ⟨K, KX, c⟩ := Y
    have hmg : mg ("law" : PySem.Str) = some (.ref fa) := by
      have e : (HandSHeadRun.topDef (OpenLaw.row PySem.Challenge.rw_guestscarried_k88_policies_are_sets).prog 39).name = ("law" : PySem.Str) := by kernel_rfl
      rw [← e]
      exact hmg0
    obtain ⟨fd, hb, hF⟩ := K88.facts (w := w) KX G hmg c
    exact ⟨K, fd, R.spR (K88.κ K) K88.mLaw, KX, hb, fun H a ns hl hO hS => K88.sp_law hO hS, fun base _ _ => hF base⟩
