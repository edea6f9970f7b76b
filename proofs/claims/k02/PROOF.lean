import PyProof.Rows.All
import Wide.All
import OpenK.AllK
import Wide.FinOn
import HandS.ForMost
import HandS.ForExc
import HandS.IsInst
import HandS.Defaults
import KE.GoesEnum
import KE.GoesMore
import KE.KRevSl
import HandS.Wide
import HandS.TupAny
import HandS.Zip
import HandS.Flow
import HandS.Style
import HandS.Conv
import HandS.Head0
import HandS.Head1
import HandS.Head2
import HandS.HeadEnd
import HandS.HeadHook1
import HandS.HeadHook2
import HandS.HeadHook3
import HandS.HeadHook4
import PySem.Challenge.RW_partsofparts_k02_frames_of_rooms
set_option Elab.async false
set_option linter.all false
set_option maxRecDepth 100000
set_option maxHeartbeats 1000000
set_option autoImplicit false
-- DvA
namespace DV
abbrev St := L2.St
open PySem PySem.Spec PyProof.Rows L2

/-! plain data -/
inductive D where
  | non | bl (b : Bool) | int (i : Int) | str (s : Str)
  | lst (xs : List D) | tup (xs : List D) | frz (xs : List D)
  | dct (ks : List Key) (vs : List D) | obj (c : Nat) (vs : List D)

/-- the classes by number: where they stand, their fields in order -/
structure Tbl where
  cls : Nat → Addr
  fld : Nat → Str
  flds : Nat → List Nat

def Tbl.names (T : Tbl) (c : Nat) (n : Nat) : List Str := ((T.flds c).take n).map T.fld

mutual
/-- v is the datum d in the heap H, off the addresses P -/
def Rep (T : Tbl) (H : Hp) (P : Addr → Prop) : D → V → Prop
  | .non, v => v = .non
  | .bl b, v => v = .bl b
  | .int i, v => v = .int i
  | .str s, v => v = .str s
  | .lst xs, v => ∃ a vs, v = .ref a ∧ ¬ P a ∧ H a = some (.lst vs) ∧ RepL T H P xs vs
  | .tup xs, v => ∃ a vs, v = .ref a ∧ ¬ P a ∧ H a = some (.tup vs) ∧ RepL T H P xs vs
  | .frz xs, v => ∃ a o vs, v = .ref a ∧ ¬ P a ∧ H a = some (.frz o (.lst vs)) ∧ RepL T H P xs vs
  | .dct ks xs, v => ∃ a vs, v = .ref a ∧ ¬ P a ∧ H a = some (.dK (ks.zip vs)) ∧ ks.length = vs.length ∧ RepL T H P xs vs
  | .obj c xs, v => ∃ a dx vs, v = .ref a ∧ ¬ P a ∧ H a = some (.ins (T.cls c) dx ((T.names c vs.length).zip vs)) ∧ vs.length ≤ (T.flds c).length ∧ RepL T H P xs vs
def RepL (T : Tbl) (H : Hp) (P : Addr → Prop) : List D → List V → Prop
  | [], vs => vs = []
  | x :: xs, vs => ∃ v r, vs = v :: r ∧ Rep T H P x v ∧ RepL T H P xs r
end

section
variable {T : Tbl} {H H' : Hp} {P P' : Addr → Prop}
mutual
theorem Rep.mono (hH : ∀ b o, ¬ P b → H b = some o → H' b = some o ∧ ¬ P' b) : ∀ (d : D) (v : V), Rep T H P d v → Rep T H' P' d v
  | .non, v, h => by simp only [Rep] at h ⊢; exact h
  | .bl b, v, h => by simp only [Rep] at h ⊢; exact h
  | .int i, v, h => by simp only [Rep] at h ⊢; exact h
  | .str s, v, h => by simp only [Rep] at h ⊢; exact h
  | .lst xs, v, h => by
    simp only [Rep] at h ⊢
    obtain ⟨a, vs, e, n, q, r⟩ := h
    exact ⟨a, vs, e, (hH _ _ n q).2, (hH _ _ n q).1, RepL.mono hH xs vs r⟩
  | .tup xs, v, h => by
    simp only [Rep] at h ⊢
    obtain ⟨a, vs, e, n, q, r⟩ := h
    exact ⟨a, vs, e, (hH _ _ n q).2, (hH _ _ n q).1, RepL.mono hH xs vs r⟩
  | .frz xs, v, h => by
    simp only [Rep] at h ⊢
    obtain ⟨a, o, vs, e, n, q, r⟩ := h
    exact ⟨a, o, vs, e, (hH _ _ n q).2, (hH _ _ n q).1, RepL.mono hH xs vs r⟩
  | .dct ks xs, v, h => by
    simp only [Rep] at h ⊢
    obtain ⟨a, vs, e, n, q, l, r⟩ := h
    exact ⟨a, vs, e, (hH _ _ n q).2, (hH _ _ n q).1, l, RepL.mono hH xs vs r⟩
  | .obj c xs, v, h => by
    simp only [Rep] at h ⊢
    obtain ⟨a, dx, vs, e, n, q, l, r⟩ := h
    exact ⟨a, dx, vs, e, (hH _ _ n q).2, (hH _ _ n q).1, l, RepL.mono hH xs vs r⟩
theorem RepL.mono (hH : ∀ b o, ¬ P b → H b = some o → H' b = some o ∧ ¬ P' b) : ∀ (d : List D) (v : List V), RepL T H P d v → RepL T H' P' d v
  | [], v, h => by simp only [RepL] at h ⊢; exact h
  | x :: xs, v, h => by
    simp only [RepL] at h ⊢
    obtain ⟨u, r, e, q, z⟩ := h
    exact ⟨u, r, e, Rep.mono hH x u q, RepL.mono hH xs r z⟩
end
theorem RepL.length : ∀ {d : List D} {v : List V}, RepL T H P d v → d.length = v.length
  | [], v, h => by simp only [RepL] at h; subst h; rfl
  | x :: xs, v, h => by
    simp only [RepL] at h
    obtain ⟨u, r, rfl, q, z⟩ := h
    simp [z.length]
theorem RepL.nil : RepL T H P [] [] := by simp only [RepL]
theorem RepL.cons {x : D} {xs : List D} {v : V} {vs : List V} (h : Rep T H P x v) (r : RepL T H P xs vs) : RepL T H P (x :: xs) (v :: vs) := by
  simp only [RepL]; exact ⟨v, vs, rfl, h, r⟩
theorem RepL.get : ∀ {d : List D} {v : List V} {i : Nat} {x : D}, RepL T H P d v → d[i]? = some x → ∃ u, v[i]? = some u ∧ Rep T H P x u
  | [], v, i, x, h, e => by simp at e
  | y :: ys, v, 0, x, h, e => by
    simp only [RepL] at h
    obtain ⟨u, r, rfl, q, z⟩ := h
    simp at e; subst e
    exact ⟨u, rfl, q⟩
  | y :: ys, v, i + 1, x, h, e => by
    simp only [RepL] at h
    obtain ⟨u, r, rfl, q, z⟩ := h
    obtain ⟨w, e1, e2⟩ := RepL.get (i := i) (x := x) z (by simpa using e)
    exact ⟨w, by simpa using e1, e2⟩
theorem RepL.append : ∀ {d e : List D} {v w : List V}, RepL T H P d v → RepL T H P e w → RepL T H P (d ++ e) (v ++ w)
  | [], e, v, w, h, h' => by simp only [RepL] at h; subst h; exact h'
  | x :: xs, e, v, w, h, h' => by
    simp only [RepL] at h
    obtain ⟨u, r, rfl, q, z⟩ := h
    exact RepL.cons q (RepL.append z h')
theorem RepL.take : ∀ {d : List D} {v : List V} (n : Nat), RepL T H P d v → RepL T H P (d.take n) (v.take n)
  | _, _, 0, _ => by simp only [List.take_zero]; exact RepL.nil
  | [], v, n + 1, h => by simp only [RepL] at h; subst h; simp only [List.take_nil]; exact RepL.nil
  | x :: xs, v, n + 1, h => by
    simp only [RepL] at h
    obtain ⟨u, r, rfl, q, z⟩ := h
    simp only [List.take_succ_cons]
    exact RepL.cons q (RepL.take n z)
theorem RepL.drop : ∀ {d : List D} {v : List V} (n : Nat), RepL T H P d v → RepL T H P (d.drop n) (v.drop n)
  | d, v, 0, h => by simpa using h
  | [], v, n + 1, h => by simp only [RepL] at h; subst h; simp only [List.drop_nil]; exact RepL.nil
  | x :: xs, v, n + 1, h => by
    simp only [RepL] at h
    obtain ⟨u, r, rfl, q, z⟩ := h
    simpa using RepL.drop n z
theorem RepL.set : ∀ {d : List D} {v : List V} (i : Nat) {x : D} {u : V}, RepL T H P d v → Rep T H P x u → RepL T H P (d.set i x) (v.set i u)
  | [], v, i, x, u, h, q => by simp only [RepL] at h; subst h; simp only [List.set_nil]; exact RepL.nil
  | y :: ys, v, 0, x, u, h, q => by
    simp only [RepL] at h
    obtain ⟨w, r, rfl, _, z⟩ := h
    simp only [List.set_cons_zero]
    exact RepL.cons q z
  | y :: ys, v, i + 1, x, u, h, q => by
    simp only [RepL] at h
    obtain ⟨w, r, rfl, p, z⟩ := h
    simp only [List.set_cons_succ]
    exact RepL.cons p (RepL.set i z q)
theorem RepL.reverse : ∀ {d : List D} {v : List V}, RepL T H P d v → RepL T H P d.reverse v.reverse
  | [], v, h => by simp only [RepL] at h; subst h; exact RepL.nil
  | x :: xs, v, h => by
    simp only [RepL] at h
    obtain ⟨u, r, rfl, q, z⟩ := h
    simp only [List.reverse_cons]
    exact RepL.append (RepL.reverse z) (RepL.cons q RepL.nil)
theorem RepL.eraseIdx : ∀ {d : List D} {v : List V} (i : Nat), RepL T H P d v → RepL T H P (d.eraseIdx i) (v.eraseIdx i)
  | [], v, i, h => by simp only [RepL] at h; subst h; simp only [List.eraseIdx_nil]; exact RepL.nil
  | x :: xs, v, 0, h => by
    simp only [RepL] at h
    obtain ⟨u, r, rfl, q, z⟩ := h
    simpa using z
  | x :: xs, v, i + 1, h => by
    simp only [RepL] at h
    obtain ⟨u, r, rfl, q, z⟩ := h
    simp only [List.eraseIdx_cons_succ]
    exact RepL.cons q (RepL.eraseIdx i z)
theorem RepL.dropLast : ∀ {d : List D} {v : List V}, RepL T H P d v → RepL T H P d.dropLast v.dropLast := fun {d v} h => by
  rw [List.dropLast_eq_take, List.dropLast_eq_take, h.length]
  exact h.take _
/-- whole numbers -/
theorem RepL.ints : ∀ {ns : List Int} {v : List V}, RepL T H P (ns.map D.int) v → v = ns.map V.int
  | [], v, h => by simp only [List.map_nil, RepL] at h; exact h
  | n :: ns, v, h => by
    simp only [List.map_cons, RepL] at h
    obtain ⟨u, r, rfl, q, z⟩ := h
    simp only [Rep] at q
    rw [q, RepL.ints z]; rfl
theorem RepL.of_ints (ns : List Int) : RepL T H P (ns.map D.int) (ns.map V.int) := by
  induction ns with
  | nil => exact RepL.nil
  | cons n ns ih => exact RepL.cons (by simp only [Rep]) ih
theorem RepL.strs : ∀ {ns : List Str} {v : List V}, RepL T H P (ns.map D.str) v → v = ns.map V.str
  | [], v, h => by simp only [List.map_nil, RepL] at h; exact h
  | n :: ns, v, h => by
    simp only [List.map_cons, RepL] at h
    obtain ⟨u, r, rfl, q, z⟩ := h
    simp only [Rep] at q
    rw [q, RepL.strs z]; rfl
theorem RepL.bls : ∀ {ns : List Bool} {v : List V}, RepL T H P (ns.map D.bl) v → v = ns.map V.bl
  | [], v, h => by simp only [List.map_nil, RepL] at h; exact h
  | n :: ns, v, h => by
    simp only [List.map_cons, RepL] at h
    obtain ⟨u, r, rfl, q, z⟩ := h
    simp only [Rep] at q
    rw [q, RepL.bls z]; rfl
end

/-! what an owned object is -/
def OwnAt (T : Tbl) (H : Hp) (P : Addr → Prop) (a : Addr) : D → Prop
  | .lst xs => ∃ vs, H a = some (.lst vs) ∧ RepL T H P xs vs
  | .dct ks xs => ∃ vs, H a = some (.dK (ks.zip vs)) ∧ ks.length = vs.length ∧ RepL T H P xs vs
  | .obj c xs => ∃ dx vs, H a = some (.ins (T.cls c) dx ((T.names c vs.length).zip vs)) ∧ vs.length ≤ (T.flds c).length ∧ RepL T H P xs vs
  | _ => False
theorem OwnAt.mono {T : Tbl} {H H' : Hp} {P P' : Addr → Prop} {a : Addr} {d : D} (hH : ∀ b o, ¬ P b → H b = some o → H' b = some o ∧ ¬ P' b) (ha : H' a = H a) (h : OwnAt T H P a d) : OwnAt T H' P' a d := by
  cases d with
  | lst xs => obtain ⟨vs, e, r⟩ := h; exact ⟨vs, ha.trans e, r.mono hH⟩
  | dct ks xs => obtain ⟨vs, e, l, r⟩ := h; exact ⟨vs, ha.trans e, l, r.mono hH⟩
  | obj c xs => obtain ⟨dx, vs, e, l, r⟩ := h; exact ⟨dx, vs, ha.trans e, l, r.mono hH⟩
  | _ => exact h.elim
theorem OwnAt.there {T : Tbl} {H : Hp} {P : Addr → Prop} {a : Addr} {d : D} (h : OwnAt T H P a d) : ∃ o, H a = some o := by
  cases d with
  | lst xs => obtain ⟨vs, e, r⟩ := h; exact ⟨_, e⟩
  | dct ks xs => obtain ⟨vs, e, l, r⟩ := h; exact ⟨_, e⟩
  | obj c xs => obtain ⟨dx, vs, e, l, r⟩ := h; exact ⟨_, e⟩
  | _ => exact h.elim
/-- an owned object, owned no more -/
theorem OwnAt.rep {T : Tbl} {H : Hp} {P P' : Addr → Prop} {a : Addr} {d : D} (h : OwnAt T H P a d) (ha : ¬ P' a) (hP : ∀ b, P' b → P b) : Rep T H P' d (.ref a) := by
  have m : ∀ b o, ¬ P b → H b = some o → H b = some o ∧ ¬ P' b := fun b o n q => ⟨q, fun z => n (hP b z)⟩
  cases d with
  | lst xs => obtain ⟨vs, e, r⟩ := h; simp only [Rep]; exact ⟨a, vs, rfl, ha, e, r.mono m⟩
  | dct ks xs => obtain ⟨vs, e, l, r⟩ := h; simp only [Rep]; exact ⟨a, vs, rfl, ha, e, l, r.mono m⟩
  | obj c xs => obtain ⟨dx, vs, e, l, r⟩ := h; simp only [Rep]; exact ⟨a, dx, vs, rfl, ha, e, l, r.mono m⟩
  | _ => exact h.elim

/-! slots -/
inductive Sl where
  | un | fz (d : D) | ow (d : D) | lk (d : D) | io (d : D)
abbrev Env := List Sl
def Sl.own? : Sl → Option D
  | .ow d => some d
  | .lk d => some d
  | .io d => some d
  | _ => none
/-- the addresses that slots own -/
def Own (σ : St) (e : Env) : Addr → Prop := fun a => ∃ (i : Nat) (s : Sl) (d : D), e[i]? = some s ∧ s.own? = some d ∧ σ[i]? = some (some (.ref a))
def Or2 (P Q : Addr → Prop) : Addr → Prop := fun a => P a ∨ Q a

structure J (T : Tbl) (O : Addr → Prop) (σ : St) (e : Env) (H : Hp) : Prop where
  len : e.length = σ.length
  fz : ∀ (i : Nat) (d : D), e[i]? = some (.fz d) → ∃ v, σ[i]? = some (some v) ∧ Rep T H (Or2 O (Own σ e)) d v
  ow : ∀ (i : Nat) (s : Sl) (d : D), e[i]? = some s → s.own? = some d → ∃ a, σ[i]? = some (some (.ref a)) ∧ OwnAt T H (Or2 O (Own σ e)) a d
  inj : ∀ (i j : Nat) (s t : Sl) (d d' : D) (a : Addr), e[i]? = some s → s.own? = some d → e[j]? = some t → t.own? = some d' → σ[i]? = some (some (.ref a)) → σ[j]? = some (some (.ref a)) → i = j
  no : ∀ a, Own σ e a → ¬ O a
  dom : ∀ a, O a → ∃ o, H a = some o

/-- what a step leaves alone -/
structure Tr (σ : St) (e : Env) (H : Hp) (σ' : St) (e' : Env) (H' : Hp) : Prop where
  keep : ∀ b o, H b = some o → ¬ Own σ e b → H' b = some o
  new : ∀ b, Own σ' e' b → Own σ e b ∨ H b = none
  there : ∀ b o, H b = some o → ∃ o', H' b = some o'
  lk : ∀ (i : Nat) (d : D), e[i]? = some (.lk d) → e'[i]? = some (.lk d) ∧ σ'[i]? = σ[i]? ∧ ∀ a o, σ[i]? = some (some (.ref a)) → H a = some o → H' a = some o
  io : ∀ (i : Nat) (d : D), e[i]? = some (.io d) → ∃ d', e'[i]? = some (.io d') ∧ σ'[i]? = σ[i]?
theorem Tr.refl {σ : St} {e : Env} {H : Hp} : Tr σ e H σ e H :=
  ⟨fun _ _ h _ => h, fun _ h => .inl h, fun _ o h => ⟨o, h⟩, fun _ _ h => ⟨h, rfl, fun _ _ _ q => q⟩, fun _ d h => ⟨d, h, rfl⟩⟩
theorem Tr.trans {σ σ1 σ2 : St} {e e1 e2 : Env} {H H1 H2 : Hp} (a : Tr σ e H σ1 e1 H1) (b : Tr σ1 e1 H1 σ2 e2 H2) : Tr σ e H σ2 e2 H2 := by
  refine ⟨fun c o h n => ?_, fun c h => ?_, fun c o h => ?_, fun i d h => ?_, fun i d h => ?_⟩
  · refine b.keep c o (a.keep c o h n) fun z => ?_
    rcases a.new c z with z | z
    · exact n z
    · rw [h] at z; cases z
  · rcases b.new c h with z | z
    · exact a.new c z
    · right
      cases q : H c with
      | none => rfl
      | some o =>
        obtain ⟨o', e'⟩ := a.there c o q
        rw [e'] at z; cases z
  · obtain ⟨o1, h1⟩ := a.there c o h
    exact b.there c o1 h1
  · obtain ⟨h1, h2, h3⟩ := a.lk i d h
    obtain ⟨k1, k2, k3⟩ := b.lk i d h1
    exact ⟨k1, k2.trans h2, fun c o z q => k3 c o (by rw [h2]; exact z) (h3 c o z q)⟩
  · obtain ⟨d1, h1, h2⟩ := a.io i d h
    obtain ⟨d2, k1, k2⟩ := b.io i d1 h1
    exact ⟨d2, k1, k2.trans h2⟩

/-! the reading -/
inductive Out (α : Type) where
  | ok (x : α) (e : Env) | exc (c : Nat) (ds : List D) (e : Env) | bad
abbrev M (α : Type) := Env → Out α
def M.pure {α : Type} (x : α) : M α := fun e => .ok x e
def M.bind {α β : Type} (m : M α) (f : α → M β) : M β := fun e => match m e with
  | .ok x e1 => f x e1
  | .exc c ds e1 => .exc c ds e1
  | .bad => .bad
def M.bad {α : Type} : M α := fun _ => .bad
def M.ofO {α : Type} (o : Option α) : M α := fun e => match o with | some x => .ok x e | none => .bad
end DV
-- DvB
namespace DV
open PySem PySem.Spec PyProof.Rows L2

/-! ### what is known of a value -/
/-- as Rep, the object itself may be an owned one -/
def Pk (T : Tbl) (H : Hp) (P : Addr → Prop) : D → V → Prop
  | .non, v => v = .non
  | .bl b, v => v = .bl b
  | .int i, v => v = .int i
  | .str s, v => v = .str s
  | .lst xs, v => ∃ a vs, v = .ref a ∧ H a = some (.lst vs) ∧ RepL T H P xs vs
  | .tup xs, v => ∃ a vs, v = .ref a ∧ ¬ P a ∧ H a = some (.tup vs) ∧ RepL T H P xs vs
  | .frz xs, v => ∃ a o vs, v = .ref a ∧ H a = some (.frz o (.lst vs)) ∧ RepL T H P xs vs
  | .dct ks xs, v => ∃ a vs, v = .ref a ∧ H a = some (.dK (ks.zip vs)) ∧ ks.length = vs.length ∧ RepL T H P xs vs
  | .obj c xs, v => ∃ a dx vs, v = .ref a ∧ H a = some (.ins (T.cls c) dx ((T.names c vs.length).zip vs)) ∧ vs.length ≤ (T.flds c).length ∧ RepL T H P xs vs
theorem Rep.pk {T : Tbl} {H : Hp} {P : Addr → Prop} {d : D} {v : V} (h : Rep T H P d v) : Pk T H P d v := by
  cases d with
  | non => simp only [Rep] at h; exact h
  | bl b => simp only [Rep] at h; exact h
  | int i => simp only [Rep] at h; exact h
  | str i => simp only [Rep] at h; exact h
  | lst xs => simp only [Rep] at h; obtain ⟨a, vs, e, n, q, r⟩ := h; exact ⟨a, vs, e, q, r⟩
  | tup xs => simp only [Rep] at h; exact h
  | frz xs => simp only [Rep] at h; obtain ⟨a, o, vs, e, n, q, r⟩ := h; exact ⟨a, o, vs, e, q, r⟩
  | dct ks xs => simp only [Rep] at h; obtain ⟨a, vs, e, n, q, l, r⟩ := h; exact ⟨a, vs, e, q, l, r⟩
  | obj c xs => simp only [Rep] at h; obtain ⟨a, dx, vs, e, n, q, l, r⟩ := h; exact ⟨a, dx, vs, e, q, l, r⟩
theorem OwnAt.pk {T : Tbl} {H : Hp} {P : Addr → Prop} {a : Addr} {d : D} (h : OwnAt T H P a d) : Pk T H P d (.ref a) := by
  cases d with
  | lst xs => obtain ⟨vs, e, r⟩ := h; exact ⟨a, vs, rfl, e, r⟩
  | dct ks xs => obtain ⟨vs, e, l, r⟩ := h; exact ⟨a, vs, rfl, e, l, r⟩
  | obj c xs => obtain ⟨dx, vs, e, l, r⟩ := h; exact ⟨a, dx, vs, rfl, e, l, r⟩
  | _ => exact h.elim
/-- from a peek at an object that is owned (or was) -/
theorem Pk.own {T : Tbl} {H : Hp} {P : Addr → Prop} {a : Addr} {d : D} (h : Pk T H P d (.ref a)) (hd : ∃ s : Sl, s.own? = some d ∧ ∃ P', OwnAt T H P' a d) : OwnAt T H P a d := by
  obtain ⟨s, _, P', o⟩ := hd
  cases d with
  | lst xs => obtain ⟨b, vs, e, q, r⟩ := h; cases e; exact ⟨vs, q, r⟩
  | dct ks xs => obtain ⟨b, vs, e, q, l, r⟩ := h; cases e; exact ⟨vs, q, l, r⟩
  | obj c xs => obtain ⟨b, dx, vs, e, q, l, r⟩ := h; cases e; exact ⟨dx, vs, q, l, r⟩
  | _ => exact o.elim

section
variable {T : Tbl} {O O' : Addr → Prop} {σ : St} {e e1 e2 : Env} {H H1 H2 H' : Hp}

/-- J where the heap grows, some new addresses are hidden -/
theorem J.heap (j : J T O σ e H) (hk : ∀ b o, H b = some o → H' b = some o) (hO : ∀ a, O' a → O a ∨ H a = none) (hd : ∀ a, O' a → ∃ o, H' a = some o) : J T O' σ e H' := by
  have m : ∀ b o, ¬ Or2 O (Own σ e) b → H b = some o → H' b = some o ∧ ¬ Or2 O' (Own σ e) b := fun b o n q => by
    refine ⟨hk b o q, fun z => ?_⟩
    rcases z with z | z
    · rcases hO b z with z | z
      · exact n (.inl z)
      · rw [q] at z; cases z
    · exact n (.inr z)
  refine ⟨j.len, fun i d h => ?_, fun i s d h hs => ?_, j.inj, fun a h z => ?_, hd⟩
  · obtain ⟨v, e1, r⟩ := j.fz i d h
    exact ⟨v, e1, r.mono m⟩
  · obtain ⟨a, e1, r⟩ := j.ow i s d h hs
    obtain ⟨o, q⟩ := r.there
    exact ⟨a, e1, r.mono m (by rw [q, hk _ _ q])⟩
  · rcases hO a z with z | z
    · exact j.no a h z
    · obtain ⟨i, s, d, h1, h2, h3⟩ := h
      obtain ⟨a', e1, r⟩ := j.ow i s d h1 h2
      rw [h3] at e1; cases e1
      obtain ⟨o, q⟩ := r.there
      rw [q] at z; cases z
theorem J.same (j : J T O σ e H) (hk : ∀ b o, H b = some o → H' b = some o) : J T O σ e H' :=
  j.heap hk (fun _ h => .inl h) fun a h => let ⟨o, q⟩ := j.dom a h; ⟨o, hk _ _ q⟩
/-- a new object, tracked -/
theorem J.alloc (j : J T O σ e H) {p : Addr} {o : HO} (hp : H p = none) : J T O σ e (upd H p o) :=
  j.same fun b u q => by rw [upd_ne (ne_of_none q hp)]; exact q
theorem J.hide (j : J T O σ e H) {p : Addr} {o : HO} (hp : H p = none) : J T (Or2 O (· = p)) σ e (upd H p o) := by
  refine j.heap (fun b u q => by rw [upd_ne (ne_of_none q hp)]; exact q) (fun a h => ?_) (fun a h => ?_)
  · rcases h with h | h
    · exact .inl h
    · have h : a = p := h
      subst h; exact .inr hp
  · rcases h with h | h
    · obtain ⟨u, q⟩ := j.dom a h
      exact ⟨u, by rw [upd_ne (ne_of_none q hp)]; exact q⟩
    · have h : a = p := h
      subst h; exact ⟨o, upd_same⟩
theorem J.less (j : J T O σ e H) (hO : ∀ a, O' a → O a) : J T O' σ e H := j.heap (fun _ _ q => q) (fun a h => .inl (hO a h)) fun a h => j.dom a (hO a h)
theorem Tr.alloc {p : Addr} {o : HO} (hp : H p = none) : Tr σ e H σ e (upd H p o) := by
  have k : ∀ b u, H b = some u → upd H p o b = some u := fun b u q => by rw [upd_ne (ne_of_none q hp)]; exact q
  refine ⟨fun b u q _ => k b u q, fun b h => .inl h, fun b u q => ⟨u, k b u q⟩, fun i d h => ⟨h, rfl, fun a u _ q => k a u q⟩, fun i d h => ⟨d, h, rfl⟩⟩
theorem Own.mk' {i : Nat} {s : Sl} {d : D} {a : Addr} (h : e[i]? = some s) (hs : s.own? = some d) (ha : σ[i]? = some (some (.ref a))) : Own σ e a := ⟨i, s, d, h, hs, ha⟩

/-! ### the readings -/
/-- an exception's own dict -/
def ExcAt (T : Tbl) (H : Hp) (P : Addr → Prop) (dx : Addr) (c : Nat) (ds : List D) : Prop :=
  ∃ vs, H dx = some (.xd ((T.names c vs.length).zip vs)) ∧ vs.length ≤ (T.flds c).length ∧ RepL T H P ds vs
class Nw (α β : Type) where
  nw : α → β → Addr → Prop
def wpR {α β : Type} [Nw α β] (T : Tbl) (O : Addr → Prop) (W : WX) (R : α → β → Env → Hp → Prop) (o : Out α) (σ : St) (e : Env) (H : Hp) (Q : β → Hp → Prop) : Prop :=
  match o with
  | .ok x e' => ∀ v H', Tr σ e H σ e' H' → (∀ a, Nw.nw x v a → H a = none) → R x v e' H' → Q v H'
  | .exc c ds e' => ∀ dx H', Tr σ e H σ e' H' → J T O σ e' H' → ExcAt T H' (Or2 O (Own σ e')) dx c ds → W (.ref (T.cls c)) (some dx) σ H'
  | .bad => False
def wpG {α β : Type} [Nw α β] (T : Tbl) (O : Addr → Prop) (W : WX) (R : α → β → Env → Hp → Prop) (m : M α) (σ : St) (H : Hp) (Q : β → Hp → Prop) : Prop :=
  ∃ e, J T O σ e H ∧ wpR T O W R (m e) σ e H Q
section
variable {α β γ δ : Type} [Nw α β] [Nw γ δ] {W : WX} {R : α → β → Env → Hp → Prop} {R' : γ → δ → Env → Hp → Prop} {Q Q' : β → Hp → Prop}
theorem wpR.shift {o : Out α} (t : Tr σ e H σ e1 H1) (h : wpR T O W R o σ e H Q) : wpR T O W R o σ e1 H1 Q := by
  cases o with
  | ok x e' => exact fun v H' t' n r => h v H' (t.trans t') (fun a z => by
      cases q : H a with
      | none => rfl
      | some o =>
        obtain ⟨o', e1⟩ := t.there a o q
        rw [n a z] at e1; cases e1) r
  | exc c ds e' => exact fun dx H' t' j x => h dx H' (t.trans t') j x
  | bad => exact h
theorem wpR.mono {o : Out α} (h : wpR T O W R o σ e H Q) (hQ : ∀ v H', Q v H' → Q' v H') : wpR T O W R o σ e H Q' := by
  cases o with
  | ok x e' => exact fun v H' t' n r => hQ _ _ (h v H' t' n r)
  | exc c ds e' => exact h
  | bad => exact h
theorem wpG.mono {m : M α} (h : wpG T O W R m σ H Q) (hQ : ∀ v H', Q v H' → Q' v H') : wpG T O W R m σ H Q' := let ⟨e, j, w⟩ := h; ⟨e, j, w.mono hQ⟩
theorem wpG.of {m : M α} (j : J T O σ e H) (h : wpR T O W R (m e) σ e H Q) : wpG T O W R m σ H Q := ⟨e, j, h⟩
/-- two in a row -/
theorem wpG.bind {m : M γ} {f : γ → M α} (h : wpG T O W R (M.bind m f) σ H Q) : wpG T O W R' m σ H fun v H1 => ∃ x e1, R' x v e1 H1 ∧ wpR T O W R (f x e1) σ e1 H1 Q := by
  obtain ⟨e, j, w⟩ := h
  refine ⟨e, j, ?_⟩
  unfold M.bind at w
  cases q : m e with
  | ok x e1 =>
    rw [q] at w
    exact fun v H1 t n r => ⟨x, e1, r, w.shift t⟩
  | exc c ds e1 => rw [q] at w; exact w
  | bad => rw [q] at w; exact w
theorem wpR.bind {m : M γ} {f : γ → M α} (w : wpR T O W R (M.bind m f e) σ e H Q) : wpR T O W R' (m e) σ e H fun v H1 => ∃ x e1, Tr σ e H σ e1 H1 ∧ (∀ a, Nw.nw x v a → H a = none) ∧ R' x v e1 H1 ∧ wpR T O W R (f x e1) σ e1 H1 Q := by
  unfold M.bind at w
  cases q : m e with
  | ok x e1 =>
    rw [q] at w
    exact fun v H1 t n r => ⟨x, e1, t, n, r, w.shift t⟩
  | exc c ds e1 => rw [q] at w; exact w
  | bad => rw [q] at w; exact w
end

/-! ### values, handles -/
inductive Hv where
  | val (d : D) | slot (i : Nat)
def look (e : Env) (i : Nat) : Option D := match e[i]? with
  | some (.fz d) => some d
  | some (.ow d) => some d
  | some (.lk d) => some d
  | some (.io d) => some d
  | _ => none
instance : Nw (D × Bool) V := ⟨fun x v a => x.2 = true ∧ v = .ref a⟩
instance : Nw Hv V := ⟨fun _ _ _ => False⟩
instance : Nw (List Hv) (List V) := ⟨fun _ _ _ => False⟩
instance : Nw Bool Bool := ⟨fun _ _ _ => False⟩
instance : Nw (Option Int) (Option Int) := ⟨fun _ _ _ => False⟩
theorem nwF {d : D} {v : V} {H : Hp} : ∀ a, Nw.nw (d, false) v a → H a = none := fun a z => by
  have z : false = true ∧ v = .ref a := z
  cases z.1
theorem nwN {P : Addr → Prop} : ∀ a, False → P a := fun _ z => z.elim
def Hv.fetch : Hv → Env → Option D
  | .val d, _ => some d
  | .slot i, e => look e i
def RV (T : Tbl) (O : Addr → Prop) (σ : St) : D × Bool → V → Env → Hp → Prop
  | (d, true), v, e, H => ∃ a, v = .ref a ∧ ¬ O a ∧ J T (Or2 O (· = a)) σ e H ∧ OwnAt T H (Or2 (Or2 O (· = a)) (Own σ e)) a d
  | (d, false), v, e, H => J T O σ e H ∧ Rep T H (Or2 O (Own σ e)) d v
def RH1 (T : Tbl) (O : Addr → Prop) (σ : St) (e : Env) (H : Hp) : Hv → V → Prop
  | .val d, v => Rep T H (Or2 O (Own σ e)) d v
  | .slot i, v => σ[i]? = some (some v)
def RH (T : Tbl) (O : Addr → Prop) (σ : St) (h : Hv) (v : V) (e : Env) (H : Hp) : Prop := J T O σ e H ∧ RH1 T O σ e H h v
def RHL (T : Tbl) (O : Addr → Prop) (σ : St) (e : Env) (H : Hp) : List Hv → List V → Prop
  | [], vs => vs = []
  | h :: hs, vs => ∃ v r, vs = v :: r ∧ RH1 T O σ e H h v ∧ RHL T O σ e H hs r
def RA (T : Tbl) (O : Addr → Prop) (σ : St) (hs : List Hv) (vs : List V) (e : Env) (H : Hp) : Prop := J T O σ e H ∧ RHL T O σ e H hs vs
def RB (T : Tbl) (O : Addr → Prop) (σ : St) (b : Bool) (v : Bool) (e : Env) (H : Hp) : Prop := v = b ∧ J T O σ e H

/-- what was known stays known behind a step of an expression -/
theorem keep_of (j : J T O σ e H) (t : Tr σ e H σ e1 H1) : ∀ b o, ¬ Or2 O (Own σ e) b → H b = some o → H1 b = some o ∧ ¬ Or2 O (Own σ e1) b := fun b o n q => by
  refine ⟨t.keep b o q fun z => n (.inr z), fun z => ?_⟩
  rcases z with z | z
  · exact n (.inl z)
  · rcases t.new b z with z | z
    · exact n (.inr z)
    · rw [q] at z; cases z
theorem RH1.step (j : J T O σ e H) (t : Tr σ e H σ e1 H1) {h : Hv} {v : V} (r : RH1 T O σ e H h v) : RH1 T O σ e1 H1 h v := by
  cases h with
  | val d => exact Rep.mono (keep_of j t) d v r
  | slot i => exact r
theorem RHL.step (j : J T O σ e H) (t : Tr σ e H σ e1 H1) : ∀ {hs : List Hv} {vs : List V}, RHL T O σ e H hs vs → RHL T O σ e1 H1 hs vs
  | [], vs, r => r
  | h :: hs, vs, r => by
    obtain ⟨v, r', rfl, a, b⟩ := r
    exact ⟨v, r', rfl, a.step j t, b.step j t⟩
theorem look_pk (j : J T O σ e H) {i : Nat} {d : D} {v : V} (hv : σ[i]? = some (some v)) (h : look e i = some d) : Pk T H (Or2 O (Own σ e)) d v := by
  unfold look at h
  have own : ∀ s : Sl, e[i]? = some s → s.own? = some d → Pk T H (Or2 O (Own σ e)) d v := fun s hs ho => by
    obtain ⟨a, e1, r⟩ := j.ow i s d hs ho
    rw [hv] at e1
    cases e1
    exact r.pk
  split at h
  · rename_i q
    cases h
    obtain ⟨u, e1, r⟩ := j.fz i _ q
    rw [hv] at e1; cases e1
    exact r.pk
  · rename_i q; cases h; exact own _ q rfl
  · rename_i q; cases h; exact own _ q rfl
  · rename_i q; cases h; exact own _ q rfl
  · cases h
theorem RH1.pk (j : J T O σ e H) {h : Hv} {d : D} {v : V} (r : RH1 T O σ e H h v) (f : h.fetch e = some d) : Pk T H (Or2 O (Own σ e)) d v := by
  cases h with
  | val x => cases f; exact Rep.pk r
  | slot i => exact look_pk j r f
/-- a fresh value, fresh no more -/
theorem RV.weak {d : D} {fl : Bool} {v : V} (r : RV T O σ (d, fl) v e H) : J T O σ e H ∧ Rep T H (Or2 O (Own σ e)) d v := by
  cases fl with
  | false => exact r
  | true =>
    obtain ⟨a, rfl, n, j, o⟩ := r
    refine ⟨j.less fun _ z => .inl z, o.rep (fun z => ?_) fun b z => ?_⟩
    · rcases z with z | z
      · exact n z
      · exact j.no a z (.inr rfl)
    · rcases z with z | z
      · exact .inl (.inl z)
      · exact .inr z

/-! ### the judgements -/
variable {X : Cx} {W : WX}
def DE (X : Cx) (W : WX) (T : Tbl) (O : Addr → Prop) (x : Expr) (m : M (D × Bool)) : Prop := PE X x (fun σ H Q => wpG T O W (RV T O σ) m σ H Q)
def DH (X : Cx) (W : WX) (T : Tbl) (O : Addr → Prop) (x : Expr) (m : M Hv) : Prop := PE X x (fun σ H Q => wpG T O W (RH T O σ) m σ H Q)
def DA (X : Cx) (W : WX) (T : Tbl) (O : Addr → Prop) (xs : List Expr) (m : M (List Hv)) : Prop := PA X xs (fun σ H Q => wpG T O W (RA T O σ) m σ H Q)
def DT (X : Cx) (W : WX) (T : Tbl) (O : Addr → Prop) (x : Expr) (m : M Bool) : Prop := PT X x (fun σ H Q => wpG T O W (RB T O σ) m σ H Q)
theorem PE.of {x : Expr} {t t' : TE} (h : PE X x t) (hm : ∀ σ H Q, t' σ H Q → t σ H Q) : PE X x t' := ⟨fun pins s σ H Q I w => h.run pins s σ H Q I (hm σ H Q w)⟩
theorem PT.of {x : Expr} {t t' : TT} (h : PT X x t) (hm : ∀ σ H Q, t' σ H Q → t σ H Q) : PT X x t' := ⟨fun pins s σ H Q I w => h.run pins s σ H Q I (hm σ H Q w)⟩
theorem PA.of {x : List Expr} {t t' : TA} (h : PA X x t) (hm : ∀ σ H Q, t' σ H Q → t σ H Q) : PA X x t' := ⟨fun p pins s σ H Q I w => h.run p pins s σ H Q I (hm σ H Q w)⟩

def mVal (m : M (D × Bool)) : M Hv := M.bind m fun x => M.pure (.val x.1)
theorem dh_of {x : Expr} {m : M (D × Bool)} (h : DE X W T O x m) : DH X W T O x (mVal m) := by
  refine PE.of h fun σ H Q w => wpG.mono (wpG.bind (R' := RV T O σ) w) fun v H1 ⟨⟨d, fl⟩, e1, r, w⟩ => ?_
  obtain ⟨j, r⟩ := r.weak
  exact w v H1 Tr.refl nwN ⟨j, r⟩
def mSlot (i : Nat) : M Hv := fun e => match look e i with | some _ => .ok (.slot i) e | none => .bad
theorem look_some (j : J T O σ e H) {i : Nat} {d : D} (h : look e i = some d) : ∃ v, σ[i]? = some (some v) := by
  unfold look at h
  have own : ∀ s : Sl, e[i]? = some s → s.own? = some d → ∃ v, σ[i]? = some (some v) := fun s hs ho => by
    obtain ⟨a, e1, r⟩ := j.ow i s d hs ho
    exact ⟨_, e1⟩
  split at h
  · rename_i q
    cases h
    obtain ⟨u, e1, r⟩ := j.fz i _ q
    exact ⟨u, e1⟩
  · rename_i q; cases h; exact own _ q rfl
  · rename_i q; cases h; exact own _ q rfl
  · rename_i q; cases h; exact own _ q rfl
  · cases h
theorem dh_slot (i : Nat) {x : Str} {pos : Pos} (hN : X.N[i]? = some x := by rfl) (hv : Vis X.env.scope x := by first | exact Or.inl rfl | exact Or.inr (Or.inl rfl) | exact Or.inr (Or.inr rfl))
    (hd : (x == ("__debug__" : Str)) = false := by decide) (hcd : (x == ("__classdict__" : Str)) = false := by decide) : DH X W T O (.Name x pos) (mSlot i) := by
  refine PE.of (pe_var hN hv hd hcd) fun σ H Q ⟨e, j, w⟩ => ?_
  unfold mSlot at w
  cases q : look e i with
  | none => rw [q] at w; exact w.elim
  | some d =>
    rw [q] at w
    obtain ⟨v, ev⟩ := look_some j q
    exact ⟨v, ev, w v H Tr.refl nwN ⟨j, ev⟩⟩
/-- a name's value, given away: what it owned it owns no more -/
def mVar (i : Nat) : M (D × Bool) := fun e => match e[i]? with
  | some (.fz d) => .ok (d, false) e
  | some (.ow d) => .ok (d, false) (e.set i (.fz d))
  | _ => .bad

theorem get_set {α : Type} {l : List α} {i j : Nat} {x y : α} (h : (l.set i x)[j]? = some y) : (j = i ∧ y = x) ∨ (j ≠ i ∧ l[j]? = some y) := by
  by_cases e : i = j
  · subst e
    rw [List.getElem?_set_self'] at h
    cases q : l[i]? with
    | none => rw [q] at h; simp at h
    | some z => rw [q] at h; simp at h; exact .inl ⟨rfl, h.symm⟩
  · rw [List.getElem?_set_ne e] at h
    exact .inr ⟨Ne.symm e, h⟩
theorem lt_of_get {α : Type} {l : List α} {i : Nat} {x : α} (h : l[i]? = some x) : i < l.length := (List.getElem?_eq_some_iff.mp h).1
theorem own_set {i : Nat} {s : Sl} {b : Addr} (hs : s.own? = none) (h : Own σ (e.set i s) b) : Own σ e b ∧ ∃ j t d, j ≠ i ∧ e[j]? = some t ∧ t.own? = some d ∧ σ[j]? = some (some (.ref b)) := by
  obtain ⟨j, t, d, h1, h2, h3⟩ := h
  rcases get_set h1 with ⟨rfl, rfl⟩ | ⟨n, q⟩
  · rw [hs] at h2; cases h2
  · exact ⟨⟨j, t, d, q, h2, h3⟩, j, t, d, n, q, h2, h3⟩
theorem J.freeze (j : J T O σ e H) {i : Nat} {d : D} (h : e[i]? = some (.ow d)) : J T O σ (e.set i (.fz d)) H ∧ Tr σ e H σ (e.set i (.fz d)) H ∧ ∃ a, σ[i]? = some (some (.ref a)) ∧ Rep T H (Or2 O (Own σ (e.set i (.fz d)))) d (.ref a) := by
  obtain ⟨a, ha, o⟩ := j.ow i _ d h rfl
  have sub : ∀ b, Own σ (e.set i (.fz d)) b → Own σ e b := fun b z => (own_set rfl z).1
  have m : ∀ b o, ¬ Or2 O (Own σ e) b → H b = some o → H b = some o ∧ ¬ Or2 O (Own σ (e.set i (.fz d))) b := fun b o n q => ⟨q, fun z => n (z.imp id (sub b))⟩
  have na : ¬ Or2 O (Own σ (e.set i (.fz d))) a := fun z => by
    rcases z with z | z
    · exact j.no a ⟨i, _, d, h, rfl, ha⟩ z
    · obtain ⟨_, k, t, d', n, q, ho, hk⟩ := own_set rfl z
      exact n (j.inj k i t _ d' d a q ho h rfl hk ha)
  have rep := o.rep na (fun b z => z.imp id (sub b))
  refine ⟨⟨by rw [List.length_set]; exact j.len, fun k d' q => ?_, fun k s d' q hs => ?_, fun k l s t d1 d2 b q1 o1 q2 o2 => ?_, fun b z => j.no b (sub b z), j.dom⟩, ?_, a, ha, rep⟩
  · rcases get_set q with ⟨rfl, e1⟩ | ⟨n, q⟩
    · cases e1
      exact ⟨_, ha, rep⟩
    · obtain ⟨v, e1, r⟩ := j.fz k d' q
      exact ⟨v, e1, r.mono m⟩
  · rcases get_set q with ⟨rfl, e1⟩ | ⟨n, q⟩
    · subst e1; cases hs
    · obtain ⟨b, e1, r⟩ := j.ow k s d' q hs
      exact ⟨b, e1, r.mono m rfl⟩
  · rcases get_set q1 with ⟨rfl, e1⟩ | ⟨n1, q1⟩
    · subst e1; cases o1
    · rcases get_set q2 with ⟨rfl, e1⟩ | ⟨n2, q2⟩
      · subst e1; cases o2
      · exact j.inj k l s t d1 d2 b q1 o1 q2 o2
  · refine ⟨fun _ _ q _ => q, fun b z => .inl (sub b z), fun b o q => ⟨o, q⟩, fun k d' q => ⟨?_, rfl, fun _ _ _ z => z⟩, fun k d' q => ⟨d', ?_, rfl⟩⟩
    · have n : i ≠ k := fun z => by subst z; rw [h] at q; cases q
      rw [List.getElem?_set_ne n]; exact q
    · have n : i ≠ k := fun z => by subst z; rw [h] at q; cases q
      rw [List.getElem?_set_ne n]; exact q
theorem de_var (i : Nat) {x : Str} {pos : Pos} (hN : X.N[i]? = some x := by rfl) (hv : Vis X.env.scope x := by first | exact Or.inl rfl | exact Or.inr (Or.inl rfl) | exact Or.inr (Or.inr rfl))
    (hd : (x == ("__debug__" : Str)) = false := by decide) (hcd : (x == ("__classdict__" : Str)) = false := by decide) : DE X W T O (.Name x pos) (mVar i) := by
  refine PE.of (pe_var hN hv hd hcd) fun σ H Q ⟨e, j, w⟩ => ?_
  unfold mVar at w
  split at w
  · rename_i d q
    obtain ⟨v, e1, r⟩ := j.fz i d q
    exact ⟨v, e1, w v H Tr.refl nwF ⟨j, r⟩⟩
  · rename_i d q
    obtain ⟨j', t, a, ha, r⟩ := j.freeze q
    exact ⟨_, ha, w _ H t nwF ⟨j', r⟩⟩
  · exact w.elim

/-! constants -/
def mC (d : D) : M (D × Bool) := M.pure (d, false)
theorem tC_of {d : D} {v : V} (hr : ∀ H P, Rep T H P d v) : ∀ σ H Q, wpG T O W (RV T O σ) (mC d) σ H Q → tC v σ H Q := fun σ H Q ⟨e, j, w⟩ => w v H Tr.refl nwF ⟨j, hr _ _⟩
theorem de_int {i j pos} : DE X W T O (.Constant (.int i) j pos) (mC (.int i)) := PE.of pe_int (tC_of fun _ _ => by simp only [Rep])
theorem de_bl {i j pos} : DE X W T O (.Constant (.bool i) j pos) (mC (.bl i)) := PE.of pe_bl (tC_of fun _ _ => by simp only [Rep])
theorem de_non {j pos} : DE X W T O (.Constant .none j pos) (mC .non) := PE.of pe_non (tC_of fun _ _ => by simp only [Rep])
theorem de_str {i j pos} : DE X W T O (.Constant (.str i) j pos) (mC (.str i)) := PE.of pe_str (tC_of fun _ _ => by simp only [Rep])
/-- a module's constant: an int, a text -/
theorem de_glob {x : Str} {d : D} {v : V} {u : Value} {pos : Pos} (hg : Gl X x) (hm : X.mg x = some u) (r : RelV v u) (hr : ∀ H P, Rep T H P d v) (hd : (x == ("__debug__" : Str)) = false := by decide) : DE X W T O (.Name x pos) (mC d) :=
  PE.of (pe_glob hg hm r hd) (tC_of hr)

/-! argument lists -/
def mNil : M (List Hv) := M.pure []
def mCons (m : M Hv) (r : M (List Hv)) : M (List Hv) := M.bind m fun h => M.bind r fun hs => M.pure (h :: hs)
theorem da_nil : DA X W T O [] mNil := PA.of pa_nil fun σ H Q ⟨e, j, w⟩ => w [] H Tr.refl nwN ⟨j, rfl⟩
theorem da_cons {x : Expr} {xs : List Expr} {m : M Hv} {r : M (List Hv)} (hx : DH X W T O x m) (hr : DA X W T O xs r) (hs : starEach (x :: xs) X.env = (false, eval x X.env) :: starEach xs X.env := by rfl) : DA X W T O (x :: xs) (mCons m r) := by
  refine PA.of (pa_cons hx hr hs) fun σ H Q w => ?_
  refine wpG.mono (wpG.bind (R' := RH T O σ) w) fun v H1 ⟨h, e1, ⟨j1, r1⟩, w1⟩ => ?_
  refine ⟨e1, j1, (wpR.bind (R' := RA T O σ) w1).mono fun vs H2 ⟨hs, e2, t2, _, ⟨j2, r2⟩, w2⟩ => ?_⟩
  exact w2 (v :: vs) H2 Tr.refl nwN ⟨j2, v, vs, rfl, r1.step j1 t2, r2⟩
/-- one operand, looked at -/
def m1 {α : Type} (m : M Hv) (g : D → M α) : M α := M.bind m fun h => fun e => match h.fetch e with | some d => g d e | none => .bad
theorem wp1 {α β : Type} [Nw α β] {R : α → β → Env → Hp → Prop} {m : M Hv} {g : D → M α} {Q : β → Hp → Prop} (w : wpG T O W R (m1 m g) σ H Q) :
    wpG T O W (RH T O σ) m σ H fun v H1 => ∃ e d, J T O σ e H1 ∧ Pk T H1 (Or2 O (Own σ e)) d v ∧ wpR T O W R (g d e) σ e H1 Q := by
  refine wpG.mono (wpG.bind (R' := RH T O σ) w) fun v H1 ⟨h, e1, ⟨j1, r1⟩, w1⟩ => ?_
  cases q : h.fetch e1 with
  | none => rw [q] at w1; exact w1.elim
  | some d => rw [q] at w1; exact ⟨e1, d, j1, r1.pk j1 q, w1⟩
def m2 {α : Type} (ma mb : M Hv) (g : D → D → M α) : M α := M.bind ma fun h => M.bind mb fun k => fun e => match h.fetch e, k.fetch e with | some d, some d' => g d d' e | _, _ => .bad
theorem wp2 {α β : Type} [Nw α β] {R : α → β → Env → Hp → Prop} {ma mb : M Hv} {g : D → D → M α} {Q : β → Hp → Prop} (w : wpG T O W R (m2 ma mb g) σ H Q) :
    wpG T O W (RH T O σ) ma σ H fun v H1 => wpG T O W (RH T O σ) mb σ H1 fun u H2 => ∃ e d d', J T O σ e H2 ∧ Pk T H2 (Or2 O (Own σ e)) d v ∧ Pk T H2 (Or2 O (Own σ e)) d' u ∧ wpR T O W R (g d d' e) σ e H2 Q := by
  refine wpG.mono (wpG.bind (R' := RH T O σ) w) fun v H1 ⟨h, e1, ⟨j1, r1⟩, w1⟩ => ?_
  refine ⟨e1, j1, (wpR.bind (R' := RH T O σ) w1).mono fun u H2 ⟨k, e2, t2, _, ⟨j2, r2⟩, w2⟩ => ?_⟩
  have r1' := r1.step j1 t2
  cases q : h.fetch e2 with
  | none => rw [q] at w2; exact w2.elim
  | some d =>
    cases q' : k.fetch e2 with
    | none => rw [q, q'] at w2; exact w2.elim
    | some d' => rw [q, q'] at w2; exact ⟨e2, d, d', j2, r1'.pk j2 q, r2.pk j2 q', w2⟩
def fetchL (e : Env) : List Hv → Option (List D)
  | [] => some []
  | h :: hs => match h.fetch e, fetchL e hs with | some d, some ds => some (d :: ds) | _, _ => none
def PkL (T : Tbl) (H : Hp) (P : Addr → Prop) : List D → List V → Prop
  | [], vs => vs = []
  | d :: ds, vs => ∃ v r, vs = v :: r ∧ Pk T H P d v ∧ PkL T H P ds r
theorem RHL.pk (j : J T O σ e H) : ∀ {hs : List Hv} {vs : List V} {ds : List D}, RHL T O σ e H hs vs → fetchL e hs = some ds → PkL T H (Or2 O (Own σ e)) ds vs
  | [], vs, ds, r, f => by cases f; exact r
  | h :: hs, vs, ds, r, f => by
    obtain ⟨v, r', rfl, a, b⟩ := r
    unfold fetchL at f
    split at f
    · rename_i d ds' q1 q2
      cases f
      exact ⟨v, r', rfl, a.pk j q1, b.pk j q2⟩
    · cases f
def mA {α : Type} (m : M (List Hv)) (g : List D → M α) : M α := M.bind m fun hs => fun e => match fetchL e hs with | some ds => g ds e | none => .bad
theorem wpA {α β : Type} [Nw α β] {R : α → β → Env → Hp → Prop} {m : M (List Hv)} {g : List D → M α} {Q : β → Hp → Prop} (w : wpG T O W R (mA m g) σ H Q) :
    wpG T O W (RA T O σ) m σ H fun vs H1 => ∃ e ds, J T O σ e H1 ∧ PkL T H1 (Or2 O (Own σ e)) ds vs ∧ wpR T O W R (g ds e) σ e H1 Q := by
  refine wpG.mono (wpG.bind (R' := RA T O σ) w) fun v H1 ⟨h, e1, ⟨j1, r1⟩, w1⟩ => ?_
  cases q : fetchL e1 h with
  | none => rw [q] at w1; exact w1.elim
  | some d => rw [q] at w1; exact ⟨e1, d, j1, r1.pk j1 q, w1⟩
/-- what an operation hands on: data without objects, or a new object -/
def pOut (o : Option (D × Bool)) : M (D × Bool) := M.ofO o
theorem out_val {o : Option (D × Bool)} {d : D} {v : V} {Q : VK} (j : J T O σ e H) (w : wpR T O W (RV T O σ) (pOut o e) σ e H Q) (ho : o = some (d, false)) (r : Rep T H (Or2 O (Own σ e)) d v) : Q v H := by
  rw [ho] at w
  exact w v H Tr.refl nwF ⟨j, r⟩
theorem out_new {o : Option (D × Bool)} {d : D} {p : Addr} {ob : HO} {Q : VK} (j : J T O σ e H) (hp : H p = none) (w : wpR T O W (RV T O σ) (pOut o e) σ e H Q) (ho : o = some (d, true)) (r : OwnAt T (upd H p ob) (Or2 (Or2 O (· = p)) (Own σ e)) p d) : Q (.ref p) (upd H p ob) := by
  rw [ho] at w
  refine w (.ref p) _ (Tr.alloc hp) (fun a z => by
    have z : true = true ∧ V.ref p = .ref a := z
    cases z.2; exact hp) ⟨p, rfl, fun z => ?_, j.hide hp, r⟩
  obtain ⟨u, q⟩ := j.dom p z
  rw [hp] at q; cases q
theorem repL_new {ds : List D} {vs : List V} {p : Addr} {ob : HO} (hp : H p = none) (r : RepL T H (Or2 O (Own σ e)) ds vs) : RepL T (upd H p ob) (Or2 (Or2 O (· = p)) (Own σ e)) ds vs :=
  r.mono fun b o n q => by
    have nb : b ≠ p := ne_of_none q hp
    refine ⟨by rw [upd_ne nb]; exact q, fun z => ?_⟩
    rcases z with (z | z) | z
    · exact n (.inl z)
    · exact nb z
    · exact n (.inr z)
theorem out_newL {o : Option (D × Bool)} {ds : List D} {vs : List V} {p : Addr} {Q : VK} (j : J T O σ e H) (hp : H p = none) (w : wpR T O W (RV T O σ) (pOut o e) σ e H Q) (ho : o = some (.lst ds, true)) (r : RepL T H (Or2 O (Own σ e)) ds vs) : Q (.ref p) (upd H p (.lst vs)) :=
  out_new j hp w ho ⟨vs, upd_same, repL_new hp r⟩
theorem rep_tup_new {ds : List D} {vs : List V} {p : Addr} (j : J T O σ e H) (hp : H p = none) (r : RepL T H (Or2 O (Own σ e)) ds vs) : Rep T (upd H p (.tup vs)) (Or2 O (Own σ e)) (.tup ds) (.ref p) := by
  simp only [Rep]
  refine ⟨p, vs, rfl, fun z => ?_, upd_same, (repL_new hp r).mono fun b o n q => ⟨q, fun z => n (z.imp .inl id)⟩⟩
  rcases z with z | ⟨i, s, d, h1, h2, h3⟩
  · obtain ⟨u, q⟩ := j.dom p z
    rw [hp] at q; cases q
  · obtain ⟨a, e1, r⟩ := j.ow i s d h1 h2
    rw [h3] at e1; cases e1
    obtain ⟨u, q⟩ := r.there
    rw [hp] at q; cases q
theorem out_tup {o : Option (D × Bool)} {ds : List D} {vs : List V} {p : Addr} {Q : VK} (j : J T O σ e H) (hp : H p = none) (w : wpR T O W (RV T O σ) (pOut o e) σ e H Q) (ho : o = some (.tup ds, false)) (r : RepL T H (Or2 O (Own σ e)) ds vs) : Q (.ref p) (upd H p (.tup vs)) := by
  rw [ho] at w
  exact w (.ref p) _ (Tr.alloc hp) nwF ⟨j.alloc hp, rep_tup_new j hp r⟩
end
end DV
-- DvC
namespace DV
open PySem PySem.Spec PyProof.Rows L2
abbrev LIM : Nat := 16777216
theorem lim_eq : LIM = sizeLine := sizeLine_eq.symm
section
variable {T : Tbl} {O O' : Addr → Prop} {σ : St} {e e1 e2 : Env} {H H1 H2 H' : Hp} {P : Addr → Prop} {X : Cx} {W : WX} {a b c : Expr} {ma mb mc : M Hv} {pos : Pos}
/-! ### operators -/
def bigOk (i j : Int) : Bool := decide (i.natAbs.log2 + j.natAbs.log2 < 1000000)
def smW (i : Int) : Bool := decide (-(2 ^ 64) < i ∧ i < 2 ^ 64)
def opAdd : D → D → Option (D × Bool)
  | .int i, .int j => some (.int (i + j), false)
  | .str s, .str t => if s.length + t.length ≤ LIM then some (.str (s ++ t), false) else none
  | .lst xs, .lst ys => if xs.length + ys.length ≤ LIM then some (.lst (xs ++ ys), true) else none
  | _, _ => none
def opSub : D → D → Option (D × Bool)
  | .int i, .int j => some (.int (i - j), false)
  | _, _ => none
def opMul : D → D → Option (D × Bool)
  | .int i, .int j => if bigOk i j || smW i || smW j then some (.int (i * j), false) else none
  | .lst xs, .int k => if -(2 ^ 63) ≤ k ∧ k < 2 ^ 63 ∧ xs.length * k.toNat ≤ LIM then some (.lst (List.replicate k.toNat xs).flatten, true) else none
  | _, _ => none
def opMod : D → D → Option (D × Bool)
  | .int i, .int j => if 0 < j then some (.int (i % j), false) else none
  | _, _ => none
def opDiv : D → D → Option (D × Bool)
  | .int i, .int j => if 0 < j ∧ j.natAbs.log2 < 9000 then some (.int (i / j), false) else none
  | _, _ => none
def opPow : D → D → Option (D × Bool)
  | .int i, .int j => if 0 ≤ j ∧ j ≤ 1000000 ∧ i.natAbs < 2 ^ 64 then some (.int (i ^ j.toNat), false) else none
  | _, _ => none
def opShr : D → D → Option (D × Bool)
  | .int i, .int j => if 0 ≤ j then some (.int (i / 2 ^ j.toNat), false) else none
  | _, _ => none
def opShl : D → D → Option (D × Bool)
  | .int i, .int j => if 0 ≤ j ∧ j ≤ 1000000 ∧ i.natAbs < 2 ^ 64 then some (.int (i * 2 ^ j.toNat), false) else none
  | _, _ => none
def opBor : D → D → Option (D × Bool)
  | .int i, .int j => some (.int (Builtin.bitOr i j), false)
  | _, _ => none
def opBand : D → D → Option (D × Bool)
  | .int i, .int j => some (.int (Builtin.bitAnd i j), false)
  | _, _ => none
/-- what a rule of an operator must give -/
def OpOk (X : Cx) (f : Value → Value → Sem Value) (o : D → D → Option (D × Bool)) : Prop :=
  ∃ r : R2, OpR X f r ∧ ∀ (W : WX) (T : Tbl) (O : Addr → Prop) (σ : St) (e : Env) (H : Hp) (dx dy : D) (x y : V) (Q : VK), J T O σ e H → Pk T H (Or2 O (Own σ e)) dx x → Pk T H (Or2 O (Own σ e)) dy y → wpR T O W (RV T O σ) (pOut (o dx dy) e) σ e H Q → r x y H Q
def mBin (o : D → D → Option (D × Bool)) (ma mb : M Hv) : M (D × Bool) := m2 ma mb fun x y => pOut (o x y)
theorem de_bin {op : Operator} {o : D → D → Option (D × Bool)} (ho : OpOk X (binaryOp op) o) (ha : DH X W T O a ma) (hb : DH X W T O b mb) : DE X W T O (.BinOp a op b pos) (mBin o ma mb) := by
  obtain ⟨r, hr, hi⟩ := ho
  exact PE.of (pe_op hr ha hb) fun σ H Q w => wpG.mono (wp2 w) fun x H1 w => wpG.mono w fun y H2 ⟨e, dx, dy, j, px, py, w⟩ => hi W T O σ e H2 dx dy x y Q j px py w
theorem bad_out {o : Option (D × Bool)} {Q : VK} {G : Prop} (w : wpR T O W (RV T O σ) (pOut o e) σ e H Q) (ho : o = none) : G := by
  rw [ho] at w; exact w.elim
/-- ints in, an int out -/
theorem opOk_int {f : Value → Value → Sem Value} {o : D → D → Option (D × Bool)} {C : Int → Int → Prop} {g : Int → Int → Int} (hr : OpR X f (rI C fun i j => .int (g i j)))
    (ho : ∀ dx dy z, o dx dy = some z → ∃ i j, dx = .int i ∧ dy = .int j ∧ C i j ∧ z = (.int (g i j), false)) : OpOk X f o := by
  refine ⟨_, hr, fun W T O σ e H dx dy x y Q j px py w => ?_⟩
  cases q : o dx dy with
  | none => exact bad_out w q
  | some z =>
    obtain ⟨i, k, rfl, rfl, hc, rfl⟩ := ho dx dy z q
    refine ⟨i, k, px, py, hc, out_val j w q (by simp only [Rep])⟩
theorem opOk_int0 {f : Value → Value → Sem Value} {o : D → D → Option (D × Bool)} {g : Int → Int → Int} (hr : OpR X f (rI0 fun i j => .int (g i j)))
    (ho : ∀ dx dy z, o dx dy = some z → ∃ i j, dx = .int i ∧ dy = .int j ∧ z = (.int (g i j), false)) : OpOk X f o := by
  refine ⟨_, hr, fun W T O σ e H dx dy x y Q j px py w => ?_⟩
  cases q : o dx dy with
  | none => exact bad_out w q
  | some z =>
    obtain ⟨i, k, rfl, rfl, rfl⟩ := ho dx dy z q
    refine ⟨i, k, px, py, out_val j w q (by simp only [Rep])⟩
theorem OpOk.sub : OpOk X (binaryOp .Sub) opSub := opOk_int0 op_sub fun dx dy z h => by
  unfold opSub at h; split at h <;> cases h
  exact ⟨_, _, rfl, rfl, rfl⟩
theorem OpOk.mod : OpOk X (binaryOp .Mod) opMod := opOk_int op_mod fun dx dy z h => by
  unfold opMod at h; split at h
  · split at h
    · rename_i q; cases h; exact ⟨_, _, rfl, rfl, q, rfl⟩
    · cases h
  · cases h
theorem OpOk.div : OpOk X (binaryOp .FloorDiv) opDiv := opOk_int op_fdivW fun dx dy z h => by
  unfold opDiv at h; split at h
  · split at h
    · rename_i q; cases h; exact ⟨_, _, rfl, rfl, q, rfl⟩
    · cases h
  · cases h
theorem OpOk.pow : OpOk X (binaryOp .Pow) opPow := opOk_int op_pow fun dx dy z h => by
  unfold opPow at h; split at h
  · split at h
    · rename_i q; cases h; exact ⟨_, _, rfl, rfl, q, rfl⟩
    · cases h
  · cases h
theorem OpOk.shl : OpOk X (binaryOp .LShift) opShl := opOk_int op_shl fun dx dy z h => by
  unfold opShl at h; split at h
  · split at h
    · rename_i q; cases h; exact ⟨_, _, rfl, rfl, q, rfl⟩
    · cases h
  · cases h
theorem OpOk.shr : OpOk X (binaryOp .RShift) opShr := opOk_int op_shr fun dx dy z h => by
  unfold opShr at h; split at h
  · split at h
    · rename_i q; cases h; exact ⟨_, _, rfl, rfl, q, rfl⟩
    · cases h
  · cases h
theorem OpOk.bor : OpOk X (binaryOp .BitOr) opBor := opOk_int0 op_or fun dx dy z h => by
  unfold opBor at h; split at h <;> cases h
  exact ⟨_, _, rfl, rfl, rfl⟩
theorem OpOk.band : OpOk X (binaryOp .BitAnd) opBand := opOk_int0 op_and fun dx dy z h => by
  unfold opBand at h; split at h <;> cases h
  exact ⟨_, _, rfl, rfl, rfl⟩
theorem OpOk.add : OpOk X (binaryOp .Add) opAdd := by
  refine ⟨_, op_add.or (op_add_str.or op_cat), fun W T O σ e H dx dy x y Q j px py w => ?_⟩
  cases q : opAdd dx dy with
  | none => exact bad_out w q
  | some z =>
    have q' := q
    unfold opAdd at q'
    split at q'
    · cases q'
      exact .inl ⟨_, _, px, py, out_val j w q (by simp only [Rep])⟩
    · split at q'
      · rename_i hz
        cases q'
        exact .inr (.inl ⟨_, _, px, py, by rw [← lim_eq]; exact hz, out_val j w q (by simp only [Rep])⟩)
      · cases q'
    · split at q'
      · rename_i hz
        cases q'
        obtain ⟨a, vs, ea, ha, ra⟩ := px
        obtain ⟨b, us, eb, hb, rb⟩ := py
        refine .inr (.inr ⟨a, b, vs, us, ea, eb, ha, hb, by rw [← lim_eq, ← ra.length, ← rb.length]; exact hz, fun p hp => ?_⟩)
        exact out_newL j hp w q (ra.append rb)
      · cases q'
    · cases q'
theorem RepL.flat {ds : List D} {vs : List V} (r : RepL T H P ds vs) : ∀ n, RepL T H P (List.replicate n ds).flatten (List.replicate n vs).flatten
  | 0 => RepL.nil
  | n + 1 => by
    rw [List.replicate_succ, List.replicate_succ, List.flatten_cons, List.flatten_cons]
    exact r.append (RepL.flat r n)
theorem OpOk.mul : OpOk X (binaryOp .Mult) opMul := by
  refine ⟨_, (op_mulW.or op_mul).or op_rep, fun W T O σ e H dx dy x y Q j px py w => ?_⟩
  cases q : opMul dx dy with
  | none => exact bad_out w q
  | some z =>
    have q' := q
    unfold opMul at q'
    split at q'
    · split at q'
      · rename_i hz
        cases q'
        rw [Bool.or_eq_true, Bool.or_eq_true] at hz
        rcases hz with (hz | hz) | hz
        · exact .inl (.inl ⟨_, _, px, py, (by unfold CMulW; unfold bigOk at hz; exact of_decide_eq_true hz), out_val j w q (by simp only [Rep])⟩)
        · exact .inl (.inr ⟨_, _, px, py, .inl (by unfold smW at hz; exact of_decide_eq_true hz), out_val j w q (by simp only [Rep])⟩)
        · exact .inl (.inr ⟨_, _, px, py, .inr (by unfold smW at hz; exact of_decide_eq_true hz), out_val j w q (by simp only [Rep])⟩)
      · cases q'
    · split at q'
      · rename_i hz
        cases q'
        obtain ⟨a, vs, ea, ha, ra⟩ := px
        refine .inr ⟨a, _, vs, ea, py, ha, hz.1, hz.2.1, by rw [← lim_eq, ← ra.length]; exact hz.2.2, fun p hp => ?_⟩
        exact out_newL j hp w q (ra.flat _)
      · cases q'
    · cases q'
/-- minus -/
def opNeg : D → Option (D × Bool)
  | .int i => some (.int (-i), false)
  | _ => none
def mUn (o : D → Option (D × Bool)) (m : M Hv) : M (D × Bool) := m1 m fun x => pOut (o x)
theorem de_neg (ha : DH X W T O a ma) : DE X W T O (.UnaryOp .USub a pos) (mUn opNeg ma) := by
  refine PE.of (pe_un un_neg ha) fun σ H Q w => wpG.mono (wp1 w) fun x H1 ⟨e, d, j, p, w⟩ => ?_
  cases d with
  | int i => exact ⟨i, p, out_val j w rfl (by simp only [Rep])⟩
  | _ => exact bad_out w rfl
end
end DV
-- DvD0
namespace DV
open PySem PySem.Spec PyProof.Rows L2
section
variable {X : Cx}
/-! ### t[::-1], t a tuple -/
theorem fmap_congr {α β : Type} {f g : α → Option β} : ∀ {l : List α}, (∀ x ∈ l, f x = g x) → l.filterMap f = l.filterMap g
  | [], _ => rfl
  | x :: xs, h => by rw [List.filterMap_cons, List.filterMap_cons, h x List.mem_cons_self, fmap_congr fun y hy => h y (List.mem_cons_of_mem _ hy)]
open HT in
theorem getItem_tuple_rev {prog : Program} {w : World} {A : Around} {E : Value → Shared → Prop} {s : Shared} {t sl : Addr} {items : Array Value} {vs : Value} {Q : Value → Shared → Prop} (ht : IsTup s.heap t items) (hs : s.heap.IsSliceOf sl .none .none vs) (ps : IsPart vs (some (-1)))
    (h : Q (.ref s.heap.objs.size) { s with heap := s.heap.push { cls := .type "tuple", data := .seq items.toList.reverse.toArray } })
    (hsz : items.size ≤ sizeLine) : wpAny (model prog w) A (getItem (.ref t) (.ref sl)) Q E s := by
  have htake : sizeOk (.seq items.toList.reverse.toArray) := by
    show items.toList.reverse.toArray.size ≤ sizeLine
    rw [List.size_toArray, List.length_reverse, Array.length_toList]
    exact hsz
  obtain ⟨os, hos, hcs, hds⟩ := id hs
  have hTs : s.TypeIs (.ref sl) "slice" := ⟨os, hos, hcs⟩
  unfold getItem
  try with_reducible refine wpAny_holding ?_
  first | refine wpAny_bind (wpAny_pure ?_) | skip
  refine wpAny_bind (wpAny_sequenceKey ht.typeIs (by decide) ?_)
  refine wpAny_bind (wpAny_callSpecial?_slot (name := Str.ofString "__getitem__") ht.typeIs PyProof.Rows.slot_tuple_getitem
    (wpAny_call_entry PyProof.Rows.slot_tuple_getitem ht.typeIs entry_tuple_getitem ?_ (args_tuple_getitem _ _)))
  show wpAny _ _ (Builtin.Tuple.tupleItemsOf (.ref t) >>= _) _ _ s
  refine wpAny_bind (tupleItemsOf_ ht ?_)
  refine wpAny_bind (wpAny_typeOf hTs ?_)
  rw [if_pos (by decide)]
  have hap : ∀ {Q' : Int × Int × Nat → Shared → Prop}, Q' (((items.size : Int) - 1), -1, items.size) s → wpAny (model prog w) A.in1 (Builtin.Slice.sliceApplied (.ref sl) (pure (items.size : Int))) Q' E s := by
    intro Q' hq
    unfold Builtin.Slice.sliceApplied Builtin.Slice.sliceFields
    refine wpAny_bind (wpAny_bind (wpAny_field hos hds (x := .none) rfl (wpAny_bind (wpAny_field hos hds (x := .none) rfl (wpAny_bind (wpAny_field hos hds (x := vs) rfl (wpAny_pure ?_)))))))
    refine wpAny_bind (slicePart_ ps ?_)
    show wpAny _ _ (if ((-1 : Int) == 0) = true then _ else _) _ _ s
    rw [if_neg (by decide)]
    refine wpAny_bind (slicePart_none (wpAny_bind (slicePart_none (wpAny_bind (wpAny_pure ?_)))))
    show wpAny _ _ (match Builtin.Slice.sliceAdjust none none (-1) (items.size : Int) with | (lo, hi) => pure (lo, (-1 : Int), Builtin.Slice.slicePlaces lo hi (-1))) _ _ s
    have e1 : Builtin.Slice.sliceAdjust none none (-1) (items.size : Int) = ((items.size : Int) - 1, -1) := by
      unfold Builtin.Slice.sliceAdjust
      simp
    rw [e1]
    have e2 : Builtin.Slice.slicePlaces ((items.size : Int) - 1) (-1) (-1) = items.size := by
      unfold Builtin.Slice.slicePlaces
      have h1 : ¬ ((-1 : Int) > 0) := by decide
      simp only [h1, if_false]
      split
      · have : (-(-1 : Int)) = 1 := by decide
        rw [this, Int.ediv_one]; omega
      · omega
    show wpAny _ _ (pure ((items.size : Int) - 1, (-1 : Int), Builtin.Slice.slicePlaces ((items.size : Int) - 1) (-1) (-1))) _ _ s
    rw [e2]
    exact wpAny_pure hq
  refine wpAny_bind (hap ?_)
  have hno : ¬ (((((items.size : Int) - 1) == 0) && ((-1 : Int) == 1) && (items.size == items.size)) = true) := by
    intro q
    rw [Bool.and_eq_true, Bool.and_eq_true] at q
    exact absurd q.1.2 (by decide)
  show wpAny _ _ (if ((((items.size : Int) - 1) == 0) && ((-1 : Int) == 1) && (items.size == items.size)) = true then _ else _) _ _ s
  have pick : ((List.range items.size).filterMap fun (k : Nat) => items[(((items.size : Int) - 1) + (k : Int) * (-1)).toNat]?).toArray = items.toList.reverse.toArray := by
    have e : (List.range items.size).filterMap (fun (k : Nat) => items[(((items.size : Int) - 1) + (k : Int) * (-1)).toNat]?) = ((List.range items.size).map fun k => items.size - 1 - k).filterMap (items[·]?) := by
      rw [List.filterMap_map]
      apply fmap_congr
      intro k hk
      have := List.mem_range.mp hk
      show items[_]? = items[items.size - 1 - k]?
      congr 1
      omega
    rw [e, PySem.W.krv_range, List.filterMap_reverse, PySem.W.krv_all]
  rw [if_neg hno, pick]
  first
    | exact wpAny_bind (m := Builtin.Tuple.tupleExact _) (wpAny_newObj_type (wpAny_pure ⟨_, rfl, wpAny_pure h⟩) htake)
    | exact wpAny_bind (m := Builtin.Tuple.tupleExact _) (wpAny_newObj_type (wpAny_bind (wpAny_pure (wpAny_pure ⟨_, rfl, wpAny_pure h⟩))) htake)
    | exact wpAny_bind (wpAny_bind (m := Builtin.Tuple.tupleExact _) (wpAny_newObj_type (wpAny_pure (wpAny_pure ⟨_, rfl, wpAny_pure h⟩)) htake))
    | exact wpAny_bind (wpAny_bind (m := Builtin.Tuple.tupleExact _) (wpAny_newObj_type (wpAny_pure ⟨_, rfl, wpAny_pure h⟩) htake))
def tRevA (K : PySem.W.Frag) (te : TE) : TE := fun σ H Q => te σ H fun x H1 => (∃ a xs, x = .ref a ∧ SqL K H1 a xs ∧ ∀ p, H1 p = none → Q (.ref p) (upd H1 p (.lst xs.reverse))) ∨ (∃ a xs, x = .ref a ∧ SqT K H1 a xs ∧ ∀ p, H1 p = none → Q (.ref p) (upd H1 p (.tup xs.reverse)))
theorem pe_revA {e : Expr} {te : TE} {k : Nat} {p1 p2 p3 pos : Pos} (he : PE X e te) : PE X (.Subscript e (.Slice none none (some (.UnaryOp .USub (.Constant (.int 1) k p1) p2)) p3) pos) (tRevA X.K te) := by
  refine ⟨fun pins s σ H Q I h => ?_⟩
  refine Subscript_ (thn (he.run pins s σ H _ I h) fun v s1 ⟨x, H1, I1, r1, q1⟩ => ?_)
  have hst : PO X (some (.UnaryOp .USub (.Constant (.int 1) k p1) p2)) (tPart (tUn (rU fun i => .int (-i)) (tC (.int 1)))) := po_some (pe_un un_neg pe_int)
  refine wpAny_Slice (thn (po_none.run pins s1 σ H1 (fun o H2 => o = none ∧ H2 = H1) I1 ⟨rfl, rfl⟩) fun vl s2 ⟨l, H2, I2, pl, el, e2⟩ => ?_)
  subst el e2
  refine thn (po_none.run pins s2 σ H2 (fun o H3 => o = none ∧ H3 = H2) I2 ⟨rfl, rfl⟩) fun vu s3 ⟨u, H3, I3, pu, eu, e3⟩ => ?_
  subst eu e3
  refine thn (hst.run pins s3 σ H3 (fun o H4 => o = some (-1) ∧ H4 = H3) I3 ⟨1, rfl, -1, rfl, rfl, rfl⟩) fun vs s4 ⟨o, H4, I4, ps, eo, e4⟩ => ?_
  subst eo e4
  have I5 : Inv X pins σ H4 { s4 with heap := s4.heap.push { cls := .type "slice", data := .fields #[vl, vu, vs] } } := I4.kept (t' := s4.toks) fun b ob q => Heap.get?_push_of_some _ q
  rcases q1 with ⟨a, xs, ex, hx, q⟩ | ⟨a, xs, ex, hx, q⟩
  · subst ex
    cases r1
    obtain ⟨its, r, ht, hz⟩ := I5.list hx
    have hlen := r.length
    show wpAny (model X.prog X.w) X.A (subscriptTail e (.Slice none none (some (.UnaryOp .USub (.Constant (.int 1) k p1) p2)) p3) (.ref a) (.ref s4.heap.objs.size)) (EP X pins σ Q) X.xe { s4 with heap := s4.heap.push { cls := .type "slice", data := .fields #[vl, vu, vs] } }
    refine tail_any (ops := [.ref a, .ref s4.heap.objs.size]) ht.isList.typeIs (PySem.slot_list_getitem.lookup) ?_ (by with_unfolding_all rfl)
    refine wpAny_getItem_list_slice ht.isList (Heap.IsSliceOf.new _ vl vu vs) pl pu ps (by decide) ?_ (by rw [List.size_toArray]; omega)
    rw [PySem.W.krv_pick]
    refine ⟨.ref _, _, I5.laid (t' := s4.toks) (o := .lst xs.reverse) (fun b ob q => Heap.get?_push_of_some _ q) (Nat.le_refl _) ?_, rfl, q _ (I5.hok.fresh (Nat.le_refl _))⟩
    exact ⟨by rw [List.length_reverse]; exact hz, _, 0, r.reverse, Heap.get?_push_size _ rfl⟩
  · subst ex
    cases r1
    obtain ⟨its, r, ht, hz⟩ := I5.tuple hx
    have hlen := r.length
    have evl : vl = .none := by cases pl; rfl
    have evu : vu = .none := by cases pu; rfl
    show wpAny (model X.prog X.w) X.A (subscriptTail e (.Slice none none (some (.UnaryOp .USub (.Constant (.int 1) k p1) p2)) p3) (.ref a) (.ref s4.heap.objs.size)) (EP X pins σ Q) X.xe { s4 with heap := s4.heap.push { cls := .type "slice", data := .fields #[vl, vu, vs] } }
    refine tail_any (ops := [.ref a, .ref s4.heap.objs.size]) ht.typeIs PyProof.Rows.slot_tuple_getitem.lookup ?_ (by with_unfolding_all rfl)
    subst evl evu
    refine getItem_tuple_rev ht (Heap.IsSliceOf.new _ .none .none vs) ps ?_ (by rw [List.size_toArray]; omega)
    refine ⟨.ref _, _, I5.laid (t' := s4.toks) (o := .tup xs.reverse) (fun b ob q => Heap.get?_push_of_some _ q) (Nat.le_refl _) ?_, rfl, q _ (I5.hok.fresh (Nat.le_refl _))⟩
    exact ⟨by rw [List.length_reverse]; exact hz, _, r.reverse, IsTup.new _ _⟩
end
end DV
-- DvD
namespace DV
open PySem PySem.Spec PyProof.Rows L2
section
variable {T : Tbl} {O O' : Addr → Prop} {σ : St} {e e1 e2 : Env} {H H1 H2 H' : Hp} {P : Addr → Prop} {X : Cx} {W : WX} {a b c : Expr} {ma mb mc : M Hv} {pos : Pos}
/-! ### displays -/
def gList (hs : List Hv) (mk : List D → D × Bool) : M (D × Bool) := fun _ => .bad
/-- handles in a display: a name gives its value away -/
def give (e : Env) (i : Nat) : Option (D × Env) := match e[i]? with
  | some (.fz d) => some (d, e)
  | some (.ow d) => some (d, e.set i (.fz d))
  | _ => none
def mItem (m : M (D × Bool)) : M Hv := mVal m
def mLst (m : M (List Hv)) : M (D × Bool) := mA m fun ds => if ds.length ≤ LIM then pOut (some (.lst ds, true)) else M.bad
def valsOnly : List Hv → Bool
  | [] => true
  | .val _ :: r => valsOnly r
  | _ => false
theorem RHL.vals (j : J T O σ e H) : ∀ {hs : List Hv} {vs : List V}, valsOnly hs = true → RHL T O σ e H hs vs → ∃ ds, fetchL e hs = some ds ∧ RepL T H (Or2 O (Own σ e)) ds vs
  | [], vs, _, r => ⟨[], rfl, by have r : vs = [] := r; subst r; exact RepL.nil⟩
  | .val d :: hs, vs, h, r => by
    obtain ⟨v, r', rfl, a, b⟩ := r
    obtain ⟨ds, f, q⟩ := RHL.vals j (hs := hs) h b
    exact ⟨d :: ds, by simp [fetchL, Hv.fetch, f], RepL.cons a q⟩
  | .slot i :: hs, vs, h, r => by simp [valsOnly] at h
def mDisp (m : M (List Hv)) (g : List D → M (D × Bool)) : M (D × Bool) := M.bind m fun hs => fun e => if valsOnly hs then (match fetchL e hs with | some ds => g ds e | none => .bad) else .bad
theorem wpDisp {m : M (List Hv)} {g : List D → M (D × Bool)} {Q : VK} (w : wpG T O W (RV T O σ) (mDisp m g) σ H Q) :
    wpG T O W (RA T O σ) m σ H fun vs H1 => ∃ e ds, J T O σ e H1 ∧ RepL T H1 (Or2 O (Own σ e)) ds vs ∧ wpR T O W (RV T O σ) (g ds e) σ e H1 Q := by
  refine wpG.mono (wpG.bind (R' := RA T O σ) w) fun v H1 ⟨h, e1, ⟨j1, r1⟩, w1⟩ => ?_
  cases hv : valsOnly h with
  | false => rw [hv] at w1; exact w1.elim
  | true =>
    obtain ⟨ds, f, q⟩ := RHL.vals j1 hv r1
    rw [hv, f] at w1
    exact ⟨e1, ds, j1, q, w1⟩
def mList (m : M (List Hv)) : M (D × Bool) := mDisp m fun ds => if ds.length ≤ LIM then pOut (some (.lst ds, true)) else M.bad
def mTup (m : M (List Hv)) : M (D × Bool) := mDisp m fun ds => if ds.length ≤ LIM then pOut (some (.tup ds, false)) else M.bad
theorem de_list {xs : List Expr} {m : M (List Hv)} (h : DA X W T O xs m) : DE X W T O (.List xs pos) (mList m) := by
  refine PE.of (pe_lst h) fun σ H Q w => wpG.mono (wpDisp w) fun vs H1 ⟨e, ds, j, r, w⟩ => ?_
  by_cases hz : ds.length ≤ LIM
  · rw [if_pos hz] at w
    refine ⟨by rw [← lim_eq, ← r.length]; exact hz, fun p hp => out_newL j hp w rfl r⟩
  · rw [if_neg hz] at w; exact w.elim
theorem de_tup {xs : List Expr} {x1} {m : M (List Hv)} (h : DA X W T O xs m) : DE X W T O (.Tuple xs x1 pos) (mTup m) := by
  refine PE.of (pe_tup h) fun σ H Q w => wpG.mono (wpDisp w) fun vs H1 ⟨e, ds, j, r, w⟩ => ?_
  by_cases hz : ds.length ≤ LIM
  · rw [if_pos hz] at w
    refine ⟨by rw [← lim_eq, ← r.length]; exact hz, fun p hp => out_tup j hp w rfl r⟩
  · rw [if_neg hz] at w; exact w.elim

/-! ### places -/
def opIx : D → D → Option (D × Bool)
  | .lst xs, .int i => (atI xs i).map fun d => (d, false)
  | .tup xs, .int i => (atI xs i).map fun d => (d, false)
  | .str z, .int i => if z.length ≤ LIM then (atI z.cps.toList i).map fun c => (.str ⟨#[c]⟩, false) else none
  | _, _ => none
theorem RepL.atI {ds : List D} {vs : List V} {i : Int} {d : D} (r : RepL T H P ds vs) (h : atI ds i = some d) : ∃ v, L2.atI vs i = some v ∧ Rep T H P d v := by
  unfold L2.atI at h ⊢
  rw [← r.length]
  cases q : ixN ds.length i with
  | none => rw [q] at h; cases h
  | some k =>
    rw [q] at h
    obtain ⟨v, e1, e2⟩ := r.get (i := k) (x := d) h
    exact ⟨v, e1, e2⟩
theorem de_ix (ha : DH X W T O a ma) (hb : DH X W T O b mb) (hs : PlainIx b := by exact fun _ _ => rfl) : DE X W T O (.Subscript a b pos) (mBin opIx ma mb) := by
  refine PE.of (pe_ix ix_seq ha hb hs) fun σ H Q w => wpG.mono (wp2 w) fun x H1 w => wpG.mono w fun y H2 ⟨e, dx, dy, j, px, py, w⟩ => ?_
  cases q : opIx dx dy with
  | none => exact bad_out w q
  | some z =>
    have q' := q
    unfold opIx at q'
    split at q'
    · rename_i xs i
      obtain ⟨d, hd, rfl⟩ := Option.map_eq_some_iff.mp q'
      obtain ⟨a, vs, ea, ha, ra⟩ := px
      obtain ⟨v, e1, e2⟩ := ra.atI hd
      exact .inl ⟨a, vs, i, v, ea, py, SqL.of ha, e1, out_val j w q e2⟩
    · rename_i xs i
      obtain ⟨d, hd, rfl⟩ := Option.map_eq_some_iff.mp q'
      obtain ⟨a, vs, ea, _, ha, ra⟩ := px
      obtain ⟨v, e1, e2⟩ := ra.atI hd
      exact .inr (.inl ⟨a, vs, i, v, ea, py, SqT.of ha, e1, out_val j w q e2⟩)
    · rename_i zs i
      split at q'
      · rename_i hz
        obtain ⟨d, hd, rfl⟩ := Option.map_eq_some_iff.mp q'
        exact .inr (.inr ⟨zs, i, d, px, py, by rw [← lim_eq]; exact hz, hd, out_val j w q (by simp only [Rep])⟩)
      · cases q'
    · cases q'

/-! ### slices -/
def cut {α : Type} (xs : List α) (lo hi : Option Int) : List α := (xs.drop (HT.sIx xs.length 0 lo)).take (HT.sIx xs.length xs.length hi - HT.sIx xs.length 0 lo)
theorem cutV_eq (xs : List V) (lo hi : Option Int) : cutV xs lo hi = cut xs lo hi := rfl
theorem RepL.cut {ds : List D} {vs : List V} (r : RepL T H P ds vs) (lo hi : Option Int) : RepL T H P (DV.cut ds lo hi) (DV.cut vs lo hi) := by
  unfold DV.cut
  rw [r.length]
  exact (r.drop _).take _
def mNoPart : M (Option Int) := M.pure none
def mPart (m : M Hv) : M (Option Int) := m1 m fun d => match d with | .int i => M.pure (some i) | _ => M.bad
def RO (T : Tbl) (O : Addr → Prop) (σ : St) (b : Option Int) (v : Option Int) (e : Env) (H : Hp) : Prop := v = b ∧ J T O σ e H
def DO (X : Cx) (W : WX) (T : Tbl) (O : Addr → Prop) (x : Option Expr) (m : M (Option Int)) : Prop := PO X x (fun σ H Q => wpG T O W (RO T O σ) m σ H Q)
theorem PO.of {x : Option Expr} {t t' : TO} (h : PO X x t) (hm : ∀ σ H Q, t' σ H Q → t σ H Q) : PO X x t' := by
  cases x with
  | none => exact ⟨fun pins s σ H Q I w => h.run pins s σ H Q I (hm σ H Q w)⟩
  | some x => exact ⟨fun pins s σ H Q I w => h.run pins s σ H Q I (hm σ H Q w)⟩
theorem do_none : DO X W T O none mNoPart := PO.of po_none fun σ H Q ⟨e, j, w⟩ => w none H Tr.refl nwN ⟨rfl, j⟩
theorem do_some (ha : DH X W T O a ma) : DO X W T O (some a) (mPart ma) := by
  refine PO.of (po_some ha) fun σ H Q w => wpG.mono (wp1 w) fun x H1 ⟨e, d, j, p, w⟩ => ?_
  cases d with
  | int i => exact ⟨i, p, w (some i) H1 Tr.refl nwN ⟨rfl, j⟩⟩
  | _ => exact w.elim
def opSl (d : D) (lo hi : Option Int) : Option (D × Bool) := match d with
  | .lst xs => some (.lst (cut xs lo hi), true)
  | .frz xs => some (.lst (cut xs lo hi), true)
  | .tup xs => some (.tup (cut xs lo hi), false)
  | .str z => if z.length ≤ LIM then some (.str (cutS z lo hi), false) else none
  | _ => none
def mSl (m : M Hv) (ml mh : M (Option Int)) : M (D × Bool) := M.bind m fun h => M.bind ml fun lo => M.bind mh fun hi => fun e => match h.fetch e with | some d => pOut (opSl d lo hi) e | none => .bad
theorem de_slice {lo hi : Option Expr} {ml mh : M (Option Int)} {p2 : Pos} (ha : DH X W T O a ma) (hl : DO X W T O lo ml) (hu : DO X W T O hi mh) : DE X W T O (.Subscript a (.Slice lo hi none p2) pos) (mSl ma ml mh) := by
  refine PE.of (pe_slice (sl_list.or (sl_tupA.or sl_str)) ha hl hu) fun σ H Q w => ?_
  refine wpG.mono (wpG.bind (R' := RH T O σ) w) fun v H1 ⟨h, e1, ⟨j1, r1⟩, w1⟩ => ?_
  refine ⟨e1, j1, (wpR.bind (R' := RO T O σ) w1).mono fun lo' H2 ⟨lo, e2, t2, _, ⟨q1, j2⟩, w2⟩ => ?_⟩
  subst q1
  refine ⟨e2, j2, (wpR.bind (R' := RO T O σ) w2).mono fun hi' H3 ⟨hi, e3, t3, _, ⟨q2, j3⟩, w3⟩ => ?_⟩
  subst q2
  have r3 := (r1.step j1 t2).step j2 t3
  cases qf : h.fetch e3 with
  | none => rw [qf] at w3; exact w3.elim
  | some d =>
    rw [qf] at w3
    have p := r3.pk j3 qf
    cases d with
    | lst xs =>
      obtain ⟨a, vs, ea, ha, ra⟩ := p
      exact .inl ⟨a, vs, ea, SqL.of ha, fun p hp => out_newL j3 hp w3 rfl (ra.cut _ _)⟩
    | frz xs =>
      obtain ⟨a, o, vs, ea, ha, ra⟩ := p
      exact .inl ⟨a, vs, ea, .inl (.inr ⟨o, ha⟩), fun p hp => out_newL j3 hp w3 rfl (ra.cut _ _)⟩
    | tup xs =>
      obtain ⟨a, vs, ea, na, ha, ra⟩ := p
      refine .inr (.inl ⟨a, vs, ea, SqT.of ha, fun ⟨h1, h2⟩ => ?_, fun _ p hp => out_tup j3 hp w3 rfl (ra.cut _ _)⟩)
      have ex : DV.cut xs lo' hi' = xs := by
        unfold DV.cut
        rw [ra.length, h1, h2, List.drop_zero, Nat.sub_zero, ← ra.length, List.take_length]
      refine out_val j3 w3 (by show some _ = _; rw [ex]) ?_
      simp only [Rep]
      exact ⟨a, vs, rfl, na, ha, ra⟩
    | str z =>
      by_cases hz : z.length ≤ LIM
      · exact .inr (.inr ⟨z, p, by rw [← lim_eq]; exact hz, out_val j3 w3 (by show (if _ then _ else _) = _; rw [if_pos hz]) (by simp only [Rep])⟩)
      · exact bad_out w3 (by show (if _ then _ else _) = _; rw [if_neg hz])
    | _ => exact bad_out w3 rfl
/-- xs[::-1] -/
def opRev : D → Option (D × Bool)
  | .lst xs => some (.lst xs.reverse, true)
  | .tup xs => some (.tup xs.reverse, false)
  | _ => none
theorem de_rev {k : Nat} {p1 p2 p3 : Pos} (ha : DH X W T O a ma) : DE X W T O (.Subscript a (.Slice none none (some (.UnaryOp .USub (.Constant (.int 1) k p1) p2)) p3) pos) (mUn opRev ma) := by
  refine PE.of (pe_revA ha) fun σ H Q w => wpG.mono (wp1 w) fun x H1 ⟨e, d, j, p, w⟩ => ?_
  cases d with
  | lst xs =>
    obtain ⟨a, vs, ea, ha, ra⟩ := p
    exact .inl ⟨a, vs, ea, SqL.of ha, fun p hp => out_newL j hp w rfl ra.reverse⟩
  | tup xs =>
    obtain ⟨a, vs, ea, _, ha, ra⟩ := p
    exact .inr ⟨a, vs, ea, SqT.of ha, fun p hp => out_tup j hp w rfl ra.reverse⟩
  | _ => exact bad_out w rfl

/-! ### attributes -/
def posOf : List Nat → Nat → Option Nat
  | [], _ => none
  | x :: xs, f => if x = f then some 0 else (posOf xs f).map (· + 1)
/-- what is known of the own classes: those below n -/
structure TOk (K : PySem.W.Frag) (T : Tbl) (n : Nat) : Prop where
  cls : ∀ c, c < n → Cls K (T.cls c)
  no : ∀ c f, c < n → f ∈ T.flds c → NoAttr K (T.cls c) (T.fld f)
  nd : ∀ c, c < n → ((T.flds c).map T.fld).Nodup
def opAtt (n : Nat) (fl : Nat → List Nat) (f : Nat) : D → Option (D × Bool)
  | .obj c xs => if c < n then ((posOf (fl c) f).bind fun k => xs[k]?).map fun d => (d, false) else none
  | _ => none
theorem posOf_get : ∀ {l : List Nat} {f k : Nat}, posOf l f = some k → l[k]? = some f
  | [], f, k, h => by cases h
  | x :: xs, f, k, h => by
    unfold posOf at h
    split at h
    · rename_i e; cases h; rw [e]; rfl
    · obtain ⟨m, e1, rfl⟩ := Option.map_eq_some_iff.mp h
      simpa using posOf_get e1
theorem zip_lookup : ∀ {ns : List Str} {vs : List V} {k : Nat} {x : Str} {v : V}, ns.Nodup → ns[k]? = some x → vs[k]? = some v → (ns.zip vs).lookup x = some v
  | [], _, _, _, _, _, h, _ => by simp at h
  | n :: ns, [], _, _, _, _, _, h => by simp at h
  | n :: ns, w :: vs, 0, x, v, _, h, h' => by
    simp at h h'; subst h h'
    simp [List.zip_cons_cons, List.lookup_cons]
  | n :: ns, w :: vs, k + 1, x, v, nd, h, h' => by
    simp at h h'
    have ne : (x == n) = false := by
      rw [beq_eq_false_iff_ne]
      rintro rfl
      exact (List.nodup_cons.mp nd).1 (List.mem_of_getElem? h)
    simp only [List.zip_cons_cons, List.lookup_cons, ne]
    exact zip_lookup (List.nodup_cons.mp nd).2 h h'
theorem fld_lookup {n c f k : Nat} {vs : List V} {v : V} (nd : ((T.flds c).map T.fld).Nodup) (hk : posOf (T.flds c) f = some k) (hv : vs[k]? = some v) : ((T.names c vs.length).zip vs).lookup (T.fld f) = some v := by
  have hlt : k < vs.length := lt_of_get hv
  refine zip_lookup (k := k) ?_ ?_ hv
  · unfold Tbl.names
    rw [List.map_take]
    exact nd.sublist (List.take_sublist _ _)
  · unfold Tbl.names
    rw [List.getElem?_map, List.getElem?_take_of_lt hlt, posOf_get hk]
    rfl
theorem de_att {n f : Nat} {x : Str} (K : TOk X.K T n) (hx : T.fld f = x) (ha : DH X W T O a ma) (hb : attributeBase a x X.env (eval a X.env) = eval a X.env := by rfl) : DE X W T O (.Attribute a x pos) (mUn (opAtt n T.flds f) ma) := by
  subst hx
  refine PE.of (pe_fld ha hb) fun σ H Q w => wpG.mono (wp1 w) fun x H1 ⟨e, d, j, p, w⟩ => ?_
  cases q : opAtt n T.flds f d with
  | none => exact bad_out w q
  | some z =>
    have q' := q
    unfold opAtt at q'
    split at q'
    · rename_i c xs
      split at q'
      · rename_i hc
        obtain ⟨d, hd, rfl⟩ := Option.map_eq_some_iff.mp q'
        obtain ⟨k, hk, hx⟩ := Option.bind_eq_some_iff.mp hd
        obtain ⟨a, dx, vs, ea, ha, hl, ra⟩ := p
        obtain ⟨v, hv, rv⟩ := ra.get hx
        exact ⟨a, _, dx, _, v, ea, ha, K.cls c hc, K.no c f hc (List.mem_of_getElem? (posOf_get hk)), fld_lookup (n := n) (K.nd c hc) hk hv, out_val j w q rv⟩
      · cases q'
    · cases q'
end
end DV
-- DvE
namespace DV
open PySem PySem.Spec PyProof.Rows L2
section
variable {T : Tbl} {O O' : Addr → Prop} {σ : St} {e e1 e2 : Env} {H H1 H2 H' : Hp} {P : Addr → Prop} {X : Cx} {W : WX} {a b c : Expr} {ma mb mc : M Hv} {pos : Pos}
/-! ### comparisons -/
mutual
def toPy : D → Option PyData
  | .non => some .none
  | .bl b => some (.bool b)
  | .int i => some (.int i)
  | .str s => some (.str s)
  | .lst xs => (toPyL xs).map .list
  | .tup xs => (toPyL xs).map .tuple
  | _ => none
def toPyL : List D → Option (List PyData)
  | [] => some []
  | x :: xs => match toPy x, toPyL xs with | some y, some ys => some (y :: ys) | _, _ => none
end
section
variable {K : PySem.W.Frag}
mutual
theorem Rep.dp : ∀ (d : D) (v : V) (p : PyData), Rep T H P d v → toPy d = some p → Dp K H v p
  | .non, v, p, r, h => by simp only [Rep] at r; simp only [toPy] at h; cases h; rw [r]; exact .non
  | .bl b, v, p, r, h => by simp only [Rep] at r; simp only [toPy] at h; cases h; rw [r]; exact .bl b
  | .int i, v, p, r, h => by simp only [Rep] at r; simp only [toPy] at h; cases h; rw [r]; exact .int i
  | .str s, v, p, r, h => by simp only [Rep] at r; simp only [toPy] at h; cases h; rw [r]; exact .str s
  | .lst xs, v, p, r, h => by
    simp only [Rep] at r
    simp only [toPy] at h
    obtain ⟨a, vs, rfl, _, ha, ra⟩ := r
    obtain ⟨ps, hp, rfl⟩ := Option.map_eq_some_iff.mp h
    exact .lst (SqL.of ha) (RepL.dp xs vs ps ra hp)
  | .tup xs, v, p, r, h => by
    simp only [Rep] at r
    simp only [toPy] at h
    obtain ⟨a, vs, rfl, _, ha, ra⟩ := r
    obtain ⟨ps, hp, rfl⟩ := Option.map_eq_some_iff.mp h
    exact .tup (SqT.of ha) (RepL.dp xs vs ps ra hp)
  | .frz xs, v, p, r, h => by simp only [toPy] at h; cases h
  | .dct ks xs, v, p, r, h => by simp only [toPy] at h; cases h
  | .obj c xs, v, p, r, h => by simp only [toPy] at h; cases h
theorem RepL.dp : ∀ (d : List D) (v : List V) (p : List PyData), RepL T H P d v → toPyL d = some p → DpAll K H v p
  | [], v, p, r, h => by simp only [RepL] at r; simp only [toPyL] at h; cases h; rw [r]; exact .nil
  | x :: xs, v, p, r, h => by
    simp only [RepL] at r
    simp only [toPyL] at h
    obtain ⟨u, w, rfl, q, z⟩ := r
    split at h
    · rename_i y ys h1 h2
      cases h
      exact .cons (Rep.dp x u y q h1) (RepL.dp xs w ys z h2)
    · cases h
end
theorem Pk.dp {d : D} {v : V} {p : PyData} (r : Pk T H P d v) (h : toPy d = some p) : Dp K H v p := by
  cases d with
  | non => simp only [toPy] at h; cases h; rw [show v = .non from r]; exact .non
  | bl b => simp only [toPy] at h; cases h; rw [show v = .bl b from r]; exact .bl b
  | int i => simp only [toPy] at h; cases h; rw [show v = .int i from r]; exact .int i
  | str s => simp only [toPy] at h; cases h; rw [show v = .str s from r]; exact .str s
  | lst xs =>
    simp only [toPy] at h
    obtain ⟨a, vs, rfl, ha, ra⟩ := r
    obtain ⟨ps, hp, rfl⟩ := Option.map_eq_some_iff.mp h
    exact .lst (SqL.of ha) (RepL.dp xs vs ps ra hp)
  | tup xs =>
    simp only [toPy] at h
    obtain ⟨a, vs, rfl, _, ha, ra⟩ := r
    obtain ⟨ps, hp, rfl⟩ := Option.map_eq_some_iff.mp h
    exact .tup (SqT.of ha) (RepL.dp xs vs ps ra hp)
  | _ => simp only [toPy] at h; cases h
end
def eqPy (d e : D) : Option Bool := match toPy d, toPy e with
  | some p, some q => if SeqAt.shaped p = true ∧ SeqAt.shaped q = true then some (PyData.eqv p q) else none
  | _, _ => none
/-- ints, texts, truth values, None; then data of any depth -/
def cEq : D → D → Option Bool
  | .int i, .int j => some (decide (i = j))
  | .str s, .str t => some (decide (s = t))
  | .bl s, .bl t => some (decide (s = t))
  | d, e => eqPy d e
def cNe (d e : D) : Option Bool := (cEq d e).map not
/-- what a rule of a comparison must give -/
def CmOk (X : Cx) (f : Value → Value → Sem Value) (o : D → D → Option Bool) : Prop :=
  ∃ r : R2, OpR X f r ∧ ∀ (T : Tbl) (P : Addr → Prop) (H : Hp) (dx dy : D) (x y : V) (k : Bool) (Q : VK), Pk T H P dx x → Pk T H P dy y → o dx dy = some k → Q (.bl k) H → r x y H Q
def bOut (o : Option Bool) : M (D × Bool) := pOut (o.map fun k => (.bl k, false))
def mCmp (o : D → D → Option Bool) (ma mb : M Hv) : M (D × Bool) := m2 ma mb fun x y => bOut (o x y)
def mCmpT (o : D → D → Option Bool) (ma mb : M Hv) : M Bool := m2 ma mb fun x y => M.ofO (o x y)
theorem de_cmp {op : CmpOp} {o : D → D → Option Bool} (ho : CmOk X (compareOp op) o) (ha : DH X W T O a ma) (hb : DH X W T O b mb) (hm : behindInMarks op b = false := by first | exact nomark _ | with_unfolding_all rfl) : DE X W T O (.Compare a [op] [b] pos) (mCmp o ma mb) := by
  obtain ⟨r, hr, hi⟩ := ho
  refine PE.of (pe_cmpR hr ha hb hm) fun σ H Q w => wpG.mono (wp2 w) fun x H1 w => wpG.mono w fun y H2 ⟨e, dx, dy, j, px, py, w⟩ => ?_
  cases q : o dx dy with
  | none => exact bad_out w (by rw [q]; rfl)
  | some k => exact hi T _ H2 dx dy x y k Q px py q (out_val j w (by rw [q]; rfl) (by simp only [Rep]))
theorem dt_cmp {op : CmpOp} {o : D → D → Option Bool} (ho : CmOk X (compareOp op) o) (ha : DH X W T O a ma) (hb : DH X W T O b mb) (hm : behindInMarks op b = false := by first | exact nomark _ | with_unfolding_all rfl) : DT X W T O (.Compare a [op] [b] pos) (mCmpT o ma mb) := by
  obtain ⟨r, hr, hi⟩ := ho
  refine PT.of (pt_cmpR hr ha hb hm) fun σ H Q w => wpG.mono (wp2 w) fun x H1 w => wpG.mono w fun y H2 ⟨e, dx, dy, j, px, py, w⟩ => ?_
  cases q : o dx dy with
  | none => rw [q] at w; exact w.elim
  | some k =>
    rw [q] at w
    exact hi T _ H2 dx dy x y k _ px py q ⟨k, rfl, w k H2 Tr.refl nwN ⟨rfl, j⟩⟩
/-- a < b <= c -/
def mCmp2 (o o' : D → D → Option Bool) (ma mb mc : M Hv) : M (D × Bool) := M.bind ma fun h => M.bind mb fun k => fun e => match h.fetch e, k.fetch e with
  | some d, some d' => (match o d d' with
    | some true => M.bind mc (fun l => fun e' => match k.fetch e', l.fetch e' with | some d', some d'' => bOut (o' d' d'') e' | _, _ => .bad) e
    | some false => pOut (some (.bl false, false)) e
    | none => .bad)
  | _, _ => .bad
theorem de_cmp2 {op op' : CmpOp} {o o' : D → D → Option Bool} (ho : CmOk X (compareOp op) o) (ho' : CmOk X (compareOp op') o') (ha : DH X W T O a ma) (hb : DH X W T O b mb) (hc : DH X W T O c mc) (hm : lastMarks [op, op'] [b, c] = false := by with_unfolding_all rfl) :
    DE X W T O (.Compare a [op, op'] [b, c] pos) (mCmp2 o o' ma mb mc) := by
  obtain ⟨r, hr, hi⟩ := ho
  obtain ⟨r', hr', hi'⟩ := ho'
  refine PE.of (pe_chain hr hr' ha hb hc hm) fun σ H Q w => ?_
  refine wpG.mono (wpG.bind (R' := RH T O σ) w) fun v H1 ⟨h, e1, ⟨j1, r1⟩, w1⟩ => ?_
  refine ⟨e1, j1, (wpR.bind (R' := RH T O σ) w1).mono fun u H2 ⟨k, e2, t2, _, ⟨j2, r2⟩, w2⟩ => ?_⟩
  have r1' := r1.step j1 t2
  cases q : h.fetch e2 with
  | none => rw [q] at w2; exact w2.elim
  | some d =>
    cases q' : k.fetch e2 with
    | none => rw [q, q'] at w2; exact w2.elim
    | some d' =>
      rw [q, q'] at w2
      dsimp only at w2
      cases qo : o d d' with
      | none => rw [qo] at w2; exact w2.elim
      | some t =>
        rw [qo] at w2
        refine hi T _ H2 d d' v u t _ (r1'.pk j2 q) (r2.pk j2 q') qo ⟨t, rfl, ?_⟩
        cases t with
        | false =>
          rw [if_neg Bool.false_ne_true]
          exact out_val j2 w2 rfl (by simp only [Rep])
        | true =>
          rw [if_pos rfl]
          refine ⟨e2, j2, (wpR.bind (R' := RH T O σ) w2).mono fun z H3 ⟨l, e3, t3, _, ⟨j3, r3⟩, w3⟩ => ?_⟩
          have r2' := r2.step j2 t3
          cases p1 : k.fetch e3 with
          | none => rw [p1] at w3; exact w3.elim
          | some x =>
            cases p2 : l.fetch e3 with
            | none => rw [p1, p2] at w3; exact w3.elim
            | some y =>
              rw [p1, p2] at w3
              dsimp only at w3
              cases qo' : o' x y with
              | none => exact bad_out w3 (by rw [qo']; rfl)
              | some k' => exact hi' T _ H3 x y u z k' Q (r2'.pk j3 p1) (r3.pk j3 p2) qo' (out_val j3 w3 (by rw [qo']; rfl) (by simp only [Rep]))
theorem CmOk.eq (hu : X.A.units + 64 < cLine) : CmOk X (compareOp .Eq) cEq := by
  refine ⟨_, op_eq.or (op_eqD hu), fun T P H dx dy x y k Q px py ho q => ?_⟩
  unfold cEq at ho
  split at ho
  · cases ho
    rw [show x = .int _ from px, show y = .int _ from py]
    exact .inl ⟨rfl, by simpa [V.int.injEq] using q⟩
  · cases ho
    rw [show x = .str _ from px, show y = .str _ from py]
    exact .inl ⟨rfl, by simpa [V.str.injEq] using q⟩
  · cases ho
    rw [show x = .bl _ from px, show y = .bl _ from py]
    exact .inl ⟨rfl, by simpa [V.bl.injEq] using q⟩
  · unfold eqPy at ho
    split at ho
    · rename_i p q' h1 h2
      split at ho
      · rename_i hs
        cases ho
        exact .inr ⟨p, q', px.dp h1, py.dp h2, hs.1, hs.2, q⟩
      · cases ho
    · cases ho
theorem CmOk.ne (hu : X.A.units + 64 < cLine) : CmOk X (compareOp .NotEq) cNe := by
  refine ⟨_, op_ne.or (op_neD hu), fun T P H dx dy x y k Q px py ho q => ?_⟩
  obtain ⟨k', ho2, rfl⟩ := Option.map_eq_some_iff.mp ho
  unfold cEq at ho2
  split at ho2
  · cases ho2
    rw [show x = .int _ from px, show y = .int _ from py]
    exact .inl ⟨rfl, by simpa [V.int.injEq] using q⟩
  · cases ho2
    rw [show x = .str _ from px, show y = .str _ from py]
    exact .inl ⟨rfl, by simpa [V.str.injEq] using q⟩
  · cases ho2
    rw [show x = .bl _ from px, show y = .bl _ from py]
    exact .inl ⟨rfl, by simpa [V.bl.injEq] using q⟩
  · unfold eqPy at ho2
    split at ho2
    · rename_i p q' h1 h2
      split at ho2
      · rename_i hs
        cases ho2
        exact .inr ⟨p, q', px.dp h1, py.dp h2, hs.1, hs.2, q⟩
      · cases ho2
    · cases ho2
def cInt (f : Int → Int → Bool) : D → D → Option Bool
  | .int i, .int j => some (f i j)
  | _, _ => none
theorem cmOk_int {g : Value → Value → Sem Value} {f : Int → Int → Bool} (h : OpR X g (rI0 fun i j => .bl (f i j))) : CmOk X g (cInt f) := by
  refine ⟨_, h, fun T P H dx dy x y k Q px py ho q => ?_⟩
  unfold cInt at ho
  split at ho
  · cases ho; exact ⟨_, _, px, py, q⟩
  · cases ho
abbrev cLt := cInt fun i j => decide (i < j)
abbrev cLe := cInt fun i j => decide (i ≤ j)
abbrev cGt := cInt fun i j => decide (j < i)
abbrev cGe := cInt fun i j => decide (j ≤ i)
theorem CmOk.lt : CmOk X (compareOp .Lt) cLt := cmOk_int op_lt
theorem CmOk.le : CmOk X (compareOp .LtE) cLe := cmOk_int op_le
theorem CmOk.gt : CmOk X (compareOp .Gt) cGt := cmOk_int op_gt
theorem CmOk.ge : CmOk X (compareOp .GtE) cGe := cmOk_int op_ge
/-- in: a flat thing in a list or tuple of flat things; a sign in a text -/
def toV : D → Option V
  | .non => some .non
  | .bl b => some (.bl b)
  | .int i => some (.int i)
  | .str s => some (.str s)
  | _ => none
def toVL : List D → Option (List V)
  | [] => some []
  | x :: xs => match toV x, toVL xs with | some y, some ys => some (y :: ys) | _, _ => none
theorem toV_rep {d : D} {v u : V} (r : Rep T H P d v) (h : toV d = some u) : v = u ∧ flatV u = true := by
  cases d with
  | non => simp only [Rep] at r; cases h; exact ⟨r, rfl⟩
  | bl b => simp only [Rep] at r; cases h; exact ⟨r, rfl⟩
  | int i => simp only [Rep] at r; cases h; exact ⟨r, rfl⟩
  | str s => simp only [Rep] at r; cases h; exact ⟨r, rfl⟩
  | _ => cases h
theorem toV_pk {d : D} {v u : V} (r : Pk T H P d v) (h : toV d = some u) : v = u ∧ flatV u = true := by
  cases d with
  | non => cases h; exact ⟨r, rfl⟩
  | bl b => cases h; exact ⟨r, rfl⟩
  | int i => cases h; exact ⟨r, rfl⟩
  | str s => cases h; exact ⟨r, rfl⟩
  | _ => cases h
theorem toVL_rep : ∀ {d : List D} {v u : List V}, RepL T H P d v → toVL d = some u → v = u ∧ u.all flatV = true
  | [], v, u, r, h => by simp only [RepL] at r; cases h; exact ⟨r, rfl⟩
  | x :: xs, v, u, r, h => by
    simp only [RepL] at r
    obtain ⟨w, r', rfl, q, z⟩ := r
    unfold toVL at h
    split at h
    · rename_i y ys h1 h2
      cases h
      obtain ⟨e1, f1⟩ := toV_rep q h1
      obtain ⟨e2, f2⟩ := toVL_rep z h2
      subst e1 e2
      exact ⟨rfl, by simp [f1]; simpa using f2⟩
    · cases h
def cIn : D → D → Option Bool
  | d, .lst xs => match toV d, toVL xs with | some v, some vs => some (inV v vs) | _, _ => none
  | d, .tup xs => match toV d, toVL xs with | some v, some vs => some (inV v vs) | _, _ => none
  | .str ⟨⟨[c]⟩⟩, .str z => some (decide (c ∈ z.cps.toList))
  | _, _ => none
def cNotIn (d e : D) : Option Bool := (cIn d e).map not
theorem CmOk.inn : CmOk X (compareOp .In) cIn := by
  refine ⟨_, op_in_seq.or op_in_sign, fun T P H dx dy x y k Q px py ho q => ?_⟩
  unfold cIn at ho
  split at ho
  · split at ho
    · rename_i v vs h1 h2
      cases ho
      obtain ⟨a, us, ea, ha, ra⟩ := py
      obtain ⟨rfl, f1⟩ := toV_pk px h1
      obtain ⟨rfl, f2⟩ := toVL_rep ra h2
      exact .inl ⟨a, _, ea, .inl (SqL.of ha), f1, f2, q⟩
    · cases ho
  · split at ho
    · rename_i v vs h1 h2
      cases ho
      obtain ⟨a, us, ea, _, ha, ra⟩ := py
      obtain ⟨rfl, f1⟩ := toV_pk px h1
      obtain ⟨rfl, f2⟩ := toVL_rep ra h2
      exact .inl ⟨a, _, ea, .inr (SqT.of ha), f1, f2, q⟩
    · cases ho
  · cases ho
    exact .inr ⟨_, _, px, py, q⟩
  · cases ho
theorem CmOk.notIn : CmOk X (compareOp .NotIn) cNotIn := by
  refine ⟨_, op_notIn_seq.or op_notIn_sign, fun T P H dx dy x y k Q px py ho q => ?_⟩
  obtain ⟨k', ho2, rfl⟩ := Option.map_eq_some_iff.mp ho
  unfold cIn at ho2
  split at ho2
  · split at ho2
    · rename_i v vs h1 h2
      cases ho2
      obtain ⟨a, us, ea, ha, ra⟩ := py
      obtain ⟨rfl, f1⟩ := toV_pk px h1
      obtain ⟨rfl, f2⟩ := toVL_rep ra h2
      exact .inl ⟨a, _, ea, .inl (SqL.of ha), f1, f2, q⟩
    · cases ho2
  · split at ho2
    · rename_i v vs h1 h2
      cases ho2
      obtain ⟨a, us, ea, _, ha, ra⟩ := py
      obtain ⟨rfl, f1⟩ := toV_pk px h1
      obtain ⟨rfl, f2⟩ := toVL_rep ra h2
      exact .inl ⟨a, _, ea, .inr (SqT.of ha), f1, f2, q⟩
    · cases ho2
  · cases ho2
    exact .inr ⟨_, _, px, py, q⟩
  · cases ho2
/-- is None (the right side the constant) -/
def isNone : D → Bool
  | .non => true
  | _ => false
theorem pk_non {d : D} {v : V} (r : Pk T H P d v) : decide (v = .non) = isNone d := by
  cases d with
  | non => rw [show v = .non from r]; rfl
  | bl b => rw [show v = .bl b from r]; rfl
  | int i => rw [show v = .int i from r]; rfl
  | str s => rw [show v = .str s from r]; rfl
  | lst xs => obtain ⟨a, vs, rfl, _⟩ := r; rfl
  | tup xs => obtain ⟨a, vs, rfl, _⟩ := r; rfl
  | frz xs => obtain ⟨a, o, vs, rfl, _⟩ := r; rfl
  | dct ks xs => obtain ⟨a, vs, rfl, _⟩ := r; rfl
  | obj c xs => obtain ⟨a, dx, vs, rfl, _⟩ := r; rfl
def cIs (d e : D) : Option Bool := if isNone e then some (isNone d) else none
def cIsNot (d e : D) : Option Bool := if isNone e then some (!isNone d) else none
theorem CmOk.is : CmOk X (compareOp .Is) cIs := by
  refine ⟨_, op_isN, fun T P H dx dy x y k Q px py ho q => ?_⟩
  unfold cIs at ho
  split at ho
  · rename_i hn
    cases ho
    have := pk_non py
    rw [hn] at this
    exact ⟨of_decide_eq_true this, by rw [pk_non px]; exact q⟩
  · cases ho
theorem CmOk.isNot : CmOk X (compareOp .IsNot) cIsNot := by
  refine ⟨_, op_notN, fun T P H dx dy x y k Q px py ho q => ?_⟩
  unfold cIsNot at ho
  split at ho
  · rename_i hn
    cases ho
    have := pk_non py
    rw [hn] at this
    exact ⟨of_decide_eq_true this, by rw [pk_non px]; exact q⟩
  · cases ho

/-! ### tests -/
variable {mt mu : M Bool} {rest : List Expr}
/-- a value's truth -/
def tru : D → Option Bool
  | .non => some false
  | .bl b => some b
  | .int i => some (i != 0)
  | .str s => if s.length ≤ LIM then some ((s.length : Int) != 0) else none
  | .lst xs => some (!xs.isEmpty)
  | .tup xs => some (!xs.isEmpty)
  | .dct ks _ => some (!ks.isEmpty)
  | _ => none
theorem isEmpty_len {α β : Type} {xs : List α} {ys : List β} (h : xs.length = ys.length) : xs.isEmpty = ys.isEmpty := by
  cases xs <;> cases ys <;> simp_all
theorem Pk.tru {K : PySem.W.Frag} {d : D} {v : V} {k : Bool} (r : Pk T H P d v) (h : tru d = some k) : TruV K v H k := by
  cases d with
  | non => rw [show v = .non from r]; cases h; rfl
  | bl b => rw [show v = .bl b from r]; cases h; rfl
  | int i => rw [show v = .int i from r]; cases h; rfl
  | str s =>
    rw [show v = .str s from r]
    simp only [DV.tru] at h
    split at h
    · rename_i hz; cases h; exact ⟨by rw [← lim_eq]; exact hz, rfl⟩
    · cases h
  | lst xs => obtain ⟨a, vs, rfl, ha, ra⟩ := r; cases h; exact .inl ⟨vs, SqL.of ha, by rw [isEmpty_len ra.length]⟩
  | tup xs => obtain ⟨a, vs, rfl, _, ha, ra⟩ := r; cases h; exact .inr (.inl ⟨vs, SqT.of ha, by rw [isEmpty_len ra.length]⟩)
  | dct ks xs =>
    obtain ⟨a, vs, rfl, ha, l, ra⟩ := r; cases h
    refine .inr (.inr ⟨_, ha, ?_⟩)
    have : ks.length = (ks.zip vs).length := by rw [List.length_zip, ← l, Nat.min_self]
    rw [isEmpty_len this]
  | _ => cases h
def mTru (m : M Hv) : M Bool := m1 m fun d => M.ofO (tru d)
theorem dt_tru (ha : DH X W T O a ma) (he : ∀ whole, isTrue a X.env whole = (do let v ← whole; standAt a.pos; holding [v] (truthy v)) := by intro _; rfl) : DT X W T O a (mTru ma) := by
  refine PT.of (pt_truth ha he) fun σ H Q w => wpG.mono (wp1 w) fun x H1 ⟨e, d, j, p, w⟩ => ?_
  cases q : tru d with
  | none => rw [q] at w; exact w.elim
  | some k => rw [q] at w; exact ⟨k, p.tru q, w k H1 Tr.refl nwN ⟨rfl, j⟩⟩
def mNot (m : M Bool) : M Bool := M.bind m fun b => M.pure (!b)
theorem wpT_bind {f : Bool → M Bool} {Q : Bool → Hp → Prop} (w : wpG T O W (RB T O σ) (M.bind mt f) σ H Q) : wpG T O W (RB T O σ) mt σ H fun b H1 => ∃ e1, J T O σ e1 H1 ∧ wpR T O W (RB T O σ) (f b e1) σ e1 H1 Q := by
  refine wpG.mono (wpG.bind (R' := RB T O σ) w) fun b H1 ⟨x, e1, ⟨q, j⟩, w⟩ => ?_
  subst q
  exact ⟨e1, j, w⟩
theorem dt_not (h : DT X W T O a mt) : DT X W T O (.UnaryOp .Not a pos) (mNot mt) := by
  refine PT.of (pt_not h) fun σ H Q w => wpG.mono (wpT_bind w) fun b H1 ⟨e, j, w⟩ => ?_
  exact w (!b) H1 Tr.refl nwN ⟨rfl, j⟩
def mAnd (m n : M Bool) : M Bool := M.bind m fun b => if b then n else M.pure false
def mOr (m n : M Bool) : M Bool := M.bind m fun b => if b then M.pure true else n
def DW (X : Cx) (W : WX) (T : Tbl) (O : Addr → Prop) (x : Expr) (m : M Bool) : Prop := PW X x (fun σ H Q => wpG T O W (RB T O σ) m σ H Q)
theorem PW.of {x : Expr} {t t' : TT} (h : PW X x t) (hm : ∀ σ H Q, t' σ H Q → t σ H Q) : PW X x t' := ⟨fun wh pins s σ H Q I w => h.run wh pins s σ H Q I (hm σ H Q w)⟩
theorem dt_w (h : DW X W T O a mt) : DT X W T O a mt := L2.PW.pt h
theorem dw_and1 (h : DT X W T O a mt) : DW X W T O (.BoolOp .And [a] pos) mt := pw_and1 h
theorem dw_or1 (h : DT X W T O a mt) : DW X W T O (.BoolOp .Or [a] pos) mt := pw_or1 h
theorem dw_and (h : DT X W T O a mt) (h2 : DW X W T O (.BoolOp .And (b :: rest) pos) mu) : DW X W T O (.BoolOp .And (a :: b :: rest) pos) (mAnd mt mu) := by
  refine PW.of (pw_and h h2) fun σ H Q w => wpG.mono (wpT_bind w) fun k H1 ⟨e, j, w⟩ => ?_
  cases k with
  | false => rw [if_neg Bool.false_ne_true]; exact w false H1 Tr.refl nwN ⟨rfl, j⟩
  | true => rw [if_pos rfl]; exact ⟨e, j, w⟩
theorem dw_or (h : DT X W T O a mt) (h2 : DW X W T O (.BoolOp .Or (b :: rest) pos) mu) : DW X W T O (.BoolOp .Or (a :: b :: rest) pos) (mOr mt mu) := by
  refine PW.of (pw_or h h2) fun σ H Q w => wpG.mono (wpT_bind w) fun k H1 ⟨e, j, w⟩ => ?_
  cases k with
  | true => rw [if_pos rfl]; exact w true H1 Tr.refl nwN ⟨rfl, j⟩
  | false => rw [if_neg Bool.false_ne_true]; exact ⟨e, j, w⟩
/-! and, or, not as values: truth values -/
def mB (m : M Hv) : M Bool := m1 m fun d => match d with | .bl b => M.pure b | _ => M.bad
def mOfB (m : M Bool) : M (D × Bool) := M.bind m fun b => M.pure (.bl b, false)
def mAndV (ma : M Hv) (mb : M (D × Bool)) : M (D × Bool) := m1 ma fun d => match d with | .bl true => mb | .bl false => M.pure (.bl false, false) | _ => M.bad
def mOrV (ma : M Hv) (mb : M (D × Bool)) : M (D × Bool) := m1 ma fun d => match d with | .bl false => mb | .bl true => M.pure (.bl true, false) | _ => M.bad
theorem de_one {op} {m : M (D × Bool)} (h : DE X W T O a m) : DE X W T O (.BoolOp op [a] pos) m := pe_one h
theorem de_and {m : M (D × Bool)} (h : DH X W T O a ma) (h2 : DE X W T O (.BoolOp .And (b :: rest) pos) m) : DE X W T O (.BoolOp .And (a :: b :: rest) pos) (mAndV ma m) := by
  refine PE.of (pe_and h h2) fun σ H Q w => wpG.mono (wp1 w) fun x H1 ⟨e, d, j, p, w⟩ => ?_
  cases d with
  | bl k =>
    refine ⟨k, p, ?_⟩
    cases k with
    | true => rw [if_pos rfl]; exact ⟨e, j, w⟩
    | false => rw [if_neg Bool.false_ne_true]; exact w (.bl false) H1 Tr.refl nwF ⟨j, by simp only [Rep]⟩
  | _ => exact w.elim
theorem de_or {m : M (D × Bool)} (h : DH X W T O a ma) (h2 : DE X W T O (.BoolOp .Or (b :: rest) pos) m) : DE X W T O (.BoolOp .Or (a :: b :: rest) pos) (mOrV ma m) := by
  refine PE.of (pe_or h h2) fun σ H Q w => wpG.mono (wp1 w) fun x H1 ⟨e, d, j, p, w⟩ => ?_
  cases d with
  | bl k =>
    refine ⟨k, p, ?_⟩
    cases k with
    | false => rw [if_neg Bool.false_ne_true]; exact ⟨e, j, w⟩
    | true => rw [if_pos rfl]; exact w (.bl true) H1 Tr.refl nwF ⟨j, by simp only [Rep]⟩
  | _ => exact w.elim
def opNot : D → Option (D × Bool)
  | .bl b => some (.bl (!b), false)
  | _ => none
theorem de_not (ha : DH X W T O a ma) : DE X W T O (.UnaryOp .Not a pos) (mUn opNot ma) := by
  refine PE.of (pe_not ha) fun σ H Q w => wpG.mono (wp1 w) fun x H1 ⟨e, d, j, p, w⟩ => ?_
  cases d with
  | bl k => exact ⟨k, p, out_val j w rfl (by simp only [Rep])⟩
  | _ => exact bad_out w rfl
def mIf {α : Type} (t : M Bool) (m n : M α) : M α := M.bind t fun b => if b then m else n
theorem de_ife {m n : M (D × Bool)} (ht : DT X W T O c mt) (ha : DE X W T O a m) (hb : DE X W T O b n) : DE X W T O (.IfExp c a b pos) (mIf mt m n) := by
  refine PE.of (pe_ifExp ht ha hb) fun σ H Q w => ?_
  refine wpG.mono (wpG.bind (R' := RB T O σ) w) fun k H1 ⟨x, e1, ⟨q, j⟩, w⟩ => ?_
  subst q
  cases k with
  | true => rw [if_pos rfl]; exact ⟨e1, j, w⟩
  | false => rw [if_neg Bool.false_ne_true]; exact ⟨e1, j, w⟩
end
end DV
-- DvF
namespace DV
open PySem PySem.Spec PyProof.Rows L2
section
variable {T : Tbl} {O O' : Addr → Prop} {σ : St} {e e1 e2 : Env} {H H1 H2 H' : Hp} {P : Addr → Prop} {X : Cx} {W : WX} {a b c : Expr} {ma mb mc : M Hv} {pos : Pos} {x : Str} {es : List Expr} {p : Pos}
/-! ### built-in calls -/
def CaOk (X : Cx) (f : Value) (o : List D → Option (D × Bool)) : Prop :=
  ∃ r : List V → Hp → VK → Prop, CallR X f r ∧ ∀ (W : WX) (T : Tbl) (O : Addr → Prop) (σ : St) (e : Env) (H : Hp) (ds : List D) (vs : List V) (Q : VK), J T O σ e H → PkL T H (Or2 O (Own σ e)) ds vs → wpR T O W (RV T O σ) (pOut (o ds) e) σ e H Q → r vs H Q
def mCall (o : List D → Option (D × Bool)) (m : M (List Hv)) : M (D × Bool) := mA m fun ds => pOut (o ds)
theorem de_callB {id : String} {o : List D → Option (D × Bool)} {m : M (List Hv)} (hc : CaOk X (.builtin id) o) (hm : X.mg x = none) (hv : bootBuiltins x = some (.builtin id)) (ha : DA X W T O (a :: es) m) (hg : Gl X x := by rfl) (hn : x ≠ "__name__" := by decide) (hdb : (x == ("__debug__" : Str)) = false := by decide)
    (he : starEach (a :: es) X.env = (false, eval a X.env) :: starEach es X.env := by rfl) (hpl : (backTo pos (starEach es X.env)).any (·.1) = false := by rfl) : DE X W T O (.Call (.Name x p) (a :: es) [] pos) (mCall o m) := by
  obtain ⟨r, hr, hi⟩ := hc
  exact PE.of (pe_callB hr hg hm hv ha hn hdb he hpl) fun σ H Q w => wpG.mono (wpA w) fun vs H1 ⟨e, ds, j, pk, w⟩ => hi W T O σ e H1 ds vs Q j pk w
theorem de_callT {id : String} {o : List D → Option (D × Bool)} {m : M (List Hv)} (hc : CaOk X (.type id) o) (hm : X.mg x = none) (hv : bootBuiltins x = some (.type id)) (ha : DA X W T O (a :: es) m) (hg : Gl X x := by rfl) (hn : x ≠ "__name__" := by decide) (hdb : (x == ("__debug__" : Str)) = false := by decide)
    (he : starEach (a :: es) X.env = (false, eval a X.env) :: starEach es X.env := by rfl) (hpl : (backTo pos (starEach es X.env)).any (·.1) = false := by rfl) : DE X W T O (.Call (.Name x p) (a :: es) [] pos) (mCall o m) := by
  obtain ⟨r, hr, hi⟩ := hc
  exact PE.of (pe_callTy hr hg hm hv ha hn hdb he hpl) fun σ H Q w => wpG.mono (wpA w) fun vs H1 ⟨e, ds, j, pk, w⟩ => hi W T O σ e H1 ds vs Q j pk w
theorem pk1 {d : D} {vs : List V} (h : PkL T H P [d] vs) : ∃ v, vs = [v] ∧ Pk T H P d v := by
  obtain ⟨v, r, rfl, q, z⟩ := h
  have z : r = [] := z
  subst z
  exact ⟨v, rfl, q⟩
theorem pk2 {d d' : D} {vs : List V} (h : PkL T H P [d, d'] vs) : ∃ v u, vs = [v, u] ∧ Pk T H P d v ∧ Pk T H P d' u := by
  obtain ⟨v, r, rfl, q, z⟩ := h
  obtain ⟨u, rfl, q'⟩ := pk1 z
  exact ⟨v, u, rfl, q, q'⟩
def f1 (f : D → Option (D × Bool)) : List D → Option (D × Bool)
  | [d] => f d
  | _ => none
def f2 (f : D → D → Option (D × Bool)) : List D → Option (D × Bool)
  | [d, d'] => f d d'
  | _ => none
/-- a rule for one argument -/
theorem caOk1 {f : Value} {o : D → Option (D × Bool)} {r : List V → Hp → VK → Prop} (h : CallR X f r)
    (hi : ∀ (W : WX) (T : Tbl) (O : Addr → Prop) (σ : St) (e : Env) (H : Hp) (d : D) (v : V) (Q : VK) (z : D × Bool), J T O σ e H → Pk T H (Or2 O (Own σ e)) d v → o d = some z → wpR T O W (RV T O σ) (pOut (some z) e) σ e H Q → r [v] H Q) : CaOk X f (f1 o) := by
  refine ⟨r, h, fun W T O σ e H ds vs Q j pk w => ?_⟩
  match ds with
  | [d] =>
    obtain ⟨v, rfl, q⟩ := pk1 pk
    cases qo : o d with
    | none => exact bad_out w (by show o d = none; exact qo)
    | some z => exact hi W T O σ e H d v Q z j q qo (by have w : wpR T O W (RV T O σ) (pOut (o d) e) σ e H Q := w; rw [qo] at w; exact w)
  | [] => exact bad_out w rfl
  | _ :: _ :: _ => exact bad_out w rfl
theorem caOk2 {f : Value} {o : D → D → Option (D × Bool)} {r : List V → Hp → VK → Prop} (h : CallR X f r)
    (hi : ∀ (W : WX) (T : Tbl) (O : Addr → Prop) (σ : St) (e : Env) (H : Hp) (d d' : D) (v u : V) (Q : VK) (z : D × Bool), J T O σ e H → Pk T H (Or2 O (Own σ e)) d v → Pk T H (Or2 O (Own σ e)) d' u → o d d' = some z → wpR T O W (RV T O σ) (pOut (some z) e) σ e H Q → r [v, u] H Q) : CaOk X f (f2 o) := by
  refine ⟨r, h, fun W T O σ e H ds vs Q j pk w => ?_⟩
  match ds with
  | [d, d'] =>
    obtain ⟨v, u, rfl, q, q'⟩ := pk2 pk
    cases qo : o d d' with
    | none => exact bad_out w (by show o d d' = none; exact qo)
    | some z => exact hi W T O σ e H d d' v u Q z j q q' qo (by have w : wpR T O W (RV T O σ) (pOut (o d d') e) σ e H Q := w; rw [qo] at w; exact w)
  | [] => exact bad_out w rfl
  | [_] => exact bad_out w rfl
  | _ :: _ :: _ :: _ => exact bad_out w rfl
def oLen : D → Option (D × Bool)
  | .lst xs => some (.int xs.length, false)
  | .tup xs => some (.int xs.length, false)
  | .frz xs => some (.int xs.length, false)
  | .str s => if s.length ≤ LIM then some (.int s.length, false) else none
  | _ => none
theorem CaOk.len : CaOk X (.builtin "len") (f1 oLen) := caOk1 call_len fun W T O σ e H d v Q z j pk ho w => by
  cases d with
  | lst xs =>
    cases ho
    obtain ⟨a, vs, rfl, ha, ra⟩ := pk
    exact ⟨_, vs.length, rfl, .inl ⟨vs, SqL.of ha, rfl⟩, out_val j w (by rw [ra.length]) (by simp only [Rep])⟩
  | tup xs =>
    cases ho
    obtain ⟨a, vs, rfl, _, ha, ra⟩ := pk
    exact ⟨_, vs.length, rfl, .inr ⟨vs, SqT.of ha, rfl⟩, out_val j w (by rw [ra.length]) (by simp only [Rep])⟩
  | frz xs =>
    cases ho
    obtain ⟨a, o, vs, rfl, ha, ra⟩ := pk
    exact ⟨_, vs.length, rfl, .inl ⟨vs, .inl (.inr ⟨o, ha⟩), rfl⟩, out_val j w (by rw [ra.length]) (by simp only [Rep])⟩
  | str s =>
    simp only [oLen] at ho
    split at ho
    · rename_i hz
      cases ho
      rw [show v = .str s from pk]
      exact ⟨_, s.length, rfl, ⟨by rw [← lim_eq]; exact hz, rfl⟩, out_val j w rfl (by simp only [Rep])⟩
    · cases ho
  | _ => cases ho
def oInt : D → Option (D × Bool)
  | .int i => some (.int i, false)
  | .bl k => some (.int (if k then 1 else 0), false)
  | _ => none
theorem CaOk.int : CaOk X (.type "int") (f1 oInt) := caOk1 call_int1 fun W T O σ e H d v Q z j pk ho w => by
  cases d with
  | int i => cases ho; rw [show v = .int i from pk]; exact .inl ⟨i, rfl, out_val j w rfl (by simp only [Rep])⟩
  | bl i => cases ho; rw [show v = .bl i from pk]; exact .inr ⟨i, rfl, out_val j w rfl (by simp only [Rep])⟩
  | _ => cases ho
def oAbs : D → Option (D × Bool)
  | .int i => some (.int (if i < 0 then -i else i), false)
  | _ => none
theorem CaOk.abs : CaOk X (.builtin "abs") (f1 oAbs) := caOk1 call_abs fun W T O σ e H d v Q z j pk ho w => by
  cases d with
  | int i => cases ho; rw [show v = .int i from pk]; exact ⟨i, rfl, out_val j w rfl (by simp only [Rep])⟩
  | _ => cases ho
def oStr : D → Option (D × Bool)
  | .int i => if i.natAbs.log2 < 1920 then some (.str (toString i), false) else none
  | _ => none
theorem CaOk.str : CaOk X (.type "str") (f1 oStr) := caOk1 call_str_int fun W T O σ e H d v Q z j pk ho w => by
  cases d with
  | int i =>
    simp only [oStr] at ho
    split at ho
    · rename_i hz; cases ho; rw [show v = .int i from pk]; exact ⟨i, rfl, hz, out_val j w rfl (by simp only [Rep])⟩
    · cases ho
  | _ => cases ho
def oList : D → Option (D × Bool)
  | .lst xs => some (.lst xs, true)
  | .tup xs => some (.lst xs, true)
  | .frz xs => some (.lst xs, true)
  | _ => none
theorem CaOk.list : CaOk X (.type "list") (f1 oList) := caOk1 call_list_of fun W T O σ e H d v Q z j pk ho w => by
  cases d with
  | lst xs => cases ho; obtain ⟨a, vs, rfl, ha, ra⟩ := pk; exact ⟨_, vs, rfl, .inl (SqL.of ha), fun p hp => out_newL j hp w rfl ra⟩
  | tup xs => cases ho; obtain ⟨a, vs, rfl, _, ha, ra⟩ := pk; exact ⟨_, vs, rfl, .inr (SqT.of ha), fun p hp => out_newL j hp w rfl ra⟩
  | frz xs => cases ho; obtain ⟨a, o, vs, rfl, ha, ra⟩ := pk; exact ⟨_, vs, rfl, .inl (.inl (.inr ⟨o, ha⟩)), fun p hp => out_newL j hp w rfl ra⟩
  | _ => cases ho
def oTuple : D → Option (D × Bool)
  | .lst xs => some (.tup xs, false)
  | .tup xs => some (.tup xs, false)
  | _ => none
theorem CaOk.tuple : CaOk X (.type "tuple") (f1 oTuple) := caOk1 call_tuple_of fun W T O σ e H d v Q z j pk ho w => by
  cases d with
  | lst xs => cases ho; obtain ⟨a, vs, rfl, ha, ra⟩ := pk; exact ⟨_, vs, rfl, .inl ⟨SqL.of ha, fun p hp => out_tup j hp w rfl ra⟩⟩
  | tup xs =>
    cases ho
    obtain ⟨a, vs, rfl, na, ha, ra⟩ := pk
    refine ⟨_, vs, rfl, .inr ⟨SqT.of ha, out_val j w rfl ?_⟩⟩
    simp only [Rep]
    exact ⟨a, vs, rfl, na, ha, ra⟩
  | _ => cases ho
def toInts : List D → Option (List Int)
  | [] => some []
  | .int i :: xs => (toInts xs).map (i :: ·)
  | _ => none
theorem toInts_eq : ∀ {xs : List D} {ns : List Int}, toInts xs = some ns → xs = ns.map D.int
  | [], ns, h => by cases h; rfl
  | .int i :: xs, ns, h => by
    simp only [toInts] at h
    obtain ⟨ms, h1, rfl⟩ := Option.map_eq_some_iff.mp h
    rw [toInts_eq h1]; rfl
  | .non :: _, _, h => by cases h
  | .bl _ :: _, _, h => by cases h
  | .str _ :: _, _, h => by cases h
  | .lst _ :: _, _, h => by cases h
  | .tup _ :: _, _, h => by cases h
  | .frz _ :: _, _, h => by cases h
  | .dct _ _ :: _, _, h => by cases h
  | .obj _ _ :: _, _, h => by cases h
theorem toInts_map (ns : List Int) : toInts (ns.map D.int) = some ns := by
  induction ns with
  | nil => rfl
  | cons n ns ih => simp [toInts, ih]
def toBls : List D → Option (List Bool)
  | [] => some []
  | .bl i :: xs => (toBls xs).map (i :: ·)
  | _ => none
theorem toBls_eq : ∀ {xs : List D} {ns : List Bool}, toBls xs = some ns → xs = ns.map D.bl
  | [], ns, h => by cases h; rfl
  | .bl i :: xs, ns, h => by
    simp only [toBls] at h
    obtain ⟨ms, h1, rfl⟩ := Option.map_eq_some_iff.mp h
    rw [toBls_eq h1]; rfl
  | .non :: _, _, h => by cases h
  | .int _ :: _, _, h => by cases h
  | .str _ :: _, _, h => by cases h
  | .lst _ :: _, _, h => by cases h
  | .tup _ :: _, _, h => by cases h
  | .frz _ :: _, _, h => by cases h
  | .dct _ _ :: _, _, h => by cases h
  | .obj _ _ :: _, _, h => by cases h
theorem toBls_map (ns : List Bool) : toBls (ns.map D.bl) = some ns := by
  induction ns with
  | nil => rfl
  | cons n ns ih => simp [toBls, ih]
def ints? : D → Option (List Int)
  | .lst xs => toInts xs
  | .tup xs => toInts xs
  | _ => none
theorem Pk.ints {d : D} {v : V} {ns : List Int} (r : Pk T H P d v) (h : (match d with | .lst xs => toInts xs | _ => none) = some ns) : ∃ a, v = .ref a ∧ H a = some (.lst (ns.map V.int)) := by
  cases d with
  | lst xs =>
    obtain ⟨a, vs, rfl, ha, ra⟩ := r
    have := toInts_eq h
    subst this
    exact ⟨a, rfl, by rw [ha, ra.ints]⟩
  | _ => cases h
def oSum (d : D) : Option (D × Bool) := match d with | .lst xs => (toInts xs).map fun ns => (.int ns.sum, false) | _ => none
theorem CaOk.sum (hc : X.calm = true) : CaOk X (.builtin "sum") (f1 oSum) := caOk1 (cr_sum hc) fun W T O σ e H d v Q z j pk ho w => by
  cases d with
  | lst xs =>
    obtain ⟨ns, h1, rfl⟩ := Option.map_eq_some_iff.mp ho
    obtain ⟨a, rfl, ha⟩ := Pk.ints pk h1
    exact ⟨a, ns, rfl, SqL.of ha, out_val j w rfl (by simp only [Rep])⟩
  | _ => cases ho
def maxI : List Int → Int
  | [] => 0
  | [n] => n
  | n :: ns => max n (maxI ns)
def minI : List Int → Int
  | [] => 0
  | [n] => n
  | n :: ns => min n (minI ns)
theorem maxI_mem : ∀ {ns : List Int}, ns ≠ [] → maxI ns ∈ ns ∧ ∀ m ∈ ns, m ≤ maxI ns
  | [], h => absurd rfl h
  | [n], _ => by simp [maxI]
  | n :: m :: ns, _ => by
    obtain ⟨h1, h2⟩ := maxI_mem (ns := m :: ns) (by simp)
    have e : maxI (n :: m :: ns) = max n (maxI (m :: ns)) := rfl
    rw [e]
    refine ⟨?_, fun k hk => ?_⟩
    · rcases Int.le_total n (maxI (m :: ns)) with h | h
      · rw [Int.max_eq_right h]; exact List.mem_cons_of_mem _ h1
      · rw [Int.max_eq_left h]; exact List.mem_cons_self
    · rcases List.mem_cons.mp hk with rfl | hk
      · omega
      · have := h2 k hk; omega
theorem minI_mem : ∀ {ns : List Int}, ns ≠ [] → minI ns ∈ ns ∧ ∀ m ∈ ns, minI ns ≤ m
  | [], h => absurd rfl h
  | [n], _ => by simp [minI]
  | n :: m :: ns, _ => by
    obtain ⟨h1, h2⟩ := minI_mem (ns := m :: ns) (by simp)
    have e : minI (n :: m :: ns) = min n (minI (m :: ns)) := rfl
    rw [e]
    refine ⟨?_, fun k hk => ?_⟩
    · rcases Int.le_total n (minI (m :: ns)) with h | h
      · rw [Int.min_eq_left h]; exact List.mem_cons_self
      · rw [Int.min_eq_right h]; exact List.mem_cons_of_mem _ h1
    · rcases List.mem_cons.mp hk with rfl | hk
      · omega
      · have := h2 k hk; omega
def oMax (d : D) : Option (D × Bool) := match d with | .lst xs => (toInts xs).bind fun ns => if ns = [] then none else some (.int (maxI ns), false) | _ => none
def oMin (d : D) : Option (D × Bool) := match d with | .lst xs => (toInts xs).bind fun ns => if ns = [] then none else some (.int (minI ns), false) | _ => none
theorem CaOk.max (hc : X.calm = true) : CaOk X (.builtin "max") (f1 oMax) := caOk1 (cr_max hc) fun W T O σ e H d v Q z j pk ho w => by
  cases d with
  | lst xs =>
    obtain ⟨ns, h1, h2⟩ := Option.bind_eq_some_iff.mp ho
    split at h2
    · cases h2
    · rename_i hne
      cases h2
      obtain ⟨a, rfl, ha⟩ := Pk.ints pk h1
      refine ⟨a, ns, rfl, SqL.of ha, List.length_pos_iff.mpr hne, fun m hm hle => ?_⟩
      obtain ⟨k1, k2⟩ := maxI_mem hne
      have e1 := hle _ k1
      have e2 := k2 m hm
      have : m = maxI ns := by omega
      subst this
      exact out_val j w rfl (by simp only [Rep])
  | _ => cases ho
theorem CaOk.min (hc : X.calm = true) : CaOk X (.builtin "min") (f1 oMin) := caOk1 (cr_min hc) fun W T O σ e H d v Q z j pk ho w => by
  cases d with
  | lst xs =>
    obtain ⟨ns, h1, h2⟩ := Option.bind_eq_some_iff.mp ho
    split at h2
    · cases h2
    · rename_i hne
      cases h2
      obtain ⟨a, rfl, ha⟩ := Pk.ints pk h1
      refine ⟨a, ns, rfl, SqL.of ha, List.length_pos_iff.mpr hne, fun m hm hle => ?_⟩
      obtain ⟨k1, k2⟩ := minI_mem hne
      have e1 := hle _ k1
      have e2 := k2 m hm
      have : m = minI ns := by omega
      subst this
      exact out_val j w rfl (by simp only [Rep])
  | _ => cases ho
def oMax2 : D → D → Option (D × Bool)
  | .int i, .int j => some (.int (if j > i then j else i), false)
  | _, _ => none
def oMin2 : D → D → Option (D × Bool)
  | .int i, .int j => some (.int (if j < i then j else i), false)
  | _, _ => none
theorem CaOk.max2 (hc : X.calm = true) : CaOk X (.builtin "max") (f2 oMax2) := caOk2 (call_max2 hc) fun W T O σ e H d d' v u Q z j pk pk' ho w => by
  unfold oMax2 at ho
  split at ho
  · cases ho
    rw [show v = .int _ from pk, show u = .int _ from pk']
    exact ⟨_, _, rfl, out_val j w rfl (by simp only [Rep])⟩
  · cases ho
theorem CaOk.min2 (hc : X.calm = true) : CaOk X (.builtin "min") (f2 oMin2) := caOk2 (call_min2 hc) fun W T O σ e H d d' v u Q z j pk pk' ho w => by
  unfold oMin2 at ho
  split at ho
  · cases ho
    rw [show v = .int _ from pk, show u = .int _ from pk']
    exact ⟨_, _, rfl, out_val j w rfl (by simp only [Rep])⟩
  · cases ho
def oAll (d : D) : Option (D × Bool) := match d with | .lst xs => (toBls xs).map fun ns => (.bl (ns.all id), false) | _ => none
def oAny (d : D) : Option (D × Bool) := match d with | .lst xs => (toBls xs).map fun ns => (.bl (ns.any id), false) | _ => none
theorem CaOk.all (hc : X.calm = true) : CaOk X (.builtin "all") (f1 oAll) := caOk1 (cr_all hc) fun W T O σ e H d v Q z j pk ho w => by
  cases d with
  | lst xs =>
    obtain ⟨ns, h1, rfl⟩ := Option.map_eq_some_iff.mp ho
    obtain ⟨a, vs, rfl, ha, ra⟩ := pk
    have := toBls_eq h1
    subst this
    exact ⟨a, ns, rfl, SqL.of (by rw [ha, ra.bls]), out_val j w rfl (by simp only [Rep])⟩
  | _ => cases ho
theorem CaOk.any (hc : X.calm = true) : CaOk X (.builtin "any") (f1 oAny) := caOk1 (cr_any hc) fun W T O σ e H d v Q z j pk ho w => by
  cases d with
  | lst xs =>
    obtain ⟨ns, h1, rfl⟩ := Option.map_eq_some_iff.mp ho
    obtain ⟨a, vs, rfl, ha, ra⟩ := pk
    have := toBls_eq h1
    subst this
    exact ⟨a, ns, rfl, SqL.of (by rw [ha, ra.bls]), out_val j w rfl (by simp only [Rep])⟩
  | _ => cases ho
/-- list(range(n)) -/
def oRange (d : D) : Option (D × Bool) := match d with | .int n => if -(2 ^ 62) ≤ n ∧ n.toNat ≤ LIM then some (.lst ((List.range n.toNat).map fun (i : Nat) => D.int i), true) else none | _ => none
theorem repL_range (n : Nat) : RepL T H P ((List.range n).map fun (i : Nat) => D.int i) ((List.range n).map fun (i : Nat) => V.int i) := by
  have := RepL.of_ints (T := T) (H := H) (P := P) ((List.range n).map fun i => ((i : Nat) : Int))
  simpa [List.map_map, Function.comp_def] using this
theorem de_listRg {p q pos' : Pos} (hc : X.calm = true) (hm : X.mg "list" = none) (hm' : X.mg "range" = none) (ha : DH X W T O a ma) (hg : Gl X "list" := by rfl) (hg' : Gl X "range" := by rfl)
    (na : starEach [.Call (.Name "range" q) [a] [] pos'] X.env = (false, eval (.Call (.Name "range" q) [a] [] pos') X.env) :: starEach [] X.env := by rfl) (na' : starEach [a] X.env = (false, eval a X.env) :: starEach [] X.env := by rfl) :
    DE X W T O (.Call (.Name "list" p) [.Call (.Name "range" q) [a] [] pos'] [] pos) (mUn oRange ma) := by
  refine PE.of (pe_listRg hc hg hm (prg_1 hg' hm' ha na') na) fun σ H Q w => wpG.mono (wp1 w) fun x H1 ⟨e, d, j, p, w⟩ => ?_
  cases d with
  | int n =>
    by_cases hz : -(2 ^ 62) ≤ n ∧ n.toNat ≤ LIM
    · have hl : (LIM : Nat) = 2 ^ 24 := by decide
      refine ⟨n, p, ⟨by decide, by decide, hz.1, by have := hz.2; omega, by have := hz.2; omega⟩, fun q hq => ?_⟩
      refine out_newL j hq w (by show (if _ then _ else _) = _; rw [if_pos hz]) ?_
      have e2 : rgV 0 n = (List.range n.toNat).map fun i => V.int (i : Nat) := by
        unfold rgV
        rw [Int.sub_zero]
        refine List.map_congr_left fun i _ => ?_
        rw [Int.zero_add]
      rw [e2]
      exact repL_range _
    · exact bad_out w (by show (if _ then _ else _) = _; rw [if_neg hz])
  | _ => exact bad_out w rfl
end
end DV
-- DvG
namespace DV
open PySem PySem.Spec PyProof.Rows L2
inductive SO where
  | nx (e : Env) | rt (d : D) (fl : Bool) (e : Env) | bk (e : Env) | ct (e : Env) | exc (c : Nat) (ds : List D) (e : Env) | bad
abbrev MS := Env → SO
section
variable {T : Tbl} {O O' : Addr → Prop} {σ σ1 σ2 : St} {e e1 e2 : Env} {H H1 H2 H' : Hp} {P : Addr → Prop} {X : Cx} {W : WX} {a b c : Expr} {ma mb mc : M Hv} {mt : M Bool} {pos : Pos} {x : Str} {es : List Expr} {p : Pos} {N N' : Ends}
def wpS (T : Tbl) (O : Addr → Prop) (W : WX) (o : SO) (σ : St) (e : Env) (H : Hp) (D : Ends) : Prop :=
  match o with
  | .nx e' => ∀ σ' H', Tr σ e H σ' e' H' → J T O σ' e' H' → D.nx σ' H'
  | .rt d fl e' => ∀ v σ' H', Tr σ e H σ' e' H' → (∀ a, Nw.nw (d, fl) v a → H a = none ∨ Own σ e a) → RV T O σ' (d, fl) v e' H' → D.rt v H'
  | .bk e' => ∀ σ' H', Tr σ e H σ' e' H' → J T O σ' e' H' → D.bk σ' H'
  | .ct e' => ∀ σ' H', Tr σ e H σ' e' H' → J T O σ' e' H' → D.ct σ' H'
  | .exc c ds e' => ∀ dx σ' H', Tr σ e H σ' e' H' → J T O σ' e' H' → ExcAt T H' (Or2 O (Own σ' e')) dx c ds → W (.ref (T.cls c)) (some dx) σ' H'
  | .bad => False
def tS (T : Tbl) (O : Addr → Prop) (W : WX) (m : MS) : TS := fun D σ H => ∃ e, J T O σ e H ∧ wpS T O W (m e) σ e H D
theorem Tr.none {σ' : St} {e' : Env} (t : Tr σ e H σ' e' H') {a : Addr} (h : H' a = none) : H a = none := by
  cases q : H a with
  | none => rfl
  | some o =>
    obtain ⟨o', e1⟩ := t.there a o q
    rw [h] at e1; cases e1
theorem wpS.shift {o : SO} (t : Tr σ e H σ1 e1 H1) (h : wpS T O W o σ e H N) : wpS T O W o σ1 e1 H1 N := by
  cases o with
  | nx e' => exact fun σ' H' t' => h σ' H' (t.trans t')
  | rt d fl e' => exact fun v σ' H' t' n r => h v σ' H' (t.trans t') (fun a z => by
      rcases n a z with q | q
      · exact .inl (t.none q)
      · exact (t.new a q).symm) r
  | bk e' => exact fun σ' H' t' => h σ' H' (t.trans t')
  | ct e' => exact fun σ' H' t' => h σ' H' (t.trans t')
  | exc c ds e' => exact fun dx σ' H' t' => h dx σ' H' (t.trans t')
  | bad => exact h
theorem wpS.ends {o : SO} (h : wpS T O W o σ e H N) (h1 : ∀ σ' H', N.nx σ' H' → N'.nx σ' H') (h2 : ∀ v H', N.rt v H' → N'.rt v H') (h3 : ∀ σ' H', N.bk σ' H' → N'.bk σ' H') (h4 : ∀ σ' H', N.ct σ' H' → N'.ct σ' H') : wpS T O W o σ e H N' := by
  cases o with
  | nx e' => exact fun σ' H' t j => h1 _ _ (h σ' H' t j)
  | rt d fl e' => exact fun v σ' H' t n r => h2 _ _ (h v σ' H' t n r)
  | bk e' => exact fun σ' H' t j => h3 _ _ (h σ' H' t j)
  | ct e' => exact fun σ' H' t j => h4 _ _ (h σ' H' t j)
  | exc c ds e' => exact h
  | bad => exact h
def DS (X : Cx) (W : WX) (T : Tbl) (O : Addr → Prop) (st : Stmt) (m : MS) : Prop := PS X st (tS T O W m)
def DSs (X : Cx) (W : WX) (T : Tbl) (O : Addr → Prop) (st : List Stmt) (m : MS) : Prop := PSs X st (tS T O W m)
theorem PS.of {st : Stmt} {t t' : TS} (h : PS X st t) (hm : ∀ D σ H, t' D σ H → t D σ H) : PS X st t' := ⟨fun pins s σ H D I w => h.run pins s σ H D I (hm D σ H w)⟩
theorem PSs.of {st : List Stmt} {t t' : TS} (h : PSs X st t) (hm : ∀ D σ H, t' D σ H → t D σ H) : PSs X st t' := ⟨fun pins s σ H D I w => h.run pins s σ H D I (hm D σ H w)⟩

/-! ### blocks -/
def sNx : MS := fun e => .nx e
def sSeq (m n : MS) : MS := fun e => match m e with
  | .nx e1 => n e1
  | .rt d fl e1 => .rt d fl e1
  | .bk e1 => .bk e1
  | .ct e1 => .ct e1
  | .exc c ds e1 => .exc c ds e1
  | .bad => .bad
variable {m n : MS} {st : Stmt} {sts : List Stmt}
theorem dss_nil : DSs X W T O [] sNx := PSs.of pss_nil fun D σ H ⟨e, j, w⟩ => w σ H Tr.refl j
theorem dss_one (h : DS X W T O st m) : DSs X W T O [st] m := pss_one h
theorem dss_cons (h : DS X W T O st m) (h2 : DSs X W T O sts n) : DSs X W T O (st :: sts) (sSeq m n) := by
  refine PSs.of (pss_cons h h2) fun D σ H ⟨e, j, w⟩ => ⟨e, j, ?_⟩
  unfold sSeq at w
  cases q : m e with
  | nx e1 => rw [q] at w; exact fun σ' H' t j' => ⟨e1, j', w.shift t⟩
  | rt d fl e1 => rw [q] at w; exact w
  | bk e1 => rw [q] at w; exact w
  | ct e1 => rw [q] at w; exact w
  | exc c ds e1 => rw [q] at w; exact w
  | bad => rw [q] at w; exact w
theorem ds_pass : DS X W T O (.Pass pos) sNx := PS.of ps_pass fun D σ H ⟨e, j, w⟩ => w σ H Tr.refl j
theorem ds_break : DS X W T O (.Break pos) (fun e => .bk e) := PS.of ps_break fun D σ H ⟨e, j, w⟩ => w σ H Tr.refl j
theorem ds_continue : DS X W T O (.Continue pos) (fun e => .ct e) := PS.of ps_continue fun D σ H ⟨e, j, w⟩ => w σ H Tr.refl j
/-- code that is not come to -/
def sBad : MS := fun _ => .bad
theorem ds_never : DS X W T O st sBad := PS.of ps_never fun D σ H ⟨e, j, w⟩ => w
theorem dss_never : DSs X W T O sts sBad := PSs.of pss_never fun D σ H ⟨e, j, w⟩ => w
/-- from an expression to a statement -/
def sOf {α : Type} (m : M α) (f : α → MS) : MS := fun e => match m e with
  | .ok x e1 => f x e1
  | .exc c ds e1 => .exc c ds e1
  | .bad => .bad
theorem wpS_ofR {α β : Type} [Nw α β] {R : α → β → Env → Hp → Prop} {m : M α} {f : α → MS} (w : wpS T O W (sOf m f e) σ e H N) : wpR T O W R (m e) σ e H fun v H1 => ∃ x e1, Tr σ e H σ e1 H1 ∧ (∀ a, Nw.nw x v a → H a = none) ∧ R x v e1 H1 ∧ wpS T O W (f x e1) σ e H N := by
  unfold sOf at w
  cases q : m e with
  | ok x e1 => rw [q] at w; exact fun v H1 t nw r => ⟨x, e1, t, nw, r, w⟩
  | exc c ds e1 => rw [q] at w; exact fun dx H1 t j x => w dx σ H1 t j x
  | bad => rw [q] at w; exact w.elim
theorem wpS_of {α β : Type} [Nw α β] {R : α → β → Env → Hp → Prop} {m : M α} {f : α → MS} (j : J T O σ e H) (w : wpS T O W (sOf m f e) σ e H N) : wpG T O W R m σ H fun v H1 => ∃ x e1, Tr σ e H σ e1 H1 ∧ (∀ a, Nw.nw x v a → H a = none) ∧ R x v e1 H1 ∧ wpS T O W (f x e1) σ e H N := ⟨e, j, wpS_ofR w⟩
/-- an expression alone -/
def sExpr (m : M (D × Bool)) : MS := sOf m fun _ => sNx
theorem ds_expr {me : M (D × Bool)} (h : DE X W T O a me) (hs : swapsWith a none pos.line X.env = pure false := by rfl) : DS X W T O (.Expr a pos) (sExpr me) := by
  refine PS.of (ps_expr h hs) fun D σ H ⟨e, j, w⟩ => wpG.mono (wpS_of (R := RV T O σ) j w) fun v H1 ⟨⟨d, fl⟩, e1, t, _, r, w⟩ => ?_
  exact w σ H1 t r.weak.1
theorem ds_doc {y k pos'} : DS X W T O (.Expr (.Constant (.str y) k pos') pos) sNx := PS.of ps_doc fun D σ H ⟨e, j, w⟩ => w σ H Tr.refl j
/-- return -/
def sRet (m : M (D × Bool)) : MS := sOf m fun x e => .rt x.1 x.2 e
theorem ds_ret {me : M (D × Bool)} (h : DE X W T O a me) : DS X W T O (.Return (some a) pos) (sRet me) := by
  refine PS.of (ps_ret h) fun D σ H ⟨e, j, w⟩ => ?_
  refine ⟨e, j, ?_⟩
  unfold sRet sOf at w
  cases q : me e with
  | ok x e1 => rw [q] at w; exact fun v H1 t nw r => w v σ H1 t (fun a z => .inl (nw a z)) r
  | exc c ds e1 => rw [q] at w; exact fun dx H1 t j x => w dx σ H1 t j x
  | bad => rw [q] at w; exact w.elim
/-- return of a name: what it owns goes out as a new object -/
def sRetV (i : Nat) : MS := fun e => match e[i]? with
  | some (.fz d) => .rt d false e
  | some (.ow d) => .rt d true (e.set i .un)
  | _ => .bad
theorem ds_retN : DS X W T O (.Return none pos) (fun e => .rt .non false e) := PS.of ps_retN fun D σ H ⟨e, j, w⟩ => w .non σ H Tr.refl (fun a z => .inl (nwF a z)) ⟨j, by simp only [Rep]⟩
/-- if -/
def sIf (t : M Bool) (m n : MS) : MS := sOf t fun b => if b then m else n
theorem ds_if {x y : List Stmt} (ht : DT X W T O c mt) (h1 : DSs X W T O x m) (h2 : DSs X W T O y n) : DS X W T O (.If c x y pos) (sIf mt m n) := by
  refine PS.of (ps_if ht h1 h2) fun D σ H ⟨e, j, w⟩ => wpG.mono (wpS_of (R := RB T O σ) j w) fun v H1 ⟨k, e1, t, _, ⟨q, j1⟩, w⟩ => ?_
  subst q
  cases v with
  | true => rw [if_pos rfl]; exact ⟨e1, j1, w.shift t⟩
  | false => rw [if_neg Bool.false_ne_true]; exact ⟨e1, j1, w.shift t⟩

/-! ### stores -/
def setSl (e : Env) (i : Nat) (s : Sl) : Option Env := match e[i]? with
  | some .un => some (e.set i s)
  | some (.fz _) => some (e.set i s)
  | some (.ow _) => some (e.set i s)
  | _ => none
/-- behind a store: a slot that owned nothing that is kept -/
theorem own_put {i : Nat} {s : Sl} {v : V} {b : Addr} (h : Own (σ.set i (some v)) (e.set i s) b) : (v = .ref b ∧ s.own?.isSome = true ∧ i < e.length) ∨ ∃ j t d, j ≠ i ∧ e[j]? = some t ∧ t.own? = some d ∧ σ[j]? = some (some (.ref b)) := by
  obtain ⟨j, t, d, h1, h2, h3⟩ := h
  rcases get_set h1 with ⟨rfl, rfl⟩ | ⟨n, q⟩
  · rcases get_set h3 with ⟨_, e1⟩ | ⟨n', _⟩
    · cases e1
      exact .inl ⟨rfl, by rw [h2]; rfl, by simpa using lt_of_get h1⟩
    · exact absurd rfl n'
  · rcases get_set h3 with ⟨z, _⟩ | ⟨_, q3⟩
    · exact absurd z n
    · exact .inr ⟨j, t, d, n, q, h2, q3⟩
theorem free_of {i : Nat} {e' : Env} {s : Sl} (h : setSl e i s = some e') : e' = e.set i s ∧ i < e.length ∧ (∀ d, e[i]? ≠ some (.lk d)) ∧ (∀ d, e[i]? ≠ some (.io d)) := by
  unfold setSl at h
  split at h <;> first
    | (cases h)
    | skip
  all_goals (rename_i q; first | (exact ⟨rfl, lt_of_get q, (fun d z => by rw [q] at z; cases z), (fun d z => by rw [q] at z; cases z)⟩) | (rename_i q _; exact ⟨rfl, lt_of_get q, (fun d z => by rw [q] at z; cases z), (fun d z => by rw [q] at z; cases z)⟩))
theorem J.put_fz (j : J T O σ e H) {i : Nat} {e' : Env} {d : DV.D} {v : V} (h : setSl e i (.fz d) = some e') (r : Rep T H (Or2 O (Own σ e)) d v) : J T O (σ.set i (some v)) e' H ∧ Tr σ e H (σ.set i (some v)) e' H := by
  obtain ⟨rfl, hi, nl, ni⟩ := free_of h
  have sub : ∀ b, Own (σ.set i (some v)) (e.set i (.fz d)) b → Own σ e b := fun b z => by
    rcases own_put z with ⟨_, z, _⟩ | ⟨k, t, d', n, q1, q2, q3⟩
    · cases z
    · exact ⟨k, t, d', q1, q2, q3⟩
  have m : ∀ b o, ¬ Or2 O (Own σ e) b → H b = some o → H b = some o ∧ ¬ Or2 O (Own (σ.set i (some v)) (e.set i (.fz d))) b := fun b o n q => ⟨q, fun z => n (z.imp id (sub b))⟩
  have hσ : i < σ.length := by rw [← j.len]; exact hi
  refine ⟨⟨by rw [List.length_set, List.length_set]; exact j.len, fun k d' q => ?_, fun k s d' q hs => ?_, fun k l s t d1 d2 b q1 o1 q2 o2 a1 a2 => ?_, fun b z => j.no b (sub b z), j.dom⟩, ⟨fun _ _ q _ => q, fun b z => .inl (sub b z), fun b o q => ⟨o, q⟩, fun k d' q => ?_, fun k d' q => ?_⟩⟩
  · rcases get_set q with ⟨rfl, e1⟩ | ⟨n, q⟩
    · cases e1
      exact ⟨v, by rw [List.getElem?_set_self hσ], r.mono m⟩
    · obtain ⟨u, e1, r'⟩ := j.fz k d' q
      exact ⟨u, by rw [List.getElem?_set_ne (Ne.symm n)]; exact e1, r'.mono m⟩
  · rcases get_set q with ⟨rfl, e1⟩ | ⟨n, q⟩
    · subst e1; cases hs
    · obtain ⟨b, e1, r'⟩ := j.ow k s d' q hs
      exact ⟨b, by rw [List.getElem?_set_ne (Ne.symm n)]; exact e1, r'.mono m rfl⟩
  · rcases get_set q1 with ⟨rfl, z⟩ | ⟨n1, q1⟩
    · subst z; cases o1
    · rcases get_set q2 with ⟨rfl, z⟩ | ⟨n2, q2⟩
      · subst z; cases o2
      · rw [List.getElem?_set_ne (Ne.symm n1)] at a1
        rw [List.getElem?_set_ne (Ne.symm n2)] at a2
        exact j.inj k l s t d1 d2 b q1 o1 q2 o2 a1 a2
  · have n : i ≠ k := fun z => by subst z; exact nl _ q
    exact ⟨by rw [List.getElem?_set_ne n]; exact q, by rw [List.getElem?_set_ne n], fun _ _ _ z => z⟩
  · have n : i ≠ k := fun z => by subst z; exact ni _ q
    exact ⟨d', by rw [List.getElem?_set_ne n]; exact q, by rw [List.getElem?_set_ne n]⟩
theorem J.put_ow {a : Addr} (j : J T (Or2 O (· = a)) σ e H) (nO : ¬ O a) {i : Nat} {e' : Env} {d : DV.D} (h : setSl e i (.ow d) = some e') (r : OwnAt T H (Or2 (Or2 O (· = a)) (Own σ e)) a d) : J T O (σ.set i (some (.ref a))) e' H ∧ ∀ H0 : Hp, H0 a = none → (∀ b, Own σ e b → Own σ1 e1 b ∨ H0 b = none) → ∀ b, Own (σ.set i (some (.ref a))) e' b → Own σ1 e1 b ∨ H0 b = none := by
  obtain ⟨rfl, hi, nl, ni⟩ := free_of h
  have sub : ∀ b, Own (σ.set i (some (.ref a))) (e.set i (.ow d)) b → b = a ∨ Own σ e b := fun b z => by
    rcases own_put z with ⟨z, _, _⟩ | ⟨k, t, d', n, q1, q2, q3⟩
    · cases z; exact .inl rfl
    · exact .inr ⟨k, t, d', q1, q2, q3⟩
  have m : ∀ b o, ¬ Or2 (Or2 O (· = a)) (Own σ e) b → H b = some o → H b = some o ∧ ¬ Or2 O (Own (σ.set i (some (.ref a))) (e.set i (.ow d))) b := fun b o n q => ⟨q, fun z => by
    rcases z with z | z
    · exact n (.inl (.inl z))
    · rcases sub b z with rfl | z
      · exact n (.inl (.inr rfl))
      · exact n (.inr z)⟩
  have hσ : i < σ.length := by rw [← j.len]; exact hi
  have na : ¬ Own σ e a := fun z => j.no a z (.inr rfl)
  refine ⟨⟨by rw [List.length_set, List.length_set]; exact j.len, fun k d' q => ?_, fun k s d' q hs => ?_, fun k l s t d1 d2 b q1 o1 q2 o2 a1 a2 => ?_, fun b z => ?_, fun b z => j.dom b (.inl z)⟩, fun H0 h0 hn b z => ?_⟩
  · rcases get_set q with ⟨rfl, e1⟩ | ⟨n, q⟩
    · cases e1
    · obtain ⟨u, e1, r'⟩ := j.fz k d' q
      exact ⟨u, by rw [List.getElem?_set_ne (Ne.symm n)]; exact e1, r'.mono m⟩
  · rcases get_set q with ⟨rfl, e1⟩ | ⟨n, q⟩
    · subst e1; cases hs
      exact ⟨a, by rw [List.getElem?_set_self hσ], r.mono m rfl⟩
    · obtain ⟨b, e1, r'⟩ := j.ow k s d' q hs
      exact ⟨b, by rw [List.getElem?_set_ne (Ne.symm n)]; exact e1, r'.mono m rfl⟩
  · rcases get_set q1 with ⟨r1, z⟩ | ⟨n1, p1⟩
    · rcases get_set q2 with ⟨r2, z2⟩ | ⟨n2, p2⟩
      · rw [r1, r2]
      · rw [r1, List.getElem?_set_self hσ] at a1
        rw [List.getElem?_set_ne (Ne.symm n2)] at a2
        cases a1
        exact absurd ⟨l, t, d2, p2, o2, a2⟩ na
    · rcases get_set q2 with ⟨r2, z⟩ | ⟨n2, p2⟩
      · rw [r2, List.getElem?_set_self hσ] at a2
        rw [List.getElem?_set_ne (Ne.symm n1)] at a1
        cases a2
        exact absurd ⟨k, s, d1, p1, o1, a1⟩ na
      · rw [List.getElem?_set_ne (Ne.symm n1)] at a1
        rw [List.getElem?_set_ne (Ne.symm n2)] at a2
        exact j.inj k l s t d1 d2 b p1 o1 p2 o2 a1 a2
  · rcases sub b z with rfl | z
    · exact nO
    · exact fun w => j.no b z (.inl w)
  · rcases sub b z with rfl | z
    · exact .inr h0
    · exact hn b z
/-- what is stored -/
def slOf (d : DV.D) (fl : Bool) : Sl := if fl then .ow d else .fz d
theorem put_val (t : Tr σ e H σ e1 H1) {d : DV.D} {fl : Bool} {v : V} (nw : ∀ a, Nw.nw (d, fl) v a → H a = none) (r : RV T O σ (d, fl) v e1 H1) {i : Nat} (h : setSl e1 i (slOf d fl) = some e2) : J T O (σ.set i (some v)) e2 H1 ∧ Tr σ e H (σ.set i (some v)) e2 H1 := by
  cases fl with
  | false =>
    obtain ⟨j, r⟩ := r
    obtain ⟨j', t'⟩ := j.put_fz h r
    exact ⟨j', t.trans t'⟩
  | true =>
    obtain ⟨a, rfl, nO, j, r⟩ := r
    obtain ⟨j', hn⟩ := j.put_ow (σ1 := σ) (e1 := e) nO h r
    have ha : H a = none := nw a ⟨rfl, rfl⟩
    obtain ⟨rfl, hi, nl, ni⟩ := free_of h
    refine ⟨j', ⟨t.keep, hn H ha t.new, t.there, fun k d' q => ?_, fun k d' q => ?_⟩⟩
    · obtain ⟨q1, q2, q3⟩ := t.lk k d' q
      have n : i ≠ k := fun z => by subst z; exact nl _ q1
      exact ⟨by rw [List.getElem?_set_ne n]; exact q1, by rw [List.getElem?_set_ne n], q3⟩
    · obtain ⟨d2, q1, q2⟩ := t.io k d' q
      have n : i ≠ k := fun z => by subst z; exact ni _ q1
      exact ⟨d2, by rw [List.getElem?_set_ne n]; exact q1, by rw [List.getElem?_set_ne n]⟩
def sPut (i : Nat) (x : DV.D × Bool) : MS := fun e => match setSl e i (slOf x.1 x.2) with | some e' => .nx e' | none => .bad
/-- name = value -/
def sSet (i : Nat) (m : M (DV.D × Bool)) : MS := sOf m (sPut i)
theorem ds_set (i : Nat) {me : M (DV.D × Bool)} {pos' : Pos} (he : DE X W T O a me) (hN : X.N.Nodup) (hi : X.N[i]? = some x := by rfl) (hx : Loc X.env.scope x := by first | exact Or.inl rfl | exact Or.inr rfl) (hs : swapsWith a (some (.Name x pos')) pos.line X.env = pure false := by rfl) (hf : X.fn x = true ∨ X.env.scope.names.lookup x = some .local := by first | exact .inl rfl | exact .inr rfl | assumption) :
    DS X W T O (.Assign [.Name x pos'] a pos) (sSet i me) := by
  refine PS.of (ps_set hN hi hx he hs hf) fun D σ H ⟨e, j, w⟩ => wpG.mono (wpS_of (R := RV T O σ) j w) fun v H1 ⟨⟨d, fl⟩, e1, t, nw, r, w⟩ => ?_
  unfold sPut at w
  dsimp only at w
  cases q : setSl e1 i (slOf d fl) with
  | none => rw [q] at w; exact w.elim
  | some e2 =>
    rw [q] at w
    obtain ⟨j', t'⟩ := put_val t nw r q
    exact w _ _ t' j'
end
end DV
-- DvH
namespace DV
open PySem PySem.Spec PyProof.Rows L2
section
variable {T : Tbl} {O O' : Addr → Prop} {σ σ1 σ2 : St} {e e1 e2 : Env} {H H1 H2 H' : Hp} {P : Addr → Prop} {X : Cx} {W : WX} {a b c : Expr} {ma mb mc : M Hv} {mt : M Bool} {pos : Pos} {x : Str} {es : List Expr} {p : Pos} {m n : MS} {st : Stmt} {sts : List Stmt}
/-- a slot is let go, its object handed out -/
theorem J.letgo (j : J T O σ e H) {i : Nat} {d : D} (h : e[i]? = some (.ow d)) : ∃ a, σ[i]? = some (some (.ref a)) ∧ ¬ O a ∧ J T (Or2 O (· = a)) σ (e.set i .un) H ∧ OwnAt T H (Or2 (Or2 O (· = a)) (Own σ (e.set i .un))) a d ∧ Tr σ e H σ (e.set i .un) H ∧ Own σ e a := by
  obtain ⟨a, ha, o⟩ := j.ow i _ d h rfl
  have oa : Own σ e a := ⟨i, _, d, h, rfl, ha⟩
  have sub : ∀ b, Own σ (e.set i .un) b → Own σ e b ∧ b ≠ a := fun b z => by
    obtain ⟨z1, k, t, d', n, q, ho, hk⟩ := own_set rfl z
    refine ⟨z1, fun z2 => ?_⟩
    subst z2
    exact n (j.inj k i t _ d' d b q ho h rfl hk ha)
  have m : ∀ b o, ¬ Or2 O (Own σ e) b → H b = some o → H b = some o ∧ ¬ Or2 (Or2 O (· = a)) (Own σ (e.set i .un)) b := fun b o n q => ⟨q, fun z => by
    rcases z with (z | z) | z
    · exact n (.inl z)
    · have z : b = a := z
      subst z; exact n (.inr oa)
    · exact n (.inr (sub b z).1)⟩
  obtain ⟨ob, hob⟩ := o.there
  refine ⟨a, ha, j.no a oa, ⟨by rw [List.length_set]; exact j.len, fun k d' q => ?_, fun k s d' q hs => ?_, fun k l s t d1 d2 b q1 o1 q2 o2 => ?_, fun b z w => ?_, fun b z => ?_⟩, o.mono m rfl, ⟨fun _ _ q _ => q, fun b z => .inl (sub b z).1, fun b o q => ⟨o, q⟩, fun k d' q => ⟨?_, rfl, fun _ _ _ z => z⟩, fun k d' q => ⟨d', ?_, rfl⟩⟩, oa⟩
  · rcases get_set q with ⟨rfl, e1⟩ | ⟨n, q⟩
    · cases e1
    · obtain ⟨v, e1, r⟩ := j.fz k d' q
      exact ⟨v, e1, r.mono m⟩
  · rcases get_set q with ⟨rfl, e1⟩ | ⟨n, q⟩
    · subst e1; cases hs
    · obtain ⟨b, e1, r⟩ := j.ow k s d' q hs
      exact ⟨b, e1, r.mono m rfl⟩
  · rcases get_set q1 with ⟨rfl, e1⟩ | ⟨n1, p1⟩
    · subst e1; cases o1
    · rcases get_set q2 with ⟨rfl, e1⟩ | ⟨n2, p2⟩
      · subst e1; cases o2
      · exact j.inj k l s t d1 d2 b p1 o1 p2 o2
  · obtain ⟨z1, z2⟩ := sub b z
    rcases w with w | w
    · exact j.no b z1 w
    · exact z2 w
  · rcases z with z | z
    · exact j.dom b z
    · have z : b = a := z
      subst z; exact ⟨ob, hob⟩
  · have n : i ≠ k := fun z => by subst z; rw [h] at q; cases q
    rw [List.getElem?_set_ne n]; exact q
  · have n : i ≠ k := fun z => by subst z; rw [h] at q; cases q
    rw [List.getElem?_set_ne n]; exact q
theorem ds_retV (i : Nat) {pos' : Pos} (hN : X.N[i]? = some x := by rfl) (hv : Vis X.env.scope x := by first | exact Or.inl rfl | exact Or.inr (Or.inl rfl) | exact Or.inr (Or.inr rfl))
    (hd : (x == ("__debug__" : Str)) = false := by decide) (hcd : (x == ("__classdict__" : Str)) = false := by decide) : DS X W T O (.Return (some (.Name x pos')) pos) (sRetV i) := by
  refine PS.of (ps_ret (pe_var hN hv hd hcd)) fun D σ H ⟨e, j, w⟩ => ?_
  unfold sRetV at w
  split at w
  · rename_i d q
    obtain ⟨v, e1, r⟩ := j.fz i d q
    exact ⟨v, e1, w v σ H Tr.refl (fun a z => .inl (nwF a z)) ⟨j, r⟩⟩
  · rename_i d q
    obtain ⟨a, ha, nO, j', o, t, oa⟩ := j.letgo q
    refine ⟨_, ha, w _ σ H t (fun b z => ?_) ⟨a, rfl, nO, j', o⟩⟩
    have z : true = true ∧ V.ref a = .ref b := z
    cases z.2; exact .inr oa
  · exact w.elim

/-! ### targets -/
abbrev Gt := D → Env → Option Env
theorem wipe_in {σ : St} {i : Nat} : ∀ {vs : List Nat}, i ∈ vs → (wipe σ vs)[i]? = (σ[i]?).map fun _ => none
  | v :: vs, h => by
    unfold wipe
    by_cases z : v = i
    · subst z
      by_cases hv : v < σ.length
      · rw [List.getElem?_set_self (by rw [wipe_length]; exact hv), List.getElem?_eq_getElem hv]; rfl
      · rw [List.getElem?_eq_none (by rw [List.length_set, wipe_length]; omega), List.getElem?_eq_none (by omega)]; rfl
    · rw [List.getElem?_set_ne z]
      rcases List.mem_cons.mp h with q | q
      · exact absurd q.symm z
      · exact wipe_in q
theorem wipe_set {σ : St} {i : Nat} {v : Option V} {vs : List Nat} (h : i ∈ vs) : wipe (σ.set i v) vs = wipe σ vs := by
  apply List.ext_getElem?
  intro k
  by_cases z : k ∈ vs
  · rw [wipe_in z, wipe_in z]
    by_cases q : i = k
    · subst q
      rw [List.getElem?_set_self']
      cases σ[i]? <;> rfl
    · rw [List.getElem?_set_ne q]
  · rw [wipe_out z, wipe_out z, List.getElem?_set_ne (fun q => by subst q; exact z h)]
/-- a target takes a datum that is not owned; its slots lie among vs -/
def DG (X : Cx) (T : Tbl) (O : Addr → Prop) (vs : List Nat) (tg : Expr) (g : Gt) : Prop :=
  ∃ t : TG, PG X tg t ∧ ∀ (v : V) (d : D) (σ : St) (e e' : Env) (H : Hp) (Q : St → Hp → Prop), J T O σ e H → Rep T H (Or2 O (Own σ e)) d v → g d e = some e' → (∀ σ' H', wipe σ' vs = wipe σ vs → Tr σ e H σ' e' H' → J T O σ' e' H' → Q σ' H') → t v σ H Q
def gPut (i : Nat) : Gt := fun d e => setSl e i (.fz d)
theorem dg_name (i : Nat) {vs : List Nat} {x : Str} {pos : Pos} (hN : X.N.Nodup) (hi : X.N[i]? = some x := by rfl) (hx : Loc X.env.scope x := by first | exact Or.inl rfl | exact Or.inr rfl) (hf : X.fn x = true ∨ X.env.scope.names.lookup x = some .local := by first | exact .inl rfl | exact .inr rfl | assumption) (hv : i ∈ vs := by decide) : DG X T O vs (.Name x pos) (gPut i) := by
  refine ⟨_, pg_name hN hi hx hf, fun v d σ e e' H Q j r q w => ?_⟩
  obtain ⟨j', t⟩ := j.put_fz q r
  exact w _ _ (wipe_set hv) t j'
def DGs (X : Cx) (T : Tbl) (O : Addr → Prop) (vs : List Nat) (ts : List Expr) (g : List D → Env → Option Env) : Prop :=
  ∃ t : TGs, PGs X ts t ∧ ∀ (us : List V) (ds : List D) (σ : St) (e e' : Env) (H : Hp) (Q : St → Hp → Prop), J T O σ e H → RepL T H (Or2 O (Own σ e)) ds us → g ds e = some e' → (∀ σ' H', wipe σ' vs = wipe σ vs → Tr σ e H σ' e' H' → J T O σ' e' H' → Q σ' H') → t us σ H Q
def gsNil (ds : List D) (e : Env) : Option Env := match ds with | [] => some e | _ => none
def gsCons (g : Gt) (gs : List D → Env → Option Env) (ds : List D) (e : Env) : Option Env := match ds with
  | d :: r => (g d e).bind (gs r)
  | _ => none
variable {vs : List Nat}
theorem dgs_nil : DGs X T O vs [] gsNil := by
  refine ⟨_, pgs_nil, fun us ds σ e e' H Q j r q w => ?_⟩
  cases ds with
  | nil =>
    simp only [RepL] at r
    cases q
    exact ⟨r, w σ H rfl Tr.refl j⟩
  | cons d ds => cases q
theorem stmt_keep (j : J T O σ e H) (t : Tr σ e H σ1 e1 H1) : ∀ b o, ¬ Or2 O (Own σ e) b → H b = some o → H1 b = some o ∧ ¬ Or2 O (Own σ1 e1) b := fun b o n q => by
  refine ⟨t.keep b o q fun z => n (.inr z), fun z => ?_⟩
  rcases z with z | z
  · exact n (.inl z)
  · rcases t.new b z with z | z
    · exact n (.inr z)
    · rw [q] at z; cases z
theorem dgs_cons {tg : Expr} {tgs : List Expr} {g : Gt} {gs : List D → Env → Option Env} (h : DG X T O vs tg g) (h2 : DGs X T O vs tgs gs) (hs : (assignEach (tg :: tgs) X.env).map (·.2) = assign tg X.env :: (assignEach tgs X.env).map (·.2) := by rfl) : DGs X T O vs (tg :: tgs) (gsCons g gs) := by
  obtain ⟨t, ht, hi⟩ := h
  obtain ⟨ts, hts, his⟩ := h2
  refine ⟨_, pgs_cons ht hts hs, fun us ds σ e e' H Q j r q w => ?_⟩
  cases ds with
  | nil => cases q
  | cons d ds =>
    simp only [RepL] at r
    obtain ⟨v, r', rfl, q1, z⟩ := r
    obtain ⟨e1, g1, g2⟩ := Option.bind_eq_some_iff.mp q
    refine ⟨v, r', rfl, hi v d σ e e1 H _ j q1 g1 fun σ1 H1 w1 t1 j1 => ?_⟩
    exact his r' ds σ1 e1 e' H1 Q j1 (z.mono (stmt_keep j t1)) g2 fun σ' H' w2 t2 j2 => w σ' H' (w2.trans w1) (t1.trans t2) j2
def gTupD (gs : List D → Env → Option Env) (k : Nat) : Gt := fun d e => match d with
  | .tup ds => if ds.length = k then gs ds e else none
  | _ => none
theorem dg_tup {tgs : List Expr} {k n : Nat} {gs : List D → Env → Option Env} (hc : X.calm = true) (h : DGs X T O vs tgs gs) (hn : (assignEach tgs X.env).length = n := by rfl) (hst : (assignEach tgs X.env).findIdx? (·.1) = none := by rfl) : DG X T O vs (.Tuple tgs k pos) (gTupD gs n) := by
  obtain ⟨ts, hts, his⟩ := h
  refine ⟨_, pg_tup hc hts hn hst, fun v d σ e e' H Q j r q w => ?_⟩
  cases d with
  | tup ds =>
    simp only [Rep] at r
    obtain ⟨a, us, rfl, _, ha, ra⟩ := r
    by_cases hl : ds.length = n
    · simp only [gTupD, if_pos hl] at q
      exact ⟨a, us, rfl, SqT.of ha, by rw [← ra.length]; exact hl, his us ds σ e e' H Q j ra q w⟩
    · simp only [gTupD, if_neg hl] at q
      cases q
  | _ => cases q
def sG (g : Gt) (d : D) : MS := fun e => match g d e with | some e' => .nx e' | none => .bad
def sAsg (m : M (D × Bool)) (g : Gt) : MS := sOf m fun x => sG g x.1
/-- target = value, the value shared -/
theorem ds_asg {tg : Expr} {me : M (D × Bool)} {g : Gt} (he : DE X W T O a me) (hg : DG X T O vs tg g) (hs : swapsWithSole [tg] a pos.line X.env = pure false := by rfl) (hw : swappedStores [tg] a X.env = pure none := by rfl)
    (h1 : (assignEach [tg] X.env).map (·.2) = [assign tg X.env] := by rfl) : DS X W T O (.Assign [tg] a pos) (sAsg me g) := by
  obtain ⟨t, ht, hi⟩ := hg
  refine PS.of (ps_asg he ht hs hw h1) fun N σ H ⟨e, j, w⟩ => wpG.mono (wpS_of (R := RV T O σ) j w) fun v H1 ⟨⟨d, fl⟩, e1, t1, nw, r, w⟩ => ?_
  obtain ⟨j1, r1⟩ := r.weak
  unfold sG at w
  dsimp only at w
  cases q : g d e1 with
  | none => rw [q] at w; exact w.elim
  | some e2 =>
    rw [q] at w
    exact hi v d σ e1 e2 H1 _ j1 r1 q fun σ' H' _ t2 j2 => w σ' H' (t1.trans t2) j2
/-- a, b = x, y -/
def sPar (i k : Nat) (m : M (List Hv)) : MS := sOf m fun hs e => match hs with
  | [.val d, .val d'] => (match setSl e i (.fz d) with | some e1 => (match setSl e1 k (.fz d') with | some e2 => .nx e2 | none => .bad) | none => .bad)
  | _ => .bad
theorem ds_par (i k : Nat) {x y : Str} {px py pt : Pos} {kt k2 pt2} {m : M (List Hv)} (hc : X.calm = true) (ha : DA X W T O [a, b] m) (hN : X.N.Nodup) (hi : X.N[i]? = some x := by rfl) (hj : X.N[k]? = some y := by rfl) (hij : i ≠ k := by decide)
    (hx : X.env.scope.names.lookup x = some .local := by rfl) (hy : X.env.scope.names.lookup y = some .local := by rfl)
    (hw : swappedStores [.Tuple [.Name x px, .Name y py] kt pt] (.Tuple [a, b] k2 pt2) X.env = pure (some [x, y]) := by rfl)
    (hs : swapsWithSole [.Tuple [.Name x px, .Name y py] kt pt] (.Tuple [a, b] k2 pt2) pos.line X.env = pure false := by rfl) :
    DS X W T O (.Assign [.Tuple [.Name x px, .Name y py] kt pt] (.Tuple [a, b] k2 pt2) pos) (sPar i k m) := by
  refine PS.of (ps_par hc hN hi hj hij hx hy ha hw hs) fun N σ H ⟨e, j, w⟩ => wpG.mono (wpS_of (R := RA T O σ) j w) fun vs H1 ⟨hs, e1, t1, nw, ⟨j1, r⟩, w⟩ => ?_
  match hs with
  | [.val d, .val d'] =>
    obtain ⟨v, r1, rfl, q1, u, r2, rfl, q2, q3⟩ := r
    have q3 : r2 = [] := q3
    subst q3
    refine ⟨v, u, rfl, ?_⟩
    dsimp only at w
    cases g1 : setSl e1 i (.fz d) with
    | none => rw [g1] at w; exact w.elim
    | some e2 =>
      rw [g1] at w
      dsimp only at w
      cases g2 : setSl e2 k (.fz d') with
      | none => rw [g2] at w; exact w.elim
      | some e3 =>
        rw [g2] at w
        obtain ⟨j2, t2⟩ := j1.put_fz g1 q1
        obtain ⟨j3, t3⟩ := j2.put_fz g2 (Rep.mono (stmt_keep j1 t2) _ _ q2)
        exact w _ _ (t1.trans (t2.trans t3)) j3
  | [] => exact w.elim
  | [.val d] => exact w.elim
  | [.slot d] => exact w.elim
  | [.slot d, _] => exact w.elim
  | [.val d, .slot d'] => exact w.elim
  | x :: y :: _ :: _ => cases x <;> cases y <;> exact w.elim

/-! ### an owned object is changed -/
/-- the object of slot i is now d -/
theorem J.change (j : J T O σ e H) {i : Nat} {s : Sl} {d d' : D} {a : Addr} {o : HO} (h : e[i]? = some s) (hs : s = .ow d ∧ e1 = e.set i (.ow d') ∨ s = .io d ∧ e1 = e.set i (.io d')) (ha : σ[i]? = some (some (.ref a))) (hn : OwnAt T (upd H a o) (Or2 O (Own σ e)) a d') :
    J T O σ e1 (upd H a o) ∧ Tr σ e H σ e1 (upd H a o) := by
  have hso : s.own? = some d := by rcases hs with ⟨rfl, _⟩ | ⟨rfl, _⟩ <;> rfl
  have oa : Own σ e a := ⟨i, s, d, h, hso, ha⟩
  obtain ⟨s', hs', e1eq⟩ : ∃ s' : Sl, s'.own? = some d' ∧ e1 = e.set i s' := by
    rcases hs with ⟨_, z⟩ | ⟨_, z⟩
    · exact ⟨.ow d', rfl, z⟩
    · exact ⟨.io d', rfl, z⟩
  have own : ∀ b, Own σ e1 b ↔ Own σ e b := fun b => by
    rw [e1eq]
    constructor
    · rintro ⟨k, t, x, h1, h2, h3⟩
      rcases get_set h1 with ⟨rfl, rfl⟩ | ⟨n, q⟩
      · exact ⟨k, s, d, h, hso, h3⟩
      · exact ⟨k, t, x, q, h2, h3⟩
    · rintro ⟨k, t, x, h1, h2, h3⟩
      by_cases z : i = k
      · subst z
        exact ⟨i, s', d', by rw [List.getElem?_set_self (lt_of_get h)], hs', h3⟩
      · exact ⟨k, t, x, by rw [List.getElem?_set_ne z]; exact h1, h2, h3⟩
  have m : ∀ b o', ¬ Or2 O (Own σ e) b → H b = some o' → upd H a o b = some o' ∧ ¬ Or2 O (Own σ e1) b := fun b o' n q => by
    have nb : b ≠ a := fun z => by subst z; exact n (.inr oa)
    refine ⟨by rw [upd_ne nb]; exact q, fun z => n (z.imp id (own b).mp)⟩
  have m2 : ∀ b o', ¬ Or2 O (Own σ e) b → upd H a o b = some o' → upd H a o b = some o' ∧ ¬ Or2 O (Own σ e1) b := fun b o' n q => ⟨q, fun z => n (z.imp id (own b).mp)⟩
  obtain ⟨oa', hoa'⟩ := (j.ow i s d h hso).choose_spec.2.there
  have there : ∀ b u, H b = some u → ∃ u', upd H a o b = some u' := fun b u q => by
    by_cases z : b = a
    · subst z; exact ⟨o, upd_same⟩
    · exact ⟨u, by rw [upd_ne z]; exact q⟩
  refine ⟨⟨by rw [e1eq, List.length_set]; exact j.len, fun k d2 q => ?_, fun k t d2 q hs2 => ?_, fun k l t t' d1 d2 b q1 o1 q2 o2 a1 a2 => ?_, fun b z => j.no b ((own b).mp z), fun b z => let ⟨u, q⟩ := j.dom b z; there b u q⟩,
    ⟨fun b u q n => by rw [upd_ne (fun z => by subst z; exact n oa)]; exact q, fun b z => .inl ((own b).mp z), there, fun k d2 q => ?_, fun k d2 q => ?_⟩⟩
  · rw [e1eq] at q
    rcases get_set q with ⟨rfl, z⟩ | ⟨n, q⟩
    · subst z; cases hs'
    · obtain ⟨u, e2, r⟩ := j.fz k d2 q
      exact ⟨u, e2, r.mono m⟩
  · rw [e1eq] at q
    rcases get_set q with ⟨rfl, z⟩ | ⟨n, q⟩
    · subst z
      rw [hs'] at hs2; cases hs2
      exact ⟨a, ha, hn.mono m2 rfl⟩
    · obtain ⟨b, e2, r⟩ := j.ow k t d2 q hs2
      have nb : b ≠ a := fun z => by
        subst z
        exact n (j.inj k i t s d2 d b q hs2 h hso e2 ha)
      exact ⟨b, e2, r.mono m (upd_ne nb)⟩
  · have back : ∀ {k : Nat} {t : Sl} {x : D}, e1[k]? = some t → t.own? = some x → ∃ t' x', e[k]? = some t' ∧ t'.own? = some x' := fun {k t x} q ho => by
      rw [e1eq] at q
      rcases get_set q with ⟨rfl, z⟩ | ⟨n, q⟩
      · exact ⟨s, d, h, hso⟩
      · exact ⟨t, x, q, ho⟩
    obtain ⟨t1, x1, p1, p2⟩ := back q1 o1
    obtain ⟨t2, x2, p3, p4⟩ := back q2 o2
    exact j.inj k l t1 t2 x1 x2 b p1 p2 p3 p4 a1 a2
  · have n : i ≠ k := fun z => by
      subst z
      rw [h] at q
      rcases hs with ⟨rfl, _⟩ | ⟨rfl, _⟩ <;> cases q
    refine ⟨by rw [e1eq, List.getElem?_set_ne n]; exact q, rfl, fun b u q2 q3 => ?_⟩
    have nb : b ≠ a := fun z => by
      subst z
      exact n (j.inj i k s _ d d2 b h hso q rfl ha q2)
    rw [upd_ne nb]; exact q3
  · by_cases z : i = k
    · subst z
      rw [h] at q
      rcases hs with ⟨rfl, z⟩ | ⟨rfl, z⟩
      · cases q
      · exact ⟨d', by rw [z, List.getElem?_set_self (lt_of_get h)], rfl⟩
    · exact ⟨d2, by rw [e1eq, List.getElem?_set_ne z]; exact q, rfl⟩
end
end DV
-- DvI
namespace DV
open PySem PySem.Spec PyProof.Rows L2
section
variable {T : Tbl} {O O' : Addr → Prop} {σ σ1 σ2 : St} {e e1 e2 : Env} {H H1 H2 H' : Hp} {P : Addr → Prop} {X : Cx} {W : WX} {a b c : Expr} {ma mb mc : M Hv} {mt : M Bool} {pos : Pos} {x : Str} {es : List Expr} {p : Pos} {m n : MS} {st : Stmt} {sts : List Stmt}
/-! ### lists that are changed -/
def ownD (e : Env) (i : Nat) : Option D := match e[i]? with
  | some (.ow d) => some d
  | some (.io d) => some d
  | _ => none
def chg (e : Env) (i : Nat) (d : D) : Env := match e[i]? with
  | some (.io _) => e.set i (.io d)
  | _ => e.set i (.ow d)
theorem own_at (j : J T O σ e H) {i : Nat} {d : D} (h : ownD e i = some d) : ∃ a s, e[i]? = some s ∧ σ[i]? = some (some (.ref a)) ∧ OwnAt T H (Or2 O (Own σ e)) a d ∧ ∀ d', (s = .ow d ∧ chg e i d' = e.set i (.ow d') ∨ s = .io d ∧ chg e i d' = e.set i (.io d')) := by
  unfold ownD at h
  split at h
  · rename_i q; cases h
    obtain ⟨a, ha, o⟩ := j.ow i _ d q rfl
    exact ⟨a, _, q, ha, o, fun d' => .inl ⟨rfl, by unfold chg; rw [q]⟩⟩
  · rename_i q; cases h
    obtain ⟨a, ha, o⟩ := j.ow i _ d q rfl
    exact ⟨a, _, q, ha, o, fun d' => .inr ⟨rfl, by unfold chg; rw [q]⟩⟩
  · cases h
theorem repL_upd {ds : List D} {vs : List V} {a : Addr} {o : HO} (oa : Own σ e a) (r : RepL T H (Or2 O (Own σ e)) ds vs) : RepL T (upd H a o) (Or2 O (Own σ e)) ds vs :=
  r.mono fun b o' n q => ⟨by rw [upd_ne (fun z => by subst z; exact n (.inr oa))]; exact q, n⟩
/-- the list of slot i becomes ds -/
theorem change_lst (j : J T O σ e H) {i : Nat} {xs : List D} (h : ownD e i = some (.lst xs)) : ∃ a vs, σ[i]? = some (some (.ref a)) ∧ H a = some (.lst vs) ∧ RepL T H (Or2 O (Own σ e)) xs vs ∧
    ∀ ds' us, RepL T H (Or2 O (Own σ e)) ds' us → J T O σ (chg e i (.lst ds')) (upd H a (.lst us)) ∧ Tr σ e H σ (chg e i (.lst ds')) (upd H a (.lst us)) := by
  obtain ⟨a, s, hs, ha, ⟨vs, hv, r⟩, hc⟩ := own_at j h
  have oa : Own σ e a := by
    rcases hc (.lst []) with ⟨z, _⟩ | ⟨z, _⟩
    · exact ⟨i, s, _, hs, by rw [z]; rfl, ha⟩
    · exact ⟨i, s, _, hs, by rw [z]; rfl, ha⟩
  exact ⟨a, vs, ha, hv, r, fun ds' us r' => j.change hs (hc _) ha ⟨us, upd_same, repL_upd oa r'⟩⟩
theorem wpS_bind {α β γ : Type} [Nw α β] {R : α → β → Env → Hp → Prop} {m : M α} {g : α → M γ} {f : γ → MS} {N : Ends} (w : wpS T O W (sOf (M.bind m g) f e) σ e H N) : wpR T O W R (m e) σ e H fun v H1 => ∃ x e1, Tr σ e H σ e1 H1 ∧ (∀ a, Nw.nw x v a → H a = none) ∧ R x v e1 H1 ∧ wpS T O W (sOf (g x) f e1) σ e1 H1 N := by
  unfold sOf M.bind at w
  cases q : m e with
  | ok x e1 =>
    rw [q] at w
    exact fun v H1 t n r => ⟨x, e1, t, n, r, w.shift t⟩
  | exc c ds e1 => rw [q] at w; exact fun dx H1 t j x => w dx σ H1 t j x
  | bad => rw [q] at w; exact w.elim
theorem wpS_look {i : Nat} {γ : Type} {g : Hv → M γ} {f : γ → MS} {N : Ends} (w : wpS T O W (sOf (M.bind (mSlot i) g) f e) σ e H N) : ∃ d, look e i = some d ∧ wpS T O W (sOf (g (.slot i)) f e) σ e H N := by
  unfold sOf M.bind mSlot at w
  cases q : look e i with
  | none => rw [q] at w; exact w.elim
  | some d => rw [q] at w; exact ⟨d, rfl, w⟩
theorem owned_look {i : Nat} {d : D} (h : ownD e i = some d) : look e i = some d := by
  unfold ownD at h
  unfold look
  split at h
  · rename_i q; rw [q]; exact h
  · rename_i q; rw [q]; exact h
  · cases h
/-- xs[k] = v -/
def sSetIx (i : Nat) (mv : M (D × Bool)) (mk : M Hv) : MS := sOf (M.bind mv fun v => M.bind (mSlot i) fun _ => M.bind mk fun k => M.pure (v.1, k)) fun vk e => match vk.2.fetch e, ownD e i with
  | some (.int k), some (.lst xs) => (match ixN xs.length k with | some n => .nx (chg e i (.lst (xs.set n vk.1))) | none => .bad)
  | _, _ => .bad
theorem ds_setIx (i : Nat) {v k : Expr} {mv : M (D × Bool)} {mk : M Hv} {px ps : Pos} (hv : DE X W T O v mv) (hk : DH X W T O k mk) (hN : X.N[i]? = some x := by rfl) (hvis : Vis X.env.scope x := by first | exact Or.inl rfl | exact Or.inr (Or.inl rfl) | exact Or.inr (Or.inr rfl))
    (hd : (x == ("__debug__" : Str)) = false := by decide) (hcd : (x == ("__classdict__" : Str)) = false := by decide)
    (ha : ∀ u, assign (.Subscript (.Name x px) k ps) X.env u = (do
      let ov ← holding [u] (eval (.Name x px) X.env)
      let iv ← holding [u, ov] (eval k X.env)
      standAt ps
      holding [u, ov, iv] (setItem ov iv u)
      release [u, ov, iv] []) := by intro _; rfl)
    (hs : swapsWithSole [.Subscript (.Name x px) k ps] v pos.line X.env = pure false := by rfl) (hw : swappedStores [.Subscript (.Name x px) k ps] v X.env = pure none := by rfl)
    (h1 : (assignEach [.Subscript (.Name x px) k ps] X.env).map (·.2) = [assign (.Subscript (.Name x px) k ps) X.env] := by rfl) :
    DS X W T O (.Assign [.Subscript (.Name x px) k ps] v pos) (sSetIx i mv mk) := by
  refine PS.of (ps_asg hv (pg_sub (pe_var hN hvis hd hcd) hk set_list ha) hs hw h1) fun N σ H ⟨e, j, w⟩ => ?_
  refine ⟨e, j, (wpS_bind (R := RV T O σ) w).mono fun u H1 ⟨⟨d, fl⟩, e1, t1, nw, r, w⟩ => ?_⟩
  obtain ⟨j1, r1⟩ := r.weak
  obtain ⟨d0, hl, w⟩ := wpS_look w
  obtain ⟨v0, hv0⟩ := look_some j1 hl
  refine ⟨v0, hv0, e1, j1, (wpS_bind (R := RH T O σ) w).mono fun kv H2 ⟨kh, e2, t2, _, ⟨j2, r2⟩, w⟩ => ?_⟩
  have r1' := Rep.mono (keep_of j1 t2) _ _ r1
  unfold sOf M.pure at w
  dsimp only at w
  split at w
  · rename_i k' xs q1 q2
    split at w
    · rename_i n q3
      have pk := r2.pk j2 q1
      obtain ⟨a, vs, ea, hv, rl, hc⟩ := change_lst j2 q2
      rw [hv0] at ea; cases ea
      refine ⟨a, vs, k', n, rfl, pk, hv, by rw [← rl.length]; exact q3, ?_⟩
      obtain ⟨j3, t3⟩ := hc _ _ (rl.set n r1')
      exact w _ _ t3 j3
    · exact w.elim
  · exact w.elim
/-- the list that slot i owns -/
def mOwnL (i : Nat) : M Hv := fun e => match ownD e i with | some (.lst _) => .ok (.slot i) e | _ => .bad
theorem wpG_ownL {i : Nat} {α β : Type} [Nw α β] {R : α → β → Env → Hp → Prop} {g : Hv → M α} {Q : β → Hp → Prop} (w : wpR T O W R (M.bind (mOwnL i) g e) σ e H Q) : ∃ xs, ownD e i = some (.lst xs) ∧ wpR T O W R (g (.slot i) e) σ e H Q := by
  unfold M.bind mOwnL at w
  cases q : ownD e i with
  | none => rw [q] at w; exact w.elim
  | some d =>
    rw [q] at w
    cases d with
    | lst xs => exact ⟨xs, rfl, w⟩
    | _ => exact w.elim
theorem wpS_ownL {i : Nat} {γ : Type} {g : Hv → M γ} {f : γ → MS} {N : Ends} (w : wpS T O W (sOf (M.bind (mOwnL i) g) f e) σ e H N) : ∃ xs, ownD e i = some (.lst xs) ∧ wpS T O W (sOf (g (.slot i)) f e) σ e H N := by
  unfold sOf M.bind mOwnL at w
  cases q : ownD e i with
  | none => rw [q] at w; exact w.elim
  | some d =>
    rw [q] at w
    cases d with
    | lst xs => exact ⟨xs, rfl, w⟩
    | _ => exact w.elim
theorem tyV_list {K : PySem.W.Frag} {a : Addr} {vs : List V} (h : H a = some (.lst vs)) : tyV K "list" (.ref a) H := .inl ⟨rfl, vs, SqL.of h⟩
/-- xs.append(v) -/
def sApp (i : Nat) (mv : M (D × Bool)) : MS := sOf (M.bind (mOwnL i) fun _ => mv) fun v e => match ownD e i with
  | some (.lst xs) => if xs.length < LIM then .nx (chg e i (.lst (xs ++ [v.1]))) else .bad
  | _ => .bad
theorem pa_one_of {X : Cx} {v : Expr} {tv : TE} (hv : PE X v tv) (hst : starEach [v] X.env = (false, eval v X.env) :: starEach [] X.env := by rfl) : PA X [v] (tCons tv tNil) := pa_cons hv pa_nil hst
theorem ds_append (i : Nat) {v : Expr} {mv : M (D × Bool)} {px apos cpos : Pos} (hv : DE X W T O v mv) (hN : X.N[i]? = some x := by rfl) (hvis : Vis X.env.scope x := by first | exact Or.inl rfl | exact Or.inr (Or.inl rfl) | exact Or.inr (Or.inr rfl))
    (hd : (x == ("__debug__" : Str)) = false := by decide) (hcd : (x == ("__classdict__" : Str)) = false := by decide)
    (hbase : attributeBase (.Name x px) "append" X.env (eval (.Name x px) X.env) = eval (.Name x px) X.env := by rfl) (hline : (apos.endLine == cpos.line) = true := by rfl)
    (hfew : ((backTo cpos (starEach [v] X.env)).all (fun x => !x.1) && (backToKw cpos (keywordEach [] X.env)).all (fun x => x.1.isSome)
      && decide (([v] : List Expr).length + ([] : List Keyword).length + (if ([] : List Keyword).isEmpty then 0 else 1) < 30)) = true := by rfl)
    (hst : starEach [v] X.env = (false, eval v X.env) :: starEach [] X.env := by rfl) (hpl : (backTo cpos (starEach [] X.env)).any (·.1) = false := by rfl)
    (hs : swapsWith (.Call (.Attribute (.Name x px) "append" apos) [v] [] cpos) none pos.line X.env = pure false := by rfl) : DS X W T O (.Expr (.Call (.Attribute (.Name x px) "append" apos) [v] [] cpos) pos) (sApp i mv) := by
  refine PS.of (ps_expr (pe_bm PySem.F.plainAttrs_list PySem.F.slot_list_append PySem.F.type_list_append mt_append (pe_var hN hvis hd hcd) (pa_one_of hv hst) hbase hfew hline hst hpl) hs) fun N σ H ⟨e, j, w⟩ => ?_
  obtain ⟨xs0, h0, w⟩ := wpS_ownL w
  obtain ⟨a, vs0, ha, hva, r0, _⟩ := change_lst j h0
  refine ⟨.ref a, ha, tyV_list hva, e, j, ?_⟩
  refine (wpS_ofR (R := RV T O σ) w).mono fun v H1 ⟨⟨d, fl⟩, e1, t1, nw, r, w⟩ => ?_
  obtain ⟨j1, r1⟩ := r.weak
  dsimp only at w
  split at w
  · rename_i xs q1
    split at w
    · rename_i hz
      obtain ⟨a', vs, ha', hva', rl, hc⟩ := change_lst j1 q1
      rw [ha] at ha'; cases ha'
      refine ⟨a, vs, v, rfl, rfl, hva', by rw [← lim_eq, ← rl.length]; exact hz, ?_⟩
      obtain ⟨j2, t2⟩ := hc _ _ (rl.append (RepL.cons r1 RepL.nil))
      exact w _ _ (t1.trans t2) j2
    · exact w.elim
  · exact w.elim
/-- xs.extend(ys) -/
def sExtend (i : Nat) (mv : M Hv) : MS := sOf (M.bind (mOwnL i) fun _ => mv) fun v e => match ownD e i, v.fetch e with
  | some (.lst xs), some (.lst ys) => if xs.length + ys.length ≤ LIM then .nx (chg e i (.lst (xs ++ ys))) else .bad
  | _, _ => .bad
theorem ds_extend (i : Nat) {v : Expr} {mv : M Hv} {px apos cpos : Pos} (hv : DH X W T O v mv) (hN : X.N[i]? = some x := by rfl) (hvis : Vis X.env.scope x := by first | exact Or.inl rfl | exact Or.inr (Or.inl rfl) | exact Or.inr (Or.inr rfl))
    (hd : (x == ("__debug__" : Str)) = false := by decide) (hcd : (x == ("__classdict__" : Str)) = false := by decide)
    (hbase : attributeBase (.Name x px) "extend" X.env (eval (.Name x px) X.env) = eval (.Name x px) X.env := by rfl) (hline : (apos.endLine == cpos.line) = true := by rfl)
    (hfew : ((backTo cpos (starEach [v] X.env)).all (fun x => !x.1) && (backToKw cpos (keywordEach [] X.env)).all (fun x => x.1.isSome)
      && decide (([v] : List Expr).length + ([] : List Keyword).length + (if ([] : List Keyword).isEmpty then 0 else 1) < 30)) = true := by rfl)
    (hst : starEach [v] X.env = (false, eval v X.env) :: starEach [] X.env := by rfl) (hpl : (backTo cpos (starEach [] X.env)).any (·.1) = false := by rfl)
    (hs : swapsWith (.Call (.Attribute (.Name x px) "extend" apos) [v] [] cpos) none pos.line X.env = pure false := by rfl) : DS X W T O (.Expr (.Call (.Attribute (.Name x px) "extend" apos) [v] [] cpos) pos) (sExtend i mv) := by
  refine PS.of (ps_expr (pe_bm PySem.F.plainAttrs_list PySem.F.slot_list_extend PySem.F.type_list_extend mt_extend (pe_var hN hvis hd hcd) (pa_one_of hv hst) hbase hfew hline hst hpl) hs) fun N σ H ⟨e, j, w⟩ => ?_
  obtain ⟨xs0, h0, w⟩ := wpS_ownL w
  obtain ⟨a, vs0, ha, hva, r0, _⟩ := change_lst j h0
  refine ⟨.ref a, ha, tyV_list hva, e, j, ?_⟩
  refine (wpS_ofR (R := RH T O σ) w).mono fun v H1 ⟨h, e1, t1, nw, ⟨j1, r⟩, w⟩ => ?_
  split at w
  · rename_i xs ys q1 q2
    split at w
    · rename_i hz
      obtain ⟨a', vs, ha', hva', rl, hc⟩ := change_lst j1 q1
      rw [ha] at ha'; cases ha'
      obtain ⟨b, us, rfl, hb, ru⟩ := r.pk j1 q2
      refine ⟨a, b, vs, us, rfl, rfl, hva', hb, by rw [← lim_eq, ← rl.length, ← ru.length]; exact hz, ?_⟩
      obtain ⟨j2, t2⟩ := hc _ _ (rl.append ru)
      exact w _ _ (t1.trans t2) j2
    · exact w.elim
  · exact w.elim
/-- xs.pop(k), xs.pop() -/
def mPopAt (i : Nat) (mk : M Hv) : M (D × Bool) := M.bind (mOwnL i) fun _ => M.bind mk fun k => fun e => match ownD e i, k.fetch e with
  | some (.lst xs), some (.int k) => if -(2 ^ 63) ≤ k ∧ k < 2 ^ 63 then (match seqIndex? k xs.length with
    | some n => (match xs[n]? with | some d => .ok (d, false) (chg e i (.lst (xs.eraseIdx n))) | none => .bad)
    | none => .bad) else .bad
  | _, _ => .bad
theorem de_popAt (i : Nat) {v : Expr} {mv : M Hv} {px apos cpos : Pos} (hv : DH X W T O v mv) (hN : X.N[i]? = some x := by rfl) (hvis : Vis X.env.scope x := by first | exact Or.inl rfl | exact Or.inr (Or.inl rfl) | exact Or.inr (Or.inr rfl))
    (hd : (x == ("__debug__" : Str)) = false := by decide) (hcd : (x == ("__classdict__" : Str)) = false := by decide)
    (hbase : attributeBase (.Name x px) "pop" X.env (eval (.Name x px) X.env) = eval (.Name x px) X.env := by rfl) (hline : (apos.endLine == cpos.line) = true := by rfl)
    (hfew : ((backTo cpos (starEach [v] X.env)).all (fun x => !x.1) && (backToKw cpos (keywordEach [] X.env)).all (fun x => x.1.isSome)
      && decide (([v] : List Expr).length + ([] : List Keyword).length + (if ([] : List Keyword).isEmpty then 0 else 1) < 30)) = true := by rfl)
    (hst : starEach [v] X.env = (false, eval v X.env) :: starEach [] X.env := by rfl) (hpl : (backTo cpos (starEach [] X.env)).any (·.1) = false := by rfl) : DE X W T O (.Call (.Attribute (.Name x px) "pop" apos) [v] [] cpos) (mPopAt i mv) := by
  refine PE.of (pe_bm PySem.F.plainAttrs_list PySem.F.slot_list_pop PySem.F.type_list_pop (show MtR X "list.pop" rPopAt from mt_popAt) (pe_var hN hvis hd hcd) (pa_one_of hv hst) hbase hfew hline hst hpl) fun σ H Q ⟨e, j, w⟩ => ?_
  obtain ⟨xs0, h0, w⟩ := wpG_ownL w
  obtain ⟨a, vs0, ha, hva, r0, _⟩ := change_lst j h0
  refine ⟨.ref a, ha, tyV_list hva, e, j, ?_⟩
  refine (wpR.bind (R' := RH T O σ) w).mono fun v H1 ⟨h, e1, t1, nw, ⟨j1, r⟩, w⟩ => ?_
  split at w
  · rename_i xs k q1 q2
    split at w
    · rename_i hz
      obtain ⟨a', vs, ha', hva', rl, hc⟩ := change_lst j1 q1
      rw [ha] at ha'; cases ha'
      have pk : v = .int k := r.pk j1 q2
      subst pk
      split at w
      · rename_i n q3
        split at w
        · rename_i d q4
          obtain ⟨u, hu, ru⟩ := rl.get q4
          refine ⟨a, vs, k, n, u, rfl, rfl, hva', hz.1, hz.2, by rw [← rl.length]; exact q3, hu, ?_⟩
          obtain ⟨j2, t2⟩ := hc _ _ (rl.eraseIdx n)
          refine w u _ t2 nwF ⟨j2, ru.mono fun b o n' q => stmt_keep j1 t2 b o n' q⟩
        · exact w.elim
      · exact w.elim
    · exact w.elim
  · exact w.elim
def mPop (i : Nat) : M (D × Bool) := M.bind (mOwnL i) fun _ => fun e => match ownD e i with
  | some (.lst xs) => (match xs[xs.length - 1]? with | some d => .ok (d, false) (chg e i (.lst xs.dropLast)) | none => .bad)
  | _ => .bad
theorem de_pop (i : Nat) {px apos cpos : Pos} (hN : X.N[i]? = some x := by rfl) (hvis : Vis X.env.scope x := by first | exact Or.inl rfl | exact Or.inr (Or.inl rfl) | exact Or.inr (Or.inr rfl))
    (hd : (x == ("__debug__" : Str)) = false := by decide) (hcd : (x == ("__classdict__" : Str)) = false := by decide)
    (hbase : attributeBase (.Name x px) "pop" X.env (eval (.Name x px) X.env) = eval (.Name x px) X.env := by rfl) (hline : (apos.endLine == cpos.line) = true := by rfl) : DE X W T O (.Call (.Attribute (.Name x px) "pop" apos) [] [] cpos) (mPop i) := by
  refine PE.of (pe_bm0 PySem.F.plainAttrs_list PySem.F.slot_list_pop PySem.F.type_list_pop (show MtR X "list.pop" rPop from mt_pop) (pe_var hN hvis hd hcd) hbase hline) fun σ H Q ⟨e, j, w⟩ => ?_
  obtain ⟨xs, h0, w⟩ := wpG_ownL w
  obtain ⟨a, vs, ha, hva, rl, hc⟩ := change_lst j h0
  rw [h0] at w
  dsimp only at w
  refine ⟨.ref a, ha, tyV_list hva, ?_⟩
  split at w
  · rename_i d q4
    obtain ⟨u, hu, ru⟩ := rl.get q4
    refine ⟨a, vs, u, rfl, rfl, hva, by rw [← rl.length]; exact hu, ?_⟩
    obtain ⟨j2, t2⟩ := hc _ _ rl.dropLast
    exact w u _ t2 nwF ⟨j2, ru.mono fun b o n' q => stmt_keep j t2 b o n' q⟩
  · exact w.elim
/-- x op= e, the operator that of two values -/
def IpOk (X : Cx) (op : Operator) (o : D → D → Option (D × Bool)) : Prop :=
  ∃ r : TIp, PIp X op r ∧ ∀ (W : WX) (T : Tbl) (O : Addr → Prop) (σ : St) (e : Env) (H : Hp) (dx dy : D) (x y : V) (Q : VK), J T O σ e H → Pk T H (Or2 O (Own σ e)) dx x → Pk T H (Or2 O (Own σ e)) dy y → wpR T O W (RV T O σ) (pOut (o dx dy) e) σ e H Q → r x y H Q
def ipAdd : D → D → Option (D × Bool)
  | .int i, .int j => some (.int (i + j), false)
  | _, _ => none
def ipSub : D → D → Option (D × Bool)
  | .int i, .int j => some (.int (i - j), false)
  | _, _ => none
theorem IpOk.add : IpOk X .Add ipAdd := by
  refine ⟨_, ip_add, fun W T O σ e H dx dy x y Q j px py w => ?_⟩
  cases q : ipAdd dx dy with
  | none => exact bad_out w q
  | some z =>
    have q' := q
    unfold ipAdd at q'
    split at q'
    · cases q'; exact ⟨_, _, px, py, out_val j w q (by simp only [Rep])⟩
    · cases q'
theorem IpOk.sub : IpOk X .Sub ipSub := by
  refine ⟨_, ip_sub, fun W T O σ e H dx dy x y Q j px py w => ?_⟩
  cases q : ipSub dx dy with
  | none => exact bad_out w q
  | some z =>
    have q' := q
    unfold ipSub at q'
    split at q'
    · cases q'; exact ⟨_, _, px, py, out_val j w q (by simp only [Rep])⟩
    · cases q'
def op2 (o : D → D → Option (D × Bool)) : Option D → Option D → Option (D × Bool)
  | some d, some d' => o d d'
  | _, _ => none
theorem op2_some {o : D → D → Option (D × Bool)} {a b : Option D} {z : D × Bool} (h : op2 o a b = some z) : ∃ d d', a = some d ∧ b = some d' ∧ o d d' = some z := by
  unfold op2 at h; split at h
  · exact ⟨_, _, rfl, rfl, h⟩
  · cases h
def sAug (i : Nat) (o : D → D → Option (D × Bool)) (m : M Hv) : MS := sOf (M.bind (mSlot i) fun h => M.bind m fun k => fun e => pOut (op2 o (h.fetch e) (k.fetch e)) e) (sPut i)
theorem ds_aug (i : Nat) {op : Operator} {o : D → D → Option (D × Bool)} {pos' : Pos} (ho : IpOk X op o) (he : DH X W T O a ma) (hN : X.N.Nodup) (hi : X.N[i]? = some x := by rfl) (hx : Loc X.env.scope x := by first | exact Or.inl rfl | exact Or.inr rfl) (hf : X.fn x = true ∨ X.env.scope.names.lookup x = some .local := by first | exact .inl rfl | exact .inr rfl | assumption) :
    DS X W T O (.AugAssign (.Name x pos') op a pos) (sAug i o ma) := by
  obtain ⟨r, hr, hi'⟩ := ho
  refine PS.of (ps_aug hN hi hx he hr hf) fun N σ H ⟨e, j, w⟩ => ?_
  obtain ⟨d0, hl, w⟩ := wpS_look w
  obtain ⟨v0, hv0⟩ := look_some j hl
  refine ⟨v0, hv0, e, j, (wpS_bind (R := RH T O σ) w).mono fun y H1 ⟨h, e1, t1, _, ⟨j1, r1⟩, w⟩ => ?_⟩
  unfold sOf at w
  dsimp only at w
  unfold pOut M.ofO at w
  cases q3 : op2 o ((Hv.slot i).fetch e1) (h.fetch e1) with
  | none => rw [q3] at w; exact w.elim
  | some z =>
    rw [q3] at w
    obtain ⟨d, d', q1, q2, q4⟩ := op2_some q3
    refine hi' W T O σ e1 H1 d d' v0 y _ j1 (look_pk j1 hv0 q1) (r1.pk j1 q2) ?_
    unfold pOut M.ofO
    rw [q4]
    obtain ⟨dz, fl⟩ := z
    intro v H2 t2 nw rv
    dsimp only [sPut] at w
    cases q : setSl e1 i (slOf dz fl) with
    | none => rw [q] at w; exact w.elim
    | some e2 =>
      rw [q] at w
      obtain ⟨j', t'⟩ := put_val t2 nw rv q
      exact w _ _ t' j'
end
end DV
-- DvJ
namespace DV
open PySem PySem.Spec PyProof.Rows L2
section
variable {T : Tbl} {O O' : Addr → Prop} {σ σ1 σ2 : St} {e e1 e2 : Env} {H H1 H2 H' : Hp} {P P' : Addr → Prop} {X : Cx} {W : WX} {a b c : Expr} {ma mb mc : M Hv} {mt : M Bool} {pos : Pos} {x : Str} {es : List Expr} {p : Pos} {m n : MS} {st : Stmt} {sts : List Stmt}
/-! ### iterators -/
inductive Yl where
  | one (v : V) | pair (vs : List V)
def Yl.ok (T : Tbl) (H : Hp) (P : Addr → Prop) : Yl → D → Prop
  | .one v, d => Rep T H P d v
  | .pair vs, d => ∃ ds, d = .tup ds ∧ RepL T H P ds vs
def Yl.run : Yl → Hp → V → Hp → Prop
  | .one v, H, x, H' => H' = H ∧ x = v
  | .pair vs, H, x, H' => ∃ p, H p = none ∧ x = .ref p ∧ H' = upd H p (.tup vs)
theorem Yl.ok.mono (hH : ∀ b o, ¬ P b → H b = some o → H' b = some o ∧ ¬ P' b) {y : Yl} {d : D} (h : y.ok T H P d) : y.ok T H' P' d := by
  cases y with
  | one v => exact Rep.mono hH d v h
  | pair vs => obtain ⟨ds, e, r⟩ := h; exact ⟨ds, e, r.mono hH⟩
/-- the iterator I hands out ds; what it walks on stays -/
def ItOk (T : Tbl) (H : Hp) (P : Addr → Prop) (I : It) (ds : List D) : Prop :=
  ∃ (S : List (Addr × HO)) (ys : List Yl), (∀ p ∈ S, H p.1 = some p.2 ∧ ¬ P p.1) ∧ ys.length = ds.length ∧ (∀ (i : Nat) (y : Yl) (d : D), ys[i]? = some y → ds[i]? = some d → y.ok T H P d) ∧
    ∀ H', (∀ p ∈ S, H' p.1 = some p.2) → (∀ (i : Nat) (y : Yl), ys[i]? = some y → I.go i H' ∧ ∀ x H'', I.yld i H' x H'' → y.run H' x H'') ∧ ∀ i, ys.length ≤ i → I.stop i H'
theorem ItOk.mono (hH : ∀ b o, ¬ P b → H b = some o → H' b = some o ∧ ¬ P' b) {I : It} {ds : List D} (h : ItOk T H P I ds) : ItOk T H' P' I ds := by
  obtain ⟨S, ys, h1, h2, h3, h4⟩ := h
  exact ⟨S, ys, fun p q => ⟨(hH _ _ (h1 p q).2 (h1 p q).1).1, (hH _ _ (h1 p q).2 (h1 p q).1).2⟩, h2, fun i y d p q => (h3 i y d p q).mono hH, h4⟩
theorem ItOk.yield {I : It} {ds : List D} (k : ItOk T H (Or2 O (Own σ e)) I ds) {i : Nat} {d : D} (hd : ds[i]? = some d) (j : J T O σ e H) : I.go i H ∧ ∀ x H', I.yld i H x H' → J T O σ e H' ∧ Tr σ e H σ e H' ∧ Rep T H' (Or2 O (Own σ e)) d x := by
  obtain ⟨S, ys, h1, h2, h3, h4⟩ := k
  have hi : i < ys.length := by rw [h2]; exact lt_of_get hd
  obtain ⟨g1, _⟩ := h4 H fun p q => (h1 p q).1
  obtain ⟨go, yl⟩ := g1 i ys[i] (List.getElem?_eq_getElem hi)
  have ok := h3 i ys[i] d (List.getElem?_eq_getElem hi) hd
  refine ⟨go, fun x H' y => ?_⟩
  have r := yl x H' y
  cases q : ys[i] with
  | one v =>
    rw [q] at r ok
    obtain ⟨rfl, rfl⟩ := r
    exact ⟨j, Tr.refl, ok⟩
  | pair vs =>
    rw [q] at r ok
    obtain ⟨p, hp, rfl, rfl⟩ := r
    obtain ⟨ds', rfl, rr⟩ := ok
    exact ⟨j.alloc hp, Tr.alloc hp, rep_tup_new j hp rr⟩
theorem ItOk.fin {I : It} {ds : List D} (k : ItOk T H P I ds) {i : Nat} (h : ds.length ≤ i) : I.stop i H := by
  obtain ⟨S, ys, h1, h2, h3, h4⟩ := k
  exact (h4 H fun p q => (h1 p q).1).2 i (by omega)
def RI (T : Tbl) (O : Addr → Prop) (σ : St) (ds : List D) (I : It) (e : Env) (H : Hp) : Prop := J T O σ e H ∧ ItOk T H (Or2 O (Own σ e)) I ds
instance : Nw (List D) It := ⟨fun _ _ _ => False⟩
def DI (X : Cx) (W : WX) (T : Tbl) (O : Addr → Prop) (tg it : Expr) (m : M (List D)) : Prop := ∃ wi : TI, PI X tg it wi ∧ ∀ σ H R, wpG T O W (RI T O σ) m σ H R → wi σ H R
theorem itl_ok {K : PySem.W.Frag} {xs : List D} {a : Addr} {vs : List V} (n : ¬ P a) (h : H a = some (.lst vs)) (r : RepL T H P xs vs) : ItOk T H P (Itl K a) xs := by
  refine ⟨[(a, .lst vs)], vs.map .one, fun p q => ?_, by rw [List.length_map, r.length], fun i y d q1 q2 => ?_, fun H' q => ?_⟩
  · cases List.mem_singleton.mp q; exact ⟨h, n⟩
  · rw [List.getElem?_map] at q1
    obtain ⟨u, hu, ru⟩ := r.get q2
    rw [hu] at q1; cases q1
    exact ru
  · have h' : H' a = some (.lst vs) := q _ (List.mem_singleton.mpr rfl)
    refine ⟨fun i y q1 => ?_, fun i q1 => ⟨vs, SqL.of h', by simpa using q1⟩⟩
    rw [List.getElem?_map] at q1
    cases q2 : vs[i]? with
    | none => rw [q2] at q1; cases q1
    | some u =>
      rw [q2] at q1; cases q1
      refine ⟨⟨vs, u, SqL.of h', q2⟩, fun x H'' ⟨z1, z2⟩ => ⟨z1, ?_⟩⟩
      have := z2 vs (SqL.of h')
      rw [q2] at this; cases this; rfl
theorem itt_ok {K : PySem.W.Frag} {xs : List D} {a : Addr} {vs : List V} (n : ¬ P a) (h : H a = some (.tup vs)) (r : RepL T H P xs vs) : ItOk T H P (Itt K a) xs := by
  refine ⟨[(a, .tup vs)], vs.map .one, fun p q => ?_, by rw [List.length_map, r.length], fun i y d q1 q2 => ?_, fun H' q => ?_⟩
  · cases List.mem_singleton.mp q; exact ⟨h, n⟩
  · rw [List.getElem?_map] at q1
    obtain ⟨u, hu, ru⟩ := r.get q2
    rw [hu] at q1; cases q1
    exact ru
  · have h' : H' a = some (.tup vs) := q _ (List.mem_singleton.mpr rfl)
    refine ⟨fun i y q1 => ?_, fun i q1 => ⟨vs, SqT.of h', by simpa using q1⟩⟩
    rw [List.getElem?_map] at q1
    cases q2 : vs[i]? with
    | none => rw [q2] at q1; cases q1
    | some u =>
      rw [q2] at q1; cases q1
      refine ⟨⟨vs, u, SqT.of h', q2⟩, fun x H'' ⟨z1, z2⟩ => ⟨z1, ?_⟩⟩
      have := z2 vs (SqT.of h')
      rw [q2] at this; cases this; rfl
def rgD (lo : Int) (n : Nat) : List D := (List.range n).map fun (i : Nat) => D.int (lo + (i : Int))
theorem itr_ok {lo : Int} {n : Nat} : ItOk T H P (Itr lo n) (rgD lo n) := by
  refine ⟨[], (List.range n).map fun (i : Nat) => Yl.one (.int (lo + (i : Int))), fun p q => absurd q (by simp), by simp [rgD], fun i y d q1 q2 => ?_, fun H' q => ⟨fun i y q1 => ?_, fun i q1 => by simpa [Itr] using q1⟩⟩
  · rw [List.getElem?_map] at q1
    unfold rgD at q2
    rw [List.getElem?_map] at q2
    cases q3 : (List.range n)[i]? with
    | none => rw [q3] at q1; cases q1
    | some k =>
      rw [q3] at q1 q2; cases q1; cases q2
      show Rep T H P (.int _) _
      simp only [Rep]
  · rw [List.getElem?_map] at q1
    cases q3 : (List.range n)[i]? with
    | none => rw [q3] at q1; cases q1
    | some k =>
      rw [q3] at q1; cases q1
      obtain ⟨h1, h2⟩ := List.getElem?_eq_some_iff.mp q3
      rw [List.getElem_range] at h2
      subst h2
      exact ⟨by simpa [Itr] using h1, fun x H'' z => z⟩
/-- both at once -/
def iSeq (K : PySem.W.Frag) (tl : TE) : TI := fun σ H R => tl σ H fun x H1 => (∃ a, x = .ref a ∧ (∃ xs, SqL K H1 a xs) ∧ R (Itl K a) H1) ∨ ∃ a, x = .ref a ∧ (∃ xs, SqT K H1 a xs) ∧ R (Itt K a) H1
theorem pi_seq {l tg : Expr} {tl : TE} (hl : PE X l tl) : PI X tg l (iSeq X.K tl) := by
  refine ⟨fun pins s σ H R I h => ?_⟩
  refine thn (hl.run pins s σ H _ I h) fun v s1 ⟨x, H1, I1, r1, q1⟩ => ?_
  rcases q1 with ⟨a, e, ⟨xs, hq⟩, q⟩ | ⟨a, e, ⟨xs, hq⟩, q⟩
  · subst e
    cases r1
    obtain ⟨its, rv, p, hz⟩ := I1.list hq
    refine wpAny_pyIter_list p.isList ?_
    refine ⟨s1.heap.objs.size, [s1.heap.objs.size], _, _, H1, rfl, I1.kept (t' := s1.toks) fun b o e => Heap.get?_push_of_some _ e, turn_list a _, ⟨_, Heap.get?_push_size _ rfl, rfl, rfl⟩, fun b hb => ?_, q⟩
    have e : b = s1.heap.objs.size := by simpa using hb
    subst e
    exact I1.fpOk (Nat.le_refl _) (I1.hok.fresh (Nat.le_refl _))
  · subst e
    cases r1
    obtain ⟨its, rv, p, hz⟩ := I1.tuple hq
    refine wpAny_pyIter_tuple (show s1.heap.IsTuple a its.toArray from p) ?_
    refine ⟨s1.heap.objs.size, [s1.heap.objs.size], _, _, H1, rfl, I1.kept (t' := s1.toks) fun b o e => Heap.get?_push_of_some _ e, turn_tuple a _, ⟨_, Heap.get?_push_size _ rfl, rfl, rfl⟩, fun b hb => ?_, q⟩
    have e : b = s1.heap.objs.size := by simpa using hb
    subst e
    exact I1.fpOk (Nat.le_refl _) (I1.hok.fresh (Nat.le_refl _))
def items : D → Option (List D)
  | .lst ds => some ds
  | .tup ds => some ds
  | _ => none
def mIter (m : M (D × Bool)) : M (List D) := M.bind m fun x => M.ofO (items x.1)
theorem di_seq {tg : Expr} {me : M (D × Bool)} (h : DE X W T O a me) : DI X W T O tg a (mIter me) := by
  refine ⟨_, pi_seq h, fun σ H R w => wpG.mono (wpG.bind (R' := RV T O σ) w) fun v H1 ⟨⟨d, fl⟩, e1, r, w⟩ => ?_⟩
  obtain ⟨j1, r1⟩ := r.weak
  unfold M.ofO at w
  cases d with
  | lst ds =>
    simp only [Rep] at r1
    obtain ⟨a, vs, rfl, n, ha, rl⟩ := r1
    exact .inl ⟨a, rfl, ⟨vs, SqL.of ha⟩, w _ H1 Tr.refl nwN ⟨j1, itl_ok n ha rl⟩⟩
  | tup ds =>
    simp only [Rep] at r1
    obtain ⟨a, vs, rfl, n, ha, rl⟩ := r1
    exact .inr ⟨a, rfl, ⟨vs, SqT.of ha⟩, w _ H1 Tr.refl nwN ⟨j1, itt_ok n ha rl⟩⟩
  | _ => exact w.elim
def smI (j : Int) : Bool := decide (-(2 ^ 62) ≤ j ∧ j < 2 ^ 62)
def mRg1 (m : M (List Hv)) : M (List D) := mA m fun ds => match ds with
  | [.int j] => if smI j then M.pure (rgD 0 j.toNat) else M.bad
  | _ => M.bad
theorem di_range1 {tg : Expr} {p pos : Pos} {m : M (List Hv)} (hg : Gl X "range") (hm : X.mg "range" = none) (ha : DA X W T O [a] m) (hs : starEach [a] X.env = [(false, eval a X.env)] := by rfl) : DI X W T O tg (.Call (.Name "range" p) [a] [] pos) (mRg1 m) := by
  refine ⟨_, pi_range1 hg hm ha hs, fun σ H R w => wpG.mono (wpA w) fun vs H1 ⟨e1, ds, j1, pk, w⟩ => ?_⟩
  split at w
  · rename_i j
    obtain ⟨v, r, rfl, hv, rfl⟩ := pk
    have hv : v = .int j := hv
    split at w
    · rename_i hs
      obtain ⟨h1, h2⟩ : _ ∧ _ := by unfold smI at hs; exact of_decide_eq_true hs
      exact ⟨j, by rw [hv], h1, h2, w _ H1 Tr.refl nwN ⟨j1, itr_ok⟩⟩
    · exact w.elim
  · exact w.elim
def mRg2 (m : M (List Hv)) : M (List D) := mA m fun ds => match ds with
  | [.int i, .int j] => if smI i && smI j then M.pure (rgD i (j - i).toNat) else M.bad
  | _ => M.bad
theorem di_range2 {tg : Expr} {p pos : Pos} {m : M (List Hv)} (hg : Gl X "range") (hm : X.mg "range" = none) (ha : DA X W T O [a, b] m) (hs : starEach [a, b] X.env = [(false, eval a X.env), (false, eval b X.env)] := by rfl) (hs2 : starEach [b] X.env = [(false, eval b X.env)] := by rfl) : DI X W T O tg (.Call (.Name "range" p) [a, b] [] pos) (mRg2 m) := by
  refine ⟨_, pi_range2 hg hm ha hs hs2, fun σ H R w => wpG.mono (wpA w) fun vs H1 ⟨e1, ds, j1, pk, w⟩ => ?_⟩
  split at w
  · rename_i i j
    obtain ⟨v, r, rfl, hv, u, r2, rfl, hu, rfl⟩ := pk
    have hv : v = .int i := hv
    have hu : u = .int j := hu
    split at w
    · rename_i hs
      rw [Bool.and_eq_true] at hs
      obtain ⟨h1, h2⟩ : _ ∧ _ := by have := hs.1; unfold smI at this; exact of_decide_eq_true this
      obtain ⟨h3, h4⟩ : _ ∧ _ := by have := hs.2; unfold smI at this; exact of_decide_eq_true this
      exact ⟨i, j, by rw [hv, hu], ⟨h1, h2, h3, h4⟩, w _ H1 Tr.refl nwN ⟨j1, itr_ok⟩⟩
    · exact w.elim
  · exact w.elim
/-- zip of two lists -/
def zipD : List D → List D → List D
  | x :: xs, y :: ys => .tup [x, y] :: zipD xs ys
  | _, _ => []
theorem zipD_get : ∀ {xs ys : List D} {i : Nat} {d : D}, (zipD xs ys)[i]? = some d → ∃ x y, d = .tup [x, y] ∧ xs[i]? = some x ∧ ys[i]? = some y
  | [], ys, i, d, h => by simp [zipD] at h
  | x :: xs, [], i, d, h => by simp [zipD] at h
  | x :: xs, y :: ys, 0, d, h => by simp [zipD] at h; exact ⟨x, y, h.symm, rfl, rfl⟩
  | x :: xs, y :: ys, i + 1, d, h => by
    simp only [zipD, List.getElem?_cons_succ] at h ⊢
    exact zipD_get h
theorem zipD_len : ∀ {xs ys : List D}, (zipD xs ys).length = min xs.length ys.length
  | [], ys => by simp [zipD]
  | x :: xs, [] => by simp [zipD]
  | x :: xs, y :: ys => by simp only [zipD, List.length_cons, zipD_len]; omega
theorem itz_ok {K : PySem.W.Frag} {xs ys : List D} {a b : Addr} {vs us : List V} (n : ¬ P a) (h : H a = some (.lst vs)) (r : RepL T H P xs vs) (n2 : ¬ P b) (h2 : H b = some (.lst us)) (r2 : RepL T H P ys us) : ItOk T H P (Itz K a b) (zipD xs ys) := by
  refine ⟨[(a, .lst vs), (b, .lst us)], (vs.zip us).map fun p => .pair [p.1, p.2], fun p q => ?_, by rw [List.length_map, List.length_zip, zipD_len, r.length, r2.length], fun i y d q1 q2 => ?_, fun H' q => ?_⟩
  · rcases List.mem_cons.mp q with rfl | q
    · exact ⟨h, n⟩
    · cases List.mem_singleton.mp q; exact ⟨h2, n2⟩
  · obtain ⟨x, y', rfl, hx, hy⟩ := zipD_get q2
    obtain ⟨u, hu, ru⟩ := r.get hx
    obtain ⟨w, hw, rw'⟩ := r2.get hy
    rw [List.getElem?_map, show (vs.zip us)[i]? = some (u, w) from List.getElem?_zip_eq_some.mpr ⟨hu, hw⟩] at q1
    cases q1
    exact ⟨_, rfl, RepL.cons ru (RepL.cons rw' RepL.nil)⟩
  · have h' : H' a = some (.lst vs) := q _ (List.mem_cons_self)
    have h2' : H' b = some (.lst us) := q _ (List.mem_cons_of_mem _ (List.mem_singleton.mpr rfl))
    refine ⟨fun i y q1 => ?_, fun i q1 => ⟨vs, us, SqL.of h', SqL.of h2', by rw [List.length_map, List.length_zip] at q1; omega⟩⟩
    rw [List.getElem?_map] at q1
    cases q2 : (vs.zip us)[i]? with
    | none => rw [q2] at q1; cases q1
    | some u =>
      rw [q2] at q1; cases q1
      obtain ⟨u1, u2⟩ := u
      obtain ⟨hu, hw⟩ := List.getElem?_zip_eq_some.mp q2
      refine ⟨⟨vs, us, u1, u2, SqL.of h', SqL.of h2', hu, hw⟩, fun x H'' ⟨p, x1, y1, z1, z2, z3, z4, z5⟩ => ⟨p, z2, z1, ?_⟩⟩
      have e1 := z4 vs (SqL.of h')
      have e2 := z5 us (SqL.of h2')
      rw [hu] at e1; rw [hw] at e2; cases e1; cases e2
      exact z3
def mZip (m : M (List Hv)) : M (List D) := M.bind m fun hs => match hs with
  | [.val (.lst xs), .val (.lst ys)] => M.pure (zipD xs ys)
  | _ => M.bad
theorem di_zip {p pos tpos : Pos} {elts : List Expr} {kk : Nat} {m : M (List Hv)} (hg : Gl X "zip") (hm : X.mg "zip" = none) (ha : DA X W T O [a, b] m) (hs : starEach [a, b] X.env = (false, eval a X.env) :: starEach [b] X.env := by rfl) (hpl : (backTo pos (starEach [b] X.env)).any (·.1) = false := by rfl) : DI X W T O (.Tuple elts kk tpos) (.Call (.Name "zip" p) [a, b] [] pos) (mZip m) := by
  refine ⟨_, pi_zip hg hm ha hs hpl, fun σ H R w => wpG.mono (wpG.bind (R' := RA T O σ) w) fun vs H1 ⟨hs, e1, ⟨j1, r1⟩, w⟩ => ?_⟩
  split at w
  · rename_i xs ys
    obtain ⟨v, r, rfl, hv, u, r2, rfl, hu, rfl⟩ := r1
    simp only [RH1, Rep] at hv hu
    obtain ⟨a, vs, rfl, n1, ha, ra⟩ := hv
    obtain ⟨b, us, rfl, n2, hb, rb⟩ := hu
    exact ⟨a, b, vs, us, rfl, SqL.of ha, SqL.of hb, w _ H1 Tr.refl nwN ⟨j1, itz_ok n1 ha ra n2 hb rb⟩⟩
  · exact w.elim
def enumD : Nat → List D → List D
  | _, [] => []
  | k, x :: xs => .tup [.int k, x] :: enumD (k + 1) xs
theorem enumD_get : ∀ {xs : List D} {k i : Nat} {d : D}, (enumD k xs)[i]? = some d → ∃ x, d = .tup [.int ((k + i : Nat) : Int), x] ∧ xs[i]? = some x
  | [], k, i, d, h => by simp [enumD] at h
  | x :: xs, k, 0, d, h => by simp [enumD] at h; exact ⟨x, h.symm, rfl⟩
  | x :: xs, k, i + 1, d, h => by
    simp only [enumD, List.getElem?_cons_succ] at h ⊢
    obtain ⟨y, h1, h2⟩ := enumD_get h
    exact ⟨y, by rw [h1]; congr 4; omega, h2⟩
theorem enumD_len : ∀ {xs : List D} {k : Nat}, (enumD k xs).length = xs.length
  | [], k => rfl
  | x :: xs, k => by simp only [enumD, List.length_cons, enumD_len]
theorem ite_ok {K : PySem.W.Frag} {xs : List D} {a : Addr} {vs : List V} (n : ¬ P a) (h : H a = some (.lst vs)) (r : RepL T H P xs vs) : ItOk T H P (Ite K a) (enumD 0 xs) := by
  refine ⟨[(a, .lst vs)], vs.zipIdx.map fun p => .pair [.int (p.2 : Nat), p.1], fun p q => ?_, by rw [List.length_map, List.length_zipIdx, enumD_len, r.length], fun i y d q1 q2 => ?_, fun H' q => ?_⟩
  · cases List.mem_singleton.mp q; exact ⟨h, n⟩
  · obtain ⟨x, rfl, hx⟩ := enumD_get q2
    obtain ⟨u, hu, ru⟩ := r.get hx
    rw [List.getElem?_map, List.getElem?_zipIdx, hu] at q1
    cases q1
    exact ⟨_, rfl, RepL.cons (by simp only [Rep]) (RepL.cons ru RepL.nil)⟩
  · have h' : H' a = some (.lst vs) := q _ (List.mem_singleton.mpr rfl)
    refine ⟨fun i y q1 => ?_, fun i q1 => ⟨vs, SqL.of h', by rw [List.length_map, List.length_zipIdx] at q1; exact q1⟩⟩
    rw [List.getElem?_map, List.getElem?_zipIdx] at q1
    cases q2 : vs[i]? with
    | none => rw [q2] at q1; cases q1
    | some u =>
      rw [q2] at q1; cases q1
      refine ⟨⟨vs, u, SqL.of h', q2⟩, fun x H'' ⟨p, x1, z1, z2, z3, z4⟩ => ⟨p, z2, z1, ?_⟩⟩
      have e1 := z4 vs (SqL.of h')
      rw [q2] at e1; cases e1
      rw [z3, Nat.zero_add]
def mEnum (m : M (List Hv)) : M (List D) := M.bind m fun hs => match hs with
  | [.val (.lst xs)] => M.pure (enumD 0 xs)
  | _ => M.bad
theorem di_enum {p pos tpos : Pos} {elts : List Expr} {kk : Nat} {m : M (List Hv)} (hg : Gl X "enumerate") (hm : X.mg "enumerate" = none) (ha : DA X W T O [a] m) (hs : starEach [a] X.env = [(false, eval a X.env)] := by rfl) : DI X W T O (.Tuple elts kk tpos) (.Call (.Name "enumerate" p) [a] [] pos) (mEnum m) := by
  refine ⟨_, pi_enum hg hm ha hs, fun σ H R w => wpG.mono (wpG.bind (R' := RA T O σ) w) fun vs H1 ⟨hs, e1, ⟨j1, r1⟩, w⟩ => ?_⟩
  split at w
  · rename_i xs
    obtain ⟨v, r, rfl, hv, rfl⟩ := r1
    simp only [RH1, Rep] at hv
    obtain ⟨a, vs, rfl, n1, ha, ra⟩ := hv
    exact ⟨a, vs, rfl, SqL.of ha, w _ H1 Tr.refl nwN ⟨j1, ite_ok n1 ha ra⟩⟩
  · exact w.elim
end
end DV
-- DvK
namespace DV
open PySem PySem.Spec PyProof.Rows L2
section
variable {T : Tbl} {O O' : Addr → Prop} {σ σ1 σ2 : St} {e e1 e2 : Env} {H H1 H2 H' : Hp} {P P' : Addr → Prop} {X : Cx} {W : WX} {a b c : Expr} {ma mb mc : M Hv} {mt : M Bool} {pos : Pos} {x : Str} {es : List Expr} {p : Pos} {m n : MS} {st : Stmt} {sts : List Stmt}
set_option maxHeartbeats 1000000 in
theorem meets_enumerate_newB1 {v : Value} {o : Obj} {HH : Heap → Prop} (B : Begins v o HH) :
    Meets (Builtin.«enumerate.__new__» ⟨[.type "enumerate", v], []⟩) (fun _ R s => HH s.heap ∧
      R (.ok (.ret (.ref (s.heap.push o).objs.size))) { s with heap := (s.heap.push o).push { cls := .type "enumerate", data := .fields #[.none, .bool false, .ref s.heap.objs.size, rawInt 0, .none, .none] } }) :=
  .of_wp fun prog w A R s h => by
    obtain ⟨hp, g, d, tk, os⟩ := s; obtain ⟨h1, h⟩ := h
    have hsub := sub_enumerate
    have q1 : ∀ {A' : Around} {E : Value → Shared → Prop} {Q : Value → Shared → Prop}, Q (.ref hp.objs.size) ⟨hp.push o, g, d, tk, os⟩ → wpAny (model prog w) A' (pyIter v) Q E ⟨hp, g, d, tk, os⟩ :=
      fun q => B.iter prog w _ _ ⟨hp, g, d, tk, os⟩ _ h1 q
    wp_walk using q1
    refine wpAny_stack_any fun st => wpAny_pure ?_
    split
    · rename_i c _ _ _ _ _
      cases (c == Value.type "enumerate")
      · wp_walk using q1
        exact ⟨_, rfl, h⟩
      · wp_walk using q1
        exact ⟨_, rfl, h⟩
    · wp_walk using q1
      exact ⟨_, rfl, h⟩
theorem enum_begins1 {prog : Program} {w : World} {A : Around} {E : Value → Shared → Prop} {s : Shared} {v : Value} {o : Obj} {HH : Heap → Prop} {Q : Value → Shared → Prop} (B : Begins v o HH) (h1 : HH s.heap)
    (h : ∀ h', IsEnum h' (s.heap.objs.size + 1) s.heap.objs.size 0 .none → h'.get? s.heap.objs.size = some o → h'.objs.size = s.heap.objs.size + 2 →
      (∀ b o, s.heap.get? b = some o → h'.get? b = some o) → Q (.ref (s.heap.objs.size + 1)) { s with heap := h' }) :
    wpAny (model prog w) A (call (.type "enumerate") [v]) Q E s := by
  refine callType_new F.called_enumerate (by decide) (F.typeCall_enumerate_1 _) (F.newCall_enumerate_1 _) (fun obj => F.args_object_init_2 obj _) F.entry_enumerate_new
    (meets_enumerate_newB1 B) ⟨h1, ?_⟩
  have hz : (s.heap.push o).objs.size = s.heap.objs.size + 1 := Heap.size_push ..
  show _ ∧ _
  rw [hz]
  have he : IsEnum ((s.heap.push o).push { cls := .type "enumerate", data := .fields #[.none, .bool false, .ref s.heap.objs.size, rawInt 0, .none, .none] }) (s.heap.objs.size + 1) s.heap.objs.size 0 .none := by
    have := Heap.get?_push_size (s.heap.push o) (o := { cls := .type "enumerate", data := .fields #[.none, .bool false, .ref s.heap.objs.size, rawInt 0, .none, .none] }) rfl
    rw [hz] at this; exact this
  refine ⟨⟨_, he, rfl⟩, h _ he (Heap.get?_push_of_some _ (Heap.get?_push_size _ B.free)) (by rw [Heap.size_push, hz]) fun b o x => Heap.get?_push_of_some _ (Heap.get?_push_of_some _ x)⟩
/-- the tuple at a, each item in a new pair -/
def IteT (K : PySem.W.Frag) (a : Addr) : It :=
  ⟨fun i H => ∃ (xs : List V) (x : V), SqT K H a xs ∧ xs[i]? = some x, fun i H v H' => ∃ T x, v = .ref T ∧ H T = none ∧ H' = upd H T (.tup [.int (i : Nat), x]) ∧ ∀ xs, SqT K H a xs → xs[i]? = some x, fun i H => ∃ xs : List V, SqT K H a xs ∧ xs.length ≤ i⟩
theorem ne_tup_enum {h : Heap} {a e it : Addr} {i : Int} {old : Value} {its : Array Value} (p : h.IsTuple a its) (he : IsEnum h e it i old) : e ≠ a := fun z => by
  subst z
  obtain ⟨o, h1, h2, _⟩ := p
  rw [he] at h1; cases h1; (injection h2 with z; exact absurd z (by decide))
theorem ne_tup_iter {h : Heap} {a it t : Addr} {i : Nat} {its : Array Value} (p : h.IsTuple a its) (hit : h.IsTupleIter it t i) : a ≠ it := fun z => by
  subst z
  obtain ⟨o, h1, h2, _⟩ := p
  obtain ⟨o', h3, h4, _⟩ := hit
  rw [h1] at h3; cases h3; rw [h2] at h4; (injection h4 with z; exact absurd z (by decide))
theorem pyNext_enumT_end {prog : Program} {w : World} {A : Around} {E : Value → Shared → Prop} {s : Shared} {e it t : Addr} {i j : Nat} {items : Array Value} {old : Value} {Q : Option Value → Shared → Prop} (hh : A.handled = none)
    (he : IsEnum s.heap e it ((j : Nat) : Int) old) (hit : s.heap.IsTupleIter it t i) (hl : s.heap.IsTuple t items) (hx : items[i]? = none)
    (hQ : ∀ h', Heap.ExtBut it s.heap h' → Q none { s with heap := h' }) : wpAny (model prog w) A (pyNext (.ref e)) Q E s := by
  have hTy : s.TypeIs (.ref e) "enumerate" := ⟨_, he, rfl⟩
  unfold pyNext
  refine wpAny_bind (wpAny_attempt (wpAny_callSpecial?_slot (name := Str.ofString "__next__") hTy F.slot_enumerate_next
    (wpAny_call_entry F.slot_enumerate_next hTy F.entry_enumerate_next ?_ (F.args_enumerate_next_1 _))))
  show wpAny _ _ (field (.ref e) 2 >>= _) _ _ _
  refine wpAny_bind (wpAny_field he rfl (x := .ref it) rfl ?_)
  refine wpAny_bind (wpAny_nextOf_tuple_end hh hit hl hx fun h' x he' hx' => ?_)
  obtain ⟨o, ho, hc⟩ := hx'
  refine wpAny_bind (wpAny_isInstance (T := "StopIteration") (b := true) ⟨o, ho, hc⟩ isSubtype_stop ?_)
  exact wpAny_pure (hQ _ he')
theorem turn_enumT {P : Program} {w : World} {K : PySem.W.Frag} {elts : List Expr} {kk : Nat} {tpos : Pos} (a e it : Addr) :
    Turn P w K (.Tuple elts kk tpos) (IteT K a) [e, it] e (fun i h => (∃ old, IsEnum h e it ((i : Nat) : Int) old) ∧ h.IsTupleIter it a i ∧ e ≠ it) where
  mem := by simp
  obj := fun i h st b hb => by
    obtain ⟨⟨old, he⟩, ⟨o, ho, hc, hd⟩, _⟩ := st
    have e' : b = e ∨ b = it := by simpa using hb
    rcases e' with z | z
    · rw [z]; exact ⟨_, he, fun v q => nomatch q⟩
    · rw [z]; exact ⟨o, ho, fun v q => by rw [hd] at q; cases q⟩
  keep := fun i h h' st k => let ⟨⟨old, he⟩, hi, hne⟩ := st; ⟨⟨old, k e (by simp) _ he⟩, hi.at fun o q => k it (by simp) o q, hne⟩
  item := by
    intro X hP hw hK hc i pins s σ H E I hf st hg
    subst hP hw hK
    obtain ⟨⟨old, he⟩, hit, hne⟩ := st
    obtain ⟨xs, x, hq, hx⟩ := hg
    obtain ⟨its, rv, p, hz⟩ := I.tuple hq
    obtain ⟨u, hu, ru⟩ := rv.get hx
    have p' : s.heap.IsTuple a its.toArray := p
    have hel : e < s.heap.objs.size := Heap.lt_size he
    have hil : it < s.heap.objs.size := by obtain ⟨_, q, _⟩ := hit; exact Heap.lt_size q
    have hlt : i < its.toArray.size := by rw [List.size_toArray]; exact lt_of_get hu
    refine wpAny_pyNext_enum_itemD (Draws.tuple (A := X.A.in1) (I.ok.hd hc) it a (ne_tup_iter p' hit) its.toArray) he ⟨hit, p'⟩ hlt hne (by
      intro z
      have z' : e = it ∨ e = a := by simpa using z
      rcases z' with z | z
      · exact hne z
      · exact ne_tup_enum p' he z) fun x' h' tk hP ho st' hT hsz hk => ?_
    have ex : x' = u := by
      have hP' : its.toArray[i]? = some x' := hP
      rw [List.getElem?_toArray, hu] at hP'
      cases hP'; rfl
    subst ex
    refine ⟨_, rfl, wpAny_letOwnedTupleGo_enum (s := { s with heap := h', toks := tk + 1 }) ho fun h'' he' sb => ?_⟩
    have hT2 : h''.get? s.heap.objs.size = some { cls := .type "tuple", data := .seq #[.int i tk, x'] } := (sb.2 _ (Nat.ne_of_gt hel)).trans hT
    have new : ObjOk X.prog X.w (upd H s.heap.objs.size (.tup [.int (i : Nat), x])) h'' s.heap.objs.size (.tup [.int (i : Nat), x]) :=
      ⟨by show 2 ≤ sizeLine; decide, [.int i tk, x'], .cons ⟨_, rfl⟩ (.cons ru .nil), ⟨_, hT2, rfl, _, rfl⟩⟩
    have I1 : Inv X pins σ (upd H s.heap.objs.size (.tup [.int (i : Nat), x])) { s with heap := h'', toks := tk + 1 } :=
      I.turnedNew (ch := [e, it]) (fun b ob hb q => (sb.2 b (fun z => hb (by simp [z]))).trans (hk b ob (fun z => hb (by simp [z])) (fun z => hb (by simp [z])) q)) hf (Nat.le_refl _) new
    refine ⟨.ref s.heap.objs.size, _, I1, rfl, ⟨_, x, rfl, I.hok.fresh (Nat.le_refl _), rfl, fun ys hy => by rw [I.tuple_inj hy hq]; exact hx⟩, ⟨⟨x', ?_⟩, st'.1.at fun o q => (sb.2 it (Ne.symm hne)).trans q, hne⟩, fun b hb => ?_⟩
    · have e1 : ((i + 1 : Nat) : Int) = (i : Int) + 1 := by omega
      rw [e1]; exact he'
    · have hb' : b < s.heap.objs.size := by
        have e' : b = e ∨ b = it := by simpa using hb
        rcases e' with z | z
        · rw [z]; exact hel
        · rw [z]; exact hil
      rw [upd_ne (Nat.ne_of_lt hb')]
      exact (hf b hb).1
  done := by
    intro X hP hw hK hc i pins s σ H E I hf st hg
    subst hP hw hK
    obtain ⟨⟨old, he⟩, hit, hne⟩ := st
    obtain ⟨xs, hq, hx⟩ := hg
    obtain ⟨its, rv, p, hz⟩ := I.tuple hq
    obtain ⟨f0, f1, f2, f3, f4, f5⟩ := hf it (by simp)
    have p' : s.heap.IsTuple a its.toArray := p
    have hl := rv.length
    exact pyNext_enumT_end (I.ok.hd hc) he hit p' (by simp; omega) fun h' eb => ⟨rfl, I.turned (t' := s.toks) (fun b o hb q => eb b o hb q) f0 f1 f3 f4 f5⟩
  self := fun A i s Q E st h => let ⟨⟨_, he⟩, _⟩ := st; wpAny_pyIter_enum he h
def iEnumA (K : PySem.W.Frag) (ta : TA) : TI := fun σ H R => ta σ H fun vs H1 => (∃ a xs, vs = [.ref a] ∧ SqL K H1 a xs ∧ R (Ite K a) H1) ∨ (∃ a xs, vs = [.ref a] ∧ SqT K H1 a xs ∧ R (IteT K a) H1)
theorem pi_enumA {ta : TA} {p pos tpos : Pos} {elts : List Expr} {kk : Nat} (hg : Gl X "enumerate") (hm : X.mg "enumerate" = none) (ha : PA X [a] ta) (hs : starEach [a] X.env = [(false, eval a X.env)] := by rfl) :
    PI X (.Tuple elts kk tpos) (.Call (.Name "enumerate" p) [a] [] pos) (iEnumA X.K ta) := by
  refine ⟨fun pins s σ H R I h => ?_⟩
  refine Call_ (ld_blt I hg hm boot_enumerate (PyProof.Rows.callWith_type1 (thn (ha.run pos pins s σ H _ I h) fun us s1 ⟨vs, H1, I1, r1, q1⟩ => ?_) hs rfl))
  have fp : ∀ b ∈ [s1.heap.objs.size + 1, s1.heap.objs.size], FpOk X pins H1 b := fun b hb => by
    have e' : b = s1.heap.objs.size + 1 ∨ b = s1.heap.objs.size := by simpa using hb
    have hle : s1.heap.objs.size ≤ b := by
      rcases e' with z | z
      · rw [z]; exact Nat.le_add_right _ _
      · rw [z]; exact Nat.le_refl _
    exact I1.fpOk hle (I1.hok.fresh hle)
  rcases q1 with ⟨a, xs, ex, hq, q⟩ | ⟨a, xs, ex, hq, q⟩
  · subst ex
    cases r1 with
    | cons r rr =>
      cases rr
      cases r
      obtain ⟨its, rv, p', hz⟩ := I1.list hq
      refine call_enumerate_list p'.isList fun h' he hit hsz hk => wpAny_pyIter_enum he ?_
      have I2 : Inv X pins σ H1 { s1 with heap := h' } := I1.kept (t' := s1.toks) hk
      exact ⟨s1.heap.objs.size + 1, [s1.heap.objs.size + 1, s1.heap.objs.size], _, _, H1, rfl, I2, turn_enum a (s1.heap.objs.size + 1) s1.heap.objs.size, ⟨⟨.none, he⟩, hit, Nat.succ_ne_self _⟩, fp, q⟩
  · subst ex
    cases r1 with
    | cons r rr =>
      cases rr
      cases r
      obtain ⟨its, rv, p', hz⟩ := I1.tuple hq
      refine enum_begins1 (begins_tuple a its.toArray) p' fun h' he hit hsz hk => wpAny_pyIter_enum he ?_
      have I2 : Inv X pins σ H1 { s1 with heap := h' } := I1.kept (t' := s1.toks) hk
      exact ⟨s1.heap.objs.size + 1, [s1.heap.objs.size + 1, s1.heap.objs.size], _, _, H1, rfl, I2, turn_enumT a (s1.heap.objs.size + 1) s1.heap.objs.size, ⟨⟨.none, he⟩, ⟨_, hit, rfl, rfl⟩, Nat.succ_ne_self _⟩, fp, q⟩
theorem iteT_ok {K : PySem.W.Frag} {xs : List D} {a : Addr} {vs : List V} (n : ¬ P a) (h : H a = some (.tup vs)) (r : RepL T H P xs vs) : ItOk T H P (IteT K a) (enumD 0 xs) := by
  refine ⟨[(a, .tup vs)], vs.zipIdx.map fun p => .pair [.int (p.2 : Nat), p.1], fun p q => ?_, by rw [List.length_map, List.length_zipIdx, enumD_len, r.length], fun i y d q1 q2 => ?_, fun H' q => ?_⟩
  · cases List.mem_singleton.mp q; exact ⟨h, n⟩
  · obtain ⟨x, rfl, hx⟩ := enumD_get q2
    obtain ⟨u, hu, ru⟩ := r.get hx
    rw [List.getElem?_map, List.getElem?_zipIdx, hu] at q1
    cases q1
    exact ⟨_, rfl, RepL.cons (by simp only [Rep]) (RepL.cons ru RepL.nil)⟩
  · have h' : H' a = some (.tup vs) := q _ (List.mem_singleton.mpr rfl)
    refine ⟨fun i y q1 => ?_, fun i q1 => ⟨vs, SqT.of h', by rw [List.length_map, List.length_zipIdx] at q1; exact q1⟩⟩
    rw [List.getElem?_map, List.getElem?_zipIdx] at q1
    cases q2 : vs[i]? with
    | none => rw [q2] at q1; cases q1
    | some u =>
      rw [q2] at q1; cases q1
      refine ⟨⟨vs, u, SqT.of h', q2⟩, fun x H'' ⟨p, x1, z1, z2, z3, z4⟩ => ⟨p, z2, z1, ?_⟩⟩
      have e1 := z4 vs (SqT.of h')
      rw [q2] at e1; cases e1
      rw [z3, Nat.zero_add]
def mEnumA (m : M (List Hv)) : M (List D) := M.bind m fun hs => match hs with
  | [.val (.lst xs)] => M.pure (enumD 0 xs)
  | [.val (.tup xs)] => M.pure (enumD 0 xs)
  | _ => M.bad
theorem di_enumA {p pos tpos : Pos} {elts : List Expr} {kk : Nat} {m : M (List Hv)} (hg : Gl X "enumerate") (hm : X.mg "enumerate" = none) (ha : DA X W T O [a] m) (hs : starEach [a] X.env = [(false, eval a X.env)] := by rfl) : DI X W T O (.Tuple elts kk tpos) (.Call (.Name "enumerate" p) [a] [] pos) (mEnumA m) := by
  refine ⟨_, pi_enumA hg hm ha hs, fun σ H R w => wpG.mono (wpG.bind (R' := RA T O σ) w) fun vs H1 ⟨hs, e1, ⟨j1, r1⟩, w⟩ => ?_⟩
  split at w
  · rename_i xs
    obtain ⟨v, r, rfl, hv, rfl⟩ := r1
    simp only [RH1, Rep] at hv
    obtain ⟨a, vs, rfl, n1, ha, ra⟩ := hv
    exact .inl ⟨a, vs, rfl, SqL.of ha, w _ H1 Tr.refl nwN ⟨j1, ite_ok n1 ha ra⟩⟩
  · rename_i xs
    obtain ⟨v, r, rfl, hv, rfl⟩ := r1
    simp only [RH1, Rep] at hv
    obtain ⟨a, vs, rfl, n1, ha, ra⟩ := hv
    exact .inr ⟨a, vs, rfl, SqT.of ha, w _ H1 Tr.refl nwN ⟨j1, iteT_ok n1 ha ra⟩⟩
  · exact w.elim
end
end DV
-- DvL
namespace DV
open PySem PySem.Spec PyProof.Rows L2
section
variable {T : Tbl} {O O' : Addr → Prop} {σ σ1 σ2 : St} {e e1 e2 : Env} {H H1 H2 H' : Hp} {P P' : Addr → Prop} {X : Cx} {W : WX} {a b c : Expr} {ma mb mc : M Hv} {mt : M Bool} {pos : Pos} {x : Str} {es : List Expr} {p : Pos} {m n : MS} {st : Stmt} {sts : List Stmt}
/-! ### for -/
def fLoop (g : Gt) (mb : MS) : List D → MS
  | [] => fun e => .nx e
  | d :: ds => fun e => match g d e with
    | none => .bad
    | some e1 => match mb e1 with
      | .nx e2 => fLoop g mb ds e2
      | .ct e2 => fLoop g mb ds e2
      | .bk e2 => .nx e2
      | .rt d fl e2 => .rt d fl e2
      | .exc c ds' e2 => .exc c ds' e2
      | .bad => .bad
def sFor (mi : M (List D)) (g : Gt) (mb : MS) : MS := sOf mi (fLoop g mb)
theorem ds_for {tg it : Expr} {body : List Stmt} {mi : M (List D)} {g : Gt} {mb : MS} {vs : List Nat} (hp : PassesOwn (model X.prog X.w) X.A X.env X.xe) (hc : X.calm = true) (hi : DI X W T O tg it mi) (hg : DG X T O vs tg g) (hb : DSs X W T O body mb)
    (hs : ∀ x, foldedSetIterable it X.env x = pure x := by intro _; rfl) : DS X W T O (.For tg it body [] pos) (sFor mi g mb) := by
  obtain ⟨wi, hwi, hi⟩ := hi
  obtain ⟨tg', htg, hg⟩ := hg
  refine PS.of (ps_for hp hc hwi htg hb hs) fun N σ H ⟨e, j, w⟩ => ?_
  refine hi σ H _ ⟨e, j, (wpS_ofR (R := RI T O σ) w).mono fun I H1 ⟨ds, e1, t1, _, ⟨j1, k1⟩, w1⟩ => ?_⟩
  refine ⟨fun i m σ' H' => m = ds.length - i ∧ i ≤ ds.length ∧ ∃ e', J T O σ' e' H' ∧ Tr σ e1 H1 σ' e' H' ∧ wpS T O W (fLoop g mb (ds.drop i) e') σ' e' H' N, ⟨ds.length, rfl, Nat.zero_le _, e1, j1, Tr.refl, w1.shift t1⟩, ?_⟩
  rintro i m σ' H' ⟨rfl, hle, e', j', t', w'⟩
  have k' : ItOk T H' (Or2 O (Own σ' e')) I ds := k1.mono (stmt_keep j1 t')
  by_cases hlt : i < ds.length
  · have hd : ds[i]? = some ds[i] := List.getElem?_eq_getElem hlt
    rw [List.drop_eq_getElem_cons hlt] at w'
    unfold fLoop at w'
    obtain ⟨go, yl⟩ := k'.yield hd j'
    refine .inr ⟨go, fun σ2 H2 => ∃ m', m' < ds.length - i ∧ (m' = ds.length - (i + 1) ∧ i + 1 ≤ ds.length ∧ ∃ e', J T O σ2 e' H2 ∧ Tr σ e1 H1 σ2 e' H2 ∧ wpS T O W (fLoop g mb (ds.drop (i + 1)) e') σ2 e' H2 N), fun σ2 H2 z => z, fun x H'' y => ?_⟩
    obtain ⟨j2, t2, r2⟩ := yl x H'' y
    cases q : g ds[i] e' with
    | none => rw [q] at w'; exact w'.elim
    | some e3 =>
      rw [q] at w'
      refine hg x _ σ' e' e3 H'' _ j2 r2 q fun σ3 H3 _ t3 j3 => ⟨e3, j3, ?_⟩
      have t23 := t2.trans t3
      have w3 := w'.shift t23
      clear w'
      have more : ∀ e4, wpS T O W (fLoop g mb (ds.drop (i + 1)) e4) σ3 e3 H3 N → ∀ σ4 H4, Tr σ3 e3 H3 σ4 e4 H4 → J T O σ4 e4 H4 → ∃ m', m' < ds.length - i ∧ (m' = ds.length - (i + 1) ∧ i + 1 ≤ ds.length ∧ ∃ e', J T O σ4 e' H4 ∧ Tr σ e1 H1 σ4 e' H4 ∧ wpS T O W (fLoop g mb (ds.drop (i + 1)) e') σ4 e' H4 N) :=
        fun e4 w4 σ4 H4 t4 j4 => ⟨ds.length - (i + 1), by omega, rfl, by omega, e4, j4, t'.trans (t23.trans t4), w4.shift t4⟩
      dsimp only at w3
      cases q2 : mb e3 with
      | nx e4 => rw [q2] at w3; exact fun σ4 H4 t4 j4 => more e4 w3 σ4 H4 t4 j4
      | ct e4 => rw [q2] at w3; exact fun σ4 H4 t4 j4 => more e4 w3 σ4 H4 t4 j4
      | bk e4 => rw [q2] at w3; exact w3
      | rt d fl e4 => rw [q2] at w3; exact w3
      | exc c ds' e4 => rw [q2] at w3; exact w3
      | bad => rw [q2] at w3; exact w3
  · have hz : ds.length ≤ i := by omega
    rw [List.drop_eq_nil_of_le hz] at w'
    exact .inl ⟨k'.fin hz, w' σ' H' Tr.refl j'⟩
/-! ### while -/
def wLoop (mt : M Bool) (mb : MS) : Nat → MS
  | 0 => fun _ => .bad
  | n + 1 => fun e => match mt e with
    | .ok true e1 => (match mb e1 with
      | .nx e2 => wLoop mt mb n e2
      | .ct e2 => wLoop mt mb n e2
      | .bk e2 => .nx e2
      | .rt d fl e2 => .rt d fl e2
      | .exc c ds' e2 => .exc c ds' e2
      | .bad => .bad)
    | .ok false e1 => .nx e1
    | .exc c ds e1 => .exc c ds e1
    | .bad => .bad
def sWhile (f : Env → Nat) (mt : M Bool) (mb : MS) : MS := fun e => wLoop mt mb (f e) e
theorem ds_while (f : Env → Nat) {body : List Stmt} {mb : MS} (hp : PassesOwn (model X.prog X.w) X.A X.env X.xe) (hc : DT X W T O c mt) (hb : DSs X W T O body mb) : DS X W T O (.While c body [] pos) (sWhile f mt mb) := by
  refine PS.of (ps_while hp hc hb) fun N σ H ⟨e, j, w⟩ => ?_
  refine ⟨fun m σ' H' => ∃ e', J T O σ' e' H' ∧ wpS T O W (wLoop mt mb m e') σ' e' H' N, ⟨f e, e, j, w⟩, ?_⟩
  rintro m σ' H' ⟨e', j', w'⟩
  cases m with
  | zero => exact w'.elim
  | succ m =>
    unfold wLoop at w'
    refine ⟨e', j', ?_⟩
    cases q : mt e' with
    | exc c ds e1 => rw [q] at w'; exact fun dx H1 t j x => w' dx σ' H1 t j x
    | bad => rw [q] at w'; exact w'.elim
    | ok b e1 =>
      rw [q] at w'
      intro v H1 t1 _ ⟨hv, j1⟩
      subst hv
      cases v with
      | false => rw [if_neg Bool.false_ne_true]; exact w' σ' H1 t1 j1
      | true =>
        rw [if_pos rfl]
        dsimp only at w'
        refine ⟨fun σ2 H2 => ∃ e', J T O σ2 e' H2 ∧ wpS T O W (wLoop mt mb m e') σ2 e' H2 N, fun σ2 H2 z => ⟨m, Nat.lt_succ_self _, z⟩, e1, j1, ?_⟩
        have w3 := w'.shift t1
        clear w'
        have more : ∀ e4, wpS T O W (wLoop mt mb m e4) σ' e1 H1 N → ∀ σ4 H4, Tr σ' e1 H1 σ4 e4 H4 → J T O σ4 e4 H4 → ∃ e', J T O σ4 e' H4 ∧ wpS T O W (wLoop mt mb m e') σ4 e' H4 N :=
          fun e4 w4 σ4 H4 t4 j4 => ⟨e4, j4, w4.shift t4⟩
        cases q2 : mb e1 with
        | nx e4 => rw [q2] at w3; exact fun σ4 H4 t4 j4 => more e4 w3 σ4 H4 t4 j4
        | ct e4 => rw [q2] at w3; exact fun σ4 H4 t4 j4 => more e4 w3 σ4 H4 t4 j4
        | bk e4 => rw [q2] at w3; exact w3
        | rt d fl e4 => rw [q2] at w3; exact w3
        | exc c ds' e4 => rw [q2] at w3; exact w3
        | bad => rw [q2] at w3; exact w3
end
end DV
-- DvM
namespace DV
open PySem PySem.Spec PyProof.Rows L2
section
variable {T : Tbl} {O O' : Addr → Prop} {σ σ1 σ2 : St} {e e1 e2 : Env} {H H1 H2 H' : Hp} {P P' : Addr → Prop} {X : Cx} {W : WX} {a b c : Expr} {ma mb mc : M Hv} {mt : M Bool} {pos : Pos} {x : Str} {es : List Expr} {p : Pos} {m n : MS} {st : Stmt} {sts : List Stmt}
/-! ### comprehensions -/
def wipeE (e : Env) : List Nat → Env
  | [] => e
  | v :: vs => (wipeE e vs).set v .un
theorem wipeE_len {e : Env} : ∀ {vs : List Nat}, (wipeE e vs).length = e.length
  | [] => rfl
  | v :: vs => by unfold wipeE; rw [List.length_set, wipeE_len]
theorem wipeE_some {e : Env} {i : Nat} {s : Sl} : ∀ {vs : List Nat}, (wipeE e vs)[i]? = some s → (i ∉ vs ∧ e[i]? = some s) ∨ (i ∈ vs ∧ s = .un)
  | [], h => .inl ⟨by simp, h⟩
  | v :: vs, h => by
    unfold wipeE at h
    rcases get_set h with ⟨rfl, z⟩ | ⟨n, q⟩
    · exact .inr ⟨List.mem_cons_self, z⟩
    · rcases wipeE_some q with ⟨a, b⟩ | ⟨a, b⟩
      · exact .inl ⟨by simp only [List.mem_cons, not_or]; exact ⟨n, a⟩, b⟩
      · exact .inr ⟨List.mem_cons_of_mem _ a, b⟩
theorem wipeE_out {e : Env} {i : Nat} : ∀ {vs : List Nat}, i ∉ vs → (wipeE e vs)[i]? = e[i]?
  | [], h => rfl
  | v :: vs, h => by
    simp only [List.mem_cons, not_or] at h
    unfold wipeE
    rw [List.getElem?_set_ne (Ne.symm h.1)]
    exact wipeE_out h.2
theorem own_wipe {vs : List Nat} {b : Addr} (h : Own (wipe σ vs) (wipeE e vs) b) : Own σ e b := by
  obtain ⟨i, s, d, h1, h2, h3⟩ := h
  rcases wipeE_some h1 with ⟨n, q⟩ | ⟨_, z⟩
  · exact ⟨i, s, d, q, h2, (wipe_some h3).1⟩
  · subst z; cases h2
theorem J.wipe (j : J T O σ e H) (vs : List Nat) : J T O (wipe σ vs) (wipeE e vs) H := by
  have m : ∀ b o, ¬ Or2 O (Own σ e) b → H b = some o → H b = some o ∧ ¬ Or2 O (Own (L2.wipe σ vs) (wipeE e vs)) b := fun b o n q => ⟨q, fun z => n (z.imp id own_wipe)⟩
  refine ⟨by rw [wipeE_len, wipe_length]; exact j.len, fun i d q => ?_, fun i s d q hs => ?_, fun k l s t d1 d2 b q1 o1 q2 o2 a1 a2 => ?_, fun b z => j.no b (own_wipe z), j.dom⟩
  · rcases wipeE_some q with ⟨n, q⟩ | ⟨_, z⟩
    · obtain ⟨v, h1, h2⟩ := j.fz i d q
      exact ⟨v, by rw [wipe_out n]; exact h1, h2.mono m⟩
    · cases z
  · rcases wipeE_some q with ⟨n, q⟩ | ⟨_, z⟩
    · obtain ⟨a, h1, h2⟩ := j.ow i s d q hs
      exact ⟨a, by rw [wipe_out n]; exact h1, h2.mono m rfl⟩
    · subst z; cases hs
  · rcases wipeE_some q1 with ⟨n1, p1⟩ | ⟨_, z⟩
    · rcases wipeE_some q2 with ⟨n2, p2⟩ | ⟨_, z⟩
      · rw [wipe_out n1] at a1; rw [wipe_out n2] at a2
        exact j.inj k l s t d1 d2 b p1 o1 p2 o2 a1 a2
      · subst z; cases o2
    · subst z; cases o1
/-- no slot of vs is kept from outside -/
def okV (e : Env) (vs : List Nat) : Bool := vs.all fun v => match e[v]? with | some (.io _) => false | some (.lk _) => false | _ => true
theorem okV_lk {e : Env} {vs : List Nat} (h : okV e vs = true) {i : Nat} {d : D} (q : e[i]? = some (.lk d)) : i ∉ vs := fun z => by
  have := List.all_eq_true.mp h i z
  rw [q] at this; cases this
theorem okV_io {e : Env} {vs : List Nat} (h : okV e vs = true) {i : Nat} {d : D} (q : e[i]? = some (.io d)) : i ∉ vs := fun z => by
  have := List.all_eq_true.mp h i z
  rw [q] at this; cases this
/-- into a block's state -/
theorem Tr.wipe {vs : List Nat} (h : okV e vs = true) : Tr σ e H (wipe σ vs) (wipeE e vs) H := by
  refine ⟨fun _ _ q _ => q, fun b z => .inl (own_wipe z), fun b o q => ⟨o, q⟩, fun i d q => ?_, fun i d q => ?_⟩
  · have n := okV_lk h q
    exact ⟨by rw [wipeE_out n]; exact q, wipe_out n, fun _ _ _ z => z⟩
  · have n := okV_io h q
    exact ⟨d, by rw [wipeE_out n]; exact q, wipe_out n⟩
/-- a turn's end -/
theorem Tr.wiped {vs : List Nat} (h : okV e vs = true) (t : Tr σ e H σ1 e1 H1) : Tr σ e H (L2.wipe σ1 vs) (wipeE e1 vs) H1 := by
  refine ⟨t.keep, fun b z => t.new b (own_wipe z), t.there, fun i d q => ?_, fun i d q => ?_⟩
  · have n := okV_lk h q
    obtain ⟨h1, h2, h3⟩ := t.lk i d q
    exact ⟨by rw [wipeE_out n]; exact h1, by rw [wipe_out n]; exact h2, h3⟩
  · have n := okV_io h q
    obtain ⟨d', h1, h2⟩ := t.io i d q
    exact ⟨d', by rw [wipeE_out n]; exact h1, by rw [wipe_out n]; exact h2⟩
/-- an object out of sight is written -/
theorem J.hid (j : J T O σ e H) {p : Addr} {o o0 : HO} (hp : O p) (h0 : H p = some o0) : J T O σ e (upd H p o) := by
  have m : ∀ b u, ¬ Or2 O (Own σ e) b → H b = some u → upd H p o b = some u ∧ ¬ Or2 O (Own σ e) b := fun b u n q => ⟨by rw [upd_ne (fun z => by subst z; exact n (.inl hp))]; exact q, n⟩
  refine ⟨j.len, fun i d q => ?_, fun i s d q hs => ?_, j.inj, j.no, fun a q => ?_⟩
  · obtain ⟨v, h1, h2⟩ := j.fz i d q
    exact ⟨v, h1, h2.mono m⟩
  · obtain ⟨a, h1, h2⟩ := j.ow i s d q hs
    have na : a ≠ p := fun z => by subst z; exact j.no a ⟨i, s, d, q, hs, h1⟩ hp
    exact ⟨a, h1, h2.mono m (upd_ne na)⟩
  · by_cases z : a = p
    · subst z; exact ⟨o, upd_same⟩
    · obtain ⟨u, hu⟩ := j.dom a q
      exact ⟨u, by rw [upd_ne z]; exact hu⟩
theorem Tr.hid (t : Tr σ e H σ1 e1 H1) {p : Addr} {o : HO} (hp : H p = Option.none) : Tr σ e H σ1 e1 (upd H1 p o) := by
  have nb : ∀ b u, H b = some u → b ≠ p := fun b u q => ne_of_none q hp
  refine ⟨fun b u q n => by rw [upd_ne (nb b u q)]; exact t.keep b u q n, t.new, fun b u q => by rw [upd_ne (nb b u q)]; exact t.there b u q, fun i d q => ?_, t.io⟩
  obtain ⟨h1, h2, h3⟩ := t.lk i d q
  exact ⟨h1, h2, fun a u z1 z2 => by rw [upd_ne (nb a u z2)]; exact h3 a u z1 z2⟩

def cLoop (g : Gt) (mt : M Bool) (me : M (D × Bool)) (vs : List Nat) : List D → M (List D)
  | [] => fun e => .ok [] e
  | d :: ds => fun e => match g d e with
    | none => .bad
    | some e1 => match mt e1 with
      | .ok false e2 => cLoop g mt me vs ds (wipeE e2 vs)
      | .ok true e2 => (match me e2 with
        | .ok x e3 => (match cLoop g mt me vs ds (wipeE e3 vs) with
          | .ok xs e4 => .ok (x.1 :: xs) e4
          | _ => .bad)
        | _ => .bad)
      | _ => .bad
def mLc (mi : M (List D)) (vs : List Nat) (g : Gt) (mt : M Bool) (me : M (D × Bool)) : M (D × Bool) := M.bind mi fun ds e =>
  if okV e vs = true ∧ ds.length ≤ LIM then (match cLoop g mt me vs ds (wipeE e vs) with
    | .ok xs e1 => .ok (.lst xs, true) e1
    | _ => .bad) else .bad
abbrev W0 : WX := fun _ _ _ _ => False
/-- the block's parts, the hidden set whatever it be -/
def tgB (T : Tbl) (vs : List Nat) (g : Gt) : TG := fun v σ H Q => ∃ O d e e', J T O σ e H ∧ Rep T H (Or2 O (Own σ e)) d v ∧ g d e = some e' ∧ ∀ σ' H', wipe σ' vs = wipe σ vs → Tr σ e H σ' e' H' → J T O σ' e' H' → Q σ' H'
def ttB (T : Tbl) (m : M Bool) : TT := fun σ H Q => ∃ O, wpG T O W0 (RB T O σ) m σ H Q
def teB (T : Tbl) (m : M (D × Bool)) : TE := fun σ H Q => ∃ O, wpG T O W0 (RV T O σ) m σ H Q
theorem pg_B {vs : List Nat} {tg : Expr} {g : Gt} (h : ∀ O, DG X T O vs tg g) : PG X tg (tgB T vs g) := ⟨fun pins s σ H v u Q I r ⟨O, d, e, e', j, rr, q, w⟩ => by
  obtain ⟨t, ht, hg⟩ := h O
  exact ht.run pins s σ H v u Q I r (hg v d σ e e' H Q j rr q w)⟩
theorem pt_B {mt : M Bool} (h : ∀ O, DT X W0 T O c mt) : PT X c (ttB T mt) := ⟨fun pins s σ H Q I ⟨O, w⟩ => (h O).run pins s σ H Q I w⟩
theorem pe_B {me : M (D × Bool)} (h : ∀ O, DE X W0 T O c me) : PE X c (teB T me) := ⟨fun pins s σ H Q I ⟨O, w⟩ => (h O).run pins s σ H Q I w⟩
/-- a block's tests: none, or one -/
def DTs (X : Cx) (T : Tbl) (ifs : List Expr) (mt : M Bool) : Prop := PTs X ifs (ttB T mt)
def mYes : M Bool := M.pure true
theorem dts_nil : DTs X T [] mYes := ⟨fun pins s σ H Q I ⟨O, e, j, w⟩ => pts_nil.run pins s σ H Q I (w true H Tr.refl nwN ⟨rfl, j⟩)⟩
theorem dts_one {mt : M Bool} (h : ∀ O, DT X W0 T O c mt) : DTs X T [c] mt := pts_one (pt_B h)

theorem wipe_wipe {vs : List Nat} : wipe (wipe σ vs) vs = wipe σ vs := by
  apply List.ext_getElem?
  intro k
  by_cases z : k ∈ vs
  · rw [wipe_in z, wipe_in z]
    cases σ[k]? <;> rfl
  · rw [wipe_out z]
theorem own_unwipe {vs : List Nat} (j : J T O (wipe σ vs) e H) {b : Addr} (h : Own σ e b) : Own (wipe σ vs) e b := by
  obtain ⟨i, s, d, h1, h2, h3⟩ := h
  obtain ⟨a, ha, _⟩ := j.ow i s d h1 h2
  have := (wipe_some ha).1
  rw [h3] at this; cases this
  exact ⟨i, s, d, h1, h2, ha⟩
theorem J.unwipe {vs : List Nat} (j : J T O (L2.wipe σ vs) e H) : J T O σ e H := by
  have m : ∀ b o, ¬ Or2 O (Own (L2.wipe σ vs) e) b → H b = some o → H b = some o ∧ ¬ Or2 O (Own σ e) b := fun b o n q => ⟨q, fun z => n (z.imp id (own_unwipe j))⟩
  refine ⟨by have := j.len; rwa [wipe_length] at this, fun i d q => ?_, fun i s d q hs => ?_, fun k l s t d1 d2 b q1 o1 q2 o2 a1 a2 => ?_, fun b z => j.no b (own_unwipe j z), j.dom⟩
  · obtain ⟨v, h1, h2⟩ := j.fz i d q
    exact ⟨v, (wipe_some h1).1, h2.mono m⟩
  · obtain ⟨a, h1, h2⟩ := j.ow i s d q hs
    exact ⟨a, (wipe_some h1).1, h2.mono m rfl⟩
  · obtain ⟨a, h1, _⟩ := j.ow k s d1 q1 o1
    obtain ⟨a', h2, _⟩ := j.ow l t d2 q2 o2
    have z1 := (wipe_some h1).1
    have z2 := (wipe_some h2).1
    rw [a1] at z1; rw [a2] at z2; cases z1; cases z2
    exact j.inj k l s t d1 d2 b q1 o1 q2 o2 h1 h2
theorem tLc_of {mi : M (List D)} {vs : List Nat} {g : Gt} {mt : M Bool} {me : M (D × Bool)} {wi : TI} (hi : ∀ σ H R, wpG T O W (RI T O σ) mi σ H R → wi σ H R) {Q : VK} (w : wpG T O W (RV T O σ) (mLc mi vs g mt me) σ H Q) :
    tLc wi (tgB T vs g) (ttB T mt) (teB T me) vs σ H Q := by
  refine hi σ H _ (wpG.mono (wpG.bind (R' := RI T O σ) w) fun I H1 ⟨ds, e1, ⟨j1, k1⟩, w⟩ => ?_)
  intro p hp
  split at w
  · rename_i hg
    obtain ⟨hv, hl⟩ := hg
    have jA : J T (Or2 O (· = p)) σ e1 (upd H1 p (.lst [])) := j1.hide hp
    have jB := jA.wipe vs
    have tB : Tr σ e1 H1 (wipe σ vs) (wipeE e1 vs) (upd H1 p (.lst [])) := (Tr.wipe hv).hid hp
    have okp : ∀ {σ' : St} {e' : Env} {H' : Hp}, J T (Or2 O (· = p)) σ' e' H' → ¬ Own σ' e' p := fun j z => j.no p z (.inr rfl)
    -- the word of the loop
    let CL : Nat → List D → Env → Prop := fun i acc e' => match cLoop g mt me vs (ds.drop i) e' with
      | .ok rest e4 => ∀ H4 av, Tr σ e1 H1 (wipe σ vs) e4 H4 → J T (Or2 O (· = p)) (wipe σ vs) e4 H4 → H4 p = some (.lst av) → RepL T H4 (Or2 (Or2 O (· = p)) (Own (wipe σ vs) e4)) (acc ++ rest) av → Q (.ref p) H4
      | _ => False
    refine ⟨fun i m H' => m = ds.length - i ∧ i ≤ ds.length ∧ ∃ e' acc av, J T (Or2 O (· = p)) (wipe σ vs) e' H' ∧ Tr σ e1 H1 (wipe σ vs) e' H' ∧ H' p = some (.lst av) ∧ RepL T H' (Or2 (Or2 O (· = p)) (Own (wipe σ vs) e')) acc av ∧ acc.length ≤ i ∧ CL i acc e', ⟨ds.length, rfl, Nat.zero_le _, wipeE e1 vs, [], [], jB, tB, upd_same, RepL.nil, Nat.zero_le _, ?_⟩, ?_⟩
    · show CL 0 [] (wipeE e1 vs)
      dsimp only [CL]
      rw [List.drop_zero]
      cases q : cLoop g mt me vs ds (wipeE e1 vs) with
      | exc c ds' e4 => rw [q] at w; exact w.elim
      | bad => rw [q] at w; exact w.elim
      | ok rest e4 =>
        rw [q] at w
        intro H4 av t4 j4 h4 r4
        have j5 := j4.unwipe
        have t5 : Tr σ e1 H1 σ e4 H4 := ⟨t4.keep, fun b z => t4.new b (own_unwipe j4 z), t4.there, fun i d q => ⟨(t4.lk i d q).1, rfl, (t4.lk i d q).2.2⟩, fun i d q => let ⟨d', h1, _⟩ := t4.io i d q; ⟨d', h1, rfl⟩⟩
        refine w (.ref p) H4 t5 (fun a z => ?_) ⟨p, rfl, fun z => ?_, j5, av, h4, ?_⟩
        · have z : true = true ∧ V.ref p = .ref a := z
          cases z.2; exact hp
        · obtain ⟨u, hu⟩ := j1.dom p z
          rw [hp] at hu; cases hu
        · exact r4.mono fun b o n q => ⟨q, fun z => n (z.imp id (own_unwipe j4))⟩
    · rintro i m H' ⟨rfl, hle, e', acc, av, j', t', h', r', hac, cl⟩
      have k' : ItOk T H' (Or2 (Or2 O (· = p)) (Own (wipe σ vs) e')) I ds := by
        refine k1.mono fun b o n q => ?_
        have nb : b ≠ p := ne_of_none q hp
        obtain ⟨q1, q2⟩ := stmt_keep j1 t' b o n q
        exact ⟨q1, fun z => by
          rcases z with (z | z) | z
          · exact q2 (.inl z)
          · exact nb z
          · exact q2 (.inr z)⟩
      by_cases hlt : i < ds.length
      · have hd : ds[i]? = some ds[i] := List.getElem?_eq_getElem hlt
        obtain ⟨go, yl⟩ := k'.yield hd j'
        dsimp only [CL] at cl
        rw [List.drop_eq_getElem_cons hlt] at cl
        unfold cLoop at cl
        refine .inr ⟨go, fun H2 => ∃ m', m' < ds.length - i ∧ (m' = ds.length - (i + 1) ∧ i + 1 ≤ ds.length ∧ ∃ e' acc av, J T (Or2 O (· = p)) (wipe σ vs) e' H2 ∧ Tr σ e1 H1 (wipe σ vs) e' H2 ∧ H2 p = some (.lst av) ∧ RepL T H2 (Or2 (Or2 O (· = p)) (Own (wipe σ vs) e')) acc av ∧ acc.length ≤ i + 1 ∧ CL (i + 1) acc e'), fun H2 z => z, fun x H'' y => ?_⟩
        obtain ⟨j2, t2, r2⟩ := yl x H'' y
        cases q : g ds[i] e' with
        | none => rw [q] at cl; exact cl.elim
        | some e3 =>
          rw [q] at cl
          refine ⟨_, ds[i], e', e3, j2, r2, q, fun σ3 H3 hw t3 j3 => ⟨hw.trans wipe_wipe, _, e3, j3, ?_⟩⟩
          replace hw := hw.trans wipe_wipe
          have t03 := t'.trans (t2.trans t3)
          -- what a turn's end needs
          have keep : ∀ {σ5 : St} {e5 : Env} {H5 : Hp}, Tr (wipe σ vs) e' H' σ5 e5 H5 → J T (Or2 O (· = p)) σ5 e5 H5 → H5 p = some (.lst av) ∧ RepL T H5 (Or2 (Or2 O (· = p)) (Own σ5 e5)) acc av := fun t5 j5 =>
            ⟨t5.keep p _ h' (okp j'), r'.mono (stmt_keep j' t5)⟩
          have small : ∀ {σ5 : St} {e5 : Env} {H5 : Hp} {as : List D} {vs' : List V}, wipe σ5 vs = wipe σ vs → RepL T H5 (Or2 (Or2 O (· = p)) (Own σ5 e5)) as vs' → RepL T H5 (Or2 (Or2 O (· = p)) (Own (wipe σ vs) (wipeE e5 vs))) as vs' := fun hw r => by
            rw [← hw]
            exact r.mono fun b o n q => ⟨q, fun z => n (z.imp id own_wipe)⟩
          dsimp only at cl
          cases q2 : mt e3 with
          | exc c ds' e4 => rw [q2] at cl; exact cl.elim
          | bad => rw [q2] at cl; exact cl.elim
          | ok bb e4 =>
            rw [q2] at cl
            intro v H4 t4 _ ⟨hv2, j4⟩
            subst hv2
            have t24 := t2.trans (t3.trans t4)
            cases v with
            | false =>
              rw [if_neg Bool.false_ne_true]
              dsimp only at cl
              obtain ⟨h5, r5⟩ := keep t24 j4
              refine ⟨ds.length - (i + 1), by omega, rfl, by omega, wipeE e4 vs, acc, av, ?_, ?_, h5, small hw r5, by omega, cl⟩
              · rw [← hw]; exact j4.wipe vs
              · rw [← hw]; exact (t'.trans t24).wiped hv
            | true =>
              rw [if_pos rfl]
              dsimp only at cl
              refine ⟨_, e4, j4, ?_⟩
              cases q3 : me e4 with
              | exc c ds' e4 => rw [q3] at cl; exact cl.elim
              | bad => rw [q3] at cl; exact cl.elim
              | ok xx e5 =>
                rw [q3] at cl
                intro y5 H5 t5 nw5 r5
                obtain ⟨dx, fl⟩ := xx
                obtain ⟨j5, r5⟩ := r5.weak
                have t25 := t24.trans t5
                obtain ⟨h5, ra5⟩ := keep t25 j5
                have hlen : av.length < LIM := by have := r'.length; omega
                refine ⟨av, h5, by rw [← lim_eq]; exact hlen, ds.length - (i + 1), by omega, rfl, by omega, wipeE e5 vs, acc ++ [dx], av ++ [y5], ?_, ?_, upd_same, ?_, by rw [List.length_append, List.length_singleton]; omega, ?_⟩
                · rw [← hw]; exact (j5.hid (p := p) (.inr rfl) h5).wipe vs
                · rw [← hw]; exact ((t'.trans t25).hid hp).wiped hv
                · refine small hw (RepL.mono (fun b o n q => ?_) _ _ (ra5.append (RepL.cons r5 RepL.nil)))
                  exact ⟨by rw [upd_ne (fun z => n (.inl (.inr z)))]; exact q, n⟩
                · dsimp only [CL]
                  dsimp only at cl
                  cases q4 : cLoop g mt me vs (ds.drop (i + 1)) (wipeE e5 vs) with
                  | exc c ds' e4 => rw [q4] at cl; exact cl.elim
                  | bad => rw [q4] at cl; exact cl.elim
                  | ok rest e6 =>
                    rw [q4] at cl
                    intro H6 av6 t6 j6 h6 r6
                    rw [List.append_assoc] at r6
                    exact cl H6 av6 t6 j6 h6 r6
      · have hz : ds.length ≤ i := by omega
        dsimp only [CL] at cl
        rw [List.drop_eq_nil_of_le hz] at cl
        exact .inl ⟨k'.fin hz, cl H' av t' j' h' (by rw [List.append_nil]; exact r')⟩
  · exact w.elim
theorem de_lc {elt tg iter : Expr} {ifs : List Expr} {scope : Scope} {own : List (Str × Nat)} {mi : M (List D)} {g : Gt} {mt : M Bool} {me : M (D × Bool)} (hc : X.calm = true) (hN : X.N.Nodup) (hi : DI X W T O tg iter mi) (ok : BlkOk X.N X.env.scope scope own)
    (hg : ∀ (s : Shared) (H : Hp) (C : Addr) (cl : List (Str × Addr)) (fp : List Addr) (O : Addr → Prop), DG (X.blk s H scope (compEnvC scope cl C X.env) fp) T O (own.map (·.2)) tg g)
    (ht : ∀ (s : Shared) (H : Hp) (C : Addr) (cl : List (Str × Addr)) (fp : List Addr), DTs (X.blk s H scope (compEnvC scope cl C X.env) fp) T ifs mt)
    (he : ∀ (s : Shared) (H : Hp) (C : Addr) (cl : List (Str × Addr)) (fp : List Addr) (O : Addr → Prop), DE (X.blk s H scope (compEnvC scope cl C X.env) fp) W0 T O elt me) (hs : ∀ x, foldedSetIterable iter X.env x = pure x := by intro _; rfl) :
    DE X W T O (.ListComp elt [⟨tg, iter, ifs, 0⟩] scope pos) (mLc mi (own.map (·.2)) g mt me) := by
  obtain ⟨wi, hwi, hi⟩ := hi
  exact PE.of (pe_lc hc hN hwi ok (fun s H C cl fp => pg_B (hg s H C cl fp)) ht (fun s H C cl fp => pe_B (he s H C cl fp)) hs) fun σ H Q w => tLc_of hi w
/-- name = [..] on one line -/
theorem ds_setLc (i : Nat) {y : Str} {py spos : Pos} {elt tg iter : Expr} {ifs : List Expr} {scope : Scope} {own : List (Str × Nat)} {mi : M (List D)} {g : Gt} {mt : M Bool} {me : M (D × Bool)} (hc : X.calm = true) (hN : X.N.Nodup) (hi : DI X W T O tg iter mi) (ok : BlkOk X.N X.env.scope scope own)
    (hg : ∀ (s : Shared) (H : Hp) (C : Addr) (cl : List (Str × Addr)) (fp : List Addr) (O : Addr → Prop), DG (X.blk s H scope (compEnvC scope cl C X.env) fp) T O (own.map (·.2)) tg g)
    (ht : ∀ (s : Shared) (H : Hp) (C : Addr) (cl : List (Str × Addr)) (fp : List Addr), DTs (X.blk s H scope (compEnvC scope cl C X.env) fp) T ifs mt)
    (he : ∀ (s : Shared) (H : Hp) (C : Addr) (cl : List (Str × Addr)) (fp : List Addr) (O : Addr → Prop), DE (X.blk s H scope (compEnvC scope cl C X.env) fp) W0 T O elt me)
    (hy : X.N[i]? = some y := by rfl) (hyl : X.env.scope.names.lookup y = some .local := by rfl)
    (hsw : swapsWith (.ListComp elt [⟨tg, iter, ifs, 0⟩] scope pos) (some (.Name y py)) spos.line X.env = pure true := by rfl) (hs : ∀ x, foldedSetIterable iter X.env x = pure x := by intro _; rfl) :
    DS X W T O (.Assign [.Name y py] (.ListComp elt [⟨tg, iter, ifs, 0⟩] scope pos) spos) (sSet i (mLc mi (own.map (·.2)) g mt me)) := by
  obtain ⟨wi, hwi, hi⟩ := hi
  refine PS.of (ps_setLc hc hN hy hyl hsw hwi ok (fun s H C cl fp => pg_B (hg s H C cl fp)) ht (fun s H C cl fp => pe_B (he s H C cl fp)) hs) fun N σ H ⟨e, j, w⟩ => ?_
  refine tLc_of hi (wpG.mono (wpS_of (R := RV T O σ) j w) fun v H1 ⟨⟨d, fl⟩, e1, t, nw, r, w⟩ => ?_)
  unfold sPut at w
  dsimp only at w
  cases q : setSl e1 i (slOf d fl) with
  | none => rw [q] at w; exact w.elim
  | some e2 =>
    rw [q] at w
    obtain ⟨j', t'⟩ := put_val t nw r q
    exact w _ _ t' j'
end
end DV
-- DvN
namespace DV
open PySem PySem.Spec PyProof.Rows L2
section
variable {T : Tbl} {O O' : Addr → Prop} {σ σ1 σ2 : St} {e e1 e2 : Env} {H H1 H2 H' : Hp} {P P' : Addr → Prop} {X : Cx} {W : WX} {a b c : Expr} {ma mb mc : M Hv} {mt : M Bool} {pos : Pos} {x : Str} {es : List Expr} {p : Pos} {m n : MS} {st : Stmt} {sts : List Stmt}
/-! ### calls -/
def argSl (e : Env) : List Hv → Option (List Sl)
  | [] => some []
  | .val d :: hs => (argSl e hs).map (.fz d :: ·)
  | .slot i :: hs => match ownD e i with
    | some d => (argSl e hs).map (.io d :: ·)
    | none => none
def posS : List Hv → Nat → Option Nat
  | [], _ => none
  | .val _ :: hs, i => (posS hs i).map (· + 1)
  | .slot j :: hs, i => if j = i then some 0 else (posS hs i).map (· + 1)
def nodS : List Hv → Bool
  | [] => true
  | .val _ :: hs => nodS hs
  | .slot i :: hs => (posS hs i).isNone && nodS hs
def updS : Sl → Option Sl → Sl
  | .ow _, some (.io d) => .ow d
  | .io _, some (.io d) => .io d
  | s, _ => s
def mapI (f : Nat → Sl → Sl) : Nat → Env → Env
  | _, [] => []
  | k, s :: e => f k s :: mapI f (k + 1) e
def backF (hs : List Hv) (e' : Env) (i : Nat) (s : Sl) : Sl := match posS hs i with
  | none => s
  | some k => updS s e'[k]?
def backE (hs : List Hv) (e' e : Env) : Env := mapI (backF hs e') 0 e
theorem mapI_get {f : Nat → Sl → Sl} : ∀ {e : Env} {k i : Nat}, (mapI f k e)[i]? = e[i]?.map (f (k + i))
  | [], k, i => by simp [mapI]
  | s :: e, k, 0 => by simp [mapI]
  | s :: e, k, i + 1 => by
    simp only [mapI, List.getElem?_cons_succ]
    rw [mapI_get, show k + 1 + i = k + (i + 1) by omega]
theorem mapI_len {f : Nat → Sl → Sl} : ∀ {e : Env} {k : Nat}, (mapI f k e).length = e.length
  | [], k => rfl
  | s :: e, k => by simp only [mapI, List.length_cons, mapI_len]
theorem backE_get {hs : List Hv} {e' e : Env} {i : Nat} : (backE hs e' e)[i]? = e[i]?.map (backF hs e' i) := by
  unfold backE; rw [mapI_get, Nat.zero_add]
theorem updS_io (d : D) (x : Option Sl) : ∃ d', updS (.io d) x = .io d' := by
  cases x with
  | none => exact ⟨d, rfl⟩
  | some y => cases y <;> exact ⟨_, rfl⟩
theorem posS_some : ∀ {hs : List Hv} {i k : Nat}, posS hs i = some k → hs[k]? = some (.slot i)
  | [], i, k, h => by cases h
  | .val d :: hs, i, k, h => by
    unfold posS at h
    cases q : posS hs i with
    | none => rw [q] at h; cases h
    | some n => rw [q] at h; cases h; have := posS_some q; simpa using this
  | .slot j :: hs, i, k, h => by
    unfold posS at h
    split at h
    · rename_i e; cases h; subst e; rfl
    · cases q : posS hs i with
      | none => rw [q] at h; cases h
      | some n => rw [q] at h; cases h; have := posS_some q; simpa using this
theorem posS_none : ∀ {hs : List Hv} {i k : Nat}, posS hs i = none → hs[k]? ≠ some (.slot i)
  | [], i, k, h, z => by simp at z
  | .val d :: hs, i, k, h, z => by
    unfold posS at h
    cases k with
    | zero => simp at z
    | succ k => exact posS_none (by simpa using h) (by simpa using z)
  | .slot j :: hs, i, k, h, z => by
    unfold posS at h
    split at h
    · cases h
    · rename_i n
      cases k with
      | zero => simp at z; exact n z
      | succ k => exact posS_none (by simpa using h) (by simpa using z)
theorem nodS_inj : ∀ {hs : List Hv} {i k l : Nat}, nodS hs = true → hs[k]? = some (.slot i) → hs[l]? = some (.slot i) → k = l
  | [], i, k, l, h, a, b => by simp at a
  | .val d :: hs, i, k, l, h, a, b => by
    unfold nodS at h
    cases k with
    | zero => simp at a
    | succ k =>
      cases l with
      | zero => simp at b
      | succ l => exact congrArg (· + 1) (nodS_inj h (by simpa using a) (by simpa using b))
  | .slot j :: hs, i, k, l, h, a, b => by
    unfold nodS at h
    rw [Bool.and_eq_true] at h
    obtain ⟨h1, h2⟩ := h
    have no : ∀ n : Nat, hs[n]? ≠ some (Hv.slot j) := fun n => posS_none (by simpa using h1)
    cases k with
    | zero =>
      cases l with
      | zero => rfl
      | succ l =>
        simp at a; subst a
        exact absurd (by simpa using b) (no l)
    | succ k =>
      cases l with
      | zero =>
        simp at b; subst b
        exact absurd (by simpa using a) (no k)
      | succ l => exact congrArg (· + 1) (nodS_inj h2 (by simpa using a) (by simpa using b))
theorem argSl_get : ∀ {hs : List Hv} {sl : List Sl}, argSl e hs = some sl → sl.length = hs.length ∧ ∀ (k : Nat) (h : Hv), hs[k]? = some h → (∃ d, h = .val d ∧ sl[k]? = some (.fz d)) ∨ (∃ i d, h = .slot i ∧ ownD e i = some d ∧ sl[k]? = some (.io d))
  | [], sl, q => by cases q; exact ⟨rfl, fun k h z => by simp at z⟩
  | .val d :: hs, sl, q => by
    unfold argSl at q
    cases q1 : argSl e hs with
    | none => rw [q1] at q; cases q
    | some r =>
      rw [q1] at q; cases q
      obtain ⟨a, b⟩ := argSl_get q1
      refine ⟨by simp [a], fun k h z => ?_⟩
      cases k with
      | zero => simp at z; subst z; exact .inl ⟨d, rfl, rfl⟩
      | succ k => exact b k h (by simpa using z)
  | .slot i :: hs, sl, q => by
    unfold argSl at q
    split at q
    · rename_i d qd
      cases q1 : argSl e hs with
      | none => rw [q1] at q; cases q
      | some r =>
        rw [q1] at q; cases q
        obtain ⟨a, b⟩ := argSl_get q1
        refine ⟨by simp [a], fun k h z => ?_⟩
        cases k with
        | zero => simp at z; subst z; exact .inr ⟨i, d, rfl, qd, rfl⟩
        | succ k => exact b k h (by simpa using z)
    · cases q
theorem RHL.get : ∀ {hs : List Hv} {vs : List V}, RHL T O σ e H hs vs → vs.length = hs.length ∧ ∀ (k : Nat) (h : Hv), hs[k]? = some h → ∃ v, vs[k]? = some v ∧ RH1 T O σ e H h v
  | [], vs, r => by
    have r : vs = [] := r
    subst r; exact ⟨rfl, fun k h z => by simp at z⟩
  | h :: hs, vs, r => by
    obtain ⟨v, r', rfl, a, b⟩ := r
    obtain ⟨l, g⟩ := b.get
    refine ⟨by simp [l], fun k h' z => ?_⟩
    cases k with
    | zero => simp at z; subst z; exact ⟨v, rfl, a⟩
    | succ k => exact g k h' (by simpa using z)
def mRun (nN nP : Nat) (mb : MS) (hs : List Hv) : M (D × Bool) := fun e => match argSl e hs with
  | none => .bad
  | some sl => if nodS hs = true ∧ hs.length = nP then (match mb (sl ++ List.replicate (nN - sl.length) .un) with
    | .rt d fl e' => .ok (d, fl) (backE hs e' e)
    | .nx e' => .ok (.non, false) (backE hs e' e)
    | _ => .bad) else .bad
/-- what a def's body asks at its entry -/
def spB (T : Tbl) (N ps : List Str) (mb : MS) : Sp := fun vs H Q _ => vs.length = ps.length ∧ ∃ O e0, J T O (L2.start N vs) e0 H ∧ wpS T O W0 (mb e0) (L2.start N vs) e0 H { nx := fun _ H' => Q .non H', rt := Q }
theorem start_get {N : List Str} {vs : List V} {k : Nat} {v : V} (h : vs[k]? = some v) : (L2.start N vs)[k]? = some (some v) := by
  have hk := lt_of_get h
  unfold L2.start
  rw [List.getElem?_append_left (by simpa using hk), List.getElem?_map, h]; rfl
theorem rep_un {sl : List Sl} {n k : Nat} {s : Sl} (h : (sl ++ List.replicate n .un)[k]? = some s) (hs : s ≠ .un) : sl[k]? = some s := by
  by_cases z : k < sl.length
  · rwa [List.getElem?_append_left z] at h
  · rw [List.getElem?_append_right (by omega), List.getElem?_replicate] at h
    split at h
    · cases h; exact absurd rfl hs
    · cases h
theorem run_call {N ps : List Str} {mb : MS} {hs : List Hv} {vs : List V} {Q : VK} {E : XK} (j : J T O σ e H) (r : RHL T O σ e H hs vs) (w : wpR T O W (RV T O σ) (mRun N.length ps.length mb hs e) σ e H Q) : spB T N ps mb vs H Q E := by
  obtain ⟨vl, vg⟩ := r.get
  unfold mRun at w
  cases q1 : argSl e hs with
  | none => rw [q1] at w; exact w.elim
  | some sl =>
    rw [q1] at w
    dsimp only at w
    by_cases hnd : nodS hs = true ∧ hs.length = ps.length
    rotate_left
    · rw [if_neg hnd] at w; exact w.elim
    rw [if_pos hnd] at w
    obtain ⟨hnd, hl⟩ := hnd
    refine ⟨vl.trans hl, ?_⟩
    obtain ⟨sll, slg⟩ := argSl_get q1
    -- the addresses handed over
    let Pd : Addr → Prop := fun a => ∃ (k i : Nat), hs[k]? = some (Hv.slot i) ∧ σ[i]? = some (some (V.ref a))
    let Oc : Addr → Prop := fun a => Or2 O (Own σ e) a ∧ ¬ Pd a
    let e0 := sl ++ List.replicate (N.length - sl.length) Sl.un
    let σ0 := L2.start N vs
    have pd_own : ∀ a, Pd a → Own σ e a := fun a ⟨k, i, h1, h2⟩ => by
      rcases slg k _ h1 with ⟨d, z, _⟩ | ⟨i', d, z, od, _⟩
      · cases z
      · cases z
        obtain ⟨b, s, hs', hb, oa, hc⟩ := own_at j od
        rw [h2] at hb; cases hb
        rcases hc (.non) with ⟨z, _⟩ | ⟨z, _⟩
        · exact ⟨i, s, d, hs', by rw [z]; rfl, h2⟩
        · exact ⟨i, s, d, hs', by rw [z]; rfl, h2⟩
    have get0 : ∀ (k : Nat) (s : Sl), e0[k]? = some s → s ≠ .un → (∃ d v, s = .fz d ∧ hs[k]? = some (.val d) ∧ σ0[k]? = some (some v) ∧ Rep T H (Or2 O (Own σ e)) d v) ∨ (∃ i d a, s = .io d ∧ hs[k]? = some (.slot i) ∧ ownD e i = some d ∧ σ[i]? = some (some (.ref a)) ∧ σ0[k]? = some (some (.ref a)) ∧ OwnAt T H (Or2 O (Own σ e)) a d) := fun k s h n => by
      have h' := rep_un h n
      have hk : k < hs.length := by have := lt_of_get h'; omega
      obtain ⟨v, hv, rv⟩ := vg k hs[k] (List.getElem?_eq_getElem hk)
      rcases slg k hs[k] (List.getElem?_eq_getElem hk) with ⟨d, z, g⟩ | ⟨i, d, z, od, g⟩
      · rw [h'] at g; cases g
        rw [z] at rv
        exact .inl ⟨d, v, rfl, by rw [List.getElem?_eq_getElem hk, z], start_get hv, rv⟩
      · rw [h'] at g; cases g
        rw [z] at rv
        obtain ⟨a, s, hs', ha, oa, hc⟩ := own_at j od
        have rv : σ[i]? = some (some v) := rv
        rw [ha] at rv; cases rv
        exact .inr ⟨i, d, a, rfl, by rw [List.getElem?_eq_getElem hk, z], od, ha, start_get hv, oa⟩
    have own0 : ∀ a, Own σ0 e0 a → Pd a := fun a ⟨k, s, d, h1, h2, h3⟩ => by
      rcases get0 k s h1 (by intro z; subst z; cases h2) with ⟨d', v, z, _⟩ | ⟨i, d', b, z, hk, od, hi, h0, _⟩
      · subst z; cases h2
      · have : σ0[k]? = some (some (.ref b)) := h0
        rw [h3] at this; cases this
        exact ⟨k, i, hk, hi⟩
    have sub : ∀ a, Or2 Oc (Own σ0 e0) a → Or2 O (Own σ e) a := fun a z => by
      rcases z with z | z
      · exact z.1
      · exact .inr (pd_own a (own0 a z))
    have m0 : ∀ b o, ¬ Or2 O (Own σ e) b → H b = some o → H b = some o ∧ ¬ Or2 Oc (Own σ0 e0) b := fun b o n q => ⟨q, fun z => n (sub b z)⟩
    have J0 : J T Oc σ0 e0 H := by
      refine ⟨?_, fun k d h => ?_, fun k s d h ho => ?_, fun k l s t d1 d2 a p1 o1 p2 o2 a1 a2 => ?_, fun a z q => q.2 (own0 a z), fun a z => ?_⟩
      · show (sl ++ List.replicate (N.length - sl.length) Sl.un).length = (vs.map some ++ List.replicate (N.length - vs.length) none).length
        simp; omega
      · rcases get0 k _ h (by intro z; cases z) with ⟨d', v, z, _, h0, rr⟩ | ⟨i, d', b, z, _⟩
        · cases z; exact ⟨v, h0, rr.mono m0⟩
        · cases z
      · rcases get0 k _ h (by intro z; subst z; cases ho) with ⟨d', v, z, _⟩ | ⟨i, d', a, z, _, _, _, h0, oa⟩
        · subst z; cases ho
        · subst z; cases ho
          exact ⟨a, h0, oa.mono m0 rfl⟩
      · rcases get0 k _ p1 (by intro z; subst z; cases o1) with ⟨d', v, z, _⟩ | ⟨i, d', b, z, k1, od1, s1, z1, _⟩
        · subst z; cases o1
        · rcases get0 l _ p2 (by intro z; subst z; cases o2) with ⟨d', v, z, _⟩ | ⟨i', d'', b', z', k2, od2, s2, z2, _⟩
          · subst z; cases o2
          · rw [a1] at z1; cases z1
            rw [a2] at z2; cases z2
            obtain ⟨c1, t1, g1, _, _, u1⟩ := own_at j od1
            obtain ⟨c2, t2, g2, _, _, u2⟩ := own_at j od2
            have f1 : t1.own? = some d' := by rcases u1 .non with ⟨z, _⟩ | ⟨z, _⟩ <;> rw [z] <;> rfl
            have f2 : t2.own? = some d'' := by rcases u2 .non with ⟨z, _⟩ | ⟨z, _⟩ <;> rw [z] <;> rfl
            have := j.inj i i' t1 t2 d' d'' a g1 f1 g2 f2 s1 s2
            subst this
            exact nodS_inj hnd k1 k2
      · rcases z.1 with z | ⟨i, s, d, h1, h2, h3⟩
        · exact j.dom a z
        · obtain ⟨b, hb, oa⟩ := j.ow i s d h1 h2
          rw [h3] at hb; cases hb
          exact oa.there
    refine ⟨Oc, e0, J0, ?_⟩
    -- what follows a run
    have fin : ∀ (σ' : St) (e' : Env) (H' : Hp) (Z O' : Addr → Prop), Tr σ0 e0 H σ' e' H' → J T (Or2 Oc Z) σ' e' H' → (∀ b, Z b → H b = none) → (∀ b, O' b → O b ∨ Z b) →
        Tr σ e H σ (backE hs e' e) H' ∧ J T O' σ (backE hs e' e) H' ∧ ∀ b o, ¬ Or2 (Or2 Oc Z) (Own σ' e') b → H' b = some o → H' b = some o ∧ ¬ Or2 O' (Own σ (backE hs e' e)) b := by
      intro σ' e' H' Z O' t jc hZ hO'
      have kp : ∀ b o, H b = some o → ¬ Pd b → H' b = some o := fun b o q n => t.keep b o q fun z => n (own0 b z)
      have ownB : ∀ (i : Nat) (s' : Sl) (d' : D), (backE hs e' e)[i]? = some s' → s'.own? = some d' → ∃ s d, e[i]? = some s ∧ s.own? = some d := fun i s' d' h ho => by
        rw [backE_get] at h
        cases q : e[i]? with
        | none => rw [q] at h; cases h
        | some s =>
          rw [q] at h; cases h
          unfold backF at ho
          split at ho
          · exact ⟨s, d', rfl, ho⟩
          · unfold updS at ho
            split at ho
            · exact ⟨_, _, rfl, rfl⟩
            · exact ⟨_, _, rfl, rfl⟩
            · exact ⟨_, d', rfl, ho⟩
      have own2 : ∀ b, Own σ (backE hs e' e) b → Own σ e b := fun b ⟨i, s', d', h, ho, hb⟩ => by
        obtain ⟨s, d, h1, h2⟩ := ownB i s' d' h ho
        exact ⟨i, s, d, h1, h2, hb⟩
      -- the passed ones are still the callee's
      have pd' : ∀ (k i : Nat) (a : Addr), hs[k]? = some (Hv.slot i) → σ[i]? = some (some (V.ref a)) → ∃ d', e'[k]? = some (.io d') ∧ σ'[k]? = some (some (.ref a)) := fun k i a hk hi => by
        rcases slg k _ hk with ⟨d, z, _⟩ | ⟨i', d, z, od, g⟩
        · cases z
        · cases z
          have h0 : e0[k]? = some (.io d) := by
            show (sl ++ List.replicate (N.length - sl.length) Sl.un)[k]? = _
            rw [List.getElem?_append_left (lt_of_get g)]; exact g
          obtain ⟨d', h1, h2⟩ := t.io k d h0
          obtain ⟨v, hv, rv⟩ := vg k _ hk
          have rv : σ[i]? = some (some v) := rv
          rw [hi] at rv; cases rv
          exact ⟨d', h1, h2.trans (start_get hv)⟩
      have pdO : ∀ a, Pd a → Own σ' e' a := fun a ⟨k, i, hk, hi⟩ => by
        obtain ⟨d', h1, h2⟩ := pd' k i a hk hi
        exact ⟨k, _, d', h1, rfl, h2⟩
      have cov : ∀ b, Or2 O' (Own σ (backE hs e' e)) b → Or2 (Or2 Oc Z) (Own σ' e') b := fun b z => by
        have g : Or2 O (Own σ e) b → Or2 (Or2 Oc Z) (Own σ' e') b := fun z => by
          by_cases q : Pd b
          · exact .inr (pdO b q)
          · exact .inl (.inl ⟨z, q⟩)
        rcases z with z | z
        · rcases hO' b z with z | z
          · exact g (.inl z)
          · exact .inl (.inr z)
        · exact g (.inr (own2 b z))
      have m2 : ∀ b o, ¬ Or2 (Or2 Oc Z) (Own σ' e') b → H' b = some o → H' b = some o ∧ ¬ Or2 O' (Own σ (backE hs e' e)) b := fun b o n q => ⟨q, fun z => n (cov b z)⟩
      have m : ∀ b o, ¬ Or2 O (Own σ e) b → H b = some o → H' b = some o ∧ ¬ Or2 O' (Own σ (backE hs e' e)) b := fun b o n q => by
        refine ⟨kp b o q fun z => n (.inr (pd_own b z)), fun z => ?_⟩
        rcases z with z | z
        · rcases hO' b z with z | z
          · exact n (.inl z)
          · rw [hZ b z] at q; cases q
        · exact n (.inr (own2 b z))
      have npd : ∀ (i : Nat) (s : Sl) (d : D) (a : Addr), e[i]? = some s → s.own? = some d → σ[i]? = some (some (V.ref a)) → posS hs i = none → ¬ Pd a := fun i s d a h1 h2 h3 h4 ⟨k, i', g1, g2⟩ => by
        rcases slg k _ g1 with ⟨d', z, _⟩ | ⟨i'', d', z, od, g⟩
        · cases z
        · cases z
          obtain ⟨c2, t2, u2, _, _, u3⟩ := own_at j od
          have f2 : t2.own? = some d' := by rcases u3 .non with ⟨z, _⟩ | ⟨z, _⟩ <;> rw [z] <;> rfl
          have := j.inj i i' s t2 d d' a h1 h2 u2 f2 h3 g2
          subst this
          exact posS_none h4 g1
      refine ⟨⟨fun b o q n => kp b o q fun z => n (pd_own b z), fun b z => .inl (own2 b z), t.there, fun i d q => ?_, fun i d q => ?_⟩, ⟨?_, fun i d q => ?_, fun i s' d' q ho => ?_, fun k l s t' d1 d2 b p1 o1 p2 o2 a1 a2 => ?_, fun b z w' => ?_, fun b z => ?_⟩, m2⟩
      · refine ⟨?_, rfl, fun a o h1 h2 => ?_⟩
        · rw [backE_get, q]
          show some (backF hs e' i (.lk d)) = _
          unfold backF
          split <;> rfl
        · refine kp a o h2 ?_
          cases q2 : posS hs i with
          | none => exact npd i _ d a q rfl h1 q2
          | some k =>
            have hk := posS_some q2
            rcases slg k _ hk with ⟨d', z, _⟩ | ⟨i'', d', z, od, g⟩
            · cases z
            · cases z
              unfold ownD at od
              rw [q] at od; cases od
      · rw [backE_get, q]
        show ∃ d', some (backF hs e' i (.io d)) = _ ∧ _
        unfold backF
        split
        · exact ⟨d, rfl, rfl⟩
        · rename_i k' _
          obtain ⟨d', hd'⟩ := updS_io d e'[k']?
          exact ⟨d', by rw [hd'], rfl⟩
      · unfold backE; rw [mapI_len]; exact j.len
      · rw [backE_get] at q
        cases q2 : e[i]? with
        | none => rw [q2] at q; cases q
        | some s =>
          rw [q2] at q
          have q : some (backF hs e' i s) = some (Sl.fz d) := q
          have es : s = .fz d := by
            have q := Option.some.inj q
            unfold backF at q
            split at q
            · exact q
            · unfold updS at q
              split at q
              · cases q
              · cases q
              · exact q
          subst es
          obtain ⟨v, h1, h2⟩ := j.fz i d q2
          exact ⟨v, h1, h2.mono m⟩
      · obtain ⟨s, d, h1, h2⟩ := ownB i s' d' q ho
        obtain ⟨a, ha, oa⟩ := j.ow i s d h1 h2
        refine ⟨a, ha, ?_⟩
        rw [backE_get, h1] at q
        have q : some (backF hs e' i s) = some s' := q
        have q := Option.some.inj q
        unfold backF at q
        cases q2 : posS hs i with
        | none =>
          rw [q2] at q
          have q : s = s' := q
          subst q
          rw [h2] at ho; cases ho
          obtain ⟨o, hoa⟩ := oa.there
          exact oa.mono m (by rw [hoa, kp a o hoa (npd i s _ a h1 h2 ha q2)])
        | some k =>
          rw [q2] at q
          have hk := posS_some q2
          obtain ⟨dn, g1, g2⟩ := pd' k i a hk ha
          have q : updS s e'[k]? = s' := q
          rw [g1] at q
          have ed : d' = dn := by
            rcases slg k _ hk with ⟨d3, z, _⟩ | ⟨i'', d3, z, od, g⟩
            · cases z
            · cases z
              unfold ownD at od
              rw [h1] at od
              cases s with
              | ow x => cases q; cases ho; rfl
              | io x => cases q; cases ho; rfl
              | _ => cases od
          subst ed
          obtain ⟨a', h5, oa'⟩ := jc.ow k _ d' g1 rfl
          rw [g2] at h5; cases h5
          exact oa'.mono m2 rfl
      · obtain ⟨s1, x1, g1, f1⟩ := ownB k s d1 p1 o1
        obtain ⟨s2, x2, g2, f2⟩ := ownB l t' d2 p2 o2
        exact j.inj k l s1 s2 x1 x2 b g1 f1 g2 f2 a1 a2
      · have z' := own2 b z
        rcases hO' b w' with w' | w'
        · exact j.no b z' w'
        · obtain ⟨i, s, d, h1, h2, h3⟩ := z'
          obtain ⟨a, ha, oa⟩ := j.ow i s d h1 h2
          rw [h3] at ha; cases ha
          obtain ⟨o, ho⟩ := oa.there
          rw [hZ _ w'] at ho; cases ho
      · rcases hO' b z with z | z
        · obtain ⟨o, ho⟩ := j.dom b z
          exact t.there b o ho
        · exact jc.dom b (.inr z)
    cases q2 : mb e0 with
    | nx e' =>
      have q2' : mb (sl ++ List.replicate (N.length - sl.length) Sl.un) = .nx e' := q2
      rw [q2'] at w
      intro σ' H' t jc
      obtain ⟨t2, j2, m2⟩ := fin σ' e' H' (fun _ => False) O t (jc.less fun b z => z.elim id False.elim) (fun _ z => z.elim) fun b z => .inl z
      exact w .non H' t2 nwF ⟨j2, by simp only [Rep]⟩
    | rt d fl e' =>
      have q2' : mb (sl ++ List.replicate (N.length - sl.length) Sl.un) = .rt d fl e' := q2
      rw [q2'] at w
      intro v σ' H' t nw r'
      cases fl with
      | false =>
        obtain ⟨jc, rc⟩ := r'
        obtain ⟨t2, j2, m2⟩ := fin σ' e' H' (fun _ => False) O t (jc.less fun b z => z.elim id False.elim) (fun _ z => z.elim) fun b z => .inl z
        refine w v H' t2 nwF ⟨j2, rc.mono fun b o n q => m2 b o (fun z => n ?_) q⟩
        rcases z with (z | z) | z
        · exact .inl z
        · exact z.elim
        · exact .inr z
      | true =>
        obtain ⟨a, rfl, nO, jc, oa⟩ := r'
        have ha : H a = none := by
          rcases nw a ⟨rfl, rfl⟩ with z | z
          · exact z
          · obtain ⟨k, s, d', h1, h2, h3⟩ := z
            rcases get0 k s h1 (by intro z; subst z; cases h2) with ⟨d'', v, z, _⟩ | ⟨i, d'', b, z, hk, od, hi, h0, _⟩
            · subst z; cases h2
            · subst z
              obtain ⟨dn, g1, g2⟩ := t.io k d'' h1
              exact absurd (.inr rfl) (jc.no a ⟨k, _, dn, g1, rfl, g2.trans h3⟩)
        obtain ⟨t2, j2, m2⟩ := fin σ' e' H' (· = a) (Or2 O (· = a)) t jc (fun b z => by
          have z : b = a := z
          subst z; exact ha) fun b z => z
        refine w (.ref a) H' t2 (fun b z => by
          have z : true = true ∧ V.ref a = .ref b := z
          cases z.2; exact ha) ⟨a, rfl, fun z => ?_, j2, oa.mono m2 rfl⟩
        obtain ⟨o, ho⟩ := j.dom a z
        rw [ha] at ho; cases ho
    | bk e' =>
      have q2' : mb (sl ++ List.replicate (N.length - sl.length) Sl.un) = .bk e' := q2
      rw [q2'] at w; exact w.elim
    | ct e' =>
      have q2' : mb (sl ++ List.replicate (N.length - sl.length) Sl.un) = .ct e' := q2
      rw [q2'] at w; exact w.elim
    | exc c ds e' =>
      have q2' : mb (sl ++ List.replicate (N.length - sl.length) Sl.un) = .exc c ds e' := q2
      rw [q2'] at w; exact w.elim
    | bad =>
      have q2' : mb (sl ++ List.replicate (N.length - sl.length) Sl.un) = .bad := q2
      rw [q2'] at w; exact w.elim
/-- a def of the text -/
theorem fn_ok {P : Program} {w : World} {K : PySem.W.Frag} {mg : Str → Option Value} {base : Heap} {x qual : Str} {st : Stmt} {f : Addr} {fd : FuncData} {N ps : List Str} {k : Nat} {mb : MS} (F : Fun K x qual st f fd) (S : FnScope N ps (defScope st))
    (hb : ∀ (cdv : Value) (A : Around) (outer : List PySem.Env) (s : Shared) (H : Hp) (E : XK) (O : Addr → Prop), Room k (A.deeper (envOfC qual (defScope st) s.heap.objs.size f cdv)) → DSs (cxOf CX0 P w K mg base N qual (defScope st) f cdv A outer s H E).nox W0 T O (defBody st) mb) :
    FnOk P w K mg base CX0 (k + 1) f fd ps (spB T N ps mb) :=
  F.ok S (fun vs H Q E h => h.1) fun cdv A outer s H vs Q E hr ⟨_, O, e0, j, w⟩ => ⟨_, hb cdv A outer s H E O hr, e0, j, w⟩
end
end DV
-- DvO
namespace DV
open PySem PySem.Spec PyProof.Rows L2
section
variable {T : Tbl} {O O' : Addr → Prop} {σ σ1 σ2 : St} {e e1 e2 : Env} {H H1 H2 H' : Hp} {P P' : Addr → Prop} {X : Cx} {W : WX} {a b c : Expr} {ma mb mc : M Hv} {mt : M Bool} {pos : Pos} {x : Str} {es : List Expr} {p : Pos} {m n : MS} {st : Stmt} {sts : List Stmt}
variable {N ps : List Str} {mb : MS} {k : Nat} {f C : Addr} {fd : FuncData} {dvs : List V} {ds : List Value} {dd : List D}
theorem RepL.rhl {σ : St} {e : Env} : ∀ {dd : List D} {dvs : List V}, RepL T H (Or2 O (Own σ e)) dd dvs → RHL T O σ e H (dd.map Hv.val) dvs
  | [], vs, r => by simp only [RepL] at r; exact r
  | d :: dd, vs, r => by
    simp only [RepL] at r
    obtain ⟨v, r', rfl, a, b⟩ := r
    exact ⟨v, r', rfl, a, b.rhl⟩
theorem RHL.append {σ : St} {e : Env} : ∀ {hs hs' : List Hv} {vs vs' : List V}, RHL T O σ e H hs vs → RHL T O σ e H hs' vs' → RHL T O σ e H (hs ++ hs') (vs ++ vs')
  | [], hs', vs, vs', r, r' => by
    have r : vs = [] := r
    subst r; exact r'
  | h :: hs, hs', vs, vs', r, r' => by
    obtain ⟨v, r1, rfl, a, b⟩ := r
    exact ⟨v, r1 ++ vs', rfl, a, b.append r'⟩
/-- f(..), a def of the text; dd its defaults that fill up -/
def mDef (nN nP : Nat) (mb : MS) (dd : List D) (m : M (List Hv)) : M (D × Bool) := M.bind m fun hs => mRun nN nP mb (hs ++ dd.map Hv.val)
theorem de_def {ma : M (List Hv)} (F : FnOk X.prog X.w X.K X.mg X.base CX0 k f fd ps (spB T N ps mb)) (hr : Room k X.A) (hm : X.mg x = some (.ref f)) (hk : PySem.W.keepIn X.K (.ref f) = true) (hb : Binds X.K fd ps ds) (hd : Vals dvs ds) (hdd : ∀ H P, RepL T H P dd dvs)
    (ha : DA X W T O (a :: es) ma) (hg : Gl X x := by rfl) (hdb : (x == ("__debug__" : Str)) = false := by decide) (he : starEach (a :: es) X.env = (false, eval a X.env) :: starEach es X.env := by rfl) (hpl : (backTo pos (starEach es X.env)).any (·.1) = false := by rfl) {nN nP : Nat} (hnN : N.length = nN := by rfl) (hnP : ps.length = nP := by rfl) :
    DE X W T O (.Call (.Name x p) (a :: es) [] pos) (mDef nN nP mb dd ma) := by
  subst hnN hnP
  refine PE.of (pe_call F hr hg hm hk hb hd pass0 ha hdb he hpl) fun σ H Q w => wpG.mono (wpG.bind (R' := RA T O σ) w) fun vs H1 ⟨hs, e1, ⟨j1, r1⟩, w⟩ => ?_
  exact run_call j1 (r1.append (hdd _ _).rhl) w
theorem de_def0 (F : FnOk X.prog X.w X.K X.mg X.base CX0 k f fd ps (spB T N ps mb)) (hr : Room k X.A) (hm : X.mg x = some (.ref f)) (hk : PySem.W.keepIn X.K (.ref f) = true) (hb : Binds X.K fd ps ds) (hd : Vals dvs ds) (hdd : ∀ H P, RepL T H P dd dvs)
    (hg : Gl X x := by rfl) (hdb : (x == ("__debug__" : Str)) = false := by decide) {nN nP : Nat} (hnN : N.length = nN := by rfl) (hnP : ps.length = nP := by rfl) : DE X W T O (.Call (.Name x p) [] [] pos) (mDef nN nP mb dd mNil) := by
  subst hnN hnP
  refine PE.of (pe_call0 F hr hg hm hk hb hd pass0 hdb) fun σ H Q w => ?_
  obtain ⟨e, j, w⟩ := w
  have w : wpR T O W (RV T O σ) (mRun N.length ps.length mb (dd.map Hv.val) e) σ e H Q := w
  exact run_call (E := E0) (vs := [] ++ dvs) j (RHL.append (hs := []) rfl (hdd _ _).rhl) w
/-! ### .. with owned lists lent for the call -/
def frzS : Sl → Sl
  | .ow d => .fz d
  | .lk d => .fz d
  | .io d => .fz d
  | s => s
def frzE (e : Env) : Env := e.map frzS
theorem frzE_get {i : Nat} : (frzE e)[i]? = e[i]?.map frzS := by unfold frzE; rw [List.getElem?_map]
theorem frz_own {b : Addr} (h : Own σ (frzE e) b) : False := by
  obtain ⟨i, s, d, h1, h2, _⟩ := h
  rw [frzE_get] at h1
  cases q : e[i]? with
  | none => rw [q] at h1; cases h1
  | some s' => rw [q] at h1; cases h1; cases s' <;> cases h2
theorem own_rep (j : J T O σ e H) {i : Nat} {s : Sl} {d : D} (h : e[i]? = some s) (ho : s.own? = some d) : ∃ a, σ[i]? = some (some (.ref a)) ∧ Rep T H (Or2 O (Own σ (frzE e))) d (.ref a) := by
  obtain ⟨a, ha, oa⟩ := j.ow i s d h ho
  refine ⟨a, ha, oa.rep (fun z => ?_) fun b z => ?_⟩
  · rcases z with z | z
    · exact j.no a ⟨i, s, d, h, ho, ha⟩ z
    · exact (frz_own z).elim
  · rcases z with z | z
    · exact .inl z
    · exact (frz_own z).elim
theorem J.frz (j : J T O σ e H) : J T O σ (frzE e) H := by
  have m : ∀ b o, ¬ Or2 O (Own σ e) b → H b = some o → H b = some o ∧ ¬ Or2 O (Own σ (frzE e)) b := fun b o n q => ⟨q, fun z => by
    rcases z with z | z
    · exact n (.inl z)
    · exact (frz_own z).elim⟩
  refine ⟨by unfold frzE; rw [List.length_map]; exact j.len, fun i d q => ?_, fun i s d q hs => ?_, fun k l s t d1 d2 b q1 o1 q2 o2 a1 a2 => (frz_own ⟨k, s, d1, q1, o1, a1⟩).elim, fun b z => (frz_own z).elim, j.dom⟩
  · rw [frzE_get] at q
    cases q2 : e[i]? with
    | none => rw [q2] at q; cases q
    | some s =>
      rw [q2] at q
      have q : some (frzS s) = some (Sl.fz d) := q
      have q := Option.some.inj q
      cases s with
      | un => cases q
      | fz d' => cases q; obtain ⟨v, h1, h2⟩ := j.fz i _ q2; exact ⟨v, h1, h2.mono m⟩
      | ow d' => cases q; obtain ⟨a, h1, h2⟩ := own_rep j q2 rfl; exact ⟨_, h1, h2⟩
      | lk d' => cases q; obtain ⟨a, h1, h2⟩ := own_rep j q2 rfl; exact ⟨_, h1, h2⟩
      | io d' => cases q; obtain ⟨a, h1, h2⟩ := own_rep j q2 rfl; exact ⟨_, h1, h2⟩
  · rw [frzE_get] at q
    cases q2 : e[i]? with
    | none => rw [q2] at q; cases q
    | some s' => rw [q2] at q; cases q; cases s' <;> cases hs
def atom : D → Bool
  | .non => true
  | .bl _ => true
  | .int _ => true
  | .str _ => true
  | _ => false
theorem atom_rep {d : D} {v : V} (h : atom d = true) (r : Rep T H P d v) : Rep T H' P' d v := by
  cases d with
  | non => simp only [Rep] at r ⊢; exact r
  | bl b => simp only [Rep] at r ⊢; exact r
  | int b => simp only [Rep] at r ⊢; exact r
  | str b => simp only [Rep] at r ⊢; exact r
  | _ => cases h
theorem atom_repL : ∀ {d : List D} {v : List V}, d.all atom = true → RepL T H P d v → RepL T H' P' d v
  | [], v, h, r => by simp only [RepL] at r ⊢; exact r
  | x :: xs, v, h, r => by
    rw [List.all_cons, Bool.and_eq_true] at h
    simp only [RepL] at r ⊢
    obtain ⟨u, r', e1, a, b⟩ := r
    exact ⟨u, r', e1, atom_rep h.1 a, atom_repL h.2 b⟩
def lone : D → Bool → Bool
  | .lst xs, true => xs.all atom
  | d, false => atom d
  | _, _ => false
def lend (e : Env) : List Hv → Option (List Hv)
  | [] => some []
  | .val d :: hs => (lend e hs).map (.val d :: ·)
  | .slot i :: hs => match look e i with
    | some d => (lend e hs).map (.val d :: ·)
    | none => none
theorem lend_rhl (j : J T O σ e H) : ∀ {hs hs' : List Hv} {vs : List V}, lend e hs = some hs' → RHL T O σ e H hs vs → RHL T O σ (frzE e) H hs' vs
  | [], hs', vs, h, r => by cases h; exact r
  | .val d :: hs, hs', vs, h, r => by
    unfold lend at h
    obtain ⟨q, hq, rfl⟩ := Option.map_eq_some_iff.mp h
    obtain ⟨v, r', rfl, a, b⟩ := r
    refine ⟨v, r', rfl, Rep.mono (fun b o n q => ⟨q, fun z => ?_⟩) d v a, lend_rhl j hq b⟩
    rcases z with z | z
    · exact n (.inl z)
    · exact frz_own z
  | .slot i :: hs, hs', vs, h, r => by
    unfold lend at h
    cases q1 : look e i with
    | none => rw [q1] at h; cases h
    | some d =>
      rw [q1] at h
      obtain ⟨q, hq, rfl⟩ := Option.map_eq_some_iff.mp h
      obtain ⟨v, r', rfl, a, b⟩ := r
      have a : σ[i]? = some (some v) := a
      refine ⟨v, r', rfl, ?_, lend_rhl j hq b⟩
      show Rep T H (Or2 O (Own σ (frzE e))) d v
      unfold look at q1
      split at q1
      · rename_i q2; cases q1
        obtain ⟨u, h1, h2⟩ := j.fz i _ q2
        rw [a] at h1; cases h1
        exact h2.mono fun b o n q => ⟨q, fun z => by
          rcases z with z | z
          · exact n (.inl z)
          · exact frz_own z⟩
      · rename_i q2; cases q1
        obtain ⟨u, h1, h2⟩ := own_rep j q2 rfl
        rw [a] at h1; cases h1; exact h2
      · rename_i q2; cases q1
        obtain ⟨u, h1, h2⟩ := own_rep j q2 rfl
        rw [a] at h1; cases h1; exact h2
      · rename_i q2; cases q1
        obtain ⟨u, h1, h2⟩ := own_rep j q2 rfl
        rw [a] at h1; cases h1; exact h2
      · cases q1
def mLend (nN nP : Nat) (mb : MS) (dd : List D) (m : M (List Hv)) : M (D × Bool) := M.bind m fun hs e => match lend e (hs ++ dd.map Hv.val) with
  | some hs' => (match mRun nN nP mb hs' (frzE e) with
    | .ok (d, fl) _ => if lone d fl = true then .ok (d, fl) e else .bad
    | _ => .bad)
  | none => .bad
theorem de_lend {ma : M (List Hv)} (F : FnOk X.prog X.w X.K X.mg X.base CX0 k f fd ps (spB T N ps mb)) (hr : Room k X.A) (hm : X.mg x = some (.ref f)) (hk : PySem.W.keepIn X.K (.ref f) = true) (hb : Binds X.K fd ps ds) (hd : Vals dvs ds) (hdd : ∀ H P, RepL T H P dd dvs)
    (ha : DA X W T O (a :: es) ma) (hg : Gl X x := by rfl) (hdb : (x == ("__debug__" : Str)) = false := by decide) (he : starEach (a :: es) X.env = (false, eval a X.env) :: starEach es X.env := by rfl) (hpl : (backTo pos (starEach es X.env)).any (·.1) = false := by rfl) {nN nP : Nat} (hnN : N.length = nN := by rfl) (hnP : ps.length = nP := by rfl) :
    DE X W T O (.Call (.Name x p) (a :: es) [] pos) (mLend nN nP mb dd ma) := by
  subst hnN hnP
  refine PE.of (pe_call F hr hg hm hk hb hd pass0 ha hdb he hpl) fun σ H Q w => wpG.mono (wpG.bind (R' := RA T O σ) w) fun vs H1 ⟨hs, e1, ⟨j1, r1⟩, w⟩ => ?_
  cases q : lend e1 (hs ++ dd.map Hv.val) with
  | none => rw [q] at w; exact w.elim
  | some hs' =>
    rw [q] at w
    dsimp only at w
    refine run_call (W := W) (mb := mb) j1.frz (lend_rhl j1 q (r1.append (hdd _ _).rhl)) ?_
    cases q2 : mRun N.length ps.length mb hs' (frzE e1) with
    | bad => rw [q2] at w; exact w.elim
    | exc c ds e2 => rw [q2] at w; exact w.elim
    | ok z e2 =>
      rw [q2] at w
      obtain ⟨d, fl⟩ := z
      dsimp only at w
      split at w
      · rename_i hl
        intro v H2 t nw rv
        have kp : ∀ b o, H1 b = some o → H2 b = some o := fun b o q => t.keep b o q fun z => frz_own z
        have t2 : Tr σ e1 H1 σ e1 H2 := ⟨fun b o q _ => kp b o q, fun b z => .inl z, fun b o q => ⟨o, kp b o q⟩, fun i d q => ⟨q, rfl, fun a o _ q => kp a o q⟩, fun i d q => ⟨d, q, rfl⟩⟩
        refine w v H2 t2 nw ?_
        cases fl with
        | false =>
          refine ⟨j1.same kp, atom_rep (P := Or2 O (Own σ e2)) (H := H2) ?_ rv.2⟩
          cases d <;> exact hl
        | true =>
          cases d with
          | lst xs =>
            obtain ⟨a, rfl, nO, j2, vs', h2, r2⟩ := rv
            have ha : H1 a = none := nw a ⟨rfl, rfl⟩
            refine ⟨a, rfl, nO, j1.heap kp (fun b z => ?_) (fun b z => ?_), vs', h2, atom_repL hl r2⟩
            · rcases z with z | z
              · exact .inl z
              · have z : b = a := z
                subst z; exact .inr ha
            · rcases z with z | z
              · obtain ⟨o, ho⟩ := j1.dom b z
                exact ⟨o, kp b o ho⟩
              · have z : b = a := z
                subst z; exact ⟨_, h2⟩
          | _ => cases hl
      · exact w.elim
/-! ### isinstance -/
def tyN : D → Option String
  | .non => some "NoneType"
  | .bl _ => some "bool"
  | .int _ => some "int"
  | .str _ => some "str"
  | .lst _ => some "list"
  | .tup _ => some "tuple"
  | .frz _ => some "list"
  | .dct _ _ => some "dict"
  | .obj _ _ => none
theorem tyN_ok {K : PySem.W.Frag} {d : D} {v : V} {n : String} (r : Pk T H P d v) (h : tyN d = some n) : TyX K H v (.type n) := by
  cases d with
  | non => cases h; have r : v = .non := r; subst r; exact .base .non
  | bl b => cases h; have r : v = .bl b := r; subst r; exact .base (.bl b)
  | int b => cases h; have r : v = .int b := r; subst r; exact .base (.int b)
  | str b => cases h; have r : v = .str b := r; subst r; exact .base (.str b)
  | lst xs => cases h; obtain ⟨a, vs, rfl, h1, _⟩ := r; exact .base (.lst h1)
  | tup xs => cases h; obtain ⟨a, vs, rfl, _, h1, _⟩ := r; exact .base (.tup h1)
  | frz xs => cases h; obtain ⟨a, o, vs, rfl, h1, _⟩ := r; exact .base (.frz h1)
  | dct ks xs => cases h; obtain ⟨a, vs, rfl, h1, _⟩ := r; exact .base (.dK h1)
  | obj c xs => cases h
/-- an own class, as isinstance asks it -/
structure ClsI (K : PySem.W.Frag) (C : Addr) : Prop where
  cl : Cls K C
  ha : PySem.W.findIn K (.ref C) "__class__" = some (some (.builtin "object.__class__"))
  hn : PySem.W.specialIn K (.builtin "object.__class__") "__get__" = some (some (.builtin "getset_descriptor.__get__"))
  htk : PySem.W.takesIn K (.builtin "object.__class__") = some true
  hm : PySem.W.mroIn K C (.type "object") = some true
/-- what isinstance answers: the class by its value u, tb for built-in types, ob for own ones (below n) -/
structure IsOk (K : PySem.W.Frag) (T : Tbl) (n : Nat) (u : Value) (tb : String → Option Bool) (ob : Nat → Option Bool) : Prop where
  ty : ∀ m b, tb m = some b → PySem.W.kitOne K (.type m) u = some b
  own : ∀ c b, ob c = some b → c < n → PySem.W.kitOne K (.ref (T.cls c)) u = some b
  cls : ∀ c, c < n → ClsI K (T.cls c)
def opIsi (n : Nat) (tb : String → Option Bool) (ob : Nat → Option Bool) (d : D) : Option Bool := match d with
  | .obj c _ => if c < n then ob c else none
  | d => (tyN d).bind tb
def mIsi (n : Nat) (tb : String → Option Bool) (ob : Nat → Option Bool) (m : M Hv) : M (D × Bool) := m1 m fun d => bOut (opIsi n tb ob d)
def mIsiT (n : Nat) (tb : String → Option Bool) (ob : Nat → Option Bool) (m : M Hv) : M Bool := m1 m fun d => M.ofO (opIsi n tb ob d)
theorem opIsi_ok {K : PySem.W.Frag} {n : Nat} {u : Value} {tb : String → Option Bool} {ob : Nat → Option Bool} (I : IsOk K T n u tb ob) {d : D} {v : V} {b : Bool} (r : Pk T H P d v) (h : opIsi n tb ob d = some b) : ∃ t, TyX K H v t ∧ PySem.W.kitOne K t u = some b := by
  unfold opIsi at h
  split at h
  · rename_i c xs
    split at h
    · rename_i hc
      obtain ⟨a, dx, vs, rfl, h1, _⟩ := r
      have z := I.cls c hc
      exact ⟨_, .base (.ins h1 z.cl z.ha z.hn z.htk z.hm), I.own c b h hc⟩
    · cases h
  · obtain ⟨m, h1, h2⟩ := Option.bind_eq_some_iff.mp h
    exact ⟨_, tyN_ok r h1, I.ty m b h2⟩
theorem de_isi {n : Nat} {u : Value} {uv : V} {tb : String → Option Bool} {ob : Nat → Option Bool} (I : IsOk X.K T n u tb ob) (hv : ClsV uv u) (hc : PE X c (tC uv)) (hm : X.mg "isinstance" = none) (ha : DH X W T O a ma) {p pos : Pos} (hg : Gl X "isinstance" := by rfl)
    (h1 : starEach [a, c] X.env = (false, eval a X.env) :: starEach [c] X.env := by rfl) (h2 : starEach [c] X.env = (false, eval c X.env) :: starEach [] X.env := by rfl) (hpl : (backTo pos (starEach [c] X.env)).any (·.1) = false := by rfl) : DE X W T O (.Call (.Name "isinstance" p) [a, c] [] pos) (mIsi n tb ob ma) := by
  refine PE.of (pe_callB call_isi hg hm rfl (pa_cons ha (pa_cons hc pa_nil h2) h1) (by decide) (by decide) h1 hpl) fun σ H Q w => wpG.mono (wp1 w) fun v H1 ⟨e1, d, j1, pk, w⟩ => ?_
  cases q : opIsi n tb ob d with
  | none => exact bad_out w (by rw [q]; rfl)
  | some b =>
    obtain ⟨t, h3, h4⟩ := opIsi_ok I pk q
    exact ⟨v, uv, t, u, b, rfl, hv, h3, h4, out_val j1 w (by rw [q]; rfl) (by simp only [Rep])⟩
/-- a built-in type as the class -/
def tbB (n : String) (m : String) : Option Bool := kitB m n
theorem isOk_ty {K : PySem.W.Frag} {n : String} : IsOk K T 0 (.type n) (tbB n) (fun _ => none) := ⟨fun m b h => kit_ty h, fun c b h => (nomatch h), fun c h => absurd h (Nat.not_lt_zero c)⟩
theorem pe_tyB {n : String} {x : Str} {pos : Pos} (hm : X.mg x = none) (hv : bootBuiltins x = some (.type n)) (hg : Gl X x := by rfl) (hn : x ≠ "__name__" := by decide) (hd : (x == ("__debug__" : Str)) = false := by decide) : PE X (.Name x pos) (tC (.ty n)) := pe_bltn hg hm hv rfl hn hd
theorem pe_clsG {C : Addr} {x : Str} {pos : Pos} (hm : X.mg x = some (.ref C)) (hg : Gl X x := by rfl) (hd : (x == ("__debug__" : Str)) = false := by decide) : PE X (.Name x pos) (tC (.ref C)) := pe_glob hg hm rfl hd
/-! ### join -/
def toStrs : List D → Option (List Str)
  | [] => some []
  | d :: ds => match d with
    | .str s => (toStrs ds).map (s :: ·)
    | _ => none
theorem toStrs_rep : ∀ {ds : List D} {vs : List V} {ys : List Str}, RepL T H P ds vs → toStrs ds = some ys → vs = ys.map V.str
  | [], vs, ys, r, h => by cases h; simp only [RepL] at r; exact r
  | d :: ds, vs, ys, r, h => by
    cases d with
    | str s =>
      simp only [toStrs] at h
      obtain ⟨q, hq, rfl⟩ := Option.map_eq_some_iff.mp h
      simp only [RepL] at r
      obtain ⟨v, vs', rfl, a, b⟩ := r
      simp only [Rep] at a
      rw [a, toStrs_rep b hq]; rfl
    | _ => cases h
def opJoin : D → D → Option (D × Bool)
  | .str s, d => (items d).bind fun ds => (toStrs ds).bind fun ys => if (ys.map (·.length)).sum + ys.length * s.length ≤ 16777216 then some (.str (Txt.join s ys), false) else none
  | _, _ => none
def mJoin (ma mb : M Hv) : M (D × Bool) := M.bind ma fun h e => match h.fetch e with
  | some (.str s) => m1 mb (fun d => pOut (opJoin (.str s) d)) e
  | _ => .bad
theorem de_join {mb' : M Hv} {apos : Pos} (ha : DH X W T O a ma) (hb : DH X W T O b mb') (hs : starEach [b] X.env = [(false, eval b X.env)] := by rfl) (hbase : attributeBase a "join" X.env (eval a X.env) = eval a X.env := by rfl) (hline : (apos.endLine == pos.line) = true := by rfl) :
    DE X W T O (.Call (.Attribute a "join" apos) [b] [] pos) (mJoin ma mb') := by
  refine PE.of (pe_join ha hb hs hbase hline) fun σ H Q w => wpG.mono (wpG.bind (R' := RH T O σ) w) fun v H1 ⟨h, e1, ⟨j1, r1⟩, w⟩ => ?_
  split at w
  · rename_i s hf
    have p1 : v = .str s := r1.pk j1 hf
    refine ⟨⟨s, p1⟩, wpG.mono (wp1 ⟨e1, j1, w⟩) fun u H2 ⟨e, d', j, p2, w⟩ => ?_⟩
    cases q : opJoin (.str s) d' with
    | none => exact bad_out w q
    | some z =>
      have q' := q
      unfold opJoin at q'
      dsimp only at q'
      obtain ⟨ds, h1, q'⟩ := Option.bind_eq_some_iff.mp q'
      obtain ⟨ys, h2, q'⟩ := Option.bind_eq_some_iff.mp q'
      split at q'
      · rename_i hz
        cases q'
        have fin : Q (.str (Txt.join s ys)) H2 := out_val j w q (by simp only [Rep])
        cases d' with
        | lst xs =>
          cases h1
          obtain ⟨a, vs, rfl, ha, ra⟩ := p2
          exact ⟨s, a, ys, p1, rfl, .inl (SqL.of (by rw [← toStrs_rep ra h2]; exact ha)), hz, fin⟩
        | tup xs =>
          cases h1
          obtain ⟨a, vs, rfl, _, ha, ra⟩ := p2
          exact ⟨s, a, ys, p1, rfl, .inr (SqT.of (by rw [← toStrs_rep ra h2]; exact ha)), hz, fin⟩
        | _ => cases h1
      · cases q'
  · exact w.elim
end
end DV
-- DvP
namespace DV
open PySem PySem.Spec PyProof.Rows L2
section
variable {T : Tbl} {O O' : Addr → Prop} {σ σ1 σ2 : St} {e e1 e2 : Env} {H H1 H2 H' : Hp} {P P' : Addr → Prop} {X : Cx} {W : WX} {a b c : Expr} {ma mb mc : M Hv} {mt : M Bool} {pos : Pos} {x : Str} {es : List Expr} {p : Pos} {m n : MS} {st : Stmt} {sts : List Stmt}
variable {N ps : List Str} {mb : MS} {k : Nat} {f C : Addr} {fd : FuncData} {dvs : List V} {ds : List Value} {dd : List D}
/-! ### self.f = v -/
theorem putF_new {f : Str} {v : V} : ∀ {fs : List (Str × V)}, (∀ q ∈ fs, q.1 ≠ f) → putF f v fs = fs ++ [(f, v)]
  | [], _ => rfl
  | (g, x) :: r, h => by
    have n : g ≠ f := h (g, x) List.mem_cons_self
    unfold putF
    rw [if_neg n, putF_new fun q hq => h q (List.mem_cons_of_mem _ hq)]
    rfl
theorem putF_set {f : Str} {y : V} : ∀ {ns : List Str} {vs : List V} {k : Nat}, ns.Nodup → ns[k]? = some f → k < vs.length → putF f y (ns.zip vs) = ns.zip (vs.set k y)
  | [], vs, k, _, h, _ => by simp at h
  | n :: ns, [], k, _, _, h => by simp at h
  | n :: ns, v :: vs, 0, nd, h, hk => by
    simp at h; subst h
    show putF n y ((n, v) :: ns.zip vs) = (n, y) :: ns.zip vs
    unfold putF
    rw [if_pos rfl]
  | n :: ns, v :: vs, k + 1, nd, h, hk => by
    have h' : ns[k]? = some f := by simpa using h
    have nf : n ≠ f := fun z => by subst z; exact (List.nodup_cons.mp nd).1 (List.mem_of_getElem? h')
    show putF f y ((n, v) :: ns.zip vs) = (n, v) :: ns.zip (vs.set k y)
    have hk' : k < vs.length := by simpa using hk
    rw [← putF_set (List.nodup_cons.mp nd).2 h' hk']
    show (if n = f then _ else _) = _
    rw [if_neg nf]
theorem posOf_lt {l : List Nat} {f k : Nat} (h : posOf l f = some k) : k < l.length := lt_of_get (posOf_get h)
theorem fld_put {n c f k : Nat} {vs : List V} {y : V} (nd : ((T.flds c).map T.fld).Nodup) (hk : posOf (T.flds c) f = some k) (hl : vs.length ≤ (T.flds c).length) :
    (k < vs.length → putF (T.fld f) y ((T.names c vs.length).zip vs) = (T.names c (vs.set k y).length).zip (vs.set k y)) ∧
    (k = vs.length → putF (T.fld f) y ((T.names c vs.length).zip vs) = (T.names c (vs ++ [y]).length).zip (vs ++ [y])) := by
  have get : ∀ m, k < m → (T.names c m)[k]? = some (T.fld f) := fun m hm => by
    unfold Tbl.names
    rw [List.getElem?_map, List.getElem?_take_of_lt hm, posOf_get hk]
    rfl
  have ndm : ∀ m, (T.names c m).Nodup := fun m => by
    unfold Tbl.names
    rw [List.map_take]
    exact nd.sublist (List.take_sublist _ _)
  refine ⟨fun h => ?_, fun h => ?_⟩
  · rw [List.length_set]
    exact putF_set (ndm _) (get _ h) h
  · have nl : (T.names c vs.length).length = vs.length := by
      unfold Tbl.names
      rw [List.length_map, List.length_take]; omega
    have e1 : T.names c (vs ++ [y]).length = T.names c vs.length ++ [T.fld f] := by
      unfold Tbl.names
      rw [List.length_append, List.length_singleton, List.take_add_one, ← h, posOf_get hk, List.map_append]
      rfl
    rw [e1, List.zip_append nl]
    refine putF_new fun q hq => ?_
    have hm := (List.of_mem_zip (a := q.1) (b := q.2) hq).1
    intro z
    rw [z] at hm
    have nd2 := ndm (vs.length + 1)
    have e2 : T.names c (vs.length + 1) = T.names c vs.length ++ [T.fld f] := by
      rw [← e1, List.length_append, List.length_singleton]
    rw [e2, List.nodup_append] at nd2
    exact nd2.2.2 _ hm _ (List.mem_singleton.mpr rfl) rfl
def opPutF (n : Nat) (fl : Nat → List Nat) (f : Nat) (v : D) : D → Option D
  | .obj c xs => if c < n ∧ xs.length < 1000 then (posOf (fl c) f).bind fun k => if k < xs.length then some (.obj c (xs.set k v)) else if k = xs.length then some (.obj c (xs ++ [v])) else none else none
  | _ => none
def sPutF (n : Nat) (fl : Nat → List Nat) (f i : Nat) (mv : M (D × Bool)) : MS := sOf (M.bind mv fun v => M.bind (mSlot i) fun _ => M.pure v.1) fun v e => match (ownD e i).bind (opPutF n fl f v) with
  | some d => .nx (chg e i d)
  | none => .bad
theorem ds_fld (i : Nat) {n f : Nat} {xf : Str} {mv : M (D × Bool)} {px pos' : Pos} (K : TOk X.K T n) (hx : T.fld f = xf) (hv : DE X W T O a mv) (hN : X.N[i]? = some x := by rfl) (hvis : Vis X.env.scope x := by first | exact Or.inl rfl | exact Or.inr (Or.inl rfl) | exact Or.inr (Or.inr rfl))
    (hd : (x == ("__debug__" : Str)) = false := by decide) (hcd : (x == ("__classdict__" : Str)) = false := by decide)
    (hs : swapsWith a (some (.Attribute (.Name x px) xf pos')) pos.line X.env = pure false := by rfl) : DS X W T O (.Assign [.Attribute (.Name x px) xf pos'] a pos) (sPutF n T.flds f i mv) := by
  subst hx
  refine PS.of (ps_fld (pe_var hN hvis hd hcd) hv hs) fun N σ H ⟨e, j, w⟩ => ?_
  refine ⟨e, j, (wpS_bind (R := RV T O σ) w).mono fun u H1 ⟨⟨d, fl⟩, e1, t1, nw, r, w⟩ => ?_⟩
  obtain ⟨j1, r1⟩ := r.weak
  obtain ⟨d0, hl, w⟩ := wpS_look w
  obtain ⟨v0, hv0⟩ := look_some j1 hl
  refine ⟨v0, hv0, ?_⟩
  unfold sOf M.pure at w
  dsimp only at w
  cases q : (ownD e1 i).bind (opPutF n T.flds f d) with
  | none => rw [q] at w; exact w.elim
  | some d' =>
    rw [q] at w
    obtain ⟨d1, h1, h2⟩ := Option.bind_eq_some_iff.mp q
    unfold opPutF at h2
    split at h2
    · rename_i c xs
      split at h2
      · rename_i hc
        obtain ⟨k, hk, h2⟩ := Option.bind_eq_some_iff.mp h2
        obtain ⟨a, s, hs', ha, ⟨dx, vs, hI, hle, rl⟩, hch⟩ := own_at j1 h1
        rw [hv0] at ha; cases ha
        have oa : Own σ e1 a := by
          rcases hch .non with ⟨z, _⟩ | ⟨z, _⟩
          · exact ⟨i, s, _, hs', by rw [z]; rfl, hv0⟩
          · exact ⟨i, s, _, hs', by rw [z]; rfl, hv0⟩
        have hlen := rl.length
        obtain ⟨p1, p2⟩ := fld_put (n := n) (y := u) (K.nd c hc.1) hk hle
        refine ⟨a, _, dx, _, rfl, hI, K.cls c hc.1, K.no c f hc.1 (List.mem_of_getElem? (posOf_get hk)), ?_, ?_⟩
        · rw [List.length_zip]; omega
        · split at h2
          · rename_i hlt
            cases h2
            rw [p1 (by omega)]
            obtain ⟨j3, t3⟩ := j1.change (d' := .obj c (xs.set k d)) hs' (hch _) hv0 (o := .ins (T.cls c) dx ((T.names c (vs.set k u).length).zip (vs.set k u))) ⟨dx, vs.set k u, upd_same, by rw [List.length_set]; exact hle, repL_upd oa (rl.set k r1)⟩
            exact w _ _ t3 j3
          · split at h2
            · rename_i heq
              cases h2
              rw [p2 (by omega)]
              obtain ⟨j3, t3⟩ := j1.change (d' := .obj c (xs ++ [d])) hs' (hch _) hv0 (o := .ins (T.cls c) dx ((T.names c (vs ++ [u]).length).zip (vs ++ [u]))) ⟨dx, vs ++ [u], upd_same, by rw [List.length_append, List.length_singleton]; have := posOf_lt hk; omega, repL_upd oa (rl.append (RepL.cons r1 RepL.nil))⟩
              exact w _ _ t3 j3
            · cases h2
      · cases h2
    · cases h2
/-! ### C(..) -/
theorem J.grow (j : J T O σ e H) : J T O (σ ++ [none]) (e ++ [Sl.un]) H := by
  have g : ∀ {i : Nat} {s : Sl}, (e ++ [Sl.un])[i]? = some s → s ≠ Sl.un → e[i]? = some s := fun {i s} h n => by
    by_cases z : i < e.length
    · rwa [List.getElem?_append_left z] at h
    · rw [List.getElem?_append_right (by omega)] at h
      cases q : i - e.length with
      | zero => rw [q] at h; cases h; exact absurd rfl n
      | succ m => rw [q] at h; cases h
  have gs : ∀ {i : Nat} {s : Sl}, e[i]? = some s → (σ ++ [none])[i]? = σ[i]? := fun {i s} h => List.getElem?_append_left (by rw [← j.len]; exact lt_of_get h)
  have own : ∀ b, Own (σ ++ [none]) (e ++ [Sl.un]) b → Own σ e b := fun b ⟨i, s, d, h1, h2, h3⟩ => by
    have h1' := g h1 (by intro z; subst z; cases h2)
    rw [gs h1'] at h3
    exact ⟨i, s, d, h1', h2, h3⟩
  have m : ∀ b o, ¬ Or2 O (Own σ e) b → H b = some o → H b = some o ∧ ¬ Or2 O (Own (σ ++ [none]) (e ++ [Sl.un])) b := fun b o n q => ⟨q, fun z => n (z.imp id (own b))⟩
  refine ⟨by simp [j.len], fun i d q => ?_, fun i s d q hs => ?_, fun k l s t d1 d2 b q1 o1 q2 o2 a1 a2 => ?_, fun b z => j.no b (own b z), j.dom⟩
  · have q := g q (by intro z; cases z)
    obtain ⟨v, h1, h2⟩ := j.fz i d q
    exact ⟨v, by rw [gs q]; exact h1, h2.mono m⟩
  · have q := g q (by intro z; subst z; cases hs)
    obtain ⟨a, h1, h2⟩ := j.ow i s d q hs
    exact ⟨a, by rw [gs q]; exact h1, h2.mono m rfl⟩
  · have q1 := g q1 (by intro z; subst z; cases o1)
    have q2 := g q2 (by intro z; subst z; cases o2)
    rw [gs q1] at a1; rw [gs q2] at a2
    exact j.inj k l s t d1 d2 b q1 o1 q2 o2 a1 a2
theorem J.shrink {v : Option V} (j : J T O (σ ++ [v]) (e ++ [Sl.un]) H) (hl : e.length = σ.length) : J T O σ e H ∧ ∀ b, Own σ e b → Own (σ ++ [v]) (e ++ [Sl.un]) b := by
  have g : ∀ {i : Nat} {s : Sl}, e[i]? = some s → (e ++ [Sl.un])[i]? = some s ∧ (σ ++ [v])[i]? = σ[i]? := fun {i s} h => ⟨by rw [List.getElem?_append_left (lt_of_get h)]; exact h, List.getElem?_append_left (by rw [← hl]; exact lt_of_get h)⟩
  have own : ∀ b, Own σ e b → Own (σ ++ [v]) (e ++ [Sl.un]) b := fun b ⟨i, s, d, h1, h2, h3⟩ => ⟨i, s, d, (g h1).1, h2, by rw [(g h1).2]; exact h3⟩
  have m : ∀ b o, ¬ Or2 O (Own (σ ++ [v]) (e ++ [Sl.un])) b → H b = some o → H b = some o ∧ ¬ Or2 O (Own σ e) b := fun b o n q => ⟨q, fun z => n (z.imp id (own b))⟩
  refine ⟨⟨hl, fun i d q => ?_, fun i s d q hs => ?_, fun k l s t d1 d2 b q1 o1 q2 o2 a1 a2 => ?_, fun b z => j.no b (own b z), j.dom⟩, own⟩
  · obtain ⟨u, h1, h2⟩ := j.fz i d (g q).1
    rw [(g q).2] at h1
    exact ⟨u, h1, h2.mono m⟩
  · obtain ⟨a, h1, h2⟩ := j.ow i s d (g q).1 hs
    rw [(g q).2] at h1
    exact ⟨a, h1, h2.mono m rfl⟩
  · exact j.inj k l s t d1 d2 b (g q1).1 o1 (g q2).1 o2 (by rw [(g q1).2]; exact a1) (by rw [(g q2).2]; exact a2)
def mMake (c nN nP : Nat) (mb : MS) (dd : List D) (m : M (List Hv)) : M (D × Bool) := M.bind m fun hs e => match mRun nN nP mb (.slot e.length :: (hs ++ dd.map Hv.val)) (e ++ [.ow (.obj c [])]) with
  | .ok (.non, false) e2 => (match e2[e.length]? with
    | some (.ow d) => .ok (d, true) (e2.take e.length)
    | _ => .bad)
  | _ => .bad
theorem set_last {α : Type} (l : List α) (a b : α) : (l ++ [a]).set l.length b = l ++ [b] := by
  rw [List.set_append]
  simp
theorem make_of {c : Nat} {hs : List Hv} {vs : List V} {Q : VK} (j : J T O σ e H) (r : RHL T O σ e H hs vs)
    (w : wpR T O W (RV T O σ) ((fun hs e => match mRun N.length ps.length mb (.slot e.length :: (hs ++ dd.map Hv.val)) (e ++ [.ow (.obj c [])]) with
      | .ok (.non, false) e2 => (match e2[e.length]? with
        | some (.ow d) => Out.ok (d, true) (e2.take e.length)
        | _ => .bad)
      | _ => .bad : List Hv → M (D × Bool)) hs e) σ e H Q) (hdd : ∀ H P, RepL T H P dd dvs) {x dx : Addr} (hx : H x = none) (hdx : H dx = none) (hne : dx ≠ x) :
    spB T N ps mb (.ref x :: (vs ++ dvs)) (upd (upd H dx (.own x)) x (.ins (T.cls c) dx [])) (fun v H2 => v = .non ∧ Q (.ref x) H2) E0 := by
  generalize hH0 : upd (upd H dx (.own x)) x (.ins (T.cls c) dx []) = H0
  have k0 : ∀ b o, H b = some o → H0 b = some o := fun b o q => by
    rw [← hH0, upd_ne (ne_of_none q hx), upd_ne (ne_of_none q hdx)]; exact q
  have hx0 : H0 x = some (.ins (T.cls c) dx []) := by rw [← hH0]; exact upd_same
  have jh : J T (Or2 O (· = x)) σ e H0 := j.heap k0 (fun b z => by
    rcases z with z | z
    · exact .inl z
    · have z : b = x := z
      subst z; exact .inr hx) fun b z => by
    rcases z with z | z
    · obtain ⟨o, ho⟩ := j.dom b z
      exact ⟨o, k0 b o ho⟩
    · have z : b = x := z
      subst z; exact ⟨_, hx0⟩
  have nO : ¬ O x := fun z => by
    obtain ⟨o, ho⟩ := j.dom x z
    rw [hx] at ho; cases ho
  have hl := j.len
  obtain ⟨jp, _⟩ := (jh.grow).put_ow (σ1 := σ) (e1 := e) nO (i := e.length) (e' := e ++ [.ow (.obj c [])]) (d := .obj c []) (by
      unfold setSl
      rw [List.getElem?_append_right (Nat.le_refl _), Nat.sub_self]
      show some ((e ++ [Sl.un]).set e.length _) = _
      rw [set_last]) ⟨dx, [], by rw [hx0]; rfl, Nat.zero_le _, RepL.nil⟩
  rw [hl, set_last] at jp
  have gE : ∀ {i : Nat} {s : Sl}, (e ++ [Sl.ow (.obj c [])])[i]? = some s → e[i]? = some s ∨ i = e.length ∧ s = .ow (.obj c []) := fun {i s} h => by
    by_cases z : i < e.length
    · rw [List.getElem?_append_left z] at h; exact .inl h
    · rw [List.getElem?_append_right (by omega)] at h
      cases q : i - e.length with
      | zero => rw [q] at h; cases h; exact .inr ⟨by omega, rfl⟩
      | succ m => rw [q] at h; cases h
  have gL : (σ ++ [some (V.ref x)])[e.length]? = some (some (.ref x)) := by
    rw [List.getElem?_append_right (by omega), show e.length - σ.length = 0 by omega]; rfl
  have own0 : ∀ b, Own (σ ++ [some (V.ref x)]) (e ++ [Sl.ow (.obj c [])]) b → Own σ e b ∨ b = x := fun b ⟨i, s, d, h1, h2, h3⟩ => by
    rcases gE h1 with q | ⟨q1, q2⟩
    · rw [List.getElem?_append_left (by rw [← hl]; exact lt_of_get q)] at h3
      exact .inl ⟨i, s, d, q, h2, h3⟩
    · subst q1
      rw [gL] at h3; cases h3; exact .inr rfl
  have r0 : RHL T O (σ ++ [some (V.ref x)]) (e ++ [.ow (.obj c [])]) H0 (.slot e.length :: (hs ++ dd.map Hv.val)) (.ref x :: (vs ++ dvs)) := by
    refine ⟨.ref x, _, rfl, gL, RHL.append ?_ (hdd _ _).rhl⟩
    have go : ∀ {hs : List Hv} {vs : List V}, RHL T O σ e H hs vs → RHL T O (σ ++ [some (V.ref x)]) (e ++ [.ow (.obj c [])]) H0 hs vs := by
      intro hs
      induction hs with
      | nil => exact fun r => r
      | cons h hs ih =>
        rintro vs ⟨v, r', rfl, a, b⟩
        refine ⟨v, r', rfl, ?_, ih b⟩
        cases h with
        | val d =>
          refine Rep.mono (fun b o n q => ⟨k0 b o q, fun z => ?_⟩) d v a
          rcases z with z | z
          · exact n (.inl z)
          · rcases own0 b z with z | z
            · exact n (.inr z)
            · subst z; rw [hx] at q; cases q
        | slot i =>
          have a : σ[i]? = some (some v) := a
          show (σ ++ [some (V.ref x)])[i]? = _
          rw [List.getElem?_append_left (lt_of_get a)]; exact a
    exact go r
  refine run_call (W := W) (Q := fun v H2 => v = .non ∧ Q (.ref x) H2) jp r0 ?_
  dsimp only at w
  cases q : mRun N.length ps.length mb (.slot e.length :: (hs ++ dd.map Hv.val)) (e ++ [.ow (.obj c [])]) with
  | bad => rw [q] at w; exact w.elim
  | exc c ds e2 => rw [q] at w; exact w.elim
  | ok z e2 =>
    rw [q] at w
    obtain ⟨d, fl⟩ := z
    cases d with
    | non =>
      cases fl with
      | true => exact w.elim
      | false =>
        dsimp only at w
        split at w
        · rename_i d' h1
          intro v H2 t nw ⟨j2, rv⟩
          simp only [Rep] at rv
          refine ⟨rv, ?_⟩
          have hl2 : e2.length = e.length + 1 := by have := j2.len; rw [List.length_append, List.length_singleton] at this; omega
          have e2eq : e2 = e2.take e.length ++ [.ow d'] := by
            obtain ⟨p1, p2⟩ := List.getElem?_eq_some_iff.mp h1
            have := List.take_append_drop e.length e2
            rw [List.drop_eq_getElem_cons p1, p2, List.drop_eq_nil_of_le (by omega)] at this
            exact this.symm
          generalize he3 : e2.take e.length = e3 at w e2eq
          subst e2eq
          have hl3 : e3.length = e.length := by rw [List.length_append, List.length_singleton] at hl2; omega
          obtain ⟨a, ha, nO2, j3, oa, _, _⟩ := j2.letgo h1
          rw [gL] at ha; cases ha
          rw [← hl3, set_last] at j3 oa
          obtain ⟨j4, own4⟩ := j3.shrink (by omega)
          have own5 : ∀ b, Own σ e3 b → Own (σ ++ [some (V.ref x)]) (e3 ++ [.ow d']) b := fun b ⟨i, s, d, g1, g2, g3⟩ => ⟨i, s, d, by rw [List.getElem?_append_left (lt_of_get g1)]; exact g1, g2, by rw [List.getElem?_append_left (lt_of_get g3)]; exact g3⟩
          have t4 : Tr σ e H σ e3 H2 := by
            refine ⟨fun b o q n => t.keep b o (k0 b o q) fun z => ?_, fun b z => ?_, fun b o q => t.there b o (k0 b o q), fun i d q => ?_, fun i d q => ?_⟩
            · rcases own0 b z with z | z
              · exact n z
              · subst z; rw [hx] at q; cases q
            · rcases t.new b (own5 b z) with z | z
              · rcases own0 b z with z | z
                · exact .inl z
                · subst z; exact .inr hx
              · right
                cases q : H b with
                | none => rfl
                | some o => rw [k0 b o q] at z; cases z
            · have hi := lt_of_get q
              obtain ⟨g1, g2, g3⟩ := t.lk i d (by rw [List.getElem?_append_left hi]; exact q)
              rw [List.getElem?_append_left (by omega)] at g1
              refine ⟨g1, rfl, fun a o z1 z2 => g3 a o (by rw [List.getElem?_append_left (by omega)]; exact z1) (k0 a o z2)⟩
            · have hi := lt_of_get q
              obtain ⟨d2, g1, g2⟩ := t.io i d (by rw [List.getElem?_append_left hi]; exact q)
              rw [List.getElem?_append_left (by omega)] at g1
              exact ⟨d2, g1, rfl⟩
          refine w (.ref x) H2 t4 (fun b z => by
            have z : true = true ∧ V.ref x = .ref b := z
            cases z.2; exact hx) ⟨x, rfl, nO2, j4, oa.mono (fun b o n q => ⟨q, fun z => n (z.imp id (own4 b))⟩) rfl⟩
        · exact w.elim
    | _ => cases fl <;> exact w.elim
theorem de_make {c : Nat} {ma : M (List Hv)} (M : Mk X.K (T.cls c) f) (F : FnOk X.prog X.w X.K X.mg X.base CX0 k f fd ps (spB T N ps mb)) (hr : Room (k + 1) X.A) (hm : X.mg x = some (.ref (T.cls c))) (hb : Binds X.K fd ps ds) (hd : Vals dvs ds) (hdd : ∀ H P, RepL T H P dd dvs)
    (ha : DA X W T O (a :: es) ma) (hg : Gl X x := by rfl) (hdb : (x == ("__debug__" : Str)) = false := by decide) (he : starEach (a :: es) X.env = (false, eval a X.env) :: starEach es X.env := by rfl) (hpl : (backTo pos (starEach es X.env)).any (·.1) = false := by rfl) {nN nP : Nat} (hnN : N.length = nN := by rfl) (hnP : ps.length = nP := by rfl) :
    DE X W T O (.Call (.Name x p) (a :: es) [] pos) (mMake c nN nP mb dd ma) := by
  subst hnN hnP
  refine PE.of (pe_make M F hr hg hm hb hd pass0 ha hdb he hpl) fun σ H Q w => wpG.mono (wpG.bind (R' := RA T O σ) w) fun vs H1 ⟨hs, e1, ⟨j1, r1⟩, w⟩ => ?_
  exact fun x dx hx hdx hne => make_of j1 r1 w hdd hx hdx hne
end
end DV
-- DvQ
namespace DV
open PySem PySem.Spec PyProof.Rows L2
section
variable {T : Tbl} {O O' : Addr → Prop} {σ σ1 σ2 : St} {e e1 e2 : Env} {H H1 H2 H' : Hp} {P P' : Addr → Prop} {X : Cx} {W : WX} {a b c : Expr} {ma mb mc : M Hv} {mt : M Bool} {pos : Pos} {x : Str} {es : List Expr} {p : Pos} {m n : MS} {st : Stmt} {sts : List Stmt}
/-! ### the words a walk is printed in -/
theorem repNil : ∀ (H : Hp) (P : Addr → Prop), RepL T H P [] [] := fun _ _ => RepL.nil
theorem repNon : ∀ (H : Hp) (P : Addr → Prop), RepL T H P [.non] [.non] := fun _ _ => RepL.cons (by simp only [Rep]) RepL.nil
theorem de_globI {i : Int} (h : ∃ u, X.mg x = some u ∧ RelV (.int i) u) (hg : Gl X x := by rfl) (hd : (x == ("__debug__" : Str)) = false := by decide) : DE X W T O (.Name x pos) (mC (.int i)) :=
  let ⟨_, h1, h2⟩ := h
  de_glob hg h1 h2 (fun _ _ => by simp only [Rep]) hd
theorem de_globS {i : Str} (h : ∃ u, X.mg x = some u ∧ RelV (.str i) u) (hg : Gl X x := by rfl) (hd : (x == ("__debug__" : Str)) = false := by decide) : DE X W T O (.Name x pos) (mC (.str i)) :=
  let ⟨_, h1, h2⟩ := h
  de_glob hg h1 h2 (fun _ _ => by simp only [Rep]) hd
def blkB (N : List Str) (sc scope : Scope) (own : List (Str × Nat)) : Bool :=
  decide (scope.kind = .function) && scope.names.all (fun y => decide (scope.names.lookup y.1 = some y.2)) && own.all (fun p => decide (N[p.2]? = some p.1))
    && scope.names.all (fun y => !decide (y.2 = .free) || decide (sc.names.lookup y.1 = some .cell) || decide (sc.names.lookup y.1 = some .free))
    && scope.names.all (fun y => !(decide (y.2 = .local) || decide (y.2 = .cell)) || decide (y.1 ∈ own.map (·.1)) || !decide (y.1 ∈ N))
theorem blk_ok {N : List Str} {sc scope : Scope} {own : List (Str × Nat)} (h : blkB N sc scope own = true) : BlkOk N sc scope own := by
  unfold blkB at h
  simp only [Bool.and_eq_true, List.all_eq_true, Bool.or_eq_true, Bool.not_eq_true', decide_eq_true_eq, decide_eq_false_iff_not] at h
  obtain ⟨⟨⟨⟨h1, h2⟩, h3⟩, h4⟩, h5⟩ := h
  refine ⟨h1, h2, h3, fun y hy e => ?_, fun y hy e => ?_⟩
  · rcases h4 y hy with (z | z) | z
    · exact absurd e z
    · exact .inl z
    · exact .inr z
  · rcases h5 y hy with (z | z) | z
    · have : ¬ (y.2 = .local ∨ y.2 = .cell) := by simpa using z
      exact absurd e this
    · exact .inl z
    · exact .inr z
/-- a def with defaults -/
theorem fn_okD {P : Program} {w : World} {K : PySem.W.Frag} {mg : Str → Option Value} {base : Heap} {x qual : Str} {st : Stmt} {f : Addr} {fd : FuncData} {N ps : List Str} {k : Nat} {mb : MS} {dvs : List V} {kws : List (Str × V)} (F : FunD K x qual (defArgs st) (defBody st) (defScope st) dvs kws f fd) (S : FnScope N ps (defScope st))
    (hb : ∀ (cdv : Value) (A : Around) (outer : List PySem.Env) (s : Shared) (H : Hp) (E : XK) (O : Addr → Prop), Room k (A.deeper (envOfC qual (defScope st) s.heap.objs.size f cdv)) → DSs (cxOf CX0 P w K mg base N qual (defScope st) f cdv A outer s H E).nox W0 T O (defBody st) mb) :
    FnOk P w K mg base CX0 (k + 1) f fd ps (spB T N ps mb) :=
  F.ok S (fun vs H Q E h => h.1) fun cdv A outer s H vs Q E hr ⟨_, O, e0, j, w⟩ => ⟨_, (hb cdv A outer s H E O hr).nox, e0, j, w⟩
end
end DV
-- DvR
namespace DV
open PySem PySem.Spec PyProof.Rows L2
/-! ### readings, run -/
@[irreducible] def OkM {α : Type} (m : M α) (e : Env) (P : α → Env → Prop) : Prop := match m e with | .ok x e' => P x e' | _ => False
@[irreducible] def OkS (m : MS) (e : Env) (nx : Env → Prop) (rt : D → Bool → Env → Prop) (bk ct : Env → Prop) : Prop := match m e with
  | .nx e' => nx e'
  | .rt d fl e' => rt d fl e'
  | .bk e' => bk e'
  | .ct e' => ct e'
  | _ => False
section
variable {α β : Type} {e : Env} {P : α → Env → Prop} {nx : Env → Prop} {rt : D → Bool → Env → Prop} {bk ct : Env → Prop}
theorem OkM.mono {m : M α} {P Q : α → Env → Prop} (h : OkM m e P) (hq : ∀ x e', P x e' → Q x e') : OkM m e Q := by
  unfold OkM at *
  split <;> simp_all
theorem OkM.out {m : M α} (h : OkM m e P) : ∃ x e', m e = .ok x e' ∧ P x e' := by
  unfold OkM at h
  split at h
  · exact ⟨_, _, ‹_›, h⟩
  · exact h.elim
@[simp] theorem okM_bind {m : M β} {f : β → M α} : OkM (M.bind m f) e P = OkM m e fun x e1 => OkM (f x) e1 P := by
  unfold OkM M.bind
  cases m e <;> rfl
@[simp] theorem okM_pure {x : α} : OkM (M.pure x) e P = P x e := by unfold OkM M.pure; rfl
@[simp] theorem okM_bad : OkM (M.bad : M α) e P = False := by unfold OkM M.bad; rfl
@[simp] theorem okM_ofO {o : Option α} : OkM (M.ofO o) e P = ∃ x, o = some x ∧ P x e := by
  unfold OkM M.ofO
  cases o <;> simp
@[simp] theorem okM_out {o : Option (D × Bool)} {P : D × Bool → Env → Prop} : OkM (pOut o) e P = ∃ x, o = some x ∧ P x e := okM_ofO
@[simp] theorem okM_val {m : M (D × Bool)} {P : Hv → Env → Prop} : OkM (mVal m) e P = OkM m e fun x e1 => P (.val x.1) e1 := by unfold mVal; simp
@[simp] theorem okM_slot {i : Nat} {P : Hv → Env → Prop} : OkM (mSlot i) e P = ∃ d, look e i = some d ∧ P (.slot i) e := by
  unfold OkM mSlot
  cases look e i <;> simp
@[simp] theorem okM_C {d : D} {P : D × Bool → Env → Prop} : OkM (mC d) e P = P (d, false) e := by unfold OkM mC M.pure; rfl
def varE (e : Env) (i : Nat) : Option (D × Env) := match e[i]? with
  | some (.fz d) => some (d, e)
  | some (.ow d) => some (d, e.set i (.fz d))
  | _ => none
@[simp] theorem okM_var {i : Nat} {P : D × Bool → Env → Prop} : OkM (mVar i) e P = ∃ z, varE e i = some z ∧ P (z.1, false) z.2 := by
  unfold OkM mVar varE
  split <;> split <;> simp_all
@[simp] theorem okM_nil {P : List Hv → Env → Prop} : OkM mNil e P = P [] e := by unfold OkM mNil M.pure; rfl
@[simp] theorem okM_cons {m : M Hv} {r : M (List Hv)} {P : List Hv → Env → Prop} : OkM (mCons m r) e P = OkM m e fun h e1 => OkM r e1 fun hs e2 => P (h :: hs) e2 := by unfold mCons; simp
@[simp] theorem okM_1 {m : M Hv} {g : D → M α} : OkM (m1 m g) e P = OkM m e fun h e1 => ∃ d, h.fetch e1 = some d ∧ OkM (g d) e1 P := by
  unfold m1
  rw [okM_bind]
  congr 1
  funext h e1
  cases q : h.fetch e1 <;> simp [OkM, q]
@[simp] theorem okM_2 {ma mb : M Hv} {g : D → D → M α} : OkM (m2 ma mb g) e P = OkM ma e fun h e1 => OkM mb e1 fun k e2 => ∃ d, h.fetch e2 = some d ∧ ∃ d', k.fetch e2 = some d' ∧ OkM (g d d') e2 P := by
  unfold m2
  simp only [okM_bind]
  congr 1
  funext h e1
  congr 1
  funext k e2
  cases q : h.fetch e2 <;> cases q2 : k.fetch e2 <;> simp [OkM, q, q2]
@[simp] theorem okM_A {m : M (List Hv)} {g : List D → M α} : OkM (mA m g) e P = OkM m e fun hs e1 => ∃ ds, fetchL e1 hs = some ds ∧ OkM (g ds) e1 P := by
  unfold mA
  rw [okM_bind]
  congr 1
  funext h e1
  cases q : fetchL e1 h <;> simp [OkM, q]
@[simp] theorem okM_bin {o : D → D → Option (D × Bool)} {ma mb : M Hv} {P : D × Bool → Env → Prop} : OkM (mBin o ma mb) e P = OkM ma e fun h e1 => OkM mb e1 fun k e2 => ∃ d, h.fetch e2 = some d ∧ ∃ d', k.fetch e2 = some d' ∧ ∃ z, o d d' = some z ∧ P z e2 := by unfold mBin; simp
@[simp] theorem okM_un {o : D → Option (D × Bool)} {m : M Hv} {P : D × Bool → Env → Prop} : OkM (mUn o m) e P = OkM m e fun h e1 => ∃ d, h.fetch e1 = some d ∧ ∃ z, o d = some z ∧ P z e1 := by unfold mUn; simp
@[simp] theorem okM_list {m : M (List Hv)} {P : D × Bool → Env → Prop} : OkM (mList m) e P = OkM m e fun hs e1 => valsOnly hs = true ∧ ∃ ds, fetchL e1 hs = some ds ∧ ds.length ≤ LIM ∧ P (.lst ds, true) e1 := by
  unfold mList mDisp
  rw [okM_bind]
  congr 1
  funext hs e1
  unfold OkM
  by_cases h : valsOnly hs = true
  · simp only [h, if_true]
    cases q : fetchL e1 hs with
    | none => simp
    | some ds => by_cases z : ds.length ≤ LIM <;> simp [z, pOut, M.ofO, M.bad]
  · simp [h]
@[simp] theorem okM_tup {m : M (List Hv)} {P : D × Bool → Env → Prop} : OkM (mTup m) e P = OkM m e fun hs e1 => valsOnly hs = true ∧ ∃ ds, fetchL e1 hs = some ds ∧ ds.length ≤ LIM ∧ P (.tup ds, false) e1 := by
  unfold mTup mDisp
  rw [okM_bind]
  congr 1
  funext hs e1
  unfold OkM
  by_cases h : valsOnly hs = true
  · simp only [h, if_true]
    cases q : fetchL e1 hs with
    | none => simp
    | some ds => by_cases z : ds.length ≤ LIM <;> simp [z, pOut, M.ofO, M.bad]
  · simp [h]
@[simp] theorem okM_noPart {P : Option Int → Env → Prop} : OkM mNoPart e P = P none e := by unfold OkM mNoPart M.pure; rfl
@[simp] theorem okM_part {m : M Hv} {P : Option Int → Env → Prop} : OkM (mPart m) e P = OkM m e fun h e1 => ∃ i, h.fetch e1 = some (.int i) ∧ P (some i) e1 := by
  unfold mPart
  rw [okM_1]
  congr 1
  funext h e1
  cases q : h.fetch e1 with
  | none => simp
  | some d => cases d <;> simp
@[simp] theorem okM_sl {m : M Hv} {ml mh : M (Option Int)} {P : D × Bool → Env → Prop} : OkM (mSl m ml mh) e P = OkM m e fun h e1 => OkM ml e1 fun lo e2 => OkM mh e2 fun hi e3 => ∃ d, h.fetch e3 = some d ∧ ∃ z, opSl d lo hi = some z ∧ P z e3 := by
  unfold mSl
  simp only [okM_bind]
  congr 1
  funext h e1
  congr 1
  funext lo e2
  congr 1
  funext hi e3
  cases q : h.fetch e3 with
  | none => simp [OkM, q]
  | some d =>
    have e0 : OkM (fun e => match h.fetch e with | some d => pOut (opSl d lo hi) e | none => .bad) e3 P = OkM (pOut (opSl d lo hi)) e3 P := by unfold OkM; simp [q]
    refine Eq.trans e0 ?_
    rw [okM_out]
    simp
@[simp] theorem okM_bOut {o : Option Bool} {P : D × Bool → Env → Prop} : OkM (bOut o) e P = ∃ z, o = some z ∧ P (.bl z, false) e := by
  unfold bOut
  rw [okM_out]
  cases o <;> simp
@[simp] theorem okM_cmp {o : D → D → Option Bool} {ma mb : M Hv} {P : D × Bool → Env → Prop} : OkM (mCmp o ma mb) e P = OkM ma e fun h e1 => OkM mb e1 fun k e2 => ∃ d, h.fetch e2 = some d ∧ ∃ d', k.fetch e2 = some d' ∧ ∃ z, o d d' = some z ∧ P (.bl z, false) e2 := by
  unfold mCmp; simp
@[simp] theorem okM_cmpT {o : D → D → Option Bool} {ma mb : M Hv} {P : Bool → Env → Prop} : OkM (mCmpT o ma mb) e P = OkM ma e fun h e1 => OkM mb e1 fun k e2 => ∃ d, h.fetch e2 = some d ∧ ∃ d', k.fetch e2 = some d' ∧ ∃ z, o d d' = some z ∧ P z e2 := by
  unfold mCmpT; simp
@[simp] theorem okM_tru {m : M Hv} {P : Bool → Env → Prop} : OkM (mTru m) e P = OkM m e fun h e1 => ∃ d, h.fetch e1 = some d ∧ ∃ z, tru d = some z ∧ P z e1 := by unfold mTru; simp
@[simp] theorem okM_not {m : M Bool} {P : Bool → Env → Prop} : OkM (mNot m) e P = OkM m e fun b e1 => P (!b) e1 := by unfold mNot; simp
theorem okM_ite {b : Bool} {m n : M α} : OkM (if b = true then m else n) e P = ((b = true → OkM m e P) ∧ (b = false → OkM n e P)) := by cases b <;> simp
@[simp] theorem okM_and {m n : M Bool} {P : Bool → Env → Prop} : OkM (mAnd m n) e P = OkM m e fun b e1 => (b = true → OkM n e1 P) ∧ (b = false → P false e1) := by unfold mAnd; simp [okM_ite]
@[simp] theorem okM_or {m n : M Bool} {P : Bool → Env → Prop} : OkM (mOr m n) e P = OkM m e fun b e1 => (b = true → P true e1) ∧ (b = false → OkM n e1 P) := by unfold mOr; simp [okM_ite]
@[simp] theorem okM_if {t : M Bool} {m n : M α} : OkM (mIf t m n) e P = OkM t e fun b e1 => (b = true → OkM m e1 P) ∧ (b = false → OkM n e1 P) := by unfold mIf; simp [okM_ite]
@[simp] theorem okM_andV {ma : M Hv} {mb : M (D × Bool)} {P : D × Bool → Env → Prop} : OkM (mAndV ma mb) e P = OkM ma e fun h e1 => ∃ b, h.fetch e1 = some (.bl b) ∧ (b = true → OkM mb e1 P) ∧ (b = false → P (.bl false, false) e1) := by
  unfold mAndV
  rw [okM_1]
  congr 1
  funext h e1
  cases q : h.fetch e1 with
  | none => simp
  | some d =>
    cases d with
    | bl b => cases b <;> simp
    | _ => simp
@[simp] theorem okM_orV {ma : M Hv} {mb : M (D × Bool)} {P : D × Bool → Env → Prop} : OkM (mOrV ma mb) e P = OkM ma e fun h e1 => ∃ b, h.fetch e1 = some (.bl b) ∧ (b = true → P (.bl true, false) e1) ∧ (b = false → OkM mb e1 P) := by
  unfold mOrV
  rw [okM_1]
  congr 1
  funext h e1
  cases q : h.fetch e1 with
  | none => simp
  | some d =>
    cases d with
    | bl b => cases b <;> simp
    | _ => simp
@[simp] theorem okM_call {o : List D → Option (D × Bool)} {m : M (List Hv)} {P : D × Bool → Env → Prop} : OkM (mCall o m) e P = OkM m e fun hs e1 => ∃ ds, fetchL e1 hs = some ds ∧ ∃ z, o ds = some z ∧ P z e1 := by unfold mCall; simp
@[simp] theorem okM_iter {m : M (D × Bool)} {P : List D → Env → Prop} : OkM (mIter m) e P = OkM m e fun x e1 => ∃ ds, items x.1 = some ds ∧ P ds e1 := by unfold mIter; simp
@[simp] theorem okM_rg1 {m : M (List Hv)} {P : List D → Env → Prop} : OkM (mRg1 m) e P = OkM m e fun hs e1 => ∃ j, fetchL e1 hs = some [.int j] ∧ smI j = true ∧ P (rgD 0 j.toNat) e1 := by
  unfold mRg1
  rw [okM_A]
  congr 1
  funext hs e1
  apply propext
  constructor
  · rintro ⟨ds, h1, h2⟩
    split at h2
    · split at h2
      · rw [okM_pure] at h2; exact ⟨_, h1, ‹_›, h2⟩
      · rw [okM_bad] at h2; exact h2.elim
    · rw [okM_bad] at h2; exact h2.elim
  · rintro ⟨j, h1, h2, h3⟩
    exact ⟨_, h1, by simp [h2]; first | done | exact h3⟩
@[simp] theorem okM_rg2 {m : M (List Hv)} {P : List D → Env → Prop} : OkM (mRg2 m) e P = OkM m e fun hs e1 => ∃ i j, fetchL e1 hs = some [.int i, .int j] ∧ smI i = true ∧ smI j = true ∧ P (rgD i (j - i).toNat) e1 := by
  unfold mRg2
  rw [okM_A]
  congr 1
  funext hs e1
  apply propext
  constructor
  · rintro ⟨ds, h1, h2⟩
    split at h2
    · split at h2
      · rename_i hh
        rw [Bool.and_eq_true] at hh
        rw [okM_pure] at h2
        exact ⟨_, _, h1, hh.1, hh.2, h2⟩
      · rw [okM_bad] at h2; exact h2.elim
    · rw [okM_bad] at h2; exact h2.elim
  · rintro ⟨i, j, h1, h2, h2', h3⟩
    exact ⟨_, h1, by simp [h2, h2']; exact h3⟩
@[simp] theorem okM_zip {m : M (List Hv)} {P : List D → Env → Prop} : OkM (mZip m) e P = OkM m e fun hs e1 => ∃ xs ys, hs = [.val (.lst xs), .val (.lst ys)] ∧ P (zipD xs ys) e1 := by
  unfold mZip
  rw [okM_bind]
  congr 1
  funext hs e1
  apply propext
  constructor
  · intro h2
    split at h2
    · rw [okM_pure] at h2; exact ⟨_, _, rfl, h2⟩
    · rw [okM_bad] at h2; exact h2.elim
  · rintro ⟨i, j, rfl, h3⟩
    show OkM (M.pure _) e1 P
    rw [okM_pure]; exact h3
@[simp] theorem okM_def {nN nP : Nat} {mb : MS} {dd : List D} {m : M (List Hv)} {P : D × Bool → Env → Prop} : OkM (mDef nN nP mb dd m) e P = OkM m e fun hs e1 => OkM (mRun nN nP mb (hs ++ dd.map Hv.val)) e1 P := by unfold mDef; simp
@[simp] theorem okM_isi {n : Nat} {tb : String → Option Bool} {ob : Nat → Option Bool} {m : M Hv} {P : D × Bool → Env → Prop} : OkM (mIsi n tb ob m) e P = OkM m e fun h e1 => ∃ d, h.fetch e1 = some d ∧ ∃ z, opIsi n tb ob d = some z ∧ P (.bl z, false) e1 := by
  unfold mIsi; simp
@[simp] theorem okM_ownL {i : Nat} {P : Hv → Env → Prop} : OkM (mOwnL i) e P = ∃ xs, ownD e i = some (.lst xs) ∧ P (.slot i) e := by
  unfold OkM mOwnL
  cases q : ownD e i with
  | none => simp
  | some d => cases d <;> simp
@[simp] theorem okM_popAt {i : Nat} {m : M Hv} {P : D × Bool → Env → Prop} : OkM (mPopAt i m) e P = ∃ xs0, ownD e i = some (.lst xs0) ∧ OkM m e fun k e1 => ∃ xs j n d, ownD e1 i = some (.lst xs) ∧ k.fetch e1 = some (.int j) ∧ (-(2 ^ 63) ≤ j ∧ j < 2 ^ 63) ∧ seqIndex? j xs.length = some n ∧ xs[n]? = some d ∧ P (d, false) (chg e1 i (.lst (xs.eraseIdx n))) := by
  unfold mPopAt
  simp only [okM_bind, okM_ownL]
  congr 1
  funext xs0
  congr 2
  funext k e1
  apply propext
  constructor
  · intro h
    unfold OkM at h
    dsimp only at h
    split at h
    · rename_i z
      split at z
      · rename_i q1 q2
        split at z
        · rename_i hz
          split at z
          · rename_i n q3
            split at z
            · rename_i d q4
              cases z
              exact ⟨_, _, _, _, q1, q2, hz, q3, q4, h⟩
            · cases z
          · cases z
        · cases z
      · cases z
    · exact h.elim
  · rintro ⟨xs, j, n, d, q1, q2, hz, q3, q4, h⟩
    unfold OkM
    simp only [q1, q2, if_pos hz, q3, q4]
    exact h
/-! statements -/
theorem OkS.mono {m : MS} {nx' : Env → Prop} {rt' : D → Bool → Env → Prop} {bk' ct' : Env → Prop} (h : OkS m e nx rt bk ct) (h1 : ∀ e, nx e → nx' e) (h2 : ∀ d fl e, rt d fl e → rt' d fl e) (h3 : ∀ e, bk e → bk' e) (h4 : ∀ e, ct e → ct' e) : OkS m e nx' rt' bk' ct' := by
  unfold OkS at *
  cases q : m e <;> rw [q] at h
  · exact h1 _ h
  · exact h2 _ _ _ h
  · exact h3 _ h
  · exact h4 _ h
  · exact h
  · exact h
@[simp] theorem okS_seq {m n : MS} : OkS (sSeq m n) e nx rt bk ct = OkS m e (fun e1 => OkS n e1 nx rt bk ct) rt bk ct := by
  unfold OkS sSeq
  cases m e <;> rfl
@[simp] theorem okS_nx : OkS sNx e nx rt bk ct = nx e := by unfold OkS sNx; rfl
@[simp] theorem okS_bad : OkS sBad e nx rt bk ct = False := by unfold OkS sBad; rfl
@[simp] theorem okS_bk : OkS (fun e => .bk e) e nx rt bk ct = bk e := by unfold OkS; rfl
@[simp] theorem okS_ct : OkS (fun e => .ct e) e nx rt bk ct = ct e := by unfold OkS; rfl
@[simp] theorem okS_rtN : OkS (fun e => .rt .non false e) e nx rt bk ct = rt .non false e := by unfold OkS; rfl
@[simp] theorem okS_of {m : M α} {f : α → MS} : OkS (sOf m f) e nx rt bk ct = OkM m e fun x e1 => OkS (f x) e1 nx rt bk ct := by
  unfold OkS OkM sOf
  cases m e <;> rfl
@[simp] theorem okS_expr {m : M (D × Bool)} : OkS (sExpr m) e nx rt bk ct = OkM m e fun _ e1 => nx e1 := by unfold sExpr; simp
@[simp] theorem okS_ret {m : M (D × Bool)} : OkS (sRet m) e nx rt bk ct = OkM m e fun x e1 => rt x.1 x.2 e1 := by
  unfold sRet
  rw [okS_of]
  congr 1
  funext x e1
  unfold OkS
  rfl
def retE (e : Env) (i : Nat) : Option (D × Bool × Env) := match e[i]? with
  | some (.fz d) => some (d, false, e)
  | some (.ow d) => some (d, true, e.set i .un)
  | _ => none
@[simp] theorem okS_retV {i : Nat} : OkS (sRetV i) e nx rt bk ct = ∃ z, retE e i = some z ∧ rt z.1 z.2.1 z.2.2 := by
  unfold OkS sRetV retE
  split <;> split <;> simp_all
@[simp] theorem okS_if {t : M Bool} {m n : MS} : OkS (sIf t m n) e nx rt bk ct = OkM t e fun b e1 => (b = true → OkS m e1 nx rt bk ct) ∧ (b = false → OkS n e1 nx rt bk ct) := by
  unfold sIf
  rw [okS_of]
  congr 1
  funext b e1
  cases b <;> simp
@[simp] theorem okS_put {i : Nat} {x : D × Bool} : OkS (sPut i x) e nx rt bk ct = ∃ e', setSl e i (slOf x.1 x.2) = some e' ∧ nx e' := by
  unfold OkS sPut
  cases q : setSl e i (slOf x.1 x.2) <;> simp [q]
@[simp] theorem okS_set {i : Nat} {m : M (D × Bool)} : OkS (sSet i m) e nx rt bk ct = OkM m e fun x e1 => ∃ e', setSl e1 i (slOf x.1 x.2) = some e' ∧ nx e' := by unfold sSet; simp
@[simp] theorem okS_G {g : Gt} {d : D} : OkS (sG g d) e nx rt bk ct = ∃ e', g d e = some e' ∧ nx e' := by
  unfold OkS sG
  cases q : g d e <;> simp [q]
@[simp] theorem okS_asg {m : M (D × Bool)} {g : Gt} : OkS (sAsg m g) e nx rt bk ct = OkM m e fun x e1 => ∃ e', g x.1 e1 = some e' ∧ nx e' := by unfold sAsg; simp
@[simp] theorem okS_par {i k : Nat} {m : M (List Hv)} : OkS (sPar i k m) e nx rt bk ct = OkM m e fun hs e1 => ∃ d d', hs = [.val d, .val d'] ∧ ∃ e2, setSl e1 i (.fz d) = some e2 ∧ ∃ e3, setSl e2 k (.fz d') = some e3 ∧ nx e3 := by
  unfold sPar
  rw [okS_of]
  congr 1
  funext hs e1
  apply propext
  constructor
  · intro h
    match hs, h with
    | [.val d, .val d'], h =>
      unfold OkS at h
      dsimp only at h
      cases q1 : setSl e1 i (.fz d) with
      | none => rw [q1] at h; exact h.elim
      | some e2 =>
        rw [q1] at h
        dsimp only at h
        cases q2 : setSl e2 k (.fz d') with
        | none => rw [q2] at h; exact h.elim
        | some e3 => rw [q2] at h; exact ⟨_, _, rfl, _, q1, _, q2, h⟩
    | [], h => unfold OkS at h; exact h.elim
    | [.val d], h => unfold OkS at h; exact h.elim
    | [.slot d], h => unfold OkS at h; exact h.elim
    | [.slot d, _], h => unfold OkS at h; exact h.elim
    | [.val d, .slot d'], h => unfold OkS at h; exact h.elim
    | x :: y :: _ :: _, h => unfold OkS at h; cases x <;> cases y <;> exact h.elim
  · rintro ⟨d, d', rfl, e2, h1, e3, h2, h⟩
    unfold OkS
    simp only [h1, h2]
    exact h
@[simp] theorem okS_setIx {i : Nat} {mv : M (D × Bool)} {mk : M Hv} : OkS (sSetIx i mv mk) e nx rt bk ct = OkM mv e fun v e1 => ∃ d0, look e1 i = some d0 ∧ OkM mk e1 fun k e2 => ∃ j xs n, k.fetch e2 = some (.int j) ∧ ownD e2 i = some (.lst xs) ∧ ixN xs.length j = some n ∧ nx (chg e2 i (.lst (xs.set n v.1))) := by
  unfold sSetIx
  simp only [okS_of, okM_bind, okM_slot, okM_pure]
  congr 1
  funext v e1
  congr 1
  funext d0
  congr 2
  funext k e2
  apply propext
  constructor
  · intro h
    unfold OkS at h
    dsimp only at h
    cases q1 : k.fetch e2 with
    | none => rw [q1] at h; exact h.elim
    | some d =>
      cases q2 : ownD e2 i with
      | none => rw [q1, q2] at h; cases d <;> exact h.elim
      | some d' =>
        rw [q1, q2] at h
        cases d with
        | int j =>
          cases d' with
          | lst xs =>
            dsimp only at h
            cases q3 : ixN xs.length j with
            | none => rw [q3] at h; exact h.elim
            | some n => rw [q3] at h; exact ⟨j, xs, n, rfl, rfl, q3, h⟩
          | _ => exact h.elim
        | _ => exact h.elim
  · rintro ⟨j, xs, n, q1, q2, q3, h⟩
    unfold OkS
    simp only [q1, q2, q3]
    exact h
@[simp] theorem okS_app {i : Nat} {mv : M (D × Bool)} : OkS (sApp i mv) e nx rt bk ct = ∃ xs0, ownD e i = some (.lst xs0) ∧ OkM mv e fun v e1 => ∃ xs, ownD e1 i = some (.lst xs) ∧ xs.length < LIM ∧ nx (chg e1 i (.lst (xs ++ [v.1]))) := by
  unfold sApp
  simp only [okS_of, okM_bind, okM_ownL]
  congr 1
  funext xs0
  congr 2
  funext v e1
  unfold OkS
  cases q : ownD e1 i with
  | none => simp [q]
  | some d =>
    cases d with
    | lst xs => by_cases z : xs.length < LIM <;> simp [z, q]
    | _ => simp [q]
@[simp] theorem okS_putF {n f i : Nat} {fl : Nat → List Nat} {mv : M (D × Bool)} : OkS (sPutF n fl f i mv) e nx rt bk ct = OkM mv e fun v e1 => ∃ d0, look e1 i = some d0 ∧ ∃ d, (ownD e1 i).bind (opPutF n fl f v.1) = some d ∧ nx (chg e1 i d) := by
  unfold sPutF
  simp only [okS_of, okM_bind, okM_slot, okM_pure]
  congr 1
  funext v e1
  congr 1
  funext d0
  congr 1
  unfold OkS
  cases q : (ownD e1 i).bind (opPutF n fl f v.1) <;> simp [q]
@[simp] theorem okS_for {mi : M (List D)} {g : Gt} {mb : MS} : OkS (sFor mi g mb) e nx rt bk ct = OkM mi e fun ds e1 => OkS (fLoop g mb ds) e1 nx rt bk ct := by unfold sFor; simp
theorem okS_loop_nil {g : Gt} {mb : MS} : OkS (fLoop g mb []) e nx rt bk ct = nx e := by unfold OkS fLoop; rfl
theorem okS_loop_cons {g : Gt} {mb : MS} {d : D} {ds : List D} : OkS (fLoop g mb (d :: ds)) e nx rt bk ct = ∃ e1, g d e = some e1 ∧ OkS mb e1 (fun e2 => OkS (fLoop g mb ds) e2 nx rt bk ct) rt nx (fun e2 => OkS (fLoop g mb ds) e2 nx rt bk ct) := by
  unfold OkS
  conv => lhs; unfold fLoop
  cases q : g d e with
  | none => simp
  | some e1 =>
    simp only [Option.some.injEq, exists_eq_left']
    cases q2 : mb e1 <;> rfl
/-- a loop by its invariant -/
theorem okS_loop {g : Gt} {mb : MS} {ds : List D} (I : Nat → Env → Prop) (h0 : I 0 e) (hs : ∀ (i : Nat) (d : D) (e : Env), ds[i]? = some d → I i e → ∃ e1, g d e = some e1 ∧ OkS mb e1 (I (i + 1)) rt nx (I (i + 1))) (hd : ∀ e, I ds.length e → nx e) : OkS (fLoop g mb ds) e nx rt bk ct := by
  induction ds generalizing e I with
  | nil => rw [okS_loop_nil]; exact hd e h0
  | cons d ds ih =>
    rw [okS_loop_cons]
    obtain ⟨e1, h1, h2⟩ := hs 0 d e rfl h0
    refine ⟨e1, h1, h2.mono (fun e2 z => ?_) (fun _ _ _ z => z) (fun _ z => z) (fun e2 z => ?_)⟩
    · exact ih (fun i => I (i + 1)) z (fun i d e hi hI => hs (i + 1) d e (by simpa using hi) hI) fun e he => hd e he
    · exact ih (fun i => I (i + 1)) z (fun i d e hi hI => hs (i + 1) d e (by simpa using hi) hI) fun e he => hd e he
/-- while by its invariant and measure -/
theorem okS_wloop {mt : M Bool} {mb : MS} (I : Env → Prop) (μ : Env → Nat) (hs : ∀ e, I e → OkM mt e fun b e1 => if b = true then OkS mb e1 (fun e2 => I e2 ∧ μ e2 < μ e) rt nx (fun e2 => I e2 ∧ μ e2 < μ e) else nx e1) : ∀ (n : Nat) (e : Env), μ e < n → I e → OkS (wLoop mt mb n) e nx rt bk ct := by
  intro n
  induction n with
  | zero => intro e h; omega
  | succ n ih =>
    intro e h hI
    obtain ⟨b, e1, h1, h2⟩ := (hs e hI).out
    unfold OkS
    unfold wLoop
    simp only [h1]
    cases b with
    | false => simpa using h2
    | true =>
      simp only [if_true] at h2
      unfold OkS at h2
      cases q : mb e1 with
      | nx e2 => rw [q] at h2; simp only [q]; have := ih e2 (by have := h2.2; omega) h2.1; unfold OkS at this; exact this
      | ct e2 => rw [q] at h2; simp only [q]; have := ih e2 (by have := h2.2; omega) h2.1; unfold OkS at this; exact this
      | rt d fl e2 => rw [q] at h2; simp only [q]; exact h2
      | bk e2 => rw [q] at h2; simp only [q]; exact h2
      | exc c ds e2 => rw [q] at h2; exact h2.elim
      | bad => rw [q] at h2; exact h2.elim
/-- a comprehension by its invariant: I i acc e -/
theorem okM_cloop {g : Gt} {mt : M Bool} {me : M (D × Bool)} {vs : List Nat} {ds : List D} {P : List D → Env → Prop} (I : Nat → List D → Env → Prop) (acc : List D) (h0 : I 0 acc e)
    (hs : ∀ (i : Nat) (d : D) (acc : List D) (e : Env), ds[i]? = some d → I i acc e → ∃ e1, g d e = some e1 ∧ OkM mt e1 fun b e2 => (b = true → OkM me e2 fun x e3 => I (i + 1) (acc ++ [x.1]) (wipeE e3 vs)) ∧ (b = false → I (i + 1) acc (wipeE e2 vs)))
    (hd : ∀ xs e, I ds.length (acc ++ xs) e → P xs e) : OkM (cLoop g mt me vs ds) e P := by
  induction ds generalizing e I acc P with
  | nil => unfold OkM cLoop; exact hd [] e (by simpa using h0)
  | cons d ds ih =>
    obtain ⟨e1, h1, h2⟩ := hs 0 d acc e rfl h0
    obtain ⟨b, e2, h3, h4, h5⟩ := h2.out
    unfold OkM cLoop
    simp only [h1, h3]
    cases b with
    | false =>
      have := ih (P := P) (fun i => I (i + 1)) acc (h5 rfl) (fun i d a e hi hI => hs (i + 1) d a e (by simpa using hi) hI) hd
      unfold OkM at this; exact this
    | true =>
      obtain ⟨x, e3, h6, h7⟩ := (h4 rfl).out
      simp only [h6]
      have := ih (P := fun xs e => P (x.1 :: xs) e) (fun i => I (i + 1)) (acc ++ [x.1]) h7 (fun i d a e hi hI => hs (i + 1) d a e (by simpa using hi) hI) (fun xs e hI => hd (x.1 :: xs) e (by simpa [List.append_assoc] using hI))
      unfold OkM at this
      cases q : cLoop g mt me vs ds (wipeE e3 vs) with
      | ok xs e4 => rw [q] at this; exact this
      | exc c ds e4 => rw [q] at this; exact this.elim
      | bad => rw [q] at this; exact this.elim
@[simp] theorem okM_lc {mi : M (List D)} {g : Gt} {mt : M Bool} {me : M (D × Bool)} {vs : List Nat} {P : D × Bool → Env → Prop} : OkM (mLc mi vs g mt me) e P = OkM mi e fun ds e1 => okV e1 vs = true ∧ ds.length ≤ LIM ∧ OkM (cLoop g mt me vs ds) (wipeE e1 vs) fun xs e2 => P (.lst xs, true) e2 := by
  unfold mLc
  rw [okM_bind]
  congr 1
  funext ds e1
  apply propext
  constructor
  · intro h
    obtain ⟨x, e', h1, h2⟩ := h.out
    split at h1
    · rename_i hz
      refine ⟨hz.1, hz.2, ?_⟩
      unfold OkM
      split at h1
      · rename_i q; rw [q]; cases h1; exact h2
      · cases h1
    · cases h1
  · rintro ⟨h1, h2, h3⟩
    obtain ⟨x, e', h4, h5⟩ := h3.out
    unfold OkM
    simp only [h1, h2, and_self, if_true, h4]
    exact h5
end
end DV
-- DvS
namespace DV
open PySem PySem.Spec PyProof.Rows L2
section
variable {α β : Type} {e e' : Env} {s t : Sl} {d d' : D} {i j : Nat}
/-! slots, computed -/
@[simp] theorem look_fz : look (.fz d :: e) 0 = some d := rfl
@[simp] theorem look_ow : look (.ow d :: e) 0 = some d := rfl
@[simp] theorem look_io : look (.io d :: e) 0 = some d := rfl
@[simp] theorem look_un : look (.un :: e) 0 = none := rfl
@[simp] theorem look_s : look (s :: e) (i + 1) = look e i := rfl
@[simp] theorem own_fz : ownD (.fz d :: e) 0 = none := rfl
@[simp] theorem own_ow : ownD (.ow d :: e) 0 = some d := rfl
@[simp] theorem own_io : ownD (.io d :: e) 0 = some d := rfl
@[simp] theorem own_un : ownD (.un :: e) 0 = none := rfl
@[simp] theorem own_s : ownD (s :: e) (i + 1) = ownD e i := rfl
@[simp] theorem chg_ow : chg (.ow d :: e) 0 d' = .ow d' :: e := rfl
@[simp] theorem chg_io : chg (.io d :: e) 0 d' = .io d' :: e := rfl
@[simp] theorem chg_s : chg (s :: e) (i + 1) d' = s :: chg e i d' := by
  unfold chg
  rw [List.getElem?_cons_succ]
  cases e[i]? with
  | none => rfl
  | some u => cases u <;> rfl
@[simp] theorem set_fz : setSl (.fz d :: e) 0 t = some (t :: e) := rfl
@[simp] theorem set_ow : setSl (.ow d :: e) 0 t = some (t :: e) := rfl
@[simp] theorem set_un : setSl (.un :: e) 0 t = some (t :: e) := rfl
@[simp] theorem set_s : setSl (s :: e) (i + 1) t = (setSl e i t).map (s :: ·) := by
  unfold setSl
  rw [List.getElem?_cons_succ]
  cases e[i]? with
  | none => rfl
  | some u => cases u <;> rfl
def Fr : Sl → Prop
  | .un => True
  | .fz _ => True
  | .ow _ => True
  | _ => False
@[simp] theorem fr_un : Fr .un := trivial
@[simp] theorem fr_fz : Fr (.fz d) := trivial
@[simp] theorem fr_ow : Fr (.ow d) := trivial
theorem set_fr (h : Fr s) : setSl (s :: e) 0 t = some (t :: e) := by
  cases s <;> first | rfl | exact h.elim
@[simp] theorem slOf_f : slOf d false = .fz d := rfl
@[simp] theorem slOf_t : slOf d true = .ow d := rfl
@[simp] theorem varE_fz : varE (.fz d :: e) 0 = some (d, .fz d :: e) := rfl
@[simp] theorem varE_ow : varE (.ow d :: e) 0 = some (d, .fz d :: e) := rfl
@[simp] theorem varE_s : varE (s :: e) (i + 1) = (varE e i).map fun z => (z.1, s :: z.2) := by
  unfold varE
  rw [List.getElem?_cons_succ]
  cases e[i]? with
  | none => rfl
  | some u => cases u <;> rfl
@[simp] theorem retE_fz : retE (.fz d :: e) 0 = some (d, false, .fz d :: e) := rfl
@[simp] theorem retE_ow : retE (.ow d :: e) 0 = some (d, true, .un :: e) := rfl
@[simp] theorem retE_s : retE (s :: e) (i + 1) = (retE e i).map fun z => (z.1, z.2.1, s :: z.2.2) := by
  unfold retE
  rw [List.getElem?_cons_succ]
  cases e[i]? with
  | none => rfl
  | some u => cases u <;> rfl
@[simp] theorem fetch_val : Hv.fetch (.val d) e = some d := rfl
@[simp] theorem fetch_slot : Hv.fetch (.slot i) e = look e i := rfl
@[simp] theorem fetchL_nil : fetchL e [] = some [] := rfl
@[simp] theorem fetchL_cons {h : Hv} {hs : List Hv} : fetchL e (h :: hs) = (h.fetch e).bind fun d => (fetchL e hs).map (d :: ·) := by
  conv => lhs; unfold fetchL
  cases h.fetch e <;> cases fetchL e hs <;> rfl
@[simp] theorem vo_nil : valsOnly [] = true := rfl
@[simp] theorem vo_cons {hs : List Hv} : valsOnly (.val d :: hs) = valsOnly hs := rfl
@[simp] theorem wipeE_nil : wipeE e [] = e := rfl
@[simp] theorem wipeE_cons {v : Nat} {vs : List Nat} : wipeE e (v :: vs) = (wipeE e vs).set v .un := rfl
@[simp] theorem okV_nil : okV e [] = true := rfl
def okS1 (e : Env) (v : Nat) : Bool := match e[v]? with | some (.io _) => false | some (.lk _) => false | _ => true
@[simp] theorem okV_cons {v : Nat} {vs : List Nat} : okV e (v :: vs) = (okS1 e v && okV e vs) := rfl
@[simp] theorem okS1_s : okS1 (s :: e) (i + 1) = okS1 e i := rfl
@[simp] theorem okS1_un : okS1 (.un :: e) 0 = true := rfl
@[simp] theorem okS1_fz : okS1 (.fz d :: e) 0 = true := rfl
@[simp] theorem okS1_ow : okS1 (.ow d :: e) 0 = true := rfl
theorem okS1_fr (h : Fr s) : okS1 (s :: e) 0 = true := by cases s <;> first | rfl | exact h.elim
@[simp] theorem gPut_eq : gPut i d e = setSl e i (.fz d) := rfl
@[simp] theorem gNil_eq : gsNil [] e = some e := rfl
@[simp] theorem gCons_eq {g : Gt} {gs : List D → Env → Option Env} {ds : List D} : gsCons g gs (d :: ds) e = (g d e).bind (gs ds) := rfl
@[simp] theorem gTup_eq {gs : List D → Env → Option Env} {k : Nat} {ds : List D} : gTupD gs k (.tup ds) e = if ds.length = k then gs ds e else none := rfl
/-! operators, computed -/
section
variable {a b : Int} {xs ys : List D}
@[simp] theorem add_int : opAdd (.int a) (.int b) = some (.int (a + b), false) := rfl
@[simp] theorem add_lst : opAdd (.lst xs) (.lst ys) = if xs.length + ys.length ≤ LIM then some (.lst (xs ++ ys), true) else none := rfl
@[simp] theorem sub_int : opSub (.int a) (.int b) = some (.int (a - b), false) := rfl
theorem mul_int : opMul (.int a) (.int b) = if bigOk a b || smW a || smW b then some (.int (a * b), false) else none := rfl
theorem mul_l (h : -(2 ^ 64) < a ∧ a < 2 ^ 64) : opMul (.int a) (.int b) = some (.int (a * b), false) := by
  rw [mul_int, show smW a = true by unfold smW; exact decide_eq_true h]; simp
theorem mul_r (h : -(2 ^ 64) < b ∧ b < 2 ^ 64) : opMul (.int a) (.int b) = some (.int (a * b), false) := by
  rw [mul_int, show smW b = true by unfold smW; exact decide_eq_true h]; simp
theorem mod_int (h : 0 < b) : opMod (.int a) (.int b) = some (.int (a % b), false) := by
  show (if 0 < b then _ else _) = _
  rw [if_pos h]
theorem div_int (h : 0 < b) (h2 : b < 2 ^ 1000) : opDiv (.int a) (.int b) = some (.int (a / b), false) := by
  have hz : b.natAbs.log2 < 9000 := by
    by_cases z : b.natAbs = 0
    · rw [z]; decide
    · have h3 : b.natAbs < 2 ^ 1000 := by omega
      have := (Nat.log2_lt z).mpr h3
      omega
  show (if 0 < b ∧ b.natAbs.log2 < 9000 then _ else _) = _
  rw [if_pos ⟨h, hz⟩]
@[simp] theorem neg_int : opNeg (.int a) = some (.int (-a), false) := rfl
theorem ix_lst : opIx (.lst xs) (.int a) = (atI xs a).map fun d => (d, false) := rfl
theorem ix_tup : opIx (.tup xs) (.int a) = (atI xs a).map fun d => (d, false) := rfl
theorem ix_at (h : xs[i]? = some d) : opIx (.lst xs) (.int (i : Int)) = some (d, false) := by rw [ix_lst, atI_nat h]; rfl
theorem ix_atT (h : xs[i]? = some d) : opIx (.tup xs) (.int (i : Int)) = some (d, false) := by rw [ix_tup, atI_nat h]; rfl
@[simp] theorem ix_0 : opIx (.lst (d :: xs)) (.int 0) = some (d, false) := ix_at (i := 0) rfl
@[simp] theorem ix_0T : opIx (.tup (d :: xs)) (.int 0) = some (d, false) := ix_atT (i := 0) rfl
@[simp] theorem ix_1 {d0 : D} : opIx (.lst (d0 :: d :: xs)) (.int 1) = some (d, false) := ix_at (i := 1) rfl
@[simp] theorem ix_2 {d0 d1 : D} : opIx (.lst (d0 :: d1 :: d :: xs)) (.int 2) = some (d, false) := ix_at (i := 2) rfl
@[simp] theorem ix_3 {d0 d1 d2 : D} : opIx (.lst (d0 :: d1 :: d2 :: d :: xs)) (.int 3) = some (d, false) := ix_at (i := 3) rfl
@[simp] theorem ix_4 {d0 d1 d2 d3 : D} : opIx (.lst (d0 :: d1 :: d2 :: d3 :: d :: xs)) (.int 4) = some (d, false) := ix_at (i := 4) rfl
@[simp] theorem ix_5 {d0 d1 d2 d3 d4 : D} : opIx (.lst (d0 :: d1 :: d2 :: d3 :: d4 :: d :: xs)) (.int 5) = some (d, false) := ix_at (i := 5) rfl
@[simp] theorem f1_eq {f : D → Option (D × Bool)} : f1 f [d] = f d := rfl
@[simp] theorem f2_eq {f : D → D → Option (D × Bool)} : f2 f [d, d'] = f d d' := rfl
@[simp] theorem len_lst : oLen (.lst xs) = some (.int xs.length, false) := rfl
@[simp] theorem len_tup : oLen (.tup xs) = some (.int xs.length, false) := rfl
@[simp] theorem int_int : oInt (.int a) = some (.int a, false) := rfl
@[simp] theorem int_bl {k : Bool} : oInt (.bl k) = some (.int (if k then 1 else 0), false) := rfl
@[simp] theorem list_lst : oList (.lst xs) = some (.lst xs, true) := rfl
@[simp] theorem list_tup : oList (.tup xs) = some (.lst xs, true) := rfl
@[simp] theorem tuple_lst : oTuple (.lst xs) = some (.tup xs, false) := rfl
@[simp] theorem tuple_tup : oTuple (.tup xs) = some (.tup xs, false) := rfl
@[simp] theorem min2_int : oMin2 (.int a) (.int b) = some (.int (if b < a then b else a), false) := rfl
@[simp] theorem max2_int : oMax2 (.int a) (.int b) = some (.int (if b > a then b else a), false) := rfl
@[simp] theorem items_lst : items (.lst xs) = some xs := rfl
@[simp] theorem items_tup : items (.tup xs) = some xs := rfl
@[simp] theorem eq_int : cEq (.int a) (.int b) = some (decide (a = b)) := by
  simp [cEq, eqPy, toPy]
@[simp] theorem ne_int : cNe (.int a) (.int b) = some (decide (a ≠ b)) := by
  unfold cNe; rw [eq_int]; simp
@[simp] theorem lt_int : cLt (.int a) (.int b) = some (decide (a < b)) := rfl
@[simp] theorem le_int : cLe (.int a) (.int b) = some (decide (a ≤ b)) := rfl
@[simp] theorem gt_int : cGt (.int a) (.int b) = some (decide (b < a)) := rfl
@[simp] theorem ge_int : cGe (.int a) (.int b) = some (decide (b ≤ a)) := rfl
@[simp] theorem is_non : cIs d .non = some (isNone d) := rfl
@[simp] theorem isNot_non : cIsNot d .non = some (!isNone d) := rfl
@[simp] theorem isNone_non : isNone .non = true := rfl
@[simp] theorem isNone_int : isNone (.int a) = false := rfl
@[simp] theorem isNone_lst : isNone (.lst xs) = false := rfl
@[simp] theorem isNone_tup : isNone (.tup xs) = false := rfl
@[simp] theorem tru_bl {k : Bool} : tru (.bl k) = some k := rfl
@[simp] theorem tru_int : tru (.int a) = some (decide (a ≠ 0)) := by
  simp [tru]
  try rfl
@[simp] theorem opNot_bl {k : Bool} : opNot (.bl k) = some (.bl (!k), false) := rfl
end
/-! calls -/
theorem posS_vals : ∀ {ds : List D} {i : Nat}, posS (ds.map Hv.val) i = none
  | [], i => rfl
  | d :: ds, i => by
    show (posS (ds.map Hv.val) i).map _ = none
    rw [posS_vals]; rfl
theorem nodS_vals : ∀ {ds : List D}, nodS (ds.map Hv.val) = true
  | [] => rfl
  | d :: ds => nodS_vals (ds := ds)
theorem argSl_vals : ∀ {ds : List D}, argSl e (ds.map Hv.val) = some (ds.map Sl.fz)
  | [] => rfl
  | d :: ds => by
    show (argSl e (ds.map Hv.val)).map _ = _
    rw [argSl_vals]; rfl
theorem mapI_id {f : Nat → Sl → Sl} : ∀ {e : Env} {k : Nat}, (∀ i s, e[i]? = some s → f (k + i) s = s) → mapI f k e = e
  | [], k, h => rfl
  | s :: e, k, h => by
    unfold mapI
    have h0 : f k s = s := h 0 s rfl
    rw [h0, mapI_id fun i t q => by rw [show k + 1 + i = k + (i + 1) by omega]; exact h (i + 1) t (by simpa using q)]
theorem back_vals {ds : List D} : backE (ds.map Hv.val) e' e = e := mapI_id fun i s _ => by unfold backF; rw [posS_vals]
theorem okM_run {nN nP : Nat} {mb : MS} {hs : List Hv} {P : D × Bool → Env → Prop} : OkM (mRun nN nP mb hs) e P = ∃ sl, argSl e hs = some sl ∧ (nodS hs = true ∧ hs.length = nP) ∧ OkS mb (sl ++ List.replicate (nN - sl.length) .un) (fun e' => P (.non, false) (backE hs e' e)) (fun d fl e' => P (d, fl) (backE hs e' e)) (fun _ => False) (fun _ => False) := by
  apply propext
  constructor
  · intro h
    unfold OkM mRun at h
    cases q1 : argSl e hs with
    | none => rw [q1] at h; exact h.elim
    | some sl =>
      rw [q1] at h
      dsimp only at h
      by_cases z : nodS hs = true ∧ hs.length = nP
      · rw [if_pos z] at h
        refine ⟨sl, rfl, z, ?_⟩
        unfold OkS
        cases q2 : mb (sl ++ List.replicate (nN - sl.length) .un) <;> rw [q2] at h <;> exact h
      · rw [if_neg z] at h; exact h.elim
  · rintro ⟨sl, q1, z, h⟩
    unfold OkM mRun
    simp only [q1, if_pos z]
    unfold OkS at h
    cases q2 : mb (sl ++ List.replicate (nN - sl.length) .un) <;> rw [q2] at h <;> simp only [q2] <;> exact h
theorem run_vals {nN : Nat} {mb : MS} (ds : List D) {P : D × Bool → Env → Prop} (h : OkS mb (ds.map Sl.fz ++ List.replicate (nN - ds.length) .un) (fun _ => P (.non, false) e) (fun d fl _ => P (d, fl) e) (fun _ => False) (fun _ => False)) : OkM (mRun nN ds.length mb (ds.map Hv.val)) e P := by
  rw [okM_run]
  refine ⟨_, argSl_vals, ⟨nodS_vals, List.length_map _⟩, ?_⟩
  rw [List.length_map]
  exact h.mono (fun e' z => by rw [back_vals]; exact z) (fun d fl e' z => by rw [back_vals]; exact z) (fun _ z => z) fun _ z => z
theorem back_io {ds : List D} (h : ownD e i = some d) (h' : e'[0]? = some (.io d')) : backE (.slot i :: ds.map Hv.val) e' e = chg e i d' := by
  apply List.ext_getElem?
  intro k
  rw [backE_get]
  have ps : posS (.slot i :: ds.map Hv.val) k = if i = k then some 0 else none := by
    unfold posS
    rw [posS_vals]; rfl
  unfold ownD at h
  unfold chg
  by_cases z : i = k
  · subst z
    cases q : e[i]? with
    | none => rw [q] at h; cases h
    | some s =>
      rw [q] at h
      cases s with
      | ow x =>
        dsimp only
        rw [List.getElem?_set_self (lt_of_get q)]
        show some (backF _ _ _ _) = _
        unfold backF
        rw [ps, if_pos rfl]
        dsimp only
        rw [h']; rfl
      | io x =>
        dsimp only
        rw [List.getElem?_set_self (lt_of_get q)]
        show some (backF _ _ _ _) = _
        unfold backF
        rw [ps, if_pos rfl]
        dsimp only
        rw [h']; rfl
      | _ => cases h
  · have e1 : (match e[i]? with | some (Sl.io d) => List.set e i (Sl.io d') | x => List.set e i (Sl.ow d'))[k]? = e[k]? := by
      cases e[i]? with
      | none => exact List.getElem?_set_ne z
      | some u => cases u <;> exact List.getElem?_set_ne z
    refine Eq.trans ?_ e1.symm
    cases q : e[k]? with
    | none => rfl
    | some s =>
      show some (backF _ _ _ _) = _
      unfold backF
      rw [ps, if_neg z]
theorem run_io {nN : Nat} {mb : MS} (i : Nat) (d : D) (ds : List D) {P : D × Bool → Env → Prop} (ho : ownD e i = some d)
    (h : OkS mb (.io d :: (ds.map Sl.fz ++ List.replicate (nN - (ds.length + 1)) .un)) (fun e' => ∃ d', e'[0]? = some (.io d') ∧ P (.non, false) (chg e i d')) (fun r fl e' => ∃ d', e'[0]? = some (.io d') ∧ P (r, fl) (chg e i d')) (fun _ => False) (fun _ => False)) :
    OkM (mRun nN (ds.length + 1) mb (.slot i :: ds.map Hv.val)) e P := by
  rw [okM_run]
  refine ⟨.io d :: ds.map Sl.fz, ?_, ⟨?_, by simp⟩, ?_⟩
  · show (match ownD e i with | some d => _ | none => _) = _
    rw [ho]
    show (argSl e (ds.map Hv.val)).map _ = _
    rw [argSl_vals]; rfl
  · show ((posS (ds.map Hv.val) i).isNone && nodS (ds.map Hv.val)) = true
    rw [posS_vals, nodS_vals]; rfl
  · rw [List.length_cons, List.length_map]
    refine h.mono (fun e' ⟨d', q, z⟩ => ?_) (fun r fl e' ⟨d', q, z⟩ => ?_) (fun _ z => z) fun _ z => z
    · rw [back_io ho q]; exact z
    · rw [back_io ho q]; exact z
end
end DV
namespace DV
open PySem PySem.Spec PyProof.Rows L2
theorem split_dec {p A B : Prop} [Decidable p] (h1 : p → A) (h2 : ¬ p → B) : (decide p = true → A) ∧ (decide p = false → B) := ⟨fun h => h1 (of_decide_eq_true h), fun h => h2 (of_decide_eq_false h)⟩
theorem split_neg {b : Bool} {A B : Prop} (h : (b = true → B) ∧ (b = false → A)) : ((!b) = true → A) ∧ ((!b) = false → B) := by
  cases b
  · exact ⟨fun _ => h.2 rfl, fun z => by cases z⟩
  · exact ⟨fun z => (by cases z), fun _ => h.1 rfl⟩
theorem split_T {A B : Prop} (h : A) : (true = true → A) ∧ (true = false → B) := ⟨fun _ => h, fun z => by cases z⟩
theorem split_F {A B : Prop} (h : B) : (false = true → A) ∧ (false = false → B) := ⟨fun z => (by cases z), fun _ => h⟩
theorem smI_of {j : Int} (h : -(2 ^ 62) ≤ j ∧ j < 2 ^ 62) : smI j = true := by unfold smI; exact decide_eq_true h
/-! operators with a guard -/
inductive GMod (b : Int) : Prop | mk (h : 0 < b)
inductive GMul (a b : Int) : Prop | l (h : -(2 ^ 64) < a ∧ a < 2 ^ 64) | r (h : -(2 ^ 64) < b ∧ b < 2 ^ 64)
inductive GDiv (b : Int) : Prop | mk (h : 0 < b ∧ b < 2 ^ 900)
inductive GPow (a b : Int) : Prop | mk (h : 0 ≤ b ∧ b ≤ 1000000 ∧ -(2 ^ 63) < a ∧ a < 2 ^ 63)
inductive GLen (n : Nat) : Prop | mk (h : n ≤ LIM)
section
variable {α β : Type} {e e' : Env} {P : D × Bool → Env → Prop} {ma mb : M Hv}
theorem okM_mod (h : OkM ma e fun h e1 => OkM mb e1 fun k e2 => ∃ a, h.fetch e2 = some (.int a) ∧ ∃ b, k.fetch e2 = some (.int b) ∧ GMod b ∧ P (.int (a % b), false) e2) : OkM (mBin opMod ma mb) e P := by
  rw [okM_bin]
  exact h.mono fun h e1 z => z.mono fun k e2 ⟨a, h1, b, h2, ⟨g⟩, p⟩ => ⟨_, h1, _, h2, _, mod_int g, p⟩
theorem okM_mul (h : OkM ma e fun h e1 => OkM mb e1 fun k e2 => ∃ a, h.fetch e2 = some (.int a) ∧ ∃ b, k.fetch e2 = some (.int b) ∧ GMul a b ∧ P (.int (a * b), false) e2) : OkM (mBin opMul ma mb) e P := by
  rw [okM_bin]
  exact h.mono fun h e1 z => z.mono fun k e2 ⟨a, h1, b, h2, g, p⟩ => ⟨_, h1, _, h2, _, (by cases g with | l h => exact mul_l h | r h => exact mul_r h), p⟩
theorem okM_div (h : OkM ma e fun h e1 => OkM mb e1 fun k e2 => ∃ a, h.fetch e2 = some (.int a) ∧ ∃ b, k.fetch e2 = some (.int b) ∧ GDiv b ∧ P (.int (a / b), false) e2) : OkM (mBin opDiv ma mb) e P := by
  rw [okM_bin]
  exact h.mono fun h e1 z => z.mono fun k e2 ⟨a, h1, b, h2, ⟨g⟩, p⟩ => ⟨_, h1, _, h2, _, div_int g.1 (by have := g.2; omega), p⟩
theorem okM_pow (h : OkM ma e fun h e1 => OkM mb e1 fun k e2 => ∃ a, h.fetch e2 = some (.int a) ∧ ∃ b, k.fetch e2 = some (.int b) ∧ GPow a b ∧ P (.int (a ^ b.toNat), false) e2) : OkM (mBin opPow ma mb) e P := by
  rw [okM_bin]
  refine h.mono fun h e1 z => z.mono fun k e2 ⟨a, h1, b, h2, ⟨g⟩, p⟩ => ⟨_, h1, _, h2, _, ?_, p⟩
  show (if 0 ≤ b ∧ b ≤ 1000000 ∧ a.natAbs < 2 ^ 64 then _ else _) = _
  rw [if_pos ⟨g.1, g.2.1, by omega⟩]
theorem okM_ix (h : OkM ma e fun h e1 => OkM mb e1 fun k e2 => ∃ d, h.fetch e2 = some d ∧ ∃ d', k.fetch e2 = some d' ∧ ∃ r, opIx d d' = some (r, false) ∧ P (r, false) e2) : OkM (mBin opIx ma mb) e P := by
  rw [okM_bin]
  exact h.mono fun h e1 z => z.mono fun k e2 ⟨a, h1, b, h2, r, g, p⟩ => ⟨_, h1, _, h2, _, g, p⟩
/-! stores, the slots in normal form -/
def SetK (e : Env) (i : Nat) (s : Sl) (nx : Env → Prop) : Prop := ∃ e', setSl e i s = some e' ∧ nx e'
def ChgK (e : Env) (i : Nat) (d : D) (nx : Env → Prop) : Prop := nx (chg e i d)
variable {nx : Env → Prop} {rt : D → Bool → Env → Prop} {bk ct : Env → Prop} {i : Nat} {s : Sl} {d : D}
theorem setK_i {e1 : Env} (h : setSl e i s = some e1) (k : nx e1) : SetK e i s nx := ⟨e1, h, k⟩
theorem chgK_i {e1 : Env} (h : chg e i d = e1) (k : nx e1) : ChgK e i d nx := by unfold ChgK; rw [h]; exact k
theorem okS_setW {m : M (D × Bool)} (h : OkM m e fun x e1 => SetK e1 i (slOf x.1 x.2) nx) : OkS (sSet i m) e nx rt bk ct := by rw [okS_set]; exact h
def setIxD (v : D) : D → D → Option D
  | .int j, .lst xs => (ixN xs.length j).map fun n => D.lst (xs.set n v)
  | _, _ => none
theorem okS_setIxW {mv : M (D × Bool)} {mk : M Hv} (h : OkM mv e fun v e1 => ∃ d0, look e1 i = some d0 ∧ OkM mk e1 fun k e2 => ∃ d1, k.fetch e2 = some d1 ∧ ∃ d2, ownD e2 i = some d2 ∧ ∃ r, setIxD v.1 d1 d2 = some r ∧ ChgK e2 i r nx) : OkS (sSetIx i mv mk) e nx rt bk ct := by
  rw [okS_setIx]
  refine h.mono fun v e1 ⟨d0, h0, h⟩ => ⟨d0, h0, h.mono fun k e2 ⟨d1, h1, d2, h2, r, h3, h4⟩ => ?_⟩
  cases d1 with
  | int j =>
    cases d2 with
    | lst xs =>
      obtain ⟨n, h5, rfl⟩ := Option.map_eq_some_iff.mp h3
      exact ⟨j, xs, n, h1, h2, h5, h4⟩
    | _ => cases h3
  | _ => cases h3
theorem okS_appW {mv : M (D × Bool)} (h : ∃ d0, ownD e i = some d0 ∧ (∃ xs0, d0 = .lst xs0) ∧ OkM mv e fun v e1 => ∃ d1, ownD e1 i = some d1 ∧ ∃ xs, d1 = .lst xs ∧ GLen (xs.length + 1) ∧ ChgK e1 i (.lst (xs ++ [v.1])) nx) : OkS (sApp i mv) e nx rt bk ct := by
  rw [okS_app]
  obtain ⟨d0, h0, ⟨xs0, rfl⟩, h⟩ := h
  refine ⟨xs0, h0, h.mono fun v e1 ⟨d1, h1, xs, h2, ⟨g⟩, h3⟩ => ?_⟩
  subst h2
  exact ⟨xs, h1, by omega, h3⟩
theorem okS_putFW {n f : Nat} {fl : Nat → List Nat} {mv : M (D × Bool)} (h : OkM mv e fun v e1 => ∃ d0, look e1 i = some d0 ∧ ∃ d, (ownD e1 i).bind (opPutF n fl f v.1) = some d ∧ ChgK e1 i d nx) : OkS (sPutF n fl f i mv) e nx rt bk ct := by rw [okS_putF]; exact h
theorem okS_parW {j : Nat} {m : M (List Hv)} (h : OkM m e fun hs e1 => ∃ d d', hs = [.val d, .val d'] ∧ SetK e1 i (.fz d) fun e2 => SetK e2 j (.fz d') nx) : OkS (sPar i j m) e nx rt bk ct := by rw [okS_par]; exact h
theorem okM_popAtW {m : M Hv} {P : D × Bool → Env → Prop} (h : ∃ d0, ownD e i = some d0 ∧ (∃ xs0, d0 = .lst xs0) ∧ OkM m e fun k e1 => ∃ xs j n d, ownD e1 i = some (.lst xs) ∧ k.fetch e1 = some (.int j) ∧ (-(2 ^ 63) ≤ j ∧ j < 2 ^ 63) ∧ seqIndex? j xs.length = some n ∧ xs[n]? = some d ∧ ChgK e1 i (.lst (xs.eraseIdx n)) fun e2 => P (d, false) e2) : OkM (mPopAt i m) e P := by
  rw [okM_popAt]
  obtain ⟨d0, h0, ⟨xs0, rfl⟩, h⟩ := h
  exact ⟨xs0, h0, h⟩
end
end DV
-- DvT
namespace DV
open PySem PySem.Spec PyProof.Rows L2
/-! ### numbers in rows and tables -/
def dR (r : List Int) : D := .lst (r.map D.int)
def dM (m : List (List Int)) : D := .lst (m.map dR)
def tR (r : List Int) : D := .tup (r.map D.int)
def tM (m : List (List Int)) : D := .tup (m.map tR)
def dT (h w : Nat) (m : List (List Int)) : D := .lst [.int h, .int w, dM m]
def ent (r : List Int) (j : Nat) : Int := r.getD j 0
def row (m : List (List Int)) (i : Nat) : List Int := m.getD i []
theorem ent_lt {r : List Int} {j : Nat} (h : j < r.length) : r[j]? = some (ent r j) := by
  unfold ent; rw [List.getElem?_eq_getElem h, List.getD_eq_getElem?_getD, List.getElem?_eq_getElem h]; rfl
theorem row_lt {m : List (List Int)} {i : Nat} (h : i < m.length) : m[i]? = some (row m i) := by
  unfold row; rw [List.getElem?_eq_getElem h, List.getD_eq_getElem?_getD, List.getElem?_eq_getElem h]; rfl
theorem row_mem {m : List (List Int)} {i : Nat} (h : i < m.length) : row m i ∈ m := List.mem_of_getElem? (row_lt h)
/-- a row, in a list or a tuple -/
def SeqR (d : D) (r : List Int) : Prop := d = dR r ∨ d = tR r
def SeqI (d : D) (ds : List D) : Prop := d = .lst ds ∨ d = .tup ds
/-- a table's rows -/
def SeqM (d : D) (m : List (List Int)) : Prop := ∃ ds, SeqI d ds ∧ ds.length = m.length ∧ ∀ (i : Nat) (x : D) (r : List Int), ds[i]? = some x → m[i]? = some r → SeqR x r
theorem seqR_d {r : List Int} : SeqR (dR r) r := .inl rfl
theorem seqR_t {r : List Int} : SeqR (tR r) r := .inr rfl
theorem seqM_d {m : List (List Int)} : SeqM (dM m) m := ⟨_, .inl rfl, List.length_map _, fun i x r h1 h2 => by
  rw [List.getElem?_map, h2] at h1; cases h1; exact seqR_d⟩
theorem seqM_t {m : List (List Int)} : SeqM (tM m) m := ⟨_, .inr rfl, List.length_map _, fun i x r h1 h2 => by
  rw [List.getElem?_map, h2] at h1; cases h1; exact seqR_t⟩
theorem ix_row {d : D} {r : List Int} {j : Nat} (h : SeqR d r) (hj : j < r.length) : opIx d (.int (j : Int)) = some (.int (ent r j), false) := by
  rcases h with rfl | rfl
  · exact ix_at (by rw [List.getElem?_map, ent_lt hj]; rfl)
  · exact ix_atT (by rw [List.getElem?_map, ent_lt hj]; rfl)
theorem ix_mat {d : D} {m : List (List Int)} {i : Nat} (h : SeqM d m) (hi : i < m.length) : ∃ x, opIx d (.int (i : Int)) = some (x, false) ∧ SeqR x (row m i) := by
  obtain ⟨ds, hd, hl, hx⟩ := h
  have hi' : i < ds.length := by omega
  refine ⟨ds[i], ?_, hx i _ _ (List.getElem?_eq_getElem hi') (row_lt hi)⟩
  rcases hd with rfl | rfl
  · exact ix_at (List.getElem?_eq_getElem hi')
  · exact ix_atT (List.getElem?_eq_getElem hi')
theorem ix_dM {m : List (List Int)} {i : Nat} (hi : i < m.length) : opIx (dM m) (.int (i : Int)) = some (dR (row m i), false) := ix_at (by rw [List.getElem?_map, row_lt hi]; rfl)
theorem len_row {d : D} {r : List Int} (h : SeqR d r) : oLen d = some (.int r.length, false) := by
  rcases h with rfl | rfl <;> simp [dR, tR, oLen]
theorem len_mat {d : D} {m : List (List Int)} (h : SeqM d m) : oLen d = some (.int m.length, false) := by
  obtain ⟨ds, hd, hl, hx⟩ := h
  rcases hd with rfl | rfl <;> simp [oLen, hl]
theorem items_row {d : D} {r : List Int} (h : SeqR d r) : items d = some (r.map D.int) := by
  rcases h with rfl | rfl <;> rfl
theorem items_mat {d : D} {m : List (List Int)} (h : SeqM d m) : ∃ ds, items d = some ds ∧ ds.length = m.length ∧ ∀ (i : Nat) (x : D), ds[i]? = some x → ∃ r, m[i]? = some r ∧ SeqR x r := by
  obtain ⟨ds, hd, hl, hx⟩ := h
  refine ⟨ds, by rcases hd with rfl | rfl <;> rfl, hl, fun i x h1 => ?_⟩
  have hi : i < m.length := by have := lt_of_get h1; omega
  exact ⟨row m i, row_lt hi, hx i x _ h1 (row_lt hi)⟩
theorem rg_len {lo : Int} {n : Nat} : (rgD lo n).length = n := by simp [rgD]
theorem rg_get {lo : Int} {n i : Nat} {d : D} (h : (rgD lo n)[i]? = some d) : i < n ∧ d = .int (lo + i) := by
  unfold rgD at h
  rw [List.getElem?_map] at h
  cases q : (List.range n)[i]? with
  | none => rw [q] at h; cases h
  | some k =>
    rw [q] at h; cases h
    obtain ⟨h1, h2⟩ := List.getElem?_eq_some_iff.mp q
    rw [List.getElem_range] at h2
    subst h2
    exact ⟨by simpa using h1, rfl⟩
theorem rg0_get {n i : Nat} {d : D} (h : (rgD 0 n)[i]? = some d) : i < n ∧ d = .int (i : Int) := by
  obtain ⟨h1, h2⟩ := rg_get h
  exact ⟨h1, by rw [h2]; simp⟩
/-! ### comprehensions that leave the slots alone -/
section
variable {e : Env} {P : List D → Env → Prop} {g : Gt} {me : M (D × Bool)} {mt : M Bool} {vs : List Nat} {ds : List D}
theorem okM_mapI (F : Nat → D) (hs : ∀ (i : Nat) (d : D), ds[i]? = some d → ∃ e1, g d e = some e1 ∧ OkM me e1 fun x e3 => x.1 = F i ∧ wipeE e3 vs = e) (hd : P ((List.range ds.length).map F) e) : OkM (cLoop g mYes me vs ds) e P := by
  refine okM_cloop (fun i acc e' => e' = e ∧ acc = (List.range i).map F) [] ⟨rfl, rfl⟩ (fun i d acc e' hi ⟨h1, h2⟩ => ?_) fun xs e' ⟨h1, h2⟩ => ?_
  · subst h1 h2
    obtain ⟨e1, h3, h4⟩ := hs i d hi
    refine ⟨e1, h3, ?_⟩
    show OkM (M.pure true) e1 _
    rw [okM_pure]
    refine ⟨fun _ => h4.mono fun x e3 ⟨h5, h6⟩ => ⟨h6, ?_⟩, fun z => by cases z⟩
    rw [h5, List.range_succ, List.map_append]; rfl
  · subst h1
    rw [List.nil_append] at h2
    rw [h2]; exact hd
theorem okM_map (F : D → D) (hs : ∀ (d : D), d ∈ ds → ∃ e1, g d e = some e1 ∧ OkM me e1 fun x e3 => x.1 = F d ∧ wipeE e3 vs = e) (hd : P (ds.map F) e) : OkM (cLoop g mYes me vs ds) e P := by
  refine okM_cloop (fun i acc e' => e' = e ∧ acc = (ds.take i).map F) [] ⟨rfl, by simp⟩ (fun i d acc e' hi ⟨h1, h2⟩ => ?_) fun xs e' ⟨h1, h2⟩ => ?_
  · subst h1 h2
    obtain ⟨e1, h3, h4⟩ := hs d (List.mem_of_getElem? hi)
    refine ⟨e1, h3, ?_⟩
    show OkM (M.pure true) e1 _
    rw [okM_pure]
    refine ⟨fun _ => h4.mono fun x e3 ⟨h5, h6⟩ => ⟨h6, ?_⟩, fun z => by cases z⟩
    rw [h5, List.take_add_one, hi, List.map_append]; rfl
  · subst h1
    rw [List.nil_append, List.take_length] at h2
    rw [h2]; exact hd
theorem okM_filter (p : D → Bool) (F : D → D) (hs : ∀ (d : D), d ∈ ds → ∃ e1, g d e = some e1 ∧ OkM mt e1 fun b e2 => b = p d ∧ (b = true → OkM me e2 fun x e3 => x.1 = F d ∧ wipeE e3 vs = e) ∧ (b = false → wipeE e2 vs = e)) (hd : P ((ds.filter p).map F) e) : OkM (cLoop g mt me vs ds) e P := by
  refine okM_cloop (fun i acc e' => e' = e ∧ acc = ((ds.take i).filter p).map F) [] ⟨rfl, by simp⟩ (fun i d acc e' hi ⟨h1, h2⟩ => ?_) fun xs e' ⟨h1, h2⟩ => ?_
  · subst h1 h2
    obtain ⟨e1, h3, h4⟩ := hs d (List.mem_of_getElem? hi)
    refine ⟨e1, h3, h4.mono fun b e2 ⟨h5, h6, h7⟩ => ⟨fun z => (h6 z).mono fun x e3 ⟨h8, h9⟩ => ⟨h9, ?_⟩, fun z => ⟨h7 z, ?_⟩⟩⟩
    · rw [h8, List.take_add_one, hi, List.filter_append, List.map_append]
      show _ = _ ++ (List.filter p [d]).map F
      rw [List.filter_cons_of_pos (by rw [← h5]; exact z)]; rfl
    · rw [List.take_add_one, hi, List.filter_append, List.map_append]
      show _ = _ ++ (List.filter p [d]).map F
      rw [List.filter_cons_of_neg (by rw [← h5, z]; exact Bool.false_ne_true)]
      simp
  · subst h1
    rw [List.nil_append, List.take_length] at h2
    rw [h2]; exact hd
end
theorem LIM_eq : LIM = 16777216 := rfl
end DV
namespace DV
open PySem PySem.Spec PyProof.Rows L2
section
variable {e : Env} {P : D × Bool → Env → Prop} {nN : Nat} {mb : MS} {a b c d f : D}
theorem run_v1 (h : OkS mb (.fz a :: List.replicate (nN - 1) .un) (fun _ => P (.non, false) e) (fun d fl _ => P (d, fl) e) (fun _ => False) (fun _ => False)) : OkM (mRun nN 1 mb [.val a]) e P := run_vals [a] h
theorem run_v2 (h : OkS mb (.fz a :: .fz b :: List.replicate (nN - 2) .un) (fun _ => P (.non, false) e) (fun d fl _ => P (d, fl) e) (fun _ => False) (fun _ => False)) : OkM (mRun nN 2 mb [.val a, .val b]) e P := run_vals [a, b] h
theorem run_v3 (h : OkS mb (.fz a :: .fz b :: .fz c :: List.replicate (nN - 3) .un) (fun _ => P (.non, false) e) (fun d fl _ => P (d, fl) e) (fun _ => False) (fun _ => False)) : OkM (mRun nN 3 mb [.val a, .val b, .val c]) e P := run_vals [a, b, c] h
theorem run_v4 (h : OkS mb (.fz a :: .fz b :: .fz c :: .fz d :: List.replicate (nN - 4) .un) (fun _ => P (.non, false) e) (fun d fl _ => P (d, fl) e) (fun _ => False) (fun _ => False)) : OkM (mRun nN 4 mb [.val a, .val b, .val c, .val d]) e P := run_vals [a, b, c, d] h
variable {i : Nat} {j : D}
theorem run_i1 (ho : ownD e i = some j) (h : OkS mb (.io j :: List.replicate (nN - 1) .un) (fun e' => ∃ d', e'[0]? = some (.io d') ∧ P (.non, false) (chg e i d')) (fun r fl e' => ∃ d', e'[0]? = some (.io d') ∧ P (r, fl) (chg e i d')) (fun _ => False) (fun _ => False)) : OkM (mRun nN 1 mb [.slot i]) e P := run_io i j [] ho h
theorem run_i2 (ho : ownD e i = some j) (h : OkS mb (.io j :: .fz a :: List.replicate (nN - 2) .un) (fun e' => ∃ d', e'[0]? = some (.io d') ∧ P (.non, false) (chg e i d')) (fun r fl e' => ∃ d', e'[0]? = some (.io d') ∧ P (r, fl) (chg e i d')) (fun _ => False) (fun _ => False)) : OkM (mRun nN 2 mb [.slot i, .val a]) e P := run_io i j [a] ho h
theorem run_i3 (ho : ownD e i = some j) (h : OkS mb (.io j :: .fz a :: .fz b :: List.replicate (nN - 3) .un) (fun e' => ∃ d', e'[0]? = some (.io d') ∧ P (.non, false) (chg e i d')) (fun r fl e' => ∃ d', e'[0]? = some (.io d') ∧ P (r, fl) (chg e i d')) (fun _ => False) (fun _ => False)) : OkM (mRun nN 3 mb [.slot i, .val a, .val b]) e P := run_io i j [a, b] ho h
end
end DV
-- DvU
namespace DV
open PySem PySem.Spec PyProof.Rows L2
section
variable {e : Env} {P : D × Bool → Env → Prop}
theorem okM_lend {nN nP : Nat} {mb : MS} {dd : List D} {m : M (List Hv)} : OkM (mLend nN nP mb dd m) e P = OkM m e fun hs e1 => ∃ hs', lend e1 (hs ++ dd.map Hv.val) = some hs' ∧ OkM (mRun nN nP mb hs') (frzE e1) fun z _ => lone z.1 z.2 = true ∧ P z e1 := by
  unfold mLend
  rw [okM_bind]
  congr 1
  funext hs e1
  unfold OkM
  cases q : lend e1 (hs ++ dd.map Hv.val) with
  | none => simp [q]
  | some hs' =>
    simp only [q, Option.some.injEq, exists_eq_left']
    cases q2 : mRun nN nP mb hs' (frzE e1) with
    | ok z e2 =>
      obtain ⟨d, fl⟩ := z
      by_cases hl : lone d fl = true <;> simp [hl]
    | _ => simp
theorem okM_make {c nN nP : Nat} {mb : MS} {dd : List D} {m : M (List Hv)} : OkM (mMake c nN nP mb dd m) e P = OkM m e fun hs e1 => OkM (mRun nN nP mb (.slot e1.length :: (hs ++ dd.map Hv.val))) (e1 ++ [.ow (.obj c [])]) fun z e2 => z = (.non, false) ∧ ∃ d, e2[e1.length]? = some (.ow d) ∧ P (d, true) (e2.take e1.length) := by
  unfold mMake
  rw [okM_bind]
  congr 1
  funext hs e1
  unfold OkM
  cases q2 : mRun nN nP mb (.slot e1.length :: (hs ++ dd.map Hv.val)) (e1 ++ [.ow (.obj c [])]) with
  | ok z e2 =>
    obtain ⟨d, fl⟩ := z
    cases d with
    | non =>
      cases fl with
      | true => simp [q2]
      | false =>
        simp only [q2, true_and]
        cases q3 : e2[e1.length]? with
        | none => simp
        | some s => cases s <;> simp
    | _ => cases fl <;> simp [q2]
  | _ => simp [q2]
theorem okM_enumA {m : M (List Hv)} {P : List D → Env → Prop} : OkM (mEnumA m) e P = OkM m e fun hs e1 => ∃ d, hs = [.val d] ∧ ∃ xs, items d = some xs ∧ P (enumD 0 xs) e1 := by
  unfold mEnumA
  rw [okM_bind]
  congr 1
  funext hs e1
  apply propext
  constructor
  · intro h2
    split at h2
    · rw [okM_pure] at h2; exact ⟨_, rfl, _, rfl, h2⟩
    · rw [okM_pure] at h2; exact ⟨_, rfl, _, rfl, h2⟩
    · rw [okM_bad] at h2; exact h2.elim
  · rintro ⟨d, rfl, xs, h2, h3⟩
    cases d with
    | lst ys =>
      cases h2
      show OkM (M.pure _) e1 P
      rw [okM_pure]; exact h3
    | tup ys =>
      cases h2
      show OkM (M.pure _) e1 P
      rw [okM_pure]; exact h3
    | _ => cases h2
theorem okM_join {ma mb : M Hv} : OkM (mJoin ma mb) e P = OkM ma e fun h e1 => ∃ s, h.fetch e1 = some (.str s) ∧ OkM mb e1 fun k e2 => ∃ d, k.fetch e2 = some d ∧ ∃ z, opJoin (.str s) d = some z ∧ P z e2 := by
  unfold mJoin
  rw [okM_bind]
  congr 1
  funext h e1
  apply propext
  constructor
  · intro h2
    obtain ⟨x, e', h3, h4⟩ := h2.out
    split at h3
    · rename_i s q
      refine ⟨s, q, ?_⟩
      have : OkM (m1 mb fun d => pOut (opJoin (.str s) d)) e1 P := by unfold OkM; rw [h3]; exact h4
      rw [okM_1] at this
      simpa using this
    · cases h3
  · rintro ⟨s, q, h3⟩
    have : OkM (m1 mb fun d => pOut (opJoin (.str s) d)) e1 P := by
      rw [okM_1]
      simpa using h3
    unfold OkM at this ⊢
    simp only [q]
    exact this
theorem add_row {r s : List Int} (h : r.length + s.length ≤ LIM) : opAdd (dR r) (dR s) = some (dR (r ++ s), true) := by
  unfold dR
  rw [add_lst, if_pos (by simpa using h), List.map_append]
end
end DV
namespace DV
open PySem PySem.Spec PyProof.Rows L2
theorem split_ne {a b : Int} {A B : Prop} (h1 : a ≠ b → A) (h2 : a = b → B) : ((a != b) = true → A) ∧ ((a != b) = false → B) := ⟨fun h => h1 (by simpa using h), fun h => h2 (by simpa using h)⟩
theorem split_eqb {a b : Int} {A B : Prop} (h1 : a = b → A) (h2 : a ≠ b → B) : ((a == b) = true → A) ∧ ((a == b) = false → B) := ⟨fun h => h1 (by simpa using h), fun h => h2 (by simpa using h)⟩
end DV
-- DvW
namespace DV
open PySem PySem.Spec PyProof.Rows L2
section
variable {T : Tbl} {O O' : Addr → Prop} {σ σ1 σ2 σ' : St} {e e1 e2 e' : Env} {H H1 H2 H' : Hp} {P P' : Addr → Prop} {X : Cx} {W : WX} {a b c v : Expr} {ma mb mc : M Hv} {mt : M Bool} {pos : Pos} {x : Str} {es : List Expr} {p : Pos} {m n : MS} {st : Stmt} {sts : List Stmt}
/-! ### a list within a list, both of them new: made = [n, n, rows], rows written in place -/
structure Gh where
  O : Addr → Prop
  s0 : St
  e0 : Env
  H0 : Hp
  a : Addr
  b : Addr
  n : Nat
  rows : List (List Int)
def Gh.OO (g : Gh) : Addr → Prop := Or2 g.O fun c => c = g.a ∨ c = g.b
structure JN (T : Tbl) (g : Gh) (σ : St) (e : Env) (H : Hp) : Prop where
  j : J T g.OO σ e H
  t : Tr g.s0 g.e0 g.H0 σ e H
  un : e[2]? = some .un
  va : σ[2]? = some (some (.ref g.a))
  fa : g.H0 g.a = none
  fb : g.H0 g.b = none
  na : ¬ g.O g.a
  nb : ¬ g.O g.b
  ne : g.a ≠ g.b
  ha : H g.a = some (.lst [.int g.n, .int g.n, .ref g.b])
  hb : ∃ vs, H g.b = some (.lst vs) ∧ RepL T H (Or2 g.OO (Own σ e)) (g.rows.map dR) vs
theorem JN.noA {g : Gh} (k : JN T g σ e H) : ¬ Own σ e g.a := fun z => k.j.no _ z (.inr (.inl rfl))
theorem JN.noB {g : Gh} (k : JN T g σ e H) : ¬ Own σ e g.b := fun z => k.j.no _ z (.inr (.inr rfl))
theorem JN.step {g : Gh} (k : JN T g σ e H) (t : Tr σ e H σ' e' H') (j : J T g.OO σ' e' H') (hu : e'[2]? = some .un) (hv : σ'[2]? = σ[2]?) : JN T g σ' e' H' := by
  obtain ⟨vs, h1, h2⟩ := k.hb
  exact ⟨j, k.t.trans t, hu, hv.trans k.va, k.fa, k.fb, k.na, k.nb, k.ne, t.keep _ _ k.ha k.noA, vs, t.keep _ _ h1 k.noB, h2.mono (stmt_keep k.j t)⟩
theorem JN.grow {g : Gh} (k : JN T g σ e H) (hk : ∀ b o, H b = some o → H1 b = some o) : JN T g σ e H1 :=
  k.step ⟨fun b o q _ => hk b o q, fun b z => .inl z, fun b o q => ⟨o, hk b o q⟩, fun i d q => ⟨q, rfl, fun a o _ q => hk a o q⟩, fun i d q => ⟨d, q, rfl⟩⟩ (k.j.same hk) k.un rfl
def EO (X : Cx) (T : Tbl) (x : Expr) (m : M (D × Bool)) : Prop := PE X x (fun σ H Q => ∃ O, wpG T O W0 (RV T O σ) m σ H Q)
theorem eo_of {m : M (D × Bool)} (h : ∀ O, DE X W0 T O a m) : EO X T a m := ⟨fun pins s σ H Q I ⟨O, w⟩ => (h O).run pins s σ H Q I w⟩
/-- name = value -/
theorem nst_set (i : Nat) {me : M (D × Bool)} {pos' : Pos} (he : EO X T a me) (hi2 : i ≠ 2) (hN : X.N.Nodup) (hi : X.N[i]? = some x := by rfl) (hx : Loc X.env.scope x := by first | exact Or.inl rfl | exact Or.inr rfl) (hs : swapsWith a (some (.Name x pos')) pos.line X.env = pure false := by rfl) (hf : X.fn x = true ∨ X.env.scope.names.lookup x = some .local := by first | exact .inl rfl | exact .inr rfl | assumption) :
    PS X (.Assign [.Name x pos'] a pos) (fun D σ H => ∃ g e d e1 e2, JN T g σ e H ∧ me e = .ok (d, false) e1 ∧ setSl e1 i (.fz d) = some e2 ∧ e2[2]? = some .un ∧ ∀ σ' H', JN T g σ' e2 H' → D.nx σ' H') := by
  refine PS.of (ps_set hN hi hx he hs hf) fun D σ H ⟨g, e, d, e1, e2, k, hm, hs, hu, q⟩ => ?_
  refine ⟨g.OO, e, k.j, ?_⟩
  rw [hm]
  intro v H1 t nw r
  obtain ⟨j', t'⟩ := put_val (fl := false) t nw r hs
  exact q _ _ (k.step t' j' hu (List.getElem?_set_ne hi2))
/-- if -/
theorem nst_if {y z : List Stmt} {t1 t2 : TS} (ht : ∀ O, DT X W0 T O c mt) (h1 : PSs X y t1) (h2 : PSs X z t2) : PS X (.If c y z pos) (fun D σ H => ∃ g e b, JN T g σ e H ∧ mt e = .ok b e ∧ ∀ H1, JN T g σ e H1 → if b = true then t1 D σ H1 else t2 D σ H1) := by
  have hc : PT X c (fun σ H Q => ∃ O, wpG T O W0 (RB T O σ) mt σ H Q) := ⟨fun pins s σ H Q I ⟨O, w⟩ => (ht O).run pins s σ H Q I w⟩
  refine PS.of (ps_if hc h1 h2) fun D σ H ⟨g, e, b, k, hm, q⟩ => ⟨g.OO, e, k.j, ?_⟩
  rw [hm]
  intro v H1 t _ ⟨hv, j1⟩
  subst hv
  exact q H1 (k.step t j1 k.un rfl)
/-- values for a row: F e n rows r -/
def VN (X : Cx) (T : Tbl) (v : Expr) (F : Env → Nat → List (List Int) → List Int → Prop) : Prop := ∃ tv : TE, PE X v tv ∧ ∀ (g : Gh) (σ : St) (e : Env) (H : Hp) (r : List Int) (Q : VK), JN T g σ e H → F e g.n g.rows r → (∀ u H1, JN T g σ e H1 → Rep T H1 (Or2 g.OO (Own σ e)) (dR r) u → Q u H1) → tv σ H Q
/-- the rows themselves -/
theorem pe_rows {p1 p2 p3 : Pos} {jj : Nat} (hN : X.N[2]? = some x) (hv : Vis X.env.scope x) (hd : (x == ("__debug__" : Str)) = false) (hcd : (x == ("__classdict__" : Str)) = false) : PE X (.Subscript (.Name x p1) (.Constant (.int 2) jj p2) p3) (fun σ H Q => ∃ g e, JN T g σ e H ∧ Q (.ref g.b) H) := by
  refine PE.of (pe_ix ix_list (pe_var hN hv hd hcd) pe_int (fun _ _ => rfl)) fun σ H Q ⟨g, e, k, q⟩ => ?_
  exact ⟨_, k.va, g.a, _, 2, _, rfl, rfl, SqL.of k.ha, rfl, q⟩
/-- made[2][i] -/
theorem vn_row (i : Nat) {y : Str} {p1 p2 p3 p4 p5 : Pos} {jj : Nat} (hN : X.N[2]? = some x := by rfl) (hv : Vis X.env.scope x := by first | exact Or.inl rfl | exact Or.inr (Or.inl rfl) | exact Or.inr (Or.inr rfl)) (hd : (x == ("__debug__" : Str)) = false := by decide) (hcd : (x == ("__classdict__" : Str)) = false := by decide)
    (hN' : X.N[i]? = some y := by rfl) (hv' : Vis X.env.scope y := by first | exact Or.inl rfl | exact Or.inr (Or.inl rfl) | exact Or.inr (Or.inr rfl)) (hd' : (y == ("__debug__" : Str)) = false := by decide) (hcd' : (y == ("__classdict__" : Str)) = false := by decide) :
    VN X T (.Subscript (.Subscript (.Name x p1) (.Constant (.int 2) jj p2) p3) (.Name y p4) p5) (fun e n rows r => ∃ k : Nat, e[i]? = some (.fz (.int (k : Int))) ∧ rows[k]? = some r) := by
  refine ⟨_, pe_ix ix_list (pe_rows (T := T) hN hv hd hcd) (pe_var hN' hv' hd' hcd') (fun _ _ => rfl), fun g σ e H r Q k ⟨kk, h1, h2⟩ q => ⟨g, e, k, ?_⟩⟩
  obtain ⟨u, hu, ru⟩ := k.j.fz _ _ h1
  simp only [Rep] at ru
  subst ru
  obtain ⟨vs, h3, h4⟩ := k.hb
  obtain ⟨u, h5, h6⟩ := h4.get (i := kk) (x := dR r) (by rw [List.getElem?_map, h2]; rfl)
  have hat : L2.atI vs (kk : Int) = some u := by
    unfold L2.atI
    have hl := lt_of_get h5
    have : ixN vs.length (kk : Int) = some kk := by unfold ixN; simp; omega
    rw [this]; exact h5
  exact ⟨_, hu, g.b, vs, _, u, rfl, rfl, SqL.of h3, hat, q u H k h6⟩
/-- a name -/
theorem vn_var (i : Nat) {p4 : Pos} (hN' : X.N[i]? = some x := by rfl) (hv' : Vis X.env.scope x := by first | exact Or.inl rfl | exact Or.inr (Or.inl rfl) | exact Or.inr (Or.inr rfl)) (hd' : (x == ("__debug__" : Str)) = false := by decide) (hcd' : (x == ("__classdict__" : Str)) = false := by decide) :
    VN X T (.Name x p4) (fun e n rows r => e[i]? = some (.fz (dR r))) := by
  refine ⟨_, pe_var hN' hv' hd' hcd', fun g σ e H r Q k h1 q => ?_⟩
  obtain ⟨u, hu, ru⟩ := k.j.fz _ _ h1
  exact ⟨u, hu, q u H k ru⟩
/-- the view in which nothing is owned -/
def vwE (e : Env) (n : Nat) (rows : List (List Int)) : Env := (frzE e).set 2 (.fz (dT n n rows))
theorem JN.view {g : Gh} (k : JN T g σ e H) : J T g.O σ (vwE e g.n g.rows) H ∧ ∀ b, ¬ Own σ (vwE e g.n g.rows) b := by
  have j1 : J T g.O σ (frzE e) H := k.j.frz.less fun a z => .inl z
  have hs : setSl (frzE e) 2 (.fz (dT g.n g.n g.rows)) = some (vwE e g.n g.rows) := by
    unfold setSl
    rw [frzE_get, k.un]; rfl
  obtain ⟨vs, h1, h2⟩ := k.hb
  have nob : ¬ Or2 g.O (Own σ (frzE e)) g.b := fun z => by
    rcases z with z | z
    · exact k.nb z
    · exact frz_own z
  have noa : ¬ Or2 g.O (Own σ (frzE e)) g.a := fun z => by
    rcases z with z | z
    · exact k.na z
    · exact frz_own z
  have r2 : RepL T H (Or2 g.O (Own σ (frzE e))) (g.rows.map dR) vs := h2.mono fun b o n q => ⟨q, fun z => by
    rcases z with z | z
    · exact n (.inl (.inl z))
    · exact frz_own z⟩
  have r : Rep T H (Or2 g.O (Own σ (frzE e))) (dT g.n g.n g.rows) (.ref g.a) := by
    unfold dT dM
    simp only [Rep]
    refine ⟨g.a, _, rfl, noa, k.ha, RepL.cons (by simp only [Rep]) (RepL.cons (by simp only [Rep]) (RepL.cons ?_ RepL.nil))⟩
    simp only [Rep]
    exact ⟨g.b, vs, rfl, nob, h1, r2⟩
  have j2 := (j1.put_fz hs r).1
  have es : σ.set 2 (some (.ref g.a)) = σ := by
    apply List.ext_getElem?
    intro i
    rw [List.getElem?_set]
    by_cases hi : 2 = i
    · subst hi
      rw [if_pos rfl, if_pos (lt_of_get k.va)]; exact k.va.symm
    · rw [if_neg hi]
  rw [es] at j2
  refine ⟨j2, fun b ⟨i, s, d, h1, h2, h3⟩ => ?_⟩
  unfold vwE at h1
  rcases get_set h1 with ⟨_, rfl⟩ | ⟨_, q⟩
  · cases h2
  · exact frz_own ⟨i, s, d, q, h2, h3⟩
/-- a value that is told in that view: a new row -/
theorem vn_de {me : M (D × Bool)} (he : ∀ O, DE X W0 T O v me) : VN X T v (fun e n rows r => ∃ e1, me (vwE e n rows) = .ok (dR r, true) e1) := by
  refine ⟨_, eo_of he, fun g σ e H r Q k ⟨e1, hm⟩ q => ?_⟩
  obtain ⟨jv, no⟩ := k.view
  refine ⟨g.O, _, jv, ?_⟩
  rw [hm]
  intro u H1 t nw rv
  obtain ⟨c, rfl, nO, j1, oa⟩ := rv
  have hk : ∀ b o, H b = some o → H1 b = some o := fun b o q => t.keep b o q (no b)
  have hc : H c = none := nw c ⟨rfl, rfl⟩
  refine q _ H1 (k.grow hk) ?_
  obtain ⟨vs, h1, h2⟩ := oa
  have hcn : ¬ Or2 g.OO (Own σ e) c := fun z => by
    rcases z with z | z
    · obtain ⟨o, ho⟩ := k.j.dom c z
      rw [hc] at ho; cases ho
    · obtain ⟨i, s, d, g1, g2, g3⟩ := z
      obtain ⟨a', ha', oa'⟩ := k.j.ow i s d g1 g2
      rw [g3] at ha'; cases ha'
      obtain ⟨o, ho⟩ := oa'.there
      rw [hc] at ho; cases ho
  unfold dR
  simp only [Rep]
  exact ⟨c, vs, rfl, hcn, h1, atom_repL (by simp [atom]) h2⟩
/-- made[2][i] = v -/
theorem nst_put (i : Nat) {y : Str} {F : Env → Nat → List (List Int) → List Int → Prop} {p1 p2 p3 p4 p5 : Pos} {jj : Nat} (hv : VN X T v F) (hN : X.N[2]? = some x := by rfl) (hvi : Vis X.env.scope x := by first | exact Or.inl rfl | exact Or.inr (Or.inl rfl) | exact Or.inr (Or.inr rfl)) (hd : (x == ("__debug__" : Str)) = false := by decide) (hcd : (x == ("__classdict__" : Str)) = false := by decide)
    (hN' : X.N[i]? = some y := by rfl) (hv' : Vis X.env.scope y := by first | exact Or.inl rfl | exact Or.inr (Or.inl rfl) | exact Or.inr (Or.inr rfl)) (hd' : (y == ("__debug__" : Str)) = false := by decide) (hcd' : (y == ("__classdict__" : Str)) = false := by decide)
    (ha : ∀ u, assign (.Subscript (.Subscript (.Name x p1) (.Constant (.int 2) jj p2) p3) (.Name y p4) p5) X.env u = (do
      let ov ← holding [u] (eval (.Subscript (.Name x p1) (.Constant (.int 2) jj p2) p3) X.env)
      let iv ← holding [u, ov] (eval (.Name y p4) X.env)
      standAt p5
      holding [u, ov, iv] (setItem ov iv u)
      release [u, ov, iv] []) := by intro _; rfl)
    (hs : swapsWithSole [.Subscript (.Subscript (.Name x p1) (.Constant (.int 2) jj p2) p3) (.Name y p4) p5] v pos.line X.env = pure false := by rfl) (hw : swappedStores [.Subscript (.Subscript (.Name x p1) (.Constant (.int 2) jj p2) p3) (.Name y p4) p5] v X.env = pure none := by rfl)
    (h1 : (assignEach [.Subscript (.Subscript (.Name x p1) (.Constant (.int 2) jj p2) p3) (.Name y p4) p5] X.env).map (·.2) = [assign (.Subscript (.Subscript (.Name x p1) (.Constant (.int 2) jj p2) p3) (.Name y p4) p5) X.env] := by rfl) :
    PS X (.Assign [.Subscript (.Subscript (.Name x p1) (.Constant (.int 2) jj p2) p3) (.Name y p4) p5] v pos) (fun D σ H => ∃ g e r, JN T g σ e H ∧ F e g.n g.rows r ∧ ∃ k : Nat, e[i]? = some (.fz (.int (k : Int))) ∧ k < g.rows.length ∧ ∀ σ' H', JN T { g with rows := g.rows.set k r } σ' e H' → D.nx σ' H') := by
  obtain ⟨tv, htv, hq⟩ := hv
  refine PS.of (ps_asg htv (pg_sub (pe_rows (T := T) hN hvi hd hcd) (pe_var hN' hv' hd' hcd') set_list ha) hs hw h1) fun D σ H ⟨g, e, r, k, hF, kk, hk1, hk2, q⟩ => ?_
  refine hq g σ e H r _ k hF fun u H1 k1 ru => ?_
  obtain ⟨w, hw1, rw1⟩ := k1.j.fz _ _ hk1
  simp only [Rep] at rw1
  subst rw1
  obtain ⟨vs, h3, h4⟩ := k1.hb
  have hl : vs.length = g.rows.length := by rw [← h4.length, List.length_map]
  refine ⟨g, e, k1, _, hw1, g.b, vs, _, kk, rfl, rfl, h3, by unfold ixN; simp; omega, q _ _ ?_⟩
  have kp : ∀ c o, c ≠ g.b → H1 c = some o → upd H1 g.b (.lst (vs.set kk u)) c = some o := fun c o n z => by
    unfold upd; rw [if_neg n]; exact z
  have mm : ∀ c o, ¬ Or2 g.OO (Own σ e) c → H1 c = some o → upd H1 g.b (.lst (vs.set kk u)) c = some o ∧ ¬ Or2 g.OO (Own σ e) c := fun c o n z => ⟨kp c o (fun y => n (.inl (.inr (.inr y)))) z, n⟩
  have keepOwn : ∀ c, Own σ e c → upd H1 g.b (.lst (vs.set kk u)) c = H1 c := fun c z => by
    have : c ≠ g.b := fun y => by subst y; exact k1.noB z
    unfold upd; rw [if_neg this]
  have j2 : J T g.OO σ e (upd H1 g.b (.lst (vs.set kk u))) := by
    refine ⟨k1.j.len, fun i d q => ?_, fun i s d q1 q2 => ?_, k1.j.inj, k1.j.no, fun c z => ?_⟩
    · obtain ⟨v, g1, g2⟩ := k1.j.fz i d q
      exact ⟨v, g1, g2.mono mm⟩
    · obtain ⟨c, g1, g2⟩ := k1.j.ow i s d q1 q2
      exact ⟨c, g1, g2.mono mm (keepOwn c ⟨i, s, d, q1, q2, g1⟩)⟩
    · by_cases y : c = g.b
      · subst y; exact ⟨_, by unfold upd; rw [if_pos rfl]⟩
      · obtain ⟨o, ho⟩ := k1.j.dom c z
        exact ⟨o, kp c o y ho⟩
  have t2 : Tr g.s0 g.e0 g.H0 σ e (upd H1 g.b (.lst (vs.set kk u))) := by
    refine ⟨fun c o z n => ?_, k1.t.new, fun c o z => ?_, fun i d z => ?_, k1.t.io⟩
    · refine kp c o (fun y => ?_) (k1.t.keep c o z n)
      subst y; rw [k1.fb] at z; cases z
    · obtain ⟨o', ho⟩ := k1.t.there c o z
      exact ⟨o', kp c o' (fun y => by subst y; rw [k1.fb] at z; cases z) ho⟩
    · obtain ⟨z1, z2, z3⟩ := k1.t.lk i d z
      exact ⟨z1, z2, fun c o y1 y2 => kp c o (fun y => by subst y; rw [k1.fb] at y2; cases y2) (z3 c o y1 y2)⟩
  refine ⟨j2, t2, k1.un, k1.va, k1.fa, k1.fb, k1.na, k1.nb, k1.ne, kp _ _ k1.ne k1.ha, vs.set kk u, by unfold upd; exact if_pos rfl, ?_⟩
  show RepL T _ _ ((g.rows.set kk r).map dR) _
  rw [List.map_set]
  exact (h4.mono mm).set kk (ru.mono mm)
/-- name = a row -/
theorem nst_setV (i : Nat) {F : Env → Nat → List (List Int) → List Int → Prop} {pos' : Pos} (hv : VN X T v F) (hi2 : i ≠ 2) (hN : X.N.Nodup) (hi : X.N[i]? = some x := by rfl) (hx : Loc X.env.scope x := by first | exact Or.inl rfl | exact Or.inr rfl) (hs : swapsWith v (some (.Name x pos')) pos.line X.env = pure false := by rfl) (hf : X.fn x = true ∨ X.env.scope.names.lookup x = some .local := by first | exact .inl rfl | exact .inr rfl | assumption) :
    PS X (.Assign [.Name x pos'] v pos) (fun D σ H => ∃ g e r e2, JN T g σ e H ∧ F e g.n g.rows r ∧ setSl e i (.fz (dR r)) = some e2 ∧ e2[2]? = some .un ∧ ∀ σ' H', JN T g σ' e2 H' → D.nx σ' H') := by
  obtain ⟨tv, htv, hq⟩ := hv
  refine PS.of (ps_set hN hi hx htv hs hf) fun D σ H ⟨g, e, r, e2, k, hF, hs, hu, q⟩ => ?_
  refine hq g σ e H r _ k hF fun u H1 k1 ru => ?_
  obtain ⟨j', t'⟩ := k1.j.put_fz hs ru
  exact q _ _ (k1.step t' j' hu (List.getElem?_set_ne hi2))
/-- return made -/
theorem nst_ret {p1 : Pos} (hN : X.N[2]? = some x := by rfl) (hv : Vis X.env.scope x := by first | exact Or.inl rfl | exact Or.inr (Or.inl rfl) | exact Or.inr (Or.inr rfl)) (hd : (x == ("__debug__" : Str)) = false := by decide) (hcd : (x == ("__classdict__" : Str)) = false := by decide) :
    PS X (.Return (some (.Name x p1)) pos) (fun D σ H => ∃ g e, JN T g σ e H ∧ ((∀ c, Nw.nw (dT g.n g.n g.rows, true) (V.ref g.a) c → g.H0 c = none ∨ Own g.s0 g.e0 c) → RV T g.O σ (dT g.n g.n g.rows, true) (.ref g.a) e H → Tr g.s0 g.e0 g.H0 σ e H → D.rt (.ref g.a) H)) := by
  refine PS.of (ps_ret (pe_var hN hv hd hcd)) fun D σ H ⟨g, e, k, q⟩ => ⟨_, k.va, q (fun c z => ?_) ?_ k.t⟩
  · have z : true = true ∧ V.ref g.a = .ref c := z
    cases z.2; exact .inl k.fa
  · have j1 : J T (Or2 g.O (· = g.a)) σ e H := k.j.less fun c z => by
      rcases z with z | z
      · exact .inl z
      · exact .inr (.inl z)
    refine ⟨g.a, rfl, k.na, j1, ?_⟩
    obtain ⟨vs, h1, h2⟩ := k.hb
    have nob : ¬ Or2 (Or2 g.O (· = g.a)) (Own σ e) g.b := fun z => by
      rcases z with (z | z) | z
      · exact k.nb z
      · exact k.ne (Eq.symm z)
      · exact k.noB z
    refine ⟨_, k.ha, RepL.cons (by simp only [Rep]) (RepL.cons (by simp only [Rep]) (RepL.cons ?_ RepL.nil))⟩
    unfold dM
    simp only [Rep]
    refine ⟨g.b, vs, rfl, nob, h1, h2.mono fun c o n q => ⟨q, fun z => ?_⟩⟩
    rcases z with (z | z) | z
    · exact n (.inl (.inl z))
    · exact n (.inl (.inr (.inl z)))
    · exact n (.inr z)
/-- for x in range(c) -/
theorem nst_for (i : Nat) {cnt : Expr} {body : List Stmt} {ma : M (List Hv)} {tb : TS} {p1 p2 p3 : Pos} (hp : PassesOwn (model X.prog X.w) X.A X.env X.xe) (hc : X.calm = true) (ha : ∀ O, DA X W0 T O [cnt] ma) (hr : Gl X "range") (hm : X.mg "range" = none) (hi2 : i ≠ 2) (hb : PSs X body tb) (hN : X.N.Nodup) (hi : X.N[i]? = some x := by rfl) (hx : Loc X.env.scope x := by first | exact Or.inl rfl | exact Or.inr rfl) (hf : X.fn x = true ∨ X.env.scope.names.lookup x = some .local := by first | exact .inl rfl | exact .inr rfl | assumption)
    (hst : starEach [cnt] X.env = [(false, eval cnt X.env)] := by rfl) (hs : ∀ z, foldedSetIterable (.Call (.Name "range" p2) [cnt] [] p3) X.env z = pure z := by intro _; rfl) :
    PS X (.For (.Name x p1) (.Call (.Name "range" p2) [cnt] [] p3) body [] pos) (fun D σ H => ∃ g e c e1, JN T g σ e H ∧ ma e = .ok [.val (.int c)] e1 ∧ e1[2]? = some .un ∧ smI c = true ∧ ∃ I : Nat → Env → List (List Int) → Prop, I 0 e1 g.rows ∧
      (∀ j, j < c.toNat → ∀ e rows, I j e rows → ∃ e2, setSl e i (.fz (.int (j : Int))) = some e2 ∧ e2[2]? = some .un ∧ ∀ σ' H' D', JN T { g with rows := rows } σ' e2 H' → (∀ σ2 H2 e3 rows3, I (j + 1) e3 rows3 → JN T { g with rows := rows3 } σ2 e3 H2 → D'.nx σ2 H2) → tb D' σ' H') ∧
      (∀ e rows σ H, I c.toNat e rows → JN T { g with rows := rows } σ e H → D.nx σ H)) := by
  have hae : PA X [cnt] (fun σ H Q => ∃ O, wpG T O W0 (RA T O σ) ma σ H Q) := ⟨fun p pins s σ H Q I ⟨O, w⟩ => (ha O).run p pins s σ H Q I w⟩
  refine PS.of (ps_for hp hc (pi_range1 hr hm hae hst) (pg_name hN hi hx hf) hb hs) fun D σ H ⟨g, e, c, e1, k, hma, hu, hsm, I, h0, hstep, hend⟩ => ?_
  refine ⟨g.OO, e, k.j, ?_⟩
  rw [hma]
  intro vs H1 t _ ⟨j1, r1⟩
  obtain ⟨v, r, rfl, rv, rfl⟩ := r1
  have rv : Rep T H1 (Or2 g.OO (Own σ e1)) (.int c) v := rv
  simp only [Rep] at rv
  subst rv
  obtain ⟨b1, b2⟩ : _ ∧ _ := by unfold smI at hsm; exact of_decide_eq_true hsm
  refine ⟨c, rfl, b1, b2, fun q m σ' H' => m = c.toNat - q ∧ q ≤ c.toNat ∧ ∃ e' rows', I q e' rows' ∧ JN T { g with rows := rows' } σ' e' H', ⟨_, rfl, Nat.zero_le _, e1, g.rows, h0, k.step t j1 hu rfl⟩, ?_⟩
  rintro q m σ' H' ⟨rfl, hle, e', rows', hI, kk⟩
  have ik : ItOk T H' (Or2 g.OO (Own σ' e')) (Itr 0 c.toNat) (rgD 0 c.toNat) := itr_ok
  by_cases hq : q < c.toNat
  · have hd : (rgD 0 c.toNat)[q]? = some (.int (q : Int)) := by
      unfold rgD
      rw [List.getElem?_map, List.getElem?_range hq]
      simp
    obtain ⟨go, yl⟩ := ik.yield hd kk.j
    refine .inr ⟨go, fun σ2 H2 => ∃ m', m' < c.toNat - q ∧ (m' = c.toNat - (q + 1) ∧ q + 1 ≤ c.toNat ∧ ∃ e' rows', I (q + 1) e' rows' ∧ JN T { g with rows := rows' } σ2 e' H2), fun σ2 H2 z => z, fun x H'' y => ?_⟩
    obtain ⟨j2, t2, r2⟩ := yl x H'' y
    obtain ⟨e2, hs2, hu2, hbody⟩ := hstep q hq e' rows' hI
    have k2 := kk.step t2 j2 kk.un rfl
    obtain ⟨j3, t3⟩ := k2.j.put_fz hs2 r2
    refine hbody _ _ _ (k2.step t3 j3 hu2 (List.getElem?_set_ne hi2)) fun σ2 H2 e3 rows3 h3 k3 => ?_
    exact ⟨c.toNat - (q + 1), by omega, rfl, by omega, e3, rows3, h3, k3⟩
  · have : q = c.toNat := by omega
    subst this
    refine .inl ⟨ik.fin (by rw [show (rgD 0 c.toNat).length = c.toNat by simp [rgD]]; exact Nat.le_refl _), hend e' rows' σ' H' hI kk⟩
/-! made = new(n) -/
def spU (T : Tbl) (u : Nat → List (List Int)) : Sp := fun vs H Q _ => ∃ n : Nat, vs = [.int n] ∧ n ≤ 100 ∧ ∀ (a b : Addr) (us : List V) (H' : Hp), (∀ c o, H c = some o → H' c = some o) → H a = none → H b = none → a ≠ b → H' a = some (.lst [.int n, .int n, .ref b]) → H' b = some (.lst us) → RepL T H' (fun c => (∃ o, H c = some o) ∨ c = a ∨ c = b) ((u n).map dR) us → Q (.ref a) H'
theorem J.at_un (j : J T O σ e H) {i : Nat} {v : Option V} (h : e[i]? = some .un) : J T O (σ.set i v) e H ∧ Tr σ e H (σ.set i v) e H := by
  have ne : ∀ k s, e[k]? = some s → s ≠ .un → i ≠ k := fun k s q n z => by subst z; rw [h] at q; cases q; exact n rfl
  have own : ∀ b, Own (σ.set i v) e b → Own σ e b := fun b ⟨k, s, d, h1, h2, h3⟩ => ⟨k, s, d, h1, h2, by rwa [List.getElem?_set_ne (ne k s h1 (by intro z; subst z; cases h2))] at h3⟩
  have m : ∀ b o, ¬ Or2 O (Own σ e) b → H b = some o → H b = some o ∧ ¬ Or2 O (Own (σ.set i v) e) b := fun b o n q => ⟨q, fun z => n (z.imp id (own b))⟩
  refine ⟨⟨by rw [List.length_set]; exact j.len, fun k d q => ?_, fun k s d q1 q2 => ?_, fun k l s t d d' a q1 o1 q2 o2 a1 a2 => ?_, fun a z => j.no a (own a z), j.dom⟩, fun _ _ q _ => q, fun b z => .inl (own b z), fun b o q => ⟨o, q⟩, fun k d q => ⟨q, List.getElem?_set_ne (ne k _ q (by intro z; cases z)), fun _ _ _ q => q⟩, fun k d q => ⟨d, q, List.getElem?_set_ne (ne k _ q (by intro z; cases z))⟩⟩
  · obtain ⟨u, g1, g2⟩ := j.fz k d q
    exact ⟨u, by rw [List.getElem?_set_ne (ne k _ q (by intro z; cases z))]; exact g1, g2.mono m⟩
  · obtain ⟨a, g1, g2⟩ := j.ow k s d q1 q2
    exact ⟨a, by rw [List.getElem?_set_ne (ne k s q1 (by intro z; subst z; cases q2))]; exact g1, g2.mono m rfl⟩
  · rw [List.getElem?_set_ne (ne k s q1 (by intro z; subst z; cases o1))] at a1
    rw [List.getElem?_set_ne (ne l t q2 (by intro z; subst z; cases o2))] at a2
    exact j.inj k l s t d d' a q1 o1 q2 o2 a1 a2
theorem nst_new {y z : Str} {u : Nat → List (List Int)} {f : Addr} {fd : FuncData} {ps : List Str} {k : Nat} {p1 p2 p3 p4 : Pos} (F : FnOk X.prog X.w X.K X.mg X.base CX0 k f fd ps (spU T u)) (hr : Room k X.A) (hm : X.mg z = some (.ref f)) (hk : PySem.W.keepIn X.K (.ref f) = true) (hb : Binds X.K fd ps [])
    (hN : X.N.Nodup) (hi : X.N[2]? = some x := by rfl) (hx : Loc X.env.scope x := by first | exact Or.inl rfl | exact Or.inr rfl) (hi1 : X.N[1]? = some y := by rfl) (hv : Vis X.env.scope y := by first | exact Or.inl rfl | exact Or.inr (Or.inl rfl) | exact Or.inr (Or.inr rfl)) (hd : (y == ("__debug__" : Str)) = false := by decide) (hcd : (y == ("__classdict__" : Str)) = false := by decide)
    (hg : Gl X z := by rfl) (hdb : (z == ("__debug__" : Str)) = false := by decide) (he : starEach [.Name y p3] X.env = (false, eval (.Name y p3) X.env) :: starEach [] X.env := by rfl) (hpl : (backTo p4 (starEach [] X.env)).any (·.1) = false := by rfl)
    (hs : swapsWith (.Call (.Name z p2) [.Name y p3] [] p4) (some (.Name x p1)) pos.line X.env = pure false := by rfl) (hf : X.fn x = true ∨ X.env.scope.names.lookup x = some .local := by first | exact .inl rfl | exact .inr rfl | assumption) :
    PS X (.Assign [.Name x p1] (.Call (.Name z p2) [.Name y p3] [] p4) pos) (fun D σ H => ∃ O e n, J T O σ e H ∧ e[1]? = some (.fz (.int (n : Nat))) ∧ e[2]? = some .un ∧ n ≤ 100 ∧ ∀ a b σ' H', JN T ⟨O, σ, e, H, a, b, n, u n⟩ σ' e H' → D.nx σ' H') := by
  refine PS.of (ps_set hN hi hx (pe_call F hr hg hm hk hb .nil pass0 (pa_cons (pe_var hi1 hv hd hcd) pa_nil he) hdb he hpl) hs hf) fun D σ H ⟨O, e, n, j, h1, h2, hn, q⟩ => ?_
  obtain ⟨v, g1, g2⟩ := j.fz _ _ h1
  simp only [Rep] at g2
  subst g2
  refine ⟨_, g1, n, rfl, hn, fun a b us H' hk fa fb ne ha hb' hr' => ?_⟩
  have nO : ∀ c, H c = none → ¬ O c := fun c z y => by
    obtain ⟨o, ho⟩ := j.dom c y
    rw [z] at ho; cases ho
  have nOw : ∀ c, H c = none → ¬ Own σ e c := fun c z ⟨i, s, d, q1, q2, q3⟩ => by
    obtain ⟨c', w1, w2⟩ := j.ow i s d q1 q2
    rw [q3] at w1; cases w1
    obtain ⟨o, ho⟩ := w2.there
    rw [z] at ho; cases ho
  have j1 : J T (Or2 O fun c => c = a ∨ c = b) σ e H' := j.heap hk (fun c z => by
      rcases z with z | z | z
      · exact .inl z
      · rw [z]; exact .inr fa
      · rw [z]; exact .inr fb) fun c z => by
      rcases z with z | z | z
      · obtain ⟨o, ho⟩ := j.dom c z
        exact ⟨o, hk c o ho⟩
      · rw [z]; exact ⟨_, ha⟩
      · rw [z]; exact ⟨_, hb'⟩
  have t1 : Tr σ e H σ e H' := ⟨fun c o q _ => hk c o q, fun c z => .inl z, fun c o q => ⟨o, hk c o q⟩, fun i d q => ⟨q, rfl, fun c o _ q => hk c o q⟩, fun i d q => ⟨d, q, rfl⟩⟩
  obtain ⟨j2, t2⟩ := j1.at_un (v := some (.ref a)) h2
  have h2l := lt_of_get h2
  refine q a b _ _ ⟨j2, t1.trans t2, h2, ?_, fa, fb, nO a fa, nO b fb, ne, ha, us, hb', hr'.mono fun c o n q => ⟨q, fun z => ?_⟩⟩
  · rw [List.getElem?_set_self (by rw [← j.len]; exact h2l)]
  · rcases z with (z | z | z) | z
    · exact n (.inl (j.dom c z))
    · exact n (.inr (.inl z))
    · exact n (.inr (.inr z))
    · have z := (t2.new c z).resolve_right (fun y => by rw [q] at y; cases y)
      obtain ⟨i, s, d, q1, q2, q3⟩ := z
      obtain ⟨c', w1, w2⟩ := j.ow i s d q1 q2
      rw [q3] at w1; cases w1
      exact n (.inl w2.there)
/-! a slot forgotten -/
theorem J.forget (j : J T O σ e H) (i : Nat) (h : ∀ s, e[i]? = some s → s.own? = none) : J T O σ (e.set i .un) H ∧ (∀ b, Own σ (e.set i .un) b ↔ Own σ e b) ∧ Tr σ e H σ (e.set i .un) H := by
  have own : ∀ b, Own σ (e.set i .un) b ↔ Own σ e b := fun b => by
    constructor
    · rintro ⟨k, s, d, h1, h2, h3⟩
      rcases get_set h1 with ⟨_, rfl⟩ | ⟨_, q⟩
      · cases h2
      · exact ⟨k, s, d, q, h2, h3⟩
    · rintro ⟨k, s, d, h1, h2, h3⟩
      refine ⟨k, s, d, ?_, h2, h3⟩
      rw [List.getElem?_set_ne (fun z => by subst z; rw [h s h1] at h2; cases h2)]; exact h1
  have m : ∀ b o, ¬ Or2 O (Own σ e) b → H b = some o → H b = some o ∧ ¬ Or2 O (Own σ (e.set i .un)) b := fun b o n q => ⟨q, fun z => n (z.imp id (own b).mp)⟩
  refine ⟨⟨by rw [List.length_set]; exact j.len, fun k d q => ?_, fun k s d q1 q2 => ?_, fun k l s t d d' a q1 o1 q2 o2 a1 a2 => ?_, fun a z => j.no a ((own a).mp z), j.dom⟩, own, fun _ _ q _ => q, fun b z => .inl ((own b).mp z), fun b o q => ⟨o, q⟩, fun k d q => ⟨?_, rfl, fun _ _ _ q => q⟩, fun k d q => ⟨d, ?_, rfl⟩⟩
  · rcases get_set q with ⟨_, z⟩ | ⟨_, q⟩
    · cases z
    · obtain ⟨u, g1, g2⟩ := j.fz k d q
      exact ⟨u, g1, g2.mono m⟩
  · rcases get_set q1 with ⟨_, rfl⟩ | ⟨_, q⟩
    · cases q2
    · obtain ⟨a, g1, g2⟩ := j.ow k s d q q2
      exact ⟨a, g1, g2.mono m rfl⟩
  · rcases get_set q1 with ⟨_, rfl⟩ | ⟨_, q1⟩
    · cases o1
    · rcases get_set q2 with ⟨_, rfl⟩ | ⟨_, q2⟩
      · cases o2
      · exact j.inj k l s t d d' a q1 o1 q2 o2 a1 a2
  · rw [List.getElem?_set_ne (fun z => by subst z; have := h _ q; cases this)]; exact q
  · rw [List.getElem?_set_ne (fun z => by subst z; have := h _ q; cases this)]; exact q
theorem RV.forget {d : D} {u : V} (r : RV T O σ (d, true) u e H) (i : Nat) (h : ∀ s, e[i]? = some s → s.own? = none) : RV T O σ (d, true) u (e.set i .un) H := by
  obtain ⟨a, rfl, nO, j, oa⟩ := r
  obtain ⟨j', own, _⟩ := j.forget i h
  exact ⟨a, rfl, nO, j', oa.mono (fun b o n q => ⟨q, fun z => n (z.imp id (own b).mp)⟩) rfl⟩
theorem RV.tr {d : D} {u : V} (r : RV T O σ (d, true) u e H) (i : Nat) (h : ∀ s, e[i]? = some s → s.own? = none) : Tr σ e H σ (e.set i .un) H := by
  obtain ⟨a, rfl, nO, j, oa⟩ := r
  exact (j.forget i h).2.2
/-- slots behind the parameters hold nothing at the entry -/
theorem J.fresh {N : List Str} {vs : List V} (j : J T O (L2.start N vs) e H) {i : Nat} {s : Sl} (h : e[i]? = some s) (hi : vs.length ≤ i) : s = .un := by
  have hn : ∀ v, (L2.start N vs)[i]? ≠ some (some v) := fun v z => by
    unfold L2.start at z
    rw [List.getElem?_append_right (by simpa using hi), List.getElem?_replicate] at z
    split at z <;> cases z
  cases s with
  | un => rfl
  | fz d => obtain ⟨v, g, _⟩ := j.fz i d h; exact (hn _ g).elim
  | ow d => obtain ⟨v, g, _⟩ := j.ow i _ d h rfl; exact (hn _ g).elim
  | lk d => obtain ⟨v, g, _⟩ := j.ow i _ d h rfl; exact (hn _ g).elim
  | io d => obtain ⟨v, g, _⟩ := j.ow i _ d h rfl; exact (hn _ g).elim
end
end DV
-- K20
namespace DV
open PySem PySem.Spec PyProof.Rows L2
def jarD (cs : List Int) (pos mix left stir cnt : Int) : D := .lst [.lst (cs.map D.int), .int pos, .int mix, .int left, .int stir, .int cnt]
def JOk (d : D) : Prop := ∃ cs pos mix left stir cnt, d = jarD cs pos mix left stir cnt ∧ 0 ≤ pos ∧ 0 ≤ stir ∧ stir < 2147483587
def takenR (bar lead : List Int) (n : Int) : List Int := (List.range bar.length).map fun k => (ent bar k - n * ent lead k) % 1000003
def unitM (n : Nat) : List (List Int) := (List.range n).map fun i => (List.range n).map fun j => if i = j then 1 else 0
end DV
-- K2A
namespace DV
open PySem PySem.Spec PyProof.Rows L2
def top (i : Nat) : Stmt := PySem.Challenge.pw_partsofparts_k02_frames_of_rooms.main.body.getD i (.Pass ⟨0, 0, 0, 0⟩)
/-! what stands behind the top -/
def flT : Nat → List Nat := fun c => match c with | 0 => [0, 1, 2, 3] | _ => []
def fldT : Nat → Str := fun i => match i with | 0 => "height" | 1 => "width" | 2 => "rows" | 3 => "text" | _ => ""
def TB (cls : Nat → Addr) : Tbl := ⟨cls, fldT, flT⟩
def tbO (m : String) : Option Bool := if ["NoneType", "bool", "int", "str", "list", "tuple", "dict"].contains m then some false else none
def ob_Table (c : Nat) : Option Bool := if c = 0 then some true else if c < 1 then some false else none
/-! _law_aside -/
abbrev s__law_aside : Stmt := top 46
abbrev N__law_aside : List Str := ["a", "b", "i"]
abbrev P__law_aside : List Str := ["a", "b"]
theorem sc__law_aside : FnScope N__law_aside P__law_aside (defScope s__law_aside) := ⟨rfl, rfl, rfl, by decide +kernel, rfl, by decide +kernel, by decide +kernel⟩
def mb__law_aside : MS := (sRet (mList (mCons (mVal (mBin opIx (mSlot 0) (mVal (mC (.int 0))))) (mCons (mVal (mBin opAdd (mVal (mBin opIx (mSlot 0) (mVal (mC (.int 1))))) (mVal (mBin opIx (mSlot 1) (mVal (mC (.int 1))))))) (mCons (mVal (mLc (mRg1 (mCons (mVal (mBin opIx (mSlot 0) (mVal (mC (.int 0))))) mNil)) [2] (gPut 2) mYes (mBin opAdd (mVal (mBin opIx (mVal (mBin opIx (mSlot 0) (mVal (mC (.int 2))))) (mSlot 2))) (mVal (mBin opIx (mVal (mBin opIx (mSlot 1) (mVal (mC (.int 2))))) (mSlot 2)))))) mNil)))))
/-! _law_draw -/
abbrev s__law_draw : Stmt := top 38
abbrev N__law_draw : List Str := ["jar", "top", "cell", "digit"]
abbrev P__law_draw : List Str := ["jar", "top"]
theorem sc__law_draw : FnScope N__law_draw P__law_draw (defScope s__law_draw) := ⟨rfl, rfl, rfl, by decide +kernel, rfl, by decide +kernel, by decide +kernel⟩
def mb__law_draw : MS := (sSeq (sSetIx 0 (mBin opAdd (mVal (mBin opIx (mSlot 0) (mVal (mC (.int 5))))) (mVal (mC (.int 1)))) (mVal (mC (.int 5))))
  (sSeq (sIf (mAnd (mCmpT cEq (mVal (mBin opIx (mSlot 0) (mVal (mC (.int 3))))) (mVal (mC (.int 0)))) (mCmpT cLt (mVal (mBin opIx (mSlot 0) (mVal (mC (.int 1))))) (mVal (mCall (f1 oLen) (mCons (mVal (mBin opIx (mSlot 0) (mVal (mC (.int 0))))) mNil))))) (sSeq (sSet 2 (mBin opIx (mVal (mBin opIx (mSlot 0) (mVal (mC (.int 0))))) (mVal (mBin opIx (mSlot 0) (mVal (mC (.int 1)))))))
  (sSeq (sSetIx 0 (mBin opAdd (mVal (mBin opIx (mSlot 0) (mVal (mC (.int 1))))) (mVal (mC (.int 1)))) (mVal (mC (.int 1))))
  (sIf (mCmpT cGe (mSlot 2) (mVal (mBin opPow (mVal (mC (.int 10))) (mVal (mC (.int 18)))))) (sSeq (sSetIx 0 (mVar 2) (mVal (mC (.int 2))))
  (sSetIx 0 (mC (.int 60)) (mVal (mC (.int 3))))) (sSetIx 0 (mBin opMod (mVal (mCall (f1 oInt) (mCons (mVal (mBin opAdd (mVal (mBin opAdd (mVal (mBin opMul (mVal (mBin opIx (mSlot 0) (mVal (mC (.int 4))))) (mVal (mC (.int 40039))))) (mVal (mBin opMul (mVal (mBin opMod (mVal (mCall (f1 oInt) (mCons (mSlot 2) mNil))) (mVal (mC (.int 2147483629))))) (mVal (mC (.int 6367))))))) (mVal (mC (.int 101))))) mNil))) (mVal (mC (.int 2147483587)))) (mVal (mC (.int 4))))))) sNx)
  (sSeq (sIf (mCmpT cGt (mVal (mBin opIx (mSlot 0) (mVal (mC (.int 3))))) (mVal (mC (.int 0)))) (sSeq (sSet 3 (mBin opMod (mVal (mCall (f1 oInt) (mCons (mVal (mBin opIx (mSlot 0) (mVal (mC (.int 2))))) mNil))) (mSlot 1)))
  (sSeq (sSetIx 0 (mBin opDiv (mVal (mBin opIx (mSlot 0) (mVal (mC (.int 2))))) (mSlot 1)) (mVal (mC (.int 2))))
  (sSeq (sSetIx 0 (mIf (mCmpT cGt (mVal (mBin opIx (mSlot 0) (mVal (mC (.int 2))))) (mVal (mC (.int 0)))) (mBin opSub (mVal (mBin opIx (mSlot 0) (mVal (mC (.int 3))))) (mVal (mC (.int 1)))) (mC (.int 0))) (mVal (mC (.int 3))))
  (sRetV 3)))) sNx)
  (sSeq (sSetIx 0 (mBin opMod (mVal (mCall (f1 oInt) (mCons (mVal (mBin opAdd (mVal (mBin opAdd (mVal (mBin opPow (mVal (mBin opIx (mSlot 0) (mVal (mC (.int 4))))) (mVal (mC (.int 3))))) (mVal (mBin opMul (mVal (mBin opIx (mSlot 0) (mVal (mC (.int 5))))) (mVal (mC (.int 1299721))))))) (mVal (mC (.int 86743))))) mNil))) (mVal (mC (.int 2147483587)))) (mVal (mC (.int 4))))
  (sRet (mBin opMod (mVal (mCall (f1 oInt) (mCons (mVal (mBin opAdd (mVal (mBin opDiv (mVal (mBin opIx (mSlot 0) (mVal (mC (.int 4))))) (mVal (mC (.int 59))))) (mVal (mBin opMul (mVal (mBin opMod (mVal (mCall (f1 oInt) (mCons (mVal (mBin opIx (mSlot 0) (mVal (mC (.int 4))))) mNil))) (mVal (mC (.int 5003))))) (mVal (mC (.int 67))))))) mNil))) (mSlot 1)))))))
/-! _law_empty -/
abbrev s__law_empty : Stmt := top 41
abbrev N__law_empty : List Str := ["h", "w", "i", "j"]
abbrev P__law_empty : List Str := ["h", "w"]
theorem sc__law_empty : FnScope N__law_empty P__law_empty (defScope s__law_empty) := ⟨rfl, rfl, rfl, by decide +kernel, rfl, by decide +kernel, by decide +kernel⟩
def mb__law_empty : MS := (sRet (mList (mCons (mVal (mVar 0)) (mCons (mVal (mVar 1)) (mCons (mVal (mLc (mRg1 (mCons (mSlot 0) mNil)) [2] (gPut 2) mYes (mLc (mRg1 (mCons (mSlot 1) mNil)) [3] (gPut 3) mYes (mC (.int 0))))) mNil)))))
/-! _law_number -/
abbrev s__law_number : Stmt := top 40
abbrev N__law_number : List Str := ["jar", "way"]
abbrev P__law_number : List Str := ["jar"]
theorem sc__law_number : FnScope N__law_number P__law_number (defScope s__law_number) := ⟨rfl, rfl, rfl, by decide +kernel, rfl, by decide +kernel, by decide +kernel⟩
def mb__law_number : MS := (sSeq (sSet 1 (mDef 4 2 mb__law_draw [] (mCons (mSlot 0) (mCons (mVal (mC (.int 6))) mNil))))
  (sSeq (sIf (mCmpT cLt (mSlot 1) (mVal (mC (.int 2)))) (sRet (mDef 4 2 mb__law_draw [] (mCons (mSlot 0) (mCons (mVal (mC (.int 3))) mNil)))) sNx)
  (sSeq (sIf (mCmpT cLt (mSlot 1) (mVal (mC (.int 4)))) (sRet (mDef 4 2 mb__law_draw [] (mCons (mSlot 0) (mCons (mVal (mC (.int 10))) mNil)))) sNx)
  (sSeq (sIf (mCmpT cEq (mSlot 1) (mVal (mC (.int 4)))) (sRet (mDef 4 2 mb__law_draw [] (mCons (mSlot 0) (mCons (mVal (mBin opPow (mVal (mC (.int 10))) (mVal (mC (.int 9))))) mNil)))) sNx)
  (sRet (mIf (mCmpT cEq (mVal (mDef 4 2 mb__law_draw [] (mCons (mSlot 0) (mCons (mVal (mC (.int 2))) mNil)))) (mVal (mC (.int 0)))) (mBin opSub (mVal (mUn opNeg (mVal (mC (.int 1))))) (mVal (mDef 4 2 mb__law_draw [] (mCons (mSlot 0) (mCons (mVal (mBin opPow (mVal (mC (.int 10))) (mVal (mC (.int 9))))) mNil))))) (mBin opAdd (mVal (mBin opMul (mVal (mC (.int 1000003))) (mVal (mBin opSub (mVal (mDef 4 2 mb__law_draw [] (mCons (mSlot 0) (mCons (mVal (mC (.int 7))) mNil)))) (mVal (mC (.int 3))))))) (mVal (mDef 4 2 mb__law_draw [] (mCons (mSlot 0) (mCons (mVal (mC (.int 2))) mNil)))))))))))
/-! _law_prod -/
abbrev s__law_prod : Stmt := top 45
abbrev N__law_prod : List Str := ["a", "b", "made", "bar", "total", "j", "k", "n", "other"]
abbrev P__law_prod : List Str := ["a", "b"]
theorem sc__law_prod : FnScope N__law_prod P__law_prod (defScope s__law_prod) := ⟨rfl, rfl, rfl, by decide +kernel, rfl, by decide +kernel, by decide +kernel⟩
def mb__law_prod : MS := (sSeq (sSet 2 (mList mNil))
  (sSeq (sFor (mIter (mBin opIx (mSlot 0) (mVal (mC (.int 2))))) (gPut 3) (sSeq (sSet 4 (mLc (mRg1 (mCons (mVal (mBin opIx (mSlot 1) (mVal (mC (.int 1))))) mNil)) [5] (gPut 5) mYes (mC (.int 0))))
  (sSeq (sFor (mRg1 (mCons (mVal (mBin opIx (mSlot 0) (mVal (mC (.int 1))))) mNil)) (gPut 6) (sIf (mCmpT cNe (mVal (mBin opIx (mSlot 3) (mSlot 6))) (mVal (mC (.int 0)))) (sSeq (sSet 7 (mBin opIx (mSlot 3) (mSlot 6)))
  (sSeq (sSet 8 (mBin opIx (mVal (mBin opIx (mSlot 1) (mVal (mC (.int 2))))) (mSlot 6)))
  (sSet 4 (mLc (mRg1 (mCons (mVal (mBin opIx (mSlot 1) (mVal (mC (.int 1))))) mNil)) [5] (gPut 5) mYes (mBin opMod (mVal (mCall (f1 oInt) (mCons (mVal (mBin opAdd (mVal (mBin opIx (mSlot 4) (mSlot 5))) (mVal (mBin opMul (mSlot 7) (mVal (mBin opIx (mSlot 8) (mSlot 5))))))) mNil))) (mVal (mC (.int 1000003)))))))) sNx))
  (sApp 2 (mVar 4)))))
  (sRet (mList (mCons (mVal (mBin opIx (mSlot 0) (mVal (mC (.int 0))))) (mCons (mVal (mBin opIx (mSlot 1) (mVal (mC (.int 1))))) (mCons (mVal (mVar 2)) mNil)))))))
/-! _law_grid -/
abbrev s__law_grid : Stmt := top 44
abbrev N__law_grid : List Str := ["jar", "h", "w", "way", "thin", "left", "i", "j", "right", "top"]
abbrev P__law_grid : List Str := ["jar", "h", "w"]
theorem sc__law_grid : FnScope N__law_grid P__law_grid (defScope s__law_grid) := ⟨rfl, rfl, rfl, by decide +kernel, rfl, by decide +kernel, by decide +kernel⟩
def mb__law_grid : MS := (sSeq (sSet 3 (mDef 4 2 mb__law_draw [] (mCons (mSlot 0) (mCons (mVal (mC (.int 5))) mNil))))
  (sSeq (sIf (mOr (mCmpT cEq (mSlot 1) (mVal (mC (.int 0)))) (mOr (mCmpT cEq (mSlot 2) (mVal (mC (.int 0)))) (mAnd (mCmpT cEq (mSlot 3) (mVal (mC (.int 0)))) (mCmpT cEq (mVal (mDef 4 2 mb__law_draw [] (mCons (mSlot 0) (mCons (mVal (mC (.int 3))) mNil)))) (mVal (mC (.int 0))))))) (sRet (mDef 4 2 mb__law_empty [] (mCons (mVal (mVar 1)) (mCons (mVal (mVar 2)) mNil)))) sNx)
  (sSeq (sIf (mCmpT cEq (mSlot 3) (mVal (mC (.int 0)))) (sSeq (sSet 4 (mDef 4 2 mb__law_draw [] (mCons (mSlot 0) (mCons (mVal (mBin opAdd (mVal (mCall (f2 oMin2) (mCons (mSlot 1) (mCons (mSlot 2) mNil)))) (mVal (mC (.int 1))))) mNil))))
  (sSeq (sSet 5 (mList (mCons (mVal (mVar 1)) (mCons (mVal (mVar 4)) (mCons (mVal (mLc (mRg1 (mCons (mSlot 1) mNil)) [6] (gPut 6) mYes (mLc (mRg1 (mCons (mSlot 4) mNil)) [7] (gPut 7) mYes (mDef 4 2 mb__law_draw [] (mCons (mSlot 0) (mCons (mVal (mC (.int 4))) mNil)))))) mNil)))))
  (sSeq (sSet 8 (mList (mCons (mVal (mVar 4)) (mCons (mVal (mVar 2)) (mCons (mVal (mLc (mRg1 (mCons (mSlot 4) mNil)) [6] (gPut 6) mYes (mLc (mRg1 (mCons (mSlot 2) mNil)) [7] (gPut 7) mYes (mDef 4 2 mb__law_draw [] (mCons (mSlot 0) (mCons (mVal (mC (.int 4))) mNil)))))) mNil)))))
  (sRet (mDef 9 2 mb__law_prod [] (mCons (mVal (mVar 5)) (mCons (mVal (mVar 8)) mNil))))))) sNx)
  (sSeq (sIf (mCmpT cEq (mSlot 3) (mVal (mC (.int 1)))) (sRet (mList (mCons (mVal (mVar 1)) (mCons (mVal (mVar 2)) (mCons (mVal (mLc (mRg1 (mCons (mSlot 1) mNil)) [6] (gPut 6) mYes (mLc (mRg1 (mCons (mSlot 2) mNil)) [7] (gPut 7) mYes (mBin opMod (mVal (mCall (f1 oInt) (mCons (mVal (mDef 2 1 mb__law_number [] (mCons (mSlot 0) mNil))) mNil))) (mVal (mC (.int 1000003))))))) mNil))))) sNx)
  (sSeq (sIf (mCmpT cEq (mSlot 3) (mVal (mC (.int 2)))) (sRet (mList (mCons (mVal (mVar 1)) (mCons (mVal (mVar 2)) (mCons (mVal (mLc (mRg1 (mCons (mSlot 1) mNil)) [6] (gPut 6) mYes (mLc (mRg1 (mCons (mSlot 2) mNil)) [7] (gPut 7) mYes (mBin opMod (mVal (mDef 4 2 mb__law_draw [] (mCons (mSlot 0) (mCons (mVal (mBin opPow (mVal (mC (.int 10))) (mVal (mC (.int 9))))) mNil)))) (mVal (mC (.int 1000003))))))) mNil))))) sNx)
  (sSeq (sSet 9 (mIf (mCmpT cEq (mSlot 3) (mVal (mC (.int 3)))) (mC (.int 10)) (mC (.int 3))))
  (sRet (mList (mCons (mVal (mVar 1)) (mCons (mVal (mVar 2)) (mCons (mVal (mLc (mRg1 (mCons (mSlot 1) mNil)) [6] (gPut 6) mYes (mLc (mRg1 (mCons (mSlot 2) mNil)) [7] (gPut 7) mYes (mDef 4 2 mb__law_draw [] (mCons (mSlot 0) (mCons (mVal (mVar 9)) mNil)))))) mNil)))))))))))
/-! _law_disguised -/
abbrev s__law_disguised : Stmt := top 52
abbrev N__law_disguised : List Str := ["jar", "a", "bar", "turn", "far", "n"]
abbrev P__law_disguised : List Str := ["jar", "a"]
theorem sc__law_disguised : FnScope N__law_disguised P__law_disguised (defScope s__law_disguised) := ⟨rfl, rfl, rfl, by decide +kernel, rfl, by decide +kernel, by decide +kernel⟩
def mb__law_disguised : MS := (sSeq (sIf (mCmpT cGt (mVal (mDef 4 2 mb__law_draw [] (mCons (mSlot 0) (mCons (mVal (mC (.int 3))) mNil)))) (mVal (mC (.int 0)))) (sRet (mLc (mIter (mBin opIx (mSlot 1) (mVal (mC (.int 2))))) [2] (gPut 2) mYes (mCall (f1 oList) (mCons (mSlot 2) mNil)))) sNx)
  (sSeq (sSet 3 (mDef 4 2 mb__law_draw [] (mCons (mSlot 0) (mCons (mVal (mC (.int 2))) mNil))))
  (sSeq (sSet 4 (mBin opMul (mVal (mC (.int 1000003))) (mVal (mIf (mCmpT cEq (mSlot 3) (mVal (mC (.int 0)))) (mC (.int 1)) (mBin opPow (mVal (mC (.int 10))) (mVal (mC (.int 20))))))))
  (sRet (mLc (mIter (mBin opIx (mSlot 1) (mVal (mC (.int 2))))) [2] (gPut 2) mYes (mLc (mIter (mVar 2)) [5] (gPut 5) mYes (mBin opAdd (mSlot 5) (mVal (mBin opMul (mSlot 4) (mVal (mBin opSub (mVal (mDef 4 2 mb__law_draw [] (mCons (mSlot 0) (mCons (mVal (mC (.int 3))) mNil)))) (mVal (mC (.int 1))))))))))))))
/-! table_text -/
abbrev s_table_text : Stmt := top 28
abbrev N_table_text : List Str := ["rows", "width", "row", "n"]
abbrev P_table_text : List Str := ["rows", "width"]
theorem sc_table_text : FnScope N_table_text P_table_text (defScope s_table_text) := ⟨rfl, rfl, rfl, by decide +kernel, rfl, by decide +kernel, by decide +kernel⟩
def mb_table_text : MS := (sSeq (sIf (mOr (mCmpT cEq (mVal (mCall (f1 oLen) (mCons (mSlot 0) mNil))) (mVal (mC (.int 0)))) (mCmpT cEq (mSlot 1) (mVal (mC (.int 0))))) (sRet (mC (.str "-"))) sNx)
  (sRet (mJoin (mVal (mC (.str " / "))) (mVal (mLc (mIter (mVar 0)) [2] (gPut 2) mYes (mJoin (mVal (mC (.str " "))) (mVal (mLc (mIter (mVar 2)) [3] (gPut 3) mYes (mCall (f1 oStr) (mCons (mSlot 3) mNil))))))))))
/-! Table.__init__ -/
abbrev s_Table___init__ : Stmt := inClass (top 27) 0
abbrev N_Table___init__ : List Str := ["self", "height", "width", "rows", "_", "at", "row", "n"]
abbrev P_Table___init__ : List Str := ["self", "height", "width", "rows"]
theorem sc_Table___init__ : FnScope N_Table___init__ P_Table___init__ (defScope s_Table___init__) := ⟨rfl, rfl, rfl, by decide +kernel, rfl, by decide +kernel, by decide +kernel⟩
def mb_Table___init__ : MS := (sSeq (sIf (mOr (mCmpT cLt (mSlot 1) (mVal (mC (.int 0)))) (mCmpT cLt (mSlot 2) (mVal (mC (.int 0))))) sBad sNx)
  (sSeq (sIf (mCmpT cIs (mSlot 3) (mVal (mC .non))) (sSet 3 (mLc (mRg1 (mCons (mSlot 1) mNil)) [4] (gPut 4) mYes (mBin opMul (mVal (mList (mCons (mVal (mC (.int 0))) mNil))) (mSlot 2)))) sNx)
  (sSeq (sIf (mCmpT cNe (mVal (mCall (f1 oLen) (mCons (mSlot 3) mNil))) (mSlot 1)) sBad sNx)
  (sSeq (sFor (mEnumA (mCons (mVal (mVar 3)) mNil)) (gTupD (gsCons (gPut 5) (gsCons (gPut 6) gsNil)) 2) (sIf (mCmpT cNe (mVal (mCall (f1 oLen) (mCons (mSlot 6) mNil))) (mSlot 2)) sBad sNx))
  (sSeq (sPutF 1 flT 0 0 (mVar 1))
  (sSeq (sPutF 1 flT 1 0 (mVar 2))
  (sSeq (sPutF 1 flT 2 0 (mCall (f1 oTuple) (mCons (mVal (mLc (mIter (mVar 3)) [6] (gPut 6) mYes (mCall (f1 oTuple) (mCons (mVal (mLc (mIter (mVar 6)) [7] (gPut 7) mYes (mBin opMod (mSlot 7) (mVal (mC (.int 1000003)))))) mNil)))) mNil)))
  (sPutF 1 flT 3 0 (mDef 4 2 mb_table_text [] (mCons (mVal (mUn (opAtt 1 flT 2) (mSlot 0))) (mCons (mVal (mVar 2)) mNil)))))))))))
/-! _law_is_zero -/
abbrev s__law_is_zero : Stmt := top 42
abbrev N__law_is_zero : List Str := ["a", "bar"]
abbrev P__law_is_zero : List Str := ["a"]
theorem sc__law_is_zero : FnScope N__law_is_zero P__law_is_zero (defScope s__law_is_zero) := ⟨rfl, rfl, rfl, by decide +kernel, rfl, by decide +kernel, by decide +kernel⟩
def mb__law_is_zero : MS := (sRet (mCmp cEq (mVal (mLc (mIter (mBin opIx (mSlot 0) (mVal (mC (.int 2))))) [1] (gPut 1) (mCmpT cGt (mVal (mCall (f1 oMax) (mCons (mVal (mBin opAdd (mSlot 1) (mVal (mList (mCons (mVal (mC (.int 0))) mNil))))) mNil))) (mVal (mC (.int 0)))) (mVar 1))) (mVal (mList mNil))))
/-! _law_table -/
abbrev s__law_table : Stmt := top 53
abbrev N__law_table : List Str := ["jar", "a", "rows", "bar"]
abbrev P__law_table : List Str := ["jar", "a"]
theorem sc__law_table : FnScope N__law_table P__law_table (defScope s__law_table) := ⟨rfl, rfl, rfl, by decide +kernel, rfl, by decide +kernel, by decide +kernel⟩
def mb__law_table : MS := (sSeq (sSet 2 (mDef 6 2 mb__law_disguised [] (mCons (mSlot 0) (mCons (mVal (mVar 1)) mNil))))
  (sSeq (sIf (mAnd (mTru (mVal (mDef 2 1 mb__law_is_zero [] (mCons (mVal (mVar 1)) mNil)))) (mCmpT cEq (mVal (mDef 4 2 mb__law_draw [] (mCons (mSlot 0) (mCons (mVal (mC (.int 2))) mNil)))) (mVal (mC (.int 0))))) (sRet (mMake 0 8 4 mb_Table___init__ [.non] (mCons (mVal (mBin opIx (mSlot 1) (mVal (mC (.int 0))))) (mCons (mVal (mBin opIx (mSlot 1) (mVal (mC (.int 1))))) mNil)))) sNx)
  (sRet (mMake 0 8 4 mb_Table___init__ [] (mCons (mVal (mBin opIx (mSlot 1) (mVal (mC (.int 0))))) (mCons (mVal (mBin opIx (mSlot 1) (mVal (mC (.int 1))))) (mCons (mVal (mIf (mCmpT cGt (mVal (mDef 4 2 mb__law_draw [] (mCons (mSlot 0) (mCons (mVal (mC (.int 3))) mNil)))) (mVal (mC (.int 0)))) (mVar 2) (mCall (f1 oTuple) (mCons (mVal (mLc (mIter (mVar 2)) [3] (gPut 3) mYes (mCall (f1 oTuple) (mCons (mSlot 3) mNil)))) mNil)))) mNil)))))))
/-! _law_hand -/
abbrev s__law_hand : Stmt := top 54
abbrev N__law_hand : List Str := ["jar", "a", "rows", "bar"]
abbrev P__law_hand : List Str := ["jar", "a"]
theorem sc__law_hand : FnScope N__law_hand P__law_hand (defScope s__law_hand) := ⟨rfl, rfl, rfl, by decide +kernel, rfl, by decide +kernel, by decide +kernel⟩
def mb__law_hand : MS := (sSeq (sIf (mOr (mCmpT cEq (mVal (mBin opIx (mSlot 1) (mVal (mC (.int 0))))) (mVal (mC (.int 0)))) (mOr (mCmpT cEq (mVal (mBin opIx (mSlot 1) (mVal (mC (.int 1))))) (mVal (mC (.int 0)))) (mCmpT cEq (mVal (mDef 4 2 mb__law_draw [] (mCons (mSlot 0) (mCons (mVal (mC (.int 2))) mNil)))) (mVal (mC (.int 0)))))) (sRet (mDef 4 2 mb__law_table [] (mCons (mSlot 0) (mCons (mVal (mVar 1)) mNil)))) sNx)
  (sSeq (sSet 2 (mDef 6 2 mb__law_disguised [] (mCons (mSlot 0) (mCons (mVal (mVar 1)) mNil))))
  (sRet (mIf (mCmpT cGt (mVal (mDef 4 2 mb__law_draw [] (mCons (mSlot 0) (mCons (mVal (mC (.int 3))) mNil)))) (mVal (mC (.int 0)))) (mVar 2) (mCall (f1 oTuple) (mCons (mVal (mLc (mIter (mVar 2)) [3] (gPut 3) mYes (mCall (f1 oTuple) (mCons (mSlot 3) mNil)))) mNil))))))
/-! _law_jar -/
abbrev s__law_jar : Stmt := top 37
abbrev N__law_jar : List Str := ["script", "stir", "cell"]
abbrev P__law_jar : List Str := ["script"]
theorem sc__law_jar : FnScope N__law_jar P__law_jar (defScope s__law_jar) := ⟨rfl, rfl, rfl, by decide +kernel, rfl, by decide +kernel, by decide +kernel⟩
def mb__law_jar : MS := (sSeq (sSet 1 (mC (.int 19611)))
  (sSeq (sFor (mIter (mSl (mSlot 0) mNoPart (mPart (mVal (mC (.int 63)))))) (gPut 2) (sSet 1 (mBin opMod (mVal (mCall (f1 oInt) (mCons (mVal (mBin opAdd (mVal (mBin opAdd (mVal (mBin opMul (mSlot 1) (mVal (mC (.int 39119))))) (mVal (mBin opMod (mVal (mCall (f1 oInt) (mCons (mSlot 2) mNil))) (mVal (mC (.int 2147483629))))))) (mVal (mC (.int 4409))))) mNil))) (mVal (mC (.int 2147483587))))))
  (sRet (mList (mCons (mVal (mCall (f1 oList) (mCons (mVal (mSl (mSlot 0) mNoPart (mPart (mVal (mC (.int 63)))))) mNil))) (mCons (mVal (mC (.int 0))) (mCons (mVal (mC (.int 0))) (mCons (mVal (mC (.int 0))) (mCons (mVal (mVar 1)) (mCons (mVal (mC (.int 0))) mNil))))))))))
/-! _law_k02_is_frame -/
abbrev s__law_k02_is_frame : Stmt := top 56
abbrev N__law_k02_is_frame : List Str := ["a", "leads", "j", "rows", "i", "k"]
abbrev P__law_k02_is_frame : List Str := ["a"]
theorem sc__law_k02_is_frame : FnScope N__law_k02_is_frame P__law_k02_is_frame (defScope s__law_k02_is_frame) := ⟨rfl, rfl, rfl, by decide +kernel, rfl, by decide +kernel, by decide +kernel⟩
def mb__law_k02_is_frame : MS := (sSeq (sSet 1 (mList mNil))
  (sSeq (sFor (mRg1 (mCons (mVal (mBin opIx (mSlot 0) (mVal (mC (.int 1))))) mNil)) (gPut 2) (sSeq (sSet 3 (mLc (mRg1 (mCons (mVal (mBin opIx (mSlot 0) (mVal (mC (.int 0))))) mNil)) [4] (gPut 4) (mCmpT cNe (mVal (mBin opIx (mVal (mBin opIx (mVal (mBin opIx (mSlot 0) (mVal (mC (.int 2))))) (mSlot 4))) (mSlot 2))) (mVal (mC (.int 0)))) (mVar 4)))
  (sSeq (sIf (mOr (mCmpT cEq (mSlot 3) (mVal (mList mNil))) (mOr (mCmpT cNe (mVal (mBin opIx (mVal (mBin opIx (mVal (mBin opIx (mSlot 0) (mVal (mC (.int 2))))) (mVal (mBin opIx (mSlot 3) (mVal (mC (.int 0))))))) (mSlot 2))) (mVal (mC (.int 1)))) (mAnd (mCmpT cNe (mSlot 1) (mVal (mList mNil))) (mCmpT cGe (mVal (mBin opIx (mSlot 1) (mVal (mUn opNeg (mVal (mC (.int 1))))))) (mVal (mBin opIx (mSlot 3) (mVal (mC (.int 0))))))))) (sRet (mC (.bl false))) sNx)
  (sSeq (sIf (mCmpT cNe (mVal (mLc (mRg1 (mCons (mVal (mBin opIx (mSlot 0) (mVal (mC (.int 1))))) mNil)) [5] (gPut 5) (mAnd (mCmpT cNe (mSlot 5) (mSlot 2)) (mCmpT cNe (mVal (mBin opIx (mVal (mBin opIx (mVal (mBin opIx (mSlot 0) (mVal (mC (.int 2))))) (mVal (mBin opIx (mSlot 3) (mVal (mC (.int 0))))))) (mSlot 5))) (mVal (mC (.int 0))))) (mVar 5))) (mVal (mList mNil))) (sRet (mC (.bl false))) sNx)
  (sApp 1 (mBin opIx (mSlot 3) (mVal (mC (.int 0)))))))))
  (sRet (mC (.bl true)))))
/-! _law_taken -/
abbrev s__law_taken : Stmt := top 48
abbrev N__law_taken : List Str := ["bar", "lead", "n", "k"]
abbrev P__law_taken : List Str := ["bar", "lead", "n"]
theorem sc__law_taken : FnScope N__law_taken P__law_taken (defScope s__law_taken) := ⟨rfl, rfl, rfl, by decide +kernel, rfl, by decide +kernel, by decide +kernel⟩
def mb__law_taken : MS := (sRet (mLc (mRg1 (mCons (mVal (mCall (f1 oLen) (mCons (mSlot 0) mNil))) mNil)) [3] (gPut 3) mYes (mBin opMod (mVal (mCall (f1 oInt) (mCons (mVal (mBin opSub (mVal (mBin opIx (mSlot 0) (mSlot 3))) (mVal (mBin opMul (mSlot 2) (mVal (mBin opIx (mSlot 1) (mSlot 3))))))) mNil))) (mVal (mC (.int 1000003))))))
/-! _law_unit -/
abbrev s__law_unit : Stmt := top 43
abbrev N__law_unit : List Str := ["n", "i", "j"]
abbrev P__law_unit : List Str := ["n"]
theorem sc__law_unit : FnScope N__law_unit P__law_unit (defScope s__law_unit) := ⟨rfl, rfl, rfl, by decide +kernel, rfl, by decide +kernel, by decide +kernel⟩
def mb__law_unit : MS := (sRet (mList (mCons (mVal (mVar 0)) (mCons (mVal (mVar 0)) (mCons (mVal (mLc (mRg1 (mCons (mSlot 0) mNil)) [1] (gPut 1) mYes (mLc (mRg1 (mCons (mSlot 0) mNil)) [2] (gPut 2) mYes (mCall (f1 oInt) (mCons (mVal (mCmp cEq (mSlot 1) (mSlot 2))) mNil))))) mNil)))))
/-! _law_loose -/
abbrev s__law_loose : Stmt := top 51
abbrev N__law_loose : List Str := ["jar", "n", "made", "step", "i", "j", "m", "k", "kept"]
abbrev P__law_loose : List Str := ["jar", "n"]
theorem sc__law_loose : FnScope N__law_loose P__law_loose (defScope s__law_loose) := ⟨rfl, rfl, rfl, by decide +kernel, rfl, by decide +kernel, by decide +kernel⟩
def drawF (d : D) (t : Int) : Int × D := match mb__law_draw [.io d, .fz (.int t), .un, .un] with
  | .rt (.int v) _ (.io d' :: _) => (v, d')
  | _ => (0, d)
def rowsL (rows : List (List Int)) (i j : Nat) (m : Int) : List (List Int) := if i = j then rows.set i ((row rows i).map fun k => m * k % 1000003) else if m = 9 then (rows.set i (row rows j)).set j (row rows i) else rows.set i (takenR (row rows i) (row rows j) m)
def stepL (n : Nat) (z : D × List (List Int)) : D × List (List Int) :=
  let i := drawF z.1 n
  let j := drawF i.2 n
  let q := drawF j.2 4
  let u := drawF q.2 (if 0 < q.1 then 9 else 1000002)
  (u.2, rowsL z.2 i.1.toNat j.1.toNat (1 + u.1))
def iterL (n : Nat) : Nat → D × List (List Int) → D × List (List Int)
  | 0, z => z
  | k + 1, z => stepL n (iterL n k z)
def looseF (n : Nat) (d : D) : D × List (List Int) :=
  let c := drawF d (2 * n + 1)
  iterL n c.1.toNat (c.2, unitM n)
open Classical in
noncomputable def mb__law_loose : MS := fun e => match e with
  | .io d :: .fz (.int n) :: _ => if JOk d ∧ 0 ≤ n ∧ n ≤ 100 then .rt (dT n.toNat n.toNat (looseF n.toNat d).2) true (.io (looseF n.toNat d).1 :: List.replicate 8 .un) else .bad
  | _ => .bad
/-! _law_inverse -/
abbrev s__law_inverse : Stmt := top 47
abbrev N__law_inverse : List Str := ["n", "made", "power", "left", "k"]
abbrev P__law_inverse : List Str := ["n"]
theorem sc__law_inverse : FnScope N__law_inverse P__law_inverse (defScope s__law_inverse) := ⟨rfl, rfl, rfl, by decide +kernel, rfl, by decide +kernel, by decide +kernel⟩
def mb__law_inverse : MS := (sSeq (sSet 1 (mC (.int 1)))
  (sSeq (sSet 2 (mBin opMod (mVal (mCall (f1 oInt) (mCons (mSlot 0) mNil))) (mVal (mC (.int 1000003)))))
  (sSeq (sSet 3 (mC (.int 1000001)))
  (sSeq (sFor (mRg1 (mCons (mVal (mC (.int 20))) mNil)) (gPut 4) (sSeq (sIf (mCmpT cEq (mVal (mBin opMod (mVal (mCall (f1 oInt) (mCons (mSlot 3) mNil))) (mVal (mC (.int 2))))) (mVal (mC (.int 1)))) (sSet 1 (mBin opMod (mVal (mCall (f1 oInt) (mCons (mVal (mBin opMul (mSlot 1) (mSlot 2))) mNil))) (mVal (mC (.int 1000003))))) sNx)
  (sSeq (sSet 2 (mBin opMod (mVal (mCall (f1 oInt) (mCons (mVal (mBin opMul (mSlot 2) (mSlot 2))) mNil))) (mVal (mC (.int 1000003)))))
  (sSet 3 (mBin opDiv (mSlot 3) (mVal (mC (.int 2))))))))
  (sRetV 1)))))
/-! _law_lowered -/
abbrev s__law_lowered : Stmt := top 49
abbrev N__law_lowered : List Str := ["rows", "w", "left", "bar", "made", "leads", "j", "spots", "i", "lead", "n", "m"]
abbrev P__law_lowered : List Str := ["rows", "w"]
theorem sc__law_lowered : FnScope N__law_lowered P__law_lowered (defScope s__law_lowered) := ⟨rfl, rfl, rfl, by decide +kernel, rfl, by decide +kernel, by decide +kernel⟩
def mb__law_lowered : MS := (sSeq (sSet 2 (mLc (mIter (mVar 0)) [3] (gPut 3) mYes (mCall (f1 oList) (mCons (mSlot 3) mNil))))
  (sSeq (sSet 4 (mList mNil))
  (sSeq (sSet 5 (mList mNil))
  (sSeq (sFor (mRg1 (mCons (mSlot 1) mNil)) (gPut 6) (sSeq (sSet 7 (mLc (mRg1 (mCons (mVal (mCall (f1 oLen) (mCons (mSlot 2) mNil))) mNil)) [8] (gPut 8) (mCmpT cNe (mVal (mBin opIx (mVal (mBin opIx (mSlot 2) (mSlot 8))) (mSlot 6))) (mVal (mC (.int 0)))) (mVar 8)))
  (sSeq (sIf (mCmpT cEq (mSlot 7) (mVal (mList mNil))) (fun e => .ct e) sNx)
  (sSeq (sSet 9 (mPopAt 2 (mVal (mBin opIx (mSlot 7) (mVal (mC (.int 0)))))))
  (sSeq (sSet 10 (mDef 5 1 mb__law_inverse [] (mCons (mVal (mBin opIx (mSlot 9) (mSlot 6))) mNil)))
  (sSeq (sSet 9 (mLc (mIter (mVar 9)) [11] (gPut 11) mYes (mBin opMod (mVal (mCall (f1 oInt) (mCons (mVal (mBin opMul (mSlot 11) (mSlot 10))) mNil))) (mVal (mC (.int 1000003))))))
  (sSeq (sSet 2 (mLc (mIter (mVar 2)) [3] (gPut 3) mYes (mIf (mCmpT cNe (mVal (mBin opIx (mSlot 3) (mSlot 6))) (mVal (mC (.int 0)))) (mDef 4 3 mb__law_taken [] (mCons (mVal (mVar 3)) (mCons (mVal (mVar 9)) (mCons (mVal (mBin opIx (mSlot 3) (mSlot 6))) mNil)))) (mVar 3))))
  (sSeq (sSet 4 (mLc (mIter (mVar 4)) [3] (gPut 3) mYes (mIf (mCmpT cNe (mVal (mBin opIx (mSlot 3) (mSlot 6))) (mVal (mC (.int 0)))) (mDef 4 3 mb__law_taken [] (mCons (mVal (mVar 3)) (mCons (mVal (mVar 9)) (mCons (mVal (mBin opIx (mSlot 3) (mSlot 6))) mNil)))) (mVar 3))))
  (sSeq (sApp 4 (mVar 9))
  (sApp 5 (mVar 6)))))))))))
  (sRet (mList (mCons (mVal (mVar 4)) (mCons (mVal (mVar 5)) mNil))))))))
/-! _law_rank -/
abbrev s__law_rank : Stmt := top 50
abbrev N__law_rank : List Str := ["a"]
abbrev P__law_rank : List Str := ["a"]
theorem sc__law_rank : FnScope N__law_rank P__law_rank (defScope s__law_rank) := ⟨rfl, rfl, rfl, by decide +kernel, rfl, by decide +kernel, by decide +kernel⟩
def mb__law_rank : MS := (sRet (mCall (f1 oLen) (mCons (mVal (mBin opIx (mVal (mDef 12 2 mb__law_lowered [] (mCons (mVal (mBin opIx (mSlot 0) (mVal (mC (.int 2))))) (mCons (mVal (mBin opIx (mSlot 0) (mVal (mC (.int 1))))) mNil)))) (mVal (mC (.int 1))))) mNil)))
/-! _law_is_whole -/
abbrev s__law_is_whole : Stmt := top 39
abbrev N__law_is_whole : List Str := ["n"]
abbrev P__law_is_whole : List Str := ["n"]
theorem sc__law_is_whole : FnScope N__law_is_whole P__law_is_whole (defScope s__law_is_whole) := ⟨rfl, rfl, rfl, by decide +kernel, rfl, by decide +kernel, by decide +kernel⟩
def mb__law_is_whole : MS := (sRet (mAndV (mVal (mIsi 0 (tbB "int") (fun _ => none) (mSlot 0))) (mUn opNot (mVal (mIsi 0 (tbB "bool") (fun _ => none) (mSlot 0))))))
/-! _law_seen -/
abbrev s__law_seen : Stmt := top 55
abbrev N__law_seen : List Str := ["t", "bar", "n"]
abbrev P__law_seen : List Str := ["t"]
theorem sc__law_seen : FnScope N__law_seen P__law_seen (defScope s__law_seen) := ⟨rfl, rfl, rfl, by decide +kernel, rfl, by decide +kernel, by decide +kernel⟩
def mb__law_seen : MS := (sSeq (sIf (mOr (mNot (mTru (mVal (mIsi 1 tbO ob_Table (mSlot 0))))) (mOr (mNot (mTru (mVal (mDef 1 1 mb__law_is_whole [] (mCons (mVal (mUn (opAtt 1 flT 0) (mSlot 0))) mNil))))) (mOr (mNot (mTru (mVal (mDef 1 1 mb__law_is_whole [] (mCons (mVal (mUn (opAtt 1 flT 1) (mSlot 0))) mNil))))) (mNot (mTru (mVal (mIsi 0 (tbB "tuple") (fun _ => none) (mVal (mUn (opAtt 1 flT 2) (mSlot 0)))))))))) (sRet (mC .non)) sNx)
  (sSeq (sIf (mOr (mCmpT cNe (mVal (mCall (f1 oLen) (mCons (mVal (mUn (opAtt 1 flT 2) (mSlot 0))) mNil))) (mVal (mUn (opAtt 1 flT 0) (mSlot 0)))) (mCmpT cLt (mVal (mUn (opAtt 1 flT 1) (mSlot 0))) (mVal (mC (.int 0))))) (sRet (mC .non)) sNx)
  (sSeq (sFor (mIter (mUn (opAtt 1 flT 2) (mSlot 0))) (gPut 1) (sIf (mOr (mNot (mTru (mVal (mIsi 0 (tbB "tuple") (fun _ => none) (mSlot 1))))) (mOr (mCmpT cNe (mVal (mCall (f1 oLen) (mCons (mSlot 1) mNil))) (mVal (mUn (opAtt 1 flT 1) (mSlot 0)))) (mCmpT cNe (mVal (mLc (mIter (mVar 1)) [2] (gPut 2) (mOr (mNot (mTru (mVal (mDef 1 1 mb__law_is_whole [] (mCons (mVal (mVar 2)) mNil))))) (mOr (mCmpT cLt (mSlot 2) (mVal (mC (.int 0)))) (mCmpT cGe (mSlot 2) (mVal (mC (.int 1000003)))))) (mVar 2))) (mVal (mList mNil))))) (sRet (mC .non)) sNx))
  (sRet (mList (mCons (mVal (mUn (opAtt 1 flT 0) (mSlot 0))) (mCons (mVal (mUn (opAtt 1 flT 1) (mSlot 0))) (mCons (mVal (mLc (mIter (mUn (opAtt 1 flT 2) (mSlot 0))) [1] (gPut 1) mYes (mCall (f1 oList) (mCons (mSlot 1) mNil)))) mNil))))))))
/-! columns_of -/
abbrev s_columns_of : Stmt := top 15
abbrev N_columns_of : List Str := ["rows", "width", "at", "row"]
abbrev P_columns_of : List Str := ["rows", "width"]
theorem sc_columns_of : FnScope N_columns_of P_columns_of (defScope s_columns_of) := ⟨rfl, rfl, rfl, by decide +kernel, rfl, by decide +kernel, by decide +kernel⟩
def mb_columns_of : MS := (sRet (mLc (mRg1 (mCons (mSlot 1) mNil)) [2] (gPut 2) mYes (mLc (mIter (mVar 0)) [3] (gPut 3) mYes (mBin opIx (mSlot 3) (mSlot 2)))))
/-! cleared -/
abbrev s_cleared : Stmt := top 13
abbrev N_cleared : List Str := ["row", "tail", "column", "factor", "n", "m"]
abbrev P_cleared : List Str := ["row", "tail", "column"]
theorem sc_cleared : FnScope N_cleared P_cleared (defScope s_cleared) := ⟨rfl, rfl, rfl, by decide +kernel, rfl, by decide +kernel, by decide +kernel⟩
def mb_cleared : MS := (sSeq (sSet 3 (mBin opIx (mSlot 0) (mSlot 2)))
  (sSeq (sIf (mCmpT cEq (mSlot 3) (mVal (mC (.int 0)))) (sRetV 0) sNx)
  (sRet (mBin opAdd (mVal (mSl (mSlot 0) mNoPart (mPart (mSlot 2)))) (mVal (mLc (mZip (mCons (mVal (mSl (mSlot 0) (mPart (mSlot 2)) mNoPart)) (mCons (mVal (mVar 1)) mNil))) [4, 5] (gTupD (gsCons (gPut 4) (gsCons (gPut 5) gsNil)) 2) mYes (mBin opMod (mVal (mBin opSub (mSlot 4) (mVal (mBin opMul (mSlot 3) (mSlot 5))))) (mVal (mC (.int 1000003))))))))))
/-! lead_row -/
abbrev s_lead_row : Stmt := top 11
abbrev N_lead_row : List Str := ["rows", "column", "at", "row"]
abbrev P_lead_row : List Str := ["rows", "column"]
theorem sc_lead_row : FnScope N_lead_row P_lead_row (defScope s_lead_row) := ⟨rfl, rfl, rfl, by decide +kernel, rfl, by decide +kernel, by decide +kernel⟩
def mb_lead_row : MS := (sSeq (sFor (mEnumA (mCons (mVal (mVar 0)) mNil)) (gTupD (gsCons (gPut 2) (gsCons (gPut 3) gsNil)) 2) (sIf (mTru (mVal (mBin opIx (mSlot 3) (mSlot 1)))) (sRetV 2) sNx))
  (sRet (mUn opNeg (mVal (mC (.int 1))))))
/-! inverse -/
abbrev s_inverse : Stmt := top 10
abbrev N_inverse : List Str := ["n", "low", "high", "first", "second", "factor"]
abbrev P_inverse : List Str := ["n"]
theorem sc_inverse : FnScope N_inverse P_inverse (defScope s_inverse) := ⟨rfl, rfl, rfl, by decide +kernel, rfl, by decide +kernel, by decide +kernel⟩
def fuel_inverse : Env → Nat := fun _ => 1000010
def mb_inverse : MS := (sSeq (sPar 1 2 (mCons (mVal (mBin opMod (mSlot 0) (mVal (mC (.int 1000003))))) (mCons (mVal (mC (.int 1000003))) mNil)))
  (sSeq (sAsg (mTup (mCons (mVal (mC (.int 1))) (mCons (mVal (mC (.int 0))) mNil))) (gTupD (gsCons (gPut 3) (gsCons (gPut 4) gsNil)) 2))
  (sSeq (sWhile fuel_inverse (mCmpT cGt (mSlot 1) (mVal (mC (.int 1)))) (sSeq (sSet 5 (mBin opDiv (mSlot 2) (mSlot 1)))
  (sSeq (sPar 1 2 (mCons (mVal (mBin opSub (mSlot 2) (mVal (mBin opMul (mSlot 5) (mSlot 1))))) (mCons (mVal (mVar 1)) mNil)))
  (sPar 3 4 (mCons (mVal (mBin opSub (mSlot 4) (mVal (mBin opMul (mSlot 5) (mSlot 3))))) (mCons (mVal (mVar 3)) mNil))))))
  (sRet (mBin opMod (mSlot 3) (mVal (mC (.int 1000003))))))))
/-! unit_tail -/
abbrev s_unit_tail : Stmt := top 12
abbrev N_unit_tail : List Str := ["row", "column", "factor", "n"]
abbrev P_unit_tail : List Str := ["row", "column"]
theorem sc_unit_tail : FnScope N_unit_tail P_unit_tail (defScope s_unit_tail) := ⟨rfl, rfl, rfl, by decide +kernel, rfl, by decide +kernel, by decide +kernel⟩
def mb_unit_tail : MS := (sSeq (sSet 2 (mDef 6 1 mb_inverse [] (mCons (mVal (mBin opIx (mSlot 0) (mSlot 1))) mNil)))
  (sRet (mLc (mIter (mSl (mSlot 0) (mPart (mSlot 1)) mNoPart)) [3] (gPut 3) mYes (mBin opMod (mVal (mBin opMul (mSlot 3) (mSlot 2))) (mVal (mC (.int 1000003)))))))
/-! echelon -/
abbrev s_echelon : Stmt := top 14
abbrev N_echelon : List Str := ["rows", "width", "left", "row", "done", "pivots", "column", "at", "tail"]
abbrev P_echelon : List Str := ["rows", "width"]
theorem sc_echelon : FnScope N_echelon P_echelon (defScope s_echelon) := ⟨rfl, rfl, rfl, by decide +kernel, rfl, by decide +kernel, by decide +kernel⟩
def mb_echelon : MS := (sSeq (sSet 2 (mLc (mIter (mVar 0)) [3] (gPut 3) mYes (mCall (f1 oList) (mCons (mSlot 3) mNil))))
  (sSeq (sSet 4 (mList mNil))
  (sSeq (sSet 5 (mList mNil))
  (sSeq (sFor (mRg1 (mCons (mSlot 1) mNil)) (gPut 6) (sSeq (sSet 7 (mLend 4 2 mb_lead_row [] (mCons (mSlot 2) (mCons (mVal (mVar 6)) mNil))))
  (sSeq (sIf (mCmpT cLt (mSlot 7) (mVal (mC (.int 0)))) (fun e => .ct e) sNx)
  (sSeq (sSet 8 (mDef 4 2 mb_unit_tail [] (mCons (mVal (mPopAt 2 (mSlot 7))) (mCons (mVal (mVar 6)) mNil))))
  (sSeq (sSet 2 (mLc (mIter (mVar 2)) [3] (gPut 3) mYes (mDef 6 3 mb_cleared [] (mCons (mVal (mVar 3)) (mCons (mVal (mVar 8)) (mCons (mVal (mVar 6)) mNil))))))
  (sSeq (sSet 4 (mLc (mIter (mVar 4)) [3] (gPut 3) mYes (mDef 6 3 mb_cleared [] (mCons (mVal (mVar 3)) (mCons (mVal (mVar 8)) (mCons (mVal (mVar 6)) mNil))))))
  (sSeq (sApp 4 (mBin opAdd (mVal (mBin opMul (mVal (mList (mCons (mVal (mC (.int 0))) mNil))) (mSlot 6))) (mSlot 8)))
  (sApp 5 (mVar 6)))))))))
  (sRet (mTup (mCons (mVal (mVar 4)) (mCons (mVal (mVar 5)) mNil))))))))
/-! table_of -/
abbrev s_table_of : Stmt := top 32
abbrev N_table_of : List Str := ["thing"]
abbrev P_table_of : List Str := ["thing"]
theorem sc_table_of : FnScope N_table_of P_table_of (defScope s_table_of) := ⟨rfl, rfl, rfl, by decide +kernel, rfl, by decide +kernel, by decide +kernel⟩
def mb_table_of : MS := (sSeq (sIf (mTru (mVal (mIsi 1 tbO ob_Table (mSlot 0)))) (sRetV 0) sNx)
  (sSeq (sIf (mOr (mCmpT cEq (mVal (mCall (f1 oLen) (mCons (mSlot 0) mNil))) (mVal (mC (.int 0)))) (mCmpT cEq (mVal (mCall (f1 oLen) (mCons (mVal (mBin opIx (mSlot 0) (mVal (mC (.int 0))))) mNil))) (mVal (mC (.int 0))))) sBad sNx)
  (sRet (mMake 0 8 4 mb_Table___init__ [] (mCons (mVal (mCall (f1 oLen) (mCons (mSlot 0) mNil))) (mCons (mVal (mCall (f1 oLen) (mCons (mVal (mBin opIx (mSlot 0) (mVal (mC (.int 0))))) mNil))) (mCons (mVal (mVar 0)) mNil)))))))
/-! table_of_columns -/
abbrev s_table_of_columns : Stmt := top 33
abbrev N_table_of_columns : List Str := ["height", "columns"]
abbrev P_table_of_columns : List Str := ["height", "columns"]
theorem sc_table_of_columns : FnScope N_table_of_columns P_table_of_columns (defScope s_table_of_columns) := ⟨rfl, rfl, rfl, by decide +kernel, rfl, by decide +kernel, by decide +kernel⟩
def mb_table_of_columns : MS := (sRet (mMake 0 8 4 mb_Table___init__ [] (mCons (mVal (mVar 0)) (mCons (mVal (mCall (f1 oLen) (mCons (mSlot 1) mNil))) (mCons (mVal (mDef 4 2 mb_columns_of [] (mCons (mVal (mVar 1)) (mCons (mVal (mVar 0)) mNil)))) mNil)))))
/-! frame -/
abbrev s_frame : Stmt := top 34
abbrev N_frame : List Str := ["t", "found", "columns", "_"]
abbrev P_frame : List Str := ["t"]
theorem sc_frame : FnScope N_frame P_frame (defScope s_frame) := ⟨rfl, rfl, rfl, by decide +kernel, rfl, by decide +kernel, by decide +kernel⟩
def mb_frame : MS := (sSeq (sSet 1 (mDef 1 1 mb_table_of [] (mCons (mVal (mVar 0)) mNil)))
  (sSeq (sAsg (mDef 9 2 mb_echelon [] (mCons (mVal (mDef 4 2 mb_columns_of [] (mCons (mVal (mUn (opAtt 1 flT 2) (mSlot 1))) (mCons (mVal (mUn (opAtt 1 flT 1) (mSlot 1))) mNil)))) (mCons (mVal (mUn (opAtt 1 flT 0) (mSlot 1))) mNil))) (gTupD (gsCons (gPut 2) (gsCons (gPut 3) gsNil)) 2))
  (sRet (mDef 2 2 mb_table_of_columns [] (mCons (mVal (mUn (opAtt 1 flT 0) (mSlot 1))) (mCons (mVal (mVar 2)) mNil))))))
/-! null_column -/
abbrev s_null_column : Stmt := top 17
abbrev N_null_column : List Str := ["reduced", "pivots", "width", "free", "column", "_", "row", "pivot"]
abbrev P_null_column : List Str := ["reduced", "pivots", "width", "free"]
theorem sc_null_column : FnScope N_null_column P_null_column (defScope s_null_column) := ⟨rfl, rfl, rfl, by decide +kernel, rfl, by decide +kernel, by decide +kernel⟩
def mb_null_column : MS := (sSeq (sSet 4 (mLc (mRg1 (mCons (mSlot 2) mNil)) [5] (gPut 5) mYes (mC (.int 0))))
  (sSeq (sSetIx 4 (mC (.int 1)) (mVal (mBin opSub (mVal (mBin opSub (mSlot 2) (mVal (mC (.int 1))))) (mSlot 3))))
  (sSeq (sFor (mZip (mCons (mVal (mVar 0)) (mCons (mVal (mVar 1)) mNil))) (gTupD (gsCons (gPut 6) (gsCons (gPut 7) gsNil)) 2) (sSetIx 4 (mBin opMod (mVal (mUn opNeg (mVal (mBin opIx (mSlot 6) (mSlot 3))))) (mVal (mC (.int 1000003)))) (mVal (mBin opSub (mVal (mBin opSub (mSlot 2) (mVal (mC (.int 1))))) (mSlot 7)))))
  (sRetV 4))))
/-! null_columns -/
abbrev s_null_columns : Stmt := top 16
abbrev N_null_columns : List Str := ["rows", "width", "reduced", "pivots", "row", "places", "free"]
abbrev P_null_columns : List Str := ["rows", "width"]
theorem sc_null_columns : FnScope N_null_columns P_null_columns (defScope s_null_columns) := ⟨rfl, rfl, rfl, by decide +kernel, rfl, by decide +kernel, by decide +kernel⟩
def mb_null_columns : MS := (sSeq (sAsg (mDef 9 2 mb_echelon [] (mCons (mVal (mLc (mIter (mVar 0)) [4] (gPut 4) mYes (mUn opRev (mSlot 4)))) (mCons (mVal (mVar 1)) mNil))) (gTupD (gsCons (gPut 2) (gsCons (gPut 3) gsNil)) 2))
  (sSeq (sSet 5 (mUn opRev (mVal (mUn oRange (mSlot 1)))))
  (sRet (mLc (mIter (mVar 5)) [6] (gPut 6) (mCmpT cNotIn (mSlot 6) (mSlot 3)) (mDef 8 4 mb_null_column [] (mCons (mVal (mVar 2)) (mCons (mVal (mVar 3)) (mCons (mVal (mVar 1)) (mCons (mVal (mVar 6)) mNil)))))))))
/-! kernel -/
abbrev s_kernel : Stmt := top 35
abbrev N_kernel : List Str := ["t", "found"]
abbrev P_kernel : List Str := ["t"]
theorem sc_kernel : FnScope N_kernel P_kernel (defScope s_kernel) := ⟨rfl, rfl, rfl, by decide +kernel, rfl, by decide +kernel, by decide +kernel⟩
def mb_kernel : MS := (sSeq (sSet 1 (mDef 1 1 mb_table_of [] (mCons (mVal (mVar 0)) mNil)))
  (sRet (mDef 2 2 mb_table_of_columns [] (mCons (mVal (mUn (opAtt 1 flT 1) (mSlot 1))) (mCons (mVal (mDef 7 2 mb_null_columns [] (mCons (mVal (mUn (opAtt 1 flT 2) (mSlot 1))) (mCons (mVal (mUn (opAtt 1 flT 1) (mSlot 1))) mNil)))) mNil)))))
/-! law -/
abbrev s_law : Stmt := top 57
abbrev N_law : List Str := ["script", "jar", "turn", "h", "w", "a", "thin", "size", "table", "room", "none", "mixed", "rows"]
abbrev P_law : List Str := ["script"]
theorem sc_law : FnScope N_law P_law (defScope s_law) := ⟨rfl, rfl, rfl, by decide +kernel, rfl, by decide +kernel, by decide +kernel⟩
noncomputable def mb_law : MS := (sSeq (sSet 1 (mDef 3 1 mb__law_jar [] (mCons (mVal (mVar 0)) mNil)))
  (sSeq (sFor (mRg1 (mCons (mVal (mC (.int 3))) mNil)) (gPut 2) (sSeq (sSet 3 (mDef 4 2 mb__law_draw [] (mCons (mSlot 1) (mCons (mVal (mC (.int 7))) mNil))))
  (sSeq (sSet 4 (mDef 4 2 mb__law_draw [] (mCons (mSlot 1) (mCons (mVal (mC (.int 6))) mNil))))
  (sSeq (sSet 5 (mDef 10 3 mb__law_grid [] (mCons (mSlot 1) (mCons (mVal (mVar 3)) (mCons (mVal (mVar 4)) mNil)))))
  (sSeq (sIf (mCmpT cEq (mVal (mDef 4 2 mb__law_draw [] (mCons (mSlot 1) (mCons (mVal (mC (.int 3))) mNil)))) (mVal (mC (.int 0)))) (sSeq (sSet 6 (mDef 4 2 mb__law_draw [] (mCons (mSlot 1) (mCons (mVal (mBin opAdd (mVal (mCall (f2 oMin2) (mCons (mSlot 3) (mCons (mSlot 4) mNil)))) (mVal (mC (.int 1))))) mNil))))
  (sSet 5 (mDef 9 2 mb__law_prod [] (mCons (mVal (mDef 10 3 mb__law_grid [] (mCons (mSlot 1) (mCons (mVal (mVar 3)) (mCons (mVal (mVar 6)) mNil))))) (mCons (mVal (mDef 10 3 mb__law_grid [] (mCons (mSlot 1) (mCons (mVal (mVar 6)) (mCons (mVal (mVar 4)) mNil))))) mNil))))) sNx)
  (sSeq (sSet 7 (mDef 1 1 mb__law_rank [] (mCons (mVal (mVar 5)) mNil)))
  (sSeq (sSet 8 (mDef 4 2 mb__law_table [] (mCons (mSlot 1) (mCons (mVal (mVar 5)) mNil))))
  (sSeq (sSet 9 (mDef 3 1 mb__law_seen [] (mCons (mVal (mDef 4 1 mb_frame [] (mCons (mVal (mVar 8)) mNil))) mNil)))
  (sSeq (sIf (mOr (mCmpT cIs (mSlot 9) (mVal (mC .non))) (mOr (mCmpT cNe (mVal (mBin opIx (mSlot 9) (mVal (mC (.int 0))))) (mSlot 3)) (mOr (mCmpT cNe (mVal (mBin opIx (mSlot 9) (mVal (mC (.int 1))))) (mSlot 7)) (mOr (mNot (mTru (mVal (mDef 6 1 mb__law_k02_is_frame [] (mCons (mVal (mVar 9)) mNil))))) (mCmpT cNe (mVal (mDef 1 1 mb__law_rank [] (mCons (mVal (mDef 3 2 mb__law_aside [] (mCons (mVal (mVar 9)) (mCons (mVal (mVar 5)) mNil)))) mNil))) (mSlot 7)))))) (sRet (mC (.bl false))) sNx)
  (sSeq (sSet 10 (mDef 3 1 mb__law_seen [] (mCons (mVal (mDef 2 1 mb_kernel [] (mCons (mVal (mDef 4 2 mb__law_hand [] (mCons (mSlot 1) (mCons (mVal (mVar 5)) mNil)))) mNil))) mNil)))
  (sSeq (sIf (mOr (mCmpT cIs (mSlot 10) (mVal (mC .non))) (mOr (mCmpT cNe (mVal (mBin opIx (mSlot 10) (mVal (mC (.int 0))))) (mSlot 4)) (mOr (mCmpT cNe (mVal (mBin opIx (mSlot 10) (mVal (mC (.int 1))))) (mVal (mBin opSub (mSlot 4) (mSlot 7)))) (mNot (mTru (mVal (mDef 6 1 mb__law_k02_is_frame [] (mCons (mVal (mVar 10)) mNil)))))))) (sRet (mC (.bl false))) sNx)
  (sSeq (sIf (mNot (mTru (mVal (mDef 2 1 mb__law_is_zero [] (mCons (mVal (mDef 9 2 mb__law_prod [] (mCons (mVal (mVar 5)) (mCons (mVal (mVar 10)) mNil)))) mNil))))) (sRet (mC (.bl false))) sNx)
  (sSeq (sSet 11 (mDef 9 2 mb__law_prod [] (mCons (mVal (mVar 5)) (mCons (mVal (mDef 9 2 mb__law_loose [] (mCons (mSlot 1) (mCons (mVal (mVar 4)) mNil)))) mNil))))
  (sSeq (sSet 11 (mDef 3 2 mb__law_aside [] (mCons (mVal (mVar 11)) (mCons (mVal (mDef 9 2 mb__law_prod [] (mCons (mVal (mVar 11)) (mCons (mVal (mDef 10 3 mb__law_grid [] (mCons (mSlot 1) (mCons (mVal (mVar 4)) (mCons (mVal (mDef 4 2 mb__law_draw [] (mCons (mSlot 1) (mCons (mVal (mC (.int 3))) mNil)))) mNil))))) mNil)))) mNil))))
  (sSeq (sIf (mOr (mCmpT cNe (mVal (mDef 3 1 mb__law_seen [] (mCons (mVal (mDef 4 1 mb_frame [] (mCons (mVal (mDef 4 2 mb__law_hand [] (mCons (mSlot 1) (mCons (mVal (mVar 11)) mNil)))) mNil))) mNil))) (mSlot 9)) (mCmpT cNe (mVal (mDef 3 1 mb__law_seen [] (mCons (mVal (mDef 4 1 mb_frame [] (mCons (mVal (mDef 4 2 mb__law_hand [] (mCons (mSlot 1) (mCons (mVal (mVar 9)) mNil)))) mNil))) mNil))) (mSlot 9))) (sRet (mC (.bl false))) sNx)
  (sSeq (sSet 12 (mDef 9 2 mb__law_prod [] (mCons (mVal (mDef 9 2 mb__law_loose [] (mCons (mSlot 1) (mCons (mVal (mVar 3)) mNil)))) (mCons (mVal (mVar 5)) mNil))))
  (sSeq (sIf (mOr (mCmpT cNe (mVal (mDef 3 1 mb__law_seen [] (mCons (mVal (mDef 2 1 mb_kernel [] (mCons (mVal (mDef 4 2 mb__law_hand [] (mCons (mSlot 1) (mCons (mVal (mVar 12)) mNil)))) mNil))) mNil))) (mSlot 10)) (mCmpT cNe (mVal (mDef 3 1 mb__law_seen [] (mCons (mVal (mVar 8)) mNil))) (mSlot 5))) (sRet (mC (.bl false))) sNx)
  (sIf (mOr (mCmpT cNe (mVal (mBin opIx (mVal (mDef 3 1 mb__law_seen [] (mCons (mVal (mDef 2 1 mb_kernel [] (mCons (mVal (mDef 4 2 mb__law_hand [] (mCons (mSlot 1) (mCons (mVal (mVar 10)) mNil)))) mNil))) mNil))) (mVal (mC (.int 1))))) (mVal (mC (.int 0)))) (mCmpT cNe (mVal (mDef 3 1 mb__law_seen [] (mCons (mVal (mDef 4 1 mb_frame [] (mCons (mVal (mVar 8)) mNil))) mNil))) (mSlot 9))) (sRet (mC (.bl false))) sNx))))))))))))))))))
  (sRet (mC (.bl true)))))
end DV
-- K2HA
namespace DV
open PySem PySem.Spec PyProof.Rows L2
def hfa : List He.Fa := [.glo "_law_aside",
  .glo "_law_draw",
  .glo "_law_empty",
  .glo "_law_number",
  .glo "_law_prod",
  .glo "_law_grid",
  .glo "_law_disguised",
  .glo "table_text",
  .glo "_law_is_zero",
  .glo "_law_table",
  .glo "_law_hand",
  .glo "_law_jar",
  .glo "_law_k02_is_frame",
  .glo "_law_taken",
  .glo "_law_unit",
  .glo "_law_loose",
  .glo "_law_inverse",
  .glo "_law_lowered",
  .glo "_law_rank",
  .glo "_law_is_whole",
  .glo "_law_seen",
  .glo "columns_of",
  .glo "cleared",
  .glo "lead_row",
  .glo "inverse",
  .glo "unit_tail",
  .glo "echelon",
  .glo "table_of",
  .glo "table_of_columns",
  .glo "frame",
  .glo "null_column",
  .glo "null_columns",
  .glo "kernel",
  .glo "law",
  .free "bool",
  .free "enumerate",
  .free "int",
  .free "isinstance",
  .free "len",
  .free "list",
  .free "max",
  .free "min",
  .free "range",
  .free "str",
  .free "tuple",
  .free "zip",
  .int "PRIME_modular" (1000003),
  .int "PRIME_tables" (1000003),
  .glo "Table",
  .cls "Table",
  .mkr "Table",
  .noat "Table" "height",
  .noat "Table" "width",
  .noat "Table" "rows",
  .noat "Table" "text"]
def hfn : List He.DefD := [⟨("_law_aside", none), "_law_aside", "_law_aside", defArgs s__law_aside, defBody s__law_aside, defScope s__law_aside, [], []⟩,
  ⟨("_law_draw", none), "_law_draw", "_law_draw", defArgs s__law_draw, defBody s__law_draw, defScope s__law_draw, [], []⟩,
  ⟨("_law_empty", none), "_law_empty", "_law_empty", defArgs s__law_empty, defBody s__law_empty, defScope s__law_empty, [], []⟩,
  ⟨("_law_number", none), "_law_number", "_law_number", defArgs s__law_number, defBody s__law_number, defScope s__law_number, [], []⟩,
  ⟨("_law_prod", none), "_law_prod", "_law_prod", defArgs s__law_prod, defBody s__law_prod, defScope s__law_prod, [], []⟩,
  ⟨("_law_grid", none), "_law_grid", "_law_grid", defArgs s__law_grid, defBody s__law_grid, defScope s__law_grid, [], []⟩,
  ⟨("_law_disguised", none), "_law_disguised", "_law_disguised", defArgs s__law_disguised, defBody s__law_disguised, defScope s__law_disguised, [], []⟩,
  ⟨("table_text", none), "table_text", "table_text", defArgs s_table_text, defBody s_table_text, defScope s_table_text, [], []⟩,
  ⟨("Table", some "__init__"), "__init__", "Table.__init__", defArgs s_Table___init__, defBody s_Table___init__, defScope s_Table___init__, [.non], []⟩,
  ⟨("_law_is_zero", none), "_law_is_zero", "_law_is_zero", defArgs s__law_is_zero, defBody s__law_is_zero, defScope s__law_is_zero, [], []⟩,
  ⟨("_law_table", none), "_law_table", "_law_table", defArgs s__law_table, defBody s__law_table, defScope s__law_table, [], []⟩,
  ⟨("_law_hand", none), "_law_hand", "_law_hand", defArgs s__law_hand, defBody s__law_hand, defScope s__law_hand, [], []⟩,
  ⟨("_law_jar", none), "_law_jar", "_law_jar", defArgs s__law_jar, defBody s__law_jar, defScope s__law_jar, [], []⟩,
  ⟨("_law_k02_is_frame", none), "_law_k02_is_frame", "_law_k02_is_frame", defArgs s__law_k02_is_frame, defBody s__law_k02_is_frame, defScope s__law_k02_is_frame, [], []⟩,
  ⟨("_law_taken", none), "_law_taken", "_law_taken", defArgs s__law_taken, defBody s__law_taken, defScope s__law_taken, [], []⟩,
  ⟨("_law_unit", none), "_law_unit", "_law_unit", defArgs s__law_unit, defBody s__law_unit, defScope s__law_unit, [], []⟩,
  ⟨("_law_loose", none), "_law_loose", "_law_loose", defArgs s__law_loose, defBody s__law_loose, defScope s__law_loose, [], []⟩,
  ⟨("_law_inverse", none), "_law_inverse", "_law_inverse", defArgs s__law_inverse, defBody s__law_inverse, defScope s__law_inverse, [], []⟩,
  ⟨("_law_lowered", none), "_law_lowered", "_law_lowered", defArgs s__law_lowered, defBody s__law_lowered, defScope s__law_lowered, [], []⟩,
  ⟨("_law_rank", none), "_law_rank", "_law_rank", defArgs s__law_rank, defBody s__law_rank, defScope s__law_rank, [], []⟩,
  ⟨("_law_is_whole", none), "_law_is_whole", "_law_is_whole", defArgs s__law_is_whole, defBody s__law_is_whole, defScope s__law_is_whole, [], []⟩,
  ⟨("_law_seen", none), "_law_seen", "_law_seen", defArgs s__law_seen, defBody s__law_seen, defScope s__law_seen, [], []⟩,
  ⟨("columns_of", none), "columns_of", "columns_of", defArgs s_columns_of, defBody s_columns_of, defScope s_columns_of, [], []⟩,
  ⟨("cleared", none), "cleared", "cleared", defArgs s_cleared, defBody s_cleared, defScope s_cleared, [], []⟩,
  ⟨("lead_row", none), "lead_row", "lead_row", defArgs s_lead_row, defBody s_lead_row, defScope s_lead_row, [], []⟩,
  ⟨("inverse", none), "inverse", "inverse", defArgs s_inverse, defBody s_inverse, defScope s_inverse, [], []⟩,
  ⟨("unit_tail", none), "unit_tail", "unit_tail", defArgs s_unit_tail, defBody s_unit_tail, defScope s_unit_tail, [], []⟩,
  ⟨("echelon", none), "echelon", "echelon", defArgs s_echelon, defBody s_echelon, defScope s_echelon, [], []⟩,
  ⟨("table_of", none), "table_of", "table_of", defArgs s_table_of, defBody s_table_of, defScope s_table_of, [], []⟩,
  ⟨("table_of_columns", none), "table_of_columns", "table_of_columns", defArgs s_table_of_columns, defBody s_table_of_columns, defScope s_table_of_columns, [], []⟩,
  ⟨("frame", none), "frame", "frame", defArgs s_frame, defBody s_frame, defScope s_frame, [], []⟩,
  ⟨("null_column", none), "null_column", "null_column", defArgs s_null_column, defBody s_null_column, defScope s_null_column, [], []⟩,
  ⟨("null_columns", none), "null_columns", "null_columns", defArgs s_null_columns, defBody s_null_columns, defScope s_null_columns, [], []⟩,
  ⟨("kernel", none), "kernel", "kernel", defArgs s_kernel, defBody s_kernel, defScope s_kernel, [], []⟩,
  ⟨("law", none), "law", "law", defArgs s_law, defBody s_law, defScope s_law, [], []⟩]
def hexs (K : PySem.W.Frag) : List Bool := [decide (PySem.W.kitOne K (.type "NoneType") (.ref (He.ga K "Table")) = some false),
  decide (PySem.W.kitOne K (.type "bool") (.ref (He.ga K "Table")) = some false),
  decide (PySem.W.kitOne K (.type "int") (.ref (He.ga K "Table")) = some false),
  decide (PySem.W.kitOne K (.type "str") (.ref (He.ga K "Table")) = some false),
  decide (PySem.W.kitOne K (.type "list") (.ref (He.ga K "Table")) = some false),
  decide (PySem.W.kitOne K (.type "tuple") (.ref (He.ga K "Table")) = some false),
  decide (PySem.W.kitOne K (.type "dict") (.ref (He.ga K "Table")) = some false),
  decide (PySem.W.kitOne K (.ref (He.ga K "Table")) (.ref (He.ga K "Table")) = some true),
  He.eqO (PySem.W.findIn K (.ref (He.ga K "Table")) "__class__") (some (some (.builtin "object.__class__"))),
  decide (PySem.W.mroIn K (He.ga K "Table") (.type "object") = some true),
  He.eqO (PySem.W.specialIn K (.builtin "object.__class__") "__get__") (some (some (.builtin "getset_descriptor.__get__"))),
  decide (PySem.W.takesIn K (.builtin "object.__class__") = some true)]
def hex (K : PySem.W.Frag) : Bool := (hexs K).all id
abbrev R0 : PySem.W.OpenRow := PySem.W.OpenLaw.row PySem.Challenge.rw_partsofparts_k02_frames_of_rooms
abbrev hk : PySem.W.Hook := He.hookX 4 hfa hfn [] [] hex
def ob (s : PySem.W.SharedT) : He.AlX := He.obsX 4 hfa hfn [] [] hex (HandSHeadRun.getT s)
theorem ob_eq (s : PySem.W.SharedT) : ob s = hk.obs s.abs := He.obsX_eq (HandSHeadRun.getT_eq s)
def loose0 : List Str := [("_wall" : Str), ("__name__" : Str), ("BadTable" : Str), ("TooMany" : Str), ("LIMITS" : Str), ("check" : Str), ("check_text" : Str), ("PRIME_modular" : Str), ("inverse" : Str), ("lead_row" : Str), ("unit_tail" : Str), ("cleared" : Str), ("echelon" : Str), ("columns_of" : Str), ("null_columns" : Str), ("null_column" : Str), ("multiply" : Str), ("DIGITS" : Str), ("read_number" : Str), ("read_numbers" : Str), ("split_words" : Str), ("read_rows" : Str), ("PRIME_tables" : Str), ("Table" : Str), ("table_text" : Str), ("combined" : Str), ("scaled" : Str), ("read_cells" : Str), ("table_of" : Str), ("table_of_columns" : Str), ("frame" : Str), ("kernel" : Str), ("_law_jar" : Str), ("_law_draw" : Str), ("_law_is_whole" : Str), ("_law_number" : Str), ("_law_empty" : Str), ("_law_is_zero" : Str), ("_law_unit" : Str), ("_law_grid" : Str)]
def loose1 : List Str := [("_law_prod" : Str), ("_law_aside" : Str), ("_law_inverse" : Str), ("_law_taken" : Str), ("_law_lowered" : Str), ("_law_rank" : Str), ("_law_loose" : Str), ("_law_disguised" : Str), ("_law_table" : Str), ("_law_hand" : Str), ("_law_seen" : Str), ("_law_k02_is_frame" : Str)]
def loose : List Str := loose0 ++ loose1
theorem runF (w : World) : HandSHeadRun.RunEq R0 (PySem.W.view R0.prog [57]) hk ob 4000 loose (w.withFollow "special-get-raises" false) := by
  intro os
  kernel_rfl
theorem runT (w : World) : HandSHeadRun.RunEq R0 (PySem.W.view R0.prog [57]) hk ob 4000 loose (w.withFollow "special-get-raises" true) := by
  intro os
  kernel_rfl
theorem run (w : World) : HandSHeadRun.RunEq R0 (PySem.W.view R0.prog [57]) hk ob 4000 loose w :=
  PySem.W.byRow2 "special-get-raises" (P := fun w => HandSHeadRun.RunEq R0 (PySem.W.view R0.prog [57]) hk ob 4000 loose w) runF runT w
end DV
-- K2B
namespace DV
open PySem PySem.Spec PyProof.Rows L2
structure Ct (K : PySem.W.Frag) (mg : Str → Option Value) (cls : Nat → Addr) : Prop where
  b_bool : mg "bool" = none
  b_enumerate : mg "enumerate" = none
  b_int : mg "int" = none
  b_isinstance : mg "isinstance" = none
  b_len : mg "len" = none
  b_list : mg "list" = none
  b_max : mg "max" = none
  b_min : mg "min" = none
  b_range : mg "range" = none
  b_str : mg "str" = none
  b_tuple : mg "tuple" = none
  b_zip : mg "zip" = none
  c_PRIME_modular : ∃ u, mg "PRIME_modular" = some u ∧ RelV (.int 1000003) u
  c_PRIME_tables : ∃ u, mg "PRIME_tables" = some u ∧ RelV (.int 1000003) u
  tok : TOk K (TB cls) 1
  k_Table : mg "Table" = some (.ref (cls 0))
  isi_Table : IsOk K (TB cls) 1 (.ref (cls 0)) tbO ob_Table
  f__law_aside : ∃ f fd, mg "_law_aside" = some (.ref f) ∧ Fun K "_law_aside" "_law_aside" s__law_aside f fd ∧ Binds K fd P__law_aside []
  f__law_draw : ∃ f fd, mg "_law_draw" = some (.ref f) ∧ Fun K "_law_draw" "_law_draw" s__law_draw f fd ∧ Binds K fd P__law_draw []
  f__law_empty : ∃ f fd, mg "_law_empty" = some (.ref f) ∧ Fun K "_law_empty" "_law_empty" s__law_empty f fd ∧ Binds K fd P__law_empty []
  f__law_number : ∃ f fd, mg "_law_number" = some (.ref f) ∧ Fun K "_law_number" "_law_number" s__law_number f fd ∧ Binds K fd P__law_number []
  f__law_prod : ∃ f fd, mg "_law_prod" = some (.ref f) ∧ Fun K "_law_prod" "_law_prod" s__law_prod f fd ∧ Binds K fd P__law_prod []
  f__law_grid : ∃ f fd, mg "_law_grid" = some (.ref f) ∧ Fun K "_law_grid" "_law_grid" s__law_grid f fd ∧ Binds K fd P__law_grid []
  f__law_disguised : ∃ f fd, mg "_law_disguised" = some (.ref f) ∧ Fun K "_law_disguised" "_law_disguised" s__law_disguised f fd ∧ Binds K fd P__law_disguised []
  f_table_text : ∃ f fd, mg "table_text" = some (.ref f) ∧ Fun K "table_text" "table_text" s_table_text f fd ∧ Binds K fd P_table_text []
  f_Table___init__ : ∃ f fd, Mk K (cls 0) f ∧ FunD K "__init__" "Table.__init__" (defArgs s_Table___init__) (defBody s_Table___init__) (defScope s_Table___init__) [.non] [] f fd ∧ (∃ ds, Vals [] ds ∧ Binds K fd P_Table___init__ ds) ∧ (∃ ds, Vals [.non] ds ∧ Binds K fd P_Table___init__ ds)
  f__law_is_zero : ∃ f fd, mg "_law_is_zero" = some (.ref f) ∧ Fun K "_law_is_zero" "_law_is_zero" s__law_is_zero f fd ∧ Binds K fd P__law_is_zero []
  f__law_table : ∃ f fd, mg "_law_table" = some (.ref f) ∧ Fun K "_law_table" "_law_table" s__law_table f fd ∧ Binds K fd P__law_table []
  f__law_hand : ∃ f fd, mg "_law_hand" = some (.ref f) ∧ Fun K "_law_hand" "_law_hand" s__law_hand f fd ∧ Binds K fd P__law_hand []
  f__law_jar : ∃ f fd, mg "_law_jar" = some (.ref f) ∧ Fun K "_law_jar" "_law_jar" s__law_jar f fd ∧ Binds K fd P__law_jar []
  f__law_k02_is_frame : ∃ f fd, mg "_law_k02_is_frame" = some (.ref f) ∧ Fun K "_law_k02_is_frame" "_law_k02_is_frame" s__law_k02_is_frame f fd ∧ Binds K fd P__law_k02_is_frame []
  f__law_taken : ∃ f fd, mg "_law_taken" = some (.ref f) ∧ Fun K "_law_taken" "_law_taken" s__law_taken f fd ∧ Binds K fd P__law_taken []
  f__law_unit : ∃ f fd, mg "_law_unit" = some (.ref f) ∧ Fun K "_law_unit" "_law_unit" s__law_unit f fd ∧ Binds K fd P__law_unit []
  f__law_loose : ∃ f fd, mg "_law_loose" = some (.ref f) ∧ Fun K "_law_loose" "_law_loose" s__law_loose f fd ∧ Binds K fd P__law_loose []
  f__law_inverse : ∃ f fd, mg "_law_inverse" = some (.ref f) ∧ Fun K "_law_inverse" "_law_inverse" s__law_inverse f fd ∧ Binds K fd P__law_inverse []
  f__law_lowered : ∃ f fd, mg "_law_lowered" = some (.ref f) ∧ Fun K "_law_lowered" "_law_lowered" s__law_lowered f fd ∧ Binds K fd P__law_lowered []
  f__law_rank : ∃ f fd, mg "_law_rank" = some (.ref f) ∧ Fun K "_law_rank" "_law_rank" s__law_rank f fd ∧ Binds K fd P__law_rank []
  f__law_is_whole : ∃ f fd, mg "_law_is_whole" = some (.ref f) ∧ Fun K "_law_is_whole" "_law_is_whole" s__law_is_whole f fd ∧ Binds K fd P__law_is_whole []
  f__law_seen : ∃ f fd, mg "_law_seen" = some (.ref f) ∧ Fun K "_law_seen" "_law_seen" s__law_seen f fd ∧ Binds K fd P__law_seen []
  f_columns_of : ∃ f fd, mg "columns_of" = some (.ref f) ∧ Fun K "columns_of" "columns_of" s_columns_of f fd ∧ Binds K fd P_columns_of []
  f_cleared : ∃ f fd, mg "cleared" = some (.ref f) ∧ Fun K "cleared" "cleared" s_cleared f fd ∧ Binds K fd P_cleared []
  f_lead_row : ∃ f fd, mg "lead_row" = some (.ref f) ∧ Fun K "lead_row" "lead_row" s_lead_row f fd ∧ Binds K fd P_lead_row []
  f_inverse : ∃ f fd, mg "inverse" = some (.ref f) ∧ Fun K "inverse" "inverse" s_inverse f fd ∧ Binds K fd P_inverse []
  f_unit_tail : ∃ f fd, mg "unit_tail" = some (.ref f) ∧ Fun K "unit_tail" "unit_tail" s_unit_tail f fd ∧ Binds K fd P_unit_tail []
  f_echelon : ∃ f fd, mg "echelon" = some (.ref f) ∧ Fun K "echelon" "echelon" s_echelon f fd ∧ Binds K fd P_echelon []
  f_table_of : ∃ f fd, mg "table_of" = some (.ref f) ∧ Fun K "table_of" "table_of" s_table_of f fd ∧ Binds K fd P_table_of []
  f_table_of_columns : ∃ f fd, mg "table_of_columns" = some (.ref f) ∧ Fun K "table_of_columns" "table_of_columns" s_table_of_columns f fd ∧ Binds K fd P_table_of_columns []
  f_frame : ∃ f fd, mg "frame" = some (.ref f) ∧ Fun K "frame" "frame" s_frame f fd ∧ Binds K fd P_frame []
  f_null_column : ∃ f fd, mg "null_column" = some (.ref f) ∧ Fun K "null_column" "null_column" s_null_column f fd ∧ Binds K fd P_null_column []
  f_null_columns : ∃ f fd, mg "null_columns" = some (.ref f) ∧ Fun K "null_columns" "null_columns" s_null_columns f fd ∧ Binds K fd P_null_columns []
  f_kernel : ∃ f fd, mg "kernel" = some (.ref f) ∧ Fun K "kernel" "kernel" s_kernel f fd ∧ Binds K fd P_kernel []
section
variable {P : Program} {w : World} {K : PySem.W.Frag} {mg : Str → Option Value} {base : Heap} {cls : Nat → Addr}
theorem ok__law_aside (C : Ct K mg cls) {f : Addr} {fd : FuncData} (F : Fun K "_law_aside" "_law_aside" s__law_aside f fd) : FnOk P w K mg base CX0 1 f fd P__law_aside (spB (TB cls) N__law_aside P__law_aside mb__law_aside) := by
  refine fn_ok F sc__law_aside fun cdv A outer s H E O hr => ?_
  have hu := hr.units
  have S := sc__law_aside
  exact (dss_one (ds_ret (de_list (da_cons (dh_of (de_ix (dh_slot 0) (dh_of de_int))) (da_cons (dh_of (de_bin OpOk.add (dh_of (de_ix (dh_slot 0) (dh_of de_int))) (dh_of (de_ix (dh_slot 1) (dh_of de_int))))) (da_cons (dh_of (de_lc (own := [("i", 2)]) rfl S.nd (di_range1 (by rfl) C.b_range (da_cons (dh_of (de_ix (dh_slot 0) (dh_of de_int))) da_nil)) (blk_ok rfl) (fun _ _ _ _ _ _ => (dg_name 2 S.nd)) (fun _ _ _ _ _ => dts_nil) (fun _ _ _ _ _ _ => (de_bin OpOk.add (dh_of (de_ix (dh_of (de_ix (dh_slot 0) (dh_of de_int))) (dh_slot 2))) (dh_of (de_ix (dh_of (de_ix (dh_slot 1) (dh_of de_int))) (dh_slot 2))))))) da_nil))))))
theorem ok__law_draw (C : Ct K mg cls) {f : Addr} {fd : FuncData} (F : Fun K "_law_draw" "_law_draw" s__law_draw f fd) : FnOk P w K mg base CX0 1 f fd P__law_draw (spB (TB cls) N__law_draw P__law_draw mb__law_draw) := by
  refine fn_ok F sc__law_draw fun cdv A outer s H E O hr => ?_
  have hu := hr.units
  have S := sc__law_draw
  exact (dss_cons (ds_setIx 0 (de_bin OpOk.add (dh_of (de_ix (dh_slot 0) (dh_of de_int))) (dh_of de_int)) (dh_of de_int))
      (dss_cons (ds_if (dt_w (dw_and (dt_cmp (CmOk.eq hu) (dh_of (de_ix (dh_slot 0) (dh_of de_int))) (dh_of de_int)) (dw_and1 (dt_cmp CmOk.lt (dh_of (de_ix (dh_slot 0) (dh_of de_int))) (dh_of (de_callB CaOk.len C.b_len rfl (da_cons (dh_of (de_ix (dh_slot 0) (dh_of de_int))) da_nil))))))) (dss_cons (ds_set 2 (de_ix (dh_of (de_ix (dh_slot 0) (dh_of de_int))) (dh_of (de_ix (dh_slot 0) (dh_of de_int)))) S.nd)
      (dss_cons (ds_setIx 0 (de_bin OpOk.add (dh_of (de_ix (dh_slot 0) (dh_of de_int))) (dh_of de_int)) (dh_of de_int))
      (dss_one (ds_if (dt_cmp CmOk.ge (dh_slot 2) (dh_of (de_bin OpOk.pow (dh_of de_int) (dh_of de_int)))) (dss_cons (ds_setIx 0 (de_var 2) (dh_of de_int))
      (dss_one (ds_setIx 0 de_int (dh_of de_int)))) (dss_one (ds_setIx 0 (de_bin OpOk.mod (dh_of (de_callT CaOk.int C.b_int rfl (da_cons (dh_of (de_bin OpOk.add (dh_of (de_bin OpOk.add (dh_of (de_bin OpOk.mul (dh_of (de_ix (dh_slot 0) (dh_of de_int))) (dh_of de_int))) (dh_of (de_bin OpOk.mul (dh_of (de_bin OpOk.mod (dh_of (de_callT CaOk.int C.b_int rfl (da_cons (dh_slot 2) da_nil))) (dh_of de_int))) (dh_of de_int))))) (dh_of de_int))) da_nil))) (dh_of de_int)) (dh_of de_int))))))) dss_nil)
      (dss_cons (ds_if (dt_cmp CmOk.gt (dh_of (de_ix (dh_slot 0) (dh_of de_int))) (dh_of de_int)) (dss_cons (ds_set 3 (de_bin OpOk.mod (dh_of (de_callT CaOk.int C.b_int rfl (da_cons (dh_of (de_ix (dh_slot 0) (dh_of de_int))) da_nil))) (dh_slot 1)) S.nd)
      (dss_cons (ds_setIx 0 (de_bin OpOk.div (dh_of (de_ix (dh_slot 0) (dh_of de_int))) (dh_slot 1)) (dh_of de_int))
      (dss_cons (ds_setIx 0 (de_ife (dt_cmp CmOk.gt (dh_of (de_ix (dh_slot 0) (dh_of de_int))) (dh_of de_int)) (de_bin OpOk.sub (dh_of (de_ix (dh_slot 0) (dh_of de_int))) (dh_of de_int)) de_int) (dh_of de_int))
      (dss_one (ds_retV 3))))) dss_nil)
      (dss_cons (ds_setIx 0 (de_bin OpOk.mod (dh_of (de_callT CaOk.int C.b_int rfl (da_cons (dh_of (de_bin OpOk.add (dh_of (de_bin OpOk.add (dh_of (de_bin OpOk.pow (dh_of (de_ix (dh_slot 0) (dh_of de_int))) (dh_of de_int))) (dh_of (de_bin OpOk.mul (dh_of (de_ix (dh_slot 0) (dh_of de_int))) (dh_of de_int))))) (dh_of de_int))) da_nil))) (dh_of de_int)) (dh_of de_int))
      (dss_one (ds_ret (de_bin OpOk.mod (dh_of (de_callT CaOk.int C.b_int rfl (da_cons (dh_of (de_bin OpOk.add (dh_of (de_bin OpOk.div (dh_of (de_ix (dh_slot 0) (dh_of de_int))) (dh_of de_int))) (dh_of (de_bin OpOk.mul (dh_of (de_bin OpOk.mod (dh_of (de_callT CaOk.int C.b_int rfl (da_cons (dh_of (de_ix (dh_slot 0) (dh_of de_int))) da_nil))) (dh_of de_int))) (dh_of de_int))))) da_nil))) (dh_slot 1))))))))
theorem ok__law_empty (C : Ct K mg cls) {f : Addr} {fd : FuncData} (F : Fun K "_law_empty" "_law_empty" s__law_empty f fd) : FnOk P w K mg base CX0 1 f fd P__law_empty (spB (TB cls) N__law_empty P__law_empty mb__law_empty) := by
  refine fn_ok F sc__law_empty fun cdv A outer s H E O hr => ?_
  have hu := hr.units
  have S := sc__law_empty
  exact (dss_one (ds_ret (de_list (da_cons (dh_of (de_var 0)) (da_cons (dh_of (de_var 1)) (da_cons (dh_of (de_lc (own := [("i", 2)]) rfl S.nd (di_range1 (by rfl) C.b_range (da_cons (dh_slot 0) da_nil)) (blk_ok rfl) (fun _ _ _ _ _ _ => (dg_name 2 S.nd)) (fun _ _ _ _ _ => dts_nil) (fun _ _ _ _ _ _ => (de_lc (own := [("j", 3)]) rfl S.nd (di_range1 (by rfl) C.b_range (da_cons (dh_slot 1) da_nil)) (blk_ok rfl) (fun _ _ _ _ _ _ => (dg_name 3 S.nd)) (fun _ _ _ _ _ => dts_nil) (fun _ _ _ _ _ _ => de_int))))) da_nil))))))
theorem ok__law_number (C : Ct K mg cls) {f : Addr} {fd : FuncData} (F : Fun K "_law_number" "_law_number" s__law_number f fd) : FnOk P w K mg base CX0 2 f fd P__law_number (spB (TB cls) N__law_number P__law_number mb__law_number) := by
  obtain ⟨f__law_draw, fd__law_draw, m__law_draw, F__law_draw, b__law_draw⟩ := C.f__law_draw
  have G__law_draw := ok__law_draw (P := P) (w := w) (base := base) C F__law_draw
  refine fn_ok F sc__law_number fun cdv A outer s H E O hr => ?_
  have hu := hr.units
  have S := sc__law_number
  exact (dss_cons (ds_set 1 (de_def (dd := []) G__law_draw (hr.mono (by decide)) m__law_draw F__law_draw.kp b__law_draw .nil repNil (da_cons (dh_slot 0) (da_cons (dh_of de_int) da_nil))) S.nd)
      (dss_cons (ds_if (dt_cmp CmOk.lt (dh_slot 1) (dh_of de_int)) (dss_one (ds_ret (de_def (dd := []) G__law_draw (hr.mono (by decide)) m__law_draw F__law_draw.kp b__law_draw .nil repNil (da_cons (dh_slot 0) (da_cons (dh_of de_int) da_nil))))) dss_nil)
      (dss_cons (ds_if (dt_cmp CmOk.lt (dh_slot 1) (dh_of de_int)) (dss_one (ds_ret (de_def (dd := []) G__law_draw (hr.mono (by decide)) m__law_draw F__law_draw.kp b__law_draw .nil repNil (da_cons (dh_slot 0) (da_cons (dh_of de_int) da_nil))))) dss_nil)
      (dss_cons (ds_if (dt_cmp (CmOk.eq hu) (dh_slot 1) (dh_of de_int)) (dss_one (ds_ret (de_def (dd := []) G__law_draw (hr.mono (by decide)) m__law_draw F__law_draw.kp b__law_draw .nil repNil (da_cons (dh_slot 0) (da_cons (dh_of (de_bin OpOk.pow (dh_of de_int) (dh_of de_int))) da_nil))))) dss_nil)
      (dss_one (ds_ret (de_ife (dt_cmp (CmOk.eq hu) (dh_of (de_def (dd := []) G__law_draw (hr.mono (by decide)) m__law_draw F__law_draw.kp b__law_draw .nil repNil (da_cons (dh_slot 0) (da_cons (dh_of de_int) da_nil)))) (dh_of de_int)) (de_bin OpOk.sub (dh_of (de_neg (dh_of de_int))) (dh_of (de_def (dd := []) G__law_draw (hr.mono (by decide)) m__law_draw F__law_draw.kp b__law_draw .nil repNil (da_cons (dh_slot 0) (da_cons (dh_of (de_bin OpOk.pow (dh_of de_int) (dh_of de_int))) da_nil))))) (de_bin OpOk.add (dh_of (de_bin OpOk.mul (dh_of de_int) (dh_of (de_bin OpOk.sub (dh_of (de_def (dd := []) G__law_draw (hr.mono (by decide)) m__law_draw F__law_draw.kp b__law_draw .nil repNil (da_cons (dh_slot 0) (da_cons (dh_of de_int) da_nil)))) (dh_of de_int))))) (dh_of (de_def (dd := []) G__law_draw (hr.mono (by decide)) m__law_draw F__law_draw.kp b__law_draw .nil repNil (da_cons (dh_slot 0) (da_cons (dh_of de_int) da_nil))))))))))))
theorem ok__law_prod (C : Ct K mg cls) {f : Addr} {fd : FuncData} (F : Fun K "_law_prod" "_law_prod" s__law_prod f fd) : FnOk P w K mg base CX0 1 f fd P__law_prod (spB (TB cls) N__law_prod P__law_prod mb__law_prod) := by
  refine fn_ok F sc__law_prod fun cdv A outer s H E O hr => ?_
  have hu := hr.units
  have S := sc__law_prod
  exact (dss_cons (ds_set 2 (de_list da_nil) S.nd)
      (dss_cons (ds_for (vs := [3]) PassesOwn.never rfl (di_seq (de_ix (dh_slot 0) (dh_of de_int))) (dg_name 3 S.nd) (dss_cons (ds_set 4 (de_lc (own := [("j", 5)]) rfl S.nd (di_range1 (by rfl) C.b_range (da_cons (dh_of (de_ix (dh_slot 1) (dh_of de_int))) da_nil)) (blk_ok rfl) (fun _ _ _ _ _ _ => (dg_name 5 S.nd)) (fun _ _ _ _ _ => dts_nil) (fun _ _ _ _ _ _ => de_int)) S.nd)
      (dss_cons (ds_for (vs := [6]) PassesOwn.never rfl (di_range1 (by rfl) C.b_range (da_cons (dh_of (de_ix (dh_slot 0) (dh_of de_int))) da_nil)) (dg_name 6 S.nd) (dss_one (ds_if (dt_cmp (CmOk.ne hu) (dh_of (de_ix (dh_slot 3) (dh_slot 6))) (dh_of de_int)) (dss_cons (ds_set 7 (de_ix (dh_slot 3) (dh_slot 6)) S.nd)
      (dss_cons (ds_set 8 (de_ix (dh_of (de_ix (dh_slot 1) (dh_of de_int))) (dh_slot 6)) S.nd)
      (dss_one (ds_set 4 (de_lc (own := [("j", 5)]) rfl S.nd (di_range1 (by rfl) C.b_range (da_cons (dh_of (de_ix (dh_slot 1) (dh_of de_int))) da_nil)) (blk_ok rfl) (fun _ _ _ _ _ _ => (dg_name 5 S.nd)) (fun _ _ _ _ _ => dts_nil) (fun _ _ _ _ _ _ => (de_bin OpOk.mod (dh_of (de_callT CaOk.int C.b_int rfl (da_cons (dh_of (de_bin OpOk.add (dh_of (de_ix (dh_slot 4) (dh_slot 5))) (dh_of (de_bin OpOk.mul (dh_slot 7) (dh_of (de_ix (dh_slot 8) (dh_slot 5))))))) da_nil))) (dh_of de_int)))) S.nd)))) dss_nil)))
      (dss_one (ds_append 2 (de_var 4))))))
      (dss_one (ds_ret (de_list (da_cons (dh_of (de_ix (dh_slot 0) (dh_of de_int))) (da_cons (dh_of (de_ix (dh_slot 1) (dh_of de_int))) (da_cons (dh_of (de_var 2)) da_nil))))))))
theorem ok__law_grid (C : Ct K mg cls) {f : Addr} {fd : FuncData} (F : Fun K "_law_grid" "_law_grid" s__law_grid f fd) : FnOk P w K mg base CX0 3 f fd P__law_grid (spB (TB cls) N__law_grid P__law_grid mb__law_grid) := by
  obtain ⟨f__law_draw, fd__law_draw, m__law_draw, F__law_draw, b__law_draw⟩ := C.f__law_draw
  have G__law_draw := ok__law_draw (P := P) (w := w) (base := base) C F__law_draw
  obtain ⟨f__law_empty, fd__law_empty, m__law_empty, F__law_empty, b__law_empty⟩ := C.f__law_empty
  have G__law_empty := ok__law_empty (P := P) (w := w) (base := base) C F__law_empty
  obtain ⟨f__law_number, fd__law_number, m__law_number, F__law_number, b__law_number⟩ := C.f__law_number
  have G__law_number := ok__law_number (P := P) (w := w) (base := base) C F__law_number
  obtain ⟨f__law_prod, fd__law_prod, m__law_prod, F__law_prod, b__law_prod⟩ := C.f__law_prod
  have G__law_prod := ok__law_prod (P := P) (w := w) (base := base) C F__law_prod
  refine fn_ok F sc__law_grid fun cdv A outer s H E O hr => ?_
  have hu := hr.units
  have S := sc__law_grid
  exact (dss_cons (ds_set 3 (de_def (dd := []) G__law_draw (hr.mono (by decide)) m__law_draw F__law_draw.kp b__law_draw .nil repNil (da_cons (dh_slot 0) (da_cons (dh_of de_int) da_nil))) S.nd)
      (dss_cons (ds_if (dt_w (dw_or (dt_cmp (CmOk.eq hu) (dh_slot 1) (dh_of de_int)) (dw_or (dt_cmp (CmOk.eq hu) (dh_slot 2) (dh_of de_int)) (dw_or1 (dt_w (dw_and (dt_cmp (CmOk.eq hu) (dh_slot 3) (dh_of de_int)) (dw_and1 (dt_cmp (CmOk.eq hu) (dh_of (de_def (dd := []) G__law_draw (hr.mono (by decide)) m__law_draw F__law_draw.kp b__law_draw .nil repNil (da_cons (dh_slot 0) (da_cons (dh_of de_int) da_nil)))) (dh_of de_int))))))))) (dss_one (ds_ret (de_def (dd := []) G__law_empty (hr.mono (by decide)) m__law_empty F__law_empty.kp b__law_empty .nil repNil (da_cons (dh_of (de_var 1)) (da_cons (dh_of (de_var 2)) da_nil))))) dss_nil)
      (dss_cons (ds_if (dt_cmp (CmOk.eq hu) (dh_slot 3) (dh_of de_int)) (dss_cons (ds_set 4 (de_def (dd := []) G__law_draw (hr.mono (by decide)) m__law_draw F__law_draw.kp b__law_draw .nil repNil (da_cons (dh_slot 0) (da_cons (dh_of (de_bin OpOk.add (dh_of (de_callB (CaOk.min2 rfl) C.b_min rfl (da_cons (dh_slot 1) (da_cons (dh_slot 2) da_nil)))) (dh_of de_int))) da_nil))) S.nd)
      (dss_cons (ds_set 5 (de_list (da_cons (dh_of (de_var 1)) (da_cons (dh_of (de_var 4)) (da_cons (dh_of (de_lc (own := [("i", 6)]) rfl S.nd (di_range1 (by rfl) C.b_range (da_cons (dh_slot 1) da_nil)) (blk_ok rfl) (fun _ _ _ _ _ _ => (dg_name 6 S.nd)) (fun _ _ _ _ _ => dts_nil) (fun _ _ _ _ _ _ => (de_lc (own := [("j", 7)]) rfl S.nd (di_range1 (by rfl) C.b_range (da_cons (dh_slot 4) da_nil)) (blk_ok rfl) (fun _ _ _ _ _ _ => (dg_name 7 S.nd)) (fun _ _ _ _ _ => dts_nil) (fun _ _ _ _ _ _ => (de_def (dd := []) G__law_draw (hr.mono (by decide)) m__law_draw F__law_draw.kp b__law_draw .nil repNil (da_cons (dh_slot 0) (da_cons (dh_of de_int) da_nil)))))))) da_nil)))) S.nd)
      (dss_cons (ds_set 8 (de_list (da_cons (dh_of (de_var 4)) (da_cons (dh_of (de_var 2)) (da_cons (dh_of (de_lc (own := [("i", 6)]) rfl S.nd (di_range1 (by rfl) C.b_range (da_cons (dh_slot 4) da_nil)) (blk_ok rfl) (fun _ _ _ _ _ _ => (dg_name 6 S.nd)) (fun _ _ _ _ _ => dts_nil) (fun _ _ _ _ _ _ => (de_lc (own := [("j", 7)]) rfl S.nd (di_range1 (by rfl) C.b_range (da_cons (dh_slot 2) da_nil)) (blk_ok rfl) (fun _ _ _ _ _ _ => (dg_name 7 S.nd)) (fun _ _ _ _ _ => dts_nil) (fun _ _ _ _ _ _ => (de_def (dd := []) G__law_draw (hr.mono (by decide)) m__law_draw F__law_draw.kp b__law_draw .nil repNil (da_cons (dh_slot 0) (da_cons (dh_of de_int) da_nil)))))))) da_nil)))) S.nd)
      (dss_one (ds_ret (de_def (dd := []) G__law_prod (hr.mono (by decide)) m__law_prod F__law_prod.kp b__law_prod .nil repNil (da_cons (dh_of (de_var 5)) (da_cons (dh_of (de_var 8)) da_nil)))))))) dss_nil)
      (dss_cons (ds_if (dt_cmp (CmOk.eq hu) (dh_slot 3) (dh_of de_int)) (dss_one (ds_ret (de_list (da_cons (dh_of (de_var 1)) (da_cons (dh_of (de_var 2)) (da_cons (dh_of (de_lc (own := [("i", 6)]) rfl S.nd (di_range1 (by rfl) C.b_range (da_cons (dh_slot 1) da_nil)) (blk_ok rfl) (fun _ _ _ _ _ _ => (dg_name 6 S.nd)) (fun _ _ _ _ _ => dts_nil) (fun _ _ _ _ _ _ => (de_lc (own := [("j", 7)]) rfl S.nd (di_range1 (by rfl) C.b_range (da_cons (dh_slot 2) da_nil)) (blk_ok rfl) (fun _ _ _ _ _ _ => (dg_name 7 S.nd)) (fun _ _ _ _ _ => dts_nil) (fun _ _ _ _ _ _ => (de_bin OpOk.mod (dh_of (de_callT CaOk.int C.b_int rfl (da_cons (dh_of (de_def (dd := []) G__law_number (hr.mono (by decide)) m__law_number F__law_number.kp b__law_number .nil repNil (da_cons (dh_slot 0) da_nil))) da_nil))) (dh_of de_int))))))) da_nil)))))) dss_nil)
      (dss_cons (ds_if (dt_cmp (CmOk.eq hu) (dh_slot 3) (dh_of de_int)) (dss_one (ds_ret (de_list (da_cons (dh_of (de_var 1)) (da_cons (dh_of (de_var 2)) (da_cons (dh_of (de_lc (own := [("i", 6)]) rfl S.nd (di_range1 (by rfl) C.b_range (da_cons (dh_slot 1) da_nil)) (blk_ok rfl) (fun _ _ _ _ _ _ => (dg_name 6 S.nd)) (fun _ _ _ _ _ => dts_nil) (fun _ _ _ _ _ _ => (de_lc (own := [("j", 7)]) rfl S.nd (di_range1 (by rfl) C.b_range (da_cons (dh_slot 2) da_nil)) (blk_ok rfl) (fun _ _ _ _ _ _ => (dg_name 7 S.nd)) (fun _ _ _ _ _ => dts_nil) (fun _ _ _ _ _ _ => (de_bin OpOk.mod (dh_of (de_def (dd := []) G__law_draw (hr.mono (by decide)) m__law_draw F__law_draw.kp b__law_draw .nil repNil (da_cons (dh_slot 0) (da_cons (dh_of (de_bin OpOk.pow (dh_of de_int) (dh_of de_int))) da_nil)))) (dh_of de_int))))))) da_nil)))))) dss_nil)
      (dss_cons (ds_set 9 (de_ife (dt_cmp (CmOk.eq hu) (dh_slot 3) (dh_of de_int)) de_int de_int) S.nd)
      (dss_one (ds_ret (de_list (da_cons (dh_of (de_var 1)) (da_cons (dh_of (de_var 2)) (da_cons (dh_of (de_lc (own := [("i", 6)]) rfl S.nd (di_range1 (by rfl) C.b_range (da_cons (dh_slot 1) da_nil)) (blk_ok rfl) (fun _ _ _ _ _ _ => (dg_name 6 S.nd)) (fun _ _ _ _ _ => dts_nil) (fun _ _ _ _ _ _ => (de_lc (own := [("j", 7)]) rfl S.nd (di_range1 (by rfl) C.b_range (da_cons (dh_slot 2) da_nil)) (blk_ok rfl) (fun _ _ _ _ _ _ => (dg_name 7 S.nd)) (fun _ _ _ _ _ => dts_nil) (fun _ _ _ _ _ _ => (de_def (dd := []) G__law_draw (hr.mono (by decide)) m__law_draw F__law_draw.kp b__law_draw .nil repNil (da_cons (dh_slot 0) (da_cons (dh_of (de_var 9)) da_nil)))))))) da_nil))))))))))))
theorem ok__law_disguised (C : Ct K mg cls) {f : Addr} {fd : FuncData} (F : Fun K "_law_disguised" "_law_disguised" s__law_disguised f fd) : FnOk P w K mg base CX0 2 f fd P__law_disguised (spB (TB cls) N__law_disguised P__law_disguised mb__law_disguised) := by
  obtain ⟨f__law_draw, fd__law_draw, m__law_draw, F__law_draw, b__law_draw⟩ := C.f__law_draw
  have G__law_draw := ok__law_draw (P := P) (w := w) (base := base) C F__law_draw
  refine fn_ok F sc__law_disguised fun cdv A outer s H E O hr => ?_
  have hu := hr.units
  have S := sc__law_disguised
  exact (dss_cons (ds_if (dt_cmp CmOk.gt (dh_of (de_def (dd := []) G__law_draw (hr.mono (by decide)) m__law_draw F__law_draw.kp b__law_draw .nil repNil (da_cons (dh_slot 0) (da_cons (dh_of de_int) da_nil)))) (dh_of de_int)) (dss_one (ds_ret (de_lc (own := [("bar", 2)]) rfl S.nd (di_seq (de_ix (dh_slot 1) (dh_of de_int))) (blk_ok rfl) (fun _ _ _ _ _ _ => (dg_name 2 S.nd)) (fun _ _ _ _ _ => dts_nil) (fun _ _ _ _ _ _ => (de_callT CaOk.list C.b_list rfl (da_cons (dh_slot 2) da_nil)))))) dss_nil)
      (dss_cons (ds_set 3 (de_def (dd := []) G__law_draw (hr.mono (by decide)) m__law_draw F__law_draw.kp b__law_draw .nil repNil (da_cons (dh_slot 0) (da_cons (dh_of de_int) da_nil))) S.nd)
      (dss_cons (ds_set 4 (de_bin OpOk.mul (dh_of de_int) (dh_of (de_ife (dt_cmp (CmOk.eq hu) (dh_slot 3) (dh_of de_int)) de_int (de_bin OpOk.pow (dh_of de_int) (dh_of de_int))))) S.nd)
      (dss_one (ds_ret (de_lc (own := [("bar", 2)]) rfl S.nd (di_seq (de_ix (dh_slot 1) (dh_of de_int))) (blk_ok rfl) (fun _ _ _ _ _ _ => (dg_name 2 S.nd)) (fun _ _ _ _ _ => dts_nil) (fun _ _ _ _ _ _ => (de_lc (own := [("n", 5)]) rfl S.nd (di_seq (de_var 2)) (blk_ok rfl) (fun _ _ _ _ _ _ => (dg_name 5 S.nd)) (fun _ _ _ _ _ => dts_nil) (fun _ _ _ _ _ _ => (de_bin OpOk.add (dh_slot 5) (dh_of (de_bin OpOk.mul (dh_slot 4) (dh_of (de_bin OpOk.sub (dh_of (de_def (dd := []) G__law_draw (hr.mono (by decide)) m__law_draw F__law_draw.kp b__law_draw .nil repNil (da_cons (dh_slot 0) (da_cons (dh_of de_int) da_nil)))) (dh_of de_int)))))))))))))))
theorem ok_table_text (C : Ct K mg cls) {f : Addr} {fd : FuncData} (F : Fun K "table_text" "table_text" s_table_text f fd) : FnOk P w K mg base CX0 1 f fd P_table_text (spB (TB cls) N_table_text P_table_text mb_table_text) := by
  refine fn_ok F sc_table_text fun cdv A outer s H E O hr => ?_
  have hu := hr.units
  have S := sc_table_text
  exact (dss_cons (ds_if (dt_w (dw_or (dt_cmp (CmOk.eq hu) (dh_of (de_callB CaOk.len C.b_len rfl (da_cons (dh_slot 0) da_nil))) (dh_of de_int)) (dw_or1 (dt_cmp (CmOk.eq hu) (dh_slot 1) (dh_of de_int))))) (dss_one (ds_ret de_str)) dss_nil)
      (dss_one (ds_ret (de_join (dh_of de_str) (dh_of (de_lc (own := [("row", 2)]) rfl S.nd (di_seq (de_var 0)) (blk_ok rfl) (fun _ _ _ _ _ _ => (dg_name 2 S.nd)) (fun _ _ _ _ _ => dts_nil) (fun _ _ _ _ _ _ => (de_join (dh_of de_str) (dh_of (de_lc (own := [("n", 3)]) rfl S.nd (di_seq (de_var 2)) (blk_ok rfl) (fun _ _ _ _ _ _ => (dg_name 3 S.nd)) (fun _ _ _ _ _ => dts_nil) (fun _ _ _ _ _ _ => (de_callT CaOk.str C.b_str rfl (da_cons (dh_slot 3) da_nil)))))))))))))
theorem ok_Table___init__ (C : Ct K mg cls) {f : Addr} {fd : FuncData} (F : FunD K "__init__" "Table.__init__" (defArgs s_Table___init__) (defBody s_Table___init__) (defScope s_Table___init__) [.non] [] f fd) : FnOk P w K mg base CX0 2 f fd P_Table___init__ (spB (TB cls) N_Table___init__ P_Table___init__ mb_Table___init__) := by
  obtain ⟨f_table_text, fd_table_text, m_table_text, F_table_text, b_table_text⟩ := C.f_table_text
  have G_table_text := ok_table_text (P := P) (w := w) (base := base) C F_table_text
  refine fn_okD F sc_Table___init__ fun cdv A outer s H E O hr => ?_
  have hu := hr.units
  have S := sc_Table___init__
  exact (dss_cons (ds_if (dt_w (dw_or (dt_cmp CmOk.lt (dh_slot 1) (dh_of de_int)) (dw_or1 (dt_cmp CmOk.lt (dh_slot 2) (dh_of de_int))))) (dss_one ds_never) dss_nil)
      (dss_cons (ds_if (dt_cmp CmOk.is (dh_slot 3) (dh_of de_non)) (dss_one (ds_setLc 3 (own := [("_", 4)]) rfl S.nd (di_range1 (by rfl) C.b_range (da_cons (dh_slot 1) da_nil)) (blk_ok rfl) (fun _ _ _ _ _ _ => (dg_name 4 S.nd)) (fun _ _ _ _ _ => dts_nil) (fun _ _ _ _ _ _ => (de_bin OpOk.mul (dh_of (de_list (da_cons (dh_of de_int) da_nil))) (dh_slot 2))))) dss_nil)
      (dss_cons (ds_if (dt_cmp (CmOk.ne hu) (dh_of (de_callB CaOk.len C.b_len rfl (da_cons (dh_slot 3) da_nil))) (dh_slot 1)) (dss_one ds_never) dss_nil)
      (dss_cons (ds_for (vs := [5, 6]) PassesOwn.never rfl (di_enumA (by rfl) C.b_enumerate (da_cons (dh_of (de_var 3)) da_nil)) (dg_tup (n := 2) rfl (dgs_cons (dg_name 5 S.nd) (dgs_cons (dg_name 6 S.nd) dgs_nil))) (dss_one (ds_if (dt_cmp (CmOk.ne hu) (dh_of (de_callB CaOk.len C.b_len rfl (da_cons (dh_slot 6) da_nil))) (dh_slot 2)) (dss_one ds_never) dss_nil)))
      (dss_cons (ds_fld 0 (n := 1) (f := 0) C.tok rfl (de_var 1))
      (dss_cons (ds_fld 0 (n := 1) (f := 1) C.tok rfl (de_var 2))
      (dss_cons (ds_fld 0 (n := 1) (f := 2) C.tok rfl (de_callT CaOk.tuple C.b_tuple rfl (da_cons (dh_of (de_lc (own := [("row", 6)]) rfl S.nd (di_seq (de_var 3)) (blk_ok rfl) (fun _ _ _ _ _ _ => (dg_name 6 S.nd)) (fun _ _ _ _ _ => dts_nil) (fun _ _ _ _ _ _ => (de_callT CaOk.tuple C.b_tuple rfl (da_cons (dh_of (de_lc (own := [("n", 7)]) rfl S.nd (di_seq (de_var 6)) (blk_ok rfl) (fun _ _ _ _ _ _ => (dg_name 7 S.nd)) (fun _ _ _ _ _ => dts_nil) (fun _ _ _ _ _ _ => (de_bin OpOk.mod (dh_slot 7) (dh_of (de_globI C.c_PRIME_tables)))))) da_nil))))) da_nil)))
      (dss_one (ds_fld 0 (n := 1) (f := 3) C.tok rfl (de_def (dd := []) G_table_text (hr.mono (by decide)) m_table_text F_table_text.kp b_table_text .nil repNil (da_cons (dh_of (de_att (n := 1) (f := 2) C.tok rfl (dh_slot 0))) (da_cons (dh_of (de_var 2)) da_nil))))))))))))
theorem ok__law_is_zero (C : Ct K mg cls) {f : Addr} {fd : FuncData} (F : Fun K "_law_is_zero" "_law_is_zero" s__law_is_zero f fd) : FnOk P w K mg base CX0 1 f fd P__law_is_zero (spB (TB cls) N__law_is_zero P__law_is_zero mb__law_is_zero) := by
  refine fn_ok F sc__law_is_zero fun cdv A outer s H E O hr => ?_
  have hu := hr.units
  have S := sc__law_is_zero
  exact (dss_one (ds_ret (de_cmp (CmOk.eq hu) (dh_of (de_lc (own := [("bar", 1)]) rfl S.nd (di_seq (de_ix (dh_slot 0) (dh_of de_int))) (blk_ok rfl) (fun _ _ _ _ _ _ => (dg_name 1 S.nd)) (fun _ _ _ _ _ => (dts_one fun _ => (dt_cmp CmOk.gt (dh_of (de_callB (CaOk.max rfl) C.b_max rfl (da_cons (dh_of (de_bin OpOk.add (dh_slot 1) (dh_of (de_list (da_cons (dh_of de_int) da_nil))))) da_nil))) (dh_of de_int)))) (fun _ _ _ _ _ _ => (de_var 1)))) (dh_of (de_list da_nil)))))
theorem ok__law_table (C : Ct K mg cls) {f : Addr} {fd : FuncData} (F : Fun K "_law_table" "_law_table" s__law_table f fd) : FnOk P w K mg base CX0 4 f fd P__law_table (spB (TB cls) N__law_table P__law_table mb__law_table) := by
  obtain ⟨f_Table___init__, fd_Table___init__, M_Table___init__, F_Table___init__, B_Table___init___0, B_Table___init___1⟩ := C.f_Table___init__
  have G_Table___init__ := ok_Table___init__ (P := P) (w := w) (base := base) C F_Table___init__
  obtain ⟨f__law_disguised, fd__law_disguised, m__law_disguised, F__law_disguised, b__law_disguised⟩ := C.f__law_disguised
  have G__law_disguised := ok__law_disguised (P := P) (w := w) (base := base) C F__law_disguised
  obtain ⟨f__law_draw, fd__law_draw, m__law_draw, F__law_draw, b__law_draw⟩ := C.f__law_draw
  have G__law_draw := ok__law_draw (P := P) (w := w) (base := base) C F__law_draw
  obtain ⟨f__law_is_zero, fd__law_is_zero, m__law_is_zero, F__law_is_zero, b__law_is_zero⟩ := C.f__law_is_zero
  have G__law_is_zero := ok__law_is_zero (P := P) (w := w) (base := base) C F__law_is_zero
  refine fn_ok F sc__law_table fun cdv A outer s H E O hr => ?_
  have hu := hr.units
  have S := sc__law_table
  exact (dss_cons (ds_set 2 (de_def (dd := []) G__law_disguised (hr.mono (by decide)) m__law_disguised F__law_disguised.kp b__law_disguised .nil repNil (da_cons (dh_slot 0) (da_cons (dh_of (de_var 1)) da_nil))) S.nd)
      (dss_cons (ds_if (dt_w (dw_and (dt_tru (dh_of (de_def (dd := []) G__law_is_zero (hr.mono (by decide)) m__law_is_zero F__law_is_zero.kp b__law_is_zero .nil repNil (da_cons (dh_of (de_var 1)) da_nil)))) (dw_and1 (dt_cmp (CmOk.eq hu) (dh_of (de_def (dd := []) G__law_draw (hr.mono (by decide)) m__law_draw F__law_draw.kp b__law_draw .nil repNil (da_cons (dh_slot 0) (da_cons (dh_of de_int) da_nil)))) (dh_of de_int))))) (dss_one (ds_ret (de_make (c := 0) (dd := [.non]) M_Table___init__ G_Table___init__ (hr.mono (by decide)) C.k_Table B_Table___init___1.choose_spec.2 B_Table___init___1.choose_spec.1 repNon (da_cons (dh_of (de_ix (dh_slot 1) (dh_of de_int))) (da_cons (dh_of (de_ix (dh_slot 1) (dh_of de_int))) da_nil))))) dss_nil)
      (dss_one (ds_ret (de_make (c := 0) (dd := []) M_Table___init__ G_Table___init__ (hr.mono (by decide)) C.k_Table B_Table___init___0.choose_spec.2 B_Table___init___0.choose_spec.1 repNil (da_cons (dh_of (de_ix (dh_slot 1) (dh_of de_int))) (da_cons (dh_of (de_ix (dh_slot 1) (dh_of de_int))) (da_cons (dh_of (de_ife (dt_cmp CmOk.gt (dh_of (de_def (dd := []) G__law_draw (hr.mono (by decide)) m__law_draw F__law_draw.kp b__law_draw .nil repNil (da_cons (dh_slot 0) (da_cons (dh_of de_int) da_nil)))) (dh_of de_int)) (de_var 2) (de_callT CaOk.tuple C.b_tuple rfl (da_cons (dh_of (de_lc (own := [("bar", 3)]) rfl S.nd (di_seq (de_var 2)) (blk_ok rfl) (fun _ _ _ _ _ _ => (dg_name 3 S.nd)) (fun _ _ _ _ _ => dts_nil) (fun _ _ _ _ _ _ => (de_callT CaOk.tuple C.b_tuple rfl (da_cons (dh_slot 3) da_nil))))) da_nil)))) da_nil))))))))
theorem ok__law_hand (C : Ct K mg cls) {f : Addr} {fd : FuncData} (F : Fun K "_law_hand" "_law_hand" s__law_hand f fd) : FnOk P w K mg base CX0 5 f fd P__law_hand (spB (TB cls) N__law_hand P__law_hand mb__law_hand) := by
  obtain ⟨f__law_disguised, fd__law_disguised, m__law_disguised, F__law_disguised, b__law_disguised⟩ := C.f__law_disguised
  have G__law_disguised := ok__law_disguised (P := P) (w := w) (base := base) C F__law_disguised
  obtain ⟨f__law_draw, fd__law_draw, m__law_draw, F__law_draw, b__law_draw⟩ := C.f__law_draw
  have G__law_draw := ok__law_draw (P := P) (w := w) (base := base) C F__law_draw
  obtain ⟨f__law_table, fd__law_table, m__law_table, F__law_table, b__law_table⟩ := C.f__law_table
  have G__law_table := ok__law_table (P := P) (w := w) (base := base) C F__law_table
  refine fn_ok F sc__law_hand fun cdv A outer s H E O hr => ?_
  have hu := hr.units
  have S := sc__law_hand
  exact (dss_cons (ds_if (dt_w (dw_or (dt_cmp (CmOk.eq hu) (dh_of (de_ix (dh_slot 1) (dh_of de_int))) (dh_of de_int)) (dw_or (dt_cmp (CmOk.eq hu) (dh_of (de_ix (dh_slot 1) (dh_of de_int))) (dh_of de_int)) (dw_or1 (dt_cmp (CmOk.eq hu) (dh_of (de_def (dd := []) G__law_draw (hr.mono (by decide)) m__law_draw F__law_draw.kp b__law_draw .nil repNil (da_cons (dh_slot 0) (da_cons (dh_of de_int) da_nil)))) (dh_of de_int)))))) (dss_one (ds_ret (de_def (dd := []) G__law_table (hr.mono (by decide)) m__law_table F__law_table.kp b__law_table .nil repNil (da_cons (dh_slot 0) (da_cons (dh_of (de_var 1)) da_nil))))) dss_nil)
      (dss_cons (ds_set 2 (de_def (dd := []) G__law_disguised (hr.mono (by decide)) m__law_disguised F__law_disguised.kp b__law_disguised .nil repNil (da_cons (dh_slot 0) (da_cons (dh_of (de_var 1)) da_nil))) S.nd)
      (dss_one (ds_ret (de_ife (dt_cmp CmOk.gt (dh_of (de_def (dd := []) G__law_draw (hr.mono (by decide)) m__law_draw F__law_draw.kp b__law_draw .nil repNil (da_cons (dh_slot 0) (da_cons (dh_of de_int) da_nil)))) (dh_of de_int)) (de_var 2) (de_callT CaOk.tuple C.b_tuple rfl (da_cons (dh_of (de_lc (own := [("bar", 3)]) rfl S.nd (di_seq (de_var 2)) (blk_ok rfl) (fun _ _ _ _ _ _ => (dg_name 3 S.nd)) (fun _ _ _ _ _ => dts_nil) (fun _ _ _ _ _ _ => (de_callT CaOk.tuple C.b_tuple rfl (da_cons (dh_slot 3) da_nil))))) da_nil)))))))
theorem ok__law_jar (C : Ct K mg cls) {f : Addr} {fd : FuncData} (F : Fun K "_law_jar" "_law_jar" s__law_jar f fd) : FnOk P w K mg base CX0 1 f fd P__law_jar (spB (TB cls) N__law_jar P__law_jar mb__law_jar) := by
  refine fn_ok F sc__law_jar fun cdv A outer s H E O hr => ?_
  have hu := hr.units
  have S := sc__law_jar
  exact (dss_cons (ds_set 1 de_int S.nd)
      (dss_cons (ds_for (vs := [2]) PassesOwn.never rfl (di_seq (de_slice (dh_slot 0) do_none (do_some (dh_of de_int)))) (dg_name 2 S.nd) (dss_one (ds_set 1 (de_bin OpOk.mod (dh_of (de_callT CaOk.int C.b_int rfl (da_cons (dh_of (de_bin OpOk.add (dh_of (de_bin OpOk.add (dh_of (de_bin OpOk.mul (dh_slot 1) (dh_of de_int))) (dh_of (de_bin OpOk.mod (dh_of (de_callT CaOk.int C.b_int rfl (da_cons (dh_slot 2) da_nil))) (dh_of de_int))))) (dh_of de_int))) da_nil))) (dh_of de_int)) S.nd)))
      (dss_one (ds_ret (de_list (da_cons (dh_of (de_callT CaOk.list C.b_list rfl (da_cons (dh_of (de_slice (dh_slot 0) do_none (do_some (dh_of de_int)))) da_nil))) (da_cons (dh_of de_int) (da_cons (dh_of de_int) (da_cons (dh_of de_int) (da_cons (dh_of (de_var 1)) (da_cons (dh_of de_int) da_nil)))))))))))
theorem ok__law_k02_is_frame (C : Ct K mg cls) {f : Addr} {fd : FuncData} (F : Fun K "_law_k02_is_frame" "_law_k02_is_frame" s__law_k02_is_frame f fd) : FnOk P w K mg base CX0 1 f fd P__law_k02_is_frame (spB (TB cls) N__law_k02_is_frame P__law_k02_is_frame mb__law_k02_is_frame) := by
  refine fn_ok F sc__law_k02_is_frame fun cdv A outer s H E O hr => ?_
  have hu := hr.units
  have S := sc__law_k02_is_frame
  exact (dss_cons (ds_set 1 (de_list da_nil) S.nd)
      (dss_cons (ds_for (vs := [2]) PassesOwn.never rfl (di_range1 (by rfl) C.b_range (da_cons (dh_of (de_ix (dh_slot 0) (dh_of de_int))) da_nil)) (dg_name 2 S.nd) (dss_cons (ds_set 3 (de_lc (own := [("i", 4)]) rfl S.nd (di_range1 (by rfl) C.b_range (da_cons (dh_of (de_ix (dh_slot 0) (dh_of de_int))) da_nil)) (blk_ok rfl) (fun _ _ _ _ _ _ => (dg_name 4 S.nd)) (fun _ _ _ _ _ => (dts_one fun _ => (dt_cmp (CmOk.ne hu) (dh_of (de_ix (dh_of (de_ix (dh_of (de_ix (dh_slot 0) (dh_of de_int))) (dh_slot 4))) (dh_slot 2))) (dh_of de_int)))) (fun _ _ _ _ _ _ => (de_var 4))) S.nd)
      (dss_cons (ds_if (dt_w (dw_or (dt_cmp (CmOk.eq hu) (dh_slot 3) (dh_of (de_list da_nil))) (dw_or (dt_cmp (CmOk.ne hu) (dh_of (de_ix (dh_of (de_ix (dh_of (de_ix (dh_slot 0) (dh_of de_int))) (dh_of (de_ix (dh_slot 3) (dh_of de_int))))) (dh_slot 2))) (dh_of de_int)) (dw_or1 (dt_w (dw_and (dt_cmp (CmOk.ne hu) (dh_slot 1) (dh_of (de_list da_nil))) (dw_and1 (dt_cmp CmOk.ge (dh_of (de_ix (dh_slot 1) (dh_of (de_neg (dh_of de_int))))) (dh_of (de_ix (dh_slot 3) (dh_of de_int))))))))))) (dss_one (ds_ret de_bl)) dss_nil)
      (dss_cons (ds_if (dt_cmp (CmOk.ne hu) (dh_of (de_lc (own := [("k", 5)]) rfl S.nd (di_range1 (by rfl) C.b_range (da_cons (dh_of (de_ix (dh_slot 0) (dh_of de_int))) da_nil)) (blk_ok rfl) (fun _ _ _ _ _ _ => (dg_name 5 S.nd)) (fun _ _ _ _ _ => (dts_one fun _ => (dt_w (dw_and (dt_cmp (CmOk.ne hu) (dh_slot 5) (dh_slot 2)) (dw_and1 (dt_cmp (CmOk.ne hu) (dh_of (de_ix (dh_of (de_ix (dh_of (de_ix (dh_slot 0) (dh_of de_int))) (dh_of (de_ix (dh_slot 3) (dh_of de_int))))) (dh_slot 5))) (dh_of de_int))))))) (fun _ _ _ _ _ _ => (de_var 5)))) (dh_of (de_list da_nil))) (dss_one (ds_ret de_bl)) dss_nil)
      (dss_one (ds_append 1 (de_ix (dh_slot 3) (dh_of de_int))))))))
      (dss_one (ds_ret de_bl))))
theorem ok__law_taken (C : Ct K mg cls) {f : Addr} {fd : FuncData} (F : Fun K "_law_taken" "_law_taken" s__law_taken f fd) : FnOk P w K mg base CX0 1 f fd P__law_taken (spB (TB cls) N__law_taken P__law_taken mb__law_taken) := by
  refine fn_ok F sc__law_taken fun cdv A outer s H E O hr => ?_
  have hu := hr.units
  have S := sc__law_taken
  exact (dss_one (ds_ret (de_lc (own := [("k", 3)]) rfl S.nd (di_range1 (by rfl) C.b_range (da_cons (dh_of (de_callB CaOk.len C.b_len rfl (da_cons (dh_slot 0) da_nil))) da_nil)) (blk_ok rfl) (fun _ _ _ _ _ _ => (dg_name 3 S.nd)) (fun _ _ _ _ _ => dts_nil) (fun _ _ _ _ _ _ => (de_bin OpOk.mod (dh_of (de_callT CaOk.int C.b_int rfl (da_cons (dh_of (de_bin OpOk.sub (dh_of (de_ix (dh_slot 0) (dh_slot 3))) (dh_of (de_bin OpOk.mul (dh_slot 2) (dh_of (de_ix (dh_slot 1) (dh_slot 3))))))) da_nil))) (dh_of de_int))))))
theorem ok__law_unit (C : Ct K mg cls) {f : Addr} {fd : FuncData} (F : Fun K "_law_unit" "_law_unit" s__law_unit f fd) : FnOk P w K mg base CX0 1 f fd P__law_unit (spB (TB cls) N__law_unit P__law_unit mb__law_unit) := by
  refine fn_ok F sc__law_unit fun cdv A outer s H E O hr => ?_
  have hu := hr.units
  have S := sc__law_unit
  exact (dss_one (ds_ret (de_list (da_cons (dh_of (de_var 0)) (da_cons (dh_of (de_var 0)) (da_cons (dh_of (de_lc (own := [("i", 1)]) rfl S.nd (di_range1 (by rfl) C.b_range (da_cons (dh_slot 0) da_nil)) (blk_ok rfl) (fun _ _ _ _ _ _ => (dg_name 1 S.nd)) (fun _ _ _ _ _ => dts_nil) (fun _ _ _ _ _ _ => (de_lc (own := [("j", 2)]) rfl S.nd (di_range1 (by rfl) C.b_range (da_cons (dh_slot 0) da_nil)) (blk_ok rfl) (fun _ _ _ _ _ _ => (dg_name 2 S.nd)) (fun _ _ _ _ _ => dts_nil) (fun _ _ _ _ _ _ => (de_callT CaOk.int C.b_int rfl (da_cons (dh_of (de_cmp (CmOk.eq hu) (dh_slot 1) (dh_slot 2))) da_nil))))))) da_nil))))))
--HAND _law_loose level 2 deps ['_law_draw', '_law_taken', '_law_unit']
theorem ok__law_inverse (C : Ct K mg cls) {f : Addr} {fd : FuncData} (F : Fun K "_law_inverse" "_law_inverse" s__law_inverse f fd) : FnOk P w K mg base CX0 1 f fd P__law_inverse (spB (TB cls) N__law_inverse P__law_inverse mb__law_inverse) := by
  refine fn_ok F sc__law_inverse fun cdv A outer s H E O hr => ?_
  have hu := hr.units
  have S := sc__law_inverse
  exact (dss_cons (ds_set 1 de_int S.nd)
      (dss_cons (ds_set 2 (de_bin OpOk.mod (dh_of (de_callT CaOk.int C.b_int rfl (da_cons (dh_slot 0) da_nil))) (dh_of de_int)) S.nd)
      (dss_cons (ds_set 3 de_int S.nd)
      (dss_cons (ds_for (vs := [4]) PassesOwn.never rfl (di_range1 (by rfl) C.b_range (da_cons (dh_of de_int) da_nil)) (dg_name 4 S.nd) (dss_cons (ds_if (dt_cmp (CmOk.eq hu) (dh_of (de_bin OpOk.mod (dh_of (de_callT CaOk.int C.b_int rfl (da_cons (dh_slot 3) da_nil))) (dh_of de_int))) (dh_of de_int)) (dss_one (ds_set 1 (de_bin OpOk.mod (dh_of (de_callT CaOk.int C.b_int rfl (da_cons (dh_of (de_bin OpOk.mul (dh_slot 1) (dh_slot 2))) da_nil))) (dh_of de_int)) S.nd)) dss_nil)
      (dss_cons (ds_set 2 (de_bin OpOk.mod (dh_of (de_callT CaOk.int C.b_int rfl (da_cons (dh_of (de_bin OpOk.mul (dh_slot 2) (dh_slot 2))) da_nil))) (dh_of de_int)) S.nd)
      (dss_one (ds_set 3 (de_bin OpOk.div (dh_slot 3) (dh_of de_int)) S.nd)))))
      (dss_one (ds_retV 1))))))
theorem ok__law_lowered (C : Ct K mg cls) {f : Addr} {fd : FuncData} (F : Fun K "_law_lowered" "_law_lowered" s__law_lowered f fd) : FnOk P w K mg base CX0 2 f fd P__law_lowered (spB (TB cls) N__law_lowered P__law_lowered mb__law_lowered) := by
  obtain ⟨f__law_inverse, fd__law_inverse, m__law_inverse, F__law_inverse, b__law_inverse⟩ := C.f__law_inverse
  have G__law_inverse := ok__law_inverse (P := P) (w := w) (base := base) C F__law_inverse
  obtain ⟨f__law_taken, fd__law_taken, m__law_taken, F__law_taken, b__law_taken⟩ := C.f__law_taken
  have G__law_taken := ok__law_taken (P := P) (w := w) (base := base) C F__law_taken
  refine fn_ok F sc__law_lowered fun cdv A outer s H E O hr => ?_
  have hu := hr.units
  have S := sc__law_lowered
  exact (dss_cons (ds_set 2 (de_lc (own := [("bar", 3)]) rfl S.nd (di_seq (de_var 0)) (blk_ok rfl) (fun _ _ _ _ _ _ => (dg_name 3 S.nd)) (fun _ _ _ _ _ => dts_nil) (fun _ _ _ _ _ _ => (de_callT CaOk.list C.b_list rfl (da_cons (dh_slot 3) da_nil)))) S.nd)
      (dss_cons (ds_set 4 (de_list da_nil) S.nd)
      (dss_cons (ds_set 5 (de_list da_nil) S.nd)
      (dss_cons (ds_for (vs := [6]) PassesOwn.never rfl (di_range1 (by rfl) C.b_range (da_cons (dh_slot 1) da_nil)) (dg_name 6 S.nd) (dss_cons (ds_setLc 7 (own := [("i", 8)]) rfl S.nd (di_range1 (by rfl) C.b_range (da_cons (dh_of (de_callB CaOk.len C.b_len rfl (da_cons (dh_slot 2) da_nil))) da_nil)) (blk_ok rfl) (fun _ _ _ _ _ _ => (dg_name 8 S.nd)) (fun _ _ _ _ _ => (dts_one fun _ => (dt_cmp (CmOk.ne hu) (dh_of (de_ix (dh_of (de_ix (dh_slot 2) (dh_slot 8))) (dh_slot 6))) (dh_of de_int)))) (fun _ _ _ _ _ _ => (de_var 8)))
      (dss_cons (ds_if (dt_cmp (CmOk.eq hu) (dh_slot 7) (dh_of (de_list da_nil))) (dss_one ds_continue) dss_nil)
      (dss_cons (ds_set 9 (de_popAt 2 (dh_of (de_ix (dh_slot 7) (dh_of de_int)))) S.nd)
      (dss_cons (ds_set 10 (de_def (dd := []) G__law_inverse (hr.mono (by decide)) m__law_inverse F__law_inverse.kp b__law_inverse .nil repNil (da_cons (dh_of (de_ix (dh_slot 9) (dh_slot 6))) da_nil)) S.nd)
      (dss_cons (ds_set 9 (de_lc (own := [("m", 11)]) rfl S.nd (di_seq (de_var 9)) (blk_ok rfl) (fun _ _ _ _ _ _ => (dg_name 11 S.nd)) (fun _ _ _ _ _ => dts_nil) (fun _ _ _ _ _ _ => (de_bin OpOk.mod (dh_of (de_callT CaOk.int C.b_int rfl (da_cons (dh_of (de_bin OpOk.mul (dh_slot 11) (dh_slot 10))) da_nil))) (dh_of de_int)))) S.nd)
      (dss_cons (ds_set 2 (de_lc (own := [("bar", 3)]) rfl S.nd (di_seq (de_var 2)) (blk_ok rfl) (fun _ _ _ _ _ _ => (dg_name 3 S.nd)) (fun _ _ _ _ _ => dts_nil) (fun _ _ _ _ _ _ => (de_ife (dt_cmp (CmOk.ne hu) (dh_of (de_ix (dh_slot 3) (dh_slot 6))) (dh_of de_int)) (de_def (dd := []) G__law_taken (hr.mono (by decide)) m__law_taken F__law_taken.kp b__law_taken .nil repNil (da_cons (dh_of (de_var 3)) (da_cons (dh_of (de_var 9)) (da_cons (dh_of (de_ix (dh_slot 3) (dh_slot 6))) da_nil)))) (de_var 3)))) S.nd)
      (dss_cons (ds_setLc 4 (own := [("bar", 3)]) rfl S.nd (di_seq (de_var 4)) (blk_ok rfl) (fun _ _ _ _ _ _ => (dg_name 3 S.nd)) (fun _ _ _ _ _ => dts_nil) (fun _ _ _ _ _ _ => (de_ife (dt_cmp (CmOk.ne hu) (dh_of (de_ix (dh_slot 3) (dh_slot 6))) (dh_of de_int)) (de_def (dd := []) G__law_taken (hr.mono (by decide)) m__law_taken F__law_taken.kp b__law_taken .nil repNil (da_cons (dh_of (de_var 3)) (da_cons (dh_of (de_var 9)) (da_cons (dh_of (de_ix (dh_slot 3) (dh_slot 6))) da_nil)))) (de_var 3))))
      (dss_cons (ds_append 4 (de_var 9))
      (dss_one (ds_append 5 (de_var 6))))))))))))
      (dss_one (ds_ret (de_list (da_cons (dh_of (de_var 4)) (da_cons (dh_of (de_var 5)) da_nil)))))))))
theorem ok__law_rank (C : Ct K mg cls) {f : Addr} {fd : FuncData} (F : Fun K "_law_rank" "_law_rank" s__law_rank f fd) : FnOk P w K mg base CX0 3 f fd P__law_rank (spB (TB cls) N__law_rank P__law_rank mb__law_rank) := by
  obtain ⟨f__law_lowered, fd__law_lowered, m__law_lowered, F__law_lowered, b__law_lowered⟩ := C.f__law_lowered
  have G__law_lowered := ok__law_lowered (P := P) (w := w) (base := base) C F__law_lowered
  refine fn_ok F sc__law_rank fun cdv A outer s H E O hr => ?_
  have hu := hr.units
  have S := sc__law_rank
  exact (dss_one (ds_ret (de_callB CaOk.len C.b_len rfl (da_cons (dh_of (de_ix (dh_of (de_def (dd := []) G__law_lowered (hr.mono (by decide)) m__law_lowered F__law_lowered.kp b__law_lowered .nil repNil (da_cons (dh_of (de_ix (dh_slot 0) (dh_of de_int))) (da_cons (dh_of (de_ix (dh_slot 0) (dh_of de_int))) da_nil)))) (dh_of de_int))) da_nil))))
theorem ok__law_is_whole (C : Ct K mg cls) {f : Addr} {fd : FuncData} (F : Fun K "_law_is_whole" "_law_is_whole" s__law_is_whole f fd) : FnOk P w K mg base CX0 1 f fd P__law_is_whole (spB (TB cls) N__law_is_whole P__law_is_whole mb__law_is_whole) := by
  refine fn_ok F sc__law_is_whole fun cdv A outer s H E O hr => ?_
  have hu := hr.units
  have S := sc__law_is_whole
  exact (dss_one (ds_ret (de_and (dh_of (de_isi (n := 0) isOk_ty (.ty "int") (pe_tyB C.b_int rfl) C.b_isinstance (dh_slot 0))) (de_one (de_not (dh_of (de_isi (n := 0) isOk_ty (.ty "bool") (pe_tyB C.b_bool rfl) C.b_isinstance (dh_slot 0))))))))
theorem ok__law_seen (C : Ct K mg cls) {f : Addr} {fd : FuncData} (F : Fun K "_law_seen" "_law_seen" s__law_seen f fd) : FnOk P w K mg base CX0 2 f fd P__law_seen (spB (TB cls) N__law_seen P__law_seen mb__law_seen) := by
  obtain ⟨f__law_is_whole, fd__law_is_whole, m__law_is_whole, F__law_is_whole, b__law_is_whole⟩ := C.f__law_is_whole
  have G__law_is_whole := ok__law_is_whole (P := P) (w := w) (base := base) C F__law_is_whole
  refine fn_ok F sc__law_seen fun cdv A outer s H E O hr => ?_
  have hu := hr.units
  have S := sc__law_seen
  exact (dss_cons (ds_if (dt_w (dw_or (dt_not (dt_tru (dh_of (de_isi (C.isi_Table) (.own _) (pe_clsG C.k_Table) C.b_isinstance (dh_slot 0))))) (dw_or (dt_not (dt_tru (dh_of (de_def (dd := []) G__law_is_whole (hr.mono (by decide)) m__law_is_whole F__law_is_whole.kp b__law_is_whole .nil repNil (da_cons (dh_of (de_att (n := 1) (f := 0) C.tok rfl (dh_slot 0))) da_nil))))) (dw_or (dt_not (dt_tru (dh_of (de_def (dd := []) G__law_is_whole (hr.mono (by decide)) m__law_is_whole F__law_is_whole.kp b__law_is_whole .nil repNil (da_cons (dh_of (de_att (n := 1) (f := 1) C.tok rfl (dh_slot 0))) da_nil))))) (dw_or1 (dt_not (dt_tru (dh_of (de_isi (n := 0) isOk_ty (.ty "tuple") (pe_tyB C.b_tuple rfl) C.b_isinstance (dh_of (de_att (n := 1) (f := 2) C.tok rfl (dh_slot 0)))))))))))) (dss_one (ds_ret de_non)) dss_nil)
      (dss_cons (ds_if (dt_w (dw_or (dt_cmp (CmOk.ne hu) (dh_of (de_callB CaOk.len C.b_len rfl (da_cons (dh_of (de_att (n := 1) (f := 2) C.tok rfl (dh_slot 0))) da_nil))) (dh_of (de_att (n := 1) (f := 0) C.tok rfl (dh_slot 0)))) (dw_or1 (dt_cmp CmOk.lt (dh_of (de_att (n := 1) (f := 1) C.tok rfl (dh_slot 0))) (dh_of de_int))))) (dss_one (ds_ret de_non)) dss_nil)
      (dss_cons (ds_for (vs := [1]) PassesOwn.never rfl (di_seq (de_att (n := 1) (f := 2) C.tok rfl (dh_slot 0))) (dg_name 1 S.nd) (dss_one (ds_if (dt_w (dw_or (dt_not (dt_tru (dh_of (de_isi (n := 0) isOk_ty (.ty "tuple") (pe_tyB C.b_tuple rfl) C.b_isinstance (dh_slot 1))))) (dw_or (dt_cmp (CmOk.ne hu) (dh_of (de_callB CaOk.len C.b_len rfl (da_cons (dh_slot 1) da_nil))) (dh_of (de_att (n := 1) (f := 1) C.tok rfl (dh_slot 0)))) (dw_or1 (dt_cmp (CmOk.ne hu) (dh_of (de_lc (own := [("n", 2)]) rfl S.nd (di_seq (de_var 1)) (blk_ok rfl) (fun _ _ _ _ _ _ => (dg_name 2 S.nd)) (fun _ _ _ _ _ => (dts_one fun _ => (dt_w (dw_or (dt_not (dt_tru (dh_of (de_def (dd := []) G__law_is_whole (hr.mono (by decide)) m__law_is_whole F__law_is_whole.kp b__law_is_whole .nil repNil (da_cons (dh_of (de_var 2)) da_nil))))) (dw_or (dt_cmp CmOk.lt (dh_slot 2) (dh_of de_int)) (dw_or1 (dt_cmp CmOk.ge (dh_slot 2) (dh_of de_int)))))))) (fun _ _ _ _ _ _ => (de_var 2)))) (dh_of (de_list da_nil))))))) (dss_one (ds_ret de_non)) dss_nil)))
      (dss_one (ds_ret (de_list (da_cons (dh_of (de_att (n := 1) (f := 0) C.tok rfl (dh_slot 0))) (da_cons (dh_of (de_att (n := 1) (f := 1) C.tok rfl (dh_slot 0))) (da_cons (dh_of (de_lc (own := [("bar", 1)]) rfl S.nd (di_seq (de_att (n := 1) (f := 2) C.tok rfl (dh_slot 0))) (blk_ok rfl) (fun _ _ _ _ _ _ => (dg_name 1 S.nd)) (fun _ _ _ _ _ => dts_nil) (fun _ _ _ _ _ _ => (de_callT CaOk.list C.b_list rfl (da_cons (dh_slot 1) da_nil))))) da_nil)))))))))
theorem ok_columns_of (C : Ct K mg cls) {f : Addr} {fd : FuncData} (F : Fun K "columns_of" "columns_of" s_columns_of f fd) : FnOk P w K mg base CX0 1 f fd P_columns_of (spB (TB cls) N_columns_of P_columns_of mb_columns_of) := by
  refine fn_ok F sc_columns_of fun cdv A outer s H E O hr => ?_
  have hu := hr.units
  have S := sc_columns_of
  exact (dss_one (ds_ret (de_lc (own := [("at", 2)]) rfl S.nd (di_range1 (by rfl) C.b_range (da_cons (dh_slot 1) da_nil)) (blk_ok rfl) (fun _ _ _ _ _ _ => (dg_name 2 S.nd)) (fun _ _ _ _ _ => dts_nil) (fun _ _ _ _ _ _ => (de_lc (own := [("row", 3)]) rfl S.nd (di_seq (de_var 0)) (blk_ok rfl) (fun _ _ _ _ _ _ => (dg_name 3 S.nd)) (fun _ _ _ _ _ => dts_nil) (fun _ _ _ _ _ _ => (de_ix (dh_slot 3) (dh_slot 2))))))))
theorem ok_cleared (C : Ct K mg cls) {f : Addr} {fd : FuncData} (F : Fun K "cleared" "cleared" s_cleared f fd) : FnOk P w K mg base CX0 1 f fd P_cleared (spB (TB cls) N_cleared P_cleared mb_cleared) := by
  refine fn_ok F sc_cleared fun cdv A outer s H E O hr => ?_
  have hu := hr.units
  have S := sc_cleared
  exact (dss_cons (ds_set 3 (de_ix (dh_slot 0) (dh_slot 2)) S.nd)
      (dss_cons (ds_if (dt_cmp (CmOk.eq hu) (dh_slot 3) (dh_of de_int)) (dss_one (ds_retV 0)) dss_nil)
      (dss_one (ds_ret (de_bin OpOk.add (dh_of (de_slice (dh_slot 0) do_none (do_some (dh_slot 2)))) (dh_of (de_lc (own := [("n", 4), ("m", 5)]) rfl S.nd (di_zip (by rfl) C.b_zip (da_cons (dh_of (de_slice (dh_slot 0) (do_some (dh_slot 2)) do_none)) (da_cons (dh_of (de_var 1)) da_nil))) (blk_ok rfl) (fun _ _ _ _ _ _ => (dg_tup (n := 2) rfl (dgs_cons (dg_name 4 S.nd) (dgs_cons (dg_name 5 S.nd) dgs_nil)))) (fun _ _ _ _ _ => dts_nil) (fun _ _ _ _ _ _ => (de_bin OpOk.mod (dh_of (de_bin OpOk.sub (dh_slot 4) (dh_of (de_bin OpOk.mul (dh_slot 3) (dh_slot 5))))) (dh_of (de_globI C.c_PRIME_modular)))))))))))
theorem ok_lead_row (C : Ct K mg cls) {f : Addr} {fd : FuncData} (F : Fun K "lead_row" "lead_row" s_lead_row f fd) : FnOk P w K mg base CX0 1 f fd P_lead_row (spB (TB cls) N_lead_row P_lead_row mb_lead_row) := by
  refine fn_ok F sc_lead_row fun cdv A outer s H E O hr => ?_
  have hu := hr.units
  have S := sc_lead_row
  exact (dss_cons (ds_for (vs := [2, 3]) PassesOwn.never rfl (di_enumA (by rfl) C.b_enumerate (da_cons (dh_of (de_var 0)) da_nil)) (dg_tup (n := 2) rfl (dgs_cons (dg_name 2 S.nd) (dgs_cons (dg_name 3 S.nd) dgs_nil))) (dss_one (ds_if (dt_tru (dh_of (de_ix (dh_slot 3) (dh_slot 1)))) (dss_one (ds_retV 2)) dss_nil)))
      (dss_one (ds_ret (de_neg (dh_of de_int)))))
theorem ok_inverse (C : Ct K mg cls) {f : Addr} {fd : FuncData} (F : Fun K "inverse" "inverse" s_inverse f fd) : FnOk P w K mg base CX0 1 f fd P_inverse (spB (TB cls) N_inverse P_inverse mb_inverse) := by
  refine fn_ok F sc_inverse fun cdv A outer s H E O hr => ?_
  have hu := hr.units
  have S := sc_inverse
  exact (dss_cons (ds_par 1 2 rfl (da_cons (dh_of (de_bin OpOk.mod (dh_slot 0) (dh_of (de_globI C.c_PRIME_modular)))) (da_cons (dh_of (de_globI C.c_PRIME_modular)) da_nil)) S.nd)
      (dss_cons (ds_asg (vs := [3, 4]) (de_tup (da_cons (dh_of de_int) (da_cons (dh_of de_int) da_nil))) (dg_tup (n := 2) rfl (dgs_cons (dg_name 3 S.nd) (dgs_cons (dg_name 4 S.nd) dgs_nil))))
      (dss_cons (ds_while fuel_inverse PassesOwn.never (dt_cmp CmOk.gt (dh_slot 1) (dh_of de_int)) (dss_cons (ds_set 5 (de_bin OpOk.div (dh_slot 2) (dh_slot 1)) S.nd)
      (dss_cons (ds_par 1 2 rfl (da_cons (dh_of (de_bin OpOk.sub (dh_slot 2) (dh_of (de_bin OpOk.mul (dh_slot 5) (dh_slot 1))))) (da_cons (dh_of (de_var 1)) da_nil)) S.nd)
      (dss_one (ds_par 3 4 rfl (da_cons (dh_of (de_bin OpOk.sub (dh_slot 4) (dh_of (de_bin OpOk.mul (dh_slot 5) (dh_slot 3))))) (da_cons (dh_of (de_var 3)) da_nil)) S.nd)))))
      (dss_one (ds_ret (de_bin OpOk.mod (dh_slot 3) (dh_of (de_globI C.c_PRIME_modular))))))))
theorem ok_unit_tail (C : Ct K mg cls) {f : Addr} {fd : FuncData} (F : Fun K "unit_tail" "unit_tail" s_unit_tail f fd) : FnOk P w K mg base CX0 2 f fd P_unit_tail (spB (TB cls) N_unit_tail P_unit_tail mb_unit_tail) := by
  obtain ⟨f_inverse, fd_inverse, m_inverse, F_inverse, b_inverse⟩ := C.f_inverse
  have G_inverse := ok_inverse (P := P) (w := w) (base := base) C F_inverse
  refine fn_ok F sc_unit_tail fun cdv A outer s H E O hr => ?_
  have hu := hr.units
  have S := sc_unit_tail
  exact (dss_cons (ds_set 2 (de_def (dd := []) G_inverse (hr.mono (by decide)) m_inverse F_inverse.kp b_inverse .nil repNil (da_cons (dh_of (de_ix (dh_slot 0) (dh_slot 1))) da_nil)) S.nd)
      (dss_one (ds_ret (de_lc (own := [("n", 3)]) rfl S.nd (di_seq (de_slice (dh_slot 0) (do_some (dh_slot 1)) do_none)) (blk_ok rfl) (fun _ _ _ _ _ _ => (dg_name 3 S.nd)) (fun _ _ _ _ _ => dts_nil) (fun _ _ _ _ _ _ => (de_bin OpOk.mod (dh_of (de_bin OpOk.mul (dh_slot 3) (dh_slot 2))) (dh_of (de_globI C.c_PRIME_modular))))))))
theorem ok_echelon (C : Ct K mg cls) {f : Addr} {fd : FuncData} (F : Fun K "echelon" "echelon" s_echelon f fd) : FnOk P w K mg base CX0 3 f fd P_echelon (spB (TB cls) N_echelon P_echelon mb_echelon) := by
  obtain ⟨f_cleared, fd_cleared, m_cleared, F_cleared, b_cleared⟩ := C.f_cleared
  have G_cleared := ok_cleared (P := P) (w := w) (base := base) C F_cleared
  obtain ⟨f_lead_row, fd_lead_row, m_lead_row, F_lead_row, b_lead_row⟩ := C.f_lead_row
  have G_lead_row := ok_lead_row (P := P) (w := w) (base := base) C F_lead_row
  obtain ⟨f_unit_tail, fd_unit_tail, m_unit_tail, F_unit_tail, b_unit_tail⟩ := C.f_unit_tail
  have G_unit_tail := ok_unit_tail (P := P) (w := w) (base := base) C F_unit_tail
  refine fn_ok F sc_echelon fun cdv A outer s H E O hr => ?_
  have hu := hr.units
  have S := sc_echelon
  exact (dss_cons (ds_setLc 2 (own := [("row", 3)]) rfl S.nd (di_seq (de_var 0)) (blk_ok rfl) (fun _ _ _ _ _ _ => (dg_name 3 S.nd)) (fun _ _ _ _ _ => dts_nil) (fun _ _ _ _ _ _ => (de_callT CaOk.list C.b_list rfl (da_cons (dh_slot 3) da_nil))))
      (dss_cons (ds_set 4 (de_list da_nil) S.nd)
      (dss_cons (ds_set 5 (de_list da_nil) S.nd)
      (dss_cons (ds_for (vs := [6]) PassesOwn.never rfl (di_range1 (by rfl) C.b_range (da_cons (dh_slot 1) da_nil)) (dg_name 6 S.nd) (dss_cons (ds_set 7 (de_lend (dd := []) G_lead_row (hr.mono (by decide)) m_lead_row F_lead_row.kp b_lead_row .nil repNil (da_cons (dh_slot 2) (da_cons (dh_of (de_var 6)) da_nil))) S.nd)
      (dss_cons (ds_if (dt_cmp CmOk.lt (dh_slot 7) (dh_of de_int)) (dss_one ds_continue) dss_nil)
      (dss_cons (ds_set 8 (de_def (dd := []) G_unit_tail (hr.mono (by decide)) m_unit_tail F_unit_tail.kp b_unit_tail .nil repNil (da_cons (dh_of (de_popAt 2 (dh_slot 7))) (da_cons (dh_of (de_var 6)) da_nil))) S.nd)
      (dss_cons (ds_setLc 2 (own := [("row", 3)]) rfl S.nd (di_seq (de_var 2)) (blk_ok rfl) (fun _ _ _ _ _ _ => (dg_name 3 S.nd)) (fun _ _ _ _ _ => dts_nil) (fun _ _ _ _ _ _ => (de_def (dd := []) G_cleared (hr.mono (by decide)) m_cleared F_cleared.kp b_cleared .nil repNil (da_cons (dh_of (de_var 3)) (da_cons (dh_of (de_var 8)) (da_cons (dh_of (de_var 6)) da_nil))))))
      (dss_cons (ds_setLc 4 (own := [("row", 3)]) rfl S.nd (di_seq (de_var 4)) (blk_ok rfl) (fun _ _ _ _ _ _ => (dg_name 3 S.nd)) (fun _ _ _ _ _ => dts_nil) (fun _ _ _ _ _ _ => (de_def (dd := []) G_cleared (hr.mono (by decide)) m_cleared F_cleared.kp b_cleared .nil repNil (da_cons (dh_of (de_var 3)) (da_cons (dh_of (de_var 8)) (da_cons (dh_of (de_var 6)) da_nil))))))
      (dss_cons (ds_append 4 (de_bin OpOk.add (dh_of (de_bin OpOk.mul (dh_of (de_list (da_cons (dh_of de_int) da_nil))) (dh_slot 6))) (dh_slot 8)))
      (dss_one (ds_append 5 (de_var 6))))))))))
      (dss_one (ds_ret (de_tup (da_cons (dh_of (de_var 4)) (da_cons (dh_of (de_var 5)) da_nil)))))))))
theorem ok_table_of (C : Ct K mg cls) {f : Addr} {fd : FuncData} (F : Fun K "table_of" "table_of" s_table_of f fd) : FnOk P w K mg base CX0 4 f fd P_table_of (spB (TB cls) N_table_of P_table_of mb_table_of) := by
  obtain ⟨f_Table___init__, fd_Table___init__, M_Table___init__, F_Table___init__, B_Table___init___0, B_Table___init___1⟩ := C.f_Table___init__
  have G_Table___init__ := ok_Table___init__ (P := P) (w := w) (base := base) C F_Table___init__
  refine fn_ok F sc_table_of fun cdv A outer s H E O hr => ?_
  have hu := hr.units
  have S := sc_table_of
  exact (dss_cons (ds_if (dt_tru (dh_of (de_isi (C.isi_Table) (.own _) (pe_clsG C.k_Table) C.b_isinstance (dh_slot 0)))) (dss_one (ds_retV 0)) dss_nil)
      (dss_cons (ds_if (dt_w (dw_or (dt_cmp (CmOk.eq hu) (dh_of (de_callB CaOk.len C.b_len rfl (da_cons (dh_slot 0) da_nil))) (dh_of de_int)) (dw_or1 (dt_cmp (CmOk.eq hu) (dh_of (de_callB CaOk.len C.b_len rfl (da_cons (dh_of (de_ix (dh_slot 0) (dh_of de_int))) da_nil))) (dh_of de_int))))) (dss_one ds_never) dss_nil)
      (dss_one (ds_ret (de_make (c := 0) (dd := []) M_Table___init__ G_Table___init__ (hr.mono (by decide)) C.k_Table B_Table___init___0.choose_spec.2 B_Table___init___0.choose_spec.1 repNil (da_cons (dh_of (de_callB CaOk.len C.b_len rfl (da_cons (dh_slot 0) da_nil))) (da_cons (dh_of (de_callB CaOk.len C.b_len rfl (da_cons (dh_of (de_ix (dh_slot 0) (dh_of de_int))) da_nil))) (da_cons (dh_of (de_var 0)) da_nil))))))))
theorem ok_table_of_columns (C : Ct K mg cls) {f : Addr} {fd : FuncData} (F : Fun K "table_of_columns" "table_of_columns" s_table_of_columns f fd) : FnOk P w K mg base CX0 4 f fd P_table_of_columns (spB (TB cls) N_table_of_columns P_table_of_columns mb_table_of_columns) := by
  obtain ⟨f_Table___init__, fd_Table___init__, M_Table___init__, F_Table___init__, B_Table___init___0, B_Table___init___1⟩ := C.f_Table___init__
  have G_Table___init__ := ok_Table___init__ (P := P) (w := w) (base := base) C F_Table___init__
  obtain ⟨f_columns_of, fd_columns_of, m_columns_of, F_columns_of, b_columns_of⟩ := C.f_columns_of
  have G_columns_of := ok_columns_of (P := P) (w := w) (base := base) C F_columns_of
  refine fn_ok F sc_table_of_columns fun cdv A outer s H E O hr => ?_
  have hu := hr.units
  have S := sc_table_of_columns
  exact (dss_one (ds_ret (de_make (c := 0) (dd := []) M_Table___init__ G_Table___init__ (hr.mono (by decide)) C.k_Table B_Table___init___0.choose_spec.2 B_Table___init___0.choose_spec.1 repNil (da_cons (dh_of (de_var 0)) (da_cons (dh_of (de_callB CaOk.len C.b_len rfl (da_cons (dh_slot 1) da_nil))) (da_cons (dh_of (de_def (dd := []) G_columns_of (hr.mono (by decide)) m_columns_of F_columns_of.kp b_columns_of .nil repNil (da_cons (dh_of (de_var 1)) (da_cons (dh_of (de_var 0)) da_nil)))) da_nil))))))
theorem ok_frame (C : Ct K mg cls) {f : Addr} {fd : FuncData} (F : Fun K "frame" "frame" s_frame f fd) : FnOk P w K mg base CX0 5 f fd P_frame (spB (TB cls) N_frame P_frame mb_frame) := by
  obtain ⟨f_columns_of, fd_columns_of, m_columns_of, F_columns_of, b_columns_of⟩ := C.f_columns_of
  have G_columns_of := ok_columns_of (P := P) (w := w) (base := base) C F_columns_of
  obtain ⟨f_echelon, fd_echelon, m_echelon, F_echelon, b_echelon⟩ := C.f_echelon
  have G_echelon := ok_echelon (P := P) (w := w) (base := base) C F_echelon
  obtain ⟨f_table_of, fd_table_of, m_table_of, F_table_of, b_table_of⟩ := C.f_table_of
  have G_table_of := ok_table_of (P := P) (w := w) (base := base) C F_table_of
  obtain ⟨f_table_of_columns, fd_table_of_columns, m_table_of_columns, F_table_of_columns, b_table_of_columns⟩ := C.f_table_of_columns
  have G_table_of_columns := ok_table_of_columns (P := P) (w := w) (base := base) C F_table_of_columns
  refine fn_ok F sc_frame fun cdv A outer s H E O hr => ?_
  have hu := hr.units
  have S := sc_frame
  exact (dss_cons (ds_set 1 (de_def (dd := []) G_table_of (hr.mono (by decide)) m_table_of F_table_of.kp b_table_of .nil repNil (da_cons (dh_of (de_var 0)) da_nil)) S.nd)
      (dss_cons (ds_asg (vs := [2, 3]) (de_def (dd := []) G_echelon (hr.mono (by decide)) m_echelon F_echelon.kp b_echelon .nil repNil (da_cons (dh_of (de_def (dd := []) G_columns_of (hr.mono (by decide)) m_columns_of F_columns_of.kp b_columns_of .nil repNil (da_cons (dh_of (de_att (n := 1) (f := 2) C.tok rfl (dh_slot 1))) (da_cons (dh_of (de_att (n := 1) (f := 1) C.tok rfl (dh_slot 1))) da_nil)))) (da_cons (dh_of (de_att (n := 1) (f := 0) C.tok rfl (dh_slot 1))) da_nil))) (dg_tup (n := 2) rfl (dgs_cons (dg_name 2 S.nd) (dgs_cons (dg_name 3 S.nd) dgs_nil))))
      (dss_one (ds_ret (de_def (dd := []) G_table_of_columns (hr.mono (by decide)) m_table_of_columns F_table_of_columns.kp b_table_of_columns .nil repNil (da_cons (dh_of (de_att (n := 1) (f := 0) C.tok rfl (dh_slot 1))) (da_cons (dh_of (de_var 2)) da_nil)))))))
theorem ok_null_column (C : Ct K mg cls) {f : Addr} {fd : FuncData} (F : Fun K "null_column" "null_column" s_null_column f fd) : FnOk P w K mg base CX0 1 f fd P_null_column (spB (TB cls) N_null_column P_null_column mb_null_column) := by
  refine fn_ok F sc_null_column fun cdv A outer s H E O hr => ?_
  have hu := hr.units
  have S := sc_null_column
  exact (dss_cons (ds_setLc 4 (own := [("_", 5)]) rfl S.nd (di_range1 (by rfl) C.b_range (da_cons (dh_slot 2) da_nil)) (blk_ok rfl) (fun _ _ _ _ _ _ => (dg_name 5 S.nd)) (fun _ _ _ _ _ => dts_nil) (fun _ _ _ _ _ _ => de_int))
      (dss_cons (ds_setIx 4 de_int (dh_of (de_bin OpOk.sub (dh_of (de_bin OpOk.sub (dh_slot 2) (dh_of de_int))) (dh_slot 3))))
      (dss_cons (ds_for (vs := [6, 7]) PassesOwn.never rfl (di_zip (by rfl) C.b_zip (da_cons (dh_of (de_var 0)) (da_cons (dh_of (de_var 1)) da_nil))) (dg_tup (n := 2) rfl (dgs_cons (dg_name 6 S.nd) (dgs_cons (dg_name 7 S.nd) dgs_nil))) (dss_one (ds_setIx 4 (de_bin OpOk.mod (dh_of (de_neg (dh_of (de_ix (dh_slot 6) (dh_slot 3))))) (dh_of (de_globI C.c_PRIME_modular))) (dh_of (de_bin OpOk.sub (dh_of (de_bin OpOk.sub (dh_slot 2) (dh_of de_int))) (dh_slot 7))))))
      (dss_one (ds_retV 4)))))
theorem ok_null_columns (C : Ct K mg cls) {f : Addr} {fd : FuncData} (F : Fun K "null_columns" "null_columns" s_null_columns f fd) : FnOk P w K mg base CX0 4 f fd P_null_columns (spB (TB cls) N_null_columns P_null_columns mb_null_columns) := by
  obtain ⟨f_echelon, fd_echelon, m_echelon, F_echelon, b_echelon⟩ := C.f_echelon
  have G_echelon := ok_echelon (P := P) (w := w) (base := base) C F_echelon
  obtain ⟨f_null_column, fd_null_column, m_null_column, F_null_column, b_null_column⟩ := C.f_null_column
  have G_null_column := ok_null_column (P := P) (w := w) (base := base) C F_null_column
  refine fn_ok F sc_null_columns fun cdv A outer s H E O hr => ?_
  have hu := hr.units
  have S := sc_null_columns
  exact (dss_cons (ds_asg (vs := [2, 3]) (de_def (dd := []) G_echelon (hr.mono (by decide)) m_echelon F_echelon.kp b_echelon .nil repNil (da_cons (dh_of (de_lc (own := [("row", 4)]) rfl S.nd (di_seq (de_var 0)) (blk_ok rfl) (fun _ _ _ _ _ _ => (dg_name 4 S.nd)) (fun _ _ _ _ _ => dts_nil) (fun _ _ _ _ _ _ => (de_rev (dh_slot 4))))) (da_cons (dh_of (de_var 1)) da_nil))) (dg_tup (n := 2) rfl (dgs_cons (dg_name 2 S.nd) (dgs_cons (dg_name 3 S.nd) dgs_nil))))
      (dss_cons (ds_set 5 (de_rev (dh_of (de_listRg rfl C.b_list C.b_range (dh_slot 1)))) S.nd)
      (dss_one (ds_ret (de_lc (own := [("free", 6)]) rfl S.nd (di_seq (de_var 5)) (blk_ok rfl) (fun _ _ _ _ _ _ => (dg_name 6 S.nd)) (fun _ _ _ _ _ => (dts_one fun _ => (dt_cmp CmOk.notIn (dh_slot 6) (dh_slot 3)))) (fun _ _ _ _ _ _ => (de_def (dd := []) G_null_column (hr.mono (by decide)) m_null_column F_null_column.kp b_null_column .nil repNil (da_cons (dh_of (de_var 2)) (da_cons (dh_of (de_var 3)) (da_cons (dh_of (de_var 1)) (da_cons (dh_of (de_var 6)) da_nil)))))))))))
theorem ok_kernel (C : Ct K mg cls) {f : Addr} {fd : FuncData} (F : Fun K "kernel" "kernel" s_kernel f fd) : FnOk P w K mg base CX0 5 f fd P_kernel (spB (TB cls) N_kernel P_kernel mb_kernel) := by
  obtain ⟨f_null_columns, fd_null_columns, m_null_columns, F_null_columns, b_null_columns⟩ := C.f_null_columns
  have G_null_columns := ok_null_columns (P := P) (w := w) (base := base) C F_null_columns
  obtain ⟨f_table_of, fd_table_of, m_table_of, F_table_of, b_table_of⟩ := C.f_table_of
  have G_table_of := ok_table_of (P := P) (w := w) (base := base) C F_table_of
  obtain ⟨f_table_of_columns, fd_table_of_columns, m_table_of_columns, F_table_of_columns, b_table_of_columns⟩ := C.f_table_of_columns
  have G_table_of_columns := ok_table_of_columns (P := P) (w := w) (base := base) C F_table_of_columns
  refine fn_ok F sc_kernel fun cdv A outer s H E O hr => ?_
  have hu := hr.units
  have S := sc_kernel
  exact (dss_cons (ds_set 1 (de_def (dd := []) G_table_of (hr.mono (by decide)) m_table_of F_table_of.kp b_table_of .nil repNil (da_cons (dh_of (de_var 0)) da_nil)) S.nd)
      (dss_one (ds_ret (de_def (dd := []) G_table_of_columns (hr.mono (by decide)) m_table_of_columns F_table_of_columns.kp b_table_of_columns .nil repNil (da_cons (dh_of (de_att (n := 1) (f := 1) C.tok rfl (dh_slot 1))) (da_cons (dh_of (de_def (dd := []) G_null_columns (hr.mono (by decide)) m_null_columns F_null_columns.kp b_null_columns .nil repNil (da_cons (dh_of (de_att (n := 1) (f := 2) C.tok rfl (dh_slot 1))) (da_cons (dh_of (de_att (n := 1) (f := 1) C.tok rfl (dh_slot 1))) da_nil)))) da_nil))))))
end
end DV
-- K2C
namespace DV
open PySem PySem.Spec PyProof.Rows L2
local macro_rules | `(tactic| contradiction) => `(tactic| first
  | with_reducible refine okM_mod ?_
  | with_reducible refine okM_mul ?_
  | with_reducible refine okM_div ?_
  | with_reducible refine okM_pow ?_
  | with_reducible refine okM_ix ?_
  | with_reducible refine Eq.mpr okM_bin ?_
  | with_reducible refine okS_setW ?_
  | with_reducible refine okS_setIxW ?_
  | with_reducible refine okS_appW ?_
  | with_reducible refine okS_putFW ?_
  | with_reducible refine okS_parW ?_
  | with_reducible refine okM_popAtW ?_
  | with_reducible refine Eq.mpr okM_val ?_
  | with_reducible refine Eq.mpr okM_slot ?_
  | with_reducible refine Eq.mpr okM_C ?_
  | with_reducible refine Eq.mpr okM_cons ?_
  | with_reducible refine Eq.mpr okM_nil ?_
  | with_reducible refine Eq.mpr okM_call ?_
  | with_reducible refine Eq.mpr okM_var ?_
  | with_reducible refine Eq.mpr okM_un ?_
  | with_reducible refine Eq.mpr okM_list ?_
  | with_reducible refine Eq.mpr okM_tup ?_
  | with_reducible refine Eq.mpr okM_sl ?_
  | with_reducible refine Eq.mpr okM_part ?_
  | with_reducible refine Eq.mpr okM_noPart ?_
  | with_reducible refine Eq.mpr okM_cmpT ?_
  | with_reducible refine Eq.mpr okM_cmp ?_
  | with_reducible refine Eq.mpr okM_tru ?_
  | with_reducible refine Eq.mpr okM_not ?_
  | with_reducible refine Eq.mpr okM_and ?_
  | with_reducible refine Eq.mpr okM_or ?_
  | with_reducible refine Eq.mpr okM_if ?_
  | with_reducible refine Eq.mpr okM_andV ?_
  | with_reducible refine Eq.mpr okM_orV ?_
  | with_reducible refine Eq.mpr okM_iter ?_
  | with_reducible refine Eq.mpr okM_rg1 ?_
  | with_reducible refine Eq.mpr okM_rg2 ?_
  | with_reducible refine Eq.mpr okM_zip ?_
  | with_reducible refine Eq.mpr okM_lc ?_
  | with_reducible refine Eq.mpr okM_def ?_
  | with_reducible refine Eq.mpr okM_isi ?_
  | with_reducible refine Eq.mpr okM_ownL ?_
  | with_reducible refine Eq.mpr okM_pure ?_
  | with_reducible refine Eq.mpr okS_seq ?_
  | with_reducible refine Eq.mpr okS_nx ?_
  | with_reducible refine Eq.mpr okS_if ?_
  | with_reducible refine Eq.mpr okS_ret ?_
  | with_reducible refine Eq.mpr okS_retV ?_
  | with_reducible refine Eq.mpr okS_asg ?_
  | with_reducible refine Eq.mpr okS_for ?_
  | with_reducible refine Eq.mpr okS_expr ?_
  | with_reducible refine Eq.mpr okS_bk ?_
  | with_reducible refine Eq.mpr okS_ct ?_
  | with_reducible refine Eq.mpr okS_rtN ?_
  | with_reducible refine setK_i (by simp only [set_un, set_fz, set_ow, set_s, Option.map_some, slOf_f, slOf_t]; first | done | rfl) ?_
  | with_reducible refine chgK_i (by simp only [chg_ow, chg_io, chg_s, List.set_cons_zero, List.set_cons_succ, Int.reduceToNat]; first | done | rfl) ?_
  | with_reducible refine And.intro (GMod.mk (by omega)) ?_
  | with_reducible refine And.intro (GDiv.mk ⟨by omega, by omega⟩) ?_
  | with_reducible refine And.intro (GPow.mk ⟨by omega, by omega, by omega, by omega⟩) ?_
  | with_reducible refine And.intro (GMul.r ⟨by omega, by omega⟩) ?_
  | with_reducible refine And.intro (GMul.l ⟨by omega, by omega⟩) ?_
  | with_reducible refine split_T ?_
  | with_reducible refine split_F ?_
  | with_reducible refine split_dec (fun _ => ?_) (fun _ => ?_)
  | with_reducible refine split_neg ?_
  | refine ⟨_, rfl, _, rfl, _, rfl, ?_⟩
  | refine ⟨_, rfl, _, rfl, ?_⟩
  | refine ⟨_, rfl, ⟨_, rfl⟩, ?_⟩
  | refine ⟨_, rfl, ?_⟩
  | refine ⟨_, _, rfl, ?_⟩
  | refine ⟨rfl, ?_⟩
  | exact smI_of ⟨by omega, by omega⟩)
theorem ix_ints {cs : List Int} {pos : Int} (h : 0 ≤ pos) (h2 : pos < (cs.map D.int).length) : ∃ c, opIx (.lst (cs.map D.int)) (.int pos) = some (.int c, false) := by
  rw [List.length_map] at h2
  obtain ⟨n, rfl⟩ : ∃ n : Nat, pos = n := ⟨pos.toNat, by omega⟩
  have hn : n < cs.length := by omega
  exact ⟨cs[n], ix_at (by rw [List.getElem?_map, List.getElem?_eq_getElem hn]; rfl)⟩
theorem draw_ok {d : D} (hd : JOk d) {top : Int} (h0 : 0 < top) (h1 : top < 2 ^ 60) : OkS mb__law_draw [.io d, .fz (.int top), .un, .un] (fun _ => False) (fun r fl e' => ∃ d', e'[0]? = some (.io d') ∧ JOk d' ∧ ∃ v, r = .int v ∧ fl = false ∧ 0 ≤ v ∧ v < top) (fun _ => False) (fun _ => False) := by
  obtain ⟨cs, pos, mix, left, stir, cnt, rfl, hp, hs0, hs1⟩ := hd
  have fin : ∀ {cs : List Int} {pos mix left stir cnt x : Int}, 0 ≤ pos → 0 ≤ stir → stir < 2147483587 → JOk (jarD cs pos mix left stir cnt) ∧ ∃ v, (D.int (x % top)) = .int v ∧ false = false ∧ 0 ≤ v ∧ v < top := fun {cs pos mix left stir cnt x} a b c =>
    ⟨⟨_, _, _, _, _, _, rfl, a, b, c⟩, _, rfl, rfl, Int.emod_nonneg _ (by omega), Int.emod_lt_of_pos _ h0⟩
  unfold mb__law_draw jarD
  repeat' contradiction
  · obtain ⟨c, hc⟩ := ix_ints hp ‹pos < _›
    refine ⟨_, hc, ?_⟩
    repeat' contradiction
    all_goals exact fin (by omega) (by omega) (by omega)
  all_goals exact fin (by omega) (by omega) (by omega)
theorem run_draw {e : Env} {i : Nat} {d : D} {top : Int} {P : D × Bool → Env → Prop} (ho : ownD e i = some d) (hd : JOk d) (h0 : 0 < top) (h1 : top < 2 ^ 60) (h : ∀ v d', JOk d' → 0 ≤ v → v < top → P (.int v, false) (chg e i d')) : OkM (mRun 4 2 mb__law_draw [.slot i, .val (.int top)]) e P :=
  run_io i d [.int top] ho ((draw_ok hd h0 h1).mono (fun _ z => z.elim) (fun r fl e' ⟨d', q, hj, v, h1, h2, h3, h4⟩ => ⟨d', q, by rw [h1, h2]; exact h v d' hj h3 h4⟩) (fun _ z => z) fun _ z => z)
end DV
-- K2D
namespace DV
open PySem PySem.Spec PyProof.Rows L2
local macro_rules | `(tactic| contradiction) => `(tactic| first
  | with_reducible refine okM_mod ?_
  | with_reducible refine okM_mul ?_
  | with_reducible refine okM_div ?_
  | with_reducible refine okM_pow ?_
  | with_reducible refine okM_ix ?_
  | with_reducible refine Eq.mpr okM_bin ?_
  | with_reducible refine okS_setW ?_
  | with_reducible refine okS_setIxW ?_
  | with_reducible refine okS_appW ?_
  | with_reducible refine okS_putFW ?_
  | with_reducible refine okS_parW ?_
  | with_reducible refine okM_popAtW ?_
  | with_reducible refine Eq.mpr okM_val ?_
  | with_reducible refine Eq.mpr okM_slot ?_
  | with_reducible refine Eq.mpr okM_C ?_
  | with_reducible refine Eq.mpr okM_cons ?_
  | with_reducible refine Eq.mpr okM_nil ?_
  | with_reducible refine Eq.mpr okM_call ?_
  | with_reducible refine Eq.mpr okM_var ?_
  | with_reducible refine Eq.mpr okM_un ?_
  | with_reducible refine Eq.mpr okM_list ?_
  | with_reducible refine Eq.mpr okM_tup ?_
  | with_reducible refine Eq.mpr okM_sl ?_
  | with_reducible refine Eq.mpr okM_part ?_
  | with_reducible refine Eq.mpr okM_noPart ?_
  | with_reducible refine Eq.mpr okM_cmpT ?_
  | with_reducible refine Eq.mpr okM_cmp ?_
  | with_reducible refine Eq.mpr okM_tru ?_
  | with_reducible refine Eq.mpr okM_not ?_
  | with_reducible refine Eq.mpr okM_and ?_
  | with_reducible refine Eq.mpr okM_or ?_
  | with_reducible refine Eq.mpr okM_if ?_
  | with_reducible refine Eq.mpr okM_andV ?_
  | with_reducible refine Eq.mpr okM_orV ?_
  | with_reducible refine Eq.mpr okM_iter ?_
  | with_reducible refine Eq.mpr okM_rg1 ?_
  | with_reducible refine Eq.mpr okM_rg2 ?_
  | with_reducible refine Eq.mpr okM_zip ?_
  | with_reducible refine Eq.mpr okM_lc ?_
  | with_reducible refine Eq.mpr okM_def ?_
  | with_reducible refine Eq.mpr okM_isi ?_
  | with_reducible refine Eq.mpr okM_ownL ?_
  | with_reducible refine Eq.mpr okM_pure ?_
  | with_reducible refine Eq.mpr okS_seq ?_
  | with_reducible refine Eq.mpr okS_nx ?_
  | with_reducible refine Eq.mpr okS_if ?_
  | with_reducible refine Eq.mpr okS_ret ?_
  | with_reducible refine Eq.mpr okS_retV ?_
  | with_reducible refine Eq.mpr okS_asg ?_
  | with_reducible refine Eq.mpr okS_for ?_
  | with_reducible refine Eq.mpr okS_expr ?_
  | with_reducible refine Eq.mpr okS_bk ?_
  | with_reducible refine Eq.mpr okS_ct ?_
  | with_reducible refine Eq.mpr okS_rtN ?_
  | with_reducible refine setK_i (by simp only [set_un, set_fz, set_ow, set_s, Option.map_some, slOf_f, slOf_t, chg_ow, chg_io, chg_s, List.set_cons_zero, List.set_cons_succ, Int.reduceToNat, List.replicate_succ, List.replicate_zero, Nat.reduceSub, wipeE_cons, wipeE_nil]; first | done | rfl) ?_
  | with_reducible refine chgK_i (by simp only [set_un, set_fz, set_ow, set_s, Option.map_some, slOf_f, slOf_t, chg_ow, chg_io, chg_s, List.set_cons_zero, List.set_cons_succ, Int.reduceToNat, List.replicate_succ, List.replicate_zero, Nat.reduceSub, wipeE_cons, wipeE_nil]; first | done | rfl) ?_
  | with_reducible refine And.intro (GMod.mk (by omega)) ?_
  | with_reducible refine And.intro (GDiv.mk ⟨by omega, by omega⟩) ?_
  | with_reducible refine And.intro (GPow.mk ⟨by omega, by omega, by omega, by omega⟩) ?_
  | with_reducible refine And.intro (GMul.r ⟨by omega, by omega⟩) ?_
  | with_reducible refine And.intro (GMul.l ⟨by omega, by omega⟩) ?_
  | with_reducible refine split_T ?_
  | with_reducible refine split_F ?_
  | with_reducible refine split_dec (fun _ => ?_) (fun _ => ?_)
  | with_reducible refine split_neg ?_
  | with_reducible refine And.intro (smI_of ⟨by omega, by omega⟩) ?_
  | refine ⟨_, ix_row (by first | exact seqR_d | exact seqR_t | assumption) (by omega), ?_⟩
  | refine ⟨_, ix_dM (by omega), ?_⟩
  | refine ⟨_, rfl, _, rfl, _, rfl, ?_⟩
  | refine ⟨_, rfl, _, rfl, ?_⟩
  | refine ⟨_, rfl, ⟨_, rfl⟩, ?_⟩
  | refine ⟨_, rfl, ?_⟩
  | refine ⟨_, _, rfl, ?_⟩
  | refine ⟨rfl, ?_⟩
  | exact smI_of ⟨by omega, by omega⟩
  | ((with_reducible show wipeE _ _ = _); rfl))
theorem lenR {r : List Int} : (r.map D.int).length = r.length := List.length_map _
theorem lenM {m : List (List Int)} : (m.map dR).length = m.length := List.length_map _
section
variable {e : Env} {P : D × Bool → Env → Prop}
/-! taken -/
theorem run_taken {bar lead : List Int} {n : Int} (hl : bar.length ≤ lead.length) (hz : bar.length ≤ 1000) (hn : -(2 ^ 60) < n ∧ n < 2 ^ 60) (h : P (dR (takenR bar lead n), true) e) :
    OkM (mRun 4 3 mb__law_taken [.val (dR bar), .val (dR lead), .val (.int n)]) e P := by
  refine run_v3 ?_
  have hb := @lenR bar
  unfold mb__law_taken
  repeat' contradiction
  refine ⟨by rw [rg_len, LIM_eq]; omega, okM_mapI (fun k => .int ((ent bar k - n * ent lead k) % 1000003)) (fun i d hi => ?_) ?_⟩
  · obtain ⟨hi, rfl⟩ := rg0_get hi
    repeat' contradiction
  · simpa [dR, takenR, rg_len, Function.comp_def] using h
/-! empty -/
theorem run_empty {h w : Nat} (hh : h ≤ 100) (hw : w ≤ 100) (k : P (dT h w (List.replicate h (List.replicate w 0)), true) e) :
    OkM (mRun 4 2 mb__law_empty [.val (.int h), .val (.int w)]) e P := by
  refine run_v2 ?_
  unfold mb__law_empty
  repeat' contradiction
  refine ⟨by rw [rg_len, LIM_eq]; omega, okM_mapI (fun _ => dR (List.replicate w 0)) (fun i d hi => ?_) ?_⟩
  · obtain ⟨hi, rfl⟩ := rg0_get hi
    repeat' contradiction
    refine ⟨by rw [rg_len, LIM_eq]; omega, okM_mapI (fun _ => .int 0) (fun j d hj => ?_) ?_⟩
    · obtain ⟨hj, rfl⟩ := rg0_get hj
      repeat' contradiction
    · refine ⟨?_, rfl⟩
      simp [dR, rg_len, List.map_const']
  · repeat' contradiction
    refine ⟨by simp [LIM_eq], ?_⟩
    simpa [dT, dM, rg_len, List.map_const'] using k
/-! unit -/
theorem run_unit {n : Nat} (hn : n ≤ 100) (k : P (dT n n (unitM n), true) e) : OkM (mRun 3 1 mb__law_unit [.val (.int n)]) e P := by
  refine run_v1 ?_
  unfold mb__law_unit
  repeat' contradiction
  refine ⟨by rw [rg_len, LIM_eq]; omega, okM_mapI (fun i => dR ((List.range n).map fun j => if i = j then 1 else 0)) (fun i d hi => ?_) ?_⟩
  · obtain ⟨hi, rfl⟩ := rg0_get hi
    repeat' contradiction
    refine ⟨by rw [rg_len, LIM_eq]; omega, okM_mapI (fun j => .int (if i = j then 1 else 0)) (fun j d hj => ?_) ?_⟩
    · obtain ⟨hj, rfl⟩ := rg0_get hj
      repeat' contradiction
      refine ⟨?_, rfl⟩
      by_cases z : i = j
      · simp [z]
      · have : ¬ ((i : Int) = j) := by omega
        simp [z, this]
    · refine ⟨?_, rfl⟩
      simp [dR, rg_len]
  · repeat' contradiction
    refine ⟨by simp [LIM_eq], ?_⟩
    simpa [dT, dM, unitM, rg_len, Function.comp_def] using k
/-! is_whole -/
theorem isi_ii {n : Int} : opIsi 0 (tbB "int") (fun _ => none) (.int n) = some true := by
  show tbB "int" "int" = some true
  decide +kernel
theorem isi_ib {n : Int} : opIsi 0 (tbB "bool") (fun _ => none) (.int n) = some false := by
  show tbB "bool" "int" = some false
  decide +kernel
theorem run_whole {n : Int} (k : P (.bl true, false) e) : OkM (mRun 1 1 mb__law_is_whole [.val (.int n)]) e P := by
  refine run_v1 ?_
  unfold mb__law_is_whole
  refine Eq.mpr okS_ret (Eq.mpr okM_andV (Eq.mpr okM_val (Eq.mpr okM_isi (Eq.mpr okM_slot ⟨_, rfl, _, rfl, _, isi_ii, _, rfl, split_T ?_⟩))))
  exact Eq.mpr okM_un (Eq.mpr okM_val (Eq.mpr okM_isi (Eq.mpr okM_slot ⟨_, rfl, _, rfl, _, isi_ib, _, rfl, _, rfl, k⟩)))
/-! number -/
theorem run_number {i : Nat} {d : D} (ho : ownD e i = some d) (hd : JOk d) (h : ∀ v d', JOk d' → -(2 ^ 40) < v → v < 2 ^ 40 → P (.int v, false) (chg e i d')) : OkM (mRun 2 1 mb__law_number [.slot i]) e P := by
  refine run_i1 ho ?_
  unfold mb__law_number
  repeat' contradiction
  refine run_draw rfl hd (by omega) (by omega) fun v d1 hd1 h1 h2 => ?_
  repeat' contradiction
  · refine run_draw rfl hd1 (by omega) (by omega) fun v d2 hd2 h1 h2 => ?_
    repeat' contradiction
    exact h _ _ hd2 (by omega) (by omega)
  · refine run_draw rfl hd1 (by omega) (by omega) fun v d2 hd2 h1 h2 => ?_
    repeat' contradiction
    exact h _ _ hd2 (by omega) (by omega)
  · refine run_draw rfl hd1 (by decide) (by decide) fun v d2 hd2 h1 h2 => ?_
    have h2 : v < 10 ^ 9 := h2
    repeat' contradiction
    exact h _ _ hd2 (by omega) (by omega)
  · refine run_draw rfl hd1 (by omega) (by omega) fun v d2 hd2 h1 h2 => ?_
    repeat' contradiction
    · refine run_draw rfl hd2 (by decide) (by decide) fun v d3 hd3 h1 h2 => ?_
      have h2 : v < 10 ^ 9 := h2
      repeat' contradiction
      exact h _ _ hd3 (by omega) (by omega)
    · refine run_draw rfl hd2 (by omega) (by omega) fun v d3 hd3 h1 h2 => ?_
      repeat' contradiction
      refine run_draw rfl hd3 (by omega) (by omega) fun v2 d4 hd4 h3 h4 => ?_
      repeat' contradiction
      exact h _ _ hd4 (by omega) (by omega)
end
end DV
-- LinA
namespace Lin
/-! the prime -/
theorem no_small : ∀ d : Nat, d < 1001 → 2 ≤ d → 1000003 % d ≠ 0 := by decide +kernel
theorem prime_dvd {g : Nat} (h : g ∣ 1000003) : g = 1 ∨ g = 1000003 := by
  obtain ⟨c, hc⟩ := h
  by_cases g1 : g ≤ 1
  · left
    rcases Nat.le_one_iff_eq_zero_or_eq_one.mp g1 with z | z
    · subst z; omega
    · exact z
  · by_cases c1 : c ≤ 1
    · right
      rcases Nat.le_one_iff_eq_zero_or_eq_one.mp c1 with z | z
      · subst z; omega
      · subst z; omega
    · exfalso
      by_cases gs : g < 1001
      · exact no_small g gs (by omega) (by rw [hc]; exact Nat.mul_mod_right g c)
      · have cs : c < 1001 := by
          rcases Nat.lt_or_ge c 1001 with z | z
          · exact z
          · have : 1001 * 1001 ≤ g * c := Nat.mul_le_mul (by omega) z
            omega
        exact no_small c cs (by omega) (by rw [hc]; exact Nat.mul_mod_left g c)
theorem coprime {n : Nat} (h : n % 1000003 ≠ 0) : Nat.gcd n 1000003 = 1 := by
  rcases prime_dvd (Nat.gcd_dvd_right n 1000003) with z | z
  · exact z
  · have := Nat.gcd_dvd_left n 1000003
    rw [z] at this
    exact absurd (Nat.mod_eq_zero_of_dvd this) h
theorem bez : ∀ (l h : Nat), Nat.gcd l h = 1 → ∃ u v : Int, u * l + v * h = 1 := by
  intro l
  induction l using Nat.strongRecOn with
  | ind l ih =>
    intro h g
    by_cases z : l = 0
    · subst z
      rw [Nat.gcd_zero_left] at g
      subst g
      exact ⟨0, 1, by simp⟩
    · rw [Nat.gcd_rec] at g
      obtain ⟨u, v, e⟩ := ih (h % l) (Nat.mod_lt _ (by omega)) l g
      refine ⟨v - u * (h / l : Nat), u, ?_⟩
      have hd : ((h % l : Nat) : Int) = (h : Int) - (l : Int) * ((h / l : Nat) : Int) := by
        have := Nat.mod_add_div h l
        have : ((h % l : Nat) : Int) + (l : Int) * ((h / l : Nat) : Int) = (h : Int) := by exact_mod_cast this
        omega
      rw [hd] at e
      rw [← e]
      rw [Int.sub_mul, Int.mul_sub]
      rw [Int.mul_assoc, Int.mul_comm ((h / l : Nat) : Int) (l : Int)]
      omega
/-- congruence modulo 1000003 -/
def Eqv (a b : Int) : Prop := (1000003 : Int) ∣ a - b
theorem Eqv.refl (a : Int) : Eqv a a := ⟨0, by omega⟩
theorem Eqv.of_eq {a b : Int} (h : a = b) : Eqv a b := by subst h; exact .refl a
theorem Eqv.symm {a b : Int} (h : Eqv a b) : Eqv b a := by obtain ⟨k, hk⟩ := h; exact ⟨-k, by omega⟩
theorem Eqv.trans {a b c : Int} (h : Eqv a b) (h' : Eqv b c) : Eqv a c := by obtain ⟨k, hk⟩ := h; obtain ⟨l, hl⟩ := h'; exact ⟨k + l, by omega⟩
theorem Eqv.add {a b c d : Int} (h : Eqv a b) (h' : Eqv c d) : Eqv (a + c) (b + d) := by obtain ⟨k, hk⟩ := h; obtain ⟨l, hl⟩ := h'; exact ⟨k + l, by omega⟩
theorem Eqv.sub {a b c d : Int} (h : Eqv a b) (h' : Eqv c d) : Eqv (a - c) (b - d) := by obtain ⟨k, hk⟩ := h; obtain ⟨l, hl⟩ := h'; exact ⟨k - l, by omega⟩
theorem Eqv.neg {a b : Int} (h : Eqv a b) : Eqv (-a) (-b) := by obtain ⟨k, hk⟩ := h; exact ⟨-k, by omega⟩
theorem Eqv.mul {a b c d : Int} (h : Eqv a b) (h' : Eqv c d) : Eqv (a * c) (b * d) := by
  obtain ⟨k, hk⟩ := h; obtain ⟨l, hl⟩ := h'
  refine ⟨k * c + b * l, ?_⟩
  have e1 : a = b + 1000003 * k := by omega
  have e2 : c = d + 1000003 * l := by omega
  rw [e1, e2]
  simp only [Int.add_mul, Int.mul_add, Int.mul_assoc, Int.mul_left_comm, Int.mul_comm]
  omega
theorem Eqv.mod (a : Int) : Eqv (a % 1000003) a := ⟨-(a / 1000003), by omega⟩
theorem Eqv.zero_iff {a : Int} : Eqv a 0 ↔ a % 1000003 = 0 := ⟨fun ⟨k, hk⟩ => by omega, fun h => ⟨a / 1000003, by omega⟩⟩
theorem Eqv.iff {a b : Int} : Eqv a b ↔ a % 1000003 = b % 1000003 := ⟨fun ⟨k, hk⟩ => by omega, fun h => ⟨a / 1000003 - b / 1000003, by omega⟩⟩
theorem Eqv.red {a b : Int} (h : Eqv a b) (ha : 0 ≤ a ∧ a < 1000003) (hb : 0 ≤ b ∧ b < 1000003) : a = b := by have := Eqv.iff.mp h; omega
/-- what is not 0 has an inverse -/
theorem inv_ex {a : Int} (h : ¬ Eqv a 0) : ∃ b, Eqv (a * b) 1 := by
  have h' : a % 1000003 ≠ 0 := fun z => h (Eqv.zero_iff.mpr z)
  obtain ⟨n, hn⟩ : ∃ n : Nat, a % 1000003 = n := ⟨(a % 1000003).toNat, by omega⟩
  have g := coprime (n := n) (by omega)
  obtain ⟨u, v, e⟩ := bez n 1000003 g
  refine ⟨u, Eqv.trans (Eqv.mul (Eqv.mod a).symm (.refl u)) ?_⟩
  rw [hn]
  refine ⟨-v, ?_⟩
  rw [Int.mul_comm]
  have : u * (n : Int) + v * ((1000003 : Nat) : Int) = 1 := e
  have : ((1000003 : Nat) : Int) = 1000003 := rfl
  omega
theorem mul_ne {a b : Int} (ha : ¬ Eqv a 0) (hb : ¬ Eqv b 0) : ¬ Eqv (a * b) 0 := fun h => by
  obtain ⟨c, hc⟩ := inv_ex ha
  refine hb ?_
  have h1 : Eqv (c * (a * b)) (c * 0) := Eqv.mul (.refl c) h
  have h2 : Eqv (c * (a * b)) b := by
    rw [← Int.mul_assoc, Int.mul_comm c a]
    exact (Eqv.mul hc (.refl b)).trans (.of_eq (Int.one_mul b))
  exact h2.symm.trans (h1.trans (.of_eq (Int.mul_zero c)))
theorem cancel {a x y : Int} (ha : ¬ Eqv a 0) (h : Eqv (a * x) (a * y)) : Eqv x y := by
  obtain ⟨c, hc⟩ := inv_ex ha
  have f : ∀ z, Eqv (c * (a * z)) z := fun z => by
    rw [← Int.mul_assoc, Int.mul_comm c a]
    exact (Eqv.mul hc (.refl z)).trans (.of_eq (Int.one_mul z))
  exact (f x).symm.trans ((Eqv.mul (.refl c) h).trans (f y))
/-! Fermat -/
def prodL : List Int → Int
  | [] => 1
  | x :: xs => x * prodL xs
theorem prodL_perm {l l' : List Int} (h : l.Perm l') : prodL l = prodL l' := by
  induction h with
  | nil => rfl
  | cons x _ ih => simp only [prodL, ih]
  | swap x y l => simp only [prodL, Int.mul_left_comm]
  | trans _ _ h1 h2 => exact h1.trans h2
theorem prodL_map (n : Int) : ∀ l : List Int, Eqv (prodL (l.map fun x => n * x % 1000003)) (n ^ l.length * prodL l)
  | [] => .of_eq (by simp [prodL])
  | x :: xs => by
    simp only [List.map_cons, prodL, List.length_cons]
    refine (Eqv.mul (Eqv.mod _) (prodL_map n xs)).trans (.of_eq ?_)
    rw [Int.pow_succ]
    simp only [Int.mul_assoc, Int.mul_left_comm, Int.mul_comm]
theorem prodL_ne : ∀ l : List Int, (∀ x ∈ l, ¬ Eqv x 0) → ¬ Eqv (prodL l) 0
  | [], _ => fun h => by have := Eqv.zero_iff.mp h; simp [prodL] at this
  | x :: xs, h => mul_ne (h x List.mem_cons_self) (prodL_ne xs fun y hy => h y (List.mem_cons_of_mem _ hy))
def units : List Int := (List.range 1000002).map fun (i : Nat) => ((i : Int) + 1)
theorem mem_units {x : Int} : x ∈ units ↔ 0 < x ∧ x < 1000003 := by
  unfold units
  rw [List.mem_map]
  constructor
  · rintro ⟨i, hi, rfl⟩
    have := List.mem_range.mp hi
    omega
  · intro h
    exact ⟨(x - 1).toNat, List.mem_range.mpr (by omega), by omega⟩
theorem units_nodup : units.Nodup := by
  unfold units
  rw [List.Nodup, List.pairwise_map]
  exact List.Pairwise.imp (fun {a b} h e => h (by omega)) List.nodup_range
theorem units_len : units.length = 1000002 := by unfold units; rw [List.length_map, List.length_range]
theorem unit_ne {x : Int} (h : x ∈ units) : ¬ Eqv x 0 := fun z => by
  have := Eqv.zero_iff.mp z
  have := mem_units.mp h
  omega
theorem fermat {n : Int} (h : ¬ Eqv n 0) : Eqv (n ^ 1000002) 1 := by
  have perm : (units.map fun x => n * x % 1000003).Perm units := by
    refine (List.perm_ext_iff_of_nodup ?_ units_nodup).mpr fun y => ?_
    · rw [List.Nodup, List.pairwise_map]
      refine List.Pairwise.imp_of_mem (fun {a b} ha hb hab e => hab ?_) units_nodup
      have h1 : Eqv (n * a) (n * b) := Eqv.iff.mpr e
      have h2 := cancel h h1
      have := mem_units.mp ha
      have := mem_units.mp hb
      exact h2.red (by omega) (by omega)
    · rw [List.mem_map]
      constructor
      · rintro ⟨x, hx, rfl⟩
        have := mul_ne h (unit_ne hx)
        have h1 : n * x % 1000003 ≠ 0 := fun z => this (Eqv.zero_iff.mpr z)
        exact mem_units.mpr (by omega)
      · intro hy
        obtain ⟨c, hc⟩ := inv_ex h
        have hcy : Eqv (n * (c * y % 1000003)) y := by
          refine (Eqv.mul (.refl n) (Eqv.mod _)).trans ?_
          rw [← Int.mul_assoc]
          exact (Eqv.mul hc (.refl y)).trans (.of_eq (Int.one_mul y))
        refine ⟨c * y % 1000003, mem_units.mpr ?_, ?_⟩
        · have h1 : c * y % 1000003 ≠ 0 := fun z => by
            rw [z] at hcy
            exact unit_ne hy (hcy.symm.trans (.of_eq (Int.mul_zero n)))
          omega
        · have := Eqv.iff.mp hcy
          have := mem_units.mp hy
          omega
  have h1 := prodL_map n units
  rw [prodL_perm perm, units_len] at h1
  have h2 := prodL_ne units fun x hx => unit_ne hx
  refine cancel h2 ?_
  rw [Int.mul_comm, Int.mul_one]
  exact h1.symm
theorem fermat_inv {n : Int} (h : ¬ Eqv n 0) : Eqv (n * n ^ 1000001) 1 := by
  have := fermat h
  rwa [show (1000002 : Nat) = 1000001 + 1 from rfl, Int.pow_succ, Int.mul_comm] at this
end Lin
-- LinB
namespace Lin
open DV
/-! sums -/
def sumTo : Nat → (Nat → Int) → Int
  | 0, _ => 0
  | n + 1, f => sumTo n f + f n
theorem sum_eqv {f g : Nat → Int} : ∀ {n : Nat}, (∀ i, i < n → Eqv (f i) (g i)) → Eqv (sumTo n f) (sumTo n g)
  | 0, _ => .refl 0
  | n + 1, h => (sum_eqv fun i hi => h i (by omega)).add (h n (by omega))
theorem sum_congr {f g : Nat → Int} : ∀ {n : Nat}, (∀ i, i < n → f i = g i) → sumTo n f = sumTo n g
  | 0, _ => rfl
  | n + 1, h => by simp only [sumTo]; rw [sum_congr fun i hi => h i (by omega), h n (by omega)]
theorem sum_zero : ∀ {n : Nat}, sumTo n (fun _ => 0) = 0
  | 0 => rfl
  | n + 1 => by simp only [sumTo]; rw [sum_zero]; rfl
theorem sum_add {f g : Nat → Int} : ∀ {n : Nat}, sumTo n (fun i => f i + g i) = sumTo n f + sumTo n g
  | 0 => rfl
  | n + 1 => by simp only [sumTo]; rw [sum_add]; omega
theorem sum_mul {c : Int} {f : Nat → Int} : ∀ {n : Nat}, sumTo n (fun i => c * f i) = c * sumTo n f
  | 0 => by simp [sumTo]
  | n + 1 => by simp only [sumTo]; rw [sum_mul, Int.mul_add]
theorem sum_swap {f : Nat → Nat → Int} {m : Nat} : ∀ {n : Nat}, sumTo n (fun i => sumTo m fun j => f i j) = sumTo m fun j => sumTo n fun i => f i j
  | 0 => by simp only [sumTo]; exact sum_zero.symm
  | n + 1 => by simp only [sumTo]; rw [sum_swap, sum_add]
theorem sum_one {f : Nat → Int} {k : Nat} : ∀ {n : Nat}, k < n → (∀ i, i < n → i ≠ k → f i = 0) → sumTo n f = f k
  | 0, h, _ => absurd h (Nat.not_lt_zero k)
  | n + 1, h, hz => by
    simp only [sumTo]
    by_cases e : k = n
    · subst e
      rw [sum_congr (g := fun _ => 0) fun i hi => hz i (by omega) (by omega), sum_zero]
      omega
    · rw [sum_one (by omega) fun i hi hn => hz i (by omega) hn, hz n (by omega) (by omega)]
      omega
theorem sum_none {f : Nat → Int} {n : Nat} (hz : ∀ i, i < n → f i = 0) : sumTo n f = 0 := (sum_congr hz).trans sum_zero
theorem sum_oneE {f : Nat → Int} {k n : Nat} (h : k < n) (hz : ∀ i, i < n → i ≠ k → Eqv (f i) 0) : Eqv (sumTo n f) (f k) := by
  refine (sum_eqv (g := fun i => if i = k then f i else 0) fun i hi => ?_).trans (.of_eq ?_)
  · by_cases z : i = k
    · rw [if_pos z]; exact .refl _
    · rw [if_neg z]; exact hz i hi z
  · rw [sum_one h fun i _ hn => by rw [if_neg hn], if_pos rfl]
theorem sum_noneE {f : Nat → Int} {n : Nat} (hz : ∀ i, i < n → Eqv (f i) 0) : Eqv (sumTo n f) 0 := (sum_eqv hz).trans (.of_eq sum_zero)
/-! null spaces -/
def dot (w : Nat) (r : List Int) (x : Nat → Int) : Int := sumTo w fun j => ent r j * x j
def Null (w : Nat) (rows : List (List Int)) (x : Nat → Int) : Prop := ∀ r ∈ rows, Eqv (dot w r x) 0
def Red (r : List Int) : Prop := ∀ x ∈ r, 0 ≤ x ∧ x < 1000003
theorem ent_red {r : List Int} (h : Red r) (j : Nat) : 0 ≤ ent r j ∧ ent r j < 1000003 := by
  by_cases z : j < r.length
  · exact h _ (List.mem_of_getElem? (ent_lt z))
  · unfold ent
    rw [List.getD_eq_getElem?_getD, List.getElem?_eq_none (by omega)]
    exact ⟨by decide, by decide⟩
def pv (P : List Nat) (i : Nat) : Nat := P.getD i 0
theorem pv_lt {P : List Nat} {i : Nat} (h : i < P.length) : P[i]? = some (pv P i) := by
  unfold pv; rw [List.getElem?_eq_getElem h, List.getD_eq_getElem?_getD, List.getElem?_eq_getElem h]; rfl
theorem pv_mem {P : List Nat} {i : Nat} (h : i < P.length) : pv P i ∈ P := List.mem_of_getElem? (pv_lt h)
theorem mem_pv {P : List Nat} {c : Nat} (h : c ∈ P) : ∃ i, i < P.length ∧ pv P i = c := by
  obtain ⟨i, hi⟩ := List.getElem?_of_mem h
  have hl := (List.getElem?_eq_some_iff.mp hi).1
  have := pv_lt hl
  rw [hi] at this
  exact ⟨i, hl, (Option.some.inj this).symm⟩
theorem pv_inj {P : List Nat} (h : P.Pairwise (· < ·)) {i j : Nat} (hi : i < P.length) (hj : j < P.length) (e : pv P i = pv P j) : i = j := by
  have key : ∀ a b, a < b → b < P.length → pv P a < pv P b := fun a b hab hb => by
    have := List.pairwise_iff_getElem.mp h a b (by omega) hb hab
    have e1 := pv_lt (P := P) (i := a) (by omega)
    have e2 := pv_lt (P := P) hb
    rw [List.getElem?_eq_getElem (by omega)] at e1 e2
    rw [← Option.some.inj e1, ← Option.some.inj e2]; exact this
  rcases Nat.lt_trichotomy i j with z | z | z
  · have := key i j z hj; omega
  · exact z
  · have := key j i z hi; omega
/-- the reduced form: rows D with their leads at P (all below c) -/
structure RR (w c : Nat) (D : List (List Int)) (P : List Nat) : Prop where
  len : D.length = P.length
  wid : ∀ r ∈ D, r.length = w
  red : ∀ r ∈ D, Red r
  piv : ∀ q ∈ P, q < c
  inc : P.Pairwise (· < ·)
  one : ∀ i j, i < P.length → j < P.length → ent (row D i) (pv P j) = if i = j then 1 else 0
  low : ∀ i j, i < P.length → j < pv P i → ent (row D i) j = 0
/-- the solution that belongs to the free column c -/
def sol (D : List (List Int)) (P : List Nat) (c : Nat) (j : Nat) : Int := (if j = c then 1 else 0) + sumTo P.length fun i => if pv P i = j then -(ent (row D i) c) else 0
theorem dot_sol {w : Nat} {D : List (List Int)} {P : List Nat} {c : Nat} (hc : c < w) (hP : ∀ q ∈ P, q < w) (r : List Int) : dot w r (sol D P c) = ent r c + sumTo P.length fun i => ent r (pv P i) * -(ent (row D i) c) := by
  unfold dot sol
  have e1 : ∀ j, ent r j * ((if j = c then 1 else 0) + sumTo P.length fun i => if pv P i = j then -(ent (row D i) c) else 0) = (ent r j * if j = c then 1 else 0) + sumTo P.length fun i => ent r j * if pv P i = j then -(ent (row D i) c) else 0 := fun j => by
    rw [Int.mul_add, sum_mul]
  rw [sum_congr (g := fun j => (ent r j * if j = c then 1 else 0) + sumTo P.length fun i => ent r j * if pv P i = j then -(ent (row D i) c) else 0) fun j _ => e1 j, sum_add, sum_swap]
  congr 1
  · rw [sum_one hc fun j _ hj => by rw [if_neg hj, Int.mul_zero], if_pos rfl, Int.mul_one]
  · refine sum_congr fun i hi => ?_
    rw [sum_one (hP _ (pv_mem hi)) fun j _ hj => by rw [if_neg (Ne.symm hj), Int.mul_zero], if_pos rfl]
section
variable {w c : Nat} {D : List (List Int)} {P : List Nat}
theorem RR.sol_null (R : RR w w D P) (hc : c < w) : Null w D (sol D P c) := by
  intro r hr
  obtain ⟨i, hi⟩ := List.getElem?_of_mem hr
  have hl := (List.getElem?_eq_some_iff.mp hi).1
  have hr' : row D i = r := by have := row_lt hl; rw [hi] at this; exact (Option.some.inj this).symm
  rw [R.len] at hl
  rw [dot_sol hc R.piv]
  have : sumTo P.length (fun k => ent r (pv P k) * -(ent (row D k) c)) = -(ent r c) := by
    rw [sum_one hl fun k hk hn => ?_]
    · rw [← hr', R.one i i hl hl, if_pos rfl, Int.one_mul]
    · rw [← hr', R.one i k hl hk, if_neg (Ne.symm hn), Int.zero_mul]
  rw [this]
  exact .of_eq (by omega)
theorem RR.sol_high (R : RR w w D P) {j : Nat} (hj : c < j) : sol D P c j = 0 := by
  unfold sol
  rw [if_neg (by omega), sum_none fun i hi => ?_]
  · rfl
  · by_cases z : pv P i = j
    · rw [if_pos z, R.low i c hi (by omega)]; rfl
    · rw [if_neg z]
theorem RR.sol_self (R : RR w w D P) (hc : c ∉ P) : sol D P c c = 1 := by
  unfold sol
  rw [if_pos rfl, sum_none fun i hi => ?_]
  · rfl
  · rw [if_neg (fun z => by subst z; exact hc (pv_mem hi))]
/-- the leads, told by the solutions -/
theorem RR.mem_iff (R : RR w w D P) (hc : c < w) : c ∈ P ↔ ∀ x, Null w D x → (∀ j, c < j → j < w → Eqv (x j) 0) → Eqv (x c) 0 := by
  constructor
  · intro h x hx hz
    obtain ⟨i, hi, rfl⟩ := mem_pv h
    have hl : i < D.length := by rw [R.len]; exact hi
    have h1 := hx _ (row_mem hl)
    unfold dot at h1
    have h2 : Eqv (sumTo w fun j => ent (row D i) j * x j) (ent (row D i) (pv P i) * x (pv P i)) := by
      refine sum_oneE hc fun j hj hn => ?_
      rcases Nat.lt_or_gt_of_ne hn with z | z
      · rw [R.low i j hi z, Int.zero_mul]; exact .refl 0
      · exact (Eqv.mul (.refl _) (hz j z hj)).trans (.of_eq (Int.mul_zero _))
    rw [R.one i i hi hi, if_pos rfl, Int.one_mul] at h2
    exact h2.symm.trans h1
  · intro h
    by_cases z : c ∈ P
    · exact z
    · have := h _ (R.sol_null hc) fun j hj _ => .of_eq (R.sol_high hj)
      rw [R.sol_self z] at this
      have := Eqv.zero_iff.mp this
      exact absurd this (by decide)
theorem sorted_ext : ∀ {l l' : List Nat}, l.Pairwise (· < ·) → l'.Pairwise (· < ·) → (∀ x, x ∈ l ↔ x ∈ l') → l = l'
  | [], [], _, _, _ => rfl
  | [], y :: ys, _, _, h => by have := (h y).mpr List.mem_cons_self; cases this
  | x :: xs, [], _, _, h => by have := (h x).mp List.mem_cons_self; cases this
  | x :: xs, y :: ys, h1, h2, h => by
    rw [List.pairwise_cons] at h1 h2
    have e : x = y := by
      have a := (h x).mp List.mem_cons_self
      have b := (h y).mpr List.mem_cons_self
      rcases List.mem_cons.mp a with a | a
      · exact a
      · rcases List.mem_cons.mp b with b | b
        · exact b.symm
        · have := h1.1 y b; have := h2.1 x a; omega
    subst e
    congr 1
    refine sorted_ext h1.2 h2.2 fun z => ⟨fun hz => ?_, fun hz => ?_⟩
    · rcases List.mem_cons.mp ((h z).mp (List.mem_cons_of_mem _ hz)) with q | q
      · subst q; have := h1.1 _ hz; omega
      · exact q
    · rcases List.mem_cons.mp ((h z).mpr (List.mem_cons_of_mem _ hz)) with q | q
      · subst q; have := h2.1 _ hz; omega
      · exact q
theorem sub_length : ∀ {l l' : List Nat}, l.Pairwise (· < ·) → (∀ x ∈ l, x ∈ l') → l.length ≤ l'.length
  | [], _, _, _ => Nat.zero_le _
  | x :: xs, l', h, hs => by
    rw [List.pairwise_cons] at h
    have hx := hs x List.mem_cons_self
    have := sub_length (l := xs) (l' := l'.erase x) h.2 fun y hy => (List.mem_erase_of_ne (by have := h.1 y hy; omega)).mpr (hs y (List.mem_cons_of_mem _ hy))
    rw [List.length_erase_of_mem hx] at this
    have := List.length_pos_of_mem hx
    simp only [List.length_cons]
    omega
theorem ext_rows {w : Nat} {D D' : List (List Int)} (hl : D.length = D'.length) (h1 : ∀ r ∈ D, r.length = w) (h2 : ∀ r ∈ D', r.length = w) (h : ∀ i j, i < D.length → j < w → ent (row D i) j = ent (row D' i) j) : D = D' := by
  apply List.ext_getElem?
  intro i
  by_cases hi : i < D.length
  · rw [row_lt hi, row_lt (by omega)]
    congr 1
    have l1 := h1 _ (row_mem hi)
    have l2 := h2 _ (row_mem (m := D') (i := i) (by omega))
    apply List.ext_getElem?
    intro j
    by_cases hj : j < w
    · rw [ent_lt (by omega), ent_lt (by omega), h i j hi hj]
    · rw [List.getElem?_eq_none (by omega), List.getElem?_eq_none (by omega)]
  · rw [List.getElem?_eq_none (by omega), List.getElem?_eq_none (by omega)]
/-- more solutions, fewer leads -/
theorem RR.mono {D' : List (List Int)} {P' : List Nat} (R : RR w w D P) (R' : RR w w D' P') (h : ∀ x, Null w D x → Null w D' x) : P'.length ≤ P.length :=
  sub_length R'.inc fun c hc => (R.mem_iff (R'.piv c hc)).mpr fun x hx => (R'.mem_iff (R'.piv c hc)).mp hc x (h x hx)
/-- the reduced form is told by the solutions -/
theorem RR.uniq {D' : List (List Int)} {P' : List Nat} (R : RR w w D P) (R' : RR w w D' P') (h : ∀ x, Null w D x ↔ Null w D' x) : D = D' ∧ P = P' := by
  have eP : P = P' := sorted_ext R.inc R'.inc fun c => by
    constructor
    · intro hc
      exact (R'.mem_iff (R.piv c hc)).mpr fun x hx => (R.mem_iff (R.piv c hc)).mp hc x ((h x).mpr hx)
    · intro hc
      exact (R.mem_iff (R'.piv c hc)).mpr fun x hx => (R'.mem_iff (R'.piv c hc)).mp hc x ((h x).mp hx)
  subst eP
  refine ⟨ext_rows (w := w) (by rw [R.len, R'.len]) R.wid R'.wid fun i c hi hc => ?_, rfl⟩
  rw [R.len] at hi
  by_cases z : c ∈ P
  · obtain ⟨k, hk, rfl⟩ := mem_pv z
    rw [R.one i k hi hk, R'.one i k hi hk]
  · have hl : i < D'.length := by rw [R'.len]; exact hi
    have h1 := (h _).mp (R.sol_null hc) _ (row_mem hl)
    rw [dot_sol hc R.piv] at h1
    have : sumTo P.length (fun k => ent (row D' i) (pv P k) * -(ent (row D k) c)) = -(ent (row D i) c) := by
      rw [sum_one hi fun k hk hn => ?_]
      · rw [R'.one i i hi hi, if_pos rfl, Int.one_mul]
      · rw [R'.one i k hi hk, if_neg (Ne.symm hn), Int.zero_mul]
    rw [this] at h1
    have h2 : Eqv (ent (row D' i) c) (ent (row D i) c) := by
      obtain ⟨k, hk⟩ := h1
      exact ⟨k, by omega⟩
    exact (h2.red (ent_red (R'.red _ (row_mem hl)) c) (ent_red (R.red _ (row_mem (by rw [R.len]; exact hi))) c)).symm
/-- a row that all solutions solve is told by its entries at the leads -/
theorem RR.expand (R : RR w w D P) {r : List Int} (h : ∀ x, Null w D x → Eqv (dot w r x) 0) {c : Nat} (hc : c < w) : Eqv (ent r c) (sumTo P.length fun i => ent r (pv P i) * ent (row D i) c) := by
  by_cases z : c ∈ P
  · obtain ⟨k, hk, rfl⟩ := mem_pv z
    refine .of_eq ?_
    rw [sum_one hk fun i hi hn => by rw [R.one i k hi hk, if_neg hn, Int.mul_zero], R.one k k hk hk, if_pos rfl, Int.mul_one]
  · have h1 := h _ (R.sol_null hc)
    rw [dot_sol hc R.piv] at h1
    have : sumTo P.length (fun i => ent r (pv P i) * -(ent (row D i) c)) = -(sumTo P.length fun i => ent r (pv P i) * ent (row D i) c) := by
      rw [sum_congr (g := fun i => (-1) * (ent r (pv P i) * ent (row D i) c)) fun i _ => by rw [Int.mul_neg, Int.neg_mul, Int.one_mul], sum_mul]
      omega
    rw [this] at h1
    obtain ⟨k, hk⟩ := h1
    exact ⟨k, by omega⟩
end
end Lin
-- LinC
namespace Lin
open DV
/-! elimination -/
def Shp (w : Nat) (m : List (List Int)) : Prop := ∀ r ∈ m, r.length = w ∧ Red r
structure El (w c : Nat) (rows left done : List (List Int)) (piv : List Nat) : Prop where
  cnt : left.length + done.length = rows.length
  null : ∀ x, (Null w left x ∧ Null w done x) ↔ Null w rows x
  shpL : Shp w left
  zero : ∀ r ∈ left, ∀ j, j < c → ent r j = 0
  rr : RR w c done piv
theorem El.start {w : Nat} {rows : List (List Int)} (h : Shp w rows) : El w 0 rows rows [] [] where
  cnt := by simp
  null := fun x => ⟨fun z => z.1, fun z => ⟨z, fun r hr => by cases hr⟩⟩
  shpL := h
  zero := fun r _ j hj => absurd hj (Nat.not_lt_zero j)
  rr := ⟨rfl, fun r hr => (by cases hr), fun r hr => (by cases hr), fun q hq => (by cases hq), .nil, fun i j hi => absurd hi (Nat.not_lt_zero i), fun i j hi => absurd hi (Nat.not_lt_zero i)⟩
section
variable {w c : Nat} {rows left done : List (List Int)} {piv : List Nat}
theorem El.skip (E : El w c rows left done piv) (h : ∀ r ∈ left, ent r c = 0) : El w (c + 1) rows left done piv where
  cnt := E.cnt
  null := E.null
  shpL := E.shpL
  zero := fun r hr j hj => by
    rcases Nat.lt_succ_iff_lt_or_eq.mp hj with z | rfl
    · exact E.zero r hr j z
    · exact h r hr
  rr := ⟨E.rr.len, E.rr.wid, E.rr.red, fun q hq => Nat.lt_succ_of_lt (E.rr.piv q hq), E.rr.inc, E.rr.one, E.rr.low⟩
/-- what a row becomes -/
structure Clr (w c : Nat) (t r r' : List Int) : Prop where
  len : r'.length = w
  red : Red r'
  eqv : ∀ j, j < w → Eqv (ent r' j) (ent r j - ent r c * ent t j)
theorem dot_clr {t r r' : List Int} (h : Clr w c t r r') (x : Nat → Int) : Eqv (dot w r' x) (dot w r x - ent r c * dot w t x) := by
  unfold dot
  refine (sum_eqv fun j hj => Eqv.mul (h.eqv j hj) (.refl (x j))).trans (.of_eq ?_)
  have e1 : ∀ j, (ent r j - ent r c * ent t j) * x j = ent r j * x j + (-(ent r c)) * (ent t j * x j) := fun j => by
    rw [Int.sub_mul, Int.neg_mul, Int.mul_assoc]; omega
  rw [sum_congr fun j _ => e1 j, sum_add, sum_mul, Int.neg_mul]
  omega
theorem row_map {m : List (List Int)} {f : List Int → List Int} {i : Nat} (h : i < m.length) : row (m.map f) i = f (row m i) := by
  have h1 := row_lt (m := m.map f) (i := i) (by rw [List.length_map]; exact h)
  rw [List.getElem?_map, row_lt h] at h1
  exact (Option.some.inj h1).symm
theorem row_appL {a b : List (List Int)} {i : Nat} (h : i < a.length) : row (a ++ b) i = row a i := by
  have h1 := row_lt (m := a ++ b) (i := i) (by rw [List.length_append]; omega)
  rw [List.getElem?_append_left h, row_lt h] at h1
  exact (Option.some.inj h1).symm
theorem row_appR {a : List (List Int)} {r : List Int} : row (a ++ [r]) a.length = r := by
  have h1 := row_lt (m := a ++ [r]) (i := a.length) (by rw [List.length_append]; simp)
  rw [List.getElem?_append_right (Nat.le_refl _), Nat.sub_self] at h1
  exact (Option.some.inj h1).symm
theorem pv_appL {a b : List Nat} {i : Nat} (h : i < a.length) : pv (a ++ b) i = pv a i := by
  have h1 := pv_lt (P := a ++ b) (i := i) (by rw [List.length_append]; omega)
  rw [List.getElem?_append_left h, pv_lt h] at h1
  exact (Option.some.inj h1).symm
theorem pv_appR {a : List Nat} {r : Nat} : pv (a ++ [r]) a.length = r := by
  have h1 := pv_lt (P := a ++ [r]) (i := a.length) (by rw [List.length_append]; simp)
  rw [List.getElem?_append_right (Nat.le_refl _), Nat.sub_self] at h1
  exact (Option.some.inj h1).symm
/-- a lead row is taken out, all others are cleared by it -/
theorem El.pivot (E : El w c rows left done piv) (hc : c < w) {n : Nat} (hn : n < left.length) {t : List Int} {f : Int} (tl : t.length = w) (tr : Red t) (t1 : ent t c = 1) (te : ∀ j, j < w → Eqv (ent t j) (f * ent (row left n) j)) (clr : List Int → List Int)
    (hclr : ∀ r, r.length = w → Red r → Clr w c t r (clr r)) : El w (c + 1) rows ((left.eraseIdx n).map clr) (done.map clr ++ [t]) (piv ++ [c]) := by
  have hlead := row_mem (m := left) hn
  have tz : ∀ j, j < c → ent t j = 0 := fun j hj => by
    have h1 := te j (by omega)
    rw [E.zero _ hlead j hj, Int.mul_zero] at h1
    exact h1.red (ent_red tr j) ⟨by decide, by decide⟩
  have mem_er : ∀ r, r ∈ left → r = row left n ∨ r ∈ left.eraseIdx n := fun r hr => by
    obtain ⟨i, hi⟩ := List.getElem?_of_mem hr
    by_cases z : i = n
    · subst z; left; rw [row_lt hn] at hi; exact (Option.some.inj hi).symm
    · right
      rcases Nat.lt_or_gt_of_ne z with z | z
      · exact List.mem_of_getElem? (i := i) (by rw [List.getElem?_eraseIdx, if_pos z]; exact hi)
      · exact List.mem_of_getElem? (i := i - 1) (by rw [List.getElem?_eraseIdx, if_neg (by omega), Nat.sub_add_cancel (by omega)]; exact hi)
  have er_mem : ∀ r, r ∈ left.eraseIdx n → r ∈ left := fun r hr => List.mem_of_mem_eraseIdx hr
  have shpD : Shp w done := fun r hr => ⟨E.rr.wid r hr, E.rr.red r hr⟩
  have dt : ∀ x, Eqv (dot w t x) (f * dot w (row left n) x) := fun x => by
    unfold dot
    refine (sum_eqv fun j hj => Eqv.mul (te j hj) (.refl (x j))).trans (.of_eq ?_)
    rw [← sum_mul]
    exact sum_congr fun j _ => by rw [Int.mul_assoc]
  have fne : Eqv (f * ent (row left n) c) 1 := (te c hc).symm.trans (.of_eq t1)
  have dl : ∀ x, Eqv (dot w t x) 0 → Eqv (dot w (row left n) x) 0 := fun x h => by
    have hf : ¬ Eqv f 0 := fun z => by
      have h1 := (Eqv.mul z (.refl (ent (row left n) c))).symm.trans fne
      rw [Int.zero_mul] at h1
      obtain ⟨k, hk⟩ := h1; omega
    refine cancel hf ?_
    rw [Int.mul_zero]
    exact (dt x).symm.trans h
  refine ⟨?_, fun x => ?_, ?_, ?_, ?_⟩
  · rw [List.length_map, List.length_append, List.length_map, List.length_eraseIdx, if_pos hn, List.length_singleton]
    have := E.cnt; omega
  · rw [← E.null x]
    constructor
    · rintro ⟨h1, h2⟩
      have ht : Eqv (dot w t x) 0 := h2 t (List.mem_append_right _ (List.mem_singleton.mpr rfl))
      have back : ∀ r, r.length = w → Red r → Eqv (dot w (clr r) x) 0 → Eqv (dot w r x) 0 := fun r a b h => by
        have h3 := dot_clr (hclr r a b) x
        have h4 := Eqv.mul (.refl (ent r c)) ht
        rw [Int.mul_zero] at h4
        have h5 := (h3.symm.trans h).add h4
        have e1 : dot w r x - ent r c * dot w t x + ent r c * dot w t x = dot w r x := by omega
        rw [e1] at h5
        exact h5
      refine ⟨fun r hr => ?_, fun r hr => back r (shpD r hr).1 (shpD r hr).2 (h2 _ (List.mem_append_left _ (List.mem_map_of_mem hr)))⟩
      rcases mem_er r hr with rfl | hr'
      · exact dl x ht
      · exact back r (E.shpL r hr).1 (E.shpL r hr).2 (h1 _ (List.mem_map_of_mem hr'))
    · rintro ⟨h1, h2⟩
      have ht : Eqv (dot w t x) 0 := by
        have h3 := Eqv.mul (.refl f) (h1 _ hlead)
        rw [Int.mul_zero] at h3
        exact (dt x).trans h3
      have fwd : ∀ r, r.length = w → Red r → Eqv (dot w r x) 0 → Eqv (dot w (clr r) x) 0 := fun r a b h => by
        refine (dot_clr (hclr r a b) x).trans ?_
        have h4 := Eqv.mul (.refl (ent r c)) ht
        rw [Int.mul_zero] at h4
        exact h.sub h4
      refine ⟨fun r hr => ?_, fun r hr => ?_⟩
      · obtain ⟨r0, hr0, rfl⟩ := List.mem_map.mp hr
        have := er_mem _ hr0
        exact fwd r0 (E.shpL r0 this).1 (E.shpL r0 this).2 (h1 r0 this)
      · rcases List.mem_append.mp hr with hr | hr
        · obtain ⟨r0, hr0, rfl⟩ := List.mem_map.mp hr
          exact fwd r0 (shpD r0 hr0).1 (shpD r0 hr0).2 (h2 r0 hr0)
        · rw [List.mem_singleton.mp hr]; exact ht
  · intro r hr
    obtain ⟨r0, hr0, rfl⟩ := List.mem_map.mp hr
    have := er_mem _ hr0
    have k := hclr r0 (E.shpL r0 this).1 (E.shpL r0 this).2
    exact ⟨k.len, k.red⟩
  · intro r hr j hj
    obtain ⟨r0, hr0, rfl⟩ := List.mem_map.mp hr
    have hm := er_mem _ hr0
    have k := hclr r0 (E.shpL r0 hm).1 (E.shpL r0 hm).2
    have h1 := k.eqv j (by omega)
    refine Eqv.red (h1.trans ?_) (ent_red k.red j) ⟨by decide, by decide⟩
    rcases Nat.lt_succ_iff_lt_or_eq.mp hj with z | rfl
    · rw [E.zero r0 hm j z, tz j z]; exact .of_eq (by omega)
    · rw [t1]; exact .of_eq (by omega)
  · have hlen : (done.map clr).length = piv.length := by rw [List.length_map]; exact E.rr.len
    refine ⟨?_, fun r hr => ?_, fun r hr => ?_, fun q hq => ?_, ?_, fun i j hi hj => ?_, fun i j hi hj => ?_⟩
    · rw [List.length_append, List.length_append, hlen]; rfl
    · rcases List.mem_append.mp hr with hr | hr
      · obtain ⟨r0, hr0, rfl⟩ := List.mem_map.mp hr
        exact (hclr r0 (shpD r0 hr0).1 (shpD r0 hr0).2).len
      · rw [List.mem_singleton.mp hr]; exact tl
    · rcases List.mem_append.mp hr with hr | hr
      · obtain ⟨r0, hr0, rfl⟩ := List.mem_map.mp hr
        exact (hclr r0 (shpD r0 hr0).1 (shpD r0 hr0).2).red
      · rw [List.mem_singleton.mp hr]; exact tr
    · rcases List.mem_append.mp hq with hq | hq
      · have := E.rr.piv q hq; omega
      · rw [List.mem_singleton.mp hq]; omega
    · rw [List.pairwise_append]
      exact ⟨E.rr.inc, List.pairwise_singleton _ _, fun a ha b hb => by rw [List.mem_singleton.mp hb]; exact E.rr.piv a ha⟩
    · rw [List.length_append, List.length_singleton] at hi hj
      by_cases hi2 : i < piv.length
      · have hd : i < done.length := by rw [E.rr.len]; exact hi2
        rw [row_appL (by rw [hlen]; exact hi2), row_map hd]
        have k := hclr _ (shpD _ (row_mem hd)).1 (shpD _ (row_mem hd)).2
        by_cases hj2 : j < piv.length
        · rw [pv_appL hj2]
          have hp := E.rr.piv _ (pv_mem hj2)
          have h1 := k.eqv (pv piv j) (by omega)
          rw [tz _ hp, E.rr.one i j hi2 hj2, Int.mul_zero, Int.sub_zero] at h1
          refine h1.red (ent_red k.red _) ?_
          split <;> omega
        · have : j = piv.length := by omega
          subst this
          rw [pv_appR]
          have h1 := k.eqv c hc
          rw [t1] at h1
          rw [if_neg (by omega)]
          exact (h1.trans (.of_eq (by omega))).red (ent_red k.red _) ⟨by decide, by decide⟩
      · have : i = piv.length := by omega
        subst this
        have e1 : row (done.map clr ++ [t]) piv.length = t := by rw [← hlen]; exact row_appR
        rw [e1]
        by_cases hj2 : j < piv.length
        · rw [pv_appL hj2, if_neg (by omega)]
          exact tz _ (E.rr.piv _ (pv_mem hj2))
        · have : j = piv.length := by omega
          subst this
          rw [pv_appR, t1, if_pos rfl]
    · rw [List.length_append, List.length_singleton] at hi
      by_cases hi2 : i < piv.length
      · have hd : i < done.length := by rw [E.rr.len]; exact hi2
        rw [row_appL (by rw [hlen]; exact hi2), row_map hd]
        rw [pv_appL hi2] at hj
        have hp := E.rr.piv _ (pv_mem hi2)
        have k := hclr _ (shpD _ (row_mem hd)).1 (shpD _ (row_mem hd)).2
        have h1 := k.eqv j (by omega)
        rw [E.rr.low i j hi2 hj, tz j (by omega)] at h1
        exact (h1.trans (.of_eq (by omega))).red (ent_red k.red _) ⟨by decide, by decide⟩
      · have : i = piv.length := by omega
        subst this
        rw [pv_appR] at hj
        have e1 : row (done.map clr ++ [t]) piv.length = t := by rw [← hlen]; exact row_appR
        rw [e1]
        exact tz j hj
/-- at the end -/
theorem El.fin (E : El w w rows left done piv) : RR w w done piv ∧ (∀ x, Null w done x ↔ Null w rows x) ∧ piv.length ≤ rows.length := by
  refine ⟨E.rr, fun x => ?_, ?_⟩
  · rw [← E.null x]
    refine ⟨fun h => ⟨fun r hr => ?_, h⟩, fun h => h.2⟩
    unfold dot
    exact sum_noneE fun j hj => by rw [E.zero r hr j hj, Int.zero_mul]; exact .refl 0
  · have := E.cnt; have := E.rr.len; omega
/-- the reduced form is there -/
theorem ex_rr (h : Shp w rows) : ∃ D P, RR w w D P ∧ (∀ x, Null w D x ↔ Null w rows x) ∧ P.length ≤ rows.length := by
  have go : ∀ k, k ≤ w → ∃ left done piv, El w k rows left done piv := by
    intro k
    induction k with
    | zero => exact fun _ => ⟨rows, [], [], El.start h⟩
    | succ k ih =>
      intro hk
      obtain ⟨left, done, piv, E⟩ := ih (by omega)
      by_cases hz : ∀ r ∈ left, ent r k = 0
      · exact ⟨left, done, piv, E.skip hz⟩
      · obtain ⟨n, hn, hne⟩ : ∃ n, n < left.length ∧ ent (row left n) k ≠ 0 := by
          apply Classical.byContradiction
          intro no
          refine hz fun r hr => ?_
          obtain ⟨i, hi⟩ := List.getElem?_of_mem hr
          have hl := (List.getElem?_eq_some_iff.mp hi).1
          have := row_lt hl
          rw [hi] at this
          apply Classical.byContradiction
          intro z
          exact no ⟨i, hl, by rw [← Option.some.inj this]; exact z⟩
        have hlm := E.shpL _ (row_mem hn)
        have hne' : ¬ Eqv (ent (row left n) k) 0 := fun z => hne (z.red (ent_red hlm.2 k) ⟨by decide, by decide⟩)
        obtain ⟨f, hf⟩ := inv_ex hne'
        let mk : (Nat → Int) → List Int := fun g => (List.range w).map fun j => g j % 1000003
        have mk_len : ∀ g, (mk g).length = w := fun g => by simp [mk]
        have mk_red : ∀ g, Red (mk g) := fun g x hx => by
          obtain ⟨j, _, rfl⟩ := List.mem_map.mp hx
          omega
        have mk_ent : ∀ g j, j < w → ent (mk g) j = g j % 1000003 := fun g j hj => by
          have := ent_lt (r := mk g) (j := j) (by rw [mk_len]; exact hj)
          rw [List.getElem?_map, List.getElem?_range hj] at this
          exact (Option.some.inj this).symm
        have t1 : ent (mk fun j => f * ent (row left n) j) k = 1 := by
          rw [mk_ent _ _ (by omega)]
          have : Eqv (f * ent (row left n) k) 1 := by rw [Int.mul_comm]; exact hf
          have := Eqv.iff.mp this
          omega
        exact ⟨_, _, _, E.pivot (by omega) hn (t := mk fun j => f * ent (row left n) j) (f := f) (mk_len _) (mk_red _) t1 (fun j hj => by rw [mk_ent _ j hj]; exact Eqv.mod _)
          (fun r => mk fun j => ent r j - ent r k * ent (mk fun j => f * ent (row left n) j) j) fun r _ _ => ⟨mk_len _, mk_red _, fun j hj => by rw [mk_ent _ j hj]; exact Eqv.mod _⟩⟩
  obtain ⟨left, done, piv, E⟩ := go w (Nat.le_refl w)
  exact ⟨done, piv, E.fin⟩
end
/-! rows and columns -/
theorem cols_ent {m : List (List Int)} {w i j : Nat} (hj : j < w) (hi : i < m.length) : ent (row ((List.range w).map fun j => m.map fun r => ent r j) j) i = ent (row m i) j := by
  have h1 := row_lt (m := (List.range w).map fun j => m.map fun r => ent r j) (i := j) (by simpa using hj)
  rw [List.getElem?_map, List.getElem?_range hj] at h1
  have e : row ((List.range w).map fun j => m.map fun r => ent r j) j = m.map fun r => ent r j := (Option.some.inj h1).symm
  rw [e]
  have h2 := ent_lt (r := m.map fun r => ent r j) (j := i) (by simpa using hi)
  rw [List.getElem?_map, row_lt hi] at h2
  exact (Option.some.inj h2).symm
/-- the rank of the columns is at most that of the rows -/
theorem rank_le {h w : Nat} {m B : List (List Int)} {D E : List (List Int)} {P Q : List Nat} (hm : Shp w m) (hl : m.length = h) (hB : Shp h B) (hBl : B.length = w) (he : ∀ i j, i < h → j < w → ent (row B j) i = ent (row m i) j)
    (R : RR w w D P) (hR : ∀ x, Null w D x ↔ Null w m x) (S : RR h h E Q) (hS : ∀ x, Null h E x ↔ Null h B x) : Q.length ≤ P.length := by
  -- the columns at the leads
  let Y : List (List Int) := (List.range P.length).map fun l => m.map fun r => ent r (pv P l)
  have Yl : Y.length = P.length := by simp [Y]
  have Yr : ∀ l, l < P.length → row Y l = m.map fun r => ent r (pv P l) := fun l hlt => by
    have h1 := row_lt (m := Y) (i := l) (by rw [Yl]; exact hlt)
    rw [List.getElem?_map, List.getElem?_range hlt] at h1
    exact (Option.some.inj h1).symm
  have Ye : ∀ l i, l < P.length → i < h → ent (row Y l) i = ent (row m i) (pv P l) := fun l i hlt hi => by
    rw [Yr l hlt]
    have h2 := ent_lt (r := m.map fun r => ent r (pv P l)) (j := i) (by rw [List.length_map]; omega)
    rw [List.getElem?_map, row_lt (by omega)] at h2
    exact (Option.some.inj h2).symm
  have YS : Shp h Y := fun r hr => by
    obtain ⟨l, _, rfl⟩ := List.mem_map.mp hr
    refine ⟨by rw [List.length_map]; exact hl, fun x hx => ?_⟩
    obtain ⟨r0, hr0, rfl⟩ := List.mem_map.mp hx
    exact ent_red (hm r0 hr0).2 _
  obtain ⟨F, T, RT, hT, hle⟩ := ex_rr YS
  have key : ∀ y, Null h F y → Null h E y := fun y hy => by
    have hy := (hT y).mp hy
    refine (hS y).mpr fun r hr => ?_
    obtain ⟨c, hc⟩ := List.getElem?_of_mem hr
    have hcl : c < B.length := (List.getElem?_eq_some_iff.mp hc).1
    have hrc : row B c = r := by have := row_lt hcl; rw [hc] at this; exact (Option.some.inj this).symm
    subst hrc
    have hcw : c < w := by omega
    -- the entry of the column by the lead columns
    have ex : ∀ i, i < h → Eqv (ent (row B c) i) (sumTo P.length fun l => ent (row m i) (pv P l) * ent (row D l) c) := fun i hi => by
      rw [he i c hi hcw]
      exact R.expand (fun x hx => (hR x).mp hx _ (row_mem (by omega))) hcw
    have st : Eqv (dot h (row B c) y) (sumTo P.length fun l => ent (row D l) c * dot h (row Y l) y) := by
      unfold dot
      refine (sum_eqv fun i hi => Eqv.mul (ex i hi) (.refl (y i))).trans (.of_eq ?_)
      have e1 : ∀ i, i < h → (sumTo P.length fun l => ent (row m i) (pv P l) * ent (row D l) c) * y i = sumTo P.length fun l => ent (row D l) c * (ent (row Y l) i * y i) := fun i hi => by
        rw [Int.mul_comm, ← sum_mul]
        exact sum_congr fun l hlt => by
          rw [Ye l i hlt hi]
          simp only [Int.mul_assoc, Int.mul_left_comm, Int.mul_comm]
      rw [sum_congr e1, sum_swap]
      exact sum_congr fun l _ => sum_mul
    refine st.trans (sum_noneE fun l hlt => ?_)
    exact (Eqv.mul (.refl _) (hy _ (row_mem (by rw [Yl]; exact hlt)))).trans (.of_eq (Int.mul_zero _))
  have h1 := RT.mono S key
  omega
end Lin
-- K2W
namespace DV
open PySem PySem.Spec PyProof.Rows L2
open Lin
local macro_rules | `(tactic| contradiction) => `(tactic| first
  | with_reducible refine okM_mod ?_
  | with_reducible refine okM_mul ?_
  | with_reducible refine okM_div ?_
  | with_reducible refine okM_pow ?_
  | with_reducible refine okM_ix ?_
  | with_reducible refine Eq.mpr okM_bin ?_
  | with_reducible refine okS_setW ?_
  | with_reducible refine okS_setIxW ?_
  | with_reducible refine okS_appW ?_
  | with_reducible refine okS_putFW ?_
  | with_reducible refine okS_parW ?_
  | with_reducible refine okM_popAtW ?_
  | with_reducible refine Eq.mpr okM_val ?_
  | with_reducible refine Eq.mpr okM_slot ?_
  | with_reducible refine Eq.mpr okM_C ?_
  | with_reducible refine Eq.mpr okM_cons ?_
  | with_reducible refine Eq.mpr okM_nil ?_
  | with_reducible refine Eq.mpr okM_call ?_
  | with_reducible refine Eq.mpr okM_var ?_
  | with_reducible refine Eq.mpr okM_un ?_
  | with_reducible refine Eq.mpr okM_list ?_
  | with_reducible refine Eq.mpr okM_tup ?_
  | with_reducible refine Eq.mpr okM_sl ?_
  | with_reducible refine Eq.mpr okM_part ?_
  | with_reducible refine Eq.mpr okM_noPart ?_
  | with_reducible refine Eq.mpr okM_cmpT ?_
  | with_reducible refine Eq.mpr okM_cmp ?_
  | with_reducible refine Eq.mpr okM_tru ?_
  | with_reducible refine Eq.mpr okM_not ?_
  | with_reducible refine Eq.mpr okM_and ?_
  | with_reducible refine Eq.mpr okM_or ?_
  | with_reducible refine Eq.mpr okM_if ?_
  | with_reducible refine Eq.mpr okM_andV ?_
  | with_reducible refine Eq.mpr okM_orV ?_
  | with_reducible refine Eq.mpr okM_iter ?_
  | with_reducible refine Eq.mpr okM_rg1 ?_
  | with_reducible refine Eq.mpr okM_rg2 ?_
  | with_reducible refine Eq.mpr okM_zip ?_
  | with_reducible refine Eq.mpr okM_lc ?_
  | with_reducible refine Eq.mpr okM_def ?_
  | with_reducible refine Eq.mpr okM_isi ?_
  | with_reducible refine Eq.mpr okM_ownL ?_
  | with_reducible refine Eq.mpr okM_pure ?_
  | with_reducible refine Eq.mpr okS_seq ?_
  | with_reducible refine Eq.mpr okS_nx ?_
  | with_reducible refine Eq.mpr okS_if ?_
  | with_reducible refine Eq.mpr okS_ret ?_
  | with_reducible refine Eq.mpr okS_retV ?_
  | with_reducible refine Eq.mpr okS_asg ?_
  | with_reducible refine Eq.mpr okS_for ?_
  | with_reducible refine Eq.mpr okS_expr ?_
  | with_reducible refine Eq.mpr okS_bk ?_
  | with_reducible refine Eq.mpr okS_ct ?_
  | with_reducible refine Eq.mpr okS_rtN ?_
  | with_reducible refine Eq.mpr okM_lend ?_
  | with_reducible refine Eq.mpr okM_make ?_
  | with_reducible refine Eq.mpr okM_enumA ?_
  | with_reducible refine Eq.mpr okM_join ?_
  | with_reducible refine setK_i (by simp only [set_un, set_fz, set_ow, set_s, Option.map_some, slOf_f, slOf_t, chg_ow, chg_io, chg_s, List.set_cons_zero, List.set_cons_succ, Int.reduceToNat, List.replicate_succ, List.replicate_zero, Nat.reduceSub, wipeE_cons, wipeE_nil]; first | done | rfl) ?_
  | with_reducible refine chgK_i (by simp only [set_un, set_fz, set_ow, set_s, Option.map_some, slOf_f, slOf_t, chg_ow, chg_io, chg_s, List.set_cons_zero, List.set_cons_succ, Int.reduceToNat, List.replicate_succ, List.replicate_zero, Nat.reduceSub, wipeE_cons, wipeE_nil]; first | done | rfl) ?_
  | with_reducible refine And.intro (GMod.mk (by omega)) ?_
  | with_reducible refine And.intro (GDiv.mk ⟨by omega, by omega⟩) ?_
  | with_reducible refine And.intro (GPow.mk ⟨by omega, by omega, by omega, by omega⟩) ?_
  | with_reducible refine And.intro (GMul.r ⟨by omega, by omega⟩) ?_
  | with_reducible refine And.intro (GMul.l ⟨by omega, by omega⟩) ?_
  | with_reducible refine split_T ?_
  | with_reducible refine split_F ?_
  | with_reducible refine split_dec (fun _ => ?_) (fun _ => ?_)
  | with_reducible refine split_neg ?_
  | with_reducible refine split_ne (fun _ => ?_) (fun _ => ?_)
  | with_reducible refine split_eqb (fun _ => ?_) (fun _ => ?_)
  | with_reducible refine And.intro (smI_of ⟨by omega, by omega⟩) ?_
  | refine ⟨_, ix_row (by first | exact seqR_d | exact seqR_t | assumption) (by omega), ?_⟩
  | refine ⟨_, ix_dM (by omega), ?_⟩
  | refine ⟨_, rfl, _, rfl, _, rfl, ?_⟩
  | refine ⟨_, rfl, _, rfl, ?_⟩
  | refine ⟨_, rfl, ⟨_, rfl⟩, ?_⟩
  | refine ⟨_, rfl, ?_⟩
  | refine ⟨_, _, rfl, ?_⟩
  | refine ⟨rfl, ?_⟩
  | refine And.intro (show List.length _ ≤ LIM by simp only [List.length_cons, List.length_nil, List.length_map, List.length_range, rg_len, LIM_eq]; omega) ?_
  | exact smI_of ⟨by omega, by omega⟩
  | ((with_reducible show wipeE _ _ = _); rfl))
theorem okm_eq {α : Type} {m : M α} {e : DV.Env} {x : α} {e' : DV.Env} (h : OkM m e fun y e2 => y = x ∧ e2 = e') : m e = .ok x e' := by
  obtain ⟨y, e2, h1, h2, h3⟩ := h.out
  rw [h1, h2, h3]
theorem drawF_ok {d : D} (hd : JOk d) {t : Int} (h0 : 0 < t) (h1 : t < 2 ^ 60) : JOk (drawF d t).2 ∧ 0 ≤ (drawF d t).1 ∧ (drawF d t).1 < t ∧ ∃ e', mb__law_draw [.io d, .fz (.int t), .un, .un] = .rt (.int (drawF d t).1) false e' ∧ e'[0]? = some (.io (drawF d t).2) := by
  have h := draw_ok hd h0 h1
  unfold OkS at h
  unfold drawF
  split at h
  · exact h.elim
  · rename_i r fl e' q
    obtain ⟨d', h2, h3, v, rfl, rfl, h4, h5⟩ := h
    rw [q]
    cases e' with
    | nil => cases h2
    | cons s r =>
      cases h2
      exact ⟨h3, h4, h5, _, rfl, rfl⟩
  · exact h.elim
  · exact h.elim
  · exact h.elim
section
variable {e : DV.Env} {P : D × Bool → DV.Env → Prop}
theorem run_drawF {i : Nat} {d : D} {t : Int} (ho : ownD e i = some d) (hd : JOk d) (h0 : 0 < t) (h1 : t < 2 ^ 60) (k : P (.int (drawF d t).1, false) (chg e i (drawF d t).2)) : OkM (mRun 4 2 mb__law_draw [.slot i, .val (.int t)]) e P := by
  obtain ⟨_, _, _, e', h2, h3⟩ := drawF_ok hd h0 h1
  refine run_io i d [.int t] ho ?_
  show OkS mb__law_draw [.io d, .fz (.int t), .un, .un] _ _ _ _
  unfold OkS
  rw [h2]
  exact ⟨_, h3, k⟩
end
theorem taken_len {bar lead : List Int} {n : Int} : (takenR bar lead n).length = bar.length := by simp [takenR]
theorem taken_red {bar lead : List Int} {n : Int} : Red (takenR bar lead n) := fun x hx => by
  obtain ⟨k, _, rfl⟩ := List.mem_map.mp hx
  omega
theorem shp_set {n i : Nat} {rows : List (List Int)} {r : List Int} (h : Shp n rows) (hl : r.length = n) (hr : Red r) : Shp n (rows.set i r) := fun x hx => by
  rcases List.mem_or_eq_of_mem_set hx with z | z
  · exact h x z
  · rw [z]; exact ⟨hl, hr⟩
theorem unitM_len {n : Nat} : (unitM n).length = n := by simp [unitM]
theorem unitM_shp {n : Nat} : Shp n (unitM n) := fun r hr => by
  obtain ⟨i, _, rfl⟩ := List.mem_map.mp hr
  refine ⟨by simp, fun x hx => ?_⟩
  obtain ⟨j, _, rfl⟩ := List.mem_map.mp hx
  split <;> omega
theorem rowsL_ok {n i j : Nat} {m : Int} {rows : List (List Int)} (hl : rows.length = n) (hS : Shp n rows) (hi : i < n) (hj : j < n) : (rowsL rows i j m).length = n ∧ Shp n (rowsL rows i j m) := by
  have s1 := hS _ (row_mem (m := rows) (i := i) (by omega))
  have s2 := hS _ (row_mem (m := rows) (i := j) (by omega))
  unfold rowsL
  split
  · refine ⟨by rw [List.length_set]; exact hl, shp_set hS (by rw [List.length_map]; exact s1.1) fun x hx => ?_⟩
    obtain ⟨y, _, rfl⟩ := List.mem_map.mp hx
    show 0 ≤ m * y % 1000003 ∧ m * y % 1000003 < 1000003
    omega
  · split
    · exact ⟨by rw [List.length_set, List.length_set]; exact hl, shp_set (shp_set hS s2.1 s2.2) s1.1 s1.2⟩
    · exact ⟨by rw [List.length_set]; exact hl, shp_set hS (by rw [taken_len]; exact s1.1) taken_red⟩
/-- what holds of the steps -/
theorem iterL_ok {n : Nat} (h1 : n ≤ 100) {d : D} (hd : JOk d) : ∀ {k : Nat}, (k = 0 ∨ 0 < n) → JOk (iterL n k (d, unitM n)).1 ∧ (iterL n k (d, unitM n)).2.length = n ∧ Shp n (iterL n k (d, unitM n)).2
  | 0, _ => ⟨hd, unitM_len, unitM_shp⟩
  | k + 1, hz => by
    have h0 : 0 < n := by omega
    obtain ⟨a, b, c⟩ := iterL_ok h1 hd (k := k) (.inr h0)
    unfold iterL stepL
    generalize iterL n k (d, unitM n) = z at a b c ⊢
    dsimp only
    obtain ⟨a1, b1, c1, _⟩ := drawF_ok a (t := n) (by omega) (by omega)
    obtain ⟨a2, b2, c2, _⟩ := drawF_ok a1 (t := n) (by omega) (by omega)
    obtain ⟨a3, b3, c3, _⟩ := drawF_ok a2 (t := 4) (by omega) (by omega)
    obtain ⟨a4, b4, c4, _⟩ := drawF_ok a3 (t := if 0 < (drawF (drawF (drawF z.1 n).2 n).2 4).1 then 9 else 1000002) (by split <;> omega) (by split <;> omega)
    exact ⟨a4, rowsL_ok b c (by omega) (by omega)⟩
end DV
-- K2W2
namespace DV
open PySem PySem.Spec PyProof.Rows L2
open Lin
local macro_rules | `(tactic| contradiction) => `(tactic| first
  | with_reducible refine okM_mod ?_
  | with_reducible refine okM_mul ?_
  | with_reducible refine okM_div ?_
  | with_reducible refine okM_pow ?_
  | with_reducible refine okM_ix ?_
  | with_reducible refine Eq.mpr okM_bin ?_
  | with_reducible refine okS_setW ?_
  | with_reducible refine okS_setIxW ?_
  | with_reducible refine okS_appW ?_
  | with_reducible refine okS_putFW ?_
  | with_reducible refine okS_parW ?_
  | with_reducible refine okM_popAtW ?_
  | with_reducible refine Eq.mpr okM_val ?_
  | with_reducible refine Eq.mpr okM_slot ?_
  | with_reducible refine Eq.mpr okM_C ?_
  | with_reducible refine Eq.mpr okM_cons ?_
  | with_reducible refine Eq.mpr okM_nil ?_
  | with_reducible refine Eq.mpr okM_call ?_
  | with_reducible refine Eq.mpr okM_var ?_
  | with_reducible refine Eq.mpr okM_un ?_
  | with_reducible refine Eq.mpr okM_list ?_
  | with_reducible refine Eq.mpr okM_tup ?_
  | with_reducible refine Eq.mpr okM_sl ?_
  | with_reducible refine Eq.mpr okM_part ?_
  | with_reducible refine Eq.mpr okM_noPart ?_
  | with_reducible refine Eq.mpr okM_cmpT ?_
  | with_reducible refine Eq.mpr okM_cmp ?_
  | with_reducible refine Eq.mpr okM_tru ?_
  | with_reducible refine Eq.mpr okM_not ?_
  | with_reducible refine Eq.mpr okM_and ?_
  | with_reducible refine Eq.mpr okM_or ?_
  | with_reducible refine Eq.mpr okM_if ?_
  | with_reducible refine Eq.mpr okM_andV ?_
  | with_reducible refine Eq.mpr okM_orV ?_
  | with_reducible refine Eq.mpr okM_iter ?_
  | with_reducible refine Eq.mpr okM_rg1 ?_
  | with_reducible refine Eq.mpr okM_rg2 ?_
  | with_reducible refine Eq.mpr okM_zip ?_
  | with_reducible refine Eq.mpr okM_lc ?_
  | with_reducible refine Eq.mpr okM_def ?_
  | with_reducible refine Eq.mpr okM_isi ?_
  | with_reducible refine Eq.mpr okM_ownL ?_
  | with_reducible refine Eq.mpr okM_pure ?_
  | with_reducible refine Eq.mpr okS_seq ?_
  | with_reducible refine Eq.mpr okS_nx ?_
  | with_reducible refine Eq.mpr okS_if ?_
  | with_reducible refine Eq.mpr okS_ret ?_
  | with_reducible refine Eq.mpr okS_retV ?_
  | with_reducible refine Eq.mpr okS_asg ?_
  | with_reducible refine Eq.mpr okS_for ?_
  | with_reducible refine Eq.mpr okS_expr ?_
  | with_reducible refine Eq.mpr okS_bk ?_
  | with_reducible refine Eq.mpr okS_ct ?_
  | with_reducible refine Eq.mpr okS_rtN ?_
  | with_reducible refine Eq.mpr okM_lend ?_
  | with_reducible refine Eq.mpr okM_make ?_
  | with_reducible refine Eq.mpr okM_enumA ?_
  | with_reducible refine Eq.mpr okM_join ?_
  | with_reducible refine setK_i (by simp only [set_un, set_fz, set_ow, set_s, Option.map_some, slOf_f, slOf_t, chg_ow, chg_io, chg_s, List.set_cons_zero, List.set_cons_succ, Int.reduceToNat, List.replicate_succ, List.replicate_zero, Nat.reduceSub, wipeE_cons, wipeE_nil]; first | done | rfl) ?_
  | with_reducible refine chgK_i (by simp only [set_un, set_fz, set_ow, set_s, Option.map_some, slOf_f, slOf_t, chg_ow, chg_io, chg_s, List.set_cons_zero, List.set_cons_succ, Int.reduceToNat, List.replicate_succ, List.replicate_zero, Nat.reduceSub, wipeE_cons, wipeE_nil]; first | done | rfl) ?_
  | with_reducible refine And.intro (GMod.mk (by omega)) ?_
  | with_reducible refine And.intro (GDiv.mk ⟨by omega, by omega⟩) ?_
  | with_reducible refine And.intro (GPow.mk ⟨by omega, by omega, by omega, by omega⟩) ?_
  | with_reducible refine And.intro (GMul.r ⟨by omega, by omega⟩) ?_
  | with_reducible refine And.intro (GMul.l ⟨by omega, by omega⟩) ?_
  | with_reducible refine split_T ?_
  | with_reducible refine split_F ?_
  | with_reducible refine split_dec (fun _ => ?_) (fun _ => ?_)
  | with_reducible refine split_neg ?_
  | with_reducible refine split_ne (fun _ => ?_) (fun _ => ?_)
  | with_reducible refine split_eqb (fun _ => ?_) (fun _ => ?_)
  | with_reducible refine And.intro (smI_of ⟨by omega, by omega⟩) ?_
  | refine ⟨_, ix_row (by first | exact seqR_d | exact seqR_t | assumption) (by omega), ?_⟩
  | refine ⟨_, ix_dM (by omega), ?_⟩
  | refine ⟨_, rfl, _, rfl, _, rfl, ?_⟩
  | refine ⟨_, rfl, _, rfl, ?_⟩
  | refine ⟨_, rfl, ⟨_, rfl⟩, ?_⟩
  | refine ⟨_, rfl, ?_⟩
  | refine ⟨_, _, rfl, ?_⟩
  | refine ⟨rfl, ?_⟩
  | refine And.intro (show List.length _ ≤ LIM by simp only [List.length_cons, List.length_nil, List.length_map, List.length_range, rg_len, LIM_eq]; omega) ?_
  | exact smI_of ⟨by omega, by omega⟩
  | ((with_reducible show wipeE _ _ = _); rfl))
section
variable {P : Program} {w : World} {K : PySem.W.Frag} {mg : Str → Option Value} {base : Heap} {cls : Nat → Addr}
/-- the comprehension of _law_unit -/
def mUnit : M (D × Bool) := mLc (mRg1 (mCons (mSlot 0) mNil)) [1] (gPut 1) mYes (mLc (mRg1 (mCons (mSlot 0) mNil)) [2] (gPut 2) mYes (mCall (f1 oInt) (mCons (mVal (mCmp cEq (mSlot 1) (mSlot 2))) mNil)))
theorem run_mUnit {n : Nat} (hn : n ≤ 100) : mUnit [.fz (.int n), .un, .un] = .ok (dM (unitM n), true) [.fz (.int n), .un, .un] := by
  apply okm_eq
  unfold mUnit
  repeat' contradiction
  refine okM_mapI (fun i => dR ((List.range n).map fun j => if i = j then 1 else 0)) (fun i d hi => ?_) ?_
  · obtain ⟨hi, rfl⟩ := rg0_get hi
    repeat' contradiction
    refine okM_mapI (fun j => .int (if i = j then 1 else 0)) (fun j d hj => ?_) ?_
    · obtain ⟨hj, rfl⟩ := rg0_get hj
      repeat' contradiction
      refine ⟨?_, rfl⟩
      by_cases z : i = j
      · simp [z]
      · have : ¬ ((i : Int) = j) := by omega
        simp [z, this]
    · refine ⟨?_, rfl⟩
      simp [dR, rg_len]
  · refine ⟨?_, rfl⟩
    simp [dM, unitM, rg_len, dR]
theorem ok__law_unitU (C : Ct K mg cls) {f : Addr} {fd : FuncData} (F : Fun K "_law_unit" "_law_unit" s__law_unit f fd) : FnOk P w K mg base CX0 1 f fd P__law_unit (spU (TB cls) unitM) := by
  refine F.ok sc__law_unit (fun vs H Q E ⟨n, h, _⟩ => by rw [h]; rfl) fun cdv A outer s H vs Q E hr ⟨n, hv, hn, q⟩ => ?_
  subst hv
  have hu := hr.units
  have S := sc__law_unit
  refine ⟨_, pss_one (ps_ret (pe_lst (pa_cons (pe_var (i := 0) rfl (by first | exact Or.inl rfl | exact Or.inr (Or.inl rfl))) (pa_cons (pe_var (i := 0) rfl (by first | exact Or.inl rfl | exact Or.inr (Or.inl rfl))) (pa_cons (eo_of (T := TB cls) (m := mUnit) fun O => (de_lc (own := [("i", 1)]) rfl S.nd (di_range1 (by rfl) C.b_range (da_cons (dh_slot 0) da_nil)) (blk_ok rfl) (fun _ _ _ _ _ _ => (dg_name 1 S.nd)) (fun _ _ _ _ _ => dts_nil) (fun _ _ _ _ _ _ => (de_lc (own := [("j", 2)]) rfl S.nd (di_range1 (by rfl) C.b_range (da_cons (dh_slot 0) da_nil)) (blk_ok rfl) (fun _ _ _ _ _ _ => (dg_name 2 S.nd)) (fun _ _ _ _ _ => dts_nil) (fun _ _ _ _ _ _ => (de_callT CaOk.int C.b_int rfl (da_cons (dh_of (de_cmp (CmOk.eq hu) (dh_slot 1) (dh_slot 2))) da_nil))))))) pa_nil))))), ?_⟩
  have h0 : (L2.start N__law_unit [V.int (n : Int)])[0]? = some (some (V.int (n : Int))) := rfl
  have nown : ∀ b, ¬ Own (L2.start N__law_unit [V.int (n : Int)]) [.fz (.int n), .un, .un] b := fun b ⟨i, s, d, g1, g2, g3⟩ => by
    rcases i with _ | _ | _ | i
    · cases g1; cases g2
    · cases g1; cases g2
    · cases g1; cases g2
    · cases g1
  have j0 : J (TB cls) (fun c => ∃ o, H c = some o) (L2.start N__law_unit [V.int (n : Int)]) [.fz (.int n), .un, .un] H := by
    refine ⟨rfl, fun i d g => ?_, fun i s d g1 g2 => ?_, fun i k s t d d' a g1 g2 _ _ g3 _ => (nown a ⟨i, s, d, g1, g2, g3⟩).elim, fun a z => (nown a z).elim, fun a z => z⟩
    · rcases i with _ | _ | _ | i
      · cases g; exact ⟨_, rfl, by simp only [Rep]⟩
      · cases g
      · cases g
      · cases g
    · rcases i with _ | _ | _ | i
      · cases g1; cases g2
      · cases g1; cases g2
      · cases g1; cases g2
      · cases g1
  refine ⟨_, h0, _, h0, fun c => ∃ o, H c = some o, [.fz (.int n), .un, .un], j0, ?_⟩
  rw [run_mUnit hn]
  intro v H1 t nw r
  obtain ⟨b, rfl, nO, j1, us, h1, h2⟩ := r
  have hb : H b = none := nw b ⟨rfl, rfl⟩
  have hk : ∀ c o, H c = some o → H1 c = some o := fun c o z => t.keep c o z (nown c)
  refine ⟨by simp [sizeLine], fun a ha => ?_⟩
  have fa : H a = none := by
    cases z : H a with
    | none => rfl
    | some o => rw [hk a o z] at ha; cases ha
  have nab : a ≠ b := fun z => by subst z; rw [h1] at ha; cases ha
  have kp : ∀ c o, H1 c = some o → upd H1 a (.lst [V.int (n : Int), V.int (n : Int), V.ref b]) c = some o := fun c o z => by
    unfold upd; rw [if_neg (fun y => by subst y; rw [ha] at z; cases z)]; exact z
  refine q a b us _ (fun c o z => kp c o (hk c o z)) fa hb nab (by unfold upd; exact if_pos rfl) (kp _ _ h1) (h2.mono fun c o n z => ⟨kp c o z, fun y => ?_⟩)
  rcases y with y | y | y
  · exact n (.inl (.inl y))
  · subst y; rw [ha] at z; cases z
  · exact n (.inl (.inr y))
end
end DV
-- K2W3
namespace DV
open PySem PySem.Spec PyProof.Rows L2
open Lin
local macro_rules | `(tactic| contradiction) => `(tactic| first
  | with_reducible refine okM_mod ?_
  | with_reducible refine okM_mul ?_
  | with_reducible refine okM_div ?_
  | with_reducible refine okM_pow ?_
  | with_reducible refine okM_ix ?_
  | with_reducible refine Eq.mpr okM_bin ?_
  | with_reducible refine okS_setW ?_
  | with_reducible refine okS_setIxW ?_
  | with_reducible refine okS_appW ?_
  | with_reducible refine okS_putFW ?_
  | with_reducible refine okS_parW ?_
  | with_reducible refine okM_popAtW ?_
  | with_reducible refine Eq.mpr okM_val ?_
  | with_reducible refine Eq.mpr okM_slot ?_
  | with_reducible refine Eq.mpr okM_C ?_
  | with_reducible refine Eq.mpr okM_cons ?_
  | with_reducible refine Eq.mpr okM_nil ?_
  | with_reducible refine Eq.mpr okM_call ?_
  | with_reducible refine Eq.mpr okM_var ?_
  | with_reducible refine Eq.mpr okM_un ?_
  | with_reducible refine Eq.mpr okM_list ?_
  | with_reducible refine Eq.mpr okM_tup ?_
  | with_reducible refine Eq.mpr okM_sl ?_
  | with_reducible refine Eq.mpr okM_part ?_
  | with_reducible refine Eq.mpr okM_noPart ?_
  | with_reducible refine Eq.mpr okM_cmpT ?_
  | with_reducible refine Eq.mpr okM_cmp ?_
  | with_reducible refine Eq.mpr okM_tru ?_
  | with_reducible refine Eq.mpr okM_not ?_
  | with_reducible refine Eq.mpr okM_and ?_
  | with_reducible refine Eq.mpr okM_or ?_
  | with_reducible refine Eq.mpr okM_if ?_
  | with_reducible refine Eq.mpr okM_andV ?_
  | with_reducible refine Eq.mpr okM_orV ?_
  | with_reducible refine Eq.mpr okM_iter ?_
  | with_reducible refine Eq.mpr okM_rg1 ?_
  | with_reducible refine Eq.mpr okM_rg2 ?_
  | with_reducible refine Eq.mpr okM_zip ?_
  | with_reducible refine Eq.mpr okM_lc ?_
  | with_reducible refine Eq.mpr okM_def ?_
  | with_reducible refine Eq.mpr okM_isi ?_
  | with_reducible refine Eq.mpr okM_ownL ?_
  | with_reducible refine Eq.mpr okM_pure ?_
  | with_reducible refine Eq.mpr okS_seq ?_
  | with_reducible refine Eq.mpr okS_nx ?_
  | with_reducible refine Eq.mpr okS_if ?_
  | with_reducible refine Eq.mpr okS_ret ?_
  | with_reducible refine Eq.mpr okS_retV ?_
  | with_reducible refine Eq.mpr okS_asg ?_
  | with_reducible refine Eq.mpr okS_for ?_
  | with_reducible refine Eq.mpr okS_expr ?_
  | with_reducible refine Eq.mpr okS_bk ?_
  | with_reducible refine Eq.mpr okS_ct ?_
  | with_reducible refine Eq.mpr okS_rtN ?_
  | with_reducible refine Eq.mpr okM_lend ?_
  | with_reducible refine Eq.mpr okM_make ?_
  | with_reducible refine Eq.mpr okM_enumA ?_
  | with_reducible refine Eq.mpr okM_join ?_
  | with_reducible refine setK_i (by simp only [set_un, set_fz, set_ow, set_s, Option.map_some, slOf_f, slOf_t, chg_ow, chg_io, chg_s, List.set_cons_zero, List.set_cons_succ, Int.reduceToNat, List.replicate_succ, List.replicate_zero, Nat.reduceSub, wipeE_cons, wipeE_nil]; first | done | rfl) ?_
  | with_reducible refine chgK_i (by simp only [set_un, set_fz, set_ow, set_s, Option.map_some, slOf_f, slOf_t, chg_ow, chg_io, chg_s, List.set_cons_zero, List.set_cons_succ, Int.reduceToNat, List.replicate_succ, List.replicate_zero, Nat.reduceSub, wipeE_cons, wipeE_nil]; first | done | rfl) ?_
  | with_reducible refine And.intro (GMod.mk (by omega)) ?_
  | with_reducible refine And.intro (GDiv.mk ⟨by omega, by omega⟩) ?_
  | with_reducible refine And.intro (GPow.mk ⟨by omega, by omega, by omega, by omega⟩) ?_
  | with_reducible refine And.intro (GMul.r ⟨by omega, by omega⟩) ?_
  | with_reducible refine And.intro (GMul.l ⟨by omega, by omega⟩) ?_
  | with_reducible refine split_T ?_
  | with_reducible refine split_F ?_
  | with_reducible refine split_dec (fun _ => ?_) (fun _ => ?_)
  | with_reducible refine split_neg ?_
  | with_reducible refine split_ne (fun _ => ?_) (fun _ => ?_)
  | with_reducible refine split_eqb (fun _ => ?_) (fun _ => ?_)
  | with_reducible refine And.intro (smI_of ⟨by omega, by omega⟩) ?_
  | refine ⟨_, ix_row (by first | exact seqR_d | exact seqR_t | assumption) (by omega), ?_⟩
  | refine ⟨_, ix_dM (by omega), ?_⟩
  | refine ⟨_, rfl, _, rfl, _, rfl, ?_⟩
  | refine ⟨_, rfl, _, rfl, ?_⟩
  | refine ⟨_, rfl, ⟨_, rfl⟩, ?_⟩
  | refine ⟨_, rfl, ?_⟩
  | refine ⟨_, _, rfl, ?_⟩
  | refine ⟨rfl, ?_⟩
  | refine And.intro (show List.length _ ≤ LIM by simp only [List.length_cons, List.length_nil, List.length_map, List.length_range, rg_len, LIM_eq]; omega) ?_
  | exact smI_of ⟨by omega, by omega⟩
  | ((with_reducible show wipeE _ _ = _); rfl))
section
variable {P : Program} {w : World} {K : PySem.W.Frag} {mg : Str → Option Value} {base : Heap} {cls : Nat → Addr}
abbrev dDraw (m : M Hv) : M (D × Bool) := mDef 4 2 mb__law_draw [] (mCons (mSlot 0) (mCons m mNil))
theorem run_dDraw {e : DV.Env} {m : M Hv} {d : D} {t : Int} {Q : D × Bool → DV.Env → Prop} (hm : ∀ R : Hv → DV.Env → Prop, R (.val (.int t)) e → OkM m e R) (ho : ownD e 0 = some d) (hl : ∃ d0, look e 0 = some d0) (hd : JOk d) (h0 : 0 < t) (h1 : t < 2 ^ 60) (k : Q (.int (drawF d t).1, false) (chg e 0 (drawF d t).2)) : OkM (dDraw m) e Q := by
  unfold dDraw
  refine Eq.mpr okM_def (Eq.mpr okM_cons (Eq.mpr okM_slot ?_))
  obtain ⟨d0, hl⟩ := hl
  refine ⟨d0, hl, Eq.mpr okM_cons (hm _ (Eq.mpr okM_nil ?_))⟩
  exact run_drawF ho hd h0 h1 k
abbrev mM : M (D × Bool) := mBin opAdd (mVal (mC (.int 1))) (mVal (dDraw (mVal (mIf (mCmpT cGt (mVal (dDraw (mVal (mC (.int 4))))) (mVal (mC (.int 0)))) (mC (.int 9)) (mC (.int 1000002))))))
abbrev mCnt : M (List Hv) := mCons (mVal (dDraw (mVal (mBin opAdd (mVal (mBin opMul (mVal (mC (.int 2))) (mSlot 1))) (mVal (mC (.int 1))))))) mNil
abbrev mScale : M (D × Bool) := mLc (mIter (mBin opIx (mVal (mBin opIx (mSlot 2) (mVal (mC (.int 2))))) (mSlot 4))) [7] (gPut 7) mYes (mBin opMod (mVal (mCall (f1 oInt) (mCons (mVal (mBin opMul (mSlot 6) (mSlot 7))) mNil))) (mVal (mC (.int 1000003))))
abbrev mTake : M (D × Bool) := mDef 4 3 mb__law_taken [] (mCons (mVal (mBin opIx (mVal (mBin opIx (mSlot 2) (mVal (mC (.int 2))))) (mSlot 4))) (mCons (mVal (mBin opIx (mVal (mBin opIx (mSlot 2) (mVal (mC (.int 2))))) (mSlot 5))) (mCons (mVal (mVar 6)) mNil)))
set_option pp.maxSteps 600 in
set_option pp.deepTerms false in
theorem ok__law_loose (C : Ct K mg cls) {f : Addr} {fd : FuncData} (F : Fun K "_law_loose" "_law_loose" s__law_loose f fd) : FnOk P w K mg base CX0 2 f fd P__law_loose (spB (TB cls) N__law_loose P__law_loose mb__law_loose) := by
  obtain ⟨f__law_draw, fd__law_draw, m__law_draw, F__law_draw, b__law_draw⟩ := C.f__law_draw
  have G__law_draw := ok__law_draw (P := P) (w := w) (base := base) C F__law_draw
  obtain ⟨f__law_taken, fd__law_taken, m__law_taken, F__law_taken, b__law_taken⟩ := C.f__law_taken
  have G__law_taken := ok__law_taken (P := P) (w := w) (base := base) C F__law_taken
  obtain ⟨f__law_unit, fd__law_unit, m__law_unit, F__law_unit, b__law_unit⟩ := C.f__law_unit
  have G__law_unit := ok__law_unitU (P := P) (w := w) (base := base) C F__law_unit
  refine F.ok sc__law_loose (fun vs H Q E h => h.1) fun cdv A outer s H vs Q E hr ⟨hvl, O, e0, j, wp⟩ => ?_
  have hu := hr.units
  have S := sc__law_loose
  refine ⟨_, (pss_cons (nst_new (u := unitM) G__law_unit (hr.mono (by decide)) m__law_unit F__law_unit.kp b__law_unit S.nd)
    (pss_cons (nst_for (T := TB cls) 3 (ma := mCnt) PassesOwn.never rfl (fun O => da_cons (dh_of (de_def (dd := []) G__law_draw (hr.mono (by decide)) m__law_draw F__law_draw.kp b__law_draw .nil repNil (da_cons (dh_slot 0) (da_cons (dh_of (de_bin OpOk.add (dh_of (de_bin OpOk.mul (dh_of de_int) (dh_slot 1))) (dh_of de_int))) da_nil)))) da_nil) (by rfl) C.b_range (by decide)
      (pss_cons (nst_set (T := TB cls) 4 (eo_of (m := dDraw (mVal (mVar 1))) fun O => de_def (dd := []) G__law_draw (hr.mono (by decide)) m__law_draw F__law_draw.kp b__law_draw .nil repNil (da_cons (dh_slot 0) (da_cons (dh_of (de_var 1)) da_nil))) (by decide) S.nd)
      (pss_cons (nst_set (T := TB cls) 5 (eo_of (m := dDraw (mVal (mVar 1))) fun O => de_def (dd := []) G__law_draw (hr.mono (by decide)) m__law_draw F__law_draw.kp b__law_draw .nil repNil (da_cons (dh_slot 0) (da_cons (dh_of (de_var 1)) da_nil))) (by decide) S.nd)
      (pss_cons (nst_set (T := TB cls) 6 (eo_of (m := mM) fun O => de_bin OpOk.add (dh_of de_int) (dh_of (de_def (dd := []) G__law_draw (hr.mono (by decide)) m__law_draw F__law_draw.kp b__law_draw .nil repNil (da_cons (dh_slot 0) (da_cons (dh_of (de_ife (dt_cmp CmOk.gt (dh_of (de_def (dd := []) G__law_draw (hr.mono (by decide)) m__law_draw F__law_draw.kp b__law_draw .nil repNil (da_cons (dh_slot 0) (da_cons (dh_of de_int) da_nil)))) (dh_of de_int)) de_int de_int)) da_nil))))) (by decide) S.nd)
      (pss_one (nst_if (T := TB cls) (fun O => dt_cmp (CmOk.eq hu) (dh_slot 4) (dh_slot 5)) (pss_one (nst_put (T := TB cls) 4 (vn_de (me := mScale) fun O => de_lc (own := [("k", 7)]) rfl S.nd (di_seq (de_ix (dh_of (de_ix (dh_slot 2) (dh_of de_int))) (dh_slot 4))) (blk_ok rfl) (fun _ _ _ _ _ _ => (dg_name 7 S.nd)) (fun _ _ _ _ _ => dts_nil) (fun _ _ _ _ _ _ => (de_bin OpOk.mod (dh_of (de_callT CaOk.int C.b_int rfl (da_cons (dh_of (de_bin OpOk.mul (dh_slot 6) (dh_slot 7))) da_nil))) (dh_of de_int)))))) (pss_one (nst_if (T := TB cls) (fun O => dt_cmp (CmOk.eq hu) (dh_slot 6) (dh_of de_int)) (pss_cons (nst_setV (T := TB cls) 8 (vn_row 4) (by decide) S.nd) (pss_cons (nst_put (T := TB cls) 4 (vn_row 5)) (pss_one (nst_put (T := TB cls) 5 (vn_var 8))))) (pss_one (nst_put (T := TB cls) 4 (vn_de (me := mTake) fun O => de_def (dd := []) G__law_taken (hr.mono (by decide)) m__law_taken F__law_taken.kp b__law_taken .nil repNil (da_cons (dh_of (de_ix (dh_of (de_ix (dh_slot 2) (dh_of de_int))) (dh_slot 4))) (da_cons (dh_of (de_ix (dh_of (de_ix (dh_slot 2) (dh_of de_int))) (dh_slot 5))) (da_cons (dh_of (de_var 6)) da_nil))))))))))))) S.nd)
    (pss_one (nst_ret (T := TB cls))))), ?_⟩
  have el : e0.length = 9 := by
    rw [j.len]
    unfold L2.start
    have : vs.length = 2 := hvl
    simp [this]
  unfold mb__law_loose at wp
  split at wp
  rotate_left
  · exact wp.elim
  rename_i d n r
  split at wp
  rotate_left
  · exact wp.elim
  rename_i hc
  obtain ⟨hd, hn0, hn1⟩ := hc
  obtain ⟨n, rfl⟩ : ∃ q : Nat, n = q := ⟨n.toNat, by omega⟩
  rw [Int.toNat_natCast] at wp
  have hn : n ≤ 100 := by omega
  have er : r = List.replicate 7 .un := by
    refine List.eq_replicate_iff.mpr ⟨by simpa using el, fun s hs => ?_⟩
    obtain ⟨i, hi⟩ := List.getElem?_of_mem hs
    exact j.fresh (i := i + 2) (by simpa using hi) (by have : vs.length = 2 := hvl; omega)
  subst er
  obtain ⟨a1, b1, c1, _⟩ := drawF_ok hd (t := 2 * (n : Int) + 1) (by omega) (by omega)
  refine ⟨O, _, n, j, rfl, rfl, hn, fun a b σ' H' jn => ?_⟩
  refine ⟨_, _, (drawF d (2 * n + 1)).1, [.io (drawF d (2 * n + 1)).2, .fz (.int n), .un, .un, .un, .un, .un, .un, .un], jn, okm_eq ?_, rfl, smI_of ⟨by omega, by omega⟩, fun k e rows => ∃ d' s3 s4 s5 s6 s8, e = [.io d', .fz (.int n), .un, s3, s4, s5, s6, .un, s8] ∧ (s3.own? = none ∧ Fr s3) ∧ (s4.own? = none ∧ Fr s4) ∧ (s5.own? = none ∧ Fr s5) ∧ (s6.own? = none ∧ Fr s6) ∧ (s8.own? = none ∧ Fr s8) ∧ (d', rows) = iterL n k ((drawF d (2 * n + 1)).2, unitM n), ?_, ?_, ?_⟩
  · repeat' contradiction
    refine run_drawF rfl hd (by omega) (by omega) ?_
    exact Eq.mpr okM_nil ⟨rfl, rfl⟩
  · exact ⟨_, _, _, _, _, _, rfl, ⟨rfl, trivial⟩, ⟨rfl, trivial⟩, ⟨rfl, trivial⟩, ⟨rfl, trivial⟩, ⟨rfl, trivial⟩, rfl⟩
  · rintro k hk e rows ⟨d', s3, s4, s5, s6, s8, rfl, ⟨o3, f3⟩, ⟨o4, f4⟩, ⟨o5, f5⟩, ⟨o6, f6⟩, ⟨o8, f8⟩, hI⟩
    have hn0 : 0 < n := by omega
    obtain ⟨hd', hl, hS⟩ := iterL_ok hn a1 (k := k) (.inr hn0)
    rw [← hI] at hd' hl hS
    dsimp only at hd' hl hS
    refine ⟨[.io d', .fz (.int n), .un, .fz (.int k), s4, s5, s6, .un, s8], by simp [set_fr f3], rfl, fun σ3 H3 D3 k3 hnx => ?_⟩
    obtain ⟨a4, b4, c4, _⟩ := drawF_ok hd' (t := n) (by omega) (by omega)
    obtain ⟨a5, b5, c5, _⟩ := drawF_ok a4 (t := n) (by omega) (by omega)
    obtain ⟨a6, b6, c6, _⟩ := drawF_ok a5 (t := 4) (by omega) (by omega)
    obtain ⟨a7, b7, c7, _⟩ := drawF_ok a6 (t := if 0 < (drawF (drawF (drawF d' n).2 n).2 4).1 then 9 else 1000002) (by split <;> omega) (by split <;> omega)
    have hstep : iterL n (k + 1) ((drawF d (2 * n + 1)).2, unitM n) = stepL n (d', rows) := by rw [hI]; rfl
    dsimp only at hnx k3
    rw [hstep] at hnx
    unfold stepL at hnx
    dsimp only at hnx
    generalize hi : drawF d' n = zi at *
    generalize hj : drawF zi.2 n = zj at *
    generalize hq : drawF zj.2 4 = zq at *
    generalize hu : drawF zq.2 (if 0 < zq.1 then 9 else 1000002) = zu at *
    refine ⟨_, _, .int zi.1, [.io zi.2, .fz (.int n), .un, .fz (.int k), s4, s5, s6, .un, s8], [.io zi.2, .fz (.int n), .un, .fz (.int k), .fz (.int zi.1), s5, s6, .un, s8], k3, okm_eq ?_, by simp [set_fr f4], rfl, fun σ4 H4 k4 => ?_⟩
    · repeat' contradiction
      refine run_drawF rfl hd' (by omega) (by omega) ?_
      rw [hi]
      exact ⟨rfl, rfl⟩
    refine ⟨_, _, .int zj.1, [.io zj.2, .fz (.int n), .un, .fz (.int k), .fz (.int zi.1), s5, s6, .un, s8], [.io zj.2, .fz (.int n), .un, .fz (.int k), .fz (.int zi.1), .fz (.int zj.1), s6, .un, s8], k4, okm_eq ?_, by simp [set_fr f5], rfl, fun σ5 H5 k5 => ?_⟩
    · repeat' contradiction
      refine run_drawF rfl a4 (by omega) (by omega) ?_
      rw [hj]
      exact ⟨rfl, rfl⟩
    refine ⟨_, _, .int (1 + zu.1), [.io zu.2, .fz (.int n), .un, .fz (.int k), .fz (.int zi.1), .fz (.int zj.1), s6, .un, s8], [.io zu.2, .fz (.int n), .un, .fz (.int k), .fz (.int zi.1), .fz (.int zj.1), .fz (.int (1 + zu.1)), .un, s8], k5, okm_eq ?_, by simp [set_fr f6], rfl, fun σ6 H6 k6 => ?_⟩
    · repeat' contradiction
      refine run_drawF rfl a5 (by omega) (by omega) ?_
      rw [hq]
      repeat' contradiction
      · rename_i hpos
        rw [if_pos hpos] at hu
        refine run_drawF rfl a6 (by omega) (by omega) ?_
        rw [hu]
        repeat' contradiction
        rfl
      · rename_i hpos
        rw [if_neg hpos] at hu
        refine run_drawF rfl a6 (by omega) (by omega) ?_
        rw [hu]
        repeat' contradiction
        rfl
    obtain ⟨i, hzi⟩ : ∃ i : Nat, zi.1 = i := ⟨zi.1.toNat, by omega⟩
    obtain ⟨j', hzj⟩ : ∃ i : Nat, zj.1 = i := ⟨zj.1.toNat, by omega⟩
    rw [hzi, hzj] at k6 hnx
    rw [Int.toNat_natCast, Int.toNat_natCast] at hnx
    have hin : i < n := by omega
    have hjn : j' < n := by omega
    have ri := row_lt (m := rows) (i := i) (by omega)
    have rj := row_lt (m := rows) (i := j') (by omega)
    have si := hS _ (row_mem (m := rows) (i := i) (by omega))
    have sj := hS _ (row_mem (m := rows) (i := j') (by omega))
    refine ⟨_, _, decide ((i : Int) = j'), k6, okm_eq ?_, fun H7 k7 => ?_⟩
    · exact Eq.mpr okM_cmpT (Eq.mpr okM_slot ⟨_, rfl, Eq.mpr okM_slot ⟨_, rfl, _, rfl, _, rfl, _, eq_int, rfl, rfl⟩⟩)
    by_cases hij : i = j'
    · rw [if_pos (decide_eq_true (by omega))]
      refine ⟨_, _, (row rows i).map fun k => (1 + zu.1) * k % 1000003, k7, ⟨[.fz zu.2, .fz (.int n), .fz (dT n n rows), .fz (.int k), .fz (.int i), .fz (.int j'), .fz (.int (1 + zu.1)), .un, frzS s8], okm_eq ?_⟩, i, rfl, by dsimp only; omega, fun σ8 H8 k8 => ?_⟩
      · show OkM mScale [.fz zu.2, .fz (.int n), .fz (dT n n rows), .fz (.int k), .fz (.int i), .fz (.int j'), .fz (.int (1 + zu.1)), .un, frzS s8] _
        have hln : (row rows i).length = n := si.1
        have hlr := @lenR (row rows i)
        repeat' contradiction
        refine okM_map (fun x => match x with | .int v => .int ((1 + zu.1) * v % 1000003) | x => x) (fun x hx => ?_) ?_
        · obtain ⟨v, hv, rfl⟩ := List.mem_map.mp hx
          have hv2 := si.2 v hv
          repeat' contradiction
        · refine ⟨?_, rfl⟩
          unfold dR
          rw [List.map_map, List.map_map]; rfl
      · refine hnx _ _ [.io zu.2, .fz (.int n), .un, .fz (.int k), .fz (.int i), .fz (.int j'), .fz (.int (1 + zu.1)), .un, s8] _ ⟨zu.2, .fz (.int k), .fz (.int i), .fz (.int j'), .fz (.int (1 + zu.1)), s8, rfl, ⟨rfl, trivial⟩, ⟨rfl, trivial⟩, ⟨rfl, trivial⟩, ⟨rfl, trivial⟩, ⟨o8, f8⟩, rfl⟩ ?_
        unfold rowsL
        rw [if_pos hij]
        exact k8
    · rw [if_neg (by simp; omega)]
      refine ⟨_, _, decide (1 + zu.1 = 9), k7, okm_eq ?_, fun H8 k8 => ?_⟩
      · exact Eq.mpr okM_cmpT (Eq.mpr okM_slot ⟨_, rfl, Eq.mpr okM_val (Eq.mpr okM_C ⟨_, rfl, _, rfl, _, eq_int, rfl, rfl⟩)⟩)
      by_cases h9 : 1 + zu.1 = 9
      · rw [if_pos (decide_eq_true h9)]
        refine ⟨_, _, row rows i, [.io zu.2, .fz (.int n), .un, .fz (.int k), .fz (.int i), .fz (.int j'), .fz (.int (1 + zu.1)), .un, .fz (dR (row rows i))], k8, ⟨i, rfl, ri⟩, by simp [set_fr f8], rfl, fun σ9 H9 k9 => ?_⟩
        refine ⟨_, _, row rows j', k9, ⟨j', rfl, rj⟩, i, rfl, by dsimp only; omega, fun σA HA kA => ?_⟩
        refine ⟨_, _, row rows i, kA, rfl, j', rfl, by dsimp only; rw [List.length_set]; omega, fun σB HB kB => ?_⟩
        refine hnx _ _ [.io zu.2, .fz (.int n), .un, .fz (.int k), .fz (.int i), .fz (.int j'), .fz (.int (1 + zu.1)), .un, .fz (dR (row rows i))] _ ⟨zu.2, .fz (.int k), .fz (.int i), .fz (.int j'), .fz (.int (1 + zu.1)), .fz (dR (row rows i)), rfl, ⟨rfl, trivial⟩, ⟨rfl, trivial⟩, ⟨rfl, trivial⟩, ⟨rfl, trivial⟩, ⟨rfl, trivial⟩, rfl⟩ ?_
        unfold rowsL
        rw [if_neg hij, if_pos h9]
        exact kB
      · rw [if_neg (by simpa using h9)]
        refine ⟨_, _, takenR (row rows i) (row rows j') (1 + zu.1), k8, ⟨[.fz zu.2, .fz (.int n), .fz (dT n n rows), .fz (.int k), .fz (.int i), .fz (.int j'), .fz (.int (1 + zu.1)), .un, frzS s8], okm_eq ?_⟩, i, rfl, by dsimp only; omega, fun σ9 H9 k9 => ?_⟩
        · show OkM mTake [.fz zu.2, .fz (.int n), .fz (dT n n rows), .fz (.int k), .fz (.int i), .fz (.int j'), .fz (.int (1 + zu.1)), .un, frzS s8] _
          repeat' contradiction
          exact run_taken (by rw [si.1, sj.1]; exact Nat.le_refl _) (by omega) (by omega) ⟨rfl, rfl⟩
        · refine hnx _ _ [.io zu.2, .fz (.int n), .un, .fz (.int k), .fz (.int i), .fz (.int j'), .fz (.int (1 + zu.1)), .un, s8] _ ⟨zu.2, .fz (.int k), .fz (.int i), .fz (.int j'), .fz (.int (1 + zu.1)), s8, rfl, ⟨rfl, trivial⟩, ⟨rfl, trivial⟩, ⟨rfl, trivial⟩, ⟨rfl, trivial⟩, ⟨o8, f8⟩, rfl⟩ ?_
          unfold rowsL
          rw [if_neg hij, if_neg h9]
          exact k9
  · rintro e rows σ2 H2 ⟨d', s3, s4, s5, s6, s8, rfl, ⟨o3, f3⟩, ⟨o4, f4⟩, ⟨o5, f5⟩, ⟨o6, f6⟩, ⟨o8, f8⟩, hI⟩ kk
    refine ⟨_, _, kk, fun nw rv tr => ?_⟩
    have hl : looseF n d = (d', rows) := by rw [hI]; rfl
    rw [hl] at wp
    have q1 := rv.forget 1 (fun s h => by cases h; rfl)
    have t1 := rv.tr 1 (fun s h => by cases h; rfl)
    have q3 := q1.forget 3 (fun s h => by cases h; exact o3)
    have t3 := q1.tr 3 (fun s h => by cases h; exact o3)
    have q4 := q3.forget 4 (fun s h => by cases h; exact o4)
    have t4 := q3.tr 4 (fun s h => by cases h; exact o4)
    have q5 := q4.forget 5 (fun s h => by cases h; exact o5)
    have t5 := q4.tr 5 (fun s h => by cases h; exact o5)
    have q6 := q5.forget 6 (fun s h => by cases h; exact o6)
    have t6 := q5.tr 6 (fun s h => by cases h; exact o6)
    have q8 := q6.forget 8 (fun s h => by cases h; exact o8)
    have t8 := q6.tr 8 (fun s h => by cases h; exact o8)
    exact wp _ _ _ (tr.trans (t1.trans (t3.trans (t4.trans (t5.trans (t6.trans t8)))))) nw q8
end
end DV
-- K2E
namespace DV
open PySem PySem.Spec PyProof.Rows L2
local macro_rules | `(tactic| contradiction) => `(tactic| first
  | with_reducible refine okM_mod ?_
  | with_reducible refine okM_mul ?_
  | with_reducible refine okM_div ?_
  | with_reducible refine okM_pow ?_
  | with_reducible refine okM_ix ?_
  | with_reducible refine Eq.mpr okM_bin ?_
  | with_reducible refine okS_setW ?_
  | with_reducible refine okS_setIxW ?_
  | with_reducible refine okS_appW ?_
  | with_reducible refine okS_putFW ?_
  | with_reducible refine okS_parW ?_
  | with_reducible refine okM_popAtW ?_
  | with_reducible refine Eq.mpr okM_val ?_
  | with_reducible refine Eq.mpr okM_slot ?_
  | with_reducible refine Eq.mpr okM_C ?_
  | with_reducible refine Eq.mpr okM_cons ?_
  | with_reducible refine Eq.mpr okM_nil ?_
  | with_reducible refine Eq.mpr okM_call ?_
  | with_reducible refine Eq.mpr okM_var ?_
  | with_reducible refine Eq.mpr okM_un ?_
  | with_reducible refine Eq.mpr okM_list ?_
  | with_reducible refine Eq.mpr okM_tup ?_
  | with_reducible refine Eq.mpr okM_sl ?_
  | with_reducible refine Eq.mpr okM_part ?_
  | with_reducible refine Eq.mpr okM_noPart ?_
  | with_reducible refine Eq.mpr okM_cmpT ?_
  | with_reducible refine Eq.mpr okM_cmp ?_
  | with_reducible refine Eq.mpr okM_tru ?_
  | with_reducible refine Eq.mpr okM_not ?_
  | with_reducible refine Eq.mpr okM_and ?_
  | with_reducible refine Eq.mpr okM_or ?_
  | with_reducible refine Eq.mpr okM_if ?_
  | with_reducible refine Eq.mpr okM_andV ?_
  | with_reducible refine Eq.mpr okM_orV ?_
  | with_reducible refine Eq.mpr okM_iter ?_
  | with_reducible refine Eq.mpr okM_rg1 ?_
  | with_reducible refine Eq.mpr okM_rg2 ?_
  | with_reducible refine Eq.mpr okM_zip ?_
  | with_reducible refine Eq.mpr okM_lc ?_
  | with_reducible refine Eq.mpr okM_def ?_
  | with_reducible refine Eq.mpr okM_isi ?_
  | with_reducible refine Eq.mpr okM_ownL ?_
  | with_reducible refine Eq.mpr okM_pure ?_
  | with_reducible refine Eq.mpr okS_seq ?_
  | with_reducible refine Eq.mpr okS_nx ?_
  | with_reducible refine Eq.mpr okS_if ?_
  | with_reducible refine Eq.mpr okS_ret ?_
  | with_reducible refine Eq.mpr okS_retV ?_
  | with_reducible refine Eq.mpr okS_asg ?_
  | with_reducible refine Eq.mpr okS_for ?_
  | with_reducible refine Eq.mpr okS_expr ?_
  | with_reducible refine Eq.mpr okS_bk ?_
  | with_reducible refine Eq.mpr okS_ct ?_
  | with_reducible refine Eq.mpr okS_rtN ?_
  | with_reducible refine Eq.mpr okM_lend ?_
  | with_reducible refine Eq.mpr okM_make ?_
  | with_reducible refine Eq.mpr okM_enumA ?_
  | with_reducible refine Eq.mpr okM_join ?_
  | with_reducible refine setK_i (by simp only [set_un, set_fz, set_ow, set_s, Option.map_some, slOf_f, slOf_t, chg_ow, chg_io, chg_s, List.set_cons_zero, List.set_cons_succ, Int.reduceToNat, List.replicate_succ, List.replicate_zero, Nat.reduceSub, wipeE_cons, wipeE_nil]; first | done | rfl) ?_
  | with_reducible refine chgK_i (by simp only [set_un, set_fz, set_ow, set_s, Option.map_some, slOf_f, slOf_t, chg_ow, chg_io, chg_s, List.set_cons_zero, List.set_cons_succ, Int.reduceToNat, List.replicate_succ, List.replicate_zero, Nat.reduceSub, wipeE_cons, wipeE_nil]; first | done | rfl) ?_
  | with_reducible refine And.intro (GMod.mk (by omega)) ?_
  | with_reducible refine And.intro (GDiv.mk ⟨by omega, by omega⟩) ?_
  | with_reducible refine And.intro (GPow.mk ⟨by omega, by omega, by omega, by omega⟩) ?_
  | with_reducible refine And.intro (GMul.r ⟨by omega, by omega⟩) ?_
  | with_reducible refine And.intro (GMul.l ⟨by omega, by omega⟩) ?_
  | with_reducible refine split_T ?_
  | with_reducible refine split_F ?_
  | with_reducible refine split_dec (fun _ => ?_) (fun _ => ?_)
  | with_reducible refine split_neg ?_
  | with_reducible refine split_ne (fun _ => ?_) (fun _ => ?_)
  | with_reducible refine split_eqb (fun _ => ?_) (fun _ => ?_)
  | with_reducible refine And.intro (smI_of ⟨by omega, by omega⟩) ?_
  | refine ⟨_, ix_row (by first | exact seqR_d | exact seqR_t | assumption) (by omega), ?_⟩
  | refine ⟨_, ix_dM (by omega), ?_⟩
  | refine ⟨_, rfl, _, rfl, _, rfl, ?_⟩
  | refine ⟨_, rfl, _, rfl, ?_⟩
  | refine ⟨_, rfl, ⟨_, rfl⟩, ?_⟩
  | refine ⟨_, rfl, ?_⟩
  | refine ⟨_, _, rfl, ?_⟩
  | refine ⟨rfl, ?_⟩
  | exact smI_of ⟨by omega, by omega⟩
  | ((with_reducible show wipeE _ _ = _); rfl))
section
variable {e : Env} {P : D × Bool → Env → Prop}
/-! aside -/
def asideM (h : Nat) (a b : List (List Int)) : List (List Int) := (List.range h).map fun i => row a i ++ row b i
theorem run_aside {h w w2 : Nat} {a b : List (List Int)} (hh : h ≤ 100) (ha : a.length = h) (hb : b.length = h) (hra : ∀ r ∈ a, r.length ≤ 1000) (hrb : ∀ r ∈ b, r.length ≤ 1000) (k : P (dT h (w + w2) (asideM h a b), true) e) :
    OkM (mRun 3 2 mb__law_aside [.val (dT h w a), .val (dT h w2 b)]) e P := by
  refine run_v2 ?_
  unfold mb__law_aside
  repeat' contradiction
  refine ⟨by rw [rg_len, LIM_eq]; omega, okM_mapI (fun i => dR (row a i ++ row b i)) (fun i d hi => ?_) ?_⟩
  · obtain ⟨hi, rfl⟩ := rg0_get hi
    repeat' contradiction
    refine ⟨_, add_row ?_, rfl, rfl⟩
    have h1 := hra _ (row_mem (m := a) (i := i) (by omega))
    have h2 := hrb _ (row_mem (m := b) (i := i) (by omega))
    rw [LIM_eq]; omega
  · repeat' contradiction
    refine ⟨by simp [LIM_eq], ?_⟩
    simpa [dT, dM, asideM, rg_len, Function.comp_def] using k
/-! columns_of -/
def colsM (m : List (List Int)) (w : Nat) : List (List Int) := (List.range w).map fun j => m.map fun r => ent r j
theorem run_columns {d : D} {m : List (List Int)} {w : Nat} (hd : SeqM d m) (hw : w ≤ 1000) (hl : m.length ≤ 1000) (hr : ∀ r ∈ m, w ≤ r.length) (k : P (dM (colsM m w), true) e) :
    OkM (mRun 4 2 mb_columns_of [.val d, .val (.int w)]) e P := by
  refine run_v2 ?_
  unfold mb_columns_of
  repeat' contradiction
  refine ⟨by rw [rg_len, LIM_eq]; omega, okM_mapI (fun j => dR (m.map fun r => ent r j)) (fun j dj hj => ?_) ?_⟩
  · obtain ⟨hj, rfl⟩ := rg0_get hj
    obtain ⟨ds, h1, h2, h3⟩ := items_mat hd
    refine ⟨_, rfl, Eq.mpr okM_lc (Eq.mpr okM_iter (Eq.mpr okM_var ⟨(d, _), rfl, ds, h1, rfl, by rw [LIM_eq]; omega, okM_mapI (fun i => .int (ent (row m i) j)) (fun i x hi => ?_) ?_⟩))⟩
    · obtain ⟨r, hr1, hr2⟩ := h3 i x hi
      have hr3 := hr r (List.mem_of_getElem? hr1)
      have hr4 : row m i = r := by have := row_lt (lt_of_get hr1); rw [hr1] at this; exact (Option.some.inj this).symm
      repeat' contradiction
      rw [hr4]
      exact ⟨rfl, rfl⟩
    · refine ⟨?_, rfl⟩
      show D.lst _ = D.lst _
      congr 1
      rw [List.map_map]
      apply List.ext_getElem?
      intro i
      rw [List.getElem?_map, List.getElem?_map, h2]
      by_cases hi : i < m.length
      · rw [List.getElem?_range hi, row_lt hi]; rfl
      · rw [List.getElem?_eq_none (by simpa using hi), List.getElem?_eq_none (by simpa using hi)]; rfl
  · simpa [dM, colsM, rg_len, Function.comp_def] using k
/-! lead_row -/
theorem run_lead {m : List (List Int)} {c : Nat} (hr : ∀ r ∈ m, c < r.length) (k1 : (∀ r ∈ m, ent r c = 0) → P (.int (-1), false) e) (k2 : ∀ n : Nat, n < m.length → ent (row m n) c ≠ 0 → P (.int n, false) e) :
    OkM (mRun 4 2 mb_lead_row [.val (dM m), .val (.int c)]) e P := by
  refine run_v2 ?_
  unfold mb_lead_row
  repeat' contradiction
  refine okS_loop (fun i E => ∃ s1 s2, E = [.fz (dM m), .fz (.int c), s1, s2] ∧ Fr s1 ∧ Fr s2 ∧ ∀ j, j < i → ent (row m j) c = 0) ⟨_, _, rfl, trivial, trivial, fun j hj => absurd hj (Nat.not_lt_zero j)⟩ (fun i d E hi hI => ?_) fun E hI => ?_
  · obtain ⟨s1, s2, rfl, f1, f2, hz⟩ := hI
    obtain ⟨x, rfl, hx⟩ := enumD_get hi
    rw [List.getElem?_map] at hx
    have him : i < m.length := by
      cases q : m[i]? with
      | none => rw [q] at hx; cases hx
      | some r => exact lt_of_get q
    rw [row_lt him] at hx
    cases hx
    have hc := hr _ (row_mem him)
    refine ⟨[.fz (dM m), .fz (.int c), .fz (.int ((0 + i : Nat) : Int)), .fz (dR (row m i))], by simp [gTupD, gsCons, gPut, gsNil, set_fr f1, set_fr f2], ?_⟩
    repeat' contradiction
    · have hne : ent (row m i) c ≠ 0 := ‹_›
      show P (.int ((0 + i : Nat) : Int), false) e
      rw [Nat.zero_add]
      exact k2 i him hne
    · refine ⟨trivial, trivial, fun j hj => ?_⟩
      rcases Nat.lt_succ_iff_lt_or_eq.mp hj with z | rfl
      · exact hz j z
      · assumption
  · obtain ⟨s1, s2, rfl, f1, f2, hz⟩ := hI
    repeat' contradiction
    refine k1 fun r hrm => ?_
    obtain ⟨n, hn⟩ := List.getElem?_of_mem hrm
    have hl := lt_of_get hn
    have := row_lt hl
    rw [hn] at this
    rw [Option.some.inj this]
    exact hz n (by rw [enumD_len, List.length_map]; exact hl)
/-! is_zero -/
def pR (r : List Int) : PyData := .list (r.map PyData.int)
def pM (m : List (List Int)) : PyData := .list (m.map pR)
theorem toPyL_ints : ∀ (r : List Int), toPyL (r.map D.int) = some (r.map PyData.int)
  | [] => rfl
  | x :: r => by simp only [List.map_cons, toPyL, toPy, toPyL_ints r]
theorem toPy_dR (r : List Int) : toPy (dR r) = some (pR r) := by
  unfold dR pR
  simp only [toPy, toPyL_ints, Option.map_some]
theorem toPyL_rows : ∀ (m : List (List Int)), toPyL (m.map dR) = some (m.map pR)
  | [] => rfl
  | x :: r => by simp only [List.map_cons, toPyL, toPy_dR, toPyL_rows r]
theorem toPy_dM (m : List (List Int)) : toPy (dM m) = some (pM m) := by
  unfold dM pM
  simp only [toPy, toPyL_rows, Option.map_some]
theorem lay_ints : ∀ (r : List Int), PyData.canLayAll0 (r.map PyData.int) = true
  | [] => rfl
  | x :: r => by simp only [List.map_cons, PyData.canLayAll0, PyData.canLay0, lay_ints r, Bool.and_self]
theorem lay_rows : ∀ (m : List (List Int)), PyData.canLayAll0 (m.map pR) = true
  | [] => rfl
  | x :: r => by simp only [List.map_cons, PyData.canLayAll0, pR, PyData.canLay0, lay_ints x, lay_rows r, Bool.and_self]
theorem dep_ints : ∀ (r : List Int), PyData.depthAll (r.map PyData.int) = 0
  | [] => by simp only [List.map_nil, PyData.depthAll]
  | x :: r => by simp only [List.map_cons, PyData.depthAll, PyData.depth, dep_ints r, Nat.max_self]
theorem dep_rows : ∀ (m : List (List Int)), PyData.depthAll (m.map pR) ≤ 1
  | [] => by simp only [List.map_nil, PyData.depthAll]; omega
  | x :: r => by
    have := dep_rows r
    simp only [List.map_cons, PyData.depthAll, pR, PyData.depth, dep_ints x]
    omega
theorem shaped_pM (m : List (List Int)) : SeqAt.shaped (pM m) = true := by
  have := dep_rows m
  simp only [SeqAt.shaped, pM, PyData.canLay0, lay_rows, PyData.depth, Bool.true_and, decide_eq_true_eq]
  omega
theorem eq_emptyM (m : List (List Int)) : cEq (dM m) (.lst []) = some m.isEmpty := by
  show eqPy (dM m) (.lst []) = _
  have h2 : SeqAt.shaped (PyData.list []) = true := by decide +kernel
  unfold eqPy
  rw [toPy_dM, show toPy (.lst []) = some (.list []) by simp [toPy, toPyL]]
  dsimp only
  rw [if_pos ⟨shaped_pM m, h2⟩]
  unfold pM
  cases m with
  | nil => simp [PyData.eqv, PyData.eqvAll]
  | cons x r => simp [PyData.eqv, PyData.eqvAll]
theorem eq_emptyR (r : List Int) : cEq (dR r) (.lst []) = some r.isEmpty := by
  show eqPy (dR r) (.lst []) = _
  have h2 : SeqAt.shaped (PyData.list []) = true := by decide +kernel
  have h1 : SeqAt.shaped (pR r) = true := by
    simp only [SeqAt.shaped, pR, PyData.canLay0, lay_ints, PyData.depth, dep_ints, Bool.true_and, decide_eq_true_eq]; omega
  unfold eqPy
  rw [toPy_dR, show toPy (.lst []) = some (.list []) by simp [toPy, toPyL]]
  dsimp only
  rw [if_pos ⟨h1, h2⟩]
  unfold pR
  cases r with
  | nil => simp [PyData.eqv, PyData.eqvAll]
  | cons x r => simp [PyData.eqv, PyData.eqvAll]
theorem ne_same {h w : Nat} {m : List (List Int)} : cNe (dT h w m) (dT h w m) = some false := by
  have hp : toPy (dT h w m) = some (.list [.int h, .int w, pM m]) := by
    unfold dT
    simp only [toPy, toPyL, toPy_dM, Option.map_some]
  have hs : SeqAt.shaped (.list [.int h, .int w, pM m]) = true := by
    have := dep_rows m
    simp only [SeqAt.shaped, pM, PyData.canLay0, PyData.canLayAll0, lay_rows, PyData.depth, PyData.depthAll, Bool.true_and, Bool.and_true, decide_eq_true_eq]
    omega
  have he : cEq (dT h w m) (dT h w m) = some true := by
    show eqPy (dT h w m) (dT h w m) = _
    unfold eqPy
    rw [hp]
    dsimp only
    rw [if_pos ⟨hs, hs⟩, SeqAt.eqv_refl _ (by simp only [pM, PyData.canLay0, PyData.canLayAll0, lay_rows, Bool.true_and, Bool.and_true])]
  unfold cNe
  rw [he]; rfl
theorem toInts_ints : ∀ (r : List Int), toInts (r.map D.int) = some r
  | [] => rfl
  | x :: r => by
    simp only [List.map_cons]
    unfold toInts
    rw [toInts_ints r]; rfl
theorem max_pos {r : List Int} (h : r ≠ []) : oMax (dR r) = some (.int (maxI r), false) := by
  unfold oMax dR
  dsimp only
  rw [toInts_ints]
  show (if r = [] then none else _) = _
  rw [if_neg h]
theorem run_isZero {h w : Nat} {m : List (List Int)} (hl : m.length ≤ 1000) (hr : ∀ r ∈ m, r.length ≤ 1000) (k : P (.bl ((m.filter fun r => decide (0 < maxI (r ++ [0]))).isEmpty), false) e) : OkM (mRun 2 1 mb__law_is_zero [.val (dT h w m)]) e P := by
  refine run_v1 ?_
  unfold mb__law_is_zero
  repeat' contradiction
  refine ⟨by rw [LIM_eq]; simpa using Nat.le_trans hl (by decide), okM_filter (fun d => match d with | .lst xs => (match toInts xs with | some ns => decide (0 < maxI (ns ++ [0])) | none => false) | _ => false) id (fun d hd => ?_) ?_⟩
  · obtain ⟨r, hr1, rfl⟩ := List.mem_map.mp hd
    have hrl := hr r hr1
    repeat' contradiction
    refine ⟨by simp [LIM_eq], _, rfl, _, rfl, _, add_row (s := [0]) (by rw [LIM_eq]; simp; omega), ?_⟩
    refine Eq.mpr okM_nil ⟨_, rfl, _, max_pos (by simp), ?_⟩
    repeat' contradiction
    refine ⟨?_, fun _ => ?_, fun _ => rfl⟩
    · show _ = match toInts (r.map D.int) with | some ns => decide (0 < maxI (ns ++ [0])) | none => false
      rw [toInts_ints]
    · repeat' contradiction
  · repeat' contradiction
    refine ⟨by simp [LIM_eq], _, rfl, _, rfl, _, ?_, k⟩
    have e1 : (List.filter (fun d => match d with | D.lst xs => (match toInts xs with | some ns => decide (0 < maxI (ns ++ [0])) | none => false) | _ => false) (m.map dR)) = (m.filter fun r => decide (0 < maxI (r ++ [0]))).map dR := by
      rw [List.filter_map]
      congr 1
      apply List.filter_congr
      intro r _
      show (match toInts (r.map D.int) with | some ns => decide (0 < maxI (ns ++ [0])) | none => false) = _
      rw [toInts_ints]
    show cEq (.lst (List.map id _)) (.lst []) = _
    rw [List.map_id, e1]
    exact eq_emptyM _
end
end DV
-- K2F
namespace DV
open PySem PySem.Spec PyProof.Rows L2
open Lin
local macro_rules | `(tactic| contradiction) => `(tactic| first
  | with_reducible refine okM_mod ?_
  | with_reducible refine okM_mul ?_
  | with_reducible refine okM_div ?_
  | with_reducible refine okM_pow ?_
  | with_reducible refine okM_ix ?_
  | with_reducible refine Eq.mpr okM_bin ?_
  | with_reducible refine okS_setW ?_
  | with_reducible refine okS_setIxW ?_
  | with_reducible refine okS_appW ?_
  | with_reducible refine okS_putFW ?_
  | with_reducible refine okS_parW ?_
  | with_reducible refine okM_popAtW ?_
  | with_reducible refine Eq.mpr okM_val ?_
  | with_reducible refine Eq.mpr okM_slot ?_
  | with_reducible refine Eq.mpr okM_C ?_
  | with_reducible refine Eq.mpr okM_cons ?_
  | with_reducible refine Eq.mpr okM_nil ?_
  | with_reducible refine Eq.mpr okM_call ?_
  | with_reducible refine Eq.mpr okM_var ?_
  | with_reducible refine Eq.mpr okM_un ?_
  | with_reducible refine Eq.mpr okM_list ?_
  | with_reducible refine Eq.mpr okM_tup ?_
  | with_reducible refine Eq.mpr okM_sl ?_
  | with_reducible refine Eq.mpr okM_part ?_
  | with_reducible refine Eq.mpr okM_noPart ?_
  | with_reducible refine Eq.mpr okM_cmpT ?_
  | with_reducible refine Eq.mpr okM_cmp ?_
  | with_reducible refine Eq.mpr okM_tru ?_
  | with_reducible refine Eq.mpr okM_not ?_
  | with_reducible refine Eq.mpr okM_and ?_
  | with_reducible refine Eq.mpr okM_or ?_
  | with_reducible refine Eq.mpr okM_if ?_
  | with_reducible refine Eq.mpr okM_andV ?_
  | with_reducible refine Eq.mpr okM_orV ?_
  | with_reducible refine Eq.mpr okM_iter ?_
  | with_reducible refine Eq.mpr okM_rg1 ?_
  | with_reducible refine Eq.mpr okM_rg2 ?_
  | with_reducible refine Eq.mpr okM_zip ?_
  | with_reducible refine Eq.mpr okM_lc ?_
  | with_reducible refine Eq.mpr okM_def ?_
  | with_reducible refine Eq.mpr okM_isi ?_
  | with_reducible refine Eq.mpr okM_ownL ?_
  | with_reducible refine Eq.mpr okM_pure ?_
  | with_reducible refine Eq.mpr okS_seq ?_
  | with_reducible refine Eq.mpr okS_nx ?_
  | with_reducible refine Eq.mpr okS_if ?_
  | with_reducible refine Eq.mpr okS_ret ?_
  | with_reducible refine Eq.mpr okS_retV ?_
  | with_reducible refine Eq.mpr okS_asg ?_
  | with_reducible refine Eq.mpr okS_for ?_
  | with_reducible refine Eq.mpr okS_expr ?_
  | with_reducible refine Eq.mpr okS_bk ?_
  | with_reducible refine Eq.mpr okS_ct ?_
  | with_reducible refine Eq.mpr okS_rtN ?_
  | with_reducible refine Eq.mpr okM_lend ?_
  | with_reducible refine Eq.mpr okM_make ?_
  | with_reducible refine Eq.mpr okM_enumA ?_
  | with_reducible refine Eq.mpr okM_join ?_
  | with_reducible refine setK_i (by simp only [set_un, set_fz, set_ow, set_s, Option.map_some, slOf_f, slOf_t, chg_ow, chg_io, chg_s, List.set_cons_zero, List.set_cons_succ, Int.reduceToNat, List.replicate_succ, List.replicate_zero, Nat.reduceSub, wipeE_cons, wipeE_nil]; first | done | rfl) ?_
  | with_reducible refine chgK_i (by simp only [set_un, set_fz, set_ow, set_s, Option.map_some, slOf_f, slOf_t, chg_ow, chg_io, chg_s, List.set_cons_zero, List.set_cons_succ, Int.reduceToNat, List.replicate_succ, List.replicate_zero, Nat.reduceSub, wipeE_cons, wipeE_nil]; first | done | rfl) ?_
  | with_reducible refine And.intro (GMod.mk (by omega)) ?_
  | with_reducible refine And.intro (GDiv.mk ⟨by omega, by omega⟩) ?_
  | with_reducible refine And.intro (GPow.mk ⟨by omega, by omega, by omega, by omega⟩) ?_
  | with_reducible refine And.intro (GMul.r ⟨by omega, by omega⟩) ?_
  | with_reducible refine And.intro (GMul.l ⟨by omega, by omega⟩) ?_
  | with_reducible refine split_T ?_
  | with_reducible refine split_F ?_
  | with_reducible refine split_dec (fun _ => ?_) (fun _ => ?_)
  | with_reducible refine split_neg ?_
  | with_reducible refine split_ne (fun _ => ?_) (fun _ => ?_)
  | with_reducible refine split_eqb (fun _ => ?_) (fun _ => ?_)
  | with_reducible refine And.intro (smI_of ⟨by omega, by omega⟩) ?_
  | refine ⟨_, ix_row (by first | exact seqR_d | exact seqR_t | assumption) (by omega), ?_⟩
  | refine ⟨_, ix_dM (by omega), ?_⟩
  | refine ⟨_, rfl, _, rfl, _, rfl, ?_⟩
  | refine ⟨_, rfl, _, rfl, ?_⟩
  | refine ⟨_, rfl, ⟨_, rfl⟩, ?_⟩
  | refine ⟨_, rfl, ?_⟩
  | refine ⟨_, _, rfl, ?_⟩
  | refine ⟨rfl, ?_⟩
  | refine And.intro (show List.length _ ≤ LIM by simp only [List.length_cons, List.length_nil, List.length_map, List.length_range, rg_len, LIM_eq]; omega) ?_
  | exact smI_of ⟨by omega, by omega⟩
  | ((with_reducible show wipeE _ _ = _); rfl))
section
variable {e : Env} {P : D × Bool → Env → Prop}
/-! slices -/
theorem cut_take {α : Type} {xs : List α} {c : Nat} : cut xs none (some (c : Int)) = xs.take c := by
  unfold cut
  rw [HT.sIx_nat, HT.sIx_none, List.drop_zero, Nat.sub_zero]
  by_cases h : c ≤ xs.length
  · rw [Nat.min_eq_left h]
  · rw [Nat.min_eq_right (by omega), List.take_length, List.take_of_length_le (by omega)]
theorem cut_drop {α : Type} {xs : List α} {c : Nat} : cut xs (some (c : Int)) none = xs.drop c := by
  unfold cut
  rw [HT.sIx_nat, HT.sIx_none]
  by_cases h : c ≤ xs.length
  · rw [Nat.min_eq_left h, List.take_of_length_le (by rw [List.length_drop]; omega)]
  · rw [Nat.min_eq_right (by omega), List.drop_length, List.drop_of_length_le (by omega)]; simp
/-! cleared -/
def clrP (t : List Int) (c : Nat) (r : List Int) : List Int := if ent r c = 0 then r else r.take c ++ (List.range t.length).map fun i => (ent r (c + i) - ent r c * ent t i) % 1000003
theorem run_cleared {r t : List Int} {c : Nat} (hl : r.length = c + t.length) (ht : 0 < t.length) (hz : r.length ≤ 1000) (hr : Red r) (htr : Red t) (k : ∀ fl, P (dR (clrP t c r), fl) e) : OkM (mRun 6 3 mb_cleared [.val (dR r), .val (dR t), .val (.int c)]) e P := by
  refine run_v3 ?_
  have hb := ent_red hr c
  unfold mb_cleared
  repeat' contradiction
  · have e1 : clrP t c r = r := by unfold clrP; rw [if_pos ‹_›]
    rw [e1] at k
    exact k _
  · rename_i hne
    rw [cut_take, cut_drop]
    have hlen : (zipD (List.drop c (r.map D.int)) (t.map D.int)).length = t.length := by
      rw [zipD_len, List.length_drop, List.length_map, List.length_map]; omega
    refine ⟨by rw [hlen, LIM_eq]; omega, okM_mapI (fun i => .int ((ent r (c + i) - ent r c * ent t i) % 1000003)) (fun i d hi => ?_) ?_⟩
    · obtain ⟨x, y, rfl, hx, hy⟩ := zipD_get hi
      have hil : i < t.length := by have := lt_of_get hi; omega
      rw [List.getElem?_drop, List.getElem?_map, ent_lt (by omega)] at hx
      rw [List.getElem?_map, ent_lt hil] at hy
      cases hx; cases hy
      have hb2 := ent_red htr i
      refine ⟨_, rfl, ?_⟩
      repeat' contradiction
    · rw [hlen]
      repeat' contradiction
      have e1 : opAdd (D.lst ((r.map D.int).take c)) (D.lst ((List.range t.length).map fun i => D.int ((ent r (c + i) - ent r c * ent t i) % 1000003))) = some (dR (clrP t c r), true) := by
        unfold clrP
        rw [if_neg hne]
        show opAdd _ _ = _
        rw [add_lst, if_pos (by rw [LIM_eq]; simp; omega)]
        unfold dR
        rw [List.map_append, List.map_take, List.map_map]
        rfl
      exact ⟨_, e1, k _⟩
/-! inverse -/
theorem okS_while {f : Env → Nat} {mt : M Bool} {mb : MS} {nx : Env → Prop} {rt : D → Bool → Env → Prop} {bk ct : Env → Prop} (h : OkS (wLoop mt mb (f e)) e nx rt bk ct) : OkS (sWhile f mt mb) e nx rt bk ct := by
  unfold OkS at *
  exact h
theorem ite_dec {p A B : Prop} [Decidable p] (h1 : p → A) (h2 : ¬ p → B) : if decide p = true then A else B := by
  by_cases h : p
  · rw [if_pos (decide_eq_true h)]; exact h1 h
  · rw [if_neg (by rw [decide_eq_false h]; exact Bool.false_ne_true)]; exact h2 h
def muI (e : DV.Env) : Nat := match e[1]? with
  | some (Sl.fz (D.int l)) => l.toNat
  | _ => 0
theorem run_inverse {n : Int} (hn : ¬ Eqv n 0) (k : ∀ x, 0 ≤ x → x < 1000003 → Eqv (n * x) 1 → P (.int x, false) e) : OkM (mRun 6 1 mb_inverse [.val (.int n)]) e P := by
  refine run_v1 ?_
  unfold mb_inverse
  repeat' contradiction
  have hn' : n % 1000003 ≠ 0 := fun z => hn (Eqv.zero_iff.mpr z)
  obtain ⟨l0, hl0⟩ : ∃ l : Nat, n % 1000003 = l := ⟨(n % 1000003).toNat, by omega⟩
  refine okS_while (okS_wloop (fun E => ∃ (l h : Nat) (a b : Int) (s : Sl), E = [.fz (.int n), .fz (.int l), .fz (.int h), .fz (.int a), .fz (.int b), s] ∧ Fr s ∧ 1 ≤ l ∧ l < h ∧ h ≤ 1000003 ∧ Nat.gcd l h = 1 ∧ Eqv l (a * n) ∧ Eqv h (b * n)) muI (fun E hI => ?_) _ _ ?_ ?_)
  · obtain ⟨l, h, a, b, s, rfl, fs, h1, h2, h3, g, q1, q2⟩ := hI
    have hf : 0 ≤ (h : Int) / (l : Int) ∧ (h : Int) / (l : Int) ≤ 1000003 := ⟨Int.ediv_nonneg (by omega) (by omega), by
      have := Int.ediv_le_self (l : Int) (show (0 : Int) ≤ (h : Int) by omega)
      omega⟩
    refine Eq.mpr okM_cmpT (Eq.mpr okM_slot ⟨_, rfl, Eq.mpr okM_val (Eq.mpr okM_C ⟨_, rfl, _, rfl, _, rfl, ?_⟩)⟩)
    refine ite_dec (p := (1 : Int) < (l : Int)) (fun hl1 => ?_) (fun hl1 => ?_)
    · skip
      have e5 : setSl [Sl.fz (D.int n), .fz (.int l), .fz (.int h), .fz (.int a), .fz (.int b), s] 5 (.fz (.int ((h : Int) / l))) = some [Sl.fz (D.int n), .fz (.int l), .fz (.int h), .fz (.int a), .fz (.int b), .fz (.int ((h : Int) / l))] := by simp [set_fr fs]
      refine Eq.mpr okS_seq (okS_setW (okM_div (Eq.mpr okM_slot ⟨_, rfl, Eq.mpr okM_slot ⟨_, rfl, _, rfl, _, rfl, ⟨⟨by omega, by omega⟩⟩, setK_i e5 ?_⟩⟩)))
      repeat' contradiction
      have em : (h : Int) - (h : Int) / (l : Int) * (l : Int) = ((h % l : Nat) : Int) := by
        have := Int.emod_def (h : Int) (l : Int)
        rw [Int.mul_comm] at this
        omega
      have hml : h % l < l := Nat.mod_lt _ (by omega)
      have g' : Nat.gcd (h % l) l = 1 := by rw [← Nat.gcd_rec]; exact g
      have hm1 : 1 ≤ h % l := by
        rcases Nat.eq_zero_or_pos (h % l) with z | z
        · rw [z, Nat.gcd_zero_left] at g'; omega
        · exact z
      refine ⟨⟨h % l, l, b - (h : Int) / l * a, a, .fz (.int ((h : Int) / l)), by rw [em], trivial, hm1, hml, by omega, g', ?_, q1⟩, ?_⟩
      · rw [← em, Int.sub_mul, Int.mul_assoc]
        exact q2.sub (Eqv.mul (.refl _) q1)
      · unfold muI
        rw [em]
        show ((h % l : Nat) : Int).toNat < (l : Int).toNat
        omega
    · have : l = 1 := by omega
      subst this
      repeat' contradiction
      refine k _ (by omega) (by omega) ?_
      refine (Eqv.mul (.refl n) (Eqv.mod a)).trans ?_
      rw [Int.mul_comm]
      exact q1.symm
  · show (n % 1000003).toNat < 1000010
    omega
  · refine ⟨l0, 1000003, 1, 0, .un, by rw [hl0]; rfl, trivial, by omega, by omega, by omega, ?_, ?_, ?_⟩
    · exact coprime (by omega)
    · rw [← hl0, Int.one_mul]; exact Eqv.mod n
    · rw [Int.zero_mul]; exact ⟨1, by omega⟩
end
end DV
-- K2G
namespace DV
open PySem PySem.Spec PyProof.Rows L2
open Lin
local macro_rules | `(tactic| contradiction) => `(tactic| first
  | with_reducible refine okM_mod ?_
  | with_reducible refine okM_mul ?_
  | with_reducible refine okM_div ?_
  | with_reducible refine okM_pow ?_
  | with_reducible refine okM_ix ?_
  | with_reducible refine Eq.mpr okM_bin ?_
  | with_reducible refine okS_setW ?_
  | with_reducible refine okS_setIxW ?_
  | with_reducible refine okS_appW ?_
  | with_reducible refine okS_putFW ?_
  | with_reducible refine okS_parW ?_
  | with_reducible refine okM_popAtW ?_
  | with_reducible refine Eq.mpr okM_val ?_
  | with_reducible refine Eq.mpr okM_slot ?_
  | with_reducible refine Eq.mpr okM_C ?_
  | with_reducible refine Eq.mpr okM_cons ?_
  | with_reducible refine Eq.mpr okM_nil ?_
  | with_reducible refine Eq.mpr okM_call ?_
  | with_reducible refine Eq.mpr okM_var ?_
  | with_reducible refine Eq.mpr okM_un ?_
  | with_reducible refine Eq.mpr okM_list ?_
  | with_reducible refine Eq.mpr okM_tup ?_
  | with_reducible refine Eq.mpr okM_sl ?_
  | with_reducible refine Eq.mpr okM_part ?_
  | with_reducible refine Eq.mpr okM_noPart ?_
  | with_reducible refine Eq.mpr okM_cmpT ?_
  | with_reducible refine Eq.mpr okM_cmp ?_
  | with_reducible refine Eq.mpr okM_tru ?_
  | with_reducible refine Eq.mpr okM_not ?_
  | with_reducible refine Eq.mpr okM_and ?_
  | with_reducible refine Eq.mpr okM_or ?_
  | with_reducible refine Eq.mpr okM_if ?_
  | with_reducible refine Eq.mpr okM_andV ?_
  | with_reducible refine Eq.mpr okM_orV ?_
  | with_reducible refine Eq.mpr okM_iter ?_
  | with_reducible refine Eq.mpr okM_rg1 ?_
  | with_reducible refine Eq.mpr okM_rg2 ?_
  | with_reducible refine Eq.mpr okM_zip ?_
  | with_reducible refine Eq.mpr okM_lc ?_
  | with_reducible refine Eq.mpr okM_def ?_
  | with_reducible refine Eq.mpr okM_isi ?_
  | with_reducible refine Eq.mpr okM_ownL ?_
  | with_reducible refine Eq.mpr okM_pure ?_
  | with_reducible refine Eq.mpr okS_seq ?_
  | with_reducible refine Eq.mpr okS_nx ?_
  | with_reducible refine Eq.mpr okS_if ?_
  | with_reducible refine Eq.mpr okS_ret ?_
  | with_reducible refine Eq.mpr okS_retV ?_
  | with_reducible refine Eq.mpr okS_asg ?_
  | with_reducible refine Eq.mpr okS_for ?_
  | with_reducible refine Eq.mpr okS_expr ?_
  | with_reducible refine Eq.mpr okS_bk ?_
  | with_reducible refine Eq.mpr okS_ct ?_
  | with_reducible refine Eq.mpr okS_rtN ?_
  | with_reducible refine Eq.mpr okM_lend ?_
  | with_reducible refine Eq.mpr okM_make ?_
  | with_reducible refine Eq.mpr okM_enumA ?_
  | with_reducible refine Eq.mpr okM_join ?_
  | with_reducible refine setK_i (by simp only [set_un, set_fz, set_ow, set_s, Option.map_some, slOf_f, slOf_t, chg_ow, chg_io, chg_s, List.set_cons_zero, List.set_cons_succ, Int.reduceToNat, List.replicate_succ, List.replicate_zero, Nat.reduceSub, wipeE_cons, wipeE_nil]; first | done | rfl) ?_
  | with_reducible refine chgK_i (by simp only [set_un, set_fz, set_ow, set_s, Option.map_some, slOf_f, slOf_t, chg_ow, chg_io, chg_s, List.set_cons_zero, List.set_cons_succ, Int.reduceToNat, List.replicate_succ, List.replicate_zero, Nat.reduceSub, wipeE_cons, wipeE_nil]; first | done | rfl) ?_
  | with_reducible refine And.intro (GMod.mk (by omega)) ?_
  | with_reducible refine And.intro (GDiv.mk ⟨by omega, by omega⟩) ?_
  | with_reducible refine And.intro (GPow.mk ⟨by omega, by omega, by omega, by omega⟩) ?_
  | with_reducible refine And.intro (GMul.r ⟨by omega, by omega⟩) ?_
  | with_reducible refine And.intro (GMul.l ⟨by omega, by omega⟩) ?_
  | with_reducible refine split_T ?_
  | with_reducible refine split_F ?_
  | with_reducible refine split_dec (fun _ => ?_) (fun _ => ?_)
  | with_reducible refine split_neg ?_
  | with_reducible refine split_ne (fun _ => ?_) (fun _ => ?_)
  | with_reducible refine split_eqb (fun _ => ?_) (fun _ => ?_)
  | with_reducible refine And.intro (smI_of ⟨by omega, by omega⟩) ?_
  | refine ⟨_, ix_row (by first | exact seqR_d | exact seqR_t | assumption) (by omega), ?_⟩
  | refine ⟨_, ix_dM (by omega), ?_⟩
  | refine ⟨_, rfl, _, rfl, _, rfl, ?_⟩
  | refine ⟨_, rfl, _, rfl, ?_⟩
  | refine ⟨_, rfl, ⟨_, rfl⟩, ?_⟩
  | refine ⟨_, rfl, ?_⟩
  | refine ⟨_, _, rfl, ?_⟩
  | refine ⟨rfl, ?_⟩
  | refine And.intro (show List.length _ ≤ LIM by simp only [List.length_cons, List.length_nil, List.length_map, List.length_range, rg_len, LIM_eq]; omega) ?_
  | exact smI_of ⟨by omega, by omega⟩
  | ((with_reducible show wipeE _ _ = _); rfl))
theorem ent_append {a b : List Int} {j : Nat} : ent (a ++ b) j = if j < a.length then ent a j else ent b (j - a.length) := by
  unfold ent
  simp only [List.getD_eq_getElem?_getD]
  by_cases h : j < a.length
  · rw [List.getElem?_append_left h, if_pos h]
  · rw [List.getElem?_append_right (by omega), if_neg h]
theorem ent_take {a : List Int} {c j : Nat} (h : j < c) : ent (a.take c) j = ent a j := by
  unfold ent
  simp only [List.getD_eq_getElem?_getD, List.getElem?_take_of_lt h]
theorem ent_drop {a : List Int} {c j : Nat} : ent (a.drop c) j = ent a (c + j) := by
  unfold ent
  simp only [List.getD_eq_getElem?_getD, List.getElem?_drop]
theorem ent_rep {n j : Nat} {x : Int} (h : j < n) : ent (List.replicate n x) j = x := by
  unfold ent
  simp only [List.getD_eq_getElem?_getD, List.getElem?_replicate, if_pos h, Option.getD_some]
theorem ent_range {n j : Nat} {f : Nat → Int} (h : j < n) : ent ((List.range n).map f) j = f j := by
  unfold ent
  simp only [List.getD_eq_getElem?_getD, List.getElem?_map, List.getElem?_range h, Option.map_some, Option.getD_some]
theorem ent_map {a : List Int} {f : Int → Int} {j : Nat} (h : j < a.length) : ent (a.map f) j = f (ent a j) := by
  unfold ent
  simp only [List.getD_eq_getElem?_getD, List.getElem?_map, List.getElem?_eq_getElem h, Option.map_some, Option.getD_some]
theorem clrP_ok {w c : Nat} {t r : List Int} (hc : c < w) (ht : t.length = w - c) (hr : r.length = w) (hrr : Red r) : Clr w c (List.replicate c 0 ++ t) r (clrP t c r) := by
  unfold clrP
  by_cases z : ent r c = 0
  · rw [if_pos z]
    exact ⟨hr, hrr, fun j hj => by rw [z, Int.zero_mul]; exact .of_eq (by omega)⟩
  · rw [if_neg z]
    refine ⟨by rw [List.length_append, List.length_take, List.length_map, List.length_range]; omega, fun x hx => ?_, fun j hj => ?_⟩
    · rcases List.mem_append.mp hx with hx | hx
      · exact hrr x (List.mem_of_mem_take hx)
      · obtain ⟨i, _, rfl⟩ := List.mem_map.mp hx; omega
    · rw [ent_append, ent_append, List.length_take, List.length_replicate, Nat.min_eq_left (by omega)]
      by_cases hjc : j < c
      · rw [if_pos hjc, if_pos hjc, ent_take hjc, ent_rep hjc, Int.mul_zero]; exact .of_eq (by omega)
      · rw [if_neg hjc, if_neg hjc, ent_range (by omega), show c + (j - c) = j by omega]
        exact Eqv.mod _
/-! unit_tail -/
def tailP (r : List Int) (c : Nat) (f : Int) : List Int := (r.drop c).map fun n => n * f % 1000003
section
variable {e : Env} {P : D × Bool → Env → Prop}
theorem run_unit_tail {r : List Int} {c : Nat} (hc : c < r.length) (hz : r.length ≤ 1000) (hr : Red r) (hne : ent r c ≠ 0) (k : ∀ f, Eqv (ent r c * f) 1 → P (dR (tailP r c f), true) e) : OkM (mRun 4 2 mb_unit_tail [.val (dR r), .val (.int c)]) e P := by
  refine run_v2 ?_
  unfold mb_unit_tail
  repeat' contradiction
  refine run_inverse (fun z => hne (z.red (ent_red hr c) ⟨by decide, by decide⟩)) fun f h0 h1 hf => ?_
  repeat' contradiction
  rw [cut_drop]
  refine ⟨by rw [LIM_eq, List.length_drop, List.length_map]; omega, okM_mapI (fun i => .int (ent r (c + i) * f % 1000003)) (fun i d hi => ?_) ?_⟩
  · rw [List.getElem?_drop, List.getElem?_map] at hi
    have hil : c + i < r.length := by
      cases q : r[c + i]? with
      | none => rw [q] at hi; cases hi
      | some x => exact lt_of_get q
    rw [ent_lt hil] at hi
    cases hi
    have hb := ent_red hr (c + i)
    refine ⟨_, rfl, ?_⟩
    repeat' contradiction
  · have e1 : D.lst ((List.range (List.drop c (r.map D.int)).length).map fun i => D.int (ent r (c + i) * f % 1000003)) = dR (tailP r c f) := by
      unfold dR tailP
      congr 1
      rw [List.map_map]
      apply List.ext_getElem?
      intro i
      rw [List.getElem?_map, List.getElem?_map, List.length_drop, List.length_map, List.getElem?_drop]
      by_cases hi : i < r.length - c
      · rw [List.getElem?_range hi, ent_lt (by omega)]; rfl
      · rw [List.getElem?_eq_none (by simpa using hi), List.getElem?_eq_none (by omega)]; rfl
    show P (D.lst _, true) e
    rw [e1]
    exact k f hf
/-! comprehensions whose slots stay in R -/
theorem okM_mapR {P : List D → Env → Prop} {g : Gt} {me : M (D × Bool)} {vs : List Nat} {ds : List D} (F : Nat → D) (R : DV.Env → Prop) (h0 : R e) (hs : ∀ (i : Nat) (d : D) (E : DV.Env), ds[i]? = some d → R E → ∃ e1, g d E = some e1 ∧ OkM me e1 fun x e3 => x.1 = F i ∧ R (wipeE e3 vs)) (hd : ∀ E, R E → P ((List.range ds.length).map F) E) : OkM (cLoop g mYes me vs ds) e P := by
  refine okM_cloop (fun i acc e' => R e' ∧ acc = (List.range i).map F) [] ⟨h0, rfl⟩ (fun i d acc e' hi ⟨h1, h2⟩ => ?_) fun xs e' ⟨h1, h2⟩ => ?_
  · subst h2
    obtain ⟨e1, h3, h4⟩ := hs i d e' hi h1
    refine ⟨e1, h3, ?_⟩
    show OkM (M.pure true) e1 _
    rw [okM_pure]
    refine ⟨fun _ => h4.mono fun x e3 ⟨h5, h6⟩ => ⟨h6, ?_⟩, fun z => by cases z⟩
    rw [h5, List.range_succ, List.map_append]; rfl
  · rw [List.nil_append] at h2
    rw [h2]; exact hd _ h1
/-! echelon -/
def pivD (P : List Nat) : D := .lst (P.map fun (q : Nat) => D.int (q : Int))
theorem map_dR {m : List (List Int)} {f : List Int → List Int} {n : Nat} (hn : n = m.length) : D.lst ((List.range n).map fun i => dR (f (row m i))) = dM (m.map f) := by
  subst hn
  unfold dM
  congr 1
  rw [List.map_map]
  apply List.ext_getElem?
  intro i
  rw [List.getElem?_map, List.getElem?_map]
  by_cases hi : i < m.length
  · rw [List.getElem?_range hi, row_lt hi]; rfl
  · rw [List.getElem?_eq_none (by simpa using hi), List.getElem?_eq_none (by omega)]; rfl
theorem seq_nat {n l : Nat} (h : n < l) : seqIndex? (n : Int) l = some n := by
  unfold seqIndex?
  have h1 : ¬ ((n : Int) < 0) := by omega
  simp only [h1, if_false]
  have h2 : (decide (0 ≤ (n : Int)) && decide ((n : Int) < (l : Int))) = true := by simp; omega
  simp [h2]
  omega
theorem er_map {α β : Type} {f : α → β} : ∀ {l : List α} {n : Nat}, (l.map f).eraseIdx n = (l.eraseIdx n).map f
  | [], n => by simp
  | x :: xs, 0 => by simp
  | x :: xs, n + 1 => by simp only [List.map_cons, List.eraseIdx_cons_succ, er_map]
theorem rep_mul {i : Nat} (h : i ≤ 1000) : opMul (.lst [.int 0]) (.int (i : Int)) = some (dR (List.replicate i 0), true) := by
  unfold opMul
  dsimp only
  rw [if_pos ⟨by omega, by omega, by rw [Int.toNat_natCast, LIM_eq, List.length_singleton]; omega⟩]
  have e : ∀ i : Nat, (List.replicate i [D.int 0]).flatten = List.replicate i (D.int 0) := fun i => by
    induction i with
    | zero => rfl
    | succ i ih => rw [List.replicate_succ, List.replicate_succ, List.flatten_cons, ih]; rfl
  unfold dR
  rw [Int.toNat_natCast, List.map_replicate, e]
theorem map_dR0 {m : List (List Int)} : D.lst ((List.range m.length).map fun i => dR (row m i)) = dM m := by
  have := map_dR (m := m) (f := id) rfl
  rw [List.map_id] at this
  exact this
theorem run_echelon {d : D} {m : List (List Int)} {w : Nat} (hd : SeqM d m) (hS : Shp w m) (hw : w ≤ 100) (hl : m.length ≤ 100) (k : ∀ done piv, RR w w done piv → (∀ x, Null w done x ↔ Null w m x) → piv.length ≤ m.length → P (.tup [dM done, pivD piv], false) e) :
    OkM (mRun 9 2 mb_echelon [.val d, .val (.int w)]) e P := by
  refine run_v2 ?_
  unfold mb_echelon
  obtain ⟨ds, h1, h2, h3⟩ := items_mat hd
  refine Eq.mpr okS_seq (okS_setW (Eq.mpr okM_lc (Eq.mpr okM_iter (Eq.mpr okM_var ⟨(d, _), rfl, ds, h1, rfl, by rw [LIM_eq]; omega, okM_mapI (fun i => dR (row m i)) (fun i x hi => ?_) ?_⟩))))
  · obtain ⟨r, hr1, hr2⟩ := h3 i x hi
    have hr4 : row m i = r := by have := row_lt (lt_of_get hr1); rw [hr1] at this; exact (Option.some.inj this).symm
    refine ⟨_, rfl, ?_⟩
    refine Eq.mpr okM_call (Eq.mpr okM_cons (Eq.mpr okM_slot ⟨_, rfl, Eq.mpr okM_nil ⟨_, rfl, _, (?_ : f1 oList _ = some (dR r, true)), ?_⟩⟩))
    · rcases hr2 with rfl | rfl <;> rfl
    · rw [hr4]; exact ⟨rfl, rfl⟩
  · rw [h2, map_dR0]
    repeat' contradiction
    refine okS_loop (fun i E => ∃ left done piv s6 s7 s8, E = [.fz d, .fz (.int w), .ow (dM left), .un, .ow (dM done), .ow (pivD piv), s6, s7, s8] ∧ Fr s6 ∧ Fr s7 ∧ Fr s8 ∧ i ≤ w ∧ El w i m left done piv) ⟨m, [], [], .un, .un, .un, rfl, trivial, trivial, trivial, Nat.zero_le _, El.start hS⟩ (fun i x E hi hI => ?_) fun E hI => ?_
    · obtain ⟨left, done, piv, s6, s7, s8, rfl, f6, f7, f8, hiw, EL⟩ := hI
      obtain ⟨hi, rfl⟩ := rg0_get hi
      have hi' : i < w := by omega
      refine ⟨_, (by simp [set_fr f6]; rfl), ?_⟩
      repeat' contradiction
      have hsh := EL.shpL
      refine run_lead (fun r hr => by rw [(hsh r hr).1]; exact hi') (fun hz => ?_) (fun n hn hne => ?_)
      · refine ⟨rfl, setK_i (by simp [set_fr f7]; rfl) ?_⟩
        repeat' contradiction
        exact ⟨left, done, piv, _, _, _, rfl, trivial, trivial, f8, by omega, EL.skip hz⟩
      · refine ⟨rfl, setK_i (by simp [set_fr f7]; rfl) ?_⟩
        repeat' contradiction
        · have hrow := hsh _ (row_mem hn)
          have cnt := EL.cnt
          refine ⟨_, _, n, dR (row left n), rfl, rfl, ⟨by omega, by omega⟩, ?_, by rw [List.getElem?_map, row_lt hn]; rfl, ?_⟩
          · rw [List.length_map]; exact seq_nat hn
          · repeat' contradiction
            refine run_unit_tail (by rw [hrow.1]; exact hi') (by rw [hrow.1]; omega) hrow.2 hne fun f hf => ?_
            generalize ht : tailP (row left n) i f = t
            have tl : t.length = w - i := by rw [← ht]; unfold tailP; rw [List.length_map, List.length_drop, hrow.1]
            have tred : Red t := fun x hx => by
              rw [← ht] at hx
              obtain ⟨y, _, rfl⟩ := List.mem_map.mp hx
              omega
            have step : ∀ (A B s : Sl) (r : List Int), r.length = w → Red r → (s = .ow (dR t) ∨ s = .fz (dR t)) → OkM (mDef 6 3 mb_cleared [] (mCons (mVal (mVar 3)) (mCons (mVal (mVar 8)) (mCons (mVal (mVar 6)) mNil)))) [.fz d, .fz (.int w), A, .fz (dR r), B, .ow (pivD piv), .fz (.int i), .fz (.int n), s]
                fun x e3 => x.1 = dR (clrP t i r) ∧ ∃ s', wipeE e3 [3] = [.fz d, .fz (.int w), A, .un, B, .ow (pivD piv), .fz (.int i), .fz (.int n), s'] ∧ (s' = .ow (dR t) ∨ s' = .fz (dR t)) := by
              intro A B s r hr hred hs
              rcases hs with rfl | rfl
              · repeat' contradiction
                exact run_cleared (by omega) (by omega) (by omega) hred tred fun fl => ⟨rfl, _, rfl, .inr rfl⟩
              · repeat' contradiction
                exact run_cleared (by omega) (by omega) (by omega) hred tred fun fl => ⟨rfl, _, rfl, .inr rfl⟩
            refine setK_i (by simp [set_fr f8]; rfl) ?_
            repeat' contradiction
            rw [er_map]
            have le : (left.eraseIdx n).length ≤ 100 := by rw [List.length_eraseIdx]; split <;> omega
            refine ⟨by rw [List.length_map, LIM_eq]; omega, okM_mapR (fun j => dR (clrP t i (row (left.eraseIdx n) j))) (fun E => ∃ s, E = [.fz d, .fz (.int w), .fz (dM (left.eraseIdx n)), .un, .ow (dM done), .ow (pivD piv), .fz (.int i), .fz (.int n), s] ∧ (s = .ow (dR t) ∨ s = .fz (dR t))) ⟨_, rfl, .inl rfl⟩ (fun j x E hj hR => ?_) fun E hR => ?_⟩
            · obtain ⟨s, rfl, hs⟩ := hR
              rw [List.getElem?_map] at hj
              have hjl : j < (left.eraseIdx n).length := by
                cases q : (left.eraseIdx n)[j]? with
                | none => rw [q] at hj; cases hj
                | some z => exact lt_of_get q
              rw [row_lt hjl] at hj
              cases hj
              have hmem := hsh _ (List.mem_of_mem_eraseIdx (row_mem hjl))
              exact ⟨_, rfl, step _ _ s _ hmem.1 hmem.2 hs⟩
            · obtain ⟨s, rfl, hs⟩ := hR
              rw [List.length_map, map_dR (f := clrP t i) rfl]
              refine setK_i (by simp; rfl) ?_
              have shD : Shp w done := fun r hr => ⟨EL.rr.wid r hr, EL.rr.red r hr⟩
              have hdl : done.length ≤ 100 := by omega
              repeat' contradiction
              refine okM_mapR (fun j => dR (clrP t i (row done j))) (fun E => ∃ s, E = [.fz d, .fz (.int w), .ow (dM ((left.eraseIdx n).map (clrP t i))), .un, .fz (dM done), .ow (pivD piv), .fz (.int i), .fz (.int n), s] ∧ (s = .ow (dR t) ∨ s = .fz (dR t))) ⟨s, rfl, hs⟩ (fun j x E hj hR => ?_) fun E hR => ?_
              · obtain ⟨s, rfl, hs⟩ := hR
                rw [List.getElem?_map] at hj
                have hjl : j < done.length := by
                  cases q : done[j]? with
                  | none => rw [q] at hj; cases hj
                  | some z => exact lt_of_get q
                rw [row_lt hjl] at hj
                cases hj
                have hmem := shD _ (row_mem hjl)
                exact ⟨_, rfl, step _ _ s _ hmem.1 hmem.2 hs⟩
              · obtain ⟨s, rfl, hs⟩ := hR
                rw [List.length_map, map_dR (f := clrP t i) rfl]
                refine setK_i (by simp; rfl) ?_
                have hlk : look [Sl.fz d, Sl.fz (D.int ↑w), Sl.ow (dM (List.map (clrP t i) (left.eraseIdx n))), Sl.un, Sl.ow (dM (done.map (clrP t i))), Sl.ow (pivD piv), Sl.fz (D.int ↑i), Sl.fz (D.int ↑n), s] 8 = some (dR t) := by
                  rcases hs with rfl | rfl <;> rfl
                have fs : Fr s := by rcases hs with rfl | rfl <;> trivial
                refine Eq.mpr okS_seq (okS_appW ⟨_, rfl, ⟨_, rfl⟩, Eq.mpr okM_bin (Eq.mpr okM_val (Eq.mpr okM_bin (Eq.mpr okM_val (Eq.mpr okM_list (Eq.mpr okM_cons (Eq.mpr okM_val (Eq.mpr okM_C (Eq.mpr okM_nil ⟨rfl, _, rfl, by simp [LIM_eq], Eq.mpr okM_slot ⟨_, rfl, _, rfl, _, rfl, _, rep_mul (i := i) (by omega), Eq.mpr okM_slot ⟨_, hlk, _, rfl, _, hlk, _, add_row (by rw [List.length_replicate, LIM_eq]; omega), _, rfl, _, rfl, ⟨by rw [List.length_map, List.length_map, LIM_eq]; omega⟩, chgK_i (by simp; rfl) ?_⟩⟩⟩))))))))⟩)
                have hpl : piv.length ≤ 100 := by have := EL.rr.len; omega
                refine okS_appW ⟨_, rfl, ⟨_, rfl⟩, Eq.mpr okM_var ⟨_, rfl, _, rfl, _, rfl, ⟨by rw [List.length_map, LIM_eq]; omega⟩, chgK_i (by simp; rfl) ?_⟩⟩
                have E2 := EL.pivot hi' hn (t := List.replicate i 0 ++ t) (f := f) (by rw [List.length_append, List.length_replicate]; omega) (fun x hx => by
                    rcases List.mem_append.mp hx with hx | hx
                    · rw [(List.mem_replicate.mp hx).2]; exact ⟨by decide, by decide⟩
                    · exact tred x hx) (by
                    rw [ent_append, List.length_replicate, if_neg (by omega), Nat.sub_self, ← ht]
                    unfold tailP
                    rw [ent_map (by rw [List.length_drop]; omega), ent_drop, Nat.add_zero]
                    have := Eqv.iff.mp hf
                    omega) (fun j hj => by
                    rw [ent_append, List.length_replicate]
                    by_cases hji : j < i
                    · rw [if_pos hji, ent_rep hji, EL.zero _ (row_mem hn) j hji, Int.mul_zero]; exact .refl 0
                    · rw [if_neg hji, ← ht]
                      unfold tailP
                      rw [ent_map (by rw [List.length_drop]; omega), ent_drop, show i + (j - i) = j by omega, Int.mul_comm f]
                      exact Eqv.mod _) (clrP t i) fun r h1 h2 => clrP_ok hi' (by omega) h1 h2
                refine ⟨_, _, piv ++ [i], .fz (.int i), .fz (.int n), s, ?_, trivial, trivial, fs, by omega, E2⟩
                unfold dM pivD
                simp [dR]
    · obtain ⟨left, done, piv, s6, s7, s8, rfl, f6, f7, f8, hiw, EL⟩ := hI
      rw [rg_len, Int.toNat_natCast] at EL
      obtain ⟨R, hN, hlen⟩ := EL.fin
      repeat' contradiction
      exact k done piv R hN hlen
end
end DV
-- K2H
namespace DV
open PySem PySem.Spec PyProof.Rows L2
open Lin
local macro_rules | `(tactic| contradiction) => `(tactic| first
  | with_reducible refine okM_mod ?_
  | with_reducible refine okM_mul ?_
  | with_reducible refine okM_div ?_
  | with_reducible refine okM_pow ?_
  | with_reducible refine okM_ix ?_
  | with_reducible refine Eq.mpr okM_bin ?_
  | with_reducible refine okS_setW ?_
  | with_reducible refine okS_setIxW ?_
  | with_reducible refine okS_appW ?_
  | with_reducible refine okS_putFW ?_
  | with_reducible refine okS_parW ?_
  | with_reducible refine okM_popAtW ?_
  | with_reducible refine Eq.mpr okM_val ?_
  | with_reducible refine Eq.mpr okM_slot ?_
  | with_reducible refine Eq.mpr okM_C ?_
  | with_reducible refine Eq.mpr okM_cons ?_
  | with_reducible refine Eq.mpr okM_nil ?_
  | with_reducible refine Eq.mpr okM_call ?_
  | with_reducible refine Eq.mpr okM_var ?_
  | with_reducible refine Eq.mpr okM_un ?_
  | with_reducible refine Eq.mpr okM_list ?_
  | with_reducible refine Eq.mpr okM_tup ?_
  | with_reducible refine Eq.mpr okM_sl ?_
  | with_reducible refine Eq.mpr okM_part ?_
  | with_reducible refine Eq.mpr okM_noPart ?_
  | with_reducible refine Eq.mpr okM_cmpT ?_
  | with_reducible refine Eq.mpr okM_cmp ?_
  | with_reducible refine Eq.mpr okM_tru ?_
  | with_reducible refine Eq.mpr okM_not ?_
  | with_reducible refine Eq.mpr okM_and ?_
  | with_reducible refine Eq.mpr okM_or ?_
  | with_reducible refine Eq.mpr okM_if ?_
  | with_reducible refine Eq.mpr okM_andV ?_
  | with_reducible refine Eq.mpr okM_orV ?_
  | with_reducible refine Eq.mpr okM_iter ?_
  | with_reducible refine Eq.mpr okM_rg1 ?_
  | with_reducible refine Eq.mpr okM_rg2 ?_
  | with_reducible refine Eq.mpr okM_zip ?_
  | with_reducible refine Eq.mpr okM_lc ?_
  | with_reducible refine Eq.mpr okM_def ?_
  | with_reducible refine Eq.mpr okM_isi ?_
  | with_reducible refine Eq.mpr okM_ownL ?_
  | with_reducible refine Eq.mpr okM_pure ?_
  | with_reducible refine Eq.mpr okS_seq ?_
  | with_reducible refine Eq.mpr okS_nx ?_
  | with_reducible refine Eq.mpr okS_if ?_
  | with_reducible refine Eq.mpr okS_ret ?_
  | with_reducible refine Eq.mpr okS_retV ?_
  | with_reducible refine Eq.mpr okS_asg ?_
  | with_reducible refine Eq.mpr okS_for ?_
  | with_reducible refine Eq.mpr okS_expr ?_
  | with_reducible refine Eq.mpr okS_bk ?_
  | with_reducible refine Eq.mpr okS_ct ?_
  | with_reducible refine Eq.mpr okS_rtN ?_
  | with_reducible refine Eq.mpr okM_lend ?_
  | with_reducible refine Eq.mpr okM_make ?_
  | with_reducible refine Eq.mpr okM_enumA ?_
  | with_reducible refine Eq.mpr okM_join ?_
  | with_reducible refine setK_i (by simp only [set_un, set_fz, set_ow, set_s, Option.map_some, slOf_f, slOf_t, chg_ow, chg_io, chg_s, List.set_cons_zero, List.set_cons_succ, Int.reduceToNat, List.replicate_succ, List.replicate_zero, Nat.reduceSub, wipeE_cons, wipeE_nil]; first | done | rfl) ?_
  | with_reducible refine chgK_i (by simp only [set_un, set_fz, set_ow, set_s, Option.map_some, slOf_f, slOf_t, chg_ow, chg_io, chg_s, List.set_cons_zero, List.set_cons_succ, Int.reduceToNat, List.replicate_succ, List.replicate_zero, Nat.reduceSub, wipeE_cons, wipeE_nil]; first | done | rfl) ?_
  | with_reducible refine And.intro (GMod.mk (by omega)) ?_
  | with_reducible refine And.intro (GDiv.mk ⟨by omega, by omega⟩) ?_
  | with_reducible refine And.intro (GPow.mk ⟨by omega, by omega, by omega, by omega⟩) ?_
  | with_reducible refine And.intro (GMul.r ⟨by omega, by omega⟩) ?_
  | with_reducible refine And.intro (GMul.l ⟨by omega, by omega⟩) ?_
  | with_reducible refine split_T ?_
  | with_reducible refine split_F ?_
  | with_reducible refine split_dec (fun _ => ?_) (fun _ => ?_)
  | with_reducible refine split_neg ?_
  | with_reducible refine split_ne (fun _ => ?_) (fun _ => ?_)
  | with_reducible refine split_eqb (fun _ => ?_) (fun _ => ?_)
  | with_reducible refine And.intro (smI_of ⟨by omega, by omega⟩) ?_
  | refine ⟨_, ix_row (by first | exact seqR_d | exact seqR_t | assumption) (by omega), ?_⟩
  | refine ⟨_, ix_dM (by omega), ?_⟩
  | refine ⟨_, rfl, _, rfl, _, rfl, ?_⟩
  | refine ⟨_, rfl, _, rfl, ?_⟩
  | refine ⟨_, rfl, ⟨_, rfl⟩, ?_⟩
  | refine ⟨_, rfl, ?_⟩
  | refine ⟨_, _, rfl, ?_⟩
  | refine ⟨rfl, ?_⟩
  | refine And.intro (show List.length _ ≤ LIM by simp only [List.length_cons, List.length_nil, List.length_map, List.length_range, rg_len, LIM_eq]; omega) ?_
  | exact smI_of ⟨by omega, by omega⟩
  | ((with_reducible show wipeE _ _ = _); rfl))
theorem Eqv_pow {a b : Int} (h : Eqv a b) : ∀ n : Nat, Eqv (a ^ n) (b ^ n)
  | 0 => by rw [Int.pow_zero, Int.pow_zero]; exact .refl 1
  | n + 1 => by rw [Int.pow_succ, Int.pow_succ]; exact (Eqv_pow h n).mul h
section
variable {e : Env} {P : D × Bool → Env → Prop}
/-! the law's own inverse -/
theorem run_linv {n : Int} (hn : ¬ Eqv n 0) (k : ∀ x, 0 ≤ x → x < 1000003 → Eqv (n * x) 1 → P (.int x, false) e) : OkM (mRun 5 1 mb__law_inverse [.val (.int n)]) e P := by
  refine run_v1 ?_
  unfold mb__law_inverse
  repeat' contradiction
  refine okS_loop (fun i E => ∃ (made power : Int) (L : Nat) (s : Sl), E = [.fz (.int n), .fz (.int made), .fz (.int power), .fz (.int (L : Int)), s] ∧ Fr s ∧ L = 1000001 / 2 ^ i ∧ (0 ≤ made ∧ made < 1000003) ∧ (0 ≤ power ∧ power < 1000003) ∧ Eqv (made * power ^ L) (n ^ 1000001)) ⟨1, n % 1000003, 1000001, .un, rfl, trivial, rfl, by omega, by omega, ?_⟩ (fun i x E hi hI => ?_) fun E hI => ?_
  · rw [Int.one_mul]; exact Eqv_pow (Eqv.mod n) _
  · obtain ⟨made, power, L, s, rfl, fs, hL, hm, hp, hE⟩ := hI
    obtain ⟨hi, rfl⟩ := rg0_get hi
    refine ⟨_, (by simp [set_fr fs]; rfl), ?_⟩
    have hL2 : 1000001 / 2 ^ (i + 1) = L / 2 := by rw [hL, Nat.pow_succ, Nat.div_div_eq_div_mul]
    repeat' contradiction
    · rename_i hodd
      refine ⟨made * power % 1000003, power * power % 1000003, L / 2, .fz (.int (i : Int)), ?_, fr_fz, hL2.symm, by omega, by omega, ?_⟩
      · rw [Int.natCast_ediv]; rfl
      · refine Eqv.trans ?_ hE
        refine (Eqv.mul (Eqv.mod _) (Eqv_pow (Eqv.mod _) _)).trans (.of_eq ?_)
        have e1 : L = L / 2 + L / 2 + 1 := by omega
        conv => rhs; rw [e1]
        rw [Int.pow_succ, Int.pow_add, Int.mul_pow]
        simp only [Int.mul_assoc, Int.mul_left_comm, Int.mul_comm]
    · rename_i hev
      refine ⟨made, power * power % 1000003, L / 2, .fz (.int (i : Int)), ?_, fr_fz, hL2.symm, by omega, by omega, ?_⟩
      · rw [Int.natCast_ediv]; rfl
      · refine Eqv.trans ?_ hE
        refine (Eqv.mul (.refl _) (Eqv_pow (Eqv.mod _) _)).trans (.of_eq ?_)
        have e1 : L = L / 2 + L / 2 := by omega
        conv => rhs; rw [e1]
        rw [Int.pow_add, Int.mul_pow]
  · obtain ⟨made, power, L, s, rfl, fs, hL, hm, hp, hE⟩ := hI
    have hL0 : L = 0 := by rw [hL, rg_len]; decide
    subst hL0
    rw [Int.pow_zero, Int.mul_one] at hE
    repeat' contradiction
    exact k made hm.1 hm.2 ((Eqv.mul (.refl n) hE).trans (fermat_inv hn))
/-! lowered -/
def clrL (t : List Int) (c : Nat) (r : List Int) : List Int := if ent r c = 0 then r else takenR r t (ent r c)
theorem clrL_ok {w c : Nat} {t r : List Int} (hr : r.length = w) (hrr : Red r) : Clr w c t r (clrL t c r) := by
  unfold clrL
  by_cases z : ent r c = 0
  · rw [if_pos z]
    exact ⟨hr, hrr, fun j hj => by rw [z, Int.zero_mul]; exact .of_eq (by omega)⟩
  · rw [if_neg z]
    unfold takenR
    refine ⟨by rw [List.length_map, List.length_range]; exact hr, fun x hx => ?_, fun j hj => ?_⟩
    · obtain ⟨i, _, rfl⟩ := List.mem_map.mp hx; omega
    · rw [ent_range (by omega)]; exact Eqv.mod _
theorem spots_eq {n : Nat} {q : Nat → Bool} {p : D → Bool} (h : ∀ k, k < n → p (.int (k : Int)) = q k) : ((rgD 0 n).filter p).map id = ((List.range n).filter q).map fun (k : Nat) => D.int (k : Int) := by
  unfold rgD
  rw [List.map_id, List.filter_map]
  have e1 : (List.range n).filter (p ∘ fun (i : Nat) => D.int (0 + (i : Int))) = (List.range n).filter q := List.filter_congr fun k hk => by
    have := h k (List.mem_range.mp hk)
    show p (.int (0 + (k : Int))) = q k
    rw [Int.zero_add]; exact this
  rw [e1]
  apply List.map_congr_left
  intro k _
  rw [Int.zero_add]
theorem run_lowered {m : List (List Int)} {w : Nat} (hS : Shp w m) (hw : w ≤ 100) (hl : m.length ≤ 100) (k : ∀ done piv, RR w w done piv → (∀ x, Null w done x ↔ Null w m x) → piv.length ≤ m.length → P (.lst [dM done, pivD piv], true) e) :
    OkM (mRun 12 2 mb__law_lowered [.val (dM m), .val (.int w)]) e P := by
  refine run_v2 ?_
  unfold mb__law_lowered
  refine Eq.mpr okS_seq (okS_setW (Eq.mpr okM_lc (Eq.mpr okM_iter (Eq.mpr okM_var ⟨(dM m, _), rfl, m.map dR, rfl, rfl, by rw [LIM_eq, List.length_map]; omega, okM_mapI (fun i => dR (row m i)) (fun i x hi => ?_) ?_⟩))))
  · rw [List.getElem?_map] at hi
    have hil : i < m.length := by
      cases q : m[i]? with
      | none => rw [q] at hi; cases hi
      | some z => exact lt_of_get q
    rw [row_lt hil] at hi
    cases hi
    refine ⟨_, rfl, ?_⟩
    repeat' contradiction
  · rw [List.length_map, map_dR0]
    repeat' contradiction
    refine okS_loop (fun i E => ∃ left done piv s6 s7 s9 s10, E = [.fz (dM m), .fz (.int w), .ow (dM left), .un, .ow (dM done), .ow (pivD piv), s6, s7, .un, s9, s10, .un] ∧ Fr s6 ∧ Fr s7 ∧ Fr s9 ∧ Fr s10 ∧ i ≤ w ∧ El w i m left done piv) ⟨m, [], [], .un, .un, .un, .un, rfl, trivial, trivial, trivial, trivial, Nat.zero_le _, El.start hS⟩ (fun i x E hi hI => ?_) fun E hI => ?_
    · obtain ⟨left, done, piv, s6, s7, s9, s10, rfl, f6, f7, f9, f10, hiw, EL⟩ := hI
      obtain ⟨hi, rfl⟩ := rg0_get hi
      have hi' : i < w := by omega
      have hsh := EL.shpL
      have cnt := EL.cnt
      have hll := @lenM left
      refine ⟨_, (by simp [set_fr f6]; rfl), ?_⟩
      repeat' contradiction
      rw [List.length_map, Int.toNat_natCast]
      refine okM_filter (fun d => match d with | .int z => decide (ent (row left z.toNat) i ≠ 0) | _ => false) id (fun x hx => ?_) ?_
      · obtain ⟨kk, hkk⟩ := List.getElem?_of_mem hx
        obtain ⟨hk2, rfl⟩ := rg0_get hkk
        have hc := (hsh _ (row_mem hk2)).1
        refine ⟨_, rfl, ?_⟩
        repeat' contradiction
        refine ⟨by simp, fun _ => ?_, fun _ => rfl⟩
        repeat' contradiction
      · rw [spots_eq (q := fun k => decide (ent (row left k) i ≠ 0)) fun k hk => by simp]
        generalize hns : (List.range left.length).filter (fun k => decide (ent (row left k) i ≠ 0)) = ns
        have hS : D.lst (ns.map fun (k : Nat) => D.int (k : Int)) = dR (ns.map fun (k : Nat) => (k : Int)) := by unfold dR; rw [List.map_map]; rfl
        rw [hS]
        refine setK_i (by simp [set_fr f7]; rfl) ?_
        refine Eq.mpr okS_seq (Eq.mpr okS_if (Eq.mpr okM_cmpT (Eq.mpr okM_slot ⟨_, rfl, Eq.mpr okM_val (Eq.mpr okM_list (Eq.mpr okM_nil ⟨rfl, _, rfl, by simp [LIM_eq], _, rfl, _, rfl, _, eq_emptyR _, ?_⟩))⟩)))
        cases ns with
        | nil =>
          refine split_T ?_
          repeat' contradiction
          refine ⟨left, done, piv, _, _, s9, s10, rfl, trivial, trivial, f9, f10, by omega, EL.skip fun r hr => ?_⟩
          obtain ⟨q, hq⟩ := List.getElem?_of_mem hr
          have hql := lt_of_get hq
          have hqr := row_lt hql
          rw [hq] at hqr
          have := List.filter_eq_nil_iff.mp hns q (List.mem_range.mpr hql)
          rw [Option.some.inj hqr]
          simpa using this
        | cons n0 rest =>
          have hmem : n0 ∈ (List.range left.length).filter (fun k => decide (ent (row left k) i ≠ 0)) := by rw [hns]; exact List.mem_cons_self
          obtain ⟨hn', hne'⟩ := List.mem_filter.mp hmem
          have hn : n0 < left.length := List.mem_range.mp hn'
          have hne : ent (row left n0) i ≠ 0 := of_decide_eq_true hne'
          have hrow := hsh _ (row_mem hn)
          refine split_F ?_
          repeat' contradiction
          refine ⟨.int n0, ix_0, _, _, n0, dR (row left n0), rfl, rfl, ⟨by omega, by omega⟩, ?_, by rw [List.getElem?_map, row_lt hn]; rfl, ?_⟩
          · rw [List.length_map]; exact seq_nat hn
          · refine chgK_i (by simp; rfl) (setK_i (by simp [set_fr f9]; rfl) ?_)
            repeat' contradiction
            refine run_linv (fun z => hne (z.red (ent_red hrow.2 i) ⟨by decide, by decide⟩)) fun f hf0 hf1 hf => ?_
            refine setK_i (by simp [set_fr f10]; rfl) ?_
            have hr1 := hrow.1
            repeat' contradiction
            refine okM_mapI (fun q => .int (ent (row left n0) q * f % 1000003)) (fun q x hq => ?_) ?_
            · rw [List.getElem?_map] at hq
              have hql : q < (row left n0).length := by
                cases qq : (row left n0)[q]? with
                | none => rw [qq] at hq; cases hq
                | some z => exact lt_of_get qq
              rw [ent_lt hql] at hq
              cases hq
              have hb := ent_red hrow.2 q
              refine ⟨_, rfl, ?_⟩
              repeat' contradiction
            · generalize ht : (row left n0).map (fun z => z * f % 1000003) = t
              have hT : D.lst ((List.range ((row left n0).map D.int).length).map fun q => D.int (ent (row left n0) q * f % 1000003)) = dR t := by
                rw [← ht]
                unfold dR
                congr 1
                rw [List.map_map]
                apply List.ext_getElem?
                intro q
                rw [List.getElem?_map, List.getElem?_map, List.length_map]
                by_cases hq : q < (row left n0).length
                · rw [List.getElem?_range hq, ent_lt hq]; rfl
                · rw [List.getElem?_eq_none (by simpa using hq), List.getElem?_eq_none (by omega)]; rfl
              rw [hT]
              have tl : t.length = w := by rw [← ht, List.length_map]; exact hrow.1
              have tent : ∀ q, q < w → ent t q = ent (row left n0) q * f % 1000003 := fun q hq => by rw [← ht, ent_map (by omega)]
              have tred : Red t := fun x hx => by
                rw [← ht] at hx
                obtain ⟨y, _, rfl⟩ := List.mem_map.mp hx
                omega
              refine setK_i (by simp; rfl) ?_
              generalize hS7 : Sl.ow (dR ((n0 : Int) :: List.map (fun k : Nat => (k : Int)) rest)) = S7
              have f7' : Fr S7 := by rw [← hS7]; trivial
              have step : ∀ (A B s : Sl) (r : List Int), r.length = w → Red r → (s = .ow (dR t) ∨ s = .fz (dR t)) → OkM (mIf (mCmpT cNe (mVal (mBin opIx (mSlot 3) (mSlot 6))) (mVal (mC (D.int 0)))) (mDef 4 3 mb__law_taken [] (mCons (mVal (mVar 3)) (mCons (mVal (mVar 9)) (mCons (mVal (mBin opIx (mSlot 3) (mSlot 6))) mNil)))) (mVar 3)) [.fz (dM m), .fz (.int w), A, .fz (dR r), B, .ow (pivD piv), .fz (.int i), S7, .un, s, .fz (.int f), .un]
                  fun x e3 => x.1 = dR (clrL t i r) ∧ ∃ s', wipeE e3 [3] = [.fz (dM m), .fz (.int w), A, .un, B, .ow (pivD piv), .fz (.int i), S7, .un, s', .fz (.int f), .un] ∧ (s' = .ow (dR t) ∨ s' = .fz (dR t)) := by
                intro A B s r hr hred hs
                have hbr := ent_red hred i
                rcases hs with rfl | rfl
                · repeat' contradiction
                  · rename_i z
                    have e1 : clrL t i r = r := by unfold clrL; rw [if_pos z]
                    rw [e1]
                    exact ⟨rfl, _, rfl, .inl rfl⟩
                  · rename_i z
                    have e1 : clrL t i r = takenR r t (ent r i) := by unfold clrL; rw [if_neg z]
                    rw [e1]
                    exact run_taken (by omega) (by omega) (by omega) ⟨rfl, _, rfl, .inr rfl⟩
                · repeat' contradiction
                  · rename_i z
                    have e1 : clrL t i r = r := by unfold clrL; rw [if_pos z]
                    rw [e1]
                    exact ⟨rfl, _, rfl, .inr rfl⟩
                  · rename_i z
                    have e1 : clrL t i r = takenR r t (ent r i) := by unfold clrL; rw [if_neg z]
                    rw [e1]
                    exact run_taken (by omega) (by omega) (by omega) ⟨rfl, _, rfl, .inr rfl⟩
              have le : (left.eraseIdx n0).length ≤ 100 := by rw [List.length_eraseIdx]; split <;> omega
              have shD : Shp w done := fun r hr => ⟨EL.rr.wid r hr, EL.rr.red r hr⟩
              have hdl : done.length ≤ 100 := by omega
              have hpl : piv.length ≤ 100 := by have := EL.rr.len; omega
              rw [er_map]
              repeat' contradiction
              refine okM_mapR (fun j => dR (clrL t i (row (left.eraseIdx n0) j))) (fun E => ∃ s, E = [.fz (dM m), .fz (.int w), .fz (dM (left.eraseIdx n0)), .un, .ow (dM done), .ow (pivD piv), .fz (.int i), S7, .un, s, .fz (.int f), .un] ∧ (s = .ow (dR t) ∨ s = .fz (dR t))) ⟨_, rfl, .inl rfl⟩ (fun j x E hj hR => ?_) fun E hR => ?_
              · obtain ⟨s, rfl, hs⟩ := hR
                rw [List.getElem?_map] at hj
                have hjl : j < (left.eraseIdx n0).length := by
                  cases q : (left.eraseIdx n0)[j]? with
                  | none => rw [q] at hj; cases hj
                  | some z => exact lt_of_get q
                rw [row_lt hjl] at hj
                cases hj
                have hmem2 := hsh _ (List.mem_of_mem_eraseIdx (row_mem hjl))
                exact ⟨_, rfl, step _ _ s _ hmem2.1 hmem2.2 hs⟩
              · obtain ⟨s, rfl, hs⟩ := hR
                rw [List.length_map, map_dR (f := clrL t i) rfl]
                refine setK_i (by simp; rfl) ?_
                repeat' contradiction
                refine okM_mapR (fun j => dR (clrL t i (row done j))) (fun E => ∃ s, E = [.fz (dM m), .fz (.int w), .ow (dM ((left.eraseIdx n0).map (clrL t i))), .un, .fz (dM done), .ow (pivD piv), .fz (.int i), S7, .un, s, .fz (.int f), .un] ∧ (s = .ow (dR t) ∨ s = .fz (dR t))) ⟨s, rfl, hs⟩ (fun j x E hj hR => ?_) fun E hR => ?_
                · obtain ⟨s, rfl, hs⟩ := hR
                  rw [List.getElem?_map] at hj
                  have hjl : j < done.length := by
                    cases q : done[j]? with
                    | none => rw [q] at hj; cases hj
                    | some z => exact lt_of_get q
                  rw [row_lt hjl] at hj
                  cases hj
                  have hmem2 := shD _ (row_mem hjl)
                  exact ⟨_, rfl, step _ _ s _ hmem2.1 hmem2.2 hs⟩
                · obtain ⟨s, rfl, hs⟩ := hR
                  rw [List.length_map, map_dR (f := clrL t i) rfl]
                  refine setK_i (by simp; rfl) ?_
                  have E2 := EL.pivot hi' hn (t := t) (f := f) tl tred (by
                      rw [tent i hi']
                      have := Eqv.iff.mp hf
                      omega) (fun j hj => by rw [tent j hj, Int.mul_comm f]; exact Eqv.mod _) (clrL t i) fun r h1 h2 => clrL_ok h1 h2
                  have fin : ∀ (E : DV.Env), E = [.fz (dM m), .fz (.int w), .ow (dM ((left.eraseIdx n0).map (clrL t i))), .un, .ow (dM (done.map (clrL t i))), .ow (pivD piv), .fz (.int i), S7, .un, .fz (dR t), .fz (.int f), .un] →
                      chg (chg E 4 (.lst ((done.map (clrL t i)).map dR ++ [dR t]))) 5 (.lst ((piv.map fun (q : Nat) => D.int (q : Int)) ++ [.int (i : Int)])) = [.fz (dM m), .fz (.int w), .ow (dM ((left.eraseIdx n0).map (clrL t i))), .un, .ow (dM (done.map (clrL t i) ++ [t])), .ow (pivD (piv ++ [i])), .fz (.int i), S7, .un, .fz (dR t), .fz (.int f), .un] := by
                    rintro E rfl
                    unfold dM pivD
                    simp
                  rcases hs with rfl | rfl
                  · refine Eq.mpr okS_seq (okS_appW ⟨_, rfl, ⟨_, rfl⟩, Eq.mpr okM_var ⟨_, rfl, _, rfl, _, rfl, ⟨by rw [List.length_map, List.length_map, LIM_eq]; omega⟩, chgK_i rfl ?_⟩⟩)
                    refine okS_appW ⟨_, rfl, ⟨_, rfl⟩, Eq.mpr okM_var ⟨_, rfl, _, rfl, _, rfl, ⟨by rw [List.length_map, LIM_eq]; omega⟩, chgK_i (fin _ rfl) ?_⟩⟩
                    exact ⟨_, _, piv ++ [i], _, _, _, _, rfl, fr_fz, f7', fr_fz, fr_fz, by omega, E2⟩
                  · refine Eq.mpr okS_seq (okS_appW ⟨_, rfl, ⟨_, rfl⟩, Eq.mpr okM_var ⟨_, rfl, _, rfl, _, rfl, ⟨by rw [List.length_map, List.length_map, LIM_eq]; omega⟩, chgK_i rfl ?_⟩⟩)
                    refine okS_appW ⟨_, rfl, ⟨_, rfl⟩, Eq.mpr okM_var ⟨_, rfl, _, rfl, _, rfl, ⟨by rw [List.length_map, LIM_eq]; omega⟩, chgK_i (fin _ rfl) ?_⟩⟩
                    exact ⟨_, _, piv ++ [i], _, _, _, _, rfl, fr_fz, f7', fr_fz, fr_fz, by omega, E2⟩
    · obtain ⟨left, done, piv, s6, s7, s9, s10, rfl, f6, f7, f9, f10, hiw, EL⟩ := hI
      rw [rg_len, Int.toNat_natCast] at EL
      obtain ⟨R, hN, hlen⟩ := EL.fin
      repeat' contradiction
      exact k done piv R hN hlen
end
end DV
-- K2I
namespace DV
open PySem PySem.Spec PyProof.Rows L2
open Lin
local macro_rules | `(tactic| contradiction) => `(tactic| first
  | with_reducible refine okM_mod ?_
  | with_reducible refine okM_mul ?_
  | with_reducible refine okM_div ?_
  | with_reducible refine okM_pow ?_
  | with_reducible refine okM_ix ?_
  | with_reducible refine Eq.mpr okM_bin ?_
  | with_reducible refine okS_setW ?_
  | with_reducible refine okS_setIxW ?_
  | with_reducible refine okS_appW ?_
  | with_reducible refine okS_putFW ?_
  | with_reducible refine okS_parW ?_
  | with_reducible refine okM_popAtW ?_
  | with_reducible refine Eq.mpr okM_val ?_
  | with_reducible refine Eq.mpr okM_slot ?_
  | with_reducible refine Eq.mpr okM_C ?_
  | with_reducible refine Eq.mpr okM_cons ?_
  | with_reducible refine Eq.mpr okM_nil ?_
  | with_reducible refine Eq.mpr okM_call ?_
  | with_reducible refine Eq.mpr okM_var ?_
  | with_reducible refine Eq.mpr okM_un ?_
  | with_reducible refine Eq.mpr okM_list ?_
  | with_reducible refine Eq.mpr okM_tup ?_
  | with_reducible refine Eq.mpr okM_sl ?_
  | with_reducible refine Eq.mpr okM_part ?_
  | with_reducible refine Eq.mpr okM_noPart ?_
  | with_reducible refine Eq.mpr okM_cmpT ?_
  | with_reducible refine Eq.mpr okM_cmp ?_
  | with_reducible refine Eq.mpr okM_tru ?_
  | with_reducible refine Eq.mpr okM_not ?_
  | with_reducible refine Eq.mpr okM_and ?_
  | with_reducible refine Eq.mpr okM_or ?_
  | with_reducible refine Eq.mpr okM_if ?_
  | with_reducible refine Eq.mpr okM_andV ?_
  | with_reducible refine Eq.mpr okM_orV ?_
  | with_reducible refine Eq.mpr okM_iter ?_
  | with_reducible refine Eq.mpr okM_rg1 ?_
  | with_reducible refine Eq.mpr okM_rg2 ?_
  | with_reducible refine Eq.mpr okM_zip ?_
  | with_reducible refine Eq.mpr okM_lc ?_
  | with_reducible refine Eq.mpr okM_def ?_
  | with_reducible refine Eq.mpr okM_isi ?_
  | with_reducible refine Eq.mpr okM_ownL ?_
  | with_reducible refine Eq.mpr okM_pure ?_
  | with_reducible refine Eq.mpr okS_seq ?_
  | with_reducible refine Eq.mpr okS_nx ?_
  | with_reducible refine Eq.mpr okS_if ?_
  | with_reducible refine Eq.mpr okS_ret ?_
  | with_reducible refine Eq.mpr okS_retV ?_
  | with_reducible refine Eq.mpr okS_asg ?_
  | with_reducible refine Eq.mpr okS_for ?_
  | with_reducible refine Eq.mpr okS_expr ?_
  | with_reducible refine Eq.mpr okS_bk ?_
  | with_reducible refine Eq.mpr okS_ct ?_
  | with_reducible refine Eq.mpr okS_rtN ?_
  | with_reducible refine Eq.mpr okM_lend ?_
  | with_reducible refine Eq.mpr okM_make ?_
  | with_reducible refine Eq.mpr okM_enumA ?_
  | with_reducible refine Eq.mpr okM_join ?_
  | with_reducible refine setK_i (by simp only [set_un, set_fz, set_ow, set_s, Option.map_some, slOf_f, slOf_t, chg_ow, chg_io, chg_s, List.set_cons_zero, List.set_cons_succ, Int.reduceToNat, List.replicate_succ, List.replicate_zero, Nat.reduceSub, wipeE_cons, wipeE_nil]; first | done | rfl) ?_
  | with_reducible refine chgK_i (by simp only [set_un, set_fz, set_ow, set_s, Option.map_some, slOf_f, slOf_t, chg_ow, chg_io, chg_s, List.set_cons_zero, List.set_cons_succ, Int.reduceToNat, List.replicate_succ, List.replicate_zero, Nat.reduceSub, wipeE_cons, wipeE_nil]; first | done | rfl) ?_
  | with_reducible refine And.intro (GMod.mk (by omega)) ?_
  | with_reducible refine And.intro (GDiv.mk ⟨by omega, by omega⟩) ?_
  | with_reducible refine And.intro (GPow.mk ⟨by omega, by omega, by omega, by omega⟩) ?_
  | with_reducible refine And.intro (GMul.r ⟨by omega, by omega⟩) ?_
  | with_reducible refine And.intro (GMul.l ⟨by omega, by omega⟩) ?_
  | with_reducible refine split_T ?_
  | with_reducible refine split_F ?_
  | with_reducible refine split_dec (fun _ => ?_) (fun _ => ?_)
  | with_reducible refine split_neg ?_
  | with_reducible refine split_ne (fun _ => ?_) (fun _ => ?_)
  | with_reducible refine split_eqb (fun _ => ?_) (fun _ => ?_)
  | with_reducible refine And.intro (smI_of ⟨by omega, by omega⟩) ?_
  | refine ⟨_, ix_row (by first | exact seqR_d | exact seqR_t | assumption) (by omega), ?_⟩
  | refine ⟨_, ix_dM (by omega), ?_⟩
  | refine ⟨_, rfl, _, rfl, _, rfl, ?_⟩
  | refine ⟨_, rfl, _, rfl, ?_⟩
  | refine ⟨_, rfl, ⟨_, rfl⟩, ?_⟩
  | refine ⟨_, rfl, ?_⟩
  | refine ⟨_, _, rfl, ?_⟩
  | refine ⟨rfl, ?_⟩
  | refine And.intro (show List.length _ ≤ LIM by simp only [List.length_cons, List.length_nil, List.length_map, List.length_range, rg_len, LIM_eq]; omega) ?_
  | exact smI_of ⟨by omega, by omega⟩
  | ((with_reducible show wipeE _ _ = _); rfl))
section
variable {e : Env} {P : D × Bool → Env → Prop}
/-! rank -/
theorem run_rank {m : List (List Int)} {h w : Nat} (hS : Shp w m) (hw : w ≤ 100) (hl : m.length ≤ 100) (k : ∀ done piv, RR w w done piv → (∀ x, Null w done x ↔ Null w m x) → piv.length ≤ m.length → P (.int piv.length, false) e) :
    OkM (mRun 1 1 mb__law_rank [.val (dT h w m)]) e P := by
  refine run_v1 ?_
  unfold mb__law_rank
  repeat' contradiction
  refine run_lowered hS hw hl fun done piv R hN hle => ?_
  repeat' contradiction
  have e1 : ((List.length (piv.map fun (q : Nat) => D.int (q : Int)) : Nat) : Int) = piv.length := by rw [List.length_map]
  show P (.int ((List.length (piv.map fun (q : Nat) => D.int (q : Int)) : Nat) : Int), false) e
  rw [e1]
  exact k done piv R hN hle
/-! seen -/
def tabD (h w : Nat) (m : List (List Int)) (s : Str) : D := .obj 0 [.int h, .int w, tM m, .str s]
theorem att0 {h w : Nat} {m : List (List Int)} {s : Str} : opAtt 1 flT 0 (tabD h w m s) = some (.int h, false) := rfl
theorem att1 {h w : Nat} {m : List (List Int)} {s : Str} : opAtt 1 flT 1 (tabD h w m s) = some (.int w, false) := rfl
theorem att2 {h w : Nat} {m : List (List Int)} {s : Str} : opAtt 1 flT 2 (tabD h w m s) = some (tM m, false) := rfl
theorem isi_tab {h w : Nat} {m : List (List Int)} {s : Str} : opIsi 1 tbO ob_Table (tabD h w m s) = some true := rfl
theorem isi_tup {ds : List D} : opIsi 0 (tbB "tuple") (fun _ => none) (.tup ds) = some true := by
  show tbB "tuple" "tuple" = some true
  decide +kernel
theorem run_seen {h w : Nat} {m : List (List Int)} {s : Str} (hl : m.length = h) (hS : Shp w m) (hh : h ≤ 100) (hw : w ≤ 100) (k : P (dT h w m, true) e) : OkM (mRun 3 1 mb__law_seen [.val (tabD h w m s)]) e P := by
  refine run_v1 ?_
  unfold mb__law_seen
  have lenT : ((m.map tR).length : Int) = h := by rw [List.length_map, hl]
  repeat' contradiction
  refine run_whole ?_
  repeat' contradiction
  refine run_whole ?_
  repeat' contradiction
  refine okS_loop (fun i E => ∃ s1, E = [.fz (tabD h w m s), s1, .un] ∧ Fr s1) ⟨.un, rfl, trivial⟩ (fun i x E hi hI => ?_) fun E hI => ?_
  · obtain ⟨s1, rfl, f1⟩ := hI
    obtain ⟨r, hr, rfl⟩ := List.mem_map.mp (List.mem_of_getElem? hi)
    obtain ⟨hrw, hrd⟩ := hS r hr
    refine ⟨_, (by simp [set_fr f1]; rfl), ?_⟩
    have hb := @lenR r
    repeat' contradiction
    · refine okM_filter (fun _ => false) id (fun d hd => ?_) ?_
      · obtain ⟨n, hn, rfl⟩ := List.mem_map.mp hd
        obtain ⟨hn0, hn1⟩ := hrd n hn
        repeat' contradiction
        refine run_whole ?_
        repeat' contradiction
        all_goals first | (exfalso; omega) | (have q : decide ((1000003 : Int) ≤ n) = false := decide_eq_false (by omega)
                                              exact ⟨q, fun z => absurd (q.symm.trans z) (by decide), fun _ => rfl⟩)
      · have e1 : ((List.map D.int r).filter fun _ => false).map id = [] := by simp
        rw [e1]
        repeat' contradiction
        refine ⟨fun _ => ?_, fun z => absurd z (by decide +kernel)⟩
        repeat' contradiction
        all_goals first | trivial | exact ⟨_, rfl, trivial⟩
    · exfalso; omega
  · obtain ⟨s1, rfl, f1⟩ := hI
    have hok : okV [Sl.fz (tabD h w m s), s1, Sl.un] [1] = true := by cases s1 <;> first | rfl | exact f1.elim
    repeat' contradiction
    refine ⟨hok, by rw [LIM_eq, List.length_map]; omega, okM_map (fun d => match d with | .tup xs => .lst xs | d => d) (fun d hd => ?_) ?_⟩
    · obtain ⟨r, hr, rfl⟩ := List.mem_map.mp hd
      repeat' contradiction
    · repeat' contradiction
      have e1 : (m.map tR).map (fun d => match d with | .tup xs => D.lst xs | d => d) = m.map dR := by
        rw [List.map_map]; rfl
      show P (.lst [.int h, .int w, .lst ((m.map tR).map _)], true) e
      rw [e1]
      exact k
end
end DV
-- K2J
namespace DV
open PySem PySem.Spec PyProof.Rows L2
open Lin
local macro_rules | `(tactic| contradiction) => `(tactic| first
  | with_reducible refine okM_mod ?_
  | with_reducible refine okM_mul ?_
  | with_reducible refine okM_div ?_
  | with_reducible refine okM_pow ?_
  | with_reducible refine okM_ix ?_
  | with_reducible refine Eq.mpr okM_bin ?_
  | with_reducible refine okS_setW ?_
  | with_reducible refine okS_setIxW ?_
  | with_reducible refine okS_appW ?_
  | with_reducible refine okS_putFW ?_
  | with_reducible refine okS_parW ?_
  | with_reducible refine okM_popAtW ?_
  | with_reducible refine Eq.mpr okM_val ?_
  | with_reducible refine Eq.mpr okM_slot ?_
  | with_reducible refine Eq.mpr okM_C ?_
  | with_reducible refine Eq.mpr okM_cons ?_
  | with_reducible refine Eq.mpr okM_nil ?_
  | with_reducible refine Eq.mpr okM_call ?_
  | with_reducible refine Eq.mpr okM_var ?_
  | with_reducible refine Eq.mpr okM_un ?_
  | with_reducible refine Eq.mpr okM_list ?_
  | with_reducible refine Eq.mpr okM_tup ?_
  | with_reducible refine Eq.mpr okM_sl ?_
  | with_reducible refine Eq.mpr okM_part ?_
  | with_reducible refine Eq.mpr okM_noPart ?_
  | with_reducible refine Eq.mpr okM_cmpT ?_
  | with_reducible refine Eq.mpr okM_cmp ?_
  | with_reducible refine Eq.mpr okM_tru ?_
  | with_reducible refine Eq.mpr okM_not ?_
  | with_reducible refine Eq.mpr okM_and ?_
  | with_reducible refine Eq.mpr okM_or ?_
  | with_reducible refine Eq.mpr okM_if ?_
  | with_reducible refine Eq.mpr okM_andV ?_
  | with_reducible refine Eq.mpr okM_orV ?_
  | with_reducible refine Eq.mpr okM_iter ?_
  | with_reducible refine Eq.mpr okM_rg1 ?_
  | with_reducible refine Eq.mpr okM_rg2 ?_
  | with_reducible refine Eq.mpr okM_zip ?_
  | with_reducible refine Eq.mpr okM_lc ?_
  | with_reducible refine Eq.mpr okM_def ?_
  | with_reducible refine Eq.mpr okM_isi ?_
  | with_reducible refine Eq.mpr okM_ownL ?_
  | with_reducible refine Eq.mpr okM_pure ?_
  | with_reducible refine Eq.mpr okS_seq ?_
  | with_reducible refine Eq.mpr okS_nx ?_
  | with_reducible refine Eq.mpr okS_if ?_
  | with_reducible refine Eq.mpr okS_ret ?_
  | with_reducible refine Eq.mpr okS_retV ?_
  | with_reducible refine Eq.mpr okS_asg ?_
  | with_reducible refine Eq.mpr okS_for ?_
  | with_reducible refine Eq.mpr okS_expr ?_
  | with_reducible refine Eq.mpr okS_bk ?_
  | with_reducible refine Eq.mpr okS_ct ?_
  | with_reducible refine Eq.mpr okS_rtN ?_
  | with_reducible refine Eq.mpr okM_lend ?_
  | with_reducible refine Eq.mpr okM_make ?_
  | with_reducible refine Eq.mpr okM_enumA ?_
  | with_reducible refine Eq.mpr okM_join ?_
  | with_reducible refine setK_i (by simp only [set_un, set_fz, set_ow, set_s, Option.map_some, slOf_f, slOf_t, chg_ow, chg_io, chg_s, List.set_cons_zero, List.set_cons_succ, Int.reduceToNat, List.replicate_succ, List.replicate_zero, Nat.reduceSub, wipeE_cons, wipeE_nil]; first | done | rfl) ?_
  | with_reducible refine chgK_i (by simp only [set_un, set_fz, set_ow, set_s, Option.map_some, slOf_f, slOf_t, chg_ow, chg_io, chg_s, List.set_cons_zero, List.set_cons_succ, Int.reduceToNat, List.replicate_succ, List.replicate_zero, Nat.reduceSub, wipeE_cons, wipeE_nil]; first | done | rfl) ?_
  | with_reducible refine And.intro (GMod.mk (by omega)) ?_
  | with_reducible refine And.intro (GDiv.mk ⟨by omega, by omega⟩) ?_
  | with_reducible refine And.intro (GPow.mk ⟨by omega, by omega, by omega, by omega⟩) ?_
  | with_reducible refine And.intro (GMul.r ⟨by omega, by omega⟩) ?_
  | with_reducible refine And.intro (GMul.l ⟨by omega, by omega⟩) ?_
  | with_reducible refine split_T ?_
  | with_reducible refine split_F ?_
  | with_reducible refine split_dec (fun _ => ?_) (fun _ => ?_)
  | with_reducible refine split_neg ?_
  | with_reducible refine split_ne (fun _ => ?_) (fun _ => ?_)
  | with_reducible refine split_eqb (fun _ => ?_) (fun _ => ?_)
  | with_reducible refine And.intro (smI_of ⟨by omega, by omega⟩) ?_
  | refine ⟨_, ix_row (by first | exact seqR_d | exact seqR_t | assumption) (by omega), ?_⟩
  | refine ⟨_, ix_dM (by omega), ?_⟩
  | refine ⟨_, rfl, _, rfl, _, rfl, ?_⟩
  | refine ⟨_, rfl, _, rfl, ?_⟩
  | refine ⟨_, rfl, ⟨_, rfl⟩, ?_⟩
  | refine ⟨_, rfl, ?_⟩
  | refine ⟨_, _, rfl, ?_⟩
  | refine ⟨rfl, ?_⟩
  | refine And.intro (show List.length _ ≤ LIM by simp only [List.length_cons, List.length_nil, List.length_map, List.length_range, rg_len, LIM_eq]; omega) ?_
  | exact smI_of ⟨by omega, by omega⟩
  | ((with_reducible show wipeE _ _ = _); rfl))
section
variable {e : Env} {P : D × Bool → Env → Prop}
/-! prod -/
def dotU (n : Nat) (r : List Int) (B : List (List Int)) (j : Nat) : Int := sumTo n fun k => ent r k * ent (row B k) j
def dotR (n bw : Nat) (r : List Int) (B : List (List Int)) : List Int := (List.range bw).map fun j => dotU n r B j % 1000003
def mulM (aw bw : Nat) (A B : List (List Int)) : List (List Int) := A.map fun r => dotR aw bw r B
theorem dotR_zero {bw : Nat} {r : List Int} {B : List (List Int)} : dotR 0 bw r B = (List.range bw).map fun _ => 0 := rfl
theorem dotR_skip {n bw : Nat} {r : List Int} {B : List (List Int)} (h : ent r n = 0) : dotR (n + 1) bw r B = dotR n bw r B := by
  unfold dotR dotU
  apply List.map_congr_left
  intro j _
  show (sumTo n _ + _) % 1000003 = _
  dsimp only
  rw [h, Int.zero_mul, Int.add_zero]
theorem dotR_len {n bw : Nat} {r : List Int} {B : List (List Int)} : (dotR n bw r B).length = bw := by unfold dotR; rw [List.length_map, List.length_range]
theorem dotR_red {n bw : Nat} {r : List Int} {B : List (List Int)} : Red (dotR n bw r B) := by
  intro x hx
  obtain ⟨j, _, rfl⟩ := List.mem_map.mp hx
  omega
theorem mul_bnd {a b : Int} (ha : 0 ≤ a ∧ a < 1000003) (hb : 0 ≤ b ∧ b < 1000003) : -(2 ^ 60) < a * b ∧ a * b < 2 ^ 60 := by
  have h1 := Int.mul_nonneg ha.1 hb.1
  have h2 : a * b ≤ 1000003 * 1000003 := Int.mul_le_mul (by omega) (by omega) hb.1 (by decide)
  omega
theorem dotR_step {n bw : Nat} {r : List Int} {B : List (List Int)} : ((List.range bw).map fun j => D.int ((ent (dotR n bw r B) j + ent r n * ent (row B n) j) % 1000003)) = (dotR (n + 1) bw r B).map D.int := by
  unfold dotR
  rw [List.map_map]
  apply List.map_congr_left
  intro j hj
  rw [ent_range (List.mem_range.mp hj)]
  show D.int ((dotU n r B j % 1000003 + ent r n * ent (row B n) j) % 1000003) = D.int ((dotU n r B j + ent r n * ent (row B n) j) % 1000003)
  rw [Int.emod_add_emod]
theorem mulM_take {aw bw i : Nat} {A B : List (List Int)} {r : List Int} (h : A[i]? = some r) : (mulM aw bw (A.take i) B).map dR ++ [dR (dotR aw bw r B)] = (mulM aw bw (A.take (i + 1)) B).map dR := by
  unfold mulM
  rw [List.take_add_one, h]
  simp
theorem mulM_shp {aw bw : Nat} {A B : List (List Int)} : Shp bw (mulM aw bw A B) := by
  intro r hr
  obtain ⟨x, _, rfl⟩ := List.mem_map.mp hr
  exact ⟨dotR_len, dotR_red⟩
theorem run_prod {ah aw bw : Nat} {A B : List (List Int)} {bh : Nat} (hA : Shp aw A) (hB : Shp bw B) (hb : B.length = aw) (ha : A.length ≤ 100) (hw : aw ≤ 100) (hv : bw ≤ 100) (k : P (dT ah bw (mulM aw bw A B), true) e) : OkM (mRun 9 2 mb__law_prod [.val (dT ah aw A), .val (dT bh bw B)]) e P := by
  refine run_v2 ?_
  unfold mb__law_prod
  have hAl := @lenM A
  have hBl := @lenM B
  repeat' contradiction
  refine okS_loop (fun i E => ∃ s3 s4 s6 s7 s8, E = [.fz (dT ah aw A), .fz (dT bh bw B), .ow (dM (mulM aw bw (A.take i) B)), s3, s4, .un, s6, s7, s8] ∧ Fr s3 ∧ Fr s4 ∧ Fr s6 ∧ Fr s7 ∧ Fr s8) ⟨.un, .un, .un, .un, .un, rfl, trivial, trivial, trivial, trivial, trivial⟩ (fun i x E hi hI => ?_) fun E hI => ?_
  · obtain ⟨s3, s4, s6, s7, s8, rfl, f3, f4, f6, f7, f8⟩ := hI
    rw [List.getElem?_map] at hi
    obtain ⟨r, hr, rfl⟩ := Option.map_eq_some_iff.mp hi
    obtain ⟨hrw, hrd⟩ := hA r (List.mem_of_getElem? hr)
    have hil : i < A.length := (List.getElem?_eq_some_iff.mp hr).1
    refine ⟨_, (by simp [set_fr f3]; rfl), ?_⟩
    have hrl := @lenR r
    repeat' contradiction
    rw [Int.toNat_natCast]
    refine okM_mapI (fun _ => .int 0) (fun j d hj => ?_) ?_
    · obtain ⟨hj, rfl⟩ := rg0_get hj
      repeat' contradiction
    · have e0 : (List.range (rgD 0 bw).length).map (fun _ => D.int 0) = (dotR 0 bw r B).map D.int := by rw [rg_len, dotR_zero, List.map_map]; rfl
      rw [e0]
      refine setK_i (by simp [wipeE, set_fr f4]; rfl) ?_
      repeat' contradiction
      rw [Int.toNat_natCast]
      refine okS_loop (fun n E => ∃ s6 s7 s8, E = [.fz (dT ah aw A), .fz (dT bh bw B), .ow (dM (mulM aw bw (A.take i) B)), .fz (dR r), .ow (dR (dotR n bw r B)), .un, s6, s7, s8] ∧ Fr s6 ∧ Fr s7 ∧ Fr s8) ⟨s6, s7, s8, rfl, f6, f7, f8⟩ (fun n x E hn hI => ?_) fun E hI => ?_
      · obtain ⟨s6, s7, s8, rfl, f6, f7, f8⟩ := hI
        obtain ⟨hn, rfl⟩ := rg0_get hn
        refine ⟨_, (by simp [set_fr f6]; rfl), ?_⟩
        obtain ⟨hBw, hBd⟩ := hB (row B n) (row_mem (by omega))
        have hrn := ent_red hrd n
        have hdl := @dotR_len n bw r B
        have hdl' := @lenR (dotR n bw r B)
        have hBr := @lenR (row B n)
        repeat' contradiction
        · rename_i z
          rw [dotR_skip z]
          exact ⟨_, _, _, rfl, trivial, f7, f8⟩
        · refine setK_i (by simp [set_fr f7]; rfl) ?_
          repeat' contradiction
          refine setK_i (by simp [set_fr f8]; rfl) ?_
          repeat' contradiction
          rw [Int.toNat_natCast]
          refine okM_mapI (fun j => .int ((ent (dotR n bw r B) j + ent r n * ent (row B n) j) % 1000003)) (fun j d hj => ?_) ?_
          · obtain ⟨hj, rfl⟩ := rg0_get hj
            have hx := ent_red hBd j
            have hy := ent_red (@dotR_red n bw r B) j
            have hxy : -(2 ^ 60) < ent r n * ent (row B n) j ∧ ent r n * ent (row B n) j < 2 ^ 60 := mul_bnd hrn hx
            repeat' contradiction
          · repeat' contradiction
            rw [rg_len, dotR_step]
            exact ⟨_, _, _, rfl, trivial, trivial, trivial⟩
      · obtain ⟨s6, s7, s8, rfl, f6, f7, f8⟩ := hI
        rw [rg_len]
        have hml : (dM (mulM aw bw (A.take i) B)) = .lst ((mulM aw bw (A.take i) B).map dR) := rfl
        have hm2 : (mulM aw bw (A.take i) B).length ≤ 100 := by unfold mulM; rw [List.length_map, List.length_take]; omega
        have hm3 := @lenM (mulM aw bw (A.take i) B)
        repeat' contradiction
        refine ⟨⟨by rw [LIM_eq]; omega⟩, chgK_i (by simp; rfl) ?_⟩
        repeat' contradiction
        rw [mulM_take hr]
        exact ⟨_, _, _, _, _, rfl, trivial, trivial, f6, f7, f8⟩
  · obtain ⟨s3, s4, s6, s7, s8, rfl, f3, f4, f6, f7, f8⟩ := hI
    rw [List.length_map, List.take_length]
    repeat' contradiction
    exact k
end
end DV
-- K2K
namespace DV
open PySem PySem.Spec PyProof.Rows L2
open Lin
local macro_rules | `(tactic| contradiction) => `(tactic| first
  | with_reducible refine okM_mod ?_
  | with_reducible refine okM_mul ?_
  | with_reducible refine okM_div ?_
  | with_reducible refine okM_pow ?_
  | with_reducible refine okM_ix ?_
  | with_reducible refine Eq.mpr okM_bin ?_
  | with_reducible refine okS_setW ?_
  | with_reducible refine okS_setIxW ?_
  | with_reducible refine okS_appW ?_
  | with_reducible refine okS_putFW ?_
  | with_reducible refine okS_parW ?_
  | with_reducible refine okM_popAtW ?_
  | with_reducible refine Eq.mpr okM_val ?_
  | with_reducible refine Eq.mpr okM_slot ?_
  | with_reducible refine Eq.mpr okM_C ?_
  | with_reducible refine Eq.mpr okM_cons ?_
  | with_reducible refine Eq.mpr okM_nil ?_
  | with_reducible refine Eq.mpr okM_call ?_
  | with_reducible refine Eq.mpr okM_var ?_
  | with_reducible refine Eq.mpr okM_un ?_
  | with_reducible refine Eq.mpr okM_list ?_
  | with_reducible refine Eq.mpr okM_tup ?_
  | with_reducible refine Eq.mpr okM_sl ?_
  | with_reducible refine Eq.mpr okM_part ?_
  | with_reducible refine Eq.mpr okM_noPart ?_
  | with_reducible refine Eq.mpr okM_cmpT ?_
  | with_reducible refine Eq.mpr okM_cmp ?_
  | with_reducible refine Eq.mpr okM_tru ?_
  | with_reducible refine Eq.mpr okM_not ?_
  | with_reducible refine Eq.mpr okM_and ?_
  | with_reducible refine Eq.mpr okM_or ?_
  | with_reducible refine Eq.mpr okM_if ?_
  | with_reducible refine Eq.mpr okM_andV ?_
  | with_reducible refine Eq.mpr okM_orV ?_
  | with_reducible refine Eq.mpr okM_iter ?_
  | with_reducible refine Eq.mpr okM_rg1 ?_
  | with_reducible refine Eq.mpr okM_rg2 ?_
  | with_reducible refine Eq.mpr okM_zip ?_
  | with_reducible refine Eq.mpr okM_lc ?_
  | with_reducible refine Eq.mpr okM_def ?_
  | with_reducible refine Eq.mpr okM_isi ?_
  | with_reducible refine Eq.mpr okM_ownL ?_
  | with_reducible refine Eq.mpr okM_pure ?_
  | with_reducible refine Eq.mpr okS_seq ?_
  | with_reducible refine Eq.mpr okS_nx ?_
  | with_reducible refine Eq.mpr okS_if ?_
  | with_reducible refine Eq.mpr okS_ret ?_
  | with_reducible refine Eq.mpr okS_retV ?_
  | with_reducible refine Eq.mpr okS_asg ?_
  | with_reducible refine Eq.mpr okS_for ?_
  | with_reducible refine Eq.mpr okS_expr ?_
  | with_reducible refine Eq.mpr okS_bk ?_
  | with_reducible refine Eq.mpr okS_ct ?_
  | with_reducible refine Eq.mpr okS_rtN ?_
  | with_reducible refine Eq.mpr okM_lend ?_
  | with_reducible refine Eq.mpr okM_make ?_
  | with_reducible refine Eq.mpr okM_enumA ?_
  | with_reducible refine Eq.mpr okM_join ?_
  | with_reducible refine setK_i (by simp only [set_un, set_fz, set_ow, set_s, Option.map_some, slOf_f, slOf_t, chg_ow, chg_io, chg_s, List.set_cons_zero, List.set_cons_succ, Int.reduceToNat, List.replicate_succ, List.replicate_zero, Nat.reduceSub, wipeE_cons, wipeE_nil]; first | done | rfl) ?_
  | with_reducible refine chgK_i (by simp only [set_un, set_fz, set_ow, set_s, Option.map_some, slOf_f, slOf_t, chg_ow, chg_io, chg_s, List.set_cons_zero, List.set_cons_succ, Int.reduceToNat, List.replicate_succ, List.replicate_zero, Nat.reduceSub, wipeE_cons, wipeE_nil]; first | done | rfl) ?_
  | with_reducible refine And.intro (GMod.mk (by omega)) ?_
  | with_reducible refine And.intro (GDiv.mk ⟨by omega, by omega⟩) ?_
  | with_reducible refine And.intro (GPow.mk ⟨by omega, by omega, by omega, by omega⟩) ?_
  | with_reducible refine And.intro (GMul.r ⟨by omega, by omega⟩) ?_
  | with_reducible refine And.intro (GMul.l ⟨by omega, by omega⟩) ?_
  | with_reducible refine split_T ?_
  | with_reducible refine split_F ?_
  | with_reducible refine split_dec (fun _ => ?_) (fun _ => ?_)
  | with_reducible refine split_neg ?_
  | with_reducible refine split_ne (fun _ => ?_) (fun _ => ?_)
  | with_reducible refine split_eqb (fun _ => ?_) (fun _ => ?_)
  | with_reducible refine And.intro (smI_of ⟨by omega, by omega⟩) ?_
  | refine ⟨_, ix_row (by first | exact seqR_d | exact seqR_t | assumption) (by omega), ?_⟩
  | refine ⟨_, ix_dM (by omega), ?_⟩
  | refine ⟨_, rfl, _, rfl, _, rfl, ?_⟩
  | refine ⟨_, rfl, _, rfl, ?_⟩
  | refine ⟨_, rfl, ⟨_, rfl⟩, ?_⟩
  | refine ⟨_, rfl, ?_⟩
  | refine ⟨_, _, rfl, ?_⟩
  | refine ⟨rfl, ?_⟩
  | refine And.intro (show List.length _ ≤ LIM by simp only [List.length_cons, List.length_nil, List.length_map, List.length_range, rg_len, LIM_eq]; omega) ?_
  | exact smI_of ⟨by omega, by omega⟩
  | ((with_reducible show wipeE _ _ = _); rfl))
section
theorem okM_gen {e : DV.Env} {P : List D → DV.Env → Prop} {g : Gt} {me : M (D × Bool)} {vs : List Nat} {ds : List D} (Q : D → Prop) (R : DV.Env → Prop) (h0 : R e) (hs : ∀ (i : Nat) (d : D) (E : DV.Env), ds[i]? = some d → R E → ∃ e1, g d E = some e1 ∧ OkM me e1 fun x e3 => Q x.1 ∧ R (wipeE e3 vs)) (hd : ∀ xs E, R E → xs.length = ds.length → (∀ x ∈ xs, Q x) → P xs E) : OkM (cLoop g mYes me vs ds) e P := by
  refine okM_cloop (fun i acc e' => R e' ∧ acc.length = i ∧ ∀ x ∈ acc, Q x) [] ⟨h0, rfl, by simp⟩ (fun i d acc e' hi ⟨h1, h2, h3⟩ => ?_) fun xs e' ⟨h1, h2, h3⟩ => ?_
  · obtain ⟨e1, h4, h5⟩ := hs i d e' hi h1
    refine ⟨e1, h4, ?_⟩
    show OkM (M.pure true) e1 _
    rw [okM_pure]
    refine ⟨fun _ => h5.mono fun x e3 ⟨h6, h7⟩ => ⟨h7, ?_, fun y hy => ?_⟩, fun z => by cases z⟩
    · rw [List.length_append, h2]; rfl
    · rcases List.mem_append.mp hy with q | q
      · exact h3 y q
      · rw [List.mem_singleton.mp q]; exact h6
  · exact hd _ _ h1 (by simpa using h2) (by simpa using h3)
theorem ints_of {xs : List D} (h : ∀ x ∈ xs, ∃ v, x = D.int v ∧ 0 ≤ v ∧ v < 1000003) : ∃ r : List Int, xs = r.map D.int ∧ r.length = xs.length ∧ Red r := by
  induction xs with
  | nil => exact ⟨[], rfl, rfl, by intro x hx; cases hx⟩
  | cons x xs ih =>
    obtain ⟨r, h1, h2, h3⟩ := ih fun y hy => h y (List.mem_cons_of_mem _ hy)
    obtain ⟨v, h4, h5⟩ := h x List.mem_cons_self
    refine ⟨v :: r, by rw [h4, h1]; rfl, by simp [h2], fun y hy => ?_⟩
    rcases List.mem_cons.mp hy with q | q
    · rw [q]; exact h5
    · exact h3 y q
theorem mat_of {w : Nat} {xs : List D} (h : ∀ x ∈ xs, ∃ r, x = dR r ∧ r.length = w ∧ Red r) : ∃ m : List (List Int), xs = m.map dR ∧ m.length = xs.length ∧ Shp w m := by
  induction xs with
  | nil => exact ⟨[], rfl, rfl, by intro x hx; cases hx⟩
  | cons x xs ih =>
    obtain ⟨r, h1, h2, h3⟩ := ih fun y hy => h y (List.mem_cons_of_mem _ hy)
    obtain ⟨v, h4, h5⟩ := h x List.mem_cons_self
    refine ⟨v :: r, by rw [h4, h1]; rfl, by simp [h2], fun y hy => ?_⟩
    rcases List.mem_cons.mp hy with q | q
    · rw [q]; exact h5
    · exact h3 y q
variable {e : Env} {P : D × Bool → Env → Prop}
theorem shp_rep {h w : Nat} : Shp w (List.replicate h (List.replicate w (0 : Int))) := by
  intro r hr
  rw [List.eq_of_mem_replicate hr]
  refine ⟨List.length_replicate, fun x hx => ?_⟩
  rw [List.eq_of_mem_replicate hx]
  decide
/-! grid -/
theorem run_grid {i : Nat} {d : D} {h w : Nat} (ho : ownD e i = some d) (hd : JOk d) (hh : h ≤ 20) (hw : w ≤ 20) (k : ∀ m d', JOk d' → m.length = h → Shp w m → P (dT h w m, true) (chg e i d')) : OkM (mRun 10 3 mb__law_grid [.slot i, .val (.int h), .val (.int w)]) e P := by
  refine run_i3 ho ?_
  unfold mb__law_grid
  repeat' contradiction
  refine run_draw rfl hd (by decide) (by decide) fun v d1 hd1 h1 h2 => ?_
  repeat' contradiction
  · refine run_empty (by omega) (by omega) ?_
    exact ⟨_, rfl, k _ _ hd1 List.length_replicate shp_rep⟩
  · refine run_empty (by omega) (by omega) ?_
    exact ⟨_, rfl, k _ _ hd1 List.length_replicate shp_rep⟩
  · refine run_draw rfl hd1 (by decide) (by decide) fun v2 d2 hd2 h3 h4 => ?_
    repeat' contradiction
    · refine run_empty (by omega) (by omega) ?_
      exact ⟨_, rfl, k _ _ hd2 List.length_replicate shp_rep⟩
    · obtain ⟨q, hq⟩ : ∃ q : Nat, (q : Int) = if (w : Int) < h then (w : Int) else h := ⟨min h w, by split <;> omega⟩
      have hq' : q ≤ 20 := by split at hq <;> omega
      rw [← hq]
      refine run_draw rfl hd2 (by omega) (by omega) fun v3 dA hdA h5 h6 => ?_
      obtain ⟨q2, rfl⟩ : ∃ q2 : Nat, v3 = q2 := ⟨v3.toNat, by omega⟩
      have hq2 : q2 ≤ 20 := by omega
      repeat' contradiction
      try rw [Int.toNat_natCast]
      refine okM_gen (fun x => ∃ r, x = dR r ∧ r.length = q2 ∧ Red r) (fun E => ∃ d, JOk d ∧ E = [.io d, .fz (.int h), .fz (.int w), .fz (.int v), .fz (.int q2), .un, .un, .un, .un, .un]) ⟨_, hdA, rfl⟩ (fun a x E ha hR => ?_) fun xs E hR hl hx => ?_
      · obtain ⟨dB, hdB, rfl⟩ := hR
        obtain ⟨ha, rfl⟩ := rg0_get ha
        refine ⟨_, rfl, ?_⟩
        repeat' contradiction
        try rw [Int.toNat_natCast]
        refine okM_gen (fun x => ∃ v, x = D.int v ∧ 0 ≤ v ∧ v < 1000003) (fun E => ∃ d, JOk d ∧ E = [.io d, .fz (.int h), .fz (.int w), .fz (.int v), .fz (.int q2), .un, .fz (.int a), .un, .un, .un]) ⟨_, hdB, rfl⟩ (fun b x E hb hR => ?_) fun ys E hR hly hy => ?_
        · obtain ⟨dC, hdC, rfl⟩ := hR
          obtain ⟨hb, rfl⟩ := rg0_get hb
          refine ⟨_, rfl, ?_⟩
          repeat' contradiction
          refine run_draw rfl hdC (by decide) (by decide) fun n dD hdD h5 h6 => ?_
          exact ⟨⟨_, rfl, h5, by omega⟩, _, hdD, rfl⟩
        · obtain ⟨dC, hdC, rfl⟩ := hR
          obtain ⟨r, rfl, hr, hrd⟩ := ints_of hy
          rw [rg_len] at hly
          exact ⟨⟨r, rfl, by omega, hrd⟩, _, hdC, rfl⟩
      · obtain ⟨dB, hdB, rfl⟩ := hR
        obtain ⟨m, rfl, hm, hS⟩ := mat_of hx
        rw [rg_len] at hl
        repeat' contradiction
        have hdA := hdB
        try rw [Int.toNat_natCast]
        refine okM_gen (fun x => ∃ r, x = dR r ∧ r.length = w ∧ Red r) (fun E => ∃ d, JOk d ∧ E = [.io d, .fz (.int h), .fz (.int w), .fz (.int v), .fz (.int q2), .ow (dT h q2 m), .un, .un, .un, .un]) ⟨_, hdA, rfl⟩ (fun a x E ha hR => ?_) fun xs E hR hl hx => ?_
        · obtain ⟨dB, hdB, rfl⟩ := hR
          obtain ⟨ha, rfl⟩ := rg0_get ha
          refine ⟨_, rfl, ?_⟩
          repeat' contradiction
          try rw [Int.toNat_natCast]
          refine okM_gen (fun x => ∃ v, x = D.int v ∧ 0 ≤ v ∧ v < 1000003) (fun E => ∃ d, JOk d ∧ E = [.io d, .fz (.int h), .fz (.int w), .fz (.int v), .fz (.int q2), .ow (dT h q2 m), .fz (.int a), .un, .un, .un]) ⟨_, hdB, rfl⟩ (fun b x E hb hR => ?_) fun ys E hR hly hy => ?_
          · obtain ⟨dC, hdC, rfl⟩ := hR
            obtain ⟨hb, rfl⟩ := rg0_get hb
            refine ⟨_, rfl, ?_⟩
            repeat' contradiction
            refine run_draw rfl hdC (by decide) (by decide) fun n dD hdD h5 h6 => ?_
            exact ⟨⟨_, rfl, h5, by omega⟩, _, hdD, rfl⟩
          · obtain ⟨dC, hdC, rfl⟩ := hR
            obtain ⟨r, rfl, hr, hrd⟩ := ints_of hy
            rw [rg_len] at hly
            exact ⟨⟨r, rfl, by omega, hrd⟩, _, hdC, rfl⟩
        · obtain ⟨dB, hdB, rfl⟩ := hR
          obtain ⟨m', rfl, hm', hS'⟩ := mat_of hx
          rw [rg_len] at hl
          repeat' contradiction
          refine run_prod hS hS' (by omega) (by omega) (by omega) (by omega) ?_
          exact ⟨_, rfl, k _ _ hdB (by unfold mulM; rw [List.length_map]; omega) mulM_shp⟩
  · have hdA := hd1
    try rw [Int.toNat_natCast]
    refine okM_gen (fun x => ∃ r, x = dR r ∧ r.length = w ∧ Red r) (fun E => ∃ d, JOk d ∧ E = [.io d, .fz (.int h), .fz (.int w), .fz (.int v), .un, .un, .un, .un, .un, .un]) ⟨_, hdA, rfl⟩ (fun a x E ha hR => ?_) fun xs E hR hl hx => ?_
    · obtain ⟨dB, hdB, rfl⟩ := hR
      obtain ⟨ha, rfl⟩ := rg0_get ha
      refine ⟨_, rfl, ?_⟩
      repeat' contradiction
      try rw [Int.toNat_natCast]
      refine okM_gen (fun x => ∃ v, x = D.int v ∧ 0 ≤ v ∧ v < 1000003) (fun E => ∃ d, JOk d ∧ E = [.io d, .fz (.int h), .fz (.int w), .fz (.int v), .un, .un, .fz (.int a), .un, .un, .un]) ⟨_, hdB, rfl⟩ (fun b x E hb hR => ?_) fun ys E hR hly hy => ?_
      · obtain ⟨dC, hdC, rfl⟩ := hR
        obtain ⟨hb, rfl⟩ := rg0_get hb
        refine ⟨_, rfl, ?_⟩
        repeat' contradiction
        refine run_number rfl hdC fun n dD hdD h5 h6 => ?_
        repeat' contradiction
        exact ⟨⟨_, rfl, by omega, by omega⟩, _, hdD, rfl⟩
      · obtain ⟨dC, hdC, rfl⟩ := hR
        obtain ⟨r, rfl, hr, hrd⟩ := ints_of hy
        rw [rg_len] at hly
        exact ⟨⟨r, rfl, by omega, hrd⟩, _, hdC, rfl⟩
    · obtain ⟨dB, hdB, rfl⟩ := hR
      obtain ⟨m, rfl, hm, hS⟩ := mat_of hx
      rw [rg_len] at hl
      repeat' contradiction
      exact k m _ hdB (by omega) hS
  · have hdA := hd1
    try rw [Int.toNat_natCast]
    refine okM_gen (fun x => ∃ r, x = dR r ∧ r.length = w ∧ Red r) (fun E => ∃ d, JOk d ∧ E = [.io d, .fz (.int h), .fz (.int w), .fz (.int v), .un, .un, .un, .un, .un, .un]) ⟨_, hdA, rfl⟩ (fun a x E ha hR => ?_) fun xs E hR hl hx => ?_
    · obtain ⟨dB, hdB, rfl⟩ := hR
      obtain ⟨ha, rfl⟩ := rg0_get ha
      refine ⟨_, rfl, ?_⟩
      repeat' contradiction
      try rw [Int.toNat_natCast]
      refine okM_gen (fun x => ∃ v, x = D.int v ∧ 0 ≤ v ∧ v < 1000003) (fun E => ∃ d, JOk d ∧ E = [.io d, .fz (.int h), .fz (.int w), .fz (.int v), .un, .un, .fz (.int a), .un, .un, .un]) ⟨_, hdB, rfl⟩ (fun b x E hb hR => ?_) fun ys E hR hly hy => ?_
      · obtain ⟨dC, hdC, rfl⟩ := hR
        obtain ⟨hb, rfl⟩ := rg0_get hb
        refine ⟨_, rfl, ?_⟩
        repeat' contradiction
        refine run_draw rfl hdC (by decide) (by decide) fun n dD hdD h5 h6 => ?_
        have h6 : n < 10 ^ 9 := h6
        repeat' contradiction
        exact ⟨⟨_, rfl, by omega, by omega⟩, _, hdD, rfl⟩
      · obtain ⟨dC, hdC, rfl⟩ := hR
        obtain ⟨r, rfl, hr, hrd⟩ := ints_of hy
        rw [rg_len] at hly
        exact ⟨⟨r, rfl, by omega, hrd⟩, _, hdC, rfl⟩
    · obtain ⟨dB, hdB, rfl⟩ := hR
      obtain ⟨m, rfl, hm, hS⟩ := mat_of hx
      rw [rg_len] at hl
      repeat' contradiction
      exact k m _ hdB (by omega) hS
  · have hdA := hd1
    try rw [Int.toNat_natCast]
    refine okM_gen (fun x => ∃ r, x = dR r ∧ r.length = w ∧ Red r) (fun E => ∃ d, JOk d ∧ E = [.io d, .fz (.int h), .fz (.int w), .fz (.int v), .un, .un, .un, .un, .un, .fz (.int 10)]) ⟨_, hdA, rfl⟩ (fun a x E ha hR => ?_) fun xs E hR hl hx => ?_
    · obtain ⟨dB, hdB, rfl⟩ := hR
      obtain ⟨ha, rfl⟩ := rg0_get ha
      refine ⟨_, rfl, ?_⟩
      repeat' contradiction
      try rw [Int.toNat_natCast]
      refine okM_gen (fun x => ∃ v, x = D.int v ∧ 0 ≤ v ∧ v < 1000003) (fun E => ∃ d, JOk d ∧ E = [.io d, .fz (.int h), .fz (.int w), .fz (.int v), .un, .un, .fz (.int a), .un, .un, .fz (.int 10)]) ⟨_, hdB, rfl⟩ (fun b x E hb hR => ?_) fun ys E hR hly hy => ?_
      · obtain ⟨dC, hdC, rfl⟩ := hR
        obtain ⟨hb, rfl⟩ := rg0_get hb
        refine ⟨_, rfl, ?_⟩
        repeat' contradiction
        refine run_draw rfl hdC (by decide) (by decide) fun n dD hdD h5 h6 => ?_
        exact ⟨⟨_, rfl, h5, by omega⟩, _, hdD, rfl⟩
      · obtain ⟨dC, hdC, rfl⟩ := hR
        obtain ⟨r, rfl, hr, hrd⟩ := ints_of hy
        rw [rg_len] at hly
        exact ⟨⟨r, rfl, by omega, hrd⟩, _, hdC, rfl⟩
    · obtain ⟨dB, hdB, rfl⟩ := hR
      obtain ⟨m, rfl, hm, hS⟩ := mat_of hx
      rw [rg_len] at hl
      repeat' contradiction
      exact k m _ hdB (by omega) hS
  · have hdA := hd1
    try rw [Int.toNat_natCast]
    refine okM_gen (fun x => ∃ r, x = dR r ∧ r.length = w ∧ Red r) (fun E => ∃ d, JOk d ∧ E = [.io d, .fz (.int h), .fz (.int w), .fz (.int v), .un, .un, .un, .un, .un, .fz (.int 3)]) ⟨_, hdA, rfl⟩ (fun a x E ha hR => ?_) fun xs E hR hl hx => ?_
    · obtain ⟨dB, hdB, rfl⟩ := hR
      obtain ⟨ha, rfl⟩ := rg0_get ha
      refine ⟨_, rfl, ?_⟩
      repeat' contradiction
      try rw [Int.toNat_natCast]
      refine okM_gen (fun x => ∃ v, x = D.int v ∧ 0 ≤ v ∧ v < 1000003) (fun E => ∃ d, JOk d ∧ E = [.io d, .fz (.int h), .fz (.int w), .fz (.int v), .un, .un, .fz (.int a), .un, .un, .fz (.int 3)]) ⟨_, hdB, rfl⟩ (fun b x E hb hR => ?_) fun ys E hR hly hy => ?_
      · obtain ⟨dC, hdC, rfl⟩ := hR
        obtain ⟨hb, rfl⟩ := rg0_get hb
        refine ⟨_, rfl, ?_⟩
        repeat' contradiction
        refine run_draw rfl hdC (by decide) (by decide) fun n dD hdD h5 h6 => ?_
        exact ⟨⟨_, rfl, h5, by omega⟩, _, hdD, rfl⟩
      · obtain ⟨dC, hdC, rfl⟩ := hR
        obtain ⟨r, rfl, hr, hrd⟩ := ints_of hy
        rw [rg_len] at hly
        exact ⟨⟨r, rfl, by omega, hrd⟩, _, hdC, rfl⟩
    · obtain ⟨dB, hdB, rfl⟩ := hR
      obtain ⟨m, rfl, hm, hS⟩ := mat_of hx
      rw [rg_len] at hl
      repeat' contradiction
      exact k m _ hdB (by omega) hS
end
end DV
-- K2L
namespace DV
open PySem PySem.Spec PyProof.Rows L2
open Lin
local macro_rules | `(tactic| contradiction) => `(tactic| first
  | with_reducible refine okM_mod ?_
  | with_reducible refine okM_mul ?_
  | with_reducible refine okM_div ?_
  | with_reducible refine okM_pow ?_
  | with_reducible refine okM_ix ?_
  | with_reducible refine Eq.mpr okM_bin ?_
  | with_reducible refine okS_setW ?_
  | with_reducible refine okS_setIxW ?_
  | with_reducible refine okS_appW ?_
  | with_reducible refine okS_putFW ?_
  | with_reducible refine okS_parW ?_
  | with_reducible refine okM_popAtW ?_
  | with_reducible refine Eq.mpr okM_val ?_
  | with_reducible refine Eq.mpr okM_slot ?_
  | with_reducible refine Eq.mpr okM_C ?_
  | with_reducible refine Eq.mpr okM_cons ?_
  | with_reducible refine Eq.mpr okM_nil ?_
  | with_reducible refine Eq.mpr okM_call ?_
  | with_reducible refine Eq.mpr okM_var ?_
  | with_reducible refine Eq.mpr okM_un ?_
  | with_reducible refine Eq.mpr okM_list ?_
  | with_reducible refine Eq.mpr okM_tup ?_
  | with_reducible refine Eq.mpr okM_sl ?_
  | with_reducible refine Eq.mpr okM_part ?_
  | with_reducible refine Eq.mpr okM_noPart ?_
  | with_reducible refine Eq.mpr okM_cmpT ?_
  | with_reducible refine Eq.mpr okM_cmp ?_
  | with_reducible refine Eq.mpr okM_tru ?_
  | with_reducible refine Eq.mpr okM_not ?_
  | with_reducible refine Eq.mpr okM_and ?_
  | with_reducible refine Eq.mpr okM_or ?_
  | with_reducible refine Eq.mpr okM_if ?_
  | with_reducible refine Eq.mpr okM_andV ?_
  | with_reducible refine Eq.mpr okM_orV ?_
  | with_reducible refine Eq.mpr okM_iter ?_
  | with_reducible refine Eq.mpr okM_rg1 ?_
  | with_reducible refine Eq.mpr okM_rg2 ?_
  | with_reducible refine Eq.mpr okM_zip ?_
  | with_reducible refine Eq.mpr okM_lc ?_
  | with_reducible refine Eq.mpr okM_def ?_
  | with_reducible refine Eq.mpr okM_isi ?_
  | with_reducible refine Eq.mpr okM_ownL ?_
  | with_reducible refine Eq.mpr okM_pure ?_
  | with_reducible refine Eq.mpr okS_seq ?_
  | with_reducible refine Eq.mpr okS_nx ?_
  | with_reducible refine Eq.mpr okS_if ?_
  | with_reducible refine Eq.mpr okS_ret ?_
  | with_reducible refine Eq.mpr okS_retV ?_
  | with_reducible refine Eq.mpr okS_asg ?_
  | with_reducible refine Eq.mpr okS_for ?_
  | with_reducible refine Eq.mpr okS_expr ?_
  | with_reducible refine Eq.mpr okS_bk ?_
  | with_reducible refine Eq.mpr okS_ct ?_
  | with_reducible refine Eq.mpr okS_rtN ?_
  | with_reducible refine Eq.mpr okM_lend ?_
  | with_reducible refine Eq.mpr okM_make ?_
  | with_reducible refine Eq.mpr okM_enumA ?_
  | with_reducible refine Eq.mpr okM_join ?_
  | with_reducible refine setK_i (by simp only [set_un, set_fz, set_ow, set_s, Option.map_some, slOf_f, slOf_t, chg_ow, chg_io, chg_s, List.set_cons_zero, List.set_cons_succ, Int.reduceToNat, List.replicate_succ, List.replicate_zero, Nat.reduceSub, wipeE_cons, wipeE_nil]; first | done | rfl) ?_
  | with_reducible refine chgK_i (by simp only [set_un, set_fz, set_ow, set_s, Option.map_some, slOf_f, slOf_t, chg_ow, chg_io, chg_s, List.set_cons_zero, List.set_cons_succ, Int.reduceToNat, List.replicate_succ, List.replicate_zero, Nat.reduceSub, wipeE_cons, wipeE_nil]; first | done | rfl) ?_
  | with_reducible refine And.intro (GMod.mk (by omega)) ?_
  | with_reducible refine And.intro (GDiv.mk ⟨by omega, by omega⟩) ?_
  | with_reducible refine And.intro (GPow.mk ⟨by omega, by omega, by omega, by omega⟩) ?_
  | with_reducible refine And.intro (GMul.r ⟨by omega, by omega⟩) ?_
  | with_reducible refine And.intro (GMul.l ⟨by omega, by omega⟩) ?_
  | with_reducible refine split_T ?_
  | with_reducible refine split_F ?_
  | with_reducible refine split_dec (fun _ => ?_) (fun _ => ?_)
  | with_reducible refine split_neg ?_
  | with_reducible refine split_ne (fun _ => ?_) (fun _ => ?_)
  | with_reducible refine split_eqb (fun _ => ?_) (fun _ => ?_)
  | with_reducible refine And.intro (smI_of ⟨by omega, by omega⟩) ?_
  | refine ⟨_, ix_row (by first | exact seqR_d | exact seqR_t | assumption) (by omega), ?_⟩
  | refine ⟨_, ix_dM (by omega), ?_⟩
  | refine ⟨_, rfl, _, rfl, _, rfl, ?_⟩
  | refine ⟨_, rfl, _, rfl, ?_⟩
  | refine ⟨_, rfl, ⟨_, rfl⟩, ?_⟩
  | refine ⟨_, rfl, ?_⟩
  | refine ⟨_, _, rfl, ?_⟩
  | refine ⟨rfl, ?_⟩
  | refine And.intro (show List.length _ ≤ LIM by simp only [List.length_cons, List.length_nil, List.length_map, List.length_range, rg_len, LIM_eq]; omega) ?_
  | exact smI_of ⟨by omega, by omega⟩
  | ((with_reducible show wipeE _ _ = _); rfl))
section
theorem okM_genI {e : DV.Env} {P : List D → DV.Env → Prop} {g : Gt} {me : M (D × Bool)} {vs : List Nat} {ds : List D} (Q : Nat → D → Prop) (R : DV.Env → Prop) (h0 : R e) (hs : ∀ (i : Nat) (d : D) (E : DV.Env), ds[i]? = some d → R E → ∃ e1, g d E = some e1 ∧ OkM me e1 fun x e3 => Q i x.1 ∧ R (wipeE e3 vs)) (hd : ∀ xs E, R E → xs.length = ds.length → (∀ i x, xs[i]? = some x → Q i x) → P xs E) : OkM (cLoop g mYes me vs ds) e P := by
  refine okM_cloop (fun i acc e' => R e' ∧ acc.length = i ∧ ∀ j x, acc[j]? = some x → Q j x) [] ⟨h0, rfl, by simp⟩ (fun i d acc e' hi ⟨h1, h2, h3⟩ => ?_) fun xs e' ⟨h1, h2, h3⟩ => ?_
  · obtain ⟨e1, h4, h5⟩ := hs i d e' hi h1
    refine ⟨e1, h4, ?_⟩
    show OkM (M.pure true) e1 _
    rw [okM_pure]
    refine ⟨fun _ => h5.mono fun x e3 ⟨h6, h7⟩ => ⟨h7, ?_, fun j y hy => ?_⟩, fun z => by cases z⟩
    · rw [List.length_append, h2]; rfl
    · rw [List.getElem?_append] at hy
      split at hy
      · exact h3 j y hy
      · rename_i hj
        have hj2 : j = acc.length := by
          have := (List.getElem?_eq_some_iff.mp hy).1
          simp at this; omega
        subst hj2
        rw [Nat.sub_self] at hy
        cases hy
        rw [h2]; exact h6
  · exact hd _ _ h1 (by simpa using h2) (by simpa using h3)
/-! disguised: the same numbers modulo the prime -/
def Dis (m m' : List (List Int)) : Prop := m'.map (fun r => r.map (· % 1000003)) = m ∧ ∀ r ∈ m', ∀ x ∈ r, -(2 ^ 90) < x ∧ x < 2 ^ 90
theorem Dis.refl {w : Nat} {m : List (List Int)} (h : Shp w m) : Dis m m := by
  refine ⟨?_, fun r hr x hx => ?_⟩
  · conv => rhs; rw [← List.map_id m]
    apply List.map_congr_left
    intro r hr
    conv => rhs; rw [id, ← List.map_id r]
    apply List.map_congr_left
    intro x hx
    have := (h r hr).2 x hx
    show x % 1000003 = x
    omega
  · have := (h r hr).2 x hx
    omega
theorem ints_at {q : Int → Prop} {f : Int → Int} : ∀ {r : List Int} {xs : List D}, xs.length = r.length → (∀ i x, xs[i]? = some x → ∃ v, x = D.int v ∧ f v = ent r i ∧ q v) → ∃ r' : List Int, xs = r'.map D.int ∧ r'.map f = r ∧ ∀ v ∈ r', q v
  | [], [], _, _ => ⟨[], rfl, rfl, by intro v hv; cases hv⟩
  | a :: r, x :: xs, hl, h => by
    obtain ⟨r', h1, h2, h3⟩ := ints_at (r := r) (xs := xs) (by simpa using hl) fun i y hy => h (i + 1) y (by simpa using hy)
    obtain ⟨v, h4, h5, h6⟩ := h 0 x rfl
    have h5 : f v = a := h5
    refine ⟨v :: r', by rw [h4, h1]; rfl, by rw [List.map_cons, h5, h2], fun y hy => ?_⟩
    rcases List.mem_cons.mp hy with z | z
    · rw [z]; exact h6
    · exact h3 y z
  | [], x :: xs, hl, _ => by simp at hl
  | a :: r, [], hl, _ => by simp at hl
theorem rows_at {q : List Int → Prop} {f : List Int → List Int} : ∀ {r : List (List Int)} {xs : List D}, xs.length = r.length → (∀ i x, xs[i]? = some x → ∃ v, x = dR v ∧ f v = row r i ∧ q v) → ∃ r' : List (List Int), xs = r'.map dR ∧ r'.map f = r ∧ ∀ v ∈ r', q v
  | [], [], _, _ => ⟨[], rfl, rfl, by intro v hv; cases hv⟩
  | a :: r, x :: xs, hl, h => by
    obtain ⟨r', h1, h2, h3⟩ := rows_at (r := r) (xs := xs) (by simpa using hl) fun i y hy => h (i + 1) y (by simpa using hy)
    obtain ⟨v, h4, h5, h6⟩ := h 0 x rfl
    have h5 : f v = a := h5
    refine ⟨v :: r', by rw [h4, h1]; rfl, by rw [List.map_cons, h5, h2], fun y hy => ?_⟩
    rcases List.mem_cons.mp hy with z | z
    · rw [z]; exact h6
    · exact h3 y z
  | [], x :: xs, hl, _ => by simp at hl
  | a :: r, [], hl, _ => by simp at hl
variable {e : Env} {P : D × Bool → Env → Prop}
theorem run_disguised {i : Nat} {d : D} {h w : Nat} {m : List (List Int)} (ho : ownD e i = some d) (hd : JOk d) (hm : m.length ≤ 20) (hw : w ≤ 20) (hS : Shp w m) (k : ∀ m' d', JOk d' → Dis m m' → P (dM m', true) (chg e i d')) : OkM (mRun 6 2 mb__law_disguised [.slot i, .val (dT h w m)]) e P := by
  refine run_i2 ho ?_
  unfold mb__law_disguised
  have hml := @lenM m
  repeat' contradiction
  refine run_draw rfl hd (by decide) (by decide) fun v d1 hd1 h1 h2 => ?_
  repeat' contradiction
  · refine okM_map id (fun x hx => ?_) ?_
    · obtain ⟨r, hr, rfl⟩ := List.mem_map.mp hx
      repeat' contradiction
    · rw [List.map_id]
      repeat' contradiction
      exact k m _ hd1 (.refl hS)
  · refine run_draw rfl hd1 (by decide) (by decide) fun v2 d2 hd2 h3 h4 => ?_
    repeat' contradiction
    · refine okM_genI (fun a x => ∃ r, x = dR r ∧ r.map (· % 1000003) = row m a ∧ ∀ x ∈ r, -(2 ^ 90) < x ∧ x < 2 ^ 90) (fun E => ∃ d, JOk d ∧ E = [.io d, .fz (dT h w m), .un, .fz (.int v2), .fz (.int (1000003 * 1)), .un]) ⟨_, hd2, rfl⟩ (fun a x E ha hR => ?_) fun xs E hR hl hx => ?_
      · obtain ⟨d, hdA, rfl⟩ := hR
        rw [List.getElem?_map] at ha
        obtain ⟨r, hr, rfl⟩ := Option.map_eq_some_iff.mp ha
        obtain ⟨hrw, hrd⟩ := hS r (List.mem_of_getElem? hr)
        have hra : row m a = r := by have hal := (List.getElem?_eq_some_iff.mp hr).1; rw [row_lt hal] at hr; exact Option.some.inj hr
        have hrl := @lenR r
        refine ⟨_, rfl, ?_⟩
        repeat' contradiction
        refine okM_genI (fun b x => ∃ v, x = D.int v ∧ v % 1000003 = ent r b ∧ (-(2 ^ 90) < v ∧ v < 2 ^ 90)) (fun E => ∃ d, JOk d ∧ E = [.io d, .fz (dT h w m), .fz (dR r), .fz (.int v2), .fz (.int (1000003 * 1)), .un]) ⟨_, hdA, rfl⟩ (fun b x E hb hR => ?_) fun ys E hR hly hy => ?_
        · obtain ⟨d, hdB, rfl⟩ := hR
          rw [List.getElem?_map] at hb
          obtain ⟨n, hn, rfl⟩ := Option.map_eq_some_iff.mp hb
          have hnd := hrd n (List.mem_of_getElem? hn)
          have hnb : ent r b = n := by have hal := (List.getElem?_eq_some_iff.mp hn).1; rw [ent_lt hal] at hn; exact Option.some.inj hn
          refine ⟨_, rfl, ?_⟩
          repeat' contradiction
          refine run_draw rfl hdB (by decide) (by decide) fun u dC hdC h5 h6 => ?_
          repeat' contradiction
          refine ⟨⟨_, rfl, ?_, ?_, ?_⟩, _, hdC, rfl⟩
          · rw [hnb]; omega
          · omega
          · omega
        · obtain ⟨d, hdB, rfl⟩ := hR
          obtain ⟨r', rfl, h7, h8⟩ := ints_at (f := (· % 1000003)) (q := fun v => -(2 ^ 90) < v ∧ v < 2 ^ 90) (by rw [hly, List.length_map]) hy
          exact ⟨⟨r', rfl, by rw [h7, hra], h8⟩, _, hdB, rfl⟩
      · obtain ⟨d, hdB, rfl⟩ := hR
        obtain ⟨m', rfl, h7, h8⟩ := rows_at (f := fun r => r.map (· % 1000003)) (q := fun r => ∀ x ∈ r, -(2 ^ 90) < x ∧ x < 2 ^ 90) (by rw [hl, List.length_map]) hx
        exact ⟨_, rfl, k m' _ hdB ⟨h7, h8⟩⟩
    · refine okM_genI (fun a x => ∃ r, x = dR r ∧ r.map (· % 1000003) = row m a ∧ ∀ x ∈ r, -(2 ^ 90) < x ∧ x < 2 ^ 90) (fun E => ∃ d, JOk d ∧ E = [.io d, .fz (dT h w m), .un, .fz (.int v2), .fz (.int (1000003 * 10 ^ 20)), .un]) ⟨_, hd2, rfl⟩ (fun a x E ha hR => ?_) fun xs E hR hl hx => ?_
      · obtain ⟨d, hdA, rfl⟩ := hR
        rw [List.getElem?_map] at ha
        obtain ⟨r, hr, rfl⟩ := Option.map_eq_some_iff.mp ha
        obtain ⟨hrw, hrd⟩ := hS r (List.mem_of_getElem? hr)
        have hra : row m a = r := by have hal := (List.getElem?_eq_some_iff.mp hr).1; rw [row_lt hal] at hr; exact Option.some.inj hr
        have hrl := @lenR r
        refine ⟨_, rfl, ?_⟩
        repeat' contradiction
        refine okM_genI (fun b x => ∃ v, x = D.int v ∧ v % 1000003 = ent r b ∧ (-(2 ^ 90) < v ∧ v < 2 ^ 90)) (fun E => ∃ d, JOk d ∧ E = [.io d, .fz (dT h w m), .fz (dR r), .fz (.int v2), .fz (.int (1000003 * 10 ^ 20)), .un]) ⟨_, hdA, rfl⟩ (fun b x E hb hR => ?_) fun ys E hR hly hy => ?_
        · obtain ⟨d, hdB, rfl⟩ := hR
          rw [List.getElem?_map] at hb
          obtain ⟨n, hn, rfl⟩ := Option.map_eq_some_iff.mp hb
          have hnd := hrd n (List.mem_of_getElem? hn)
          have hnb : ent r b = n := by have hal := (List.getElem?_eq_some_iff.mp hn).1; rw [ent_lt hal] at hn; exact Option.some.inj hn
          refine ⟨_, rfl, ?_⟩
          repeat' contradiction
          refine run_draw rfl hdB (by decide) (by decide) fun u dC hdC h5 h6 => ?_
          repeat' contradiction
          refine ⟨⟨_, rfl, ?_, ?_, ?_⟩, _, hdC, rfl⟩
          · rw [hnb]; omega
          · omega
          · omega
        · obtain ⟨d, hdB, rfl⟩ := hR
          obtain ⟨r', rfl, h7, h8⟩ := ints_at (f := (· % 1000003)) (q := fun v => -(2 ^ 90) < v ∧ v < 2 ^ 90) (by rw [hly, List.length_map]) hy
          exact ⟨⟨r', rfl, by rw [h7, hra], h8⟩, _, hdB, rfl⟩
      · obtain ⟨d, hdB, rfl⟩ := hR
        obtain ⟨m', rfl, h7, h8⟩ := rows_at (f := fun r => r.map (· % 1000003)) (q := fun r => ∀ x ∈ r, -(2 ^ 90) < x ∧ x < 2 ^ 90) (by rw [hl, List.length_map]) hx
        exact ⟨_, rfl, k m' _ hdB ⟨h7, h8⟩⟩
end
end DV
-- K2M
namespace DV
open PySem PySem.Spec PyProof.Rows L2
open Lin
local macro_rules | `(tactic| contradiction) => `(tactic| first
  | with_reducible refine okM_mod ?_
  | with_reducible refine okM_mul ?_
  | with_reducible refine okM_div ?_
  | with_reducible refine okM_pow ?_
  | with_reducible refine okM_ix ?_
  | with_reducible refine Eq.mpr okM_bin ?_
  | with_reducible refine okS_setW ?_
  | with_reducible refine okS_setIxW ?_
  | with_reducible refine okS_appW ?_
  | with_reducible refine okS_putFW ?_
  | with_reducible refine okS_parW ?_
  | with_reducible refine okM_popAtW ?_
  | with_reducible refine Eq.mpr okM_val ?_
  | with_reducible refine Eq.mpr okM_slot ?_
  | with_reducible refine Eq.mpr okM_C ?_
  | with_reducible refine Eq.mpr okM_cons ?_
  | with_reducible refine Eq.mpr okM_nil ?_
  | with_reducible refine Eq.mpr okM_call ?_
  | with_reducible refine Eq.mpr okM_var ?_
  | with_reducible refine Eq.mpr okM_un ?_
  | with_reducible refine Eq.mpr okM_list ?_
  | with_reducible refine Eq.mpr okM_tup ?_
  | with_reducible refine Eq.mpr okM_sl ?_
  | with_reducible refine Eq.mpr okM_part ?_
  | with_reducible refine Eq.mpr okM_noPart ?_
  | with_reducible refine Eq.mpr okM_cmpT ?_
  | with_reducible refine Eq.mpr okM_cmp ?_
  | with_reducible refine Eq.mpr okM_tru ?_
  | with_reducible refine Eq.mpr okM_not ?_
  | with_reducible refine Eq.mpr okM_and ?_
  | with_reducible refine Eq.mpr okM_or ?_
  | with_reducible refine Eq.mpr okM_if ?_
  | with_reducible refine Eq.mpr okM_andV ?_
  | with_reducible refine Eq.mpr okM_orV ?_
  | with_reducible refine Eq.mpr okM_iter ?_
  | with_reducible refine Eq.mpr okM_rg1 ?_
  | with_reducible refine Eq.mpr okM_rg2 ?_
  | with_reducible refine Eq.mpr okM_zip ?_
  | with_reducible refine Eq.mpr okM_lc ?_
  | with_reducible refine Eq.mpr okM_def ?_
  | with_reducible refine Eq.mpr okM_isi ?_
  | with_reducible refine Eq.mpr okM_ownL ?_
  | with_reducible refine Eq.mpr okM_pure ?_
  | with_reducible refine Eq.mpr okS_seq ?_
  | with_reducible refine Eq.mpr okS_nx ?_
  | with_reducible refine Eq.mpr okS_if ?_
  | with_reducible refine Eq.mpr okS_ret ?_
  | with_reducible refine Eq.mpr okS_retV ?_
  | with_reducible refine Eq.mpr okS_asg ?_
  | with_reducible refine Eq.mpr okS_for ?_
  | with_reducible refine Eq.mpr okS_expr ?_
  | with_reducible refine Eq.mpr okS_bk ?_
  | with_reducible refine Eq.mpr okS_ct ?_
  | with_reducible refine Eq.mpr okS_rtN ?_
  | with_reducible refine Eq.mpr okM_lend ?_
  | with_reducible refine Eq.mpr okM_make ?_
  | with_reducible refine Eq.mpr okM_enumA ?_
  | with_reducible refine Eq.mpr okM_join ?_
  | with_reducible refine setK_i (by simp only [set_un, set_fz, set_ow, set_s, Option.map_some, slOf_f, slOf_t, chg_ow, chg_io, chg_s, List.set_cons_zero, List.set_cons_succ, Int.reduceToNat, List.replicate_succ, List.replicate_zero, Nat.reduceSub, wipeE_cons, wipeE_nil]; first | done | rfl) ?_
  | with_reducible refine chgK_i (by simp only [set_un, set_fz, set_ow, set_s, Option.map_some, slOf_f, slOf_t, chg_ow, chg_io, chg_s, List.set_cons_zero, List.set_cons_succ, Int.reduceToNat, List.replicate_succ, List.replicate_zero, Nat.reduceSub, wipeE_cons, wipeE_nil]; first | done | rfl) ?_
  | with_reducible refine And.intro (GMod.mk (by omega)) ?_
  | with_reducible refine And.intro (GDiv.mk ⟨by omega, by omega⟩) ?_
  | with_reducible refine And.intro (GPow.mk ⟨by omega, by omega, by omega, by omega⟩) ?_
  | with_reducible refine And.intro (GMul.r ⟨by omega, by omega⟩) ?_
  | with_reducible refine And.intro (GMul.l ⟨by omega, by omega⟩) ?_
  | with_reducible refine split_T ?_
  | with_reducible refine split_F ?_
  | with_reducible refine split_dec (fun _ => ?_) (fun _ => ?_)
  | with_reducible refine split_neg ?_
  | with_reducible refine split_ne (fun _ => ?_) (fun _ => ?_)
  | with_reducible refine split_eqb (fun _ => ?_) (fun _ => ?_)
  | with_reducible refine And.intro (smI_of ⟨by omega, by omega⟩) ?_
  | refine ⟨_, ix_row (by first | exact seqR_d | exact seqR_t | assumption) (by omega), ?_⟩
  | refine ⟨_, ix_dM (by omega), ?_⟩
  | refine ⟨_, rfl, _, rfl, _, rfl, ?_⟩
  | refine ⟨_, rfl, _, rfl, ?_⟩
  | refine ⟨_, rfl, ⟨_, rfl⟩, ?_⟩
  | refine ⟨_, rfl, ?_⟩
  | refine ⟨_, _, rfl, ?_⟩
  | refine ⟨rfl, ?_⟩
  | refine And.intro (show List.length _ ≤ LIM by simp only [List.length_cons, List.length_nil, List.length_map, List.length_range, rg_len, LIM_eq]; omega) ?_
  | exact smI_of ⟨by omega, by omega⟩
  | ((with_reducible show wipeE _ _ = _); rfl))
section
theorem ofs_len (s : String) : (Str.ofString s).length = s.toList.length := by
  rw [Str.ofString_eq_toList]
  show ((s.toList.map Char.toNat).toArray).size = _
  simp
theorem str_len {n : Int} (h0 : 0 ≤ n) (h1 : n < 1000003) : (Str.ofString (toString n)).length ≤ 7 := by
  obtain ⟨k, rfl⟩ := Int.eq_ofNat_of_zero_le h0
  rw [ofs_len]
  have e1 : (toString (k : Int)).toList = Nat.toDigits 10 k := by
    show (Int.repr (k : Int)).toList = _
    show (Nat.repr k).toList = _
    rw [Nat.repr_eq_ofList_toDigits]
    simp
  rw [e1]
  exact (Nat.length_toDigits_le_iff (by decide) (by decide)).mpr (by omega)
theorem toStrs_map {ys : List Str} : toStrs (ys.map D.str) = some ys := by
  induction ys with
  | nil => rfl
  | cons y ys ih => simp only [List.map_cons, toStrs, ih]; rfl
theorem sum_le {c : Nat} : ∀ {ys : List Str}, (∀ y ∈ ys, y.length ≤ c) → (ys.map (·.length)).sum ≤ ys.length * c
  | [], _ => Nat.zero_le _
  | y :: ys, h => by
    have h1 := sum_le (ys := ys) fun z hz => h z (List.mem_cons_of_mem _ hz)
    have h2 := h y List.mem_cons_self
    have h3 : (ys.length + 1) * c = ys.length * c + c := Nat.succ_mul _ _
    simp only [List.map_cons, List.sum_cons, List.length_cons]
    omega
theorem join_ok {s : Str} {ys : List Str} {c : Nat} (hc : ∀ y ∈ ys, y.length ≤ c) (hs : s.length ≤ 10) (hy : ys.length ≤ 100) (hc2 : c ≤ 10000) : opJoin (.str s) (.lst (ys.map D.str)) = some (.str (Txt.join s ys), false) := by
  unfold opJoin
  dsimp only
  rw [items_lst]
  simp only [Option.bind_some]
  rw [toStrs_map]
  simp only [Option.bind_some]
  have h1 := sum_le hc
  have h2 : ys.length * c ≤ 100 * 10000 := Nat.mul_le_mul hy hc2
  have h3 : ys.length * s.length ≤ 100 * 10 := Nat.mul_le_mul hy hs
  rw [if_pos (by omega)]
theorem sjoin_len {s : Str} : ∀ {ys : List Str}, (Str.join s ys).length ≤ (ys.map (·.length)).sum + ys.length * s.length
  | [] => Nat.zero_le _
  | [x] => by
    show x.length ≤ _
    simp only [List.map_cons, List.sum_cons]
    omega
  | x :: y :: r => by
    have h := sjoin_len (s := s) (ys := y :: r)
    show (x ++ s ++ Str.join s (y :: r)).length ≤ _
    rw [PySem.Str.length_append, PySem.Str.length_append]
    have h3 : ((y :: r).length + 1) * s.length = (y :: r).length * s.length + s.length := Nat.succ_mul _ _
    rw [List.map_cons, List.sum_cons, List.length_cons, h3]
    omega
theorem join_len {s : Str} {ys : List Str} {c : Nat} (hc : ∀ y ∈ ys, y.length ≤ c) (hs : s.length ≤ 3) (hy : ys.length ≤ 100) (hc2 : c ≤ 7) : (Txt.join s ys).length ≤ 1000 := by
  show (Builtin.Str.glued s ys).length ≤ _
  rw [StrLaws.glued_eq_join]
  have h1 := sum_le hc
  have h2 : ys.length * c ≤ 100 * 7 := Nat.mul_le_mul hy hc2
  have h3 : ys.length * s.length ≤ 100 * 3 := Nat.mul_le_mul hy hs
  have h4 := @sjoin_len s ys
  omega
def txtR (r : List Int) : List Str := r.map fun n => Str.ofString (toString n)
def rowText (r : List Int) : Str := Txt.join " " (txtR r)
theorem txtR_le {r : List Int} (h : Red r) : ∀ y ∈ txtR r, y.length ≤ 7 := fun y hy => by
  obtain ⟨n, hn, rfl⟩ := List.mem_map.mp hy
  exact str_len (h n hn).1 (h n hn).2
variable {e : Env} {P : D × Bool → Env → Prop}
/-! table_text -/
theorem run_table_text {m : List (List Int)} {w : Nat} (hm : m.length ≤ 20) (hw : w ≤ 40) (hS : Shp w m) (k : ∀ s, P (.str s, false) e) : OkM (mRun 4 2 mb_table_text [.val (tM m), .val (.int w)]) e P := by
  refine run_v2 ?_
  unfold mb_table_text
  have hml : (m.map tR).length = m.length := List.length_map _
  repeat' contradiction
  · exact k _
  · exact k _
  · refine okM_map (fun d => match d with | .tup xs => (match toInts xs with | some r => .str (rowText r) | none => d) | _ => d) (fun d hd => ?_) ?_
    · obtain ⟨r, hr, rfl⟩ := List.mem_map.mp hd
      obtain ⟨hrw, hrd⟩ := hS r hr
      have hrl := @lenR r
      refine ⟨_, rfl, ?_⟩
      repeat' contradiction
      refine okM_map (fun d => match d with | .int n => .str (Str.ofString (toString n)) | _ => d) (fun d hd => ?_) ?_
      · obtain ⟨n, hn, rfl⟩ := List.mem_map.mp hd
        have hnd := hrd n hn
        refine ⟨_, rfl, ?_⟩
        repeat' contradiction
        have e2 : oStr (.int n) = some (.str (Str.ofString (toString n)), false) := by
          show (if n.natAbs.log2 < 1920 then _ else _) = _
          rw [if_pos]
          by_cases z : n.natAbs = 0
          · rw [z]; decide
          · refine Nat.lt_of_lt_of_le ((Nat.log2_lt z (k := 20)).mpr (by omega)) (by decide)
        exact ⟨_, e2, rfl, rfl⟩
      · have e1 : (r.map D.int).map (fun d => match d with | .int n => D.str (Str.ofString (toString n)) | _ => d) = (txtR r).map D.str := by
          unfold txtR
          rw [List.map_map, List.map_map]; rfl
        rw [e1]
        refine ⟨_, rfl, _, join_ok (c := 7) (txtR_le hrd) (by decide +kernel) (by unfold txtR; rw [List.length_map]; omega) (by decide), ?_, rfl⟩
        show _ = (match toInts (r.map D.int) with | some r => D.str (rowText r) | none => _)
        rw [toInts_ints]; rfl
    · have e1 : (m.map tR).map (fun d => match d with | .tup xs => (match toInts xs with | some r => D.str (rowText r) | none => d) | _ => d) = (m.map rowText).map D.str := by
        rw [List.map_map, List.map_map]
        apply List.map_congr_left
        intro r _
        show (match toInts (r.map D.int) with | some r => D.str (rowText r) | none => _) = _
        rw [toInts_ints]; rfl
      rw [e1]
      refine ⟨_, rfl, _, join_ok (c := 1000) (fun y hy => ?_) (by decide +kernel) (by rw [List.length_map]; omega) (by decide), k _⟩
      obtain ⟨r, hr, rfl⟩ := List.mem_map.mp hy
      exact join_len (txtR_le (hS r hr).2) (by decide +kernel) (by unfold txtR; rw [List.length_map, (hS r hr).1]; omega) (by decide)
end
end DV
-- K2N
namespace DV
open PySem PySem.Spec PyProof.Rows L2
open Lin
local macro_rules | `(tactic| contradiction) => `(tactic| first
  | with_reducible refine okM_mod ?_
  | with_reducible refine okM_mul ?_
  | with_reducible refine okM_div ?_
  | with_reducible refine okM_pow ?_
  | with_reducible refine okM_ix ?_
  | with_reducible refine Eq.mpr okM_bin ?_
  | with_reducible refine okS_setW ?_
  | with_reducible refine okS_setIxW ?_
  | with_reducible refine okS_appW ?_
  | with_reducible refine okS_putFW ?_
  | with_reducible refine okS_parW ?_
  | with_reducible refine okM_popAtW ?_
  | with_reducible refine Eq.mpr okM_val ?_
  | with_reducible refine Eq.mpr okM_slot ?_
  | with_reducible refine Eq.mpr okM_C ?_
  | with_reducible refine Eq.mpr okM_cons ?_
  | with_reducible refine Eq.mpr okM_nil ?_
  | with_reducible refine Eq.mpr okM_call ?_
  | with_reducible refine Eq.mpr okM_var ?_
  | with_reducible refine Eq.mpr okM_un ?_
  | with_reducible refine Eq.mpr okM_list ?_
  | with_reducible refine Eq.mpr okM_tup ?_
  | with_reducible refine Eq.mpr okM_sl ?_
  | with_reducible refine Eq.mpr okM_part ?_
  | with_reducible refine Eq.mpr okM_noPart ?_
  | with_reducible refine Eq.mpr okM_cmpT ?_
  | with_reducible refine Eq.mpr okM_cmp ?_
  | with_reducible refine Eq.mpr okM_tru ?_
  | with_reducible refine Eq.mpr okM_not ?_
  | with_reducible refine Eq.mpr okM_and ?_
  | with_reducible refine Eq.mpr okM_or ?_
  | with_reducible refine Eq.mpr okM_if ?_
  | with_reducible refine Eq.mpr okM_andV ?_
  | with_reducible refine Eq.mpr okM_orV ?_
  | with_reducible refine Eq.mpr okM_iter ?_
  | with_reducible refine Eq.mpr okM_rg1 ?_
  | with_reducible refine Eq.mpr okM_rg2 ?_
  | with_reducible refine Eq.mpr okM_zip ?_
  | with_reducible refine Eq.mpr okM_lc ?_
  | with_reducible refine Eq.mpr okM_def ?_
  | with_reducible refine Eq.mpr okM_isi ?_
  | with_reducible refine Eq.mpr okM_ownL ?_
  | with_reducible refine Eq.mpr okM_pure ?_
  | with_reducible refine Eq.mpr okS_seq ?_
  | with_reducible refine Eq.mpr okS_nx ?_
  | with_reducible refine Eq.mpr okS_if ?_
  | with_reducible refine Eq.mpr okS_ret ?_
  | with_reducible refine Eq.mpr okS_retV ?_
  | with_reducible refine Eq.mpr okS_asg ?_
  | with_reducible refine Eq.mpr okS_for ?_
  | with_reducible refine Eq.mpr okS_expr ?_
  | with_reducible refine Eq.mpr okS_bk ?_
  | with_reducible refine Eq.mpr okS_ct ?_
  | with_reducible refine Eq.mpr okS_rtN ?_
  | with_reducible refine Eq.mpr okM_lend ?_
  | with_reducible refine Eq.mpr okM_make ?_
  | with_reducible refine Eq.mpr okM_enumA ?_
  | with_reducible refine Eq.mpr okM_join ?_
  | with_reducible refine setK_i (by simp only [set_un, set_fz, set_ow, set_s, Option.map_some, slOf_f, slOf_t, chg_ow, chg_io, chg_s, List.set_cons_zero, List.set_cons_succ, Int.reduceToNat, List.replicate_succ, List.replicate_zero, Nat.reduceSub, wipeE_cons, wipeE_nil]; first | done | rfl) ?_
  | with_reducible refine chgK_i (by simp only [set_un, set_fz, set_ow, set_s, Option.map_some, slOf_f, slOf_t, chg_ow, chg_io, chg_s, List.set_cons_zero, List.set_cons_succ, Int.reduceToNat, List.replicate_succ, List.replicate_zero, Nat.reduceSub, wipeE_cons, wipeE_nil]; first | done | rfl) ?_
  | with_reducible refine And.intro (GMod.mk (by omega)) ?_
  | with_reducible refine And.intro (GDiv.mk ⟨by omega, by omega⟩) ?_
  | with_reducible refine And.intro (GPow.mk ⟨by omega, by omega, by omega, by omega⟩) ?_
  | with_reducible refine And.intro (GMul.r ⟨by omega, by omega⟩) ?_
  | with_reducible refine And.intro (GMul.l ⟨by omega, by omega⟩) ?_
  | with_reducible refine split_T ?_
  | with_reducible refine split_F ?_
  | with_reducible refine split_dec (fun _ => ?_) (fun _ => ?_)
  | with_reducible refine split_neg ?_
  | with_reducible refine split_ne (fun _ => ?_) (fun _ => ?_)
  | with_reducible refine split_eqb (fun _ => ?_) (fun _ => ?_)
  | with_reducible refine And.intro (smI_of ⟨by omega, by omega⟩) ?_
  | refine ⟨_, ix_row (by first | exact seqR_d | exact seqR_t | assumption) (by omega), ?_⟩
  | refine ⟨_, ix_dM (by omega), ?_⟩
  | refine ⟨_, rfl, _, rfl, _, rfl, ?_⟩
  | refine ⟨_, rfl, _, rfl, ?_⟩
  | refine ⟨_, rfl, ⟨_, rfl⟩, ?_⟩
  | refine ⟨_, rfl, ?_⟩
  | refine ⟨_, _, rfl, ?_⟩
  | refine ⟨rfl, ?_⟩
  | refine And.intro (show List.length _ ≤ LIM by simp only [List.length_cons, List.length_nil, List.length_map, List.length_range, rg_len, LIM_eq]; omega) ?_
  | exact smI_of ⟨by omega, by omega⟩
  | ((with_reducible show wipeE _ _ = _); rfl))
section
variable {e : Env} {P : D × Bool → Env → Prop}
/-! Table.__init__, rows given -/
def modM (m : List (List Int)) : List (List Int) := m.map fun r => r.map (· % 1000003)
theorem modM_len {m : List (List Int)} : (modM m).length = m.length := List.length_map _
theorem modM_shp {m : List (List Int)} {w : Nat} (hr : ∀ r ∈ m, r.length = w) : Shp w (modM m) := by
  intro r h
  obtain ⟨r0, h0, rfl⟩ := List.mem_map.mp h
  refine ⟨by rw [List.length_map]; exact hr _ h0, fun x hx => ?_⟩
  obtain ⟨y, _, rfl⟩ := List.mem_map.mp hx
  show 0 ≤ y % 1000003 ∧ y % 1000003 < 1000003
  omega
theorem run_init {i : Nat} {h w : Nat} {m : List (List Int)} {x : D} (ho : ownD e i = some (.obj 0 [])) (hs : SeqM x m) (hm : m.length = h) (hr : ∀ r ∈ m, r.length = w) (hh : h ≤ 20) (hw : w ≤ 40) (k : ∀ s, P (.non, false) (chg e i (tabD h w (modM m) s))) : OkM (mRun 8 4 mb_Table___init__ [.slot i, .val (.int h), .val (.int w), .val x]) e P := by
  refine run_io i _ [_, _, _] ho ?_
  unfold mb_Table___init__
  obtain ⟨ds, hx, hdl, hds⟩ := hs
  have hne : cIs x .non = some false := by rcases hx with rfl | rfl <;> rfl
  have hxl : oLen x = some (.int (h : Int), false) := by rcases hx with rfl | rfl <;> (show some (D.int _, false) = _; rw [hdl, hm])
  have hno : isNone x = false := by rcases hx with rfl | rfl <;> rfl
  have hit : items x = some ds := by rcases hx with rfl | rfl <;> rfl
  repeat' contradiction
  refine ⟨fun z => absurd (hno.symm.trans z) (by decide), fun _ => ?_⟩
  repeat' contradiction
  refine ⟨_, hxl, ?_⟩
  repeat' contradiction
  refine ⟨ds, hit, ?_⟩
  refine okS_loop (fun n E => ∃ s5 s6, E = [.io (.obj 0 []), .fz (.int h), .fz (.int w), .fz x, .un, s5, s6, .un] ∧ Fr s5 ∧ Fr s6) ⟨.un, .un, rfl, trivial, trivial⟩ (fun n y E hn hI => ?_) fun E hI => ?_
  · obtain ⟨s5, s6, rfl, f5, f6⟩ := hI
    obtain ⟨y', rfl, hy⟩ := enumD_get hn
    have hnm : n < m.length := by have := lt_of_get hy; omega
    have hyr := hds n y' (row m n) hy (row_lt hnm)
    have hyl := len_row hyr
    rw [hr _ (row_mem hnm)] at hyl
    refine ⟨[.io (.obj 0 []), .fz (.int h), .fz (.int w), .fz x, .un, .fz (.int ((0 + n : Nat) : Int)), .fz y', .un], by simp [gTupD, gsCons, gPut, gsNil, set_fr f5, set_fr f6], ?_⟩
    repeat' contradiction
    refine ⟨_, hyl, ?_⟩
    repeat' contradiction
    exact ⟨trivial, trivial⟩
  · obtain ⟨s5, s6, rfl, f5, f6⟩ := hI
    repeat' contradiction
    refine ⟨ds, hit, by cases s6 <;> first | rfl | exact f6.elim, by rw [LIM_eq]; omega, ?_⟩
    refine okM_mapI (fun n => tR ((row m n).map (· % 1000003))) (fun n y hn => ?_) ?_
    · have hnm : n < m.length := by have := lt_of_get hn; omega
      have hyr := hds n y (row m n) hn (row_lt hnm)
      have hyi := items_row hyr
      have hrl := @lenR (row m n)
      have hrw := hr _ (row_mem hnm)
      refine ⟨_, rfl, ?_⟩
      repeat' contradiction
      refine ⟨_, hyi, by rfl, by rw [LIM_eq]; omega, ?_⟩
      refine okM_map (fun d => match d with | .int n => .int (n % 1000003) | d => d) (fun d hd => ?_) ?_
      · obtain ⟨n, hn, rfl⟩ := List.mem_map.mp hd
        repeat' contradiction
      · repeat' contradiction
        refine ⟨?_, rfl⟩
        show D.tup (((row m n).map D.int).map _) = D.tup (((row m n).map (· % 1000003)).map D.int)
        rw [List.map_map, List.map_map]; rfl
    · repeat' contradiction
      have e1 : List.map (fun n => tR (List.map (fun x => x % 1000003) (row m n))) (List.range ds.length) = (modM m).map tR := by
        rw [hdl]
        unfold modM
        rw [List.map_map]
        apply List.ext_getElem?
        intro i
        rw [List.getElem?_map, List.getElem?_map]
        by_cases hi : i < m.length
        · rw [List.getElem?_range hi, row_lt hi]; rfl
        · rw [List.getElem?_eq_none (by simpa using hi), List.getElem?_eq_none (by omega)]; rfl
      rw [e1]
      refine run_table_text (m := modM m) (by rw [modM_len]; omega) hw (modM_shp hr) fun s => ?_
      refine ⟨_, rfl, _, rfl, chgK_i rfl ⟨_, rfl, k s⟩⟩
end
end DV
-- LinD
namespace Lin
open DV
/-! tables as functions -/
theorem mm_assoc {m n : Nat} {a : Nat → Int} {B : Nat → Nat → Int} {c : Nat → Int} : sumTo m (fun l => sumTo n (fun k => a k * B k l) * c l) = sumTo n fun k => a k * sumTo m fun l => B k l * c l := by
  have e1 : sumTo m (fun l => sumTo n (fun k => a k * B k l) * c l) = sumTo m fun l => sumTo n fun k => a k * (B k l * c l) := sum_congr fun l _ => by
    rw [Int.mul_comm, ← sum_mul]
    exact sum_congr fun k _ => by rw [Int.mul_comm, Int.mul_assoc]
  rw [e1, sum_swap]
  exact sum_congr fun k _ => sum_mul
theorem sum_shift {f : Nat → Int} : ∀ {n : Nat}, sumTo (n + 1) f = f 0 + sumTo n fun i => f (i + 1)
  | 0 => by show 0 + f 0 = f 0 + 0; omega
  | n + 1 => by
    show sumTo (n + 1) f + f (n + 1) = f 0 + (sumTo n (fun i => f (i + 1)) + f (n + 1))
    rw [sum_shift]; omega
theorem sum_rev {f : Nat → Int} : ∀ {n : Nat}, sumTo n (fun j => f (n - 1 - j)) = sumTo n f
  | 0 => rfl
  | n + 1 => by
    show sumTo n (fun j => f (n + 1 - 1 - j)) + f (n + 1 - 1 - n) = sumTo (n + 1) f
    rw [sum_shift, show n + 1 - 1 - n = 0 by omega, ← sum_rev (f := fun i => f (i + 1))]
    rw [sum_congr (f := fun j => f (n + 1 - 1 - j)) (g := fun j => f (n - 1 - j + 1)) fun i hi => by rw [show n + 1 - 1 - i = n - 1 - i + 1 by omega]]
    omega
theorem sum_split {f : Nat → Int} {m : Nat} : ∀ {n : Nat}, sumTo (m + n) f = sumTo m f + sumTo n fun i => f (m + i)
  | 0 => by show sumTo m f = sumTo m f + 0; omega
  | n + 1 => by
    show sumTo (m + n) f + f (m + n) = sumTo m f + (sumTo n (fun i => f (m + i)) + f (m + n))
    rw [sum_split]; omega
/-! null rows, null columns -/
def RowN (w h : Nat) (m : List (List Int)) (x : Nat → Int) : Prop := ∀ i, i < h → Eqv (sumTo w fun j => ent (row m i) j * x j) 0
def ColN (h w : Nat) (m : List (List Int)) (y : Nat → Int) : Prop := ∀ j, j < w → Eqv (sumTo h fun i => ent (row m i) j * y i) 0
theorem row_of {m : List (List Int)} {r : List Int} (hr : r ∈ m) : ∃ i, i < m.length ∧ row m i = r := by
  obtain ⟨i, hi⟩ := List.getElem?_of_mem hr
  have hl := (List.getElem?_eq_some_iff.mp hi).1
  have := row_lt hl
  rw [hi] at this
  exact ⟨i, hl, (Option.some.inj this).symm⟩
theorem null_rows {w : Nat} {m : List (List Int)} {x : Nat → Int} : Null w m x ↔ RowN w m.length m x := by
  constructor
  · exact fun h i hi => h _ (row_mem hi)
  · intro h r hr
    obtain ⟨i, hi, rfl⟩ := row_of hr
    exact h i hi
theorem colsM_len {m : List (List Int)} {w : Nat} : (colsM m w).length = w := by simp [colsM]
theorem colsM_row {m : List (List Int)} {w j : Nat} (hj : j < w) : row (colsM m w) j = m.map fun r => ent r j := by
  have h1 := row_lt (m := colsM m w) (i := j) (by rw [colsM_len]; exact hj)
  unfold colsM at h1
  rw [List.getElem?_map, List.getElem?_range hj] at h1
  exact (Option.some.inj h1).symm
theorem colsM_ent {m : List (List Int)} {w i j : Nat} (hj : j < w) (hi : i < m.length) : ent (row (colsM m w) j) i = ent (row m i) j := cols_ent hj hi
theorem colsM_shp {m : List (List Int)} {h w : Nat} (hm : m.length = h) (hr : ∀ r ∈ m, Red r) : Shp h (colsM m w) := by
  intro r hr'
  obtain ⟨j, _, rfl⟩ := List.mem_map.mp hr'
  refine ⟨by rw [List.length_map, hm], fun x hx => ?_⟩
  obtain ⟨r0, h0, rfl⟩ := List.mem_map.mp hx
  exact ent_red (hr r0 h0) _
theorem null_cols {h w : Nat} {m : List (List Int)} {y : Nat → Int} (hm : m.length = h) : Null h (colsM m w) y ↔ ColN h w m y := by
  rw [null_rows, colsM_len]
  constructor
  · intro k j hj
    have := k j hj
    rw [sum_congr (g := fun i => ent (row m i) j * y i) fun i hi => by rw [colsM_ent hj (by omega)]] at this
    exact this
  · intro k j hj
    have := k j hj
    rw [sum_congr (g := fun i => ent (row (colsM m w) j) i * y i) fun i hi => by rw [colsM_ent hj (by omega)]] at this
    exact this
/-! products -/
theorem mulM_len {aw bw : Nat} {A B : List (List Int)} : (mulM aw bw A B).length = A.length := List.length_map _
theorem mulM_row {aw bw i : Nat} {A B : List (List Int)} (hi : i < A.length) : row (mulM aw bw A B) i = dotR aw bw (row A i) B := row_map hi
theorem dotR_ent {n bw j : Nat} {r : List Int} {B : List (List Int)} (hj : j < bw) : ent (dotR n bw r B) j = dotU n r B j % 1000003 := by
  unfold dotR
  have h := ent_lt (r := (List.range bw).map fun j => dotU n r B j % 1000003) (j := j) (by simpa using hj)
  rw [List.getElem?_map, List.getElem?_range hj] at h
  exact (Option.some.inj h).symm
theorem mulM_ent {aw bw i j : Nat} {A B : List (List Int)} (hi : i < A.length) (hj : j < bw) : Eqv (ent (row (mulM aw bw A B) i) j) (sumTo aw fun k => ent (row A i) k * ent (row B k) j) := by
  rw [mulM_row hi, dotR_ent hj]
  exact Eqv.mod _
theorem colN_mul {h n v : Nat} {A L : List (List Int)} {y : Nat → Int} (hA : A.length = h) (k : ColN h n A y) : ColN h v (mulM n v A L) y := by
  intro j hj
  have e1 : Eqv (sumTo h fun i => ent (row (mulM n v A L) i) j * y i) (sumTo h fun i => (sumTo n fun k => ent (row A i) k * ent (row L k) j) * y i) := sum_eqv fun i hi => Eqv.mul (mulM_ent (by omega) hj) (.refl _)
  refine e1.trans ?_
  have e2 : (sumTo h fun i => (sumTo n fun k => ent (row A i) k * ent (row L k) j) * y i) = sumTo n fun k => ent (row L k) j * sumTo h fun i => ent (row A i) k * y i := by
    have := mm_assoc (m := h) (n := n) (a := fun k => ent (row L k) j) (B := fun k i => ent (row A i) k) (c := y)
    rw [← this]
    exact sum_congr fun i _ => by
      congr 1
      exact sum_congr fun k _ => Int.mul_comm _ _
  rw [e2]
  exact sum_noneE fun k' hk => (Eqv.mul (.refl _) (k k' hk)).trans (.of_eq (Int.mul_zero _))
theorem rowN_mul {h n w : Nat} {A L : List (List Int)} {x : Nat → Int} (hL : L.length = h) (k : RowN w n A x) : RowN w h (mulM n w L A) x := by
  intro i hi
  have e1 : Eqv (sumTo w fun j => ent (row (mulM n w L A) i) j * x j) (sumTo w fun j => (sumTo n fun k => ent (row L i) k * ent (row A k) j) * x j) := sum_eqv fun j hj => Eqv.mul (mulM_ent (by omega) hj) (.refl _)
  refine e1.trans ?_
  rw [mm_assoc (B := fun k j => ent (row A k) j)]
  exact sum_noneE fun k' hk => (Eqv.mul (.refl _) (k k' hk)).trans (.of_eq (Int.mul_zero _))
/-- L and N undo one another -/
structure Undo (n : Nat) (L N : List (List Int)) : Prop where
  ln : L.length = n
  nn : N.length = n
  l : ∀ i j, i < n → j < n → Eqv (sumTo n fun k => ent (row L i) k * ent (row N k) j) (if i = j then 1 else 0)
  r : ∀ i j, i < n → j < n → Eqv (sumTo n fun k => ent (row N i) k * ent (row L k) j) (if i = j then 1 else 0)
theorem colN_back {h n : Nat} {A L N : List (List Int)} {y : Nat → Int} (hA : A.length = h) (U : Undo n L N) (k : ColN h n (mulM n n A L) y) : ColN h n A y := by
  intro j hj
  have e0 : ∀ i, i < h → Eqv (ent (row A i) j) (sumTo n fun l => ent (row (mulM n n A L) i) l * ent (row N l) j) := fun i hi => by
    have e1 : Eqv (sumTo n fun l => ent (row (mulM n n A L) i) l * ent (row N l) j) (sumTo n fun l => (sumTo n fun k => ent (row A i) k * ent (row L k) l) * ent (row N l) j) := sum_eqv fun l hl => Eqv.mul (mulM_ent (by omega) hl) (.refl _)
    refine Eqv.symm (e1.trans ?_)
    rw [mm_assoc (B := fun k l => ent (row L k) l)]
    have e2 : Eqv (sumTo n fun k => ent (row A i) k * sumTo n fun l => ent (row L k) l * ent (row N l) j) (sumTo n fun k => ent (row A i) k * if k = j then 1 else 0) := sum_eqv fun k hk => Eqv.mul (.refl _) (U.l k j hk hj)
    refine e2.trans (.of_eq ?_)
    rw [sum_one hj fun k _ hk => by rw [if_neg hk, Int.mul_zero], if_pos rfl, Int.mul_one]
  have e3 : Eqv (sumTo h fun i => ent (row A i) j * y i) (sumTo h fun i => (sumTo n fun l => ent (row (mulM n n A L) i) l * ent (row N l) j) * y i) := sum_eqv fun i hi => Eqv.mul (e0 i hi) (.refl _)
  refine e3.trans ?_
  have e2 : (sumTo h fun i => (sumTo n fun l => ent (row (mulM n n A L) i) l * ent (row N l) j) * y i) = sumTo n fun l => ent (row N l) j * sumTo h fun i => ent (row (mulM n n A L) i) l * y i := by
    have := mm_assoc (m := h) (n := n) (a := fun l => ent (row N l) j) (B := fun l i => ent (row (mulM n n A L) i) l) (c := y)
    rw [← this]
    exact sum_congr fun i _ => by
      congr 1
      exact sum_congr fun k _ => Int.mul_comm _ _
  rw [e2]
  exact sum_noneE fun k' hk => (Eqv.mul (.refl _) (k k' hk)).trans (.of_eq (Int.mul_zero _))
theorem rowN_back {n w : Nat} {A L N : List (List Int)} {x : Nat → Int} (hA : A.length = n) (U : Undo n L N) (k : RowN w n (mulM n w L A) x) : RowN w n A x := by
  intro i hi
  have e0 : ∀ j, j < w → Eqv (ent (row A i) j) (sumTo n fun l => ent (row N i) l * ent (row (mulM n w L A) l) j) := fun j hj => by
    have e1 : Eqv (sumTo n fun l => ent (row N i) l * ent (row (mulM n w L A) l) j) (sumTo n fun l => ent (row N i) l * sumTo n fun k => ent (row L l) k * ent (row A k) j) := sum_eqv fun l hl => Eqv.mul (.refl _) (mulM_ent (by rw [U.ln]; exact hl) hj)
    refine Eqv.symm (e1.trans ?_)
    rw [← mm_assoc (B := fun l k => ent (row L l) k)]
    have e2 : Eqv (sumTo n fun k => (sumTo n fun l => ent (row N i) l * ent (row L l) k) * ent (row A k) j) (sumTo n fun k => (if i = k then 1 else 0) * ent (row A k) j) := sum_eqv fun k hk => Eqv.mul (U.r i k hi hk) (.refl _)
    refine e2.trans (.of_eq ?_)
    rw [sum_one hi fun k _ hk => by rw [if_neg (Ne.symm hk), Int.zero_mul], if_pos rfl, Int.one_mul]
  have e3 : Eqv (sumTo w fun j => ent (row A i) j * x j) (sumTo w fun j => (sumTo n fun l => ent (row N i) l * ent (row (mulM n w L A) l) j) * x j) := sum_eqv fun j hj => Eqv.mul (e0 j hj) (.refl _)
  refine e3.trans ?_
  rw [mm_assoc (B := fun l j => ent (row (mulM n w L A) l) j)]
  exact sum_noneE fun k' hk => (Eqv.mul (.refl _) (k k' hk)).trans (.of_eq (Int.mul_zero _))
/-! side by side -/
theorem asideM_len {h : Nat} {a b : List (List Int)} : (asideM h a b).length = h := by simp [asideM]
theorem asideM_row {h i : Nat} {a b : List (List Int)} (hi : i < h) : row (asideM h a b) i = row a i ++ row b i := by
  have h1 := row_lt (m := asideM h a b) (i := i) (by rw [asideM_len]; exact hi)
  unfold asideM at h1
  rw [List.getElem?_map, List.getElem?_range hi] at h1
  exact (Option.some.inj h1).symm
theorem asideM_shp {h w v : Nat} {a b : List (List Int)} (ha : a.length = h) (hb : b.length = h) (sa : Shp w a) (sb : Shp v b) : Shp (w + v) (asideM h a b) := by
  intro r hr
  obtain ⟨i, hi, rfl⟩ := List.mem_map.mp hr
  have hi := List.mem_range.mp hi
  have s1 := sa _ (row_mem (m := a) (i := i) (by omega))
  have s2 := sb _ (row_mem (m := b) (i := i) (by omega))
  refine ⟨by rw [List.length_append, s1.1, s2.1], fun x hx => ?_⟩
  rcases List.mem_append.mp hx with z | z
  · exact s1.2 x z
  · exact s2.2 x z
theorem ent_app {a b : List Int} {j : Nat} : ent (a ++ b) j = if j < a.length then ent a j else ent b (j - a.length) := by
  unfold ent
  rw [List.getD_eq_getElem?_getD, List.getElem?_append]
  split <;> rw [List.getD_eq_getElem?_getD]
theorem colN_aside {h w v : Nat} {a b : List (List Int)} {y : Nat → Int} (ha : a.length = h) (sa : ∀ r ∈ a, r.length = w) : ColN h (w + v) (asideM h a b) y ↔ ColN h w a y ∧ ColN h v b y := by
  have el : ∀ i j, i < h → j < w → ent (row (asideM h a b) i) j = ent (row a i) j := fun i j hi hj => by
    rw [asideM_row hi, ent_app, if_pos (by rw [sa _ (row_mem (by omega))]; exact hj)]
  have er : ∀ i j, i < h → ent (row (asideM h a b) i) (w + j) = ent (row b i) j := fun i j hi => by
    have := sa _ (row_mem (m := a) (i := i) (by omega))
    rw [asideM_row hi, ent_app, if_neg (by omega), this, Nat.add_sub_cancel_left]
  constructor
  · intro k
    refine ⟨fun j hj => ?_, fun j hj => ?_⟩
    · have := k j (by omega)
      rw [sum_congr (g := fun i => ent (row a i) j * y i) fun i hi => by rw [el i j hi hj]] at this
      exact this
    · have := k (w + j) (by omega)
      rw [sum_congr (g := fun i => ent (row b i) j * y i) fun i hi => by rw [er i j hi]] at this
      exact this
  · rintro ⟨k1, k2⟩ j hj
    by_cases z : j < w
    · rw [sum_congr (g := fun i => ent (row a i) j * y i) fun i hi => by rw [el i j hi z]]
      exact k1 j z
    · obtain ⟨q, rfl⟩ : ∃ q, j = w + q := ⟨j - w, by omega⟩
      rw [sum_congr (g := fun i => ent (row b i) q * y i) fun i hi => by rw [er i q hi]]
      exact k2 q (by omega)
/-! ranks -/
def Rk (w : Nat) (m : List (List Int)) (r : Nat) : Prop := ∃ D P, RR w w D P ∧ (∀ x, Null w D x ↔ Null w m x) ∧ r = P.length
theorem Rk.same {w r r' : Nat} {m m' : List (List Int)} (a : Rk w m r) (b : Rk w m' r') (h : ∀ x, Null w m x ↔ Null w m' x) : r = r' := by
  obtain ⟨D, P, R, hN, rfl⟩ := a
  obtain ⟨D', P', R', hN', rfl⟩ := b
  rw [(RR.uniq R R' fun x => (hN x).trans ((h x).trans (hN' x).symm)).2]
theorem Rk.flip {h w r r' : Nat} {m : List (List Int)} (hm : Shp w m) (hl : m.length = h) (a : Rk w m r) (b : Rk h (colsM m w) r') : r = r' := by
  obtain ⟨D, P, R, hN, rfl⟩ := a
  obtain ⟨D', P', R', hN', rfl⟩ := b
  have s := colsM_shp (w := w) hl fun r hr => (hm r hr).2
  have h1 := rank_le hm hl s colsM_len (fun i j hi hj => colsM_ent hj (by omega)) R hN R' hN'
  have h2 := rank_le s colsM_len hm hl (fun i j hi hj => (colsM_ent hi (by omega)).symm) R' hN' R hN
  omega
/-! frames -/
def IsFrame (h k : Nat) (R : List (List Int)) : Prop := ∃ l : Nat → Nat, (∀ j, j < k → l j < h ∧ ent (row R (l j)) j = 1 ∧ (∀ i, i < l j → ent (row R i) j = 0) ∧ ∀ c, c < k → c ≠ j → ent (row R (l j)) c = 0) ∧ ∀ j, j + 1 < k → l j < l (j + 1)
structure RoomOf (h w : Nat) (m R : List (List Int)) (k : Nat) : Prop where
  ex : ∃ D P, RR h h D P ∧ (∀ x, Null h D x ↔ ColN h w m x) ∧ k = P.length ∧ R = colsM D h
theorem pv_step {P : List Nat} (h : P.Pairwise (· < ·)) {i j : Nat} (hj : j < P.length) (hi : i < j) : pv P i < pv P j := by
  have := List.pairwise_iff_getElem.mp h i j (by omega) hj hi
  unfold pv
  rw [List.getD_eq_getElem?_getD, List.getD_eq_getElem?_getD, List.getElem?_eq_getElem hj, List.getElem?_eq_getElem (by omega)]
  exact this
theorem RoomOf.frame {h w k : Nat} {m R : List (List Int)} (q : RoomOf h w m R k) : IsFrame h k R := by
  obtain ⟨D, P, rr, hN, rfl, rfl⟩ := q.ex
  have hl := rr.len
  refine ⟨pv P, fun j hj => ?_, fun j hj => pv_step rr.inc hj (by omega)⟩
  have hp := rr.piv _ (pv_mem hj)
  refine ⟨hp, ?_, fun i hi => ?_, fun c hc hn => ?_⟩
  · rw [colsM_ent hp (by omega), rr.one j j hj hj, if_pos rfl]
  · rw [colsM_ent (by omega) (by omega), rr.low j i hj hi]
  · rw [colsM_ent hp (by omega), rr.one c j hc hj, if_neg hn]
theorem RoomOf.len {h w k : Nat} {m R : List (List Int)} (q : RoomOf h w m R k) : R.length = h := by
  obtain ⟨D, P, rr, hN, rfl, rfl⟩ := q.ex
  exact colsM_len
theorem RoomOf.shp {h w k : Nat} {m R : List (List Int)} (q : RoomOf h w m R k) : Shp k R := by
  obtain ⟨D, P, rr, hN, rfl, rfl⟩ := q.ex
  exact colsM_shp rr.len rr.red
theorem RoomOf.colN {h w k : Nat} {m R : List (List Int)} (q : RoomOf h w m R k) (y : Nat → Int) : ColN h k R y ↔ ColN h w m y := by
  obtain ⟨D, P, rr, hN, rfl, rfl⟩ := q.ex
  rw [← hN y, null_rows, rr.len]
  have hl := rr.len
  have e : ∀ i j, i < h → j < P.length → ent (row (colsM D h) i) j = ent (row D j) i := fun i j hi hj => colsM_ent hi (by omega)
  constructor
  · intro k j hj
    have := k j hj
    rw [sum_congr (g := fun i => ent (row D j) i * y i) fun i hi => by rw [e i j hi hj]] at this
    exact this
  · intro k j hj
    rw [sum_congr (g := fun i => ent (row D j) i * y i) fun i hi => by rw [e i j hi hj]]
    exact k j hj
theorem RoomOf.rk {h w k : Nat} {m R : List (List Int)} (q : RoomOf h w m R k) (hm : m.length = h) : Rk h (colsM m w) k := by
  obtain ⟨D, P, rr, hN, rfl, rfl⟩ := q.ex
  exact ⟨D, P, rr, fun x => (hN x).trans (null_cols hm).symm, rfl⟩
theorem RoomOf.uniq {h w w' k k' : Nat} {m m' R R' : List (List Int)} (q : RoomOf h w m R k) (q' : RoomOf h w' m' R' k') (e : ∀ y, ColN h w m y ↔ ColN h w' m' y) : R = R' ∧ k = k' := by
  obtain ⟨D, P, rr, hN, rfl, rfl⟩ := q.ex
  obtain ⟨D', P', rr', hN', rfl, rfl⟩ := q'.ex
  obtain ⟨rfl, rfl⟩ := RR.uniq rr rr' fun x => (hN x).trans ((e x).trans (hN' x).symm)
  exact ⟨rfl, rfl⟩
/-- the rank of the room beside the table -/
theorem RoomOf.aside {h w k r : Nat} {m R : List (List Int)} (q : RoomOf h w m R k) (hm : m.length = h) (sm : Shp w m) (a : Rk (k + w) (asideM h R m) r) : r = k := by
  have hs := asideM_shp (h := h) q.len hm q.shp sm
  obtain ⟨D, P, rr, hN, hk, hR⟩ := q.ex
  have b : Rk h (colsM (asideM h R m) (k + w)) k := ⟨D, P, rr, fun x => by
    rw [null_cols asideM_len, colN_aside q.len fun r hr => (q.shp r hr).1, q.colN x, hN x, and_self], hk⟩
  exact Rk.flip hs asideM_len a b
/-! kernels -/
def frees (w : Nat) (P : List Nat) : List Nat := (List.range w).reverse.filter fun f => decide (f ∉ P)
def nullCol (w : Nat) (D : List (List Int)) (P : List Nat) (f : Nat) : List Int := (List.range w).map fun i => sol D P f (w - 1 - i) % 1000003
structure KerOf (w : Nat) (m N : List (List Int)) (k : Nat) : Prop where
  ex : ∃ D P, RR w w D P ∧ (∀ x, Null w D x ↔ Null w (m.map List.reverse) x) ∧ k = (frees w P).length ∧ N = colsM ((frees w P).map (nullCol w D P)) w
theorem dot_rev {w : Nat} {r : List Int} {x : Nat → Int} (hr : r.length = w) : dot w r.reverse x = dot w r fun j => x (w - 1 - j) := by
  unfold dot
  have := sum_rev (f := fun j => ent r j * x (w - 1 - j)) (n := w)
  rw [← this]
  refine sum_congr fun j hj => ?_
  rw [show w - 1 - (w - 1 - j) = j by omega]
  congr 1
  unfold ent
  rw [List.getD_eq_getElem?_getD, List.getElem?_reverse (by omega), List.getD_eq_getElem?_getD, hr]
theorem null_rev {w : Nat} {m : List (List Int)} {x : Nat → Int} (hm : ∀ r ∈ m, r.length = w) : Null w (m.map List.reverse) x ↔ Null w m fun j => x (w - 1 - j) := by
  constructor
  · intro h r hr
    rw [← dot_rev (hm r hr)]
    exact h _ (List.mem_map_of_mem hr)
  · intro h r hr
    obtain ⟨r0, h0, rfl⟩ := List.mem_map.mp hr
    rw [dot_rev (hm r0 h0)]
    exact h r0 h0
theorem frees_mem {w f : Nat} {P : List Nat} : f ∈ frees w P ↔ f < w ∧ f ∉ P := by
  unfold frees
  rw [List.mem_filter, List.mem_reverse, List.mem_range, decide_eq_true_iff]
theorem frees_dec {w : Nat} {P : List Nat} : (frees w P).Pairwise (· > ·) := by
  unfold frees
  refine List.Pairwise.filter _ ?_
  rw [List.pairwise_reverse]
  exact List.pairwise_lt_range
theorem frees_len {w : Nat} {P : List Nat} (hi : P.Pairwise (· < ·)) (hw : ∀ q ∈ P, q < w) : (frees w P).length + P.length = w := by
  have e1 : (List.range w).filter (fun f => decide (f ∈ P)) = P := sorted_ext (List.Pairwise.filter _ List.pairwise_lt_range) hi fun x => by
    rw [List.mem_filter, List.mem_range, decide_eq_true_iff]
    exact ⟨fun h => h.2, fun h => ⟨hw x h, h⟩⟩
  have e2 : ∀ l : List Nat, (l.filter fun f => decide (f ∉ P)).length + (l.filter fun f => decide (f ∈ P)).length = l.length := by
    intro l
    induction l with
    | nil => rfl
    | cons a l ih =>
      by_cases z : a ∈ P
      · rw [List.filter_cons_of_neg (by simpa using z), List.filter_cons_of_pos (by simpa using z), List.length_cons, List.length_cons]; omega
      · rw [List.filter_cons_of_pos (by simpa using z), List.filter_cons_of_neg (by simpa using z), List.length_cons, List.length_cons]; omega
  have e3 := e2 (List.range w)
  rw [e1, List.length_range] at e3
  unfold frees
  rw [List.filter_reverse, List.length_reverse]
  exact e3
theorem nullCol_len {w f : Nat} {D : List (List Int)} {P : List Nat} : (nullCol w D P f).length = w := by simp [nullCol]
theorem nullCol_red {w f : Nat} {D : List (List Int)} {P : List Nat} : Red (nullCol w D P f) := fun x hx => by
  obtain ⟨i, _, rfl⟩ := List.mem_map.mp hx
  omega
theorem nullCol_ent {w f i : Nat} {D : List (List Int)} {P : List Nat} (hi : i < w) : ent (nullCol w D P f) i = sol D P f (w - 1 - i) % 1000003 := by
  have h := ent_lt (r := nullCol w D P f) (j := i) (by rw [nullCol_len]; exact hi)
  unfold nullCol at h
  rw [List.getElem?_map, List.getElem?_range hi] at h
  exact (Option.some.inj h).symm
/-- the entry of a kernel's column -/
theorem ker_ent {w i j : Nat} {D : List (List Int)} {P : List Nat} (hi : i < w) (hj : j < (frees w P).length) : ent (row (colsM ((frees w P).map (nullCol w D P)) w) i) j = sol D P (pv (frees w P) j) (w - 1 - i) % 1000003 := by
  rw [colsM_ent hi (by rw [List.length_map]; exact hj)]
  have e : row ((frees w P).map (nullCol w D P)) j = nullCol w D P (pv (frees w P) j) := by
    have h1 := row_lt (m := (frees w P).map (nullCol w D P)) (i := j) (by rw [List.length_map]; exact hj)
    rw [List.getElem?_map, pv_lt hj] at h1
    exact (Option.some.inj h1).symm
  rw [e, nullCol_ent hi]
theorem RR.sol_other {w c g : Nat} {D : List (List Int)} {P : List Nat} (R : RR w w D P) (hc : c ∉ P) (hn : c ≠ g) : sol D P g c = 0 := by
  unfold sol
  rw [if_neg hn, sum_none fun i hi => ?_]
  · rfl
  · rw [if_neg (fun z => by subst z; exact hc (pv_mem hi))]
theorem KerOf.len {w k : Nat} {m N : List (List Int)} (q : KerOf w m N k) : N.length = w := by
  obtain ⟨D, P, rr, hN, rfl, rfl⟩ := q.ex
  exact colsM_len
theorem KerOf.shp {w k : Nat} {m N : List (List Int)} (q : KerOf w m N k) : Shp k N := by
  obtain ⟨D, P, rr, hN, rfl, rfl⟩ := q.ex
  refine colsM_shp (by rw [List.length_map]) fun r hr => ?_
  obtain ⟨f, _, rfl⟩ := List.mem_map.mp hr
  exact nullCol_red
theorem pv_dec {P : List Nat} (h : P.Pairwise (· > ·)) {i j : Nat} (hj : j < P.length) (hi : i < j) : pv P j < pv P i := by
  have := List.pairwise_iff_getElem.mp h i j (by omega) hj hi
  unfold pv
  rw [List.getD_eq_getElem?_getD, List.getD_eq_getElem?_getD, List.getElem?_eq_getElem hj, List.getElem?_eq_getElem (by omega)]
  exact this
theorem KerOf.frame {w k : Nat} {m N : List (List Int)} (q : KerOf w m N k) : IsFrame w k N := by
  obtain ⟨D, P, rr, hN, rfl, rfl⟩ := q.ex
  have fm : ∀ j, j < (frees w P).length → pv (frees w P) j < w ∧ pv (frees w P) j ∉ P := fun j hj => frees_mem.mp (pv_mem hj)
  refine ⟨fun j => w - 1 - pv (frees w P) j, fun j hj => ?_, fun j hj => ?_⟩
  · obtain ⟨h1, h2⟩ := fm j hj
    show w - 1 - pv (frees w P) j < w ∧ ent (row _ (w - 1 - pv (frees w P) j)) j = 1 ∧ (∀ i, i < w - 1 - pv (frees w P) j → ent (row _ i) j = 0) ∧ ∀ c, c < (frees w P).length → c ≠ j → ent (row _ (w - 1 - pv (frees w P) j)) c = 0
    refine ⟨by omega, ?_, fun i hi => ?_, fun c hc hn => ?_⟩
    · rw [ker_ent (by omega) hj, show w - 1 - (w - 1 - pv (frees w P) j) = pv (frees w P) j by omega, rr.sol_self h2]; rfl
    · rw [ker_ent (by omega) hj, rr.sol_high (by omega)]; rfl
    · rw [ker_ent (by omega) hc, show w - 1 - (w - 1 - pv (frees w P) j) = pv (frees w P) j by omega, rr.sol_other h2]
      · rfl
      · intro z
        rcases Nat.lt_or_gt_of_ne hn with y | y
        · have := pv_dec frees_dec hj y; omega
        · have := pv_dec frees_dec hc y; omega
  · have h1 := fm j (by omega)
    have h2 := fm (j + 1) hj
    have := pv_dec (frees_dec (w := w) (P := P)) hj (Nat.lt_succ_self j)
    show w - 1 - pv (frees w P) j < w - 1 - pv (frees w P) (j + 1)
    omega
theorem KerOf.size {h w k r : Nat} {m N : List (List Int)} (q : KerOf w m N k) (sm : Shp w m) (hm : m.length = h) (a : Rk w m r) : k + r = w := by
  obtain ⟨D, P, rr, hN, rfl, rfl⟩ := q.ex
  have e := frees_len rr.inc rr.piv
  -- the reversed rows have the same rank
  have sr : Shp w (m.map List.reverse) := fun x hx => by
    obtain ⟨x0, h0, rfl⟩ := List.mem_map.mp hx
    have := sm x0 h0
    exact ⟨by rw [List.length_reverse, this.1], fun y hy => this.2 y (List.mem_reverse.mp hy)⟩
  obtain ⟨E, Q, RE, hE, _⟩ := ex_rr (colsM_shp (w := w) hm fun r hr => (sm r hr).2)
  have e1 : r = Q.length := Rk.flip sm hm a ⟨E, Q, RE, hE, rfl⟩
  have e2 : P.length = Q.length := by
    refine Rk.flip (h := h) sr (by rw [List.length_map, hm]) ⟨D, P, rr, hN, rfl⟩ ⟨E, Q, RE, fun x => ?_, rfl⟩
    rw [hE x, null_cols hm, null_cols (by rw [List.length_map, hm])]
    have er : ∀ i j, i < h → j < w → ent (row (m.map List.reverse) i) j = ent (row m i) (w - 1 - j) := fun i j hi hj => by
      rw [row_map (by omega)]
      have := (sm _ (row_mem (m := m) (i := i) (by omega))).1
      unfold ent
      rw [List.getD_eq_getElem?_getD, List.getElem?_reverse (by omega), List.getD_eq_getElem?_getD, this]
    constructor
    · intro k j hj
      have := k (w - 1 - j) (by omega)
      rw [sum_congr (g := fun i => ent (row (m.map List.reverse) i) j * x i) fun i hi => by rw [er i j hi hj]] at this
      exact this
    · intro k j hj
      have := k (w - 1 - j) (by omega)
      rw [sum_congr (g := fun i => ent (row m i) j * x i) fun i hi => by rw [er i _ hi (by omega), show w - 1 - (w - 1 - j) = j by omega]] at this
      exact this
  omega
theorem KerOf.zero {w k i j : Nat} {m N : List (List Int)} (q : KerOf w m N k) (sm : Shp w m) (hi : i < m.length) (hj : j < k) : ent (row (mulM w k m N) i) j = 0 := by
  have hk := mulM_ent (aw := w) (bw := k) (A := m) (B := N) hi hj
  have hr : 0 ≤ ent (row (mulM w k m N) i) j ∧ ent (row (mulM w k m N) i) j < 1000003 := ent_red (mulM_shp _ (row_mem (by rw [mulM_len]; exact hi))).2 j
  refine (hk.trans ?_).red hr ⟨by decide, by decide⟩
  obtain ⟨D, P, rr, hN, rfl, rfl⟩ := q.ex
  obtain ⟨h1, h2⟩ := frees_mem.mp (pv_mem hj)
  have h3 := (null_rev fun r hr => (sm r hr).1).mp ((hN _).mp (rr.sol_null h1)) _ (row_mem hi)
  refine Eqv.trans (sum_eqv fun l hl => ?_) h3
  rw [ker_ent hl hj]
  exact Eqv.mul (.refl _) (Eqv.mod _)
theorem KerOf.uniq {w k k' : Nat} {m m' N N' : List (List Int)} (q : KerOf w m N k) (q' : KerOf w m' N' k') (sm : ∀ r ∈ m, r.length = w) (sm' : ∀ r ∈ m', r.length = w) (e : ∀ x, Null w m x ↔ Null w m' x) : N = N' ∧ k = k' := by
  obtain ⟨D, P, rr, hN, rfl, rfl⟩ := q.ex
  obtain ⟨D', P', rr', hN', rfl, rfl⟩ := q'.ex
  obtain ⟨rfl, rfl⟩ := RR.uniq rr rr' fun x => by rw [hN x, hN' x, null_rev sm, null_rev sm', e]
  exact ⟨rfl, rfl⟩
/-- the kernel of a frame -/
theorem KerOf.none {h k k' : Nat} {R N : List (List Int)} (f : IsFrame h k R) (hl : R.length = h) (sR : ∀ r ∈ R, r.length = k) (q : KerOf k R N k') : k' = 0 := by
  obtain ⟨D, P, rr, hN, rfl, rfl⟩ := q.ex
  obtain ⟨l, h1, _⟩ := f
  have hz : ∀ x, Null k R x → ∀ j, j < k → Eqv (x j) 0 := fun x hx j hj => by
    obtain ⟨a1, a2, _, a4⟩ := h1 j hj
    have := hx _ (row_mem (m := R) (i := l j) (by omega))
    unfold dot at this
    rw [sum_one hj fun i hi hn => by rw [a4 i hi hn, Int.zero_mul], a2, Int.one_mul] at this
    exact this
  cases e : frees k P with
  | nil => rfl
  | cons a b =>
    exfalso
    have ha : a ∈ frees k P := by rw [e]; exact List.mem_cons_self
    obtain ⟨b1, b2⟩ := frees_mem.mp ha
    refine b2 ((rr.mem_iff b1).mpr fun x hx _ => ?_)
    have := hz _ ((null_rev sR).mp ((hN x).mp hx)) (k - 1 - a) (by omega)
    rw [show k - 1 - (k - 1 - a) = a by omega] at this
    exact this
end Lin
-- K2O
namespace DV
open PySem PySem.Spec PyProof.Rows L2
open Lin
local macro_rules | `(tactic| contradiction) => `(tactic| first
  | with_reducible refine okM_mod ?_
  | with_reducible refine okM_mul ?_
  | with_reducible refine okM_div ?_
  | with_reducible refine okM_pow ?_
  | with_reducible refine okM_ix ?_
  | with_reducible refine Eq.mpr okM_bin ?_
  | with_reducible refine okS_setW ?_
  | with_reducible refine okS_setIxW ?_
  | with_reducible refine okS_appW ?_
  | with_reducible refine okS_putFW ?_
  | with_reducible refine okS_parW ?_
  | with_reducible refine okM_popAtW ?_
  | with_reducible refine Eq.mpr okM_val ?_
  | with_reducible refine Eq.mpr okM_slot ?_
  | with_reducible refine Eq.mpr okM_C ?_
  | with_reducible refine Eq.mpr okM_cons ?_
  | with_reducible refine Eq.mpr okM_nil ?_
  | with_reducible refine Eq.mpr okM_call ?_
  | with_reducible refine Eq.mpr okM_var ?_
  | with_reducible refine Eq.mpr okM_un ?_
  | with_reducible refine Eq.mpr okM_list ?_
  | with_reducible refine Eq.mpr okM_tup ?_
  | with_reducible refine Eq.mpr okM_sl ?_
  | with_reducible refine Eq.mpr okM_part ?_
  | with_reducible refine Eq.mpr okM_noPart ?_
  | with_reducible refine Eq.mpr okM_cmpT ?_
  | with_reducible refine Eq.mpr okM_cmp ?_
  | with_reducible refine Eq.mpr okM_tru ?_
  | with_reducible refine Eq.mpr okM_not ?_
  | with_reducible refine Eq.mpr okM_and ?_
  | with_reducible refine Eq.mpr okM_or ?_
  | with_reducible refine Eq.mpr okM_if ?_
  | with_reducible refine Eq.mpr okM_andV ?_
  | with_reducible refine Eq.mpr okM_orV ?_
  | with_reducible refine Eq.mpr okM_iter ?_
  | with_reducible refine Eq.mpr okM_rg1 ?_
  | with_reducible refine Eq.mpr okM_rg2 ?_
  | with_reducible refine Eq.mpr okM_zip ?_
  | with_reducible refine Eq.mpr okM_lc ?_
  | with_reducible refine Eq.mpr okM_def ?_
  | with_reducible refine Eq.mpr okM_isi ?_
  | with_reducible refine Eq.mpr okM_ownL ?_
  | with_reducible refine Eq.mpr okM_pure ?_
  | with_reducible refine Eq.mpr okS_seq ?_
  | with_reducible refine Eq.mpr okS_nx ?_
  | with_reducible refine Eq.mpr okS_if ?_
  | with_reducible refine Eq.mpr okS_ret ?_
  | with_reducible refine Eq.mpr okS_retV ?_
  | with_reducible refine Eq.mpr okS_asg ?_
  | with_reducible refine Eq.mpr okS_for ?_
  | with_reducible refine Eq.mpr okS_expr ?_
  | with_reducible refine Eq.mpr okS_bk ?_
  | with_reducible refine Eq.mpr okS_ct ?_
  | with_reducible refine Eq.mpr okS_rtN ?_
  | with_reducible refine Eq.mpr okM_lend ?_
  | with_reducible refine Eq.mpr okM_make ?_
  | with_reducible refine Eq.mpr okM_enumA ?_
  | with_reducible refine Eq.mpr okM_join ?_
  | with_reducible refine setK_i (by simp only [set_un, set_fz, set_ow, set_s, Option.map_some, slOf_f, slOf_t, chg_ow, chg_io, chg_s, List.set_cons_zero, List.set_cons_succ, Int.reduceToNat, List.replicate_succ, List.replicate_zero, Nat.reduceSub, wipeE_cons, wipeE_nil]; first | done | rfl) ?_
  | with_reducible refine chgK_i (by simp only [set_un, set_fz, set_ow, set_s, Option.map_some, slOf_f, slOf_t, chg_ow, chg_io, chg_s, List.set_cons_zero, List.set_cons_succ, Int.reduceToNat, List.replicate_succ, List.replicate_zero, Nat.reduceSub, wipeE_cons, wipeE_nil]; first | done | rfl) ?_
  | with_reducible refine And.intro (GMod.mk (by omega)) ?_
  | with_reducible refine And.intro (GDiv.mk ⟨by omega, by omega⟩) ?_
  | with_reducible refine And.intro (GPow.mk ⟨by omega, by omega, by omega, by omega⟩) ?_
  | with_reducible refine And.intro (GMul.r ⟨by omega, by omega⟩) ?_
  | with_reducible refine And.intro (GMul.l ⟨by omega, by omega⟩) ?_
  | with_reducible refine split_T ?_
  | with_reducible refine split_F ?_
  | with_reducible refine split_dec (fun _ => ?_) (fun _ => ?_)
  | with_reducible refine split_neg ?_
  | with_reducible refine split_ne (fun _ => ?_) (fun _ => ?_)
  | with_reducible refine split_eqb (fun _ => ?_) (fun _ => ?_)
  | with_reducible refine And.intro (smI_of ⟨by omega, by omega⟩) ?_
  | refine ⟨_, ix_row (by first | exact seqR_d | exact seqR_t | assumption) (by omega), ?_⟩
  | refine ⟨_, ix_dM (by omega), ?_⟩
  | refine ⟨_, rfl, _, rfl, _, rfl, ?_⟩
  | refine ⟨_, rfl, _, rfl, ?_⟩
  | refine ⟨_, rfl, ⟨_, rfl⟩, ?_⟩
  | refine ⟨_, rfl, ?_⟩
  | refine ⟨_, _, rfl, ?_⟩
  | refine ⟨rfl, ?_⟩
  | refine And.intro (show List.length _ ≤ LIM by simp only [List.length_cons, List.length_nil, List.length_map, List.length_range, rg_len, LIM_eq]; omega) ?_
  | exact smI_of ⟨by omega, by omega⟩
  | ((with_reducible show wipeE _ _ = _); rfl))
section
variable {e : Env} {P : D × Bool → Env → Prop}
def zeroM (h w : Nat) : List (List Int) := List.replicate h (List.replicate w 0)
theorem zeroM_shp {h w : Nat} : Shp w (zeroM h w) := shp_rep
theorem run_init0 {i : Nat} {h w : Nat} (ho : ownD e i = some (.obj 0 [])) (hh : h ≤ 20) (hw : w ≤ 40) (k : ∀ s, P (.non, false) (chg e i (tabD h w (zeroM h w) s))) : OkM (mRun 8 4 mb_Table___init__ [.slot i, .val (.int h), .val (.int w), .val .non]) e P := by
  refine run_io i _ [_, _, _] ho ?_
  unfold mb_Table___init__
  repeat' contradiction
  refine ⟨fun _ => ?_, fun z => absurd z (by decide)⟩
  refine okS_setW (Eq.mpr okM_lc ?_)
  repeat' contradiction
  refine okM_mapI (fun _ => dR (List.replicate w 0)) (fun n y hn => ?_) ?_
  · refine ⟨_, rfl, ?_⟩
    exact Eq.mpr okM_bin (Eq.mpr okM_val (Eq.mpr okM_list (Eq.mpr okM_cons (Eq.mpr okM_val (Eq.mpr okM_C (Eq.mpr okM_nil ⟨rfl, _, rfl, by simp [LIM_eq], Eq.mpr okM_slot ⟨_, rfl, _, rfl, _, rfl, _, rep_mul (i := w) (by omega), rfl, rfl⟩⟩))))))
  · have hm : (zeroM h w).length = h := List.length_replicate
    have hr : ∀ r ∈ zeroM h w, r.length = w := fun r hr => (zeroM_shp r hr).1
    have e0 : (List.map (fun _ => dR (List.replicate w 0)) (List.range (rgD 0 (h : Int).toNat).length)) = (zeroM h w).map dR := by
      rw [rg_len, Int.toNat_natCast, List.map_const', List.length_range]
      unfold zeroM
      rw [List.map_replicate]
    rw [e0]
    have ezm : modM (zeroM h w) = zeroM h w := by
      unfold modM zeroM
      rw [List.map_replicate, List.map_replicate]; rfl
    have hll : ((zeroM h w).map dR).length = h := by rw [List.length_map, hm]
    repeat' contradiction
    all_goals first | (exfalso; omega) | skip
    refine okS_loop (fun n E => ∃ s5 s6, E = [.io (.obj 0 []), .fz (.int h), .fz (.int w), .fz (dM (zeroM h w)), .un, s5, s6, .un] ∧ Fr s5 ∧ Fr s6) ⟨.un, .un, rfl, trivial, trivial⟩ (fun n y E hn hI => ?_) fun E hI => ?_
    · obtain ⟨s5, s6, rfl, f5, f6⟩ := hI
      obtain ⟨y', rfl, hy⟩ := enumD_get hn
      rw [List.getElem?_map] at hy
      obtain ⟨r, hr1, rfl⟩ := Option.map_eq_some_iff.mp hy
      have hrw := hr r (List.mem_of_getElem? hr1)
      have hyl := @lenR r
      refine ⟨[.io (.obj 0 []), .fz (.int h), .fz (.int w), .fz (dM (zeroM h w)), .un, .fz (.int ((0 + n : Nat) : Int)), .fz (dR r), .un], by simp [gTupD, gsCons, gPut, gsNil, set_fr f5, set_fr f6], ?_⟩
      repeat' contradiction
      all_goals first | (exfalso; omega) | exact ⟨trivial, trivial⟩
    · obtain ⟨s5, s6, rfl, f5, f6⟩ := hI
      repeat' contradiction
      refine ⟨by cases s6 <;> first | rfl | exact f6.elim, by rw [LIM_eq]; omega, ?_⟩
      refine okM_mapI (fun n => tR (row (zeroM h w) n)) (fun n y hn => ?_) ?_
      · rw [List.getElem?_map] at hn
        obtain ⟨r, hr1, rfl⟩ := Option.map_eq_some_iff.mp hn
        have hrn : row (zeroM h w) n = r := by have := row_lt (lt_of_get hr1); rw [hr1] at this; exact (Option.some.inj this).symm
        have hrw := hr r (List.mem_of_getElem? hr1)
        have hrd := (zeroM_shp r (List.mem_of_getElem? hr1)).2
        have hrl := @lenR r
        refine ⟨_, rfl, ?_⟩
        repeat' contradiction
        refine okM_map id (fun d hd => ?_) ?_
        · obtain ⟨n, hn, rfl⟩ := List.mem_map.mp hd
          have hn2 := hrd n hn
          repeat' contradiction
          exact ⟨congrArg D.int (Int.emod_eq_of_lt hn2.1 hn2.2), rfl⟩
        · repeat' contradiction
          rw [List.map_id, hrn]
          exact ⟨rfl, rfl⟩
      · repeat' contradiction
        have e1 : List.map (fun n => tR (row (zeroM h w) n)) (List.range ((zeroM h w).map dR).length) = (zeroM h w).map tR := by
          apply List.ext_getElem?
          intro i
          rw [List.getElem?_map, List.getElem?_map]
          by_cases hi : i < h
          · rw [List.getElem?_range (by omega), row_lt (by omega)]; rfl
          · rw [List.getElem?_eq_none (by simp; omega), List.getElem?_eq_none (by omega)]; rfl
        rw [e1]
        refine run_table_text (m := zeroM h w) (by omega) hw zeroM_shp fun s => ?_
        refine ⟨_, rfl, _, rfl, chgK_i rfl ⟨_, rfl, k s⟩⟩
/-! the zero test -/
def isZ (m : List (List Int)) : Bool := (m.filter fun r => decide (0 < maxI (r ++ [0]))).isEmpty
theorem isZ_iff {m : List (List Int)} {w : Nat} (hS : Shp w m) : isZ m = true ↔ m = zeroM m.length w := by
  unfold isZ
  rw [List.isEmpty_iff, List.filter_eq_nil_iff]
  constructor
  · intro h
    refine List.eq_replicate_iff.mpr ⟨rfl, fun r hr => List.eq_replicate_iff.mpr ⟨(hS r hr).1, fun x hx => ?_⟩⟩
    have h1 := h r hr
    have h2 := (maxI_mem (ns := r ++ [0]) (by simp)).2 x (List.mem_append_left _ hx)
    have h3 := (hS r hr).2 x hx
    have h4 : ¬ (0 < maxI (r ++ [0])) := by simpa using h1
    omega
  · intro h r hr
    have h1 : r = List.replicate w 0 := by
      rw [h] at hr
      exact (List.mem_replicate.mp hr).2
    have h2 := (maxI_mem (ns := r ++ [0]) (by simp)).1
    have h3 : maxI (r ++ [0]) = 0 := by
      rcases List.mem_append.mp h2 with z | z
      · have z2 : maxI (r ++ [0]) ∈ List.replicate w (0 : Int) := by rw [← h1]; exact z
        exact (List.mem_replicate.mp z2).2
      · simpa using z
    rw [h3]; decide
theorem own_app {e : Env} {d : D} : ownD (e ++ [.ow d]) e.length = some d := by
  unfold ownD
  rw [List.getElem?_append_right (Nat.le_refl _), Nat.sub_self]; rfl
theorem chg_app {e : Env} {d d' : D} : chg (e ++ [.ow d]) e.length d' = e ++ [.ow d'] := by
  unfold chg
  rw [List.getElem?_append_right (Nat.le_refl _), Nat.sub_self]
  exact set_last _ _ _
theorem make_fin {e : Env} {d d' : D} {P : D × Bool → Env → Prop} (h : P (d', true) e) : ((D.non, false) : D × Bool) = (.non, false) ∧ ∃ d1, (chg (e ++ [.ow d]) e.length d')[e.length]? = some (.ow d1) ∧ P (d1, true) ((chg (e ++ [.ow d]) e.length d').take e.length) := by
  rw [chg_app]
  refine ⟨rfl, d', ?_, ?_⟩
  · rw [List.getElem?_append_right (Nat.le_refl _), Nat.sub_self]; rfl
  · rw [List.take_left]; exact h
theorem make_tab {e : Env} {h w : Nat} {m : List (List Int)} {x : D} {P : D × Bool → Env → Prop} (hs : SeqM x m) (hm : m.length = h) (hr : ∀ r ∈ m, r.length = w) (hh : h ≤ 20) (hw : w ≤ 40) (k : ∀ s, P (tabD h w (modM m) s, true) e) :
    OkM (mRun 8 4 mb_Table___init__ (.slot e.length :: ([.val (.int h), .val (.int w), .val x] ++ List.map Hv.val []))) (e ++ [.ow (.obj 0 [])]) fun z e2 => z = (.non, false) ∧ ∃ d, e2[e.length]? = some (.ow d) ∧ P (d, true) (e2.take e.length) :=
  run_init own_app hs hm hr hh hw fun s => make_fin (k s)
theorem make_tab0 {e : Env} {h w : Nat} {P : D × Bool → Env → Prop} (hh : h ≤ 20) (hw : w ≤ 40) (k : ∀ s, P (tabD h w (zeroM h w) s, true) e) :
    OkM (mRun 8 4 mb_Table___init__ (.slot e.length :: ([.val (.int h), .val (.int w)] ++ List.map Hv.val [.non]))) (e ++ [.ow (.obj 0 [])]) fun z e2 => z = (.non, false) ∧ ∃ d, e2[e.length]? = some (.ow d) ∧ P (d, true) (e2.take e.length) :=
  run_init0 own_app hh hw fun s => make_fin (k s)
theorem dis_len {m m' : List (List Int)} (h : Dis m m') : m'.length = m.length := by rw [← h.1, List.length_map]
theorem dis_wid {m m' : List (List Int)} {w : Nat} (h : Dis m m') (hS : Shp w m) : ∀ r ∈ m', r.length = w := fun r hr => by
  have : r.map (· % 1000003) ∈ m := by rw [← h.1]; exact List.mem_map_of_mem hr
  have := (hS _ this).1
  rwa [List.length_map] at this
def mTuples : M (D × Bool) := (mIf (mCmpT cGt (mVal (mDef 4 2 mb__law_draw [] (mCons (mSlot 0) (mCons (mVal (mC (.int 3))) mNil)))) (mVal (mC (.int 0)))) (mVar 2) (mCall (f1 oTuple) (mCons (mVal (mLc (mIter (mVar 2)) [3] (gPut 3) mYes (mCall (f1 oTuple) (mCons (mSlot 3) mNil)))) mNil)))
theorem run_tuples {d A : D} {m : List (List Int)} {Q : D × Bool → DV.Env → Prop} (hd : JOk d) (hm : m.length ≤ 20) (k : ∀ x d', SeqM x m → JOk d' → Q (x, false) [.io d', .fz A, .fz (dM m), .un]) : OkM mTuples [.io d, .fz A, .ow (dM m), .un] Q := by
  unfold mTuples
  repeat' contradiction
  refine run_draw rfl hd (by decide) (by decide) fun v d1 hd1 h1 h2 => ?_
  repeat' contradiction
  · exact k _ _ seqM_d hd1
  · have hml := @lenM m
    repeat' contradiction
    refine okM_map (fun d => match d with | .lst xs => .tup xs | d => d) (fun x hx => ?_) ?_
    · obtain ⟨r, hr, rfl⟩ := List.mem_map.mp hx
      repeat' contradiction
    · repeat' contradiction
      have e1 : (m.map dR).map (fun d => match d with | .lst xs => D.tup xs | d => d) = m.map tR := by
        rw [List.map_map]; rfl
      show Q (D.tup ((m.map dR).map _), false) _
      rw [e1]
      exact k _ _ seqM_t hd1
theorem ret_table {d : D} {h w : Nat} {m m' : List (List Int)} {E : DV.Env} {nx : DV.Env → Prop} {rt : D → Bool → DV.Env → Prop} {bk ct : DV.Env → Prop} (hE : E = [.io d, .fz (dT h w m), .ow (dM m'), .un]) (hd : JOk d) (hm : m.length = h) (hS : Shp w m) (hdis : Dis m m') (hh : h ≤ 20) (hw : w ≤ 20) (k : ∀ s d', JOk d' → rt (tabD h w m s) true [.io d', .fz (dT h w m), .fz (dM m'), .un]) :
    OkS (sRet (mMake 0 8 4 mb_Table___init__ [] (mCons (mVal (mBin opIx (mSlot 1) (mVal (mC (.int 0))))) (mCons (mVal (mBin opIx (mSlot 1) (mVal (mC (.int 1))))) (mCons (mVal mTuples) mNil))))) E nx rt bk ct := by
  subst hE
  repeat' contradiction
  refine run_tuples hd (by rw [dis_len hdis]; omega) fun x d' hx hd' => ?_
  repeat' contradiction
  refine make_tab (e := [.io d', .fz (dT h w m), .fz (dM m'), .un]) (P := fun z e2 => rt z.1 z.2 e2) hx (by rw [dis_len hdis, hm]) (dis_wid hdis hS) hh (by omega) fun s => ?_
  have e1 : modM m' = m := hdis.1
  rw [e1]
  exact k s d' hd'
theorem run_table {i : Nat} {d : D} {h w : Nat} {m : List (List Int)} (ho : ownD e i = some d) (hd : JOk d) (hm : m.length = h) (hS : Shp w m) (hh : h ≤ 20) (hw : w ≤ 20) (k : ∀ s d', JOk d' → P (tabD h w m s, true) (chg e i d')) : OkM (mRun 4 2 mb__law_table [.slot i, .val (dT h w m)]) e P := by
  refine run_i2 ho ?_
  unfold mb__law_table
  repeat' contradiction
  refine run_disguised rfl hd (by omega) hw hS fun m' d1 hd1 hdis => ?_
  repeat' contradiction
  refine run_isZero (by omega) (fun r hr => by rw [(hS r hr).1]; omega) ?_
  refine ⟨_, rfl, _, rfl, fun hz => ?_, fun hz => split_F (Eq.mpr okS_nx (ret_table rfl hd1 hm hS hdis hh hw fun s d' hd' => ⟨_, rfl, k s _ hd'⟩))⟩
  have hzm : m = zeroM h w := by rw [← hm]; exact (isZ_iff hS).mp hz
  repeat' contradiction
  refine run_draw rfl hd1 (by decide) (by decide) fun v d2 hd2 h1 h2 => ?_
  refine Eq.mpr okM_val (Eq.mpr okM_C ⟨_, rfl, _, rfl, _, eq_int, split_dec (fun hv => ?_) (fun hv => Eq.mpr okS_nx (ret_table rfl hd2 hm hS hdis hh hw fun s d' hd' => ⟨_, rfl, k s _ hd'⟩))⟩)
  repeat' contradiction
  rw [hzm] at k
  refine make_tab0 (e := [.io d2, .fz (dT h w m), .ow (dM m'), .un]) (P := fun z e2 => ∃ d', e2[0]? = some (.io d') ∧ P z (chg e i d')) (w := w) hh (by omega) fun s => ?_
  exact ⟨_, rfl, k s _ hd2⟩
/-- a table handed: a Table, or rows -/
def HandD (x : D) (h w : Nat) (m : List (List Int)) : Prop := (∃ s, x = tabD h w m s) ∨ (0 < h ∧ 0 < w ∧ ∃ m', SeqM x m' ∧ Dis m m')
theorem run_hand {i : Nat} {d : D} {h w : Nat} {m : List (List Int)} (ho : ownD e i = some d) (hd : JOk d) (hm : m.length = h) (hS : Shp w m) (hh : h ≤ 20) (hw : w ≤ 20) (k : ∀ x fl d', HandD x h w m → JOk d' → P (x, fl) (chg e i d')) : OkM (mRun 4 2 mb__law_hand [.slot i, .val (dT h w m)]) e P := by
  refine run_i2 ho ?_
  unfold mb__law_hand
  have tab : ∀ {nx : DV.Env → Prop} {d1 : D}, JOk d1 → OkS (sRet (mDef 4 2 mb__law_table [] (mCons (mSlot 0) (mCons (mVal (mVar 1)) mNil)))) [.io d1, .fz (dT h w m), .un, .un] nx (fun r fl e' => ∃ d', e'[0]? = some (.io d') ∧ P (r, fl) (chg e i d')) (fun _ => False) (fun _ => False) := by
    intro nx d1 hd1
    repeat' contradiction
    exact run_table rfl hd1 hm hS hh hw fun s d' hd' => ⟨_, rfl, k _ _ _ (.inl ⟨s, rfl⟩) hd'⟩
  refine Eq.mpr okS_seq (Eq.mpr okS_if (Eq.mpr okM_or (Eq.mpr okM_cmpT (Eq.mpr okM_val (Eq.mpr okM_bin (Eq.mpr okM_slot ⟨_, rfl, Eq.mpr okM_val (Eq.mpr okM_C ⟨_, rfl, _, rfl, _, rfl, Eq.mpr okM_val (Eq.mpr okM_C ⟨_, rfl, _, rfl, _, eq_int, split_dec (fun hz => split_T (tab hd)) (fun hz => ?_)⟩)⟩)⟩))))))
  refine Eq.mpr okM_or (Eq.mpr okM_cmpT (Eq.mpr okM_val (Eq.mpr okM_bin (Eq.mpr okM_slot ⟨_, rfl, Eq.mpr okM_val (Eq.mpr okM_C ⟨_, rfl, _, rfl, _, rfl, Eq.mpr okM_val (Eq.mpr okM_C ⟨_, rfl, _, rfl, _, eq_int, split_dec (fun hz => split_T (tab hd)) (fun hz2 => ?_)⟩)⟩)⟩))))
  repeat' contradiction
  refine run_draw rfl hd (by decide) (by decide) fun v d2 hd2 h1 h2 => ?_
  refine Eq.mpr okM_val (Eq.mpr okM_C ⟨_, rfl, _, rfl, _, eq_int, split_dec (fun hv => tab hd2) (fun hv => Eq.mpr okS_nx ?_)⟩)
  repeat' contradiction
  refine run_disguised rfl hd2 (by omega) hw hS fun m' d3 hd3 hdis => ?_
  refine setK_i (by simp; rfl) ?_
  refine Eq.mpr okS_ret (run_tuples (A := dT h w m) hd3 (by rw [dis_len hdis]; omega) fun x d' hx hd' => ?_)
  exact ⟨_, rfl, k _ _ _ (.inr ⟨by omega, by omega, m', hx, hdis⟩) hd'⟩
end
end DV
-- K2P
namespace DV
open PySem PySem.Spec PyProof.Rows L2
open Lin
local macro_rules | `(tactic| contradiction) => `(tactic| first
  | with_reducible refine okM_mod ?_
  | with_reducible refine okM_mul ?_
  | with_reducible refine okM_div ?_
  | with_reducible refine okM_pow ?_
  | with_reducible refine okM_ix ?_
  | with_reducible refine Eq.mpr okM_bin ?_
  | with_reducible refine okS_setW ?_
  | with_reducible refine okS_setIxW ?_
  | with_reducible refine okS_appW ?_
  | with_reducible refine okS_putFW ?_
  | with_reducible refine okS_parW ?_
  | with_reducible refine okM_popAtW ?_
  | with_reducible refine Eq.mpr okM_val ?_
  | with_reducible refine Eq.mpr okM_slot ?_
  | with_reducible refine Eq.mpr okM_C ?_
  | with_reducible refine Eq.mpr okM_cons ?_
  | with_reducible refine Eq.mpr okM_nil ?_
  | with_reducible refine Eq.mpr okM_call ?_
  | with_reducible refine Eq.mpr okM_var ?_
  | with_reducible refine Eq.mpr okM_un ?_
  | with_reducible refine Eq.mpr okM_list ?_
  | with_reducible refine Eq.mpr okM_tup ?_
  | with_reducible refine Eq.mpr okM_sl ?_
  | with_reducible refine Eq.mpr okM_part ?_
  | with_reducible refine Eq.mpr okM_noPart ?_
  | with_reducible refine Eq.mpr okM_cmpT ?_
  | with_reducible refine Eq.mpr okM_cmp ?_
  | with_reducible refine Eq.mpr okM_tru ?_
  | with_reducible refine Eq.mpr okM_not ?_
  | with_reducible refine Eq.mpr okM_and ?_
  | with_reducible refine Eq.mpr okM_or ?_
  | with_reducible refine Eq.mpr okM_if ?_
  | with_reducible refine Eq.mpr okM_andV ?_
  | with_reducible refine Eq.mpr okM_orV ?_
  | with_reducible refine Eq.mpr okM_iter ?_
  | with_reducible refine Eq.mpr okM_rg1 ?_
  | with_reducible refine Eq.mpr okM_rg2 ?_
  | with_reducible refine Eq.mpr okM_zip ?_
  | with_reducible refine Eq.mpr okM_lc ?_
  | with_reducible refine Eq.mpr okM_def ?_
  | with_reducible refine Eq.mpr okM_isi ?_
  | with_reducible refine Eq.mpr okM_ownL ?_
  | with_reducible refine Eq.mpr okM_pure ?_
  | with_reducible refine Eq.mpr okS_seq ?_
  | with_reducible refine Eq.mpr okS_nx ?_
  | with_reducible refine Eq.mpr okS_if ?_
  | with_reducible refine Eq.mpr okS_ret ?_
  | with_reducible refine Eq.mpr okS_retV ?_
  | with_reducible refine Eq.mpr okS_asg ?_
  | with_reducible refine Eq.mpr okS_for ?_
  | with_reducible refine Eq.mpr okS_expr ?_
  | with_reducible refine Eq.mpr okS_bk ?_
  | with_reducible refine Eq.mpr okS_ct ?_
  | with_reducible refine Eq.mpr okS_rtN ?_
  | with_reducible refine Eq.mpr okM_lend ?_
  | with_reducible refine Eq.mpr okM_make ?_
  | with_reducible refine Eq.mpr okM_enumA ?_
  | with_reducible refine Eq.mpr okM_join ?_
  | with_reducible refine setK_i (by simp only [set_un, set_fz, set_ow, set_s, Option.map_some, slOf_f, slOf_t, chg_ow, chg_io, chg_s, List.set_cons_zero, List.set_cons_succ, Int.reduceToNat, List.replicate_succ, List.replicate_zero, Nat.reduceSub, wipeE_cons, wipeE_nil]; first | done | rfl) ?_
  | with_reducible refine chgK_i (by simp only [set_un, set_fz, set_ow, set_s, Option.map_some, slOf_f, slOf_t, chg_ow, chg_io, chg_s, List.set_cons_zero, List.set_cons_succ, Int.reduceToNat, List.replicate_succ, List.replicate_zero, Nat.reduceSub, wipeE_cons, wipeE_nil]; first | done | rfl) ?_
  | with_reducible refine And.intro (GMod.mk (by omega)) ?_
  | with_reducible refine And.intro (GDiv.mk ⟨by omega, by omega⟩) ?_
  | with_reducible refine And.intro (GPow.mk ⟨by omega, by omega, by omega, by omega⟩) ?_
  | with_reducible refine And.intro (GMul.r ⟨by omega, by omega⟩) ?_
  | with_reducible refine And.intro (GMul.l ⟨by omega, by omega⟩) ?_
  | with_reducible refine split_T ?_
  | with_reducible refine split_F ?_
  | with_reducible refine split_dec (fun _ => ?_) (fun _ => ?_)
  | with_reducible refine split_neg ?_
  | with_reducible refine split_ne (fun _ => ?_) (fun _ => ?_)
  | with_reducible refine split_eqb (fun _ => ?_) (fun _ => ?_)
  | with_reducible refine And.intro (smI_of ⟨by omega, by omega⟩) ?_
  | refine ⟨_, ix_row (by first | exact seqR_d | exact seqR_t | assumption) (by omega), ?_⟩
  | refine ⟨_, ix_dM (by omega), ?_⟩
  | refine ⟨_, rfl, _, rfl, _, rfl, ?_⟩
  | refine ⟨_, rfl, _, rfl, ?_⟩
  | refine ⟨_, rfl, ⟨_, rfl⟩, ?_⟩
  | refine ⟨_, rfl, ?_⟩
  | refine ⟨_, _, rfl, ?_⟩
  | refine ⟨rfl, ?_⟩
  | refine And.intro (show List.length _ ≤ LIM by simp only [List.length_cons, List.length_nil, List.length_map, List.length_range, rg_len, LIM_eq]; omega) ?_
  | exact smI_of ⟨by omega, by omega⟩
  | ((with_reducible show wipeE _ _ = _); rfl))
section
variable {e : Env} {P : D × Bool → Env → Prop}
theorem isi_lst {ds : List D} : opIsi 1 tbO ob_Table (.lst ds) = some false := by
  show tbO "list" = some false
  decide +kernel
theorem isi_tupT {ds : List D} : opIsi 1 tbO ob_Table (.tup ds) = some false := by
  show tbO "tuple" = some false
  decide +kernel
theorem run_table_of {x : D} {h w : Nat} {m : List (List Int)} (hx : HandD x h w m) (hm : m.length = h) (hS : Shp w m) (hh : h ≤ 20) (hw : w ≤ 40) (k : ∀ s fl, P (tabD h w m s, fl) e) : OkM (mRun 1 1 mb_table_of [.val x]) e P := by
  refine run_v1 ?_
  unfold mb_table_of
  rcases hx with ⟨s, rfl⟩ | ⟨hp, wp, m', hs, hdis⟩
  · refine Eq.mpr okS_seq (Eq.mpr okS_if (Eq.mpr okM_tru (Eq.mpr okM_val (Eq.mpr okM_isi (Eq.mpr okM_slot ⟨_, rfl, _, rfl, _, isi_tab, _, rfl, _, rfl, split_T ?_⟩)))))
    repeat' contradiction
    exact k s _
  · have hni : opIsi 1 tbO ob_Table x = some false := by
      obtain ⟨ds, h1, _⟩ := hs
      rcases h1 with rfl | rfl
      · exact isi_lst
      · exact isi_tupT
    have hml := dis_len hdis
    have hlm := len_mat hs
    obtain ⟨y, hy, hyr⟩ := ix_mat (i := 0) hs (by omega)
    have hyl := len_row hyr
    have hw0 := dis_wid hdis hS _ (row_mem (m := m') (i := 0) (by omega))
    have hmh : ((m'.length : Nat) : Int) = h := by omega
    have hmw : (((row m' 0).length : Nat) : Int) = w := by omega
    rw [hmh] at hlm
    rw [hmw] at hyl
    refine Eq.mpr okS_seq (Eq.mpr okS_if (Eq.mpr okM_tru (Eq.mpr okM_val (Eq.mpr okM_isi (Eq.mpr okM_slot ⟨_, rfl, _, rfl, _, hni, _, rfl, _, rfl, split_F ?_⟩)))))
    repeat' contradiction
    refine ⟨_, hlm, ?_⟩
    repeat' contradiction
    all_goals first | (exfalso; omega) | skip
    refine ⟨_, hy, ?_⟩
    repeat' contradiction
    refine ⟨_, hyl, ?_⟩
    repeat' contradiction
    all_goals first | (exfalso; omega) | skip
    refine ⟨_, hlm, ?_⟩
    repeat' contradiction
    refine ⟨_, hy, ?_⟩
    repeat' contradiction
    refine ⟨_, hyl, ?_⟩
    repeat' contradiction
    refine make_tab (e := [.fz x]) (P := fun z _ => P (z.1, z.2) e) hs (by omega) (dis_wid hdis hS) hh hw fun s => ?_
    have e1 : modM m' = m := hdis.1
    rw [e1]
    exact k s _
theorem modM_id {m : List (List Int)} {w : Nat} (hS : Shp w m) : modM m = m := (Dis.refl hS).1
theorem run_toc {h : Nat} {cols : List (List Int)} (hS : Shp h cols) (hh : h ≤ 20) (hw : cols.length ≤ 40) (k : ∀ s, P (tabD h cols.length (colsM cols h) s, true) e) : OkM (mRun 2 2 mb_table_of_columns [.val (.int h), .val (dM cols)]) e P := by
  refine run_v2 ?_
  unfold mb_table_of_columns
  have hll := @lenM cols
  repeat' contradiction
  refine run_columns seqM_d (by omega) (by omega) (fun r hr => by rw [(hS r hr).1]; exact Nat.le_refl _) ?_
  repeat' contradiction
  rw [hll]
  refine make_tab (e := [.fz (.int h), .fz (dM cols)]) (P := fun z _ => P (z.1, z.2) e) seqM_d colsM_len (fun r hr => (colsM_shp rfl (fun r hr => (hS r hr).2) r hr).1) hh hw fun s => ?_
  rw [modM_id (colsM_shp rfl (fun r hr => (hS r hr).2))]
  exact k s
theorem run_frame {x : D} {h w : Nat} {m : List (List Int)} (hx : HandD x h w m) (hm : m.length = h) (hS : Shp w m) (hh : h ≤ 20) (hw : w ≤ 40) (k : ∀ R n s, RoomOf h w m R n → n ≤ w → P (tabD h n R s, true) e) : OkM (mRun 4 1 mb_frame [.val x]) e P := by
  refine run_v1 ?_
  unfold mb_frame
  repeat' contradiction
  refine run_table_of hx hm hS hh hw fun s fl => ?_
  refine setK_i (s := slOf (tabD h w m s) fl) (by rfl) ?_
  have go : ∀ t : Sl, t = .fz (tabD h w m s) ∨ t = .ow (tabD h w m s) → OkS (sSeq (sAsg (mDef 9 2 mb_echelon [] (mCons (mVal (mDef 4 2 mb_columns_of [] (mCons (mVal (mUn (opAtt 1 flT 2) (mSlot 1))) (mCons (mVal (mUn (opAtt 1 flT 1) (mSlot 1))) mNil)))) (mCons (mVal (mUn (opAtt 1 flT 0) (mSlot 1))) mNil))) (gTupD (gsCons (gPut 2) (gsCons (gPut 3) gsNil)) 2))
  (sRet (mDef 2 2 mb_table_of_columns [] (mCons (mVal (mUn (opAtt 1 flT 0) (mSlot 1))) (mCons (mVal (mVar 2)) mNil))))) [.fz x, t, .un, .un] (fun _ => P (.non, false) e) (fun d fl _ => P (d, fl) e) (fun _ => False) (fun _ => False) := by
    intro t ht
    rcases ht with rfl | rfl
    all_goals
      repeat' contradiction
      refine run_columns seqM_t (by omega) (by omega) (fun r hr => by rw [(hS r hr).1]; exact Nat.le_refl _) ?_
      repeat' contradiction
      refine run_echelon seqM_d (colsM_shp hm fun r hr => (hS r hr).2) (by omega) (by rw [colsM_len]; omega) fun D Q R hN hl => ?_
      refine ⟨_, rfl, ?_⟩
      repeat' contradiction
      rw [colsM_len] at hl
      have hdl := R.len
      refine run_toc (fun r hr => ⟨R.wid r hr, R.red r hr⟩) hh (by omega) fun s => ?_
      refine k _ _ s ⟨D, Q, R, fun y => (hN y).trans (null_cols hm), hdl, rfl⟩ (by omega)
  cases fl with
  | true => exact go _ (.inr rfl)
  | false => exact go _ (.inl rfl)
end
end DV
-- K2Q
namespace DV
open PySem PySem.Spec PyProof.Rows L2
open Lin
local macro_rules | `(tactic| contradiction) => `(tactic| first
  | with_reducible refine okM_mod ?_
  | with_reducible refine okM_mul ?_
  | with_reducible refine okM_div ?_
  | with_reducible refine okM_pow ?_
  | with_reducible refine okM_ix ?_
  | with_reducible refine Eq.mpr okM_bin ?_
  | with_reducible refine okS_setW ?_
  | with_reducible refine okS_setIxW ?_
  | with_reducible refine okS_appW ?_
  | with_reducible refine okS_putFW ?_
  | with_reducible refine okS_parW ?_
  | with_reducible refine okM_popAtW ?_
  | with_reducible refine Eq.mpr okM_val ?_
  | with_reducible refine Eq.mpr okM_slot ?_
  | with_reducible refine Eq.mpr okM_C ?_
  | with_reducible refine Eq.mpr okM_cons ?_
  | with_reducible refine Eq.mpr okM_nil ?_
  | with_reducible refine Eq.mpr okM_call ?_
  | with_reducible refine Eq.mpr okM_var ?_
  | with_reducible refine Eq.mpr okM_un ?_
  | with_reducible refine Eq.mpr okM_list ?_
  | with_reducible refine Eq.mpr okM_tup ?_
  | with_reducible refine Eq.mpr okM_sl ?_
  | with_reducible refine Eq.mpr okM_part ?_
  | with_reducible refine Eq.mpr okM_noPart ?_
  | with_reducible refine Eq.mpr okM_cmpT ?_
  | with_reducible refine Eq.mpr okM_cmp ?_
  | with_reducible refine Eq.mpr okM_tru ?_
  | with_reducible refine Eq.mpr okM_not ?_
  | with_reducible refine Eq.mpr okM_and ?_
  | with_reducible refine Eq.mpr okM_or ?_
  | with_reducible refine Eq.mpr okM_if ?_
  | with_reducible refine Eq.mpr okM_andV ?_
  | with_reducible refine Eq.mpr okM_orV ?_
  | with_reducible refine Eq.mpr okM_iter ?_
  | with_reducible refine Eq.mpr okM_rg1 ?_
  | with_reducible refine Eq.mpr okM_rg2 ?_
  | with_reducible refine Eq.mpr okM_zip ?_
  | with_reducible refine Eq.mpr okM_lc ?_
  | with_reducible refine Eq.mpr okM_def ?_
  | with_reducible refine Eq.mpr okM_isi ?_
  | with_reducible refine Eq.mpr okM_ownL ?_
  | with_reducible refine Eq.mpr okM_pure ?_
  | with_reducible refine Eq.mpr okS_seq ?_
  | with_reducible refine Eq.mpr okS_nx ?_
  | with_reducible refine Eq.mpr okS_if ?_
  | with_reducible refine Eq.mpr okS_ret ?_
  | with_reducible refine Eq.mpr okS_retV ?_
  | with_reducible refine Eq.mpr okS_asg ?_
  | with_reducible refine Eq.mpr okS_for ?_
  | with_reducible refine Eq.mpr okS_expr ?_
  | with_reducible refine Eq.mpr okS_bk ?_
  | with_reducible refine Eq.mpr okS_ct ?_
  | with_reducible refine Eq.mpr okS_rtN ?_
  | with_reducible refine Eq.mpr okM_lend ?_
  | with_reducible refine Eq.mpr okM_make ?_
  | with_reducible refine Eq.mpr okM_enumA ?_
  | with_reducible refine Eq.mpr okM_join ?_
  | with_reducible refine setK_i (by simp only [set_un, set_fz, set_ow, set_s, Option.map_some, slOf_f, slOf_t, chg_ow, chg_io, chg_s, List.set_cons_zero, List.set_cons_succ, Int.reduceToNat, List.replicate_succ, List.replicate_zero, Nat.reduceSub, wipeE_cons, wipeE_nil]; first | done | rfl) ?_
  | with_reducible refine chgK_i (by simp only [set_un, set_fz, set_ow, set_s, Option.map_some, slOf_f, slOf_t, chg_ow, chg_io, chg_s, List.set_cons_zero, List.set_cons_succ, Int.reduceToNat, List.replicate_succ, List.replicate_zero, Nat.reduceSub, wipeE_cons, wipeE_nil]; first | done | rfl) ?_
  | with_reducible refine And.intro (GMod.mk (by omega)) ?_
  | with_reducible refine And.intro (GDiv.mk ⟨by omega, by omega⟩) ?_
  | with_reducible refine And.intro (GPow.mk ⟨by omega, by omega, by omega, by omega⟩) ?_
  | with_reducible refine And.intro (GMul.r ⟨by omega, by omega⟩) ?_
  | with_reducible refine And.intro (GMul.l ⟨by omega, by omega⟩) ?_
  | with_reducible refine split_T ?_
  | with_reducible refine split_F ?_
  | with_reducible refine split_dec (fun _ => ?_) (fun _ => ?_)
  | with_reducible refine split_neg ?_
  | with_reducible refine split_ne (fun _ => ?_) (fun _ => ?_)
  | with_reducible refine split_eqb (fun _ => ?_) (fun _ => ?_)
  | with_reducible refine And.intro (smI_of ⟨by omega, by omega⟩) ?_
  | refine ⟨_, ix_row (by first | exact seqR_d | exact seqR_t | assumption) (by omega), ?_⟩
  | refine ⟨_, ix_dM (by omega), ?_⟩
  | refine ⟨_, rfl, _, rfl, _, rfl, ?_⟩
  | refine ⟨_, rfl, _, rfl, ?_⟩
  | refine ⟨_, rfl, ⟨_, rfl⟩, ?_⟩
  | refine ⟨_, rfl, ?_⟩
  | refine ⟨_, _, rfl, ?_⟩
  | refine ⟨rfl, ?_⟩
  | refine And.intro (show List.length _ ≤ LIM by simp only [List.length_cons, List.length_nil, List.length_map, List.length_range, rg_len, LIM_eq]; omega) ?_
  | exact smI_of ⟨by omega, by omega⟩
  | ((with_reducible show wipeE _ _ = _); rfl))
section
variable {e : Env} {P : D × Bool → Env → Prop}
theorem ixN_nat {l : Nat} {i : Nat} (h : i < l) : ixN l (i : Int) = some i := by
  unfold ixN
  simp
  omega
theorem set_nat {xs : List D} {v : D} {i : Nat} (h : i < xs.length) : setIxD v (.int (i : Int)) (.lst xs) = some (.lst (xs.set i v)) := by
  show (ixN xs.length (i : Int)).map _ = _
  rw [ixN_nat h]; rfl
theorem toVL_pivs : ∀ (Q : List Nat), toVL (Q.map fun (q : Nat) => D.int (q : Int)) = some (Q.map fun (q : Nat) => V.int (q : Int))
  | [] => rfl
  | q :: Q => by
    simp only [List.map_cons]
    unfold toVL
    rw [toVL_pivs Q]; rfl
theorem notIn_piv {f : Nat} {Q : List Nat} : cNotIn (.int (f : Int)) (pivD Q) = some (decide (f ∉ Q)) := by
  unfold cNotIn cIn pivD
  dsimp only [toV]
  rw [toVL_pivs]
  show some (!(inV _ _)) = _
  congr 1
  unfold inV
  rw [List.any_map]
  rw [Bool.eq_iff_iff, Bool.not_eq_true', decide_eq_true_iff, List.any_eq_false]
  constructor
  · intro h hq
    exact h f hq (by simp [eqV])
  · intro h q hq z
    have : (q : Int) = (f : Int) := by simpa [eqV] using z
    exact h (by rw [show f = q by omega]; exact hq)
/-- what the loop has written so far -/
def solN (D : List (List Int)) (Q : List Nat) (f n j : Nat) : Int := (if j = f then 1 else 0) + sumTo n fun i => if pv Q i = j then -(ent (row D i) f) else 0
def colN (w : Nat) (D : List (List Int)) (Q : List Nat) (f n : Nat) : List Int := (List.range w).map fun i => solN D Q f n (w - 1 - i) % 1000003
theorem colN_len {w f n : Nat} {D : List (List Int)} {Q : List Nat} : (colN w D Q f n).length = w := by simp [colN]
theorem solN_zero {w f n : Nat} {D : List (List Int)} {Q : List Nat} (R : RR w w D Q) (hn : n < Q.length) (hf : f ∉ Q) : solN D Q f n (pv Q n) = 0 := by
  unfold solN
  rw [if_neg (fun z => hf (by rw [← z]; exact pv_mem hn)), sum_none fun i hi => ?_]
  · rfl
  · rw [if_neg (fun z => by have := pv_inj R.inc (by omega) hn z; omega)]
theorem colN_set {w f n : Nat} {D : List (List Int)} {Q : List Nat} (R : RR w w D Q) (hn : n < Q.length) (hf : f ∉ Q) : ((colN w D Q f n).map DV.D.int).set (w - 1 - pv Q n) (.int (-(ent (row D n) f) % 1000003)) = (colN w D Q f (n + 1)).map DV.D.int := by
  have hp := R.piv _ (pv_mem hn)
  rw [← List.map_set]
  congr 1
  apply List.ext_getElem?
  intro i
  rw [List.getElem?_set]
  unfold colN
  rw [List.getElem?_map, List.getElem?_map, List.length_map, List.length_range]
  by_cases hi : i < w
  · rw [List.getElem?_range hi]
    have hs : solN D Q f (n + 1) (w - 1 - i) = solN D Q f n (w - 1 - i) + if pv Q n = w - 1 - i then -(ent (row D n) f) else 0 := by
      unfold solN
      show _ + (sumTo n _ + _) = _
      rw [Int.add_assoc]
    simp only [Option.map_some]
    rw [hs]
    by_cases hq : w - 1 - pv Q n = i
    · rw [if_pos hq, if_pos (by omega), if_pos (by omega), show w - 1 - i = pv Q n by omega, solN_zero R hn hf, Int.zero_add]
    · rw [if_neg hq, if_neg (by omega), Int.add_zero]
  · rw [List.getElem?_eq_none (by simpa using hi), if_neg (by omega)]; rfl
theorem run_null_column {w f : Nat} {D : List (List Int)} {Q : List Nat} (R : RR w w D Q) (hf : f < w) (hfq : f ∉ Q) (hw : w ≤ 100) (k : P (dR (nullCol w D Q f), true) e) : OkM (mRun 8 4 mb_null_column [.val (dM D), .val (pivD Q), .val (.int w), .val (.int f)]) e P := by
  refine run_v4 ?_
  unfold mb_null_column
  have hdl := R.len
  repeat' contradiction
  refine okM_mapI (fun _ => .int 0) (fun i d hi => ?_) ?_
  · repeat' contradiction
  · repeat' contradiction
    have e1 : setIxD (DV.D.int 1) (DV.D.int ((w : Int) - 1 - f)) (DV.D.lst (List.map (fun _ => DV.D.int 0) (List.range (rgD 0 (w : Int).toNat).length))) = some (dR (colN w D Q f 0)) := by
      rw [show (w : Int) - 1 - f = ((w - 1 - f : Nat) : Int) by omega]
      rw [set_nat (by rw [List.length_map, List.length_range, rg_len]; omega), rg_len, Int.toNat_natCast]
      unfold dR
      congr 2
      apply List.ext_getElem?
      intro i
      rw [List.getElem?_set, List.length_map, List.length_range]
      unfold colN
      rw [List.getElem?_map, List.getElem?_map, List.getElem?_map]
      by_cases hi : i < w
      · rw [List.getElem?_range hi]
        simp only [Option.map_some]
        have hs : solN D Q f 0 (w - 1 - i) = if w - 1 - i = f then 1 else 0 := Int.add_zero _
        rw [hs]
        by_cases hq : w - 1 - f = i
        · rw [if_pos hq, if_pos (by omega), if_pos (by omega)]; rfl
        · rw [if_neg hq, if_neg (by omega)]; rfl
      · rw [List.getElem?_eq_none (by simpa using hi), if_neg (by omega)]; rfl
    refine ⟨_, e1, chgK_i rfl ?_⟩
    refine Eq.mpr okS_seq (Eq.mpr okS_for (Eq.mpr okM_zip (Eq.mpr okM_cons (Eq.mpr okM_val (Eq.mpr okM_var ⟨_, rfl, Eq.mpr okM_cons (Eq.mpr okM_val (Eq.mpr okM_var ⟨_, rfl, Eq.mpr okM_nil ⟨_, _, rfl, ?_⟩⟩))⟩)))))
    refine okS_loop (fun n E => ∃ s6 s7, E = [.fz (dM D), .fz (pivD Q), .fz (.int w), .fz (.int f), .ow (dR (colN w D Q f n)), .un, s6, s7] ∧ Fr s6 ∧ Fr s7) ⟨_, _, rfl, trivial, trivial⟩ (fun n d E hn hI => ?_) fun E hI => ?_
    · obtain ⟨s6, s7, rfl, f6, f7⟩ := hI
      obtain ⟨x, y, rfl, hx, hy⟩ := zipD_get hn
      rw [List.getElem?_map] at hx hy
      obtain ⟨r, hr, rfl⟩ := Option.map_eq_some_iff.mp hx
      obtain ⟨q, hq, rfl⟩ := Option.map_eq_some_iff.mp hy
      have hnq := lt_of_get hq
      have hrn : row D n = r := by have := row_lt (lt_of_get hr); rw [hr] at this; exact (Option.some.inj this).symm
      have hqn : pv Q n = q := by have := pv_lt hnq; rw [hq] at this; exact (Option.some.inj this).symm
      have hp := R.piv _ (pv_mem hnq)
      rw [hqn] at hp
      have hrw := R.wid r (List.mem_of_getElem? hr)
      refine ⟨[.fz (dM D), .fz (pivD Q), .fz (.int w), .fz (.int f), .ow (dR (colN w D Q f n)), .un, .fz (dR r), .fz (.int q)], by simp [gTupD, gsCons, gPut, gsNil, set_fr f6, set_fr f7], ?_⟩
      have e2 : setIxD (DV.D.int (-(ent r f) % 1000003)) (DV.D.int ((w : Int) - 1 - q)) (dR (colN w D Q f n)) = some (dR (colN w D Q f (n + 1))) := by
        rw [show (w : Int) - 1 - q = ((w - 1 - q : Nat) : Int) by omega]
        unfold dR
        rw [set_nat (by rw [List.length_map, colN_len]; omega)]
        congr 2
        rw [← hqn, ← hrn]
        exact colN_set R hnq hfq
      repeat' contradiction
      refine ⟨_, e2, chgK_i rfl ?_⟩
      exact ⟨_, _, rfl, trivial, trivial⟩
    · obtain ⟨s6, s7, rfl, f6, f7⟩ := hI
      repeat' contradiction
      rw [zipD_len, List.length_map, List.length_map, hdl, Nat.min_self]
      exact k
end
end DV
-- K2R
namespace DV
open PySem PySem.Spec PyProof.Rows L2
open Lin
local macro_rules | `(tactic| contradiction) => `(tactic| first
  | with_reducible refine okM_mod ?_
  | with_reducible refine okM_mul ?_
  | with_reducible refine okM_div ?_
  | with_reducible refine okM_pow ?_
  | with_reducible refine okM_ix ?_
  | with_reducible refine Eq.mpr okM_bin ?_
  | with_reducible refine okS_setW ?_
  | with_reducible refine okS_setIxW ?_
  | with_reducible refine okS_appW ?_
  | with_reducible refine okS_putFW ?_
  | with_reducible refine okS_parW ?_
  | with_reducible refine okM_popAtW ?_
  | with_reducible refine Eq.mpr okM_val ?_
  | with_reducible refine Eq.mpr okM_slot ?_
  | with_reducible refine Eq.mpr okM_C ?_
  | with_reducible refine Eq.mpr okM_cons ?_
  | with_reducible refine Eq.mpr okM_nil ?_
  | with_reducible refine Eq.mpr okM_call ?_
  | with_reducible refine Eq.mpr okM_var ?_
  | with_reducible refine Eq.mpr okM_un ?_
  | with_reducible refine Eq.mpr okM_list ?_
  | with_reducible refine Eq.mpr okM_tup ?_
  | with_reducible refine Eq.mpr okM_sl ?_
  | with_reducible refine Eq.mpr okM_part ?_
  | with_reducible refine Eq.mpr okM_noPart ?_
  | with_reducible refine Eq.mpr okM_cmpT ?_
  | with_reducible refine Eq.mpr okM_cmp ?_
  | with_reducible refine Eq.mpr okM_tru ?_
  | with_reducible refine Eq.mpr okM_not ?_
  | with_reducible refine Eq.mpr okM_and ?_
  | with_reducible refine Eq.mpr okM_or ?_
  | with_reducible refine Eq.mpr okM_if ?_
  | with_reducible refine Eq.mpr okM_andV ?_
  | with_reducible refine Eq.mpr okM_orV ?_
  | with_reducible refine Eq.mpr okM_iter ?_
  | with_reducible refine Eq.mpr okM_rg1 ?_
  | with_reducible refine Eq.mpr okM_rg2 ?_
  | with_reducible refine Eq.mpr okM_zip ?_
  | with_reducible refine Eq.mpr okM_lc ?_
  | with_reducible refine Eq.mpr okM_def ?_
  | with_reducible refine Eq.mpr okM_isi ?_
  | with_reducible refine Eq.mpr okM_ownL ?_
  | with_reducible refine Eq.mpr okM_pure ?_
  | with_reducible refine Eq.mpr okS_seq ?_
  | with_reducible refine Eq.mpr okS_nx ?_
  | with_reducible refine Eq.mpr okS_if ?_
  | with_reducible refine Eq.mpr okS_ret ?_
  | with_reducible refine Eq.mpr okS_retV ?_
  | with_reducible refine Eq.mpr okS_asg ?_
  | with_reducible refine Eq.mpr okS_for ?_
  | with_reducible refine Eq.mpr okS_expr ?_
  | with_reducible refine Eq.mpr okS_bk ?_
  | with_reducible refine Eq.mpr okS_ct ?_
  | with_reducible refine Eq.mpr okS_rtN ?_
  | with_reducible refine Eq.mpr okM_lend ?_
  | with_reducible refine Eq.mpr okM_make ?_
  | with_reducible refine Eq.mpr okM_enumA ?_
  | with_reducible refine Eq.mpr okM_join ?_
  | with_reducible refine setK_i (by simp only [set_un, set_fz, set_ow, set_s, Option.map_some, slOf_f, slOf_t, chg_ow, chg_io, chg_s, List.set_cons_zero, List.set_cons_succ, Int.reduceToNat, List.replicate_succ, List.replicate_zero, Nat.reduceSub, wipeE_cons, wipeE_nil]; first | done | rfl) ?_
  | with_reducible refine chgK_i (by simp only [set_un, set_fz, set_ow, set_s, Option.map_some, slOf_f, slOf_t, chg_ow, chg_io, chg_s, List.set_cons_zero, List.set_cons_succ, Int.reduceToNat, List.replicate_succ, List.replicate_zero, Nat.reduceSub, wipeE_cons, wipeE_nil]; first | done | rfl) ?_
  | with_reducible refine And.intro (GMod.mk (by omega)) ?_
  | with_reducible refine And.intro (GDiv.mk ⟨by omega, by omega⟩) ?_
  | with_reducible refine And.intro (GPow.mk ⟨by omega, by omega, by omega, by omega⟩) ?_
  | with_reducible refine And.intro (GMul.r ⟨by omega, by omega⟩) ?_
  | with_reducible refine And.intro (GMul.l ⟨by omega, by omega⟩) ?_
  | with_reducible refine split_T ?_
  | with_reducible refine split_F ?_
  | with_reducible refine split_dec (fun _ => ?_) (fun _ => ?_)
  | with_reducible refine split_neg ?_
  | with_reducible refine split_ne (fun _ => ?_) (fun _ => ?_)
  | with_reducible refine split_eqb (fun _ => ?_) (fun _ => ?_)
  | with_reducible refine And.intro (smI_of ⟨by omega, by omega⟩) ?_
  | refine ⟨_, ix_row (by first | exact seqR_d | exact seqR_t | assumption) (by omega), ?_⟩
  | refine ⟨_, ix_dM (by omega), ?_⟩
  | refine ⟨_, rfl, _, rfl, _, rfl, ?_⟩
  | refine ⟨_, rfl, _, rfl, ?_⟩
  | refine ⟨_, rfl, ⟨_, rfl⟩, ?_⟩
  | refine ⟨_, rfl, ?_⟩
  | refine ⟨_, _, rfl, ?_⟩
  | refine ⟨rfl, ?_⟩
  | refine And.intro (show List.length _ ≤ LIM by simp only [List.length_cons, List.length_nil, List.length_map, List.length_range, rg_len, LIM_eq]; omega) ?_
  | exact smI_of ⟨by omega, by omega⟩
  | ((with_reducible show wipeE _ _ = _); rfl))
section
variable {e : Env} {P : D × Bool → Env → Prop}
theorem range_nat {w : Nat} (hw : w ≤ 1000) : oRange (.int (w : Int)) = some (.lst ((List.range w).map fun (i : Nat) => D.int (i : Int)), true) := by
  unfold oRange
  dsimp only
  rw [if_pos ⟨by omega, by rw [Int.toNat_natCast, LIM_eq]; omega⟩, Int.toNat_natCast]
theorem run_null_columns {w : Nat} {m : List (List Int)} (hS : Shp w m) (hw : w ≤ 100) (hl : m.length ≤ 100) (k : ∀ D Q, RR w w D Q → (∀ x, Null w D x ↔ Null w (m.map List.reverse) x) → P (dM ((frees w Q).map (nullCol w D Q)), true) e) : OkM (mRun 7 2 mb_null_columns [.val (tM m), .val (.int w)]) e P := by
  refine run_v2 ?_
  unfold mb_null_columns
  have hml : (m.map tR).length = m.length := List.length_map _
  repeat' contradiction
  refine okM_map (fun d => match d with | .tup xs => .tup xs.reverse | d => d) (fun x hx => ?_) ?_
  · obtain ⟨r, hr, rfl⟩ := List.mem_map.mp hx
    repeat' contradiction
  · repeat' contradiction
    have hseq : SeqM (.lst ((m.map tR).map fun d => match d with | .tup xs => D.tup xs.reverse | d => d)) (m.map List.reverse) := by
      refine ⟨_, .inl rfl, by simp, fun i x r h1 h2 => ?_⟩
      rw [List.getElem?_map, List.getElem?_map] at h1
      rw [List.getElem?_map] at h2
      cases q : m[i]? with
      | none => rw [q] at h2; cases h2
      | some r0 =>
        rw [q] at h1 h2
        cases h1; cases h2
        refine .inr ?_
        show D.tup (r0.map D.int).reverse = D.tup (r0.reverse.map D.int)
        rw [List.map_reverse]
    have hSr : Shp w (m.map List.reverse) := fun x hx => by
      obtain ⟨x0, h0, rfl⟩ := List.mem_map.mp hx
      have := hS x0 h0
      exact ⟨by rw [List.length_reverse, this.1], fun y hy => this.2 y (List.mem_reverse.mp hy)⟩
    refine run_echelon hseq hSr hw (by simpa using hl) fun D Q R hN hle => ?_
    refine ⟨_, rfl, ?_⟩
    repeat' contradiction
    refine ⟨_, range_nat (by omega), _, rfl, _, rfl, setK_i rfl ?_⟩
    have hpl : ((List.range w).map fun (i : Nat) => DV.D.int (i : Int)).reverse.length ≤ LIM := by rw [List.length_reverse, List.length_map, List.length_range, LIM_eq]; omega
    refine Eq.mpr okS_ret (Eq.mpr okM_lc (Eq.mpr okM_iter (Eq.mpr okM_var ⟨_, rfl, _, rfl, rfl, hpl, ?_⟩)))
    refine okM_filter (fun d => match d with | .int f => decide (f.toNat ∉ Q) | _ => false) (fun d => match d with | .int f => dR (nullCol w D Q f.toNat) | d => d) (fun d hd => ?_) ?_
    · obtain ⟨f, hf, rfl⟩ := List.mem_map.mp (List.mem_reverse.mp hd)
      have hfw := List.mem_range.mp hf
      refine ⟨_, rfl, ?_⟩
      refine Eq.mpr okM_cmpT (Eq.mpr okM_slot ⟨_, rfl, Eq.mpr okM_slot ⟨_, rfl, _, rfl, _, rfl, _, notIn_piv, rfl, fun hq => ?_, fun hq => rfl⟩⟩)
      have hq := of_decide_eq_true hq
      repeat' contradiction
      exact run_null_column R hfw hq hw ⟨rfl, rfl⟩
    · have e1 : (List.filter (fun d => match d with | DV.D.int f => decide (f.toNat ∉ Q) | _ => false) ((List.range w).map fun (i : Nat) => DV.D.int (i : Int)).reverse).map (fun d => match d with | DV.D.int f => dR (nullCol w D Q f.toNat) | d => d) = ((frees w Q).map (nullCol w D Q)).map dR := by
        rw [← List.map_reverse, List.filter_map, List.map_map, List.map_map]
        rfl
      show P (.lst _, true) e
      rw [e1]
      exact k D Q R hN
theorem run_kernel {x : D} {h w : Nat} {m : List (List Int)} (hx : HandD x h w m) (hm : m.length = h) (hS : Shp w m) (hh : h ≤ 20) (hw : w ≤ 20) (k : ∀ N n s, KerOf w m N n → n ≤ w → P (tabD w n N s, true) e) : OkM (mRun 2 1 mb_kernel [.val x]) e P := by
  refine run_v1 ?_
  unfold mb_kernel
  repeat' contradiction
  refine run_table_of hx hm hS hh (by omega) fun s fl => ?_
  refine setK_i (s := slOf (tabD h w m s) fl) (by rfl) ?_
  have go : ∀ t : Sl, t = .fz (tabD h w m s) ∨ t = .ow (tabD h w m s) → OkS (sRet (mDef 2 2 mb_table_of_columns [] (mCons (mVal (mUn (opAtt 1 flT 1) (mSlot 1))) (mCons (mVal (mDef 7 2 mb_null_columns [] (mCons (mVal (mUn (opAtt 1 flT 2) (mSlot 1))) (mCons (mVal (mUn (opAtt 1 flT 1) (mSlot 1))) mNil)))) mNil)))) [.fz x, t] (fun _ => P (.non, false) e) (fun d fl _ => P (d, fl) e) (fun _ => False) (fun _ => False) := by
    intro t ht
    rcases ht with rfl | rfl
    all_goals
      repeat' contradiction
      refine run_null_columns hS (by omega) (by omega) fun D Q R hN => ?_
      repeat' contradiction
      have hfl := frees_len R.inc R.piv
      have hkl : ((frees w Q).map (nullCol w D Q)).length = (frees w Q).length := List.length_map _
      refine run_toc (fun r hr => ?_) hw (by omega) fun s => ?_
      · obtain ⟨f, _, rfl⟩ := List.mem_map.mp hr
        exact ⟨nullCol_len, nullCol_red⟩
      · exact k _ _ s ⟨D, Q, R, hN, hkl, rfl⟩ (by omega)
  cases fl with
  | true => exact go _ (.inr rfl)
  | false => exact go _ (.inl rfl)
end
end DV
-- K2S
namespace DV
open PySem PySem.Spec PyProof.Rows L2
open Lin
local macro_rules | `(tactic| contradiction) => `(tactic| first
  | with_reducible refine okM_mod ?_
  | with_reducible refine okM_mul ?_
  | with_reducible refine okM_div ?_
  | with_reducible refine okM_pow ?_
  | with_reducible refine okM_ix ?_
  | with_reducible refine Eq.mpr okM_bin ?_
  | with_reducible refine okS_setW ?_
  | with_reducible refine okS_setIxW ?_
  | with_reducible refine okS_appW ?_
  | with_reducible refine okS_putFW ?_
  | with_reducible refine okS_parW ?_
  | with_reducible refine okM_popAtW ?_
  | with_reducible refine Eq.mpr okM_val ?_
  | with_reducible refine Eq.mpr okM_slot ?_
  | with_reducible refine Eq.mpr okM_C ?_
  | with_reducible refine Eq.mpr okM_cons ?_
  | with_reducible refine Eq.mpr okM_nil ?_
  | with_reducible refine Eq.mpr okM_call ?_
  | with_reducible refine Eq.mpr okM_var ?_
  | with_reducible refine Eq.mpr okM_un ?_
  | with_reducible refine Eq.mpr okM_list ?_
  | with_reducible refine Eq.mpr okM_tup ?_
  | with_reducible refine Eq.mpr okM_sl ?_
  | with_reducible refine Eq.mpr okM_part ?_
  | with_reducible refine Eq.mpr okM_noPart ?_
  | with_reducible refine Eq.mpr okM_cmpT ?_
  | with_reducible refine Eq.mpr okM_cmp ?_
  | with_reducible refine Eq.mpr okM_tru ?_
  | with_reducible refine Eq.mpr okM_not ?_
  | with_reducible refine Eq.mpr okM_and ?_
  | with_reducible refine Eq.mpr okM_or ?_
  | with_reducible refine Eq.mpr okM_if ?_
  | with_reducible refine Eq.mpr okM_andV ?_
  | with_reducible refine Eq.mpr okM_orV ?_
  | with_reducible refine Eq.mpr okM_iter ?_
  | with_reducible refine Eq.mpr okM_rg1 ?_
  | with_reducible refine Eq.mpr okM_rg2 ?_
  | with_reducible refine Eq.mpr okM_zip ?_
  | with_reducible refine Eq.mpr okM_lc ?_
  | with_reducible refine Eq.mpr okM_def ?_
  | with_reducible refine Eq.mpr okM_isi ?_
  | with_reducible refine Eq.mpr okM_ownL ?_
  | with_reducible refine Eq.mpr okM_pure ?_
  | with_reducible refine Eq.mpr okS_seq ?_
  | with_reducible refine Eq.mpr okS_nx ?_
  | with_reducible refine Eq.mpr okS_if ?_
  | with_reducible refine Eq.mpr okS_ret ?_
  | with_reducible refine Eq.mpr okS_retV ?_
  | with_reducible refine Eq.mpr okS_asg ?_
  | with_reducible refine Eq.mpr okS_for ?_
  | with_reducible refine Eq.mpr okS_expr ?_
  | with_reducible refine Eq.mpr okS_bk ?_
  | with_reducible refine Eq.mpr okS_ct ?_
  | with_reducible refine Eq.mpr okS_rtN ?_
  | with_reducible refine Eq.mpr okM_lend ?_
  | with_reducible refine Eq.mpr okM_make ?_
  | with_reducible refine Eq.mpr okM_enumA ?_
  | with_reducible refine Eq.mpr okM_join ?_
  | with_reducible refine setK_i (by simp only [set_un, set_fz, set_ow, set_s, Option.map_some, slOf_f, slOf_t, chg_ow, chg_io, chg_s, List.set_cons_zero, List.set_cons_succ, Int.reduceToNat, List.replicate_succ, List.replicate_zero, Nat.reduceSub, wipeE_cons, wipeE_nil]; first | done | rfl) ?_
  | with_reducible refine chgK_i (by simp only [set_un, set_fz, set_ow, set_s, Option.map_some, slOf_f, slOf_t, chg_ow, chg_io, chg_s, List.set_cons_zero, List.set_cons_succ, Int.reduceToNat, List.replicate_succ, List.replicate_zero, Nat.reduceSub, wipeE_cons, wipeE_nil]; first | done | rfl) ?_
  | with_reducible refine And.intro (GMod.mk (by omega)) ?_
  | with_reducible refine And.intro (GDiv.mk ⟨by omega, by omega⟩) ?_
  | with_reducible refine And.intro (GPow.mk ⟨by omega, by omega, by omega, by omega⟩) ?_
  | with_reducible refine And.intro (GMul.r ⟨by omega, by omega⟩) ?_
  | with_reducible refine And.intro (GMul.l ⟨by omega, by omega⟩) ?_
  | with_reducible refine split_T ?_
  | with_reducible refine split_F ?_
  | with_reducible refine split_dec (fun _ => ?_) (fun _ => ?_)
  | with_reducible refine split_neg ?_
  | with_reducible refine split_ne (fun _ => ?_) (fun _ => ?_)
  | with_reducible refine split_eqb (fun _ => ?_) (fun _ => ?_)
  | with_reducible refine And.intro (smI_of ⟨by omega, by omega⟩) ?_
  | refine ⟨_, ix_row (by first | exact seqR_d | exact seqR_t | assumption) (by omega), ?_⟩
  | refine ⟨_, ix_dM (by omega), ?_⟩
  | refine ⟨_, rfl, _, rfl, _, rfl, ?_⟩
  | refine ⟨_, rfl, _, rfl, ?_⟩
  | refine ⟨_, rfl, ⟨_, rfl⟩, ?_⟩
  | refine ⟨_, rfl, ?_⟩
  | refine ⟨_, _, rfl, ?_⟩
  | refine ⟨rfl, ?_⟩
  | refine And.intro (show List.length _ ≤ LIM by simp only [List.length_cons, List.length_nil, List.length_map, List.length_range, rg_len, LIM_eq]; omega) ?_
  | exact smI_of ⟨by omega, by omega⟩
  | ((with_reducible show wipeE _ _ = _); rfl))
section
variable {e : Env} {P : D × Bool → Env → Prop}
theorem eqP (Q : List Nat) : cEq (pivD Q) (.lst []) = some Q.isEmpty := by
  have := eq_emptyR (Q.map fun (q : Nat) => (q : Int))
  have e1 : dR (Q.map fun (q : Nat) => (q : Int)) = pivD Q := by unfold dR pivD; rw [List.map_map]; rfl
  rw [e1] at this
  rw [this]
  cases Q <;> rfl
theorem eqPc {a : Nat} {Q : List Nat} : cEq (pivD (a :: Q)) (.lst []) = some false := by rw [eqP]; rfl
theorem neP0 : cNe (pivD []) (.lst []) = some false := by unfold cNe; rw [eqP]; rfl
theorem nePe {a : Nat} {Q : List Nat} : cNe (pivD (Q ++ [a])) (.lst []) = some true := by
  unfold cNe; rw [eqP]
  cases Q <;> rfl
theorem ixP {a : Nat} {Q : List Nat} : opIx (pivD (a :: Q)) (.int 0) = some (.int (a : Int), false) := ix_0
theorem ix_end {xs : List D} {d : D} : opIx (.lst (xs ++ [d])) (.int (-1)) = some (d, false) := by
  rw [ix_lst]
  unfold atI ixN
  rw [if_neg (by decide), if_pos (by simp; omega)]
  have : (-1 + ((xs ++ [d]).length : Int)).toNat = xs.length := by simp; omega
  rw [this]
  simp
theorem ixE {Q : List Nat} {a : Nat} : opIx (pivD (Q ++ [a])) (.int (-1)) = some (.int (a : Int), false) := by
  unfold pivD
  rw [List.map_append]
  exact ix_end
theorem piv_app {Q : List Nat} {a : Nat} : pivD (Q ++ [a]) = .lst ((Q.map fun (q : Nat) => D.int (q : Int)) ++ [.int (a : Int)]) := by
  unfold pivD
  rw [List.map_append]; rfl
theorem filter_head {n a : Nat} {p : Nat → Bool} (ha : a < n) (h1 : p a = true) (h0 : ∀ i, i < a → p i = false) : ∃ r, (List.range n).filter p = a :: r := by
  obtain ⟨b, rfl⟩ : ∃ b, n = a + (b + 1) := ⟨n - a - 1, by omega⟩
  rw [List.range_add, List.filter_append]
  have e1 : (List.range a).filter p = [] := List.filter_eq_nil_iff.mpr fun x hx => by rw [h0 x (List.mem_range.mp hx)]; decide
  rw [e1, List.nil_append, List.range_succ_eq_map, List.map_cons]
  refine ⟨_, List.filter_cons_of_pos (by simpa using h1)⟩
local macro_rules | `(tactic| contradiction) => `(tactic| first
  | refine ⟨_, ixP, ?_⟩
  | refine ⟨_, eqPc, ?_⟩
  | refine ⟨_, rfl, _, rfl, _, neP0, ?_⟩
  | refine ⟨_, nePe, ?_⟩
  | refine ⟨_, ixE, ?_⟩
  | with_reducible refine okM_mod ?_
  | with_reducible refine okM_mul ?_
  | with_reducible refine okM_div ?_
  | with_reducible refine okM_pow ?_
  | with_reducible refine okM_ix ?_
  | with_reducible refine Eq.mpr okM_bin ?_
  | with_reducible refine okS_setW ?_
  | with_reducible refine okS_setIxW ?_
  | with_reducible refine okS_appW ?_
  | with_reducible refine okS_putFW ?_
  | with_reducible refine okS_parW ?_
  | with_reducible refine okM_popAtW ?_
  | with_reducible refine Eq.mpr okM_val ?_
  | with_reducible refine Eq.mpr okM_slot ?_
  | with_reducible refine Eq.mpr okM_C ?_
  | with_reducible refine Eq.mpr okM_cons ?_
  | with_reducible refine Eq.mpr okM_nil ?_
  | with_reducible refine Eq.mpr okM_call ?_
  | with_reducible refine Eq.mpr okM_var ?_
  | with_reducible refine Eq.mpr okM_un ?_
  | with_reducible refine Eq.mpr okM_list ?_
  | with_reducible refine Eq.mpr okM_tup ?_
  | with_reducible refine Eq.mpr okM_sl ?_
  | with_reducible refine Eq.mpr okM_part ?_
  | with_reducible refine Eq.mpr okM_noPart ?_
  | with_reducible refine Eq.mpr okM_cmpT ?_
  | with_reducible refine Eq.mpr okM_cmp ?_
  | with_reducible refine Eq.mpr okM_tru ?_
  | with_reducible refine Eq.mpr okM_not ?_
  | with_reducible refine Eq.mpr okM_and ?_
  | with_reducible refine Eq.mpr okM_or ?_
  | with_reducible refine Eq.mpr okM_if ?_
  | with_reducible refine Eq.mpr okM_andV ?_
  | with_reducible refine Eq.mpr okM_orV ?_
  | with_reducible refine Eq.mpr okM_iter ?_
  | with_reducible refine Eq.mpr okM_rg1 ?_
  | with_reducible refine Eq.mpr okM_rg2 ?_
  | with_reducible refine Eq.mpr okM_zip ?_
  | with_reducible refine Eq.mpr okM_lc ?_
  | with_reducible refine Eq.mpr okM_def ?_
  | with_reducible refine Eq.mpr okM_isi ?_
  | with_reducible refine Eq.mpr okM_ownL ?_
  | with_reducible refine Eq.mpr okM_pure ?_
  | with_reducible refine Eq.mpr okS_seq ?_
  | with_reducible refine Eq.mpr okS_nx ?_
  | with_reducible refine Eq.mpr okS_if ?_
  | with_reducible refine Eq.mpr okS_ret ?_
  | with_reducible refine Eq.mpr okS_retV ?_
  | with_reducible refine Eq.mpr okS_asg ?_
  | with_reducible refine Eq.mpr okS_for ?_
  | with_reducible refine Eq.mpr okS_expr ?_
  | with_reducible refine Eq.mpr okS_bk ?_
  | with_reducible refine Eq.mpr okS_ct ?_
  | with_reducible refine Eq.mpr okS_rtN ?_
  | with_reducible refine Eq.mpr okM_lend ?_
  | with_reducible refine Eq.mpr okM_make ?_
  | with_reducible refine Eq.mpr okM_enumA ?_
  | with_reducible refine Eq.mpr okM_join ?_
  | with_reducible refine setK_i (by simp only [set_un, set_fz, set_ow, set_s, Option.map_some, slOf_f, slOf_t, chg_ow, chg_io, chg_s, List.set_cons_zero, List.set_cons_succ, Int.reduceToNat, List.replicate_succ, List.replicate_zero, Nat.reduceSub, wipeE_cons, wipeE_nil]; first | done | rfl) ?_
  | with_reducible refine chgK_i (by simp only [set_un, set_fz, set_ow, set_s, Option.map_some, slOf_f, slOf_t, chg_ow, chg_io, chg_s, List.set_cons_zero, List.set_cons_succ, Int.reduceToNat, List.replicate_succ, List.replicate_zero, Nat.reduceSub, wipeE_cons, wipeE_nil]; first | done | rfl) ?_
  | with_reducible refine And.intro (GMod.mk (by omega)) ?_
  | with_reducible refine And.intro (GDiv.mk ⟨by omega, by omega⟩) ?_
  | with_reducible refine And.intro (GPow.mk ⟨by omega, by omega, by omega, by omega⟩) ?_
  | with_reducible refine And.intro (GMul.r ⟨by omega, by omega⟩) ?_
  | with_reducible refine And.intro (GMul.l ⟨by omega, by omega⟩) ?_
  | with_reducible refine split_T ?_
  | with_reducible refine split_F ?_
  | with_reducible refine split_dec (fun _ => ?_) (fun _ => ?_)
  | with_reducible refine split_neg ?_
  | with_reducible refine split_ne (fun _ => ?_) (fun _ => ?_)
  | with_reducible refine split_eqb (fun _ => ?_) (fun _ => ?_)
  | with_reducible refine And.intro (smI_of ⟨by omega, by omega⟩) ?_
  | refine ⟨_, ix_row (by first | exact seqR_d | exact seqR_t | assumption) (by omega), ?_⟩
  | refine ⟨_, ix_dM (by omega), ?_⟩
  | refine ⟨_, rfl, _, rfl, _, rfl, ?_⟩
  | refine ⟨_, rfl, _, rfl, ?_⟩
  | refine ⟨_, rfl, ⟨_, rfl⟩, ?_⟩
  | refine ⟨_, rfl, ?_⟩
  | refine ⟨_, _, rfl, ?_⟩
  | refine ⟨rfl, ?_⟩
  | refine And.intro (show List.length _ ≤ LIM by simp only [List.length_cons, List.length_nil, List.length_map, List.length_range, rg_len, LIM_eq]; omega) ?_
  | exact smI_of ⟨by omega, by omega⟩
  | ((with_reducible show wipeE _ _ = _); rfl))
set_option maxHeartbeats 8000000 in
theorem run_is_frame {h w : Nat} {R : List (List Int)} (hf : IsFrame h w R) (hl : R.length = h) (hS : Shp w R) (hh : h ≤ 100) (hw : w ≤ 100) (k : P (.bl true, false) e) : OkM (mRun 6 1 mb__law_k02_is_frame [.val (dT h w R)]) e P := by
  refine run_v1 ?_
  unfold mb__law_k02_is_frame
  obtain ⟨l, h1, h2⟩ := hf
  repeat' contradiction
  refine okS_loop (fun j E => ∃ s2 s3, E = [.fz (dT h w R), .ow (pivD ((List.range j).map l)), s2, s3, .un, .un] ∧ Fr s2 ∧ Fr s3) ⟨.un, .un, rfl, trivial, trivial⟩ (fun j x E hj hI => ?_) fun E hI => ?_
  · obtain ⟨s2, s3, rfl, f2, f3⟩ := hI
    obtain ⟨hj, rfl⟩ := rg0_get hj
    have hj : j < w := by omega
    obtain ⟨a1, a2, a3, a4⟩ := h1 j hj
    have hrl := (hS _ (row_mem (m := R) (i := l j) (by omega))).1
    refine ⟨_, (by simp [set_fr f2]; rfl), ?_⟩
    repeat' contradiction
    rw [Int.toNat_natCast]
    refine okM_filter (fun d => match d with | .int z => decide (ent (row R z.toNat) j ≠ 0) | _ => false) id (fun x hx => ?_) ?_
    · obtain ⟨i, hi⟩ := List.getElem?_of_mem hx
      obtain ⟨hi2, rfl⟩ := rg0_get hi
      have hrl2 := (hS _ (row_mem (m := R) (i := i) (by omega))).1
      refine ⟨_, rfl, ?_⟩
      repeat' contradiction
      refine ⟨by simp, fun _ => ?_, fun _ => rfl⟩
      repeat' contradiction
    · rw [spots_eq (q := fun i => decide (ent (row R i) j ≠ 0)) fun i hi => by simp]
      obtain ⟨rest, hrest⟩ := filter_head (p := fun i => decide (ent (row R i) j ≠ 0)) a1 (by simp [a2]) fun i hi => by simp [a3 i hi]
      rw [hrest]
      refine setK_i (s := .ow (pivD (l j :: rest))) (by simp [set_fr f3]; rfl) ?_
      have hQ : (List.range j).map l = [] ∨ ∃ Q a, (List.range j).map l = Q ++ [a] ∧ a < l j := by
        cases j with
        | zero => exact .inl rfl
        | succ j => exact .inr ⟨_, l j, by rw [List.range_succ, List.map_append]; rfl, h2 j hj⟩
      have hstep : (List.range (j + 1)).map l = (List.range j).map l ++ [l j] := by rw [List.range_succ, List.map_append]; rfl
      rw [hstep]
      rcases hQ with hQ | ⟨Q, a, hQ, ha⟩
      all_goals
        rw [hQ]
        repeat' contradiction
        all_goals first | (exfalso; omega) | skip
        refine okM_filter (fun _ => false) id (fun x hx => ?_) ?_
        · obtain ⟨c, hc⟩ := List.getElem?_of_mem hx
          obtain ⟨hc2, rfl⟩ := rg0_get hc
          have hc3 : c < w := by omega
          refine ⟨_, rfl, ?_⟩
          by_cases hcj : c = j
          · subst hcj
            repeat' contradiction
            all_goals first | (exfalso; omega) | exact ⟨rfl, (fun z => by cases z), fun _ => rfl⟩
          · have a5 := a4 c hc3 hcj
            repeat' contradiction
            all_goals first | (exfalso; omega) | skip
            refine ⟨by rw [a5]; rfl, fun z => absurd z (by rw [a5]; decide), fun _ => rfl⟩
        · have e0 : ((rgD 0 (w : Int).toNat).filter fun _ => false).map id = [] := by simp
          rw [e0]
          refine Eq.mpr okM_val (Eq.mpr okM_list (Eq.mpr okM_nil ⟨rfl, _, rfl, by simp [LIM_eq], _, rfl, _, rfl, _, neP0, split_F ?_⟩))
          have hlen := congrArg List.length hQ
          rw [List.length_map, List.length_range] at hlen
          repeat' contradiction
          refine ⟨⟨by rw [List.length_map, ← hlen, LIM_eq]; omega⟩, chgK_i rfl ⟨.fz (.int j), .ow (pivD (l j :: rest)), ?_, trivial, trivial⟩⟩
          first
            | (rw [piv_app (Q := [])]; rfl)
            | (rw [piv_app (Q := Q ++ [a])]; rfl)
  · obtain ⟨s2, s3, rfl, f2, f3⟩ := hI
    repeat' contradiction
    exact k
end
end DV
-- K2V
namespace DV
open PySem PySem.Spec PyProof.Rows L2
open Lin
local macro_rules | `(tactic| contradiction) => `(tactic| first
  | with_reducible refine okM_mod ?_
  | with_reducible refine okM_mul ?_
  | with_reducible refine okM_div ?_
  | with_reducible refine okM_pow ?_
  | with_reducible refine okM_ix ?_
  | with_reducible refine Eq.mpr okM_bin ?_
  | with_reducible refine okS_setW ?_
  | with_reducible refine okS_setIxW ?_
  | with_reducible refine okS_appW ?_
  | with_reducible refine okS_putFW ?_
  | with_reducible refine okS_parW ?_
  | with_reducible refine okM_popAtW ?_
  | with_reducible refine Eq.mpr okM_val ?_
  | with_reducible refine Eq.mpr okM_slot ?_
  | with_reducible refine Eq.mpr okM_C ?_
  | with_reducible refine Eq.mpr okM_cons ?_
  | with_reducible refine Eq.mpr okM_nil ?_
  | with_reducible refine Eq.mpr okM_call ?_
  | with_reducible refine Eq.mpr okM_var ?_
  | with_reducible refine Eq.mpr okM_un ?_
  | with_reducible refine Eq.mpr okM_list ?_
  | with_reducible refine Eq.mpr okM_tup ?_
  | with_reducible refine Eq.mpr okM_sl ?_
  | with_reducible refine Eq.mpr okM_part ?_
  | with_reducible refine Eq.mpr okM_noPart ?_
  | with_reducible refine Eq.mpr okM_cmpT ?_
  | with_reducible refine Eq.mpr okM_cmp ?_
  | with_reducible refine Eq.mpr okM_tru ?_
  | with_reducible refine Eq.mpr okM_not ?_
  | with_reducible refine Eq.mpr okM_and ?_
  | with_reducible refine Eq.mpr okM_or ?_
  | with_reducible refine Eq.mpr okM_if ?_
  | with_reducible refine Eq.mpr okM_andV ?_
  | with_reducible refine Eq.mpr okM_orV ?_
  | with_reducible refine Eq.mpr okM_iter ?_
  | with_reducible refine Eq.mpr okM_rg1 ?_
  | with_reducible refine Eq.mpr okM_rg2 ?_
  | with_reducible refine Eq.mpr okM_zip ?_
  | with_reducible refine Eq.mpr okM_lc ?_
  | with_reducible refine Eq.mpr okM_def ?_
  | with_reducible refine Eq.mpr okM_isi ?_
  | with_reducible refine Eq.mpr okM_ownL ?_
  | with_reducible refine Eq.mpr okM_pure ?_
  | with_reducible refine Eq.mpr okS_seq ?_
  | with_reducible refine Eq.mpr okS_nx ?_
  | with_reducible refine Eq.mpr okS_if ?_
  | with_reducible refine Eq.mpr okS_ret ?_
  | with_reducible refine Eq.mpr okS_retV ?_
  | with_reducible refine Eq.mpr okS_asg ?_
  | with_reducible refine Eq.mpr okS_for ?_
  | with_reducible refine Eq.mpr okS_expr ?_
  | with_reducible refine Eq.mpr okS_bk ?_
  | with_reducible refine Eq.mpr okS_ct ?_
  | with_reducible refine Eq.mpr okS_rtN ?_
  | with_reducible refine Eq.mpr okM_lend ?_
  | with_reducible refine Eq.mpr okM_make ?_
  | with_reducible refine Eq.mpr okM_enumA ?_
  | with_reducible refine Eq.mpr okM_join ?_
  | with_reducible refine setK_i (by simp only [set_un, set_fz, set_ow, set_s, Option.map_some, slOf_f, slOf_t, chg_ow, chg_io, chg_s, List.set_cons_zero, List.set_cons_succ, Int.reduceToNat, List.replicate_succ, List.replicate_zero, Nat.reduceSub, wipeE_cons, wipeE_nil]; first | done | rfl) ?_
  | with_reducible refine chgK_i (by simp only [set_un, set_fz, set_ow, set_s, Option.map_some, slOf_f, slOf_t, chg_ow, chg_io, chg_s, List.set_cons_zero, List.set_cons_succ, Int.reduceToNat, List.replicate_succ, List.replicate_zero, Nat.reduceSub, wipeE_cons, wipeE_nil]; first | done | rfl) ?_
  | with_reducible refine And.intro (GMod.mk (by omega)) ?_
  | with_reducible refine And.intro (GDiv.mk ⟨by omega, by omega⟩) ?_
  | with_reducible refine And.intro (GPow.mk ⟨by omega, by omega, by omega, by omega⟩) ?_
  | with_reducible refine And.intro (GMul.r ⟨by omega, by omega⟩) ?_
  | with_reducible refine And.intro (GMul.l ⟨by omega, by omega⟩) ?_
  | with_reducible refine split_T ?_
  | with_reducible refine split_F ?_
  | with_reducible refine split_dec (fun _ => ?_) (fun _ => ?_)
  | with_reducible refine split_neg ?_
  | with_reducible refine split_ne (fun _ => ?_) (fun _ => ?_)
  | with_reducible refine split_eqb (fun _ => ?_) (fun _ => ?_)
  | with_reducible refine And.intro (smI_of ⟨by omega, by omega⟩) ?_
  | refine ⟨_, ix_row (by first | exact seqR_d | exact seqR_t | assumption) (by omega), ?_⟩
  | refine ⟨_, ix_dM (by omega), ?_⟩
  | refine ⟨_, rfl, _, rfl, _, rfl, ?_⟩
  | refine ⟨_, rfl, _, rfl, ?_⟩
  | refine ⟨_, rfl, ⟨_, rfl⟩, ?_⟩
  | refine ⟨_, rfl, ?_⟩
  | refine ⟨_, _, rfl, ?_⟩
  | refine ⟨rfl, ?_⟩
  | refine And.intro (show List.length _ ≤ LIM by simp only [List.length_cons, List.length_nil, List.length_map, List.length_range, rg_len, LIM_eq]; omega) ?_
  | exact smI_of ⟨by omega, by omega⟩
  | ((with_reducible show wipeE _ _ = _); rfl))
def spJar (K : PySem.W.Frag) (T : Tbl) : Sp := fun vs H Q _ => ∃ (a : Addr) (ns : List Int), vs = [.ref a] ∧ SqL K H a (ns.map V.int) ∧ ∀ (b : Addr) (d : D) (H' : Hp), (∀ c o, H c = some o → H' c = some o) → H b = none → JOk d → OwnAt T H' (fun c => (∃ o, H c = some o) ∨ c = b) b d → Q (.ref b) H'
section
variable {P : Program} {w : World} {K : PySem.W.Frag} {mg : Str → Option Value} {base : Heap} {cls : Nat → Addr}
abbrev mStir : M (D × Bool) := mBin opMod (mVal (mCall (f1 oInt) (mCons (mVal (mBin opAdd (mVal (mBin opAdd (mVal (mBin opMul (mSlot 1) (mVal (mC (.int 39119))))) (mVal (mBin opMod (mVal (mCall (f1 oInt) (mCons (mSlot 2) mNil))) (mVal (mC (.int 2147483629))))))) (mVal (mC (.int 4409))))) mNil))) (mVal (mC (.int 2147483587)))
theorem run_stir {st c : Int} : mStir [.un, .fz (.int st), .fz (.int c)] = .ok (.int ((st * 39119 + c % 2147483629 + 4409) % 2147483587), false) [.un, .fz (.int st), .fz (.int c)] := by
  apply okm_eq
  repeat' contradiction
  rfl
theorem ok__law_jarS (C : Ct K mg cls) {f : Addr} {fd : FuncData} (F : Fun K "_law_jar" "_law_jar" s__law_jar f fd) : FnOk P w K mg base CX0 1 f fd P__law_jar (spJar K (TB cls)) := by
  refine F.ok sc__law_jar (fun vs H Q E ⟨a, ns, h, _⟩ => by rw [h]; rfl) fun cdv A outer s H vs Q E hr ⟨a, ns, hv, hS, q⟩ => ?_
  subst hv
  have hu := hr.units
  have S := sc__law_jar
  refine ⟨_, (pss_cons (ps_set (i := 1) S.nd rfl (Or.inl rfl) pe_int) (pss_cons (ps_for PassesOwn.never rfl (pi_list (pe_slice sl_list (pe_var (i := 0) rfl (by first | exact Or.inl rfl | exact Or.inr (Or.inl rfl))) po_none (po_some pe_int))) (pg_name (i := 2) S.nd rfl (Or.inl rfl)) (pss_one (ps_set (i := 1) S.nd rfl (Or.inl rfl) (eo_of (T := TB cls) (m := mStir) fun O => (de_bin OpOk.mod (dh_of (de_callT CaOk.int C.b_int rfl (da_cons (dh_of (de_bin OpOk.add (dh_of (de_bin OpOk.add (dh_of (de_bin OpOk.mul (dh_slot 1) (dh_of de_int))) (dh_of (de_bin OpOk.mod (dh_of (de_callT CaOk.int C.b_int rfl (da_cons (dh_slot 2) da_nil))) (dh_of de_int))))) (dh_of de_int))) da_nil))) (dh_of de_int)))))) (pss_one (ps_ret (pe_lst (pa_cons (pe_callTy call_list_of rfl C.b_list rfl (pa_cons (pe_slice sl_list (pe_var (i := 0) rfl (by first | exact Or.inl rfl | exact Or.inr (Or.inl rfl))) po_none (po_some pe_int)) pa_nil)) (pa_cons pe_int (pa_cons pe_int (pa_cons pe_int (pa_cons (pe_var (i := 1) rfl (by first | exact Or.inl rfl | exact Or.inr (Or.inl rfl))) (pa_cons pe_int pa_nil))))))))))), ?_⟩
  have hcut : cutV (ns.map V.int) none (some 63) = (ns.take 63).map V.int := by
    rw [cutV_eq, List.map_take]; exact cut_take (c := 63)
  refine ⟨_, rfl, _, rfl, a, ns.map V.int, rfl, hS, fun p hp => ?_⟩
  rw [hcut]
  have h1p : (upd H p (.lst ((ns.take 63).map V.int))) p = some (.lst ((ns.take 63).map V.int)) := by unfold upd; exact if_pos rfl
  have sm1 : Same H (upd H p (.lst ((ns.take 63).map V.int))) := fun b o e => by
    unfold upd; rw [if_neg (fun y => by subst y; rw [hp] at e; cases e)]; exact e
  refine ⟨p, rfl, ⟨_, SqL.of h1p⟩, for_list (K := K) (a := p) (xs := (ns.take 63).map V.int) (fun i σ H' => ∃ (st : Int) (v : Option V), σ = [some (.ref a), some (.int st), v] ∧ Same (upd H p (.lst ((ns.take 63).map V.int))) H' ∧ 0 ≤ st ∧ st < 2147483587) ⟨19611, none, rfl, fun b o e => e, by decide, by decide⟩ (fun i σ H' _ ⟨_, _, _, sm, _⟩ => SqL.of (sm _ _ h1p)) ?_ ?_⟩
  · rintro i x σ H' hi ⟨st, v, rfl, sm, b1, b2⟩
    obtain ⟨c, rfl⟩ : ∃ c, x = V.int c := by
      rw [List.getElem?_map] at hi
      obtain ⟨c, _, hc⟩ := Option.map_eq_some_iff.mp hi
      exact ⟨c, hc.symm⟩
    have nown : ∀ b, ¬ Own [some (V.ref a), some (V.int st), some (V.int c)] [.un, .fz (.int st), .fz (.int c)] b := fun b ⟨i, s, d, g1, g2, g3⟩ => by
      rcases i with _ | _ | _ | i
      · cases g1; cases g2
      · cases g1; cases g2
      · cases g1; cases g2
      · cases g1
    have j0 : J (TB cls) (fun _ => False) [some (V.ref a), some (V.int st), some (V.int c)] [.un, .fz (.int st), .fz (.int c)] H' := by
      refine ⟨rfl, fun i d g => ?_, fun i s d g1 g2 => ?_, fun i k s t d d' a g1 g2 _ _ g3 _ => (nown a ⟨i, s, d, g1, g2, g3⟩).elim, fun a z => (nown a z).elim, fun a z => z.elim⟩
      · rcases i with _ | _ | _ | i
        · cases g
        · cases g; exact ⟨_, rfl, by simp only [Rep]⟩
        · cases g; exact ⟨_, rfl, by simp only [Rep]⟩
        · cases g
      · rcases i with _ | _ | _ | i
        · cases g1; cases g2
        · cases g1; cases g2
        · cases g1; cases g2
        · cases g1
    refine ⟨fun _ => False, [.un, .fz (.int st), .fz (.int c)], j0, ?_⟩
    rw [run_stir]
    intro u H2 t nw r
    have hu2 : u = V.int ((st * 39119 + c % 2147483629 + 4409) % 2147483587) := by
      have := r.2
      simp only [Rep] at this
      exact this
    subst hu2
    exact ⟨_, _, rfl, fun b o e => t.keep b o (sm b o e) (nown b), by omega, by omega⟩
  · rintro σ H' ⟨st, v, rfl, sm, b1, b2⟩
    have smH : Same H H' := fun b o e => sm b o (sm1 b o e)
    refine ⟨_, rfl, _, rfl, a, ns.map V.int, rfl, smH.seq hS, fun p2 hp2 => ?_⟩
    rw [hcut]
    have h2p : (upd H' p2 (.lst ((ns.take 63).map V.int))) p2 = some (.lst ((ns.take 63).map V.int)) := by unfold upd; exact if_pos rfl
    have sm2 : Same H' (upd H' p2 (.lst ((ns.take 63).map V.int))) := fun b o e => by
      unfold upd; rw [if_neg (fun y => by subst y; rw [hp2] at e; cases e)]; exact e
    generalize hH2 : upd H' p2 (.lst ((ns.take 63).map V.int)) = H2 at h2p sm2
    refine ⟨p2, _, rfl, .inl (SqL.of h2p), fun l hl => ?_⟩
    have h3l : (upd H2 l (.lst ((ns.take 63).map V.int))) l = some (.lst ((ns.take 63).map V.int)) := by unfold upd; exact if_pos rfl
    have sm3 : Same H2 (upd H2 l (.lst ((ns.take 63).map V.int))) := fun b o e => by
      unfold upd; rw [if_neg (fun y => by subst y; rw [hl] at e; cases e)]; exact e
    generalize hH3 : upd H2 l (.lst ((ns.take 63).map V.int)) = H3 at h3l sm3
    refine ⟨_, rfl, by simp [sizeLine], fun b hb => ?_⟩
    have sm4 : Same H3 (upd H3 b (.lst [V.ref l, V.int 0, V.int 0, V.int 0, V.int st, V.int 0])) := fun c o e => by
      unfold upd; rw [if_neg (fun y => by subst y; rw [hb] at e; cases e)]; exact e
    have smA : Same H H3 := fun c o e => sm3 c o (sm2 c o (smH c o e))
    have hHb : H b = none := by
      cases z : H b with
      | none => rfl
      | some o => rw [smA b o z] at hb; cases hb
    have hHl : H l = none := by
      cases z : H l with
      | none => rfl
      | some o => rw [sm2 l o (smH l o z)] at hl; cases hl
    have nlb : l ≠ b := fun z => by subst z; rw [h3l] at hb; cases hb
    refine q b (jarD (ns.take 63) 0 0 0 st 0) _ (fun c o e => sm4 c o (smA c o e)) hHb ⟨_, _, _, _, _, _, rfl, by decide, b1, b2⟩ ⟨_, by unfold upd; exact if_pos rfl, ?_⟩
    refine RepL.cons ?_ (RepL.cons (by simp only [Rep]) (RepL.cons (by simp only [Rep]) (RepL.cons (by simp only [Rep]) (RepL.cons (by simp only [Rep]) (RepL.cons (by simp only [Rep]) RepL.nil)))))
    simp only [Rep]
    refine ⟨l, _, rfl, fun z => ?_, sm4 _ _ h3l, RepL.of_ints _⟩
    rcases z with ⟨o, z⟩ | z
    · rw [hHl] at z; cases z
    · exact nlb z
end
end DV
-- LinE
namespace Lin
open DV
/-! tables that undo one another -/
abbrev Fm := Nat → Nat → Int
def dl (i j : Nat) : Int := if i = j then 1 else 0
def mmF (n : Nat) (A B : Fm) : Fm := fun i j => sumTo n fun k => A i k * B k j
structure UndoF (n : Nat) (A B : Fm) : Prop where
  l : ∀ i j, i < n → j < n → Eqv (mmF n A B i j) (dl i j)
  r : ∀ i j, i < n → j < n → Eqv (mmF n B A i j) (dl i j)
theorem mmF_assoc {n : Nat} {A B C : Fm} {i j : Nat} : mmF n (mmF n A B) C i j = mmF n A (mmF n B C) i j := mm_assoc (a := fun k => A i k) (B := B) (c := fun l => C l j)
theorem mmF_congr {n : Nat} {A B A' B' : Fm} {i j : Nat} (h1 : ∀ k, k < n → Eqv (A i k) (A' i k)) (h2 : ∀ k, k < n → Eqv (B k j) (B' k j)) : Eqv (mmF n A B i j) (mmF n A' B' i j) := sum_eqv fun k hk => Eqv.mul (h1 k hk) (h2 k hk)
theorem mmF_dlL {n : Nat} {A : Fm} {i j : Nat} (hi : i < n) : mmF n dl A i j = A i j := by
  unfold mmF
  rw [sum_one hi fun k _ hk => by unfold dl; rw [if_neg (Ne.symm hk), Int.zero_mul]]
  unfold dl
  rw [if_pos rfl, Int.one_mul]
theorem UndoF.comp {n : Nat} {A B E F A' : Fm} (u : UndoF n A B) (v : UndoF n E F) (h : ∀ i j, i < n → j < n → Eqv (A' i j) (mmF n E A i j)) : UndoF n A' (mmF n B F) := by
  refine ⟨fun i j hi hj => ?_, fun i j hi hj => ?_⟩
  · refine (mmF_congr (A' := mmF n E A) (fun k hk => h i k hi hk) (fun k hk => .refl _)).trans ?_
    rw [mmF_assoc]
    refine (mmF_congr (B' := F) (fun k hk => .refl _) (fun k hk => ?_)).trans (v.l i j hi hj)
    rw [← mmF_assoc]
    exact (mmF_congr (A' := dl) (fun l hl => u.l k l hk hl) (fun l hl => .refl _)).trans (.of_eq (mmF_dlL hk))
  · refine (mmF_congr (B' := mmF n E A) (fun k hk => .refl _) (fun k hk => h k j hk hj)).trans ?_
    rw [mmF_assoc]
    refine (mmF_congr (B' := A) (fun k hk => .refl _) (fun k hk => ?_)).trans (u.r i j hi hj)
    rw [← mmF_assoc]
    exact (mmF_congr (A' := dl) (fun l hl => v.r k l hk hl) (fun l hl => .refl _)).trans (.of_eq (mmF_dlL hk))
/-- one row's worth of change -/
theorem undo_one {n : Nat} {u w w' : Nat → Int} (h1 : ∀ b, b < n → Eqv (w b + (1 + sumTo n fun k => w k * u k) * w' b) 0) (h2 : ∀ b, b < n → Eqv (w' b + (1 + sumTo n fun k => w' k * u k) * w b) 0) : UndoF n (fun a b => dl a b + u a * w b) (fun a b => dl a b + u a * w' b) := by
  have key : ∀ (w w' : Nat → Int), (∀ b, b < n → Eqv (w b + (1 + sumTo n fun k => w k * u k) * w' b) 0) → ∀ i j, i < n → j < n → Eqv (mmF n (fun a b => dl a b + u a * w b) (fun a b => dl a b + u a * w' b) i j) (dl i j) := by
    intro w w' h i j hi hj
    unfold mmF
    have e1 : ∀ k, k < n → (dl i k + u i * w k) * (dl k j + u k * w' j) = dl i k * (dl k j + u k * w' j) + ((u i * w k) * dl k j + (u i * w' j) * (w k * u k)) := fun k _ => by
      rw [Int.add_mul, Int.mul_add (u i * w k)]
      congr 2
      rw [Int.mul_assoc, Int.mul_assoc, ← Int.mul_assoc (w k), Int.mul_comm (w k * u k), ]
    rw [sum_congr e1, sum_add, sum_add, sum_mul]
    have e2 : (sumTo n fun k => dl i k * (dl k j + u k * w' j)) = dl i j + u i * w' j := by
      rw [sum_one hi fun k _ hk => by unfold dl; rw [if_neg (Ne.symm hk), Int.zero_mul]]
      rw [show dl i i = 1 from if_pos rfl, Int.one_mul]
    have e3 : (sumTo n fun k => u i * w k * dl k j) = u i * w j := by
      rw [sum_one hj fun k _ hk => by unfold dl; rw [if_neg hk, Int.mul_zero]]
      rw [show dl j j = 1 from if_pos rfl, Int.mul_one]
    rw [e2, e3]
    have e4 : dl i j + u i * w' j + (u i * w j + u i * w' j * sumTo n fun k => w k * u k) = dl i j + u i * (w j + (1 + sumTo n fun k => w k * u k) * w' j) := by
      rw [Int.mul_add (u i), Int.add_mul, Int.one_mul, Int.mul_add (u i), Int.mul_assoc (u i) (w' j), Int.mul_comm (w' j)]
      omega
    rw [e4]
    exact (Eqv.add (.refl _) ((Eqv.mul (.refl _) (h j hj)).trans (.of_eq (Int.mul_zero _)))).trans (.of_eq (Int.add_zero _))
  exact ⟨key w w' h1, key w' w h2⟩
def ei (i k : Nat) : Int := if k = i then 1 else 0
theorem sum_ei {n i : Nat} {f : Nat → Int} (hi : i < n) : (sumTo n fun k => ei i k * f k) = f i := by
  rw [sum_one hi fun k _ hk => by unfold ei; rw [if_neg hk, Int.zero_mul]]
  rw [show ei i i = 1 from if_pos rfl, Int.one_mul]
theorem ei_self {i : Nat} : ei i i = 1 := if_pos rfl
theorem ei_ne {i k : Nat} (h : k ≠ i) : ei i k = 0 := if_neg h
/-- a row times m -/
theorem undo_scale {n i : Nat} {m m' : Int} (hi : i < n) (hm : Eqv (m * m') 1) : UndoF n (fun a b => dl a b + ei i a * ((m - 1) * ei i b)) (fun a b => dl a b + ei i a * ((m' - 1) * ei i b)) := by
  have key : ∀ (m m' : Int), Eqv (m * m') 1 → ∀ b, b < n → Eqv ((m - 1) * ei i b + (1 + sumTo n fun k => (m - 1) * ei i k * ei i k) * ((m' - 1) * ei i b)) 0 := by
    intro m m' hm b _
    have e1 : (sumTo n fun k => (m - 1) * ei i k * ei i k) = m - 1 := by
      rw [sum_congr (g := fun k => ei i k * ((m - 1) * ei i k)) fun k _ => Int.mul_comm _ _, sum_ei hi, ei_self, Int.mul_one]
    rw [e1, ← Int.mul_assoc, ← Int.add_mul]
    have e2 : m - 1 + (1 + (m - 1)) * (m' - 1) = m * m' - 1 := by
      rw [show 1 + (m - 1) = m by omega, Int.mul_sub, Int.mul_one]; omega
    rw [e2]
    have e3 : Eqv (m * m' - 1) 0 := (Eqv.sub hm (.refl 1)).trans (.of_eq rfl)
    exact (Eqv.mul e3 (.refl _)).trans (.of_eq (Int.zero_mul _))
  exact undo_one (u := ei i) (w := fun b => (m - 1) * ei i b) (w' := fun b => (m' - 1) * ei i b) (key m m' hm) (key m' m (by rw [Int.mul_comm]; exact hm))
/-- a row less m times another one -/
theorem undo_take {n i j : Nat} {m : Int} (hi : i < n) (hij : i ≠ j) : UndoF n (fun a b => dl a b + ei i a * (-m * ei j b)) (fun a b => dl a b + ei i a * (m * ei j b)) := by
  have e1 : ∀ c : Int, (sumTo n fun k => c * ei j k * ei i k) = 0 := fun c => by
    rw [sum_congr (g := fun k => ei i k * (c * ei j k)) fun k _ => Int.mul_comm _ _, sum_ei hi, ei_ne hij, Int.mul_zero]
  refine undo_one (u := ei i) (w := fun b => -m * ei j b) (w' := fun b => m * ei j b) (fun b _ => ?_) (fun b _ => ?_)
  · rw [e1]
    refine .of_eq ?_
    rw [Int.add_zero, Int.one_mul, ← Int.add_mul]
    rw [show -m + m = 0 by omega, Int.zero_mul]
  · rw [e1]
    refine .of_eq ?_
    rw [Int.add_zero, Int.one_mul, ← Int.add_mul]
    rw [show m + -m = 0 by omega, Int.zero_mul]
/-- two rows exchanged -/
theorem undo_swap {n i j : Nat} (hi : i < n) (hj : j < n) (hij : i ≠ j) : UndoF n (fun a b => dl a b + (ei i a - ei j a) * (ei j b - ei i b)) (fun a b => dl a b + (ei i a - ei j a) * (ei j b - ei i b)) := by
  have e1 : (sumTo n fun k => (ei j k - ei i k) * (ei i k - ei j k)) = -2 := by
    have : ∀ k, k < n → (ei j k - ei i k) * (ei i k - ei j k) = ei j k * (ei i k - ei j k) + ei i k * (ei j k - ei i k) := fun k _ => by
      rw [Int.sub_mul]
      have : ei i k * (ei i k - ei j k) = - (ei i k * (ei j k - ei i k)) := by rw [← Int.mul_neg]; congr 1; omega
      omega
    rw [sum_congr this, sum_add, sum_ei hj, sum_ei hi, ei_self, ei_self, ei_ne hij, ei_ne (Ne.symm hij)]; rfl
  have k : ∀ b, b < n → Eqv (ei j b - ei i b + (1 + sumTo n fun k => (ei j k - ei i k) * (ei i k - ei j k)) * (ei j b - ei i b)) 0 := fun b _ => by
    rw [e1]
    exact .of_eq (by omega)
  exact undo_one (u := fun a => ei i a - ei j a) (w := fun b => ei j b - ei i b) (w' := fun b => ei j b - ei i b) k k
theorem mm_one {n : Nat} {u w : Nat → Int} {A : Fm} {a b : Nat} (ha : a < n) : mmF n (fun a b => dl a b + u a * w b) A a b = A a b + u a * sumTo n fun k => w k * A k b := by
  unfold mmF
  rw [sum_congr (g := fun k => dl a k * A k b + u a * (w k * A k b)) fun k _ => by rw [Int.add_mul, Int.mul_assoc], sum_add, sum_mul]
  congr 1
  rw [sum_one ha fun k _ hk => by unfold dl; rw [if_neg (Ne.symm hk), Int.zero_mul], show dl a a = 1 from if_pos rfl, Int.one_mul]
def mat (m : List (List Int)) : Fm := fun i j => ent (row m i) j
theorem row_set {rows : List (List Int)} {i k : Nat} {r : List Int} (hi : i < rows.length) : row (rows.set i r) k = if k = i then r else row rows k := by
  unfold row
  rw [List.getD_eq_getElem?_getD, List.getElem?_set]
  by_cases z : i = k
  · subst z
    rw [if_pos rfl, if_pos hi, if_pos rfl]; rfl
  · rw [if_neg z, if_neg (Ne.symm z), List.getD_eq_getElem?_getD]
/-- steps keep it -/
theorem rowsL_undo {n i j : Nat} {m : Int} {rows : List (List Int)} {B : Fm} (hl : rows.length = n) (hS : Shp n rows) (hi : i < n) (hj : j < n) (hm : 0 < m) (hm2 : m < 1000003) (u : UndoF n (mat rows) B) : ∃ B', UndoF n (mat (rowsL rows i j m)) B' := by
  have si := (hS _ (row_mem (m := rows) (i := i) (by omega))).1
  have sj := (hS _ (row_mem (m := rows) (i := j) (by omega))).1
  unfold rowsL
  by_cases hij : i = j
  · rw [if_pos hij]
    obtain ⟨m', hm'⟩ := inv_ex (a := m) (fun z => by have := Eqv.zero_iff.mp z; omega)
    refine ⟨_, u.comp (undo_scale (i := i) hi hm') fun a b ha hb => ?_⟩
    rw [mm_one (u := ei i) (w := fun b => (m - 1) * ei i b) ha]
    have e1 : (sumTo n fun k => (m - 1) * ei i k * mat rows k b) = (m - 1) * mat rows i b := by
      rw [sum_congr (g := fun k => ei i k * ((m - 1) * mat rows k b)) fun k _ => by rw [Int.mul_comm (m - 1), Int.mul_assoc], sum_ei hi]
    rw [e1]
    unfold mat
    rw [row_set (by omega)]
    by_cases z : a = i
    · subst z
      rw [if_pos rfl, ei_self, Int.one_mul, ent_map (by omega)]
      refine (Eqv.mod _).trans (.of_eq ?_)
      rw [Int.sub_mul, Int.one_mul]; omega
    · rw [if_neg z, ei_ne z, Int.zero_mul, Int.add_zero]; exact .refl _
  · rw [if_neg hij]
    by_cases h9 : m = 9
    · rw [if_pos h9]
      refine ⟨_, u.comp (undo_swap (i := i) (j := j) hi hj hij) fun a b ha hb => ?_⟩
      rw [mm_one (u := fun a => ei i a - ei j a) (w := fun b => ei j b - ei i b) ha]
      have e1 : (sumTo n fun k => (ei j k - ei i k) * mat rows k b) = mat rows j b - mat rows i b := by
        rw [sum_congr (g := fun k => ei j k * mat rows k b + ei i k * (-1 * mat rows k b)) fun k _ => by rw [Int.sub_mul, Int.neg_mul, Int.one_mul, Int.mul_neg]; omega, sum_add, sum_ei hi, sum_ei hj]; omega
      rw [e1]
      refine .of_eq ?_
      unfold mat
      rw [row_set (by rw [List.length_set]; omega), row_set (by omega)]
      by_cases z : a = j
      · subst z
        rw [if_pos rfl, ei_self, ei_ne (Ne.symm hij)]; omega
      · rw [if_neg z, ei_ne z]
        by_cases y : a = i
        · subst y
          rw [if_pos rfl, ei_self]; omega
        · rw [if_neg y, ei_ne y]; omega
    · rw [if_neg h9]
      refine ⟨_, u.comp (undo_take (i := i) (j := j) (m := m) hi hij) fun a b ha hb => ?_⟩
      rw [mm_one (u := ei i) (w := fun b => -m * ei j b) ha]
      have e1 : (sumTo n fun k => -m * ei j k * mat rows k b) = -m * mat rows j b := by
        rw [sum_congr (g := fun k => ei j k * (-m * mat rows k b)) fun k _ => by rw [Int.mul_comm (-m), Int.mul_assoc], sum_ei hj]
      rw [e1]
      unfold mat
      rw [row_set (by omega)]
      by_cases z : a = i
      · subst z
        rw [if_pos rfl, ei_self, Int.one_mul]
        unfold takenR
        rw [ent_range (by omega)]
        refine (Eqv.mod _).trans (.of_eq ?_)
        rw [Int.neg_mul]; omega
      · rw [if_neg z, ei_ne z, Int.zero_mul, Int.add_zero]; exact .refl _
theorem unit_undo {n : Nat} : UndoF n (mat (unitM n)) (mat (unitM n)) := by
  have e : ∀ i j, i < n → j < n → mat (unitM n) i j = dl i j := fun i j hi hj => by
    unfold mat unitM
    have h1 := row_lt (m := (List.range n).map fun i => (List.range n).map fun j => if i = j then (1 : Int) else 0) (i := i) (by simpa using hi)
    rw [List.getElem?_map, List.getElem?_range hi] at h1
    rw [← Option.some.inj h1, ent_range hj]; rfl
  have k : ∀ i j, i < n → j < n → Eqv (mmF n (mat (unitM n)) (mat (unitM n)) i j) (dl i j) := fun i j hi hj => by
    refine (mmF_congr (A' := dl) (B' := dl) (fun k hk => .of_eq (e i k hi hk)) (fun k hk => .of_eq (e k j hk hj))).trans (.of_eq (mmF_dlL hi))
  exact ⟨k, k⟩
theorem iterL_undo {n : Nat} (h1 : n ≤ 100) {d : D} (hd : JOk d) : ∀ {k : Nat}, (k = 0 ∨ 0 < n) → ∃ B, UndoF n (mat (iterL n k (d, unitM n)).2) B
  | 0, _ => ⟨_, unit_undo⟩
  | k + 1, hz => by
    have h0 : 0 < n := by omega
    obtain ⟨a, b, c⟩ := iterL_ok h1 hd (k := k) (.inr h0)
    obtain ⟨B, u⟩ := iterL_undo h1 hd (k := k) (.inr h0)
    unfold iterL stepL
    generalize iterL n k (d, unitM n) = z at a b c u ⊢
    dsimp only
    obtain ⟨a1, b1, c1, _⟩ := drawF_ok a (t := n) (by omega) (by omega)
    obtain ⟨a2, b2, c2, _⟩ := drawF_ok a1 (t := n) (by omega) (by omega)
    obtain ⟨a3, b3, c3, _⟩ := drawF_ok a2 (t := 4) (by omega) (by omega)
    obtain ⟨a4, b4, c4, _⟩ := drawF_ok a3 (t := if 0 < (drawF (drawF (drawF z.1 n).2 n).2 4).1 then 9 else 1000002) (by split <;> omega) (by split <;> omega)
    refine rowsL_undo b c (by omega) (by omega) (by omega) ?_ u
    have : (if 0 < (drawF (drawF (drawF z.1 n).2 n).2 4).1 then (9 : Int) else 1000002) ≤ 1000002 := by split <;> omega
    omega
def tabF (n : Nat) (B : Fm) : List (List Int) := (List.range n).map fun i => (List.range n).map fun j => B i j
theorem tabF_mat {n : Nat} {B : Fm} {i j : Nat} (hi : i < n) (hj : j < n) : mat (tabF n B) i j = B i j := by
  unfold mat tabF
  have h1 := row_lt (m := (List.range n).map fun i => (List.range n).map fun j => B i j) (i := i) (by simpa using hi)
  rw [List.getElem?_map, List.getElem?_range hi] at h1
  rw [← Option.some.inj h1, ent_range hj]
theorem UndoF.undo {n : Nat} {L : List (List Int)} {B : Fm} (u : UndoF n (mat L) B) (hl : L.length = n) : Undo n L (tabF n B) := by
  refine ⟨hl, by simp [tabF], fun i j hi hj => ?_, fun i j hi hj => ?_⟩
  · refine Eqv.trans (sum_eqv fun k hk => ?_) (u.l i j hi hj)
    exact Eqv.mul (.refl _) (.of_eq (tabF_mat hk hj))
  · refine Eqv.trans (sum_eqv fun k hk => ?_) (u.r i j hi hj)
    exact Eqv.mul (.of_eq (tabF_mat hi hk)) (.refl _)
end Lin
-- K2X
namespace DV
open PySem PySem.Spec PyProof.Rows L2
open Lin
local macro_rules | `(tactic| contradiction) => `(tactic| first
  | with_reducible refine okM_mod ?_
  | with_reducible refine okM_mul ?_
  | with_reducible refine okM_div ?_
  | with_reducible refine okM_pow ?_
  | with_reducible refine okM_ix ?_
  | with_reducible refine Eq.mpr okM_bin ?_
  | with_reducible refine okS_setW ?_
  | with_reducible refine okS_setIxW ?_
  | with_reducible refine okS_appW ?_
  | with_reducible refine okS_putFW ?_
  | with_reducible refine okS_parW ?_
  | with_reducible refine okM_popAtW ?_
  | with_reducible refine Eq.mpr okM_val ?_
  | with_reducible refine Eq.mpr okM_slot ?_
  | with_reducible refine Eq.mpr okM_C ?_
  | with_reducible refine Eq.mpr okM_cons ?_
  | with_reducible refine Eq.mpr okM_nil ?_
  | with_reducible refine Eq.mpr okM_call ?_
  | with_reducible refine Eq.mpr okM_var ?_
  | with_reducible refine Eq.mpr okM_un ?_
  | with_reducible refine Eq.mpr okM_list ?_
  | with_reducible refine Eq.mpr okM_tup ?_
  | with_reducible refine Eq.mpr okM_sl ?_
  | with_reducible refine Eq.mpr okM_part ?_
  | with_reducible refine Eq.mpr okM_noPart ?_
  | with_reducible refine Eq.mpr okM_cmpT ?_
  | with_reducible refine Eq.mpr okM_cmp ?_
  | with_reducible refine Eq.mpr okM_tru ?_
  | with_reducible refine Eq.mpr okM_not ?_
  | with_reducible refine Eq.mpr okM_and ?_
  | with_reducible refine Eq.mpr okM_or ?_
  | with_reducible refine Eq.mpr okM_if ?_
  | with_reducible refine Eq.mpr okM_andV ?_
  | with_reducible refine Eq.mpr okM_orV ?_
  | with_reducible refine Eq.mpr okM_iter ?_
  | with_reducible refine Eq.mpr okM_rg1 ?_
  | with_reducible refine Eq.mpr okM_rg2 ?_
  | with_reducible refine Eq.mpr okM_zip ?_
  | with_reducible refine Eq.mpr okM_lc ?_
  | with_reducible refine Eq.mpr okM_def ?_
  | with_reducible refine Eq.mpr okM_isi ?_
  | with_reducible refine Eq.mpr okM_ownL ?_
  | with_reducible refine Eq.mpr okM_pure ?_
  | with_reducible refine Eq.mpr okS_seq ?_
  | with_reducible refine Eq.mpr okS_nx ?_
  | with_reducible refine Eq.mpr okS_if ?_
  | with_reducible refine Eq.mpr okS_ret ?_
  | with_reducible refine Eq.mpr okS_retV ?_
  | with_reducible refine Eq.mpr okS_asg ?_
  | with_reducible refine Eq.mpr okS_for ?_
  | with_reducible refine Eq.mpr okS_expr ?_
  | with_reducible refine Eq.mpr okS_bk ?_
  | with_reducible refine Eq.mpr okS_ct ?_
  | with_reducible refine Eq.mpr okS_rtN ?_
  | with_reducible refine Eq.mpr okM_lend ?_
  | with_reducible refine Eq.mpr okM_make ?_
  | with_reducible refine Eq.mpr okM_enumA ?_
  | with_reducible refine Eq.mpr okM_join ?_
  | with_reducible refine setK_i (by simp only [set_un, set_fz, set_ow, set_s, Option.map_some, slOf_f, slOf_t, chg_ow, chg_io, chg_s, List.set_cons_zero, List.set_cons_succ, Int.reduceToNat, List.replicate_succ, List.replicate_zero, Nat.reduceSub, wipeE_cons, wipeE_nil]; first | done | rfl) ?_
  | with_reducible refine chgK_i (by simp only [set_un, set_fz, set_ow, set_s, Option.map_some, slOf_f, slOf_t, chg_ow, chg_io, chg_s, List.set_cons_zero, List.set_cons_succ, Int.reduceToNat, List.replicate_succ, List.replicate_zero, Nat.reduceSub, wipeE_cons, wipeE_nil]; first | done | rfl) ?_
  | with_reducible refine And.intro (GMod.mk (by omega)) ?_
  | with_reducible refine And.intro (GDiv.mk ⟨by omega, by omega⟩) ?_
  | with_reducible refine And.intro (GPow.mk ⟨by omega, by omega, by omega, by omega⟩) ?_
  | with_reducible refine And.intro (GMul.r ⟨by omega, by omega⟩) ?_
  | with_reducible refine And.intro (GMul.l ⟨by omega, by omega⟩) ?_
  | with_reducible refine split_T ?_
  | with_reducible refine split_F ?_
  | with_reducible refine split_dec (fun _ => ?_) (fun _ => ?_)
  | with_reducible refine split_neg ?_
  | with_reducible refine split_ne (fun _ => ?_) (fun _ => ?_)
  | with_reducible refine split_eqb (fun _ => ?_) (fun _ => ?_)
  | with_reducible refine And.intro (smI_of ⟨by omega, by omega⟩) ?_
  | refine ⟨_, ix_row (by first | exact seqR_d | exact seqR_t | assumption) (by omega), ?_⟩
  | refine ⟨_, ix_dM (by omega), ?_⟩
  | refine ⟨_, rfl, _, rfl, _, rfl, ?_⟩
  | refine ⟨_, rfl, _, rfl, ?_⟩
  | refine ⟨_, rfl, ⟨_, rfl⟩, ?_⟩
  | refine ⟨_, rfl, ?_⟩
  | refine ⟨_, _, rfl, ?_⟩
  | refine ⟨rfl, ?_⟩
  | refine And.intro (show List.length _ ≤ LIM by simp only [List.length_cons, List.length_nil, List.length_map, List.length_range, rg_len, LIM_eq]; omega) ?_
  | exact smI_of ⟨by omega, by omega⟩
  | ((with_reducible show wipeE _ _ = _); rfl))
section
variable {e : Env} {P : D × Bool → Env → Prop}
theorem run_loose {i n : Nat} {d : D} (ho : ownD e i = some d) (hd : JOk d) (hn : n ≤ 100) (k : ∀ L N d', JOk d' → L.length = n → Shp n L → Undo n L N → P (dT n n L, true) (chg e i d')) : OkM (mRun 9 2 mb__law_loose [.slot i, .val (.int n)]) e P := by
  refine run_io i d [.int n] ho ?_
  obtain ⟨a1, b1, c1, _⟩ := drawF_ok hd (t := 2 * (n : Int) + 1) (by omega) (by omega)
  have hz : (drawF d (2 * n + 1)).1.toNat = 0 ∨ 0 < n := by omega
  obtain ⟨a, b, c⟩ := iterL_ok hn a1 hz
  obtain ⟨B, u⟩ := iterL_undo hn a1 hz
  show OkS mb__law_loose (.io d :: .fz (.int n) :: List.replicate 7 .un) _ _ _ _
  unfold OkS mb__law_loose
  dsimp only
  rw [if_pos ⟨hd, by omega, by omega⟩]
  refine ⟨_, rfl, ?_⟩
  rw [Int.toNat_natCast]
  unfold looseF
  exact k _ _ _ a b c (u.undo b)
theorem run_jar {cs : List Int} (hl : cs.length ≤ 1000) (k : ∀ d, JOk d → P (d, true) e) : OkM (mRun 3 1 mb__law_jar [.val (.lst (cs.map D.int))]) e P := by
  refine run_v1 ?_
  unfold mb__law_jar
  repeat' contradiction
  have hc : cut (cs.map D.int) none (some 63) = (cs.take 63).map D.int := by rw [List.map_take]; exact cut_take (c := 63)
  rw [hc]
  refine okS_loop (fun i E => ∃ st s2, E = [.fz (.lst (cs.map D.int)), .fz (.int st), s2] ∧ 0 ≤ st ∧ st < 2147483587 ∧ Fr s2) ⟨19611, .un, rfl, by omega, by omega, trivial⟩ (fun i x E hi hI => ?_) fun E hI => ?_
  · obtain ⟨st, s2, rfl, h1, h2, f2⟩ := hI
    obtain ⟨n, _, rfl⟩ := List.mem_map.mp (List.mem_of_getElem? hi)
    refine ⟨_, (by simp [set_fr f2]; rfl), ?_⟩
    repeat' contradiction
    exact ⟨by omega, by omega, trivial⟩
  · obtain ⟨st, s2, rfl, h1, h2, f2⟩ := hI
    repeat' contradiction
    show P (.lst [.lst (cut (cs.map D.int) none (some 63)), .int 0, .int 0, .int 0, .int st, .int 0], true) e
    rw [hc]
    exact k _ ⟨_, _, _, _, _, _, rfl, by omega, h1, h2⟩
end
end DV
-- K2Y0
namespace DV
open PySem PySem.Spec PyProof.Rows L2
open Lin
local macro_rules | `(tactic| contradiction) => `(tactic| first
  | with_reducible refine okM_mod ?_
  | with_reducible refine okM_mul ?_
  | with_reducible refine okM_div ?_
  | with_reducible refine okM_pow ?_
  | with_reducible refine okM_ix ?_
  | with_reducible refine Eq.mpr okM_bin ?_
  | with_reducible refine okS_setW ?_
  | with_reducible refine okS_setIxW ?_
  | with_reducible refine okS_appW ?_
  | with_reducible refine okS_putFW ?_
  | with_reducible refine okS_parW ?_
  | with_reducible refine okM_popAtW ?_
  | with_reducible refine Eq.mpr okM_val ?_
  | with_reducible refine Eq.mpr okM_slot ?_
  | with_reducible refine Eq.mpr okM_C ?_
  | with_reducible refine Eq.mpr okM_cons ?_
  | with_reducible refine Eq.mpr okM_nil ?_
  | with_reducible refine Eq.mpr okM_call ?_
  | with_reducible refine Eq.mpr okM_var ?_
  | with_reducible refine Eq.mpr okM_un ?_
  | with_reducible refine Eq.mpr okM_list ?_
  | with_reducible refine Eq.mpr okM_tup ?_
  | with_reducible refine Eq.mpr okM_sl ?_
  | with_reducible refine Eq.mpr okM_part ?_
  | with_reducible refine Eq.mpr okM_noPart ?_
  | with_reducible refine Eq.mpr okM_cmpT ?_
  | with_reducible refine Eq.mpr okM_cmp ?_
  | with_reducible refine Eq.mpr okM_tru ?_
  | with_reducible refine Eq.mpr okM_not ?_
  | with_reducible refine Eq.mpr okM_and ?_
  | with_reducible refine Eq.mpr okM_or ?_
  | with_reducible refine Eq.mpr okM_if ?_
  | with_reducible refine Eq.mpr okM_andV ?_
  | with_reducible refine Eq.mpr okM_orV ?_
  | with_reducible refine Eq.mpr okM_iter ?_
  | with_reducible refine Eq.mpr okM_rg1 ?_
  | with_reducible refine Eq.mpr okM_rg2 ?_
  | with_reducible refine Eq.mpr okM_zip ?_
  | with_reducible refine Eq.mpr okM_lc ?_
  | with_reducible refine Eq.mpr okM_def ?_
  | with_reducible refine Eq.mpr okM_isi ?_
  | with_reducible refine Eq.mpr okM_ownL ?_
  | with_reducible refine Eq.mpr okM_pure ?_
  | with_reducible refine Eq.mpr okS_seq ?_
  | with_reducible refine Eq.mpr okS_nx ?_
  | with_reducible refine Eq.mpr okS_if ?_
  | with_reducible refine Eq.mpr okS_ret ?_
  | with_reducible refine Eq.mpr okS_retV ?_
  | with_reducible refine Eq.mpr okS_asg ?_
  | with_reducible refine Eq.mpr okS_for ?_
  | with_reducible refine Eq.mpr okS_expr ?_
  | with_reducible refine Eq.mpr okS_bk ?_
  | with_reducible refine Eq.mpr okS_ct ?_
  | with_reducible refine Eq.mpr okS_rtN ?_
  | with_reducible refine Eq.mpr okM_lend ?_
  | with_reducible refine Eq.mpr okM_make ?_
  | with_reducible refine Eq.mpr okM_enumA ?_
  | with_reducible refine Eq.mpr okM_join ?_
  | with_reducible refine setK_i (by simp only [set_un, set_fz, set_ow, set_s, Option.map_some, slOf_f, slOf_t, chg_ow, chg_io, chg_s, List.set_cons_zero, List.set_cons_succ, Int.reduceToNat, List.replicate_succ, List.replicate_zero, Nat.reduceSub, wipeE_cons, wipeE_nil]; first | done | rfl) ?_
  | with_reducible refine chgK_i (by simp only [set_un, set_fz, set_ow, set_s, Option.map_some, slOf_f, slOf_t, chg_ow, chg_io, chg_s, List.set_cons_zero, List.set_cons_succ, Int.reduceToNat, List.replicate_succ, List.replicate_zero, Nat.reduceSub, wipeE_cons, wipeE_nil]; first | done | rfl) ?_
  | with_reducible refine And.intro (GMod.mk (by omega)) ?_
  | with_reducible refine And.intro (GDiv.mk ⟨by omega, by omega⟩) ?_
  | with_reducible refine And.intro (GPow.mk ⟨by omega, by omega, by omega, by omega⟩) ?_
  | with_reducible refine And.intro (GMul.r ⟨by omega, by omega⟩) ?_
  | with_reducible refine And.intro (GMul.l ⟨by omega, by omega⟩) ?_
  | with_reducible refine split_T ?_
  | with_reducible refine split_F ?_
  | with_reducible refine split_dec (fun _ => ?_) (fun _ => ?_)
  | with_reducible refine split_neg ?_
  | with_reducible refine split_ne (fun _ => ?_) (fun _ => ?_)
  | with_reducible refine split_eqb (fun _ => ?_) (fun _ => ?_)
  | with_reducible refine And.intro (smI_of ⟨by omega, by omega⟩) ?_
  | refine ⟨_, ix_row (by first | exact seqR_d | exact seqR_t | assumption) (by omega), ?_⟩
  | refine ⟨_, ix_dM (by omega), ?_⟩
  | refine ⟨_, rfl, _, rfl, _, rfl, ?_⟩
  | refine ⟨_, rfl, _, rfl, ?_⟩
  | refine ⟨_, rfl, ⟨_, rfl⟩, ?_⟩
  | refine ⟨_, rfl, ?_⟩
  | refine ⟨_, _, rfl, ?_⟩
  | refine ⟨rfl, ?_⟩
  | refine And.intro (show List.length _ ≤ LIM by simp only [List.length_cons, List.length_nil, List.length_map, List.length_range, rg_len, LIM_eq]; omega) ?_
  | exact smI_of ⟨by omega, by omega⟩
  | ((with_reducible show wipeE _ _ = _); rfl))
noncomputable def lawS1 : MS := (sSet 3 (mDef 4 2 mb__law_draw [] (mCons (mSlot 1) (mCons (mVal (mC (.int 7))) mNil))))
noncomputable def lawS2 : MS := (sSet 4 (mDef 4 2 mb__law_draw [] (mCons (mSlot 1) (mCons (mVal (mC (.int 6))) mNil))))
noncomputable def lawS3 : MS := (sSet 5 (mDef 10 3 mb__law_grid [] (mCons (mSlot 1) (mCons (mVal (mVar 3)) (mCons (mVal (mVar 4)) mNil)))))
noncomputable def lawS4 : MS := (sIf (mCmpT cEq (mVal (mDef 4 2 mb__law_draw [] (mCons (mSlot 1) (mCons (mVal (mC (.int 3))) mNil)))) (mVal (mC (.int 0)))) (sSeq (sSet 6 (mDef 4 2 mb__law_draw [] (mCons (mSlot 1) (mCons (mVal (mBin opAdd (mVal (mCall (f2 oMin2) (mCons (mSlot 3) (mCons (mSlot 4) mNil)))) (mVal (mC (.int 1))))) mNil))))
  (sSet 5 (mDef 9 2 mb__law_prod [] (mCons (mVal (mDef 10 3 mb__law_grid [] (mCons (mSlot 1) (mCons (mVal (mVar 3)) (mCons (mVal (mVar 6)) mNil))))) (mCons (mVal (mDef 10 3 mb__law_grid [] (mCons (mSlot 1) (mCons (mVal (mVar 6)) (mCons (mVal (mVar 4)) mNil))))) mNil))))) sNx)
noncomputable def lawS5 : MS := (sSet 7 (mDef 1 1 mb__law_rank [] (mCons (mVal (mVar 5)) mNil)))
noncomputable def lawS6 : MS := (sSet 8 (mDef 4 2 mb__law_table [] (mCons (mSlot 1) (mCons (mVal (mVar 5)) mNil))))
noncomputable def lawS7 : MS := (sSet 9 (mDef 3 1 mb__law_seen [] (mCons (mVal (mDef 4 1 mb_frame [] (mCons (mVal (mVar 8)) mNil))) mNil)))
noncomputable def lawS8 : MS := (sIf (mOr (mCmpT cIs (mSlot 9) (mVal (mC .non))) (mOr (mCmpT cNe (mVal (mBin opIx (mSlot 9) (mVal (mC (.int 0))))) (mSlot 3)) (mOr (mCmpT cNe (mVal (mBin opIx (mSlot 9) (mVal (mC (.int 1))))) (mSlot 7)) (mOr (mNot (mTru (mVal (mDef 6 1 mb__law_k02_is_frame [] (mCons (mVal (mVar 9)) mNil))))) (mCmpT cNe (mVal (mDef 1 1 mb__law_rank [] (mCons (mVal (mDef 3 2 mb__law_aside [] (mCons (mVal (mVar 9)) (mCons (mVal (mVar 5)) mNil)))) mNil))) (mSlot 7)))))) (sRet (mC (.bl false))) sNx)
noncomputable def lawS9 : MS := (sSet 10 (mDef 3 1 mb__law_seen [] (mCons (mVal (mDef 2 1 mb_kernel [] (mCons (mVal (mDef 4 2 mb__law_hand [] (mCons (mSlot 1) (mCons (mVal (mVar 5)) mNil)))) mNil))) mNil)))
noncomputable def lawS10 : MS := (sIf (mOr (mCmpT cIs (mSlot 10) (mVal (mC .non))) (mOr (mCmpT cNe (mVal (mBin opIx (mSlot 10) (mVal (mC (.int 0))))) (mSlot 4)) (mOr (mCmpT cNe (mVal (mBin opIx (mSlot 10) (mVal (mC (.int 1))))) (mVal (mBin opSub (mSlot 4) (mSlot 7)))) (mNot (mTru (mVal (mDef 6 1 mb__law_k02_is_frame [] (mCons (mVal (mVar 10)) mNil)))))))) (sRet (mC (.bl false))) sNx)
noncomputable def lawS11 : MS := (sIf (mNot (mTru (mVal (mDef 2 1 mb__law_is_zero [] (mCons (mVal (mDef 9 2 mb__law_prod [] (mCons (mVal (mVar 5)) (mCons (mVal (mVar 10)) mNil)))) mNil))))) (sRet (mC (.bl false))) sNx)
noncomputable def lawS12 : MS := (sSet 11 (mDef 9 2 mb__law_prod [] (mCons (mVal (mVar 5)) (mCons (mVal (mDef 9 2 mb__law_loose [] (mCons (mSlot 1) (mCons (mVal (mVar 4)) mNil)))) mNil))))
noncomputable def lawS13 : MS := (sSet 11 (mDef 3 2 mb__law_aside [] (mCons (mVal (mVar 11)) (mCons (mVal (mDef 9 2 mb__law_prod [] (mCons (mVal (mVar 11)) (mCons (mVal (mDef 10 3 mb__law_grid [] (mCons (mSlot 1) (mCons (mVal (mVar 4)) (mCons (mVal (mDef 4 2 mb__law_draw [] (mCons (mSlot 1) (mCons (mVal (mC (.int 3))) mNil)))) mNil))))) mNil)))) mNil))))
noncomputable def lawS14 : MS := (sIf (mOr (mCmpT cNe (mVal (mDef 3 1 mb__law_seen [] (mCons (mVal (mDef 4 1 mb_frame [] (mCons (mVal (mDef 4 2 mb__law_hand [] (mCons (mSlot 1) (mCons (mVal (mVar 11)) mNil)))) mNil))) mNil))) (mSlot 9)) (mCmpT cNe (mVal (mDef 3 1 mb__law_seen [] (mCons (mVal (mDef 4 1 mb_frame [] (mCons (mVal (mDef 4 2 mb__law_hand [] (mCons (mSlot 1) (mCons (mVal (mVar 9)) mNil)))) mNil))) mNil))) (mSlot 9))) (sRet (mC (.bl false))) sNx)
noncomputable def lawS15 : MS := (sSet 12 (mDef 9 2 mb__law_prod [] (mCons (mVal (mDef 9 2 mb__law_loose [] (mCons (mSlot 1) (mCons (mVal (mVar 3)) mNil)))) (mCons (mVal (mVar 5)) mNil))))
noncomputable def lawS16 : MS := (sIf (mOr (mCmpT cNe (mVal (mDef 3 1 mb__law_seen [] (mCons (mVal (mDef 2 1 mb_kernel [] (mCons (mVal (mDef 4 2 mb__law_hand [] (mCons (mSlot 1) (mCons (mVal (mVar 12)) mNil)))) mNil))) mNil))) (mSlot 10)) (mCmpT cNe (mVal (mDef 3 1 mb__law_seen [] (mCons (mVal (mVar 8)) mNil))) (mSlot 5))) (sRet (mC (.bl false))) sNx)
noncomputable def lawS17 : MS := (sIf (mOr (mCmpT cNe (mVal (mBin opIx (mVal (mDef 3 1 mb__law_seen [] (mCons (mVal (mDef 2 1 mb_kernel [] (mCons (mVal (mDef 4 2 mb__law_hand [] (mCons (mSlot 1) (mCons (mVal (mVar 10)) mNil)))) mNil))) mNil))) (mVal (mC (.int 1))))) (mVal (mC (.int 0)))) (mCmpT cNe (mVal (mDef 3 1 mb__law_seen [] (mCons (mVal (mDef 4 1 mb_frame [] (mCons (mVal (mVar 8)) mNil))) mNil))) (mSlot 9))) (sRet (mC (.bl false))) sNx)
noncomputable def lawT17 : MS := lawS17
noncomputable def lawT16 : MS := sSeq lawS16 lawT17
noncomputable def lawT15 : MS := sSeq lawS15 lawT16
noncomputable def lawT14 : MS := sSeq lawS14 lawT15
noncomputable def lawT13 : MS := sSeq lawS13 lawT14
noncomputable def lawT12 : MS := sSeq lawS12 lawT13
noncomputable def lawT11 : MS := sSeq lawS11 lawT12
noncomputable def lawT10 : MS := sSeq lawS10 lawT11
noncomputable def lawT9 : MS := sSeq lawS9 lawT10
noncomputable def lawT8 : MS := sSeq lawS8 lawT9
noncomputable def lawT7 : MS := sSeq lawS7 lawT8
noncomputable def lawT6 : MS := sSeq lawS6 lawT7
noncomputable def lawT5 : MS := sSeq lawS5 lawT6
noncomputable def lawT4 : MS := sSeq lawS4 lawT5
noncomputable def lawT3 : MS := sSeq lawS3 lawT4
noncomputable def lawT2 : MS := sSeq lawS2 lawT3
noncomputable def lawT1 : MS := sSeq lawS1 lawT2
theorem law_is : mb_law = sSeq (sSet 1 (mDef 3 1 mb__law_jar [] (mCons (mVal (mVar 0)) mNil))) (sSeq (sFor (mRg1 (mCons (mVal (mC (.int 3))) mNil)) (gPut 2) lawT1) (sRet (mC (.bl true)))) := rfl
end DV
-- K2Y1
namespace DV
open PySem PySem.Spec PyProof.Rows L2
open Lin
local macro_rules | `(tactic| contradiction) => `(tactic| first
  | with_reducible refine okM_mod ?_
  | with_reducible refine okM_mul ?_
  | with_reducible refine okM_div ?_
  | with_reducible refine okM_pow ?_
  | with_reducible refine okM_ix ?_
  | with_reducible refine Eq.mpr okM_bin ?_
  | with_reducible refine okS_setW ?_
  | with_reducible refine okS_setIxW ?_
  | with_reducible refine okS_appW ?_
  | with_reducible refine okS_putFW ?_
  | with_reducible refine okS_parW ?_
  | with_reducible refine okM_popAtW ?_
  | with_reducible refine Eq.mpr okM_val ?_
  | with_reducible refine Eq.mpr okM_slot ?_
  | with_reducible refine Eq.mpr okM_C ?_
  | with_reducible refine Eq.mpr okM_cons ?_
  | with_reducible refine Eq.mpr okM_nil ?_
  | with_reducible refine Eq.mpr okM_call ?_
  | with_reducible refine Eq.mpr okM_var ?_
  | with_reducible refine Eq.mpr okM_un ?_
  | with_reducible refine Eq.mpr okM_list ?_
  | with_reducible refine Eq.mpr okM_tup ?_
  | with_reducible refine Eq.mpr okM_sl ?_
  | with_reducible refine Eq.mpr okM_part ?_
  | with_reducible refine Eq.mpr okM_noPart ?_
  | with_reducible refine Eq.mpr okM_cmpT ?_
  | with_reducible refine Eq.mpr okM_cmp ?_
  | with_reducible refine Eq.mpr okM_tru ?_
  | with_reducible refine Eq.mpr okM_not ?_
  | with_reducible refine Eq.mpr okM_and ?_
  | with_reducible refine Eq.mpr okM_or ?_
  | with_reducible refine Eq.mpr okM_if ?_
  | with_reducible refine Eq.mpr okM_andV ?_
  | with_reducible refine Eq.mpr okM_orV ?_
  | with_reducible refine Eq.mpr okM_iter ?_
  | with_reducible refine Eq.mpr okM_rg1 ?_
  | with_reducible refine Eq.mpr okM_rg2 ?_
  | with_reducible refine Eq.mpr okM_zip ?_
  | with_reducible refine Eq.mpr okM_lc ?_
  | with_reducible refine Eq.mpr okM_def ?_
  | with_reducible refine Eq.mpr okM_isi ?_
  | with_reducible refine Eq.mpr okM_ownL ?_
  | with_reducible refine Eq.mpr okM_pure ?_
  | with_reducible refine Eq.mpr okS_seq ?_
  | with_reducible refine Eq.mpr okS_nx ?_
  | with_reducible refine Eq.mpr okS_if ?_
  | with_reducible refine Eq.mpr okS_ret ?_
  | with_reducible refine Eq.mpr okS_retV ?_
  | with_reducible refine Eq.mpr okS_asg ?_
  | with_reducible refine Eq.mpr okS_for ?_
  | with_reducible refine Eq.mpr okS_expr ?_
  | with_reducible refine Eq.mpr okS_bk ?_
  | with_reducible refine Eq.mpr okS_ct ?_
  | with_reducible refine Eq.mpr okS_rtN ?_
  | with_reducible refine Eq.mpr okM_lend ?_
  | with_reducible refine Eq.mpr okM_make ?_
  | with_reducible refine Eq.mpr okM_enumA ?_
  | with_reducible refine Eq.mpr okM_join ?_
  | with_reducible refine setK_i (by simp only [set_un, set_fz, set_ow, set_s, Option.map_some, slOf_f, slOf_t, chg_ow, chg_io, chg_s, List.set_cons_zero, List.set_cons_succ, Int.reduceToNat, List.replicate_succ, List.replicate_zero, Nat.reduceSub, wipeE_cons, wipeE_nil]; first | done | rfl) ?_
  | with_reducible refine chgK_i (by simp only [set_un, set_fz, set_ow, set_s, Option.map_some, slOf_f, slOf_t, chg_ow, chg_io, chg_s, List.set_cons_zero, List.set_cons_succ, Int.reduceToNat, List.replicate_succ, List.replicate_zero, Nat.reduceSub, wipeE_cons, wipeE_nil]; first | done | rfl) ?_
  | with_reducible refine And.intro (GMod.mk (by omega)) ?_
  | with_reducible refine And.intro (GDiv.mk ⟨by omega, by omega⟩) ?_
  | with_reducible refine And.intro (GPow.mk ⟨by omega, by omega, by omega, by omega⟩) ?_
  | with_reducible refine And.intro (GMul.r ⟨by omega, by omega⟩) ?_
  | with_reducible refine And.intro (GMul.l ⟨by omega, by omega⟩) ?_
  | with_reducible refine split_T ?_
  | with_reducible refine split_F ?_
  | with_reducible refine split_dec (fun _ => ?_) (fun _ => ?_)
  | with_reducible refine split_neg ?_
  | with_reducible refine split_ne (fun _ => ?_) (fun _ => ?_)
  | with_reducible refine split_eqb (fun _ => ?_) (fun _ => ?_)
  | with_reducible refine And.intro (smI_of ⟨by omega, by omega⟩) ?_
  | refine ⟨_, ix_row (by first | exact seqR_d | exact seqR_t | assumption) (by omega), ?_⟩
  | refine ⟨_, ix_dM (by omega), ?_⟩
  | refine ⟨_, rfl, _, rfl, _, rfl, ?_⟩
  | refine ⟨_, rfl, _, rfl, ?_⟩
  | refine ⟨_, rfl, ⟨_, rfl⟩, ?_⟩
  | refine ⟨_, rfl, ?_⟩
  | refine ⟨_, _, rfl, ?_⟩
  | refine ⟨rfl, ?_⟩
  | refine And.intro (show List.length _ ≤ LIM by simp only [List.length_cons, List.length_nil, List.length_map, List.length_range, rg_len, LIM_eq]; omega) ?_
  | exact smI_of ⟨by omega, by omega⟩
  | ((with_reducible show wipeE _ _ = _); rfl))
section
theorem ls1 {rt : D → Bool → DV.Env → Prop} {bk ct : DV.Env → Prop} {s0 : Sl} {d : D} {t : Int} {s3 s4 s5 s6 s7 s8 s9 s10 s11 s12 : Sl} (hd : JOk d) (f3 : Fr s3) : OkS lawS1 [s0, .ow d, .fz (.int t), s3, s4, s5, s6, s7, s8, s9, s10, s11, s12] (fun E => ∃ (d2 : D) (h : Nat), JOk d2 ∧ h < 7 ∧ E = [s0, .ow d2, .fz (.int t), .fz (.int h), s4, s5, s6, s7, s8, s9, s10, s11, s12]) rt bk ct := by
  unfold lawS1
  repeat' contradiction
  refine run_draw rfl hd (by decide) (by decide) fun v d1 hd1 h1 h2 => ?_
  refine setK_i (by simp [set_fr f3]; rfl) ?_
  obtain ⟨n, rfl⟩ : ∃ n : Nat, v = n := ⟨v.toNat, by omega⟩
  exact ⟨d1, n, hd1, by omega, rfl⟩
theorem ls2 {rt : D → Bool → DV.Env → Prop} {bk ct : DV.Env → Prop} {s0 : Sl} {d : D} {t : Int} {s3 s4 s5 s6 s7 s8 s9 s10 s11 s12 : Sl} (hd : JOk d) (f4 : Fr s4) : OkS lawS2 [s0, .ow d, .fz (.int t), s3, s4, s5, s6, s7, s8, s9, s10, s11, s12] (fun E => ∃ (d2 : D) (w : Nat), JOk d2 ∧ w < 6 ∧ E = [s0, .ow d2, .fz (.int t), s3, .fz (.int w), s5, s6, s7, s8, s9, s10, s11, s12]) rt bk ct := by
  unfold lawS2
  repeat' contradiction
  refine run_draw rfl hd (by decide) (by decide) fun v d1 hd1 h1 h2 => ?_
  refine setK_i (by simp [set_fr f4]; rfl) ?_
  obtain ⟨n, rfl⟩ : ∃ n : Nat, v = n := ⟨v.toNat, by omega⟩
  exact ⟨d1, n, hd1, by omega, rfl⟩
theorem ls3 {rt : D → Bool → DV.Env → Prop} {bk ct : DV.Env → Prop} {s0 : Sl} {d : D} {t : Int} {s5 s6 s7 s8 s9 s10 s11 s12 : Sl} {h w : Nat} (hh : h < 7) (hw : w < 6) (hd : JOk d) (f5 : Fr s5) : OkS lawS3 [s0, .ow d, .fz (.int t), .fz (.int h), .fz (.int w), s5, s6, s7, s8, s9, s10, s11, s12] (fun E => ∃ d2 m, JOk d2 ∧ m.length = h ∧ Shp w m ∧ E = [s0, .ow d2, .fz (.int t), .fz (.int h), .fz (.int w), .ow (dT h w m), s6, s7, s8, s9, s10, s11, s12]) rt bk ct := by
  unfold lawS3
  repeat' contradiction
  refine run_grid rfl hd (by omega) (by omega) fun m d1 hd1 hm hS => ?_
  refine setK_i (by simp [set_fr f5]; rfl) ?_
  exact ⟨d1, m, hd1, hm, hS, rfl⟩
theorem ls4 {rt : D → Bool → DV.Env → Prop} {bk ct : DV.Env → Prop} {s0 : Sl} {d : D} {t : Int} {s6 s7 s8 s9 s10 s11 s12 : Sl} {h w : Nat} {m : List (List Int)} (hh : h < 7) (hw : w < 6) (hm : m.length = h) (hS : Shp w m) (hd : JOk d) (f6 : Fr s6) : OkS lawS4 [s0, .ow d, .fz (.int t), .fz (.int h), .fz (.int w), .ow (dT h w m), s6, s7, s8, s9, s10, s11, s12] (fun E => ∃ d2 m s6, JOk d2 ∧ m.length = h ∧ Shp w m ∧ Fr s6 ∧ E = [s0, .ow d2, .fz (.int t), .fz (.int h), .fz (.int w), .ow (dT h w m), s6, s7, s8, s9, s10, s11, s12]) rt bk ct := by
  unfold lawS4
  repeat' contradiction
  refine run_draw rfl hd (by decide) (by decide) fun v d1 hd1 h1 h2 => ?_
  repeat' contradiction
  · have hmin : (0 : Int) < (if (w : Int) < h then (w : Int) else h) + 1 ∧ (if (w : Int) < h then (w : Int) else h) + 1 < 2 ^ 60 := by split <;> omega
    refine run_draw rfl hd1 hmin.1 hmin.2 fun u d2 hd2 h3 h4 => ?_
    refine setK_i (by simp [set_fr f6]; rfl) ?_
    have hu : u < 7 := by
      have : (if (w : Int) < h then (w : Int) else h) ≤ 6 := by split <;> omega
      omega
    obtain ⟨q, rfl⟩ : ∃ n : Nat, u = n := ⟨u.toNat, by omega⟩
    repeat' contradiction
    refine run_grid rfl hd2 (by omega) (by omega) fun m1 d3 hd3 hm1 hS1 => ?_
    repeat' contradiction
    refine run_grid rfl hd3 (by omega) (by omega) fun m2 d4 hd4 hm2 hS2 => ?_
    repeat' contradiction
    refine run_prod hS1 hS2 hm2 (by omega) (by omega) (by omega) ?_
    refine setK_i (by simp; rfl) ?_
    exact ⟨d4, mulM q w m1 m2, .fz (.int q), hd4, by rw [mulM_len]; exact hm1, mulM_shp, trivial, rfl⟩
  · exact ⟨d1, m, s6, hd1, hm, hS, f6, rfl⟩
theorem ls5 {rt : D → Bool → DV.Env → Prop} {bk ct : DV.Env → Prop} {s0 : Sl} {d : D} {t : Int} {s6 s7 s8 s9 s10 s11 s12 : Sl} {h w : Nat} {m : List (List Int)} (hh : h < 7) (hw : w < 6) (hm : m.length = h) (hS : Shp w m) (f7 : Fr s7) : OkS lawS5 [s0, .ow d, .fz (.int t), .fz (.int h), .fz (.int w), .ow (dT h w m), s6, s7, s8, s9, s10, s11, s12] (fun E => ∃ r : Nat, Rk w m r ∧ r ≤ h ∧ E = [s0, .ow d, .fz (.int t), .fz (.int h), .fz (.int w), .fz (dT h w m), s6, .fz (.int r), s8, s9, s10, s11, s12]) rt bk ct := by
  unfold lawS5
  repeat' contradiction
  refine run_rank hS (by omega) (by omega) fun done piv R hN hl => ?_
  refine setK_i (by simp [set_fr f7]; rfl) ?_
  exact ⟨piv.length, ⟨done, piv, R, hN, rfl⟩, by omega, rfl⟩
theorem ls6 {rt : D → Bool → DV.Env → Prop} {bk ct : DV.Env → Prop} {s0 : Sl} {d : D} {t : Int} {s6 s8 s9 s10 s11 s12 : Sl} {h w : Nat} {m : List (List Int)} {r : Nat} (hh : h < 7) (hw : w < 6) (hm : m.length = h) (hS : Shp w m) (hd : JOk d) (f8 : Fr s8) : OkS lawS6 [s0, .ow d, .fz (.int t), .fz (.int h), .fz (.int w), .fz (dT h w m), s6, .fz (.int r), s8, s9, s10, s11, s12] (fun E => ∃ d2 s, JOk d2 ∧ E = [s0, .ow d2, .fz (.int t), .fz (.int h), .fz (.int w), .fz (dT h w m), s6, .fz (.int r), .ow (tabD h w m s), s9, s10, s11, s12]) rt bk ct := by
  unfold lawS6
  repeat' contradiction
  refine run_table rfl hd hm hS (by omega) (by omega) fun s d1 hd1 => ?_
  refine setK_i (by simp [set_fr f8]; rfl) ?_
  exact ⟨d1, s, hd1, rfl⟩
theorem ls7 {rt : D → Bool → DV.Env → Prop} {bk ct : DV.Env → Prop} {s0 : Sl} {d : D} {t : Int} {s6 s9 s10 s11 s12 : Sl} {h w : Nat} {m : List (List Int)} {r : Nat} {s : Str} (hh : h < 7) (hw : w < 6) (hm : m.length = h) (hS : Shp w m) (f9 : Fr s9) : OkS lawS7 [s0, .ow d, .fz (.int t), .fz (.int h), .fz (.int w), .fz (dT h w m), s6, .fz (.int r), .ow (tabD h w m s), s9, s10, s11, s12] (fun E => ∃ R k, RoomOf h w m R k ∧ k ≤ w ∧ E = [s0, .ow d, .fz (.int t), .fz (.int h), .fz (.int w), .fz (dT h w m), s6, .fz (.int r), .fz (tabD h w m s), .ow (dT h k R), s10, s11, s12]) rt bk ct := by
  unfold lawS7
  repeat' contradiction
  refine run_frame (.inl ⟨_, rfl⟩) hm hS (by omega) (by omega) fun R k s2 hR hk => ?_
  repeat' contradiction
  refine run_seen hR.len hR.shp (by omega) (by omega) ?_
  refine setK_i (by simp [set_fr f9]; rfl) ?_
  exact ⟨R, k, hR, hk, rfl⟩
theorem ls8 {rt : D → Bool → DV.Env → Prop} {bk ct : DV.Env → Prop} {s0 : Sl} {d : D} {t : Int} {s6 s10 s11 s12 : Sl} {h w : Nat} {m : List (List Int)} {r k : Nat} {s : Str} {R : List (List Int)} (hh : h < 7) (hw : w < 6) (hm : m.length = h) (hS : Shp w m) (hr : Rk w m r) (hR : RoomOf h w m R k) (hk : k ≤ w) : OkS lawS8 [s0, .ow d, .fz (.int t), .fz (.int h), .fz (.int w), .fz (dT h w m), s6, .fz (.int r), .fz (tabD h w m s), .ow (dT h k R), s10, s11, s12] (fun E => E = [s0, .ow d, .fz (.int t), .fz (.int h), .fz (.int w), .fz (dT h w m), s6, .fz (.int r), .fz (tabD h w m s), .fz (dT h k R), s10, s11, s12]) rt bk ct := by
  unfold lawS8
  have hrk : r = k := Rk.flip hS hm hr (hR.rk hm)
  repeat' contradiction
  refine split_F ?_
  repeat' contradiction
  all_goals first | (exfalso; omega) | skip
  refine run_is_frame hR.frame hR.len hR.shp (by omega) (by omega) ?_
  repeat' contradiction
  refine run_aside (by omega) hR.len hm (fun r hr => by rw [(hR.shp r hr).1]; omega) (fun r hr => by rw [(hS r hr).1]; omega) ?_
  repeat' contradiction
  refine run_rank (h := h) (w := k + w) (asideM_shp hR.len hm hR.shp hS) (by omega) (by rw [asideM_len]; omega) fun done piv RR hN hl => ?_
  have hp := hR.aside hm hS ⟨done, piv, RR, hN, rfl⟩
  repeat' contradiction
  all_goals first | (exfalso; omega) | rfl
theorem ls9 {rt : D → Bool → DV.Env → Prop} {bk ct : DV.Env → Prop} {s0 : Sl} {d : D} {t : Int} {s6 s10 s11 s12 : Sl} {h w : Nat} {m : List (List Int)} {r k : Nat} {s : Str} {R : List (List Int)} (hh : h < 7) (hw : w < 6) (hm : m.length = h) (hS : Shp w m) (hd : JOk d) (f10 : Fr s10) : OkS lawS9 [s0, .ow d, .fz (.int t), .fz (.int h), .fz (.int w), .fz (dT h w m), s6, .fz (.int r), .fz (tabD h w m s), .fz (dT h k R), s10, s11, s12] (fun E => ∃ d2 N q, JOk d2 ∧ KerOf w m N q ∧ q ≤ w ∧ E = [s0, .ow d2, .fz (.int t), .fz (.int h), .fz (.int w), .fz (dT h w m), s6, .fz (.int r), .fz (tabD h w m s), .fz (dT h k R), .ow (dT w q N), s11, s12]) rt bk ct := by
  unfold lawS9
  repeat' contradiction
  refine run_hand rfl hd hm hS (by omega) (by omega) fun x fl d1 hx hd1 => ?_
  repeat' contradiction
  refine run_kernel hx hm hS (by omega) (by omega) fun N q s2 hN hq => ?_
  repeat' contradiction
  refine run_seen hN.len hN.shp (by omega) (by omega) ?_
  refine setK_i (by simp [set_fr f10]; rfl) ?_
  exact ⟨d1, N, q, hd1, hN, hq, rfl⟩
theorem ls10 {rt : D → Bool → DV.Env → Prop} {bk ct : DV.Env → Prop} {s0 : Sl} {d : D} {t : Int} {s6 s11 s12 : Sl} {h w : Nat} {m : List (List Int)} {r k q : Nat} {s : Str} {R N : List (List Int)} (hh : h < 7) (hw : w < 6) (hm : m.length = h) (hS : Shp w m) (hr : Rk w m r) (hN : KerOf w m N q) : OkS lawS10 [s0, .ow d, .fz (.int t), .fz (.int h), .fz (.int w), .fz (dT h w m), s6, .fz (.int r), .fz (tabD h w m s), .fz (dT h k R), .ow (dT w q N), s11, s12] (fun E => E = [s0, .ow d, .fz (.int t), .fz (.int h), .fz (.int w), .fz (dT h w m), s6, .fz (.int r), .fz (tabD h w m s), .fz (dT h k R), .fz (dT w q N), s11, s12]) rt bk ct := by
  unfold lawS10
  have hrk := hN.size hS hm hr
  repeat' contradiction
  refine split_F ?_
  repeat' contradiction
  all_goals first | (exfalso; omega) | skip
  refine run_is_frame hN.frame hN.len hN.shp (by omega) (by omega) ?_
  repeat' contradiction
  rfl
theorem ls11 {rt : D → Bool → DV.Env → Prop} {bk ct : DV.Env → Prop} {s0 : Sl} {d : D} {t : Int} {s6 s11 s12 : Sl} {h w : Nat} {m : List (List Int)} {r k q : Nat} {s : Str} {R N : List (List Int)} (hh : h < 7) (hw : w < 6) (hm : m.length = h) (hS : Shp w m) (hq : q ≤ w) (hN : KerOf w m N q) : OkS lawS11 [s0, .ow d, .fz (.int t), .fz (.int h), .fz (.int w), .fz (dT h w m), s6, .fz (.int r), .fz (tabD h w m s), .fz (dT h k R), .fz (dT w q N), s11, s12] (fun E => E = [s0, .ow d, .fz (.int t), .fz (.int h), .fz (.int w), .fz (dT h w m), s6, .fz (.int r), .fz (tabD h w m s), .fz (dT h k R), .fz (dT w q N), s11, s12]) rt bk ct := by
  unfold lawS11
  repeat' contradiction
  refine run_prod hS hN.shp hN.len (by omega) (by omega) (by omega) ?_
  repeat' contradiction
  refine run_isZero (by rw [mulM_len]; omega) (fun r hr => by rw [(mulM_shp r hr).1]; omega) ?_
  have hz : isZ (mulM w q m N) = true := (isZ_iff mulM_shp).mpr (ext_rows (w := q) (by rw [mulM_len]; simp [zeroM]) (fun r hr => (mulM_shp r hr).1) (fun r hr => (zeroM_shp r hr).1) fun i j hi hj => by
    rw [mulM_len] at hi
    rw [hN.zero hS hi hj]
    have : i < (mulM w q m N).length := by rw [mulM_len]; exact hi
    unfold zeroM row
    rw [List.getD_eq_getElem?_getD, List.getElem?_replicate, if_pos this]
    exact (ent_rep hj).symm)
  have hz' : (List.filter (fun r => decide (0 < maxI (r ++ [0]))) (mulM w q m N)).isEmpty = true := hz
  rw [hz']
  repeat' contradiction
  rfl
theorem ls12 {rt : D → Bool → DV.Env → Prop} {bk ct : DV.Env → Prop} {s0 : Sl} {d : D} {t : Int} {s6 s11 s12 : Sl} {h w : Nat} {m : List (List Int)} {r k q : Nat} {s : Str} {R N : List (List Int)} (hh : h < 7) (hw : w < 6) (hm : m.length = h) (hS : Shp w m) (hd : JOk d) (f11 : Fr s11) : OkS lawS12 [s0, .ow d, .fz (.int t), .fz (.int h), .fz (.int w), .fz (dT h w m), s6, .fz (.int r), .fz (tabD h w m s), .fz (dT h k R), .fz (dT w q N), s11, s12] (fun E => ∃ d2 L I, JOk d2 ∧ L.length = w ∧ Shp w L ∧ Undo w L I ∧ E = [s0, .ow d2, .fz (.int t), .fz (.int h), .fz (.int w), .fz (dT h w m), s6, .fz (.int r), .fz (tabD h w m s), .fz (dT h k R), .fz (dT w q N), .ow (dT h w (mulM w w m L)), s12]) rt bk ct := by
  unfold lawS12
  repeat' contradiction
  refine run_loose rfl hd (by omega) fun L I d1 hd1 hL hLS hU => ?_
  repeat' contradiction
  refine run_prod hS hLS hL (by omega) (by omega) (by omega) ?_
  refine setK_i (by simp [set_fr f11]; rfl) ?_
  exact ⟨d1, L, I, hd1, hL, hLS, hU, rfl⟩
theorem ls13 {rt : D → Bool → DV.Env → Prop} {bk ct : DV.Env → Prop} {s0 : Sl} {d : D} {t : Int} {s6 s12 : Sl} {h w : Nat} {m : List (List Int)} {r k q : Nat} {s : Str} {R N M : List (List Int)} (hh : h < 7) (hw : w < 6) (hm : m.length = h) (hS : Shp w m) (hM : M.length = h) (hMS : Shp w M) (hd : JOk d) : OkS lawS13 [s0, .ow d, .fz (.int t), .fz (.int h), .fz (.int w), .fz (dT h w m), s6, .fz (.int r), .fz (tabD h w m s), .fz (dT h k R), .fz (dT w q N), .ow (dT h w M), s12] (fun E => ∃ (d2 : D) (v : Nat) (G : List (List Int)), JOk d2 ∧ v < 3 ∧ G.length = w ∧ Shp v G ∧ E = [s0, .ow d2, .fz (.int t), .fz (.int h), .fz (.int w), .fz (dT h w m), s6, .fz (.int r), .fz (tabD h w m s), .fz (dT h k R), .fz (dT w q N), .ow (dT h (w + v) (asideM h M (mulM w v M G))), s12]) rt bk ct := by
  unfold lawS13
  repeat' contradiction
  refine run_draw rfl hd (by decide) (by decide) fun v d1 hd1 h1 h2 => ?_
  obtain ⟨v, rfl⟩ : ∃ n : Nat, v = n := ⟨v.toNat, by omega⟩
  repeat' contradiction
  refine run_grid rfl hd1 (by omega) (by omega) fun G d2 hd2 hG hGS => ?_
  repeat' contradiction
  refine run_prod hMS hGS hG (by omega) (by omega) (by omega) ?_
  repeat' contradiction
  refine run_aside (by omega) hM (by rw [mulM_len]; exact hM) (fun r hr => by rw [(hMS r hr).1]; omega) (fun r hr => by rw [(mulM_shp r hr).1]; omega) ?_
  refine setK_i (by simp; rfl) ?_
  exact ⟨d2, v, G, hd2, by omega, hG, hGS, rfl⟩
theorem ls14 {rt : D → Bool → DV.Env → Prop} {bk ct : DV.Env → Prop} {s0 : Sl} {d : D} {t : Int} {s6 s12 : Sl} {h w : Nat} {m : List (List Int)} {r k q v : Nat} {s : Str} {R N M : List (List Int)} (hh : h < 7) (hv : v < 8) (hkw : k < 6) (hM : M.length = h) (hMS : Shp v M) (hR : RoomOf h w m R k) (hn : ∀ y, ColN h v M y ↔ ColN h w m y) (hd : JOk d) : OkS lawS14 [s0, .ow d, .fz (.int t), .fz (.int h), .fz (.int w), .fz (dT h w m), s6, .fz (.int r), .fz (tabD h w m s), .fz (dT h k R), .fz (dT w q N), .ow (dT h v M), s12] (fun E => ∃ d2, JOk d2 ∧ E = [s0, .ow d2, .fz (.int t), .fz (.int h), .fz (.int w), .fz (dT h w m), s6, .fz (.int r), .fz (tabD h w m s), .fz (dT h k R), .fz (dT w q N), .fz (dT h v M), s12]) rt bk ct := by
  unfold lawS14
  repeat' contradiction
  refine run_hand rfl hd hM hMS (by omega) (by omega) fun x fl d1 hx hd1 => ?_
  repeat' contradiction
  refine run_frame hx hM hMS (by omega) (by omega) fun R1 k1 s1 hR1 hk1 => ?_
  obtain ⟨e1, e2⟩ := hR1.uniq hR hn
  subst e1 e2
  repeat' contradiction
  refine run_seen hR1.len hR1.shp (by omega) (by omega) ?_
  refine Eq.mpr okM_slot ⟨_, rfl, _, rfl, _, rfl, _, ne_same, split_F ?_⟩
  repeat' contradiction
  refine run_hand rfl hd1 hR1.len hR1.shp (by omega) (by omega) fun x2 fl2 d2 hx2 hd2 => ?_
  repeat' contradiction
  refine run_frame hx2 hR1.len hR1.shp (by omega) (by omega) fun R2 k2 s2 hR2 hk2 => ?_
  obtain ⟨e1, e2⟩ := hR2.uniq hR1 hR1.colN
  subst e1 e2
  repeat' contradiction
  refine run_seen hR2.len hR2.shp (by omega) (by omega) ?_
  refine Eq.mpr okM_slot ⟨_, rfl, _, rfl, _, rfl, _, ne_same, split_F ?_⟩
  repeat' contradiction
  exact ⟨d2, hd2, rfl⟩
theorem ls15 {rt : D → Bool → DV.Env → Prop} {bk ct : DV.Env → Prop} {s0 : Sl} {d : D} {t : Int} {s6 s12 : Sl} {h w : Nat} {m : List (List Int)} {r k q v : Nat} {s : Str} {R N M : List (List Int)} (hh : h < 7) (hw : w < 6) (hm : m.length = h) (hS : Shp w m) (hd : JOk d) (f12 : Fr s12) : OkS lawS15 [s0, .ow d, .fz (.int t), .fz (.int h), .fz (.int w), .fz (dT h w m), s6, .fz (.int r), .fz (tabD h w m s), .fz (dT h k R), .fz (dT w q N), .fz (dT h v M), s12] (fun E => ∃ d2 L I, JOk d2 ∧ L.length = h ∧ Shp h L ∧ Undo h L I ∧ E = [s0, .ow d2, .fz (.int t), .fz (.int h), .fz (.int w), .fz (dT h w m), s6, .fz (.int r), .fz (tabD h w m s), .fz (dT h k R), .fz (dT w q N), .fz (dT h v M), .ow (dT h w (mulM h w L m))]) rt bk ct := by
  unfold lawS15
  repeat' contradiction
  refine run_loose rfl hd (by omega) fun L I d1 hd1 hL hLS hU => ?_
  repeat' contradiction
  refine run_prod hLS hS hm (by omega) (by omega) (by omega) ?_
  refine setK_i (by simp [set_fr f12]; rfl) ?_
  exact ⟨d1, L, I, hd1, hL, hLS, hU, rfl⟩
theorem ls16 {rt : D → Bool → DV.Env → Prop} {bk ct : DV.Env → Prop} {s0 : Sl} {d : D} {t : Int} {s6 : Sl} {h w : Nat} {m : List (List Int)} {r k q v : Nat} {s : Str} {R N M A : List (List Int)} (hh : h < 7) (hw : w < 6) (hm : m.length = h) (hS : Shp w m) (hA : A.length = h) (hAS : Shp w A) (hN : KerOf w m N q) (hn : ∀ y, Null w A y ↔ Null w m y) (hd : JOk d) : OkS lawS16 [s0, .ow d, .fz (.int t), .fz (.int h), .fz (.int w), .fz (dT h w m), s6, .fz (.int r), .fz (tabD h w m s), .fz (dT h k R), .fz (dT w q N), .fz (dT h v M), .ow (dT h w A)] (fun E => ∃ d2, JOk d2 ∧ E = [s0, .ow d2, .fz (.int t), .fz (.int h), .fz (.int w), .fz (dT h w m), s6, .fz (.int r), .fz (tabD h w m s), .fz (dT h k R), .fz (dT w q N), .fz (dT h v M), .fz (dT h w A)]) rt bk ct := by
  unfold lawS16
  repeat' contradiction
  refine run_hand rfl hd hA hAS (by omega) (by omega) fun x fl d1 hx hd1 => ?_
  repeat' contradiction
  refine run_kernel hx hA hAS (by omega) (by omega) fun N1 k1 s1 hN1 hk1 => ?_
  obtain ⟨e1, e2⟩ := hN1.uniq hN (fun r hr => (hAS r hr).1) (fun r hr => (hS r hr).1) hn
  subst e1 e2
  repeat' contradiction
  refine run_seen hN1.len hN1.shp (by omega) (by omega) ?_
  refine Eq.mpr okM_slot ⟨_, rfl, _, rfl, _, rfl, _, ne_same, split_F ?_⟩
  repeat' contradiction
  refine run_seen hm hS (by omega) (by omega) ?_
  refine Eq.mpr okM_slot ⟨_, rfl, _, rfl, _, rfl, _, ne_same, split_F ?_⟩
  repeat' contradiction
  exact ⟨d1, hd1, rfl⟩
theorem ls17 {rt : D → Bool → DV.Env → Prop} {bk ct : DV.Env → Prop} {s0 : Sl} {d : D} {t : Int} {s6 : Sl} {h w : Nat} {m : List (List Int)} {r k q v : Nat} {s : Str} {R N M A : List (List Int)} (hh : h < 7) (hw : w < 6) (hm : m.length = h) (hS : Shp w m) (hq : q ≤ w) (hN : KerOf w m N q) (hR : RoomOf h w m R k) (hd : JOk d) : OkS lawS17 [s0, .ow d, .fz (.int t), .fz (.int h), .fz (.int w), .fz (dT h w m), s6, .fz (.int r), .fz (tabD h w m s), .fz (dT h k R), .fz (dT w q N), .fz (dT h v M), .fz (dT h w A)] (fun E => ∃ d2, JOk d2 ∧ E = [s0, .ow d2, .fz (.int t), .fz (.int h), .fz (.int w), .fz (dT h w m), s6, .fz (.int r), .fz (tabD h w m s), .fz (dT h k R), .fz (dT w q N), .fz (dT h v M), .fz (dT h w A)]) rt bk ct := by
  unfold lawS17
  repeat' contradiction
  refine run_hand rfl hd hN.len hN.shp (by omega) (by omega) fun x fl d1 hx hd1 => ?_
  repeat' contradiction
  refine run_kernel hx hN.len hN.shp (by omega) (by omega) fun N1 k1 s1 hN1 hk1 => ?_
  have hz := KerOf.none hN.frame hN.len (fun r hr => (hN.shp r hr).1) hN1
  subst hz
  repeat' contradiction
  refine run_seen hN1.len hN1.shp (by omega) (by omega) ?_
  repeat' contradiction
  all_goals first | (exfalso; omega) | skip
  refine run_frame (.inl ⟨_, rfl⟩) hm hS (by omega) (by omega) fun R2 k2 s2 hR2 hk2 => ?_
  obtain ⟨e1, e2⟩ := hR2.uniq hR fun y => Iff.rfl
  subst e1 e2
  repeat' contradiction
  refine run_seen hR2.len hR2.shp (by omega) (by omega) ?_
  refine Eq.mpr okM_slot ⟨_, rfl, _, rfl, _, rfl, _, ne_same, split_F ?_⟩
  repeat' contradiction
  exact ⟨d1, hd1, rfl⟩
end
end DV
-- K2Y2
namespace DV
open PySem PySem.Spec PyProof.Rows L2
open Lin
local macro_rules | `(tactic| contradiction) => `(tactic| first
  | with_reducible refine okM_mod ?_
  | with_reducible refine okM_mul ?_
  | with_reducible refine okM_div ?_
  | with_reducible refine okM_pow ?_
  | with_reducible refine okM_ix ?_
  | with_reducible refine Eq.mpr okM_bin ?_
  | with_reducible refine okS_setW ?_
  | with_reducible refine okS_setIxW ?_
  | with_reducible refine okS_appW ?_
  | with_reducible refine okS_putFW ?_
  | with_reducible refine okS_parW ?_
  | with_reducible refine okM_popAtW ?_
  | with_reducible refine Eq.mpr okM_val ?_
  | with_reducible refine Eq.mpr okM_slot ?_
  | with_reducible refine Eq.mpr okM_C ?_
  | with_reducible refine Eq.mpr okM_cons ?_
  | with_reducible refine Eq.mpr okM_nil ?_
  | with_reducible refine Eq.mpr okM_call ?_
  | with_reducible refine Eq.mpr okM_var ?_
  | with_reducible refine Eq.mpr okM_un ?_
  | with_reducible refine Eq.mpr okM_list ?_
  | with_reducible refine Eq.mpr okM_tup ?_
  | with_reducible refine Eq.mpr okM_sl ?_
  | with_reducible refine Eq.mpr okM_part ?_
  | with_reducible refine Eq.mpr okM_noPart ?_
  | with_reducible refine Eq.mpr okM_cmpT ?_
  | with_reducible refine Eq.mpr okM_cmp ?_
  | with_reducible refine Eq.mpr okM_tru ?_
  | with_reducible refine Eq.mpr okM_not ?_
  | with_reducible refine Eq.mpr okM_and ?_
  | with_reducible refine Eq.mpr okM_or ?_
  | with_reducible refine Eq.mpr okM_if ?_
  | with_reducible refine Eq.mpr okM_andV ?_
  | with_reducible refine Eq.mpr okM_orV ?_
  | with_reducible refine Eq.mpr okM_iter ?_
  | with_reducible refine Eq.mpr okM_rg1 ?_
  | with_reducible refine Eq.mpr okM_rg2 ?_
  | with_reducible refine Eq.mpr okM_zip ?_
  | with_reducible refine Eq.mpr okM_lc ?_
  | with_reducible refine Eq.mpr okM_def ?_
  | with_reducible refine Eq.mpr okM_isi ?_
  | with_reducible refine Eq.mpr okM_ownL ?_
  | with_reducible refine Eq.mpr okM_pure ?_
  | with_reducible refine Eq.mpr okS_seq ?_
  | with_reducible refine Eq.mpr okS_nx ?_
  | with_reducible refine Eq.mpr okS_if ?_
  | with_reducible refine Eq.mpr okS_ret ?_
  | with_reducible refine Eq.mpr okS_retV ?_
  | with_reducible refine Eq.mpr okS_asg ?_
  | with_reducible refine Eq.mpr okS_for ?_
  | with_reducible refine Eq.mpr okS_expr ?_
  | with_reducible refine Eq.mpr okS_bk ?_
  | with_reducible refine Eq.mpr okS_ct ?_
  | with_reducible refine Eq.mpr okS_rtN ?_
  | with_reducible refine Eq.mpr okM_lend ?_
  | with_reducible refine Eq.mpr okM_make ?_
  | with_reducible refine Eq.mpr okM_enumA ?_
  | with_reducible refine Eq.mpr okM_join ?_
  | with_reducible refine setK_i (by simp only [set_un, set_fz, set_ow, set_s, Option.map_some, slOf_f, slOf_t, chg_ow, chg_io, chg_s, List.set_cons_zero, List.set_cons_succ, Int.reduceToNat, List.replicate_succ, List.replicate_zero, Nat.reduceSub, wipeE_cons, wipeE_nil]; first | done | rfl) ?_
  | with_reducible refine chgK_i (by simp only [set_un, set_fz, set_ow, set_s, Option.map_some, slOf_f, slOf_t, chg_ow, chg_io, chg_s, List.set_cons_zero, List.set_cons_succ, Int.reduceToNat, List.replicate_succ, List.replicate_zero, Nat.reduceSub, wipeE_cons, wipeE_nil]; first | done | rfl) ?_
  | with_reducible refine And.intro (GMod.mk (by omega)) ?_
  | with_reducible refine And.intro (GDiv.mk ⟨by omega, by omega⟩) ?_
  | with_reducible refine And.intro (GPow.mk ⟨by omega, by omega, by omega, by omega⟩) ?_
  | with_reducible refine And.intro (GMul.r ⟨by omega, by omega⟩) ?_
  | with_reducible refine And.intro (GMul.l ⟨by omega, by omega⟩) ?_
  | with_reducible refine split_T ?_
  | with_reducible refine split_F ?_
  | with_reducible refine split_dec (fun _ => ?_) (fun _ => ?_)
  | with_reducible refine split_neg ?_
  | with_reducible refine split_ne (fun _ => ?_) (fun _ => ?_)
  | with_reducible refine split_eqb (fun _ => ?_) (fun _ => ?_)
  | with_reducible refine And.intro (smI_of ⟨by omega, by omega⟩) ?_
  | refine ⟨_, ix_row (by first | exact seqR_d | exact seqR_t | assumption) (by omega), ?_⟩
  | refine ⟨_, ix_dM (by omega), ?_⟩
  | refine ⟨_, rfl, _, rfl, _, rfl, ?_⟩
  | refine ⟨_, rfl, _, rfl, ?_⟩
  | refine ⟨_, rfl, ⟨_, rfl⟩, ?_⟩
  | refine ⟨_, rfl, ?_⟩
  | refine ⟨_, _, rfl, ?_⟩
  | refine ⟨rfl, ?_⟩
  | refine And.intro (show List.length _ ≤ LIM by simp only [List.length_cons, List.length_nil, List.length_map, List.length_range, rg_len, LIM_eq]; omega) ?_
  | exact smI_of ⟨by omega, by omega⟩
  | ((with_reducible show wipeE _ _ = _); rfl))
section
theorem okS_cut {m n : MS} {e : DV.Env} {nx Q : DV.Env → Prop} {rt : D → Bool → DV.Env → Prop} {bk ct : DV.Env → Prop} (h1 : OkS m e Q rt bk ct) (h2 : ∀ E, Q E → OkS n E nx rt bk ct) : OkS (sSeq m n) e nx rt bk ct := Eq.mpr okS_seq (h1.mono h2 (fun _ _ _ z => z) (fun _ z => z) fun _ z => z)
theorem null_of {w h : Nat} {A m : List (List Int)} (hA : A.length = h) (hm : m.length = h) (h1 : ∀ y, RowN w h A y ↔ RowN w h m y) : ∀ y, Null w A y ↔ Null w m y := fun y => by
  rw [null_rows, null_rows, hA, hm]; exact h1 y
theorem law_one {rt : D → Bool → DV.Env → Prop} {bk ct : DV.Env → Prop} {s0 : Sl} {d : D} {t : Int} {s3 s4 s5 s6 s7 s8 s9 s10 s11 s12 : Sl} (hd : JOk d) (f3 : Fr s3) (f4 : Fr s4) (f5 : Fr s5) (f6 : Fr s6) (f7 : Fr s7) (f8 : Fr s8) (f9 : Fr s9) (f10 : Fr s10) (f11 : Fr s11) (f12 : Fr s12) :
    OkS lawT1 [s0, .ow d, .fz (.int t), s3, s4, s5, s6, s7, s8, s9, s10, s11, s12] (fun E => ∃ d s3 s4 s5 s6 s7 s8 s9 s10 s11 s12, E = [s0, .ow d, .fz (.int t), s3, s4, s5, s6, s7, s8, s9, s10, s11, s12] ∧ JOk d ∧ Fr s3 ∧ Fr s4 ∧ Fr s5 ∧ Fr s6 ∧ Fr s7 ∧ Fr s8 ∧ Fr s9 ∧ Fr s10 ∧ Fr s11 ∧ Fr s12) rt bk ct := by
  refine okS_cut (ls1 hd f3) ?_
  rintro _ ⟨d, h, hd, hh, rfl⟩
  refine okS_cut (ls2 hd f4) ?_
  rintro _ ⟨d, w, hd, hw, rfl⟩
  refine okS_cut (ls3 hh hw hd f5) ?_
  rintro _ ⟨d, m, hd, hm, hS, rfl⟩
  refine okS_cut (ls4 hh hw hm hS hd f6) ?_
  rintro _ ⟨d, m, s6, hd, hm, hS, f6, rfl⟩
  refine okS_cut (ls5 hh hw hm hS f7) ?_
  rintro _ ⟨r, hr, hrh, rfl⟩
  refine okS_cut (ls6 hh hw hm hS hd f8) ?_
  rintro _ ⟨d, s, hd, rfl⟩
  refine okS_cut (ls7 hh hw hm hS f9) ?_
  rintro _ ⟨R, k, hR, hk, rfl⟩
  refine okS_cut (ls8 hh hw hm hS hr hR hk) ?_
  rintro _ rfl
  refine okS_cut (ls9 hh hw hm hS hd f10) ?_
  rintro _ ⟨d, N, q, hd, hN, hq, rfl⟩
  refine okS_cut (ls10 hh hw hm hS hr hN) ?_
  rintro _ rfl
  refine okS_cut (ls11 hh hw hm hS hq hN) ?_
  rintro _ rfl
  refine okS_cut (ls12 hh hw hm hS hd f11) ?_
  rintro _ ⟨d, L, I, hd, hL, hLS, hU, rfl⟩
  have hM : (mulM w w m L).length = h := by rw [mulM_len]; exact hm
  refine okS_cut (ls13 hh hw hm hS hM mulM_shp hd) ?_
  rintro _ ⟨d, v, G, hd, hv, hG, hGS, rfl⟩
  refine okS_cut (ls14 (v := w + v) hh (by omega) (by omega) asideM_len (asideM_shp hM (by rw [mulM_len]; exact hM) mulM_shp mulM_shp) hR (fun y => ?_) hd) ?_
  · rw [colN_aside hM fun r hr => (mulM_shp r hr).1]
    exact ⟨fun z => colN_back hm hU z.1, fun z => ⟨colN_mul hm z, colN_mul hM (colN_mul hm z)⟩⟩
  rintro _ ⟨d, hd, rfl⟩
  refine okS_cut (ls15 hh hw hm hS hd f12) ?_
  rintro _ ⟨d, L2, I2, hd, hL2, hLS2, hU2, rfl⟩
  have hA : (mulM h w L2 m).length = h := by rw [mulM_len]; exact hL2
  refine okS_cut (ls16 hh hw hm hS hA mulM_shp hN (null_of hA hm fun y => ⟨fun z => rowN_back hm hU2 z, fun z => rowN_mul hL2 z⟩) hd) ?_
  rintro _ ⟨d, hd, rfl⟩
  refine (ls17 hh hw hm hS hq hN hR hd).mono ?_ (fun _ _ _ z => z) (fun _ z => z) fun _ z => z
  rintro _ ⟨d, hd, rfl⟩
  exact ⟨d, _, _, _, _, _, _, _, _, _, _, rfl, hd, trivial, trivial, trivial, f6, trivial, trivial, trivial, trivial, trivial, trivial⟩
noncomputable def lawRest : MS := sSeq (sFor (mRg1 (mCons (mVal (mC (.int 3))) mNil)) (gPut 2) lawT1) (sRet (mC (.bl true)))
theorem run_law {d : D} (hd : JOk d) : OkS lawRest [.un, .ow d, .un, .un, .un, .un, .un, .un, .un, .un, .un, .un, .un] (fun _ => False) (fun d fl _ => d = .bl true ∧ fl = false) (fun _ => False) (fun _ => False) := by
  unfold lawRest
  refine Eq.mpr okS_seq (Eq.mpr okS_for ?_)
  repeat' contradiction
  refine okS_loop (fun _ E => ∃ d s2 s3 s4 s5 s6 s7 s8 s9 s10 s11 s12, E = [.un, .ow d, s2, s3, s4, s5, s6, s7, s8, s9, s10, s11, s12] ∧ JOk d ∧ Fr s2 ∧ Fr s3 ∧ Fr s4 ∧ Fr s5 ∧ Fr s6 ∧ Fr s7 ∧ Fr s8 ∧ Fr s9 ∧ Fr s10 ∧ Fr s11 ∧ Fr s12) ⟨d, _, _, _, _, _, _, _, _, _, _, _, rfl, hd, trivial, trivial, trivial, trivial, trivial, trivial, trivial, trivial, trivial, trivial, trivial⟩ (fun i x E hi hI => ?_) fun E hI => ?_
  · obtain ⟨d, s2, s3, s4, s5, s6, s7, s8, s9, s10, s11, s12, rfl, hd, f2, f3, f4, f5, f6, f7, f8, f9, f10, f11, f12⟩ := hI
    obtain ⟨hi, rfl⟩ := rg0_get hi
    refine ⟨_, (by simp [set_fr f2]; rfl), ?_⟩
    refine (law_one (ct := fun _ => False) hd f3 f4 f5 f6 f7 f8 f9 f10 f11 f12).mono ?_ (fun _ _ _ z => z) (fun _ z => z) fun _ z => z.elim
    rintro _ ⟨d, s3, s4, s5, s6, s7, s8, s9, s10, s11, s12, rfl, hd, f3, f4, f5, f6, f7, f8, f9, f10, f11, f12⟩
    exact ⟨d, _, _, _, _, _, _, _, _, _, _, _, rfl, hd, trivial, f3, f4, f5, f6, f7, f8, f9, f10, f11, f12⟩
  · repeat' contradiction
    trivial
end
end DV
-- K2Z
namespace DV
open PySem PySem.Spec PyProof.Rows L2
def spLaw (K : PySem.W.Frag) : Sp := fun vs H Q _ => ∃ (a : Addr) (ns : List Int), vs = [.ref a] ∧ SqL K H a (ns.map V.int) ∧ ns.length ≤ 63 ∧ ∀ H', Q (.bl true) H'
theorem law_fin {K : PySem.W.Frag} {cls : Nat → Addr} {H : Hp} {a : Addr} {ns : List Int} {D : Ends} {E : XK} (hS : SqL K H a (ns.map V.int)) (q : ∀ H', D.rt (.bl true) H') :
    tSeq (tAsg (tCall (spJar K (TB cls)) [] E (tCons (tVar 0) tNil)) (gName 1)) (tS (TB cls) (fun c => ∃ o, H c = some o) W0 lawRest) D (L2.start N_law [.ref a]) H := by
  refine ⟨_, rfl, a, ns, rfl, hS, fun b d H' hk hb hd oa => ?_⟩
  have nown : ∀ c, ¬ Own (L2.start N_law [V.ref a]) (List.replicate 13 .un) c := fun c ⟨i, s, x, g1, g2, g3⟩ => by
    rw [List.getElem?_replicate] at g1
    split at g1
    · cases g1; cases g2
    · cases g1
  have j0 : J (TB cls) (fun c => ∃ o, H c = some o) (L2.start N_law [V.ref a]) (List.replicate 13 .un) H := by
    refine ⟨rfl, fun i x g => ?_, fun i s x g1 g2 => ?_, fun i k s t x x' c g1 g2 _ _ g3 _ => (nown c ⟨i, s, x, g1, g2, g3⟩).elim, fun c z => (nown c z).elim, fun c z => z⟩
    · rw [List.getElem?_replicate] at g
      split at g <;> cases g
    · rw [List.getElem?_replicate] at g1
      split at g1
      · cases g1; cases g2
      · cases g1
  have hbH : ∃ o, H' b = some o := oa.there
  have j1 : J (TB cls) (Or2 (fun c => ∃ o, H c = some o) (· = b)) (L2.start N_law [V.ref a]) (List.replicate 13 .un) H' := j0.heap hk (fun c z => by
      rcases z with z | z
      · exact .inl z
      · have z : c = b := z
        rw [z]; exact .inr hb) fun c z => by
      rcases z with ⟨o, z⟩ | z
      · exact ⟨o, hk c o z⟩
      · have z : c = b := z
        rw [z]; exact hbH
  have oa2 : OwnAt (TB cls) H' (Or2 (Or2 (fun c => ∃ o, H c = some o) (· = b)) (Own (L2.start N_law [V.ref a]) (List.replicate 13 .un))) b d := oa.mono (fun c o n z => ⟨z, fun y => by
      rcases y with (y | y) | y
      · exact n (.inl y)
      · exact n (.inr y)
      · exact nown c y⟩) rfl
  have j2 := (j1.put_ow (σ1 := L2.start N_law [V.ref a]) (e1 := List.replicate 13 .un) (fun ⟨o, z⟩ => by rw [hb] at z; cases z) (i := 1) (e' := [.un, .ow d, .un, .un, .un, .un, .un, .un, .un, .un, .un, .un, .un]) rfl oa2).1
  refine ⟨_, j2, ?_⟩
  have hr := run_law hd
  unfold OkS at hr
  split at hr
  · exact hr.elim
  · rename_i x fl e' q1
    obtain ⟨rfl, rfl⟩ := hr
    rw [q1]
    intro v σ' H2 t nw rv
    have hv := rv.2
    simp only [Rep] at hv
    subst hv
    exact q H2
  · exact hr.elim
  · exact hr.elim
  · exact hr.elim
section
variable {P : Program} {w : World} {K : PySem.W.Frag} {mg : Str → Option Value} {base : Heap} {cls : Nat → Addr}
theorem ok_lawS (C : Ct K mg cls) {f : Addr} {fd : FuncData} (F : Fun K "law" "law" s_law f fd) : FnOk P w K mg base CX0 6 f fd P_law (spLaw K) := by
  obtain ⟨f__law_aside, fd__law_aside, m__law_aside, F__law_aside, b__law_aside⟩ := C.f__law_aside
  have G__law_aside := ok__law_aside (P := P) (w := w) (base := base) C F__law_aside
  obtain ⟨f__law_draw, fd__law_draw, m__law_draw, F__law_draw, b__law_draw⟩ := C.f__law_draw
  have G__law_draw := ok__law_draw (P := P) (w := w) (base := base) C F__law_draw
  obtain ⟨f__law_grid, fd__law_grid, m__law_grid, F__law_grid, b__law_grid⟩ := C.f__law_grid
  have G__law_grid := ok__law_grid (P := P) (w := w) (base := base) C F__law_grid
  obtain ⟨f__law_hand, fd__law_hand, m__law_hand, F__law_hand, b__law_hand⟩ := C.f__law_hand
  have G__law_hand := ok__law_hand (P := P) (w := w) (base := base) C F__law_hand
  obtain ⟨f__law_is_zero, fd__law_is_zero, m__law_is_zero, F__law_is_zero, b__law_is_zero⟩ := C.f__law_is_zero
  have G__law_is_zero := ok__law_is_zero (P := P) (w := w) (base := base) C F__law_is_zero
  obtain ⟨f__law_jar, fd__law_jar, m__law_jar, F__law_jar, b__law_jar⟩ := C.f__law_jar
  have G__law_jar := ok__law_jarS (P := P) (w := w) (base := base) C F__law_jar
  obtain ⟨f__law_k02_is_frame, fd__law_k02_is_frame, m__law_k02_is_frame, F__law_k02_is_frame, b__law_k02_is_frame⟩ := C.f__law_k02_is_frame
  have G__law_k02_is_frame := ok__law_k02_is_frame (P := P) (w := w) (base := base) C F__law_k02_is_frame
  obtain ⟨f__law_loose, fd__law_loose, m__law_loose, F__law_loose, b__law_loose⟩ := C.f__law_loose
  have G__law_loose := ok__law_loose (P := P) (w := w) (base := base) C F__law_loose
  obtain ⟨f__law_prod, fd__law_prod, m__law_prod, F__law_prod, b__law_prod⟩ := C.f__law_prod
  have G__law_prod := ok__law_prod (P := P) (w := w) (base := base) C F__law_prod
  obtain ⟨f__law_rank, fd__law_rank, m__law_rank, F__law_rank, b__law_rank⟩ := C.f__law_rank
  have G__law_rank := ok__law_rank (P := P) (w := w) (base := base) C F__law_rank
  obtain ⟨f__law_seen, fd__law_seen, m__law_seen, F__law_seen, b__law_seen⟩ := C.f__law_seen
  have G__law_seen := ok__law_seen (P := P) (w := w) (base := base) C F__law_seen
  obtain ⟨f__law_table, fd__law_table, m__law_table, F__law_table, b__law_table⟩ := C.f__law_table
  have G__law_table := ok__law_table (P := P) (w := w) (base := base) C F__law_table
  obtain ⟨f_frame, fd_frame, m_frame, F_frame, b_frame⟩ := C.f_frame
  have G_frame := ok_frame (P := P) (w := w) (base := base) C F_frame
  obtain ⟨f_kernel, fd_kernel, m_kernel, F_kernel, b_kernel⟩ := C.f_kernel
  have G_kernel := ok_kernel (P := P) (w := w) (base := base) C F_kernel
  refine F.ok sc_law (fun vs H Q E ⟨a, ns, h, _⟩ => by rw [h]; rfl) fun cdv A outer s H vs Q E hr ⟨a, ns, hv, hS, hlen, q⟩ => ?_
  subst hv
  have hu := hr.units
  have S := sc_law
  refine ⟨_, pss_cons (ps_set (i := 1) S.nd rfl (Or.inl rfl) (pe_call G__law_jar (hr.mono (by decide)) rfl m__law_jar F__law_jar.kp b__law_jar .nil pass0 (pa_cons (pe_var (i := 0) rfl (by first | exact Or.inl rfl | exact Or.inr (Or.inl rfl))) pa_nil))) (show PSs _ _ (tS (TB cls) (fun c => ∃ o, H c = some o) W0 lawRest) from (dss_cons (ds_for (vs := [2]) PassesOwn.never rfl (di_range1 (by rfl) C.b_range (da_cons (dh_of de_int) da_nil)) (dg_name 2 S.nd) (dss_cons (ds_set 3 (de_def (dd := []) G__law_draw (hr.mono (by decide)) m__law_draw F__law_draw.kp b__law_draw .nil repNil (da_cons (dh_slot 1) (da_cons (dh_of de_int) da_nil))) S.nd)
      (dss_cons (ds_set 4 (de_def (dd := []) G__law_draw (hr.mono (by decide)) m__law_draw F__law_draw.kp b__law_draw .nil repNil (da_cons (dh_slot 1) (da_cons (dh_of de_int) da_nil))) S.nd)
      (dss_cons (ds_set 5 (de_def (dd := []) G__law_grid (hr.mono (by decide)) m__law_grid F__law_grid.kp b__law_grid .nil repNil (da_cons (dh_slot 1) (da_cons (dh_of (de_var 3)) (da_cons (dh_of (de_var 4)) da_nil)))) S.nd)
      (dss_cons (ds_if (dt_cmp (CmOk.eq hu) (dh_of (de_def (dd := []) G__law_draw (hr.mono (by decide)) m__law_draw F__law_draw.kp b__law_draw .nil repNil (da_cons (dh_slot 1) (da_cons (dh_of de_int) da_nil)))) (dh_of de_int)) (dss_cons (ds_set 6 (de_def (dd := []) G__law_draw (hr.mono (by decide)) m__law_draw F__law_draw.kp b__law_draw .nil repNil (da_cons (dh_slot 1) (da_cons (dh_of (de_bin OpOk.add (dh_of (de_callB (CaOk.min2 rfl) C.b_min rfl (da_cons (dh_slot 3) (da_cons (dh_slot 4) da_nil)))) (dh_of de_int))) da_nil))) S.nd)
      (dss_one (ds_set 5 (de_def (dd := []) G__law_prod (hr.mono (by decide)) m__law_prod F__law_prod.kp b__law_prod .nil repNil (da_cons (dh_of (de_def (dd := []) G__law_grid (hr.mono (by decide)) m__law_grid F__law_grid.kp b__law_grid .nil repNil (da_cons (dh_slot 1) (da_cons (dh_of (de_var 3)) (da_cons (dh_of (de_var 6)) da_nil))))) (da_cons (dh_of (de_def (dd := []) G__law_grid (hr.mono (by decide)) m__law_grid F__law_grid.kp b__law_grid .nil repNil (da_cons (dh_slot 1) (da_cons (dh_of (de_var 6)) (da_cons (dh_of (de_var 4)) da_nil))))) da_nil))) S.nd))) dss_nil)
      (dss_cons (ds_set 7 (de_def (dd := []) G__law_rank (hr.mono (by decide)) m__law_rank F__law_rank.kp b__law_rank .nil repNil (da_cons (dh_of (de_var 5)) da_nil)) S.nd)
      (dss_cons (ds_set 8 (de_def (dd := []) G__law_table (hr.mono (by decide)) m__law_table F__law_table.kp b__law_table .nil repNil (da_cons (dh_slot 1) (da_cons (dh_of (de_var 5)) da_nil))) S.nd)
      (dss_cons (ds_set 9 (de_def (dd := []) G__law_seen (hr.mono (by decide)) m__law_seen F__law_seen.kp b__law_seen .nil repNil (da_cons (dh_of (de_def (dd := []) G_frame (hr.mono (by decide)) m_frame F_frame.kp b_frame .nil repNil (da_cons (dh_of (de_var 8)) da_nil))) da_nil)) S.nd)
      (dss_cons (ds_if (dt_w (dw_or (dt_cmp CmOk.is (dh_slot 9) (dh_of de_non)) (dw_or (dt_cmp (CmOk.ne hu) (dh_of (de_ix (dh_slot 9) (dh_of de_int))) (dh_slot 3)) (dw_or (dt_cmp (CmOk.ne hu) (dh_of (de_ix (dh_slot 9) (dh_of de_int))) (dh_slot 7)) (dw_or (dt_not (dt_tru (dh_of (de_def (dd := []) G__law_k02_is_frame (hr.mono (by decide)) m__law_k02_is_frame F__law_k02_is_frame.kp b__law_k02_is_frame .nil repNil (da_cons (dh_of (de_var 9)) da_nil))))) (dw_or1 (dt_cmp (CmOk.ne hu) (dh_of (de_def (dd := []) G__law_rank (hr.mono (by decide)) m__law_rank F__law_rank.kp b__law_rank .nil repNil (da_cons (dh_of (de_def (dd := []) G__law_aside (hr.mono (by decide)) m__law_aside F__law_aside.kp b__law_aside .nil repNil (da_cons (dh_of (de_var 9)) (da_cons (dh_of (de_var 5)) da_nil)))) da_nil))) (dh_slot 7)))))))) (dss_one (ds_ret de_bl)) dss_nil)
      (dss_cons (ds_set 10 (de_def (dd := []) G__law_seen (hr.mono (by decide)) m__law_seen F__law_seen.kp b__law_seen .nil repNil (da_cons (dh_of (de_def (dd := []) G_kernel (hr.mono (by decide)) m_kernel F_kernel.kp b_kernel .nil repNil (da_cons (dh_of (de_def (dd := []) G__law_hand (hr.mono (by decide)) m__law_hand F__law_hand.kp b__law_hand .nil repNil (da_cons (dh_slot 1) (da_cons (dh_of (de_var 5)) da_nil)))) da_nil))) da_nil)) S.nd)
      (dss_cons (ds_if (dt_w (dw_or (dt_cmp CmOk.is (dh_slot 10) (dh_of de_non)) (dw_or (dt_cmp (CmOk.ne hu) (dh_of (de_ix (dh_slot 10) (dh_of de_int))) (dh_slot 4)) (dw_or (dt_cmp (CmOk.ne hu) (dh_of (de_ix (dh_slot 10) (dh_of de_int))) (dh_of (de_bin OpOk.sub (dh_slot 4) (dh_slot 7)))) (dw_or1 (dt_not (dt_tru (dh_of (de_def (dd := []) G__law_k02_is_frame (hr.mono (by decide)) m__law_k02_is_frame F__law_k02_is_frame.kp b__law_k02_is_frame .nil repNil (da_cons (dh_of (de_var 10)) da_nil)))))))))) (dss_one (ds_ret de_bl)) dss_nil)
      (dss_cons (ds_if (dt_not (dt_tru (dh_of (de_def (dd := []) G__law_is_zero (hr.mono (by decide)) m__law_is_zero F__law_is_zero.kp b__law_is_zero .nil repNil (da_cons (dh_of (de_def (dd := []) G__law_prod (hr.mono (by decide)) m__law_prod F__law_prod.kp b__law_prod .nil repNil (da_cons (dh_of (de_var 5)) (da_cons (dh_of (de_var 10)) da_nil)))) da_nil))))) (dss_one (ds_ret de_bl)) dss_nil)
      (dss_cons (ds_set 11 (de_def (dd := []) G__law_prod (hr.mono (by decide)) m__law_prod F__law_prod.kp b__law_prod .nil repNil (da_cons (dh_of (de_var 5)) (da_cons (dh_of (de_def (dd := []) G__law_loose (hr.mono (by decide)) m__law_loose F__law_loose.kp b__law_loose .nil repNil (da_cons (dh_slot 1) (da_cons (dh_of (de_var 4)) da_nil)))) da_nil))) S.nd)
      (dss_cons (ds_set 11 (de_def (dd := []) G__law_aside (hr.mono (by decide)) m__law_aside F__law_aside.kp b__law_aside .nil repNil (da_cons (dh_of (de_var 11)) (da_cons (dh_of (de_def (dd := []) G__law_prod (hr.mono (by decide)) m__law_prod F__law_prod.kp b__law_prod .nil repNil (da_cons (dh_of (de_var 11)) (da_cons (dh_of (de_def (dd := []) G__law_grid (hr.mono (by decide)) m__law_grid F__law_grid.kp b__law_grid .nil repNil (da_cons (dh_slot 1) (da_cons (dh_of (de_var 4)) (da_cons (dh_of (de_def (dd := []) G__law_draw (hr.mono (by decide)) m__law_draw F__law_draw.kp b__law_draw .nil repNil (da_cons (dh_slot 1) (da_cons (dh_of de_int) da_nil)))) da_nil))))) da_nil)))) da_nil))) S.nd)
      (dss_cons (ds_if (dt_w (dw_or (dt_cmp (CmOk.ne hu) (dh_of (de_def (dd := []) G__law_seen (hr.mono (by decide)) m__law_seen F__law_seen.kp b__law_seen .nil repNil (da_cons (dh_of (de_def (dd := []) G_frame (hr.mono (by decide)) m_frame F_frame.kp b_frame .nil repNil (da_cons (dh_of (de_def (dd := []) G__law_hand (hr.mono (by decide)) m__law_hand F__law_hand.kp b__law_hand .nil repNil (da_cons (dh_slot 1) (da_cons (dh_of (de_var 11)) da_nil)))) da_nil))) da_nil))) (dh_slot 9)) (dw_or1 (dt_cmp (CmOk.ne hu) (dh_of (de_def (dd := []) G__law_seen (hr.mono (by decide)) m__law_seen F__law_seen.kp b__law_seen .nil repNil (da_cons (dh_of (de_def (dd := []) G_frame (hr.mono (by decide)) m_frame F_frame.kp b_frame .nil repNil (da_cons (dh_of (de_def (dd := []) G__law_hand (hr.mono (by decide)) m__law_hand F__law_hand.kp b__law_hand .nil repNil (da_cons (dh_slot 1) (da_cons (dh_of (de_var 9)) da_nil)))) da_nil))) da_nil))) (dh_slot 9))))) (dss_one (ds_ret de_bl)) dss_nil)
      (dss_cons (ds_set 12 (de_def (dd := []) G__law_prod (hr.mono (by decide)) m__law_prod F__law_prod.kp b__law_prod .nil repNil (da_cons (dh_of (de_def (dd := []) G__law_loose (hr.mono (by decide)) m__law_loose F__law_loose.kp b__law_loose .nil repNil (da_cons (dh_slot 1) (da_cons (dh_of (de_var 3)) da_nil)))) (da_cons (dh_of (de_var 5)) da_nil))) S.nd)
      (dss_cons (ds_if (dt_w (dw_or (dt_cmp (CmOk.ne hu) (dh_of (de_def (dd := []) G__law_seen (hr.mono (by decide)) m__law_seen F__law_seen.kp b__law_seen .nil repNil (da_cons (dh_of (de_def (dd := []) G_kernel (hr.mono (by decide)) m_kernel F_kernel.kp b_kernel .nil repNil (da_cons (dh_of (de_def (dd := []) G__law_hand (hr.mono (by decide)) m__law_hand F__law_hand.kp b__law_hand .nil repNil (da_cons (dh_slot 1) (da_cons (dh_of (de_var 12)) da_nil)))) da_nil))) da_nil))) (dh_slot 10)) (dw_or1 (dt_cmp (CmOk.ne hu) (dh_of (de_def (dd := []) G__law_seen (hr.mono (by decide)) m__law_seen F__law_seen.kp b__law_seen .nil repNil (da_cons (dh_of (de_var 8)) da_nil))) (dh_slot 5))))) (dss_one (ds_ret de_bl)) dss_nil)
      (dss_one (ds_if (dt_w (dw_or (dt_cmp (CmOk.ne hu) (dh_of (de_ix (dh_of (de_def (dd := []) G__law_seen (hr.mono (by decide)) m__law_seen F__law_seen.kp b__law_seen .nil repNil (da_cons (dh_of (de_def (dd := []) G_kernel (hr.mono (by decide)) m_kernel F_kernel.kp b_kernel .nil repNil (da_cons (dh_of (de_def (dd := []) G__law_hand (hr.mono (by decide)) m__law_hand F__law_hand.kp b__law_hand .nil repNil (da_cons (dh_slot 1) (da_cons (dh_of (de_var 10)) da_nil)))) da_nil))) da_nil))) (dh_of de_int))) (dh_of de_int)) (dw_or1 (dt_cmp (CmOk.ne hu) (dh_of (de_def (dd := []) G__law_seen (hr.mono (by decide)) m__law_seen F__law_seen.kp b__law_seen .nil repNil (da_cons (dh_of (de_def (dd := []) G_frame (hr.mono (by decide)) m_frame F_frame.kp b_frame .nil repNil (da_cons (dh_of (de_var 8)) da_nil))) da_nil))) (dh_slot 9))))) (dss_one (ds_ret de_bl)) dss_nil)))))))))))))))))))
      (dss_one (ds_ret de_bl)))), ?_⟩
  exact law_fin hS q
end
end DV
-- K2HD
namespace DV
open PySem PySem.Spec PyProof.Rows L2
theorem hex_at {K : PySem.W.Frag} (h : hex K = true) (i : Nat) {b : Bool} (e : (hexs K)[i]? = some b) : b = true := List.all_eq_true.mp h b (List.mem_of_getElem? e)
def clsOf (K : PySem.W.Frag) : Nat → Addr := fun c => match c with | 0 => He.ga K "Table" | _ => 0
theorem fun_of {K : PySem.W.Frag} {x q : Str} {st : Stmt} {f : Addr} {fd : FuncData} (F : FunD K x q (defArgs st) (defBody st) (defScope st) [] [] f fd) : Fun K x q st f fd := by
  obtain ⟨oc, od, dV, kV, doc, pm, an, cdv, ct, osl, rfl, l, c, d, k⟩ := F.ex
  have e : dV = .none := by
    rcases d with ⟨_, e⟩ | ⟨n, _⟩
    · exact e
    · exact absurd rfl n
  subst e
  exact ⟨⟨oc, od, kV, doc, pm, an, cdv, ct, osl, rfl, l, c⟩, F.kp⟩
section
variable {w : World} {K : PySem.W.Frag} {h : Heap} {mg : Str → Option Value}
theorem ct_of (X : K.In h) (G : h.Ns mainGlobals mg) (c : He.SaysX hfa hfn [] [] hex w h K) : Ct K mg (clsOf K) := by
  have d := c.t.d
  have tcls : ∀ k, k < 1 → Cls K (clsOf K k) := fun k hk => by
    match k, hk with
    | 0, _ => exact He.cls_ok (d.fact 49 (f := .cls "Table") rfl)
  have tno : ∀ k f, k < 1 → f ∈ flT k → NoAttr K (clsOf K k) (fldT f) := fun k f hk hf => by
    match k, hk with
    | 0, _ =>
      have hf : f ∈ [0, 1, 2, 3] := hf
      simp only [List.mem_cons, List.not_mem_nil, or_false] at hf
      rcases hf with rfl | rfl | rfl | rfl
      · exact He.noat_ok (d.fact 51 (f := .noat "Table" "height") rfl)
      · exact He.noat_ok (d.fact 52 (f := .noat "Table" "width") rfl)
      · exact He.noat_ok (d.fact 53 (f := .noat "Table" "rows") rfl)
      · exact He.noat_ok (d.fact 54 (f := .noat "Table" "text") rfl)
  have tyTable : ∀ m b, tbO m = some b → PySem.W.kitOne K (.type m) (.ref (clsOf K 0)) = some b := fun m b e => by
      simp only [tbO] at e
      split at e
      · cases e
        rename_i hm
        simp only [List.contains_cons, List.contains_nil, Bool.or_false, Bool.or_eq_true, beq_iff_eq] at hm
        rcases hm with rfl | rfl | rfl | rfl | rfl | rfl | rfl
        · exact of_decide_eq_true (hex_at c.more 0 rfl)
        · exact of_decide_eq_true (hex_at c.more 1 rfl)
        · exact of_decide_eq_true (hex_at c.more 2 rfl)
        · exact of_decide_eq_true (hex_at c.more 3 rfl)
        · exact of_decide_eq_true (hex_at c.more 4 rfl)
        · exact of_decide_eq_true (hex_at c.more 5 rfl)
        · exact of_decide_eq_true (hex_at c.more 6 rfl)
      · cases e
  have owTable : ∀ k b, ob_Table k = some b → k < 1 → PySem.W.kitOne K (.ref (clsOf K k)) (.ref (clsOf K 0)) = some b := fun k b e hk => by
      match k, hk with
      | 0, _ => cases e; exact of_decide_eq_true (hex_at c.more 7 rfl)
  have ciTable : ∀ k, k < 1 → ClsI K (clsOf K k) := fun k hk => by
      match k, hk with
      | 0, _ => exact ⟨tcls 0 (by decide), He.eqO_ok (hex_at c.more 8 rfl), He.eqO_ok (hex_at c.more 10 rfl), of_decide_eq_true (hex_at c.more 11 rfl), of_decide_eq_true (hex_at c.more 9 rfl)⟩
  have h_tok : TOk K (TB (clsOf K)) 1 := ⟨tcls, tno, fun k hk => by
    match k, hk with
    | 0, _ => show ((flT 0).map fldT).Nodup; decide +kernel⟩
  have h_f__law_aside : ∃ f fd, mg "_law_aside" = some (.ref f) ∧ Fun K "_law_aside" "_law_aside" s__law_aside f fd ∧ Binds K fd P__law_aside [] := by
    obtain ⟨fd, F0⟩ := d.def_ 0 rfl
    have F := fun_of (st := s__law_aside) F0
    exact ⟨_, fd, He.glo_ok X G (d.fact 0 (f := .glo "_law_aside") rfl), F, F.binds fun _ _ _ _ _ _ us hl => match us, hl with | [_, _], _ => rfl⟩
  have h_f__law_draw : ∃ f fd, mg "_law_draw" = some (.ref f) ∧ Fun K "_law_draw" "_law_draw" s__law_draw f fd ∧ Binds K fd P__law_draw [] := by
    obtain ⟨fd, F0⟩ := d.def_ 1 rfl
    have F := fun_of (st := s__law_draw) F0
    exact ⟨_, fd, He.glo_ok X G (d.fact 1 (f := .glo "_law_draw") rfl), F, F.binds fun _ _ _ _ _ _ us hl => match us, hl with | [_, _], _ => rfl⟩
  have h_f__law_empty : ∃ f fd, mg "_law_empty" = some (.ref f) ∧ Fun K "_law_empty" "_law_empty" s__law_empty f fd ∧ Binds K fd P__law_empty [] := by
    obtain ⟨fd, F0⟩ := d.def_ 2 rfl
    have F := fun_of (st := s__law_empty) F0
    exact ⟨_, fd, He.glo_ok X G (d.fact 2 (f := .glo "_law_empty") rfl), F, F.binds fun _ _ _ _ _ _ us hl => match us, hl with | [_, _], _ => rfl⟩
  have h_f__law_number : ∃ f fd, mg "_law_number" = some (.ref f) ∧ Fun K "_law_number" "_law_number" s__law_number f fd ∧ Binds K fd P__law_number [] := by
    obtain ⟨fd, F0⟩ := d.def_ 3 rfl
    have F := fun_of (st := s__law_number) F0
    exact ⟨_, fd, He.glo_ok X G (d.fact 3 (f := .glo "_law_number") rfl), F, F.binds fun _ _ _ _ _ _ us hl => match us, hl with | [_], _ => rfl⟩
  have h_f__law_prod : ∃ f fd, mg "_law_prod" = some (.ref f) ∧ Fun K "_law_prod" "_law_prod" s__law_prod f fd ∧ Binds K fd P__law_prod [] := by
    obtain ⟨fd, F0⟩ := d.def_ 4 rfl
    have F := fun_of (st := s__law_prod) F0
    exact ⟨_, fd, He.glo_ok X G (d.fact 4 (f := .glo "_law_prod") rfl), F, F.binds fun _ _ _ _ _ _ us hl => match us, hl with | [_, _], _ => rfl⟩
  have h_f__law_grid : ∃ f fd, mg "_law_grid" = some (.ref f) ∧ Fun K "_law_grid" "_law_grid" s__law_grid f fd ∧ Binds K fd P__law_grid [] := by
    obtain ⟨fd, F0⟩ := d.def_ 5 rfl
    have F := fun_of (st := s__law_grid) F0
    exact ⟨_, fd, He.glo_ok X G (d.fact 5 (f := .glo "_law_grid") rfl), F, F.binds fun _ _ _ _ _ _ us hl => match us, hl with | [_, _, _], _ => rfl⟩
  have h_f__law_disguised : ∃ f fd, mg "_law_disguised" = some (.ref f) ∧ Fun K "_law_disguised" "_law_disguised" s__law_disguised f fd ∧ Binds K fd P__law_disguised [] := by
    obtain ⟨fd, F0⟩ := d.def_ 6 rfl
    have F := fun_of (st := s__law_disguised) F0
    exact ⟨_, fd, He.glo_ok X G (d.fact 6 (f := .glo "_law_disguised") rfl), F, F.binds fun _ _ _ _ _ _ us hl => match us, hl with | [_, _], _ => rfl⟩
  have h_f_table_text : ∃ f fd, mg "table_text" = some (.ref f) ∧ Fun K "table_text" "table_text" s_table_text f fd ∧ Binds K fd P_table_text [] := by
    obtain ⟨fd, F0⟩ := d.def_ 7 rfl
    have F := fun_of (st := s_table_text) F0
    exact ⟨_, fd, He.glo_ok X G (d.fact 7 (f := .glo "table_text") rfl), F, F.binds fun _ _ _ _ _ _ us hl => match us, hl with | [_, _], _ => rfl⟩
  have h_f_Table___init__ : ∃ f fd, Mk K (clsOf K 0) f ∧ FunD K "__init__" "Table.__init__" (defArgs s_Table___init__) (defBody s_Table___init__) (defScope s_Table___init__) [.non] [] f fd ∧ (∃ ds, Vals [] ds ∧ Binds K fd P_Table___init__ ds) ∧ (∃ ds, Vals [.non] ds ∧ Binds K fd P_Table___init__ ds) := by
    obtain ⟨fd, F0⟩ := d.def_ 8 rfl
    have F : FunD K "__init__" "Table.__init__" (defArgs s_Table___init__) (defBody s_Table___init__) (defScope s_Table___init__) [.non] [] (He.ma K (He.ga K "Table") "__init__") fd := F0
    exact ⟨_, fd, He.mkr_ok (d.fact 50 (f := .mkr "Table") rfl), F, (F.binds1 4 1 (by simp) rfl fun _ _ _ _ _ _ _ us its h1 h2 => match us, its, h1, h2 with | [_, _, _, _], [_], _, _ => ⟨_, rfl, rfl⟩), (F.binds1 3 0 (by simp) rfl fun _ _ _ _ _ _ _ us its h1 h2 => match us, its, h1, h2 with | [_, _, _], [_], _, _ => ⟨_, rfl, rfl⟩)⟩
  have h_f__law_is_zero : ∃ f fd, mg "_law_is_zero" = some (.ref f) ∧ Fun K "_law_is_zero" "_law_is_zero" s__law_is_zero f fd ∧ Binds K fd P__law_is_zero [] := by
    obtain ⟨fd, F0⟩ := d.def_ 9 rfl
    have F := fun_of (st := s__law_is_zero) F0
    exact ⟨_, fd, He.glo_ok X G (d.fact 8 (f := .glo "_law_is_zero") rfl), F, F.binds fun _ _ _ _ _ _ us hl => match us, hl with | [_], _ => rfl⟩
  have h_f__law_table : ∃ f fd, mg "_law_table" = some (.ref f) ∧ Fun K "_law_table" "_law_table" s__law_table f fd ∧ Binds K fd P__law_table [] := by
    obtain ⟨fd, F0⟩ := d.def_ 10 rfl
    have F := fun_of (st := s__law_table) F0
    exact ⟨_, fd, He.glo_ok X G (d.fact 9 (f := .glo "_law_table") rfl), F, F.binds fun _ _ _ _ _ _ us hl => match us, hl with | [_, _], _ => rfl⟩
  have h_f__law_hand : ∃ f fd, mg "_law_hand" = some (.ref f) ∧ Fun K "_law_hand" "_law_hand" s__law_hand f fd ∧ Binds K fd P__law_hand [] := by
    obtain ⟨fd, F0⟩ := d.def_ 11 rfl
    have F := fun_of (st := s__law_hand) F0
    exact ⟨_, fd, He.glo_ok X G (d.fact 10 (f := .glo "_law_hand") rfl), F, F.binds fun _ _ _ _ _ _ us hl => match us, hl with | [_, _], _ => rfl⟩
  have h_f__law_jar : ∃ f fd, mg "_law_jar" = some (.ref f) ∧ Fun K "_law_jar" "_law_jar" s__law_jar f fd ∧ Binds K fd P__law_jar [] := by
    obtain ⟨fd, F0⟩ := d.def_ 12 rfl
    have F := fun_of (st := s__law_jar) F0
    exact ⟨_, fd, He.glo_ok X G (d.fact 11 (f := .glo "_law_jar") rfl), F, F.binds fun _ _ _ _ _ _ us hl => match us, hl with | [_], _ => rfl⟩
  have h_f__law_k02_is_frame : ∃ f fd, mg "_law_k02_is_frame" = some (.ref f) ∧ Fun K "_law_k02_is_frame" "_law_k02_is_frame" s__law_k02_is_frame f fd ∧ Binds K fd P__law_k02_is_frame [] := by
    obtain ⟨fd, F0⟩ := d.def_ 13 rfl
    have F := fun_of (st := s__law_k02_is_frame) F0
    exact ⟨_, fd, He.glo_ok X G (d.fact 12 (f := .glo "_law_k02_is_frame") rfl), F, F.binds fun _ _ _ _ _ _ us hl => match us, hl with | [_], _ => rfl⟩
  have h_f__law_taken : ∃ f fd, mg "_law_taken" = some (.ref f) ∧ Fun K "_law_taken" "_law_taken" s__law_taken f fd ∧ Binds K fd P__law_taken [] := by
    obtain ⟨fd, F0⟩ := d.def_ 14 rfl
    have F := fun_of (st := s__law_taken) F0
    exact ⟨_, fd, He.glo_ok X G (d.fact 13 (f := .glo "_law_taken") rfl), F, F.binds fun _ _ _ _ _ _ us hl => match us, hl with | [_, _, _], _ => rfl⟩
  have h_f__law_unit : ∃ f fd, mg "_law_unit" = some (.ref f) ∧ Fun K "_law_unit" "_law_unit" s__law_unit f fd ∧ Binds K fd P__law_unit [] := by
    obtain ⟨fd, F0⟩ := d.def_ 15 rfl
    have F := fun_of (st := s__law_unit) F0
    exact ⟨_, fd, He.glo_ok X G (d.fact 14 (f := .glo "_law_unit") rfl), F, F.binds fun _ _ _ _ _ _ us hl => match us, hl with | [_], _ => rfl⟩
  have h_f__law_loose : ∃ f fd, mg "_law_loose" = some (.ref f) ∧ Fun K "_law_loose" "_law_loose" s__law_loose f fd ∧ Binds K fd P__law_loose [] := by
    obtain ⟨fd, F0⟩ := d.def_ 16 rfl
    have F := fun_of (st := s__law_loose) F0
    exact ⟨_, fd, He.glo_ok X G (d.fact 15 (f := .glo "_law_loose") rfl), F, F.binds fun _ _ _ _ _ _ us hl => match us, hl with | [_, _], _ => rfl⟩
  have h_f__law_inverse : ∃ f fd, mg "_law_inverse" = some (.ref f) ∧ Fun K "_law_inverse" "_law_inverse" s__law_inverse f fd ∧ Binds K fd P__law_inverse [] := by
    obtain ⟨fd, F0⟩ := d.def_ 17 rfl
    have F := fun_of (st := s__law_inverse) F0
    exact ⟨_, fd, He.glo_ok X G (d.fact 16 (f := .glo "_law_inverse") rfl), F, F.binds fun _ _ _ _ _ _ us hl => match us, hl with | [_], _ => rfl⟩
  have h_f__law_lowered : ∃ f fd, mg "_law_lowered" = some (.ref f) ∧ Fun K "_law_lowered" "_law_lowered" s__law_lowered f fd ∧ Binds K fd P__law_lowered [] := by
    obtain ⟨fd, F0⟩ := d.def_ 18 rfl
    have F := fun_of (st := s__law_lowered) F0
    exact ⟨_, fd, He.glo_ok X G (d.fact 17 (f := .glo "_law_lowered") rfl), F, F.binds fun _ _ _ _ _ _ us hl => match us, hl with | [_, _], _ => rfl⟩
  have h_f__law_rank : ∃ f fd, mg "_law_rank" = some (.ref f) ∧ Fun K "_law_rank" "_law_rank" s__law_rank f fd ∧ Binds K fd P__law_rank [] := by
    obtain ⟨fd, F0⟩ := d.def_ 19 rfl
    have F := fun_of (st := s__law_rank) F0
    exact ⟨_, fd, He.glo_ok X G (d.fact 18 (f := .glo "_law_rank") rfl), F, F.binds fun _ _ _ _ _ _ us hl => match us, hl with | [_], _ => rfl⟩
  have h_f__law_is_whole : ∃ f fd, mg "_law_is_whole" = some (.ref f) ∧ Fun K "_law_is_whole" "_law_is_whole" s__law_is_whole f fd ∧ Binds K fd P__law_is_whole [] := by
    obtain ⟨fd, F0⟩ := d.def_ 20 rfl
    have F := fun_of (st := s__law_is_whole) F0
    exact ⟨_, fd, He.glo_ok X G (d.fact 19 (f := .glo "_law_is_whole") rfl), F, F.binds fun _ _ _ _ _ _ us hl => match us, hl with | [_], _ => rfl⟩
  have h_f__law_seen : ∃ f fd, mg "_law_seen" = some (.ref f) ∧ Fun K "_law_seen" "_law_seen" s__law_seen f fd ∧ Binds K fd P__law_seen [] := by
    obtain ⟨fd, F0⟩ := d.def_ 21 rfl
    have F := fun_of (st := s__law_seen) F0
    exact ⟨_, fd, He.glo_ok X G (d.fact 20 (f := .glo "_law_seen") rfl), F, F.binds fun _ _ _ _ _ _ us hl => match us, hl with | [_], _ => rfl⟩
  have h_f_columns_of : ∃ f fd, mg "columns_of" = some (.ref f) ∧ Fun K "columns_of" "columns_of" s_columns_of f fd ∧ Binds K fd P_columns_of [] := by
    obtain ⟨fd, F0⟩ := d.def_ 22 rfl
    have F := fun_of (st := s_columns_of) F0
    exact ⟨_, fd, He.glo_ok X G (d.fact 21 (f := .glo "columns_of") rfl), F, F.binds fun _ _ _ _ _ _ us hl => match us, hl with | [_, _], _ => rfl⟩
  have h_f_cleared : ∃ f fd, mg "cleared" = some (.ref f) ∧ Fun K "cleared" "cleared" s_cleared f fd ∧ Binds K fd P_cleared [] := by
    obtain ⟨fd, F0⟩ := d.def_ 23 rfl
    have F := fun_of (st := s_cleared) F0
    exact ⟨_, fd, He.glo_ok X G (d.fact 22 (f := .glo "cleared") rfl), F, F.binds fun _ _ _ _ _ _ us hl => match us, hl with | [_, _, _], _ => rfl⟩
  have h_f_lead_row : ∃ f fd, mg "lead_row" = some (.ref f) ∧ Fun K "lead_row" "lead_row" s_lead_row f fd ∧ Binds K fd P_lead_row [] := by
    obtain ⟨fd, F0⟩ := d.def_ 24 rfl
    have F := fun_of (st := s_lead_row) F0
    exact ⟨_, fd, He.glo_ok X G (d.fact 23 (f := .glo "lead_row") rfl), F, F.binds fun _ _ _ _ _ _ us hl => match us, hl with | [_, _], _ => rfl⟩
  have h_f_inverse : ∃ f fd, mg "inverse" = some (.ref f) ∧ Fun K "inverse" "inverse" s_inverse f fd ∧ Binds K fd P_inverse [] := by
    obtain ⟨fd, F0⟩ := d.def_ 25 rfl
    have F := fun_of (st := s_inverse) F0
    exact ⟨_, fd, He.glo_ok X G (d.fact 24 (f := .glo "inverse") rfl), F, F.binds fun _ _ _ _ _ _ us hl => match us, hl with | [_], _ => rfl⟩
  have h_f_unit_tail : ∃ f fd, mg "unit_tail" = some (.ref f) ∧ Fun K "unit_tail" "unit_tail" s_unit_tail f fd ∧ Binds K fd P_unit_tail [] := by
    obtain ⟨fd, F0⟩ := d.def_ 26 rfl
    have F := fun_of (st := s_unit_tail) F0
    exact ⟨_, fd, He.glo_ok X G (d.fact 25 (f := .glo "unit_tail") rfl), F, F.binds fun _ _ _ _ _ _ us hl => match us, hl with | [_, _], _ => rfl⟩
  have h_f_echelon : ∃ f fd, mg "echelon" = some (.ref f) ∧ Fun K "echelon" "echelon" s_echelon f fd ∧ Binds K fd P_echelon [] := by
    obtain ⟨fd, F0⟩ := d.def_ 27 rfl
    have F := fun_of (st := s_echelon) F0
    exact ⟨_, fd, He.glo_ok X G (d.fact 26 (f := .glo "echelon") rfl), F, F.binds fun _ _ _ _ _ _ us hl => match us, hl with | [_, _], _ => rfl⟩
  have h_f_table_of : ∃ f fd, mg "table_of" = some (.ref f) ∧ Fun K "table_of" "table_of" s_table_of f fd ∧ Binds K fd P_table_of [] := by
    obtain ⟨fd, F0⟩ := d.def_ 28 rfl
    have F := fun_of (st := s_table_of) F0
    exact ⟨_, fd, He.glo_ok X G (d.fact 27 (f := .glo "table_of") rfl), F, F.binds fun _ _ _ _ _ _ us hl => match us, hl with | [_], _ => rfl⟩
  have h_f_table_of_columns : ∃ f fd, mg "table_of_columns" = some (.ref f) ∧ Fun K "table_of_columns" "table_of_columns" s_table_of_columns f fd ∧ Binds K fd P_table_of_columns [] := by
    obtain ⟨fd, F0⟩ := d.def_ 29 rfl
    have F := fun_of (st := s_table_of_columns) F0
    exact ⟨_, fd, He.glo_ok X G (d.fact 28 (f := .glo "table_of_columns") rfl), F, F.binds fun _ _ _ _ _ _ us hl => match us, hl with | [_, _], _ => rfl⟩
  have h_f_frame : ∃ f fd, mg "frame" = some (.ref f) ∧ Fun K "frame" "frame" s_frame f fd ∧ Binds K fd P_frame [] := by
    obtain ⟨fd, F0⟩ := d.def_ 30 rfl
    have F := fun_of (st := s_frame) F0
    exact ⟨_, fd, He.glo_ok X G (d.fact 29 (f := .glo "frame") rfl), F, F.binds fun _ _ _ _ _ _ us hl => match us, hl with | [_], _ => rfl⟩
  have h_f_null_column : ∃ f fd, mg "null_column" = some (.ref f) ∧ Fun K "null_column" "null_column" s_null_column f fd ∧ Binds K fd P_null_column [] := by
    obtain ⟨fd, F0⟩ := d.def_ 31 rfl
    have F := fun_of (st := s_null_column) F0
    exact ⟨_, fd, He.glo_ok X G (d.fact 30 (f := .glo "null_column") rfl), F, F.binds fun _ _ _ _ _ _ us hl => match us, hl with | [_, _, _, _], _ => rfl⟩
  have h_f_null_columns : ∃ f fd, mg "null_columns" = some (.ref f) ∧ Fun K "null_columns" "null_columns" s_null_columns f fd ∧ Binds K fd P_null_columns [] := by
    obtain ⟨fd, F0⟩ := d.def_ 32 rfl
    have F := fun_of (st := s_null_columns) F0
    exact ⟨_, fd, He.glo_ok X G (d.fact 31 (f := .glo "null_columns") rfl), F, F.binds fun _ _ _ _ _ _ us hl => match us, hl with | [_, _], _ => rfl⟩
  have h_f_kernel : ∃ f fd, mg "kernel" = some (.ref f) ∧ Fun K "kernel" "kernel" s_kernel f fd ∧ Binds K fd P_kernel [] := by
    obtain ⟨fd, F0⟩ := d.def_ 33 rfl
    have F := fun_of (st := s_kernel) F0
    exact ⟨_, fd, He.glo_ok X G (d.fact 32 (f := .glo "kernel") rfl), F, F.binds fun _ _ _ _ _ _ us hl => match us, hl with | [_], _ => rfl⟩
  exact {
    b_bool := He.free_ok X G (d.fact 34 (f := .free "bool") rfl)
    b_enumerate := He.free_ok X G (d.fact 35 (f := .free "enumerate") rfl)
    b_int := He.free_ok X G (d.fact 36 (f := .free "int") rfl)
    b_isinstance := He.free_ok X G (d.fact 37 (f := .free "isinstance") rfl)
    b_len := He.free_ok X G (d.fact 38 (f := .free "len") rfl)
    b_list := He.free_ok X G (d.fact 39 (f := .free "list") rfl)
    b_max := He.free_ok X G (d.fact 40 (f := .free "max") rfl)
    b_min := He.free_ok X G (d.fact 41 (f := .free "min") rfl)
    b_range := He.free_ok X G (d.fact 42 (f := .free "range") rfl)
    b_str := He.free_ok X G (d.fact 43 (f := .free "str") rfl)
    b_tuple := He.free_ok X G (d.fact 44 (f := .free "tuple") rfl)
    b_zip := He.free_ok X G (d.fact 45 (f := .free "zip") rfl)
    c_PRIME_modular := (let ⟨t, e⟩ := He.int_ok X G (d.fact 46 (f := .int "PRIME_modular" (1000003)) rfl); ⟨_, e, t, rfl⟩)
    c_PRIME_tables := (let ⟨t, e⟩ := He.int_ok X G (d.fact 47 (f := .int "PRIME_tables" (1000003)) rfl); ⟨_, e, t, rfl⟩)
    tok := h_tok
    k_Table := He.glo_ok X G (d.fact 48 (f := .glo "Table") rfl)
    isi_Table := ⟨tyTable, owTable, ciTable⟩
    f__law_aside := h_f__law_aside
    f__law_draw := h_f__law_draw
    f__law_empty := h_f__law_empty
    f__law_number := h_f__law_number
    f__law_prod := h_f__law_prod
    f__law_grid := h_f__law_grid
    f__law_disguised := h_f__law_disguised
    f_table_text := h_f_table_text
    f_Table___init__ := h_f_Table___init__
    f__law_is_zero := h_f__law_is_zero
    f__law_table := h_f__law_table
    f__law_hand := h_f__law_hand
    f__law_jar := h_f__law_jar
    f__law_k02_is_frame := h_f__law_k02_is_frame
    f__law_taken := h_f__law_taken
    f__law_unit := h_f__law_unit
    f__law_loose := h_f__law_loose
    f__law_inverse := h_f__law_inverse
    f__law_lowered := h_f__law_lowered
    f__law_rank := h_f__law_rank
    f__law_is_whole := h_f__law_is_whole
    f__law_seen := h_f__law_seen
    f_columns_of := h_f_columns_of
    f_cleared := h_f_cleared
    f_lead_row := h_f_lead_row
    f_inverse := h_f_inverse
    f_unit_tail := h_f_unit_tail
    f_echelon := h_f_echelon
    f_table_of := h_f_table_of
    f_table_of_columns := h_f_table_of_columns
    f_frame := h_f_frame
    f_null_column := h_f_null_column
    f_null_columns := h_f_null_columns
    f_kernel := h_f_kernel }
theorem facts {P : Program} {f : Addr} (X : K.In h) (G : h.Ns mainGlobals mg) (hfa' : mg ("law" : Str) = some (.ref f)) (c : He.SaysX hfa hfn [] [] hex w h K) :
    ∃ fd : FuncData, (∀ (s : Shared) (v : Value), BindsTo s fd ⟨[v], []⟩ [("script", v)]) ∧ ∀ base : Heap, K.In base → base.Ns mainGlobals mg → FnOk P w K mg base CX0 6 f fd ["script"] (spLaw K) := by
  have d := c.t.d
  have C := ct_of X G c
  obtain ⟨fd, F⟩ := d.def_ 34 rfl
  have e := hfa'.symm.trans (He.glo_ok X G (d.fact 33 (f := .glo "law") rfl))
  cases e
  have b := FunD.bindsA (ps := ["script"]) F fun _ _ _ _ _ _ us hl => match us, hl with | [_], _ => rfl
  exact ⟨fd, fun s v => b s [v] rfl, fun base _ _ => ok_lawS C (fun_of (st := s_law) F)⟩
end
end DV
open PySem PySem.W PySem.Calls PyProof.Rows
theorem PySem.Challenge.cw_partsofparts_k02_frames_of_rooms_holds : PySem.Challenge.rw_partsofparts_k02_frames_of_rooms.Holds := by
  w_on; o_law
  refine HandSHeadRun.head_any (r := OpenLaw.row PySem.Challenge.rw_partsofparts_k02_frames_of_rooms) (q := view (OpenLaw.row PySem.Challenge.rw_partsofparts_k02_frames_of_rooms).prog [57]) (H := DV.hk) (ob := DV.ob) (M := 4000) (loose := DV.loose) (d := HandSHeadRun.topDef (OpenLaw.row PySem.Challenge.rw_partsofparts_k02_frames_of_rooms).prog 57) (kwd := []) DV.ob_eq
    (by kernel_rfl) (fun s => by kernel_rfl) DV.run (by kernel_rfl) (by kernel_rfl) (by kernel_rfl) (by rfl) (by first | assumption | decide +kernel) (by decide +kernel) ⟨rfl, rfl, rfl, rfl, rfl, by decide +kernel⟩ ?hw ?hc
  case hw => w_witness2
  case hc =>
    refine L2.walk_ofE (l := PySem.Challenge.rw_partsofparts_k02_frames_of_rooms) (n := 63) (k := 6) (x := "script") (CX := L2.CX0) rfl (by decide) (by kernel_rfl) ⟨rfl, by decide, by decide⟩ ?F (fun _ _ _ _ z => z)
    intro w mg fa h Y G hmg0
    obtain ⟨K, KX, c⟩ := Y
    have hmg : mg ("law" : PySem.Str) = some (.ref fa) := by
      have e : (HandSHeadRun.topDef (OpenLaw.row PySem.Challenge.rw_partsofparts_k02_frames_of_rooms).prog 57).name = ("law" : PySem.Str) := by kernel_rfl
      rw [← e]
      exact hmg0
    obtain ⟨fd, hb, hF⟩ := DV.facts (P := (PySem.Challenge.rw_partsofparts_k02_frames_of_rooms).prog) (w := w) KX G hmg c
    exact ⟨K, fd, DV.spLaw K, KX, hb, fun H a ns hl _ hS => ⟨a, ns, rfl, hS, hl, fun _ => rfl⟩, hF⟩
