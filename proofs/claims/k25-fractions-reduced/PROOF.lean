import PyProof.Rows.All
import Wide.All
import OpenK.AllK
import Wide.FinOn
import HandS.ForMost
import HandS.Wide
import HandS.IsInst
import HandS.Deep
import HandS.Walk
import PySem.Challenge.RW_grooveway_k25_fractions_reduced
set_option Elab.async false
set_option linter.all false
set_option maxRecDepth 100000
set_option maxHeartbeats 1000000
/-! Pure values, and how the abstract heap bears them. -/
namespace Pv
open PySem L2

/-- a pure value -/
inductive D where
  | non | bl (b : Bool) | int (i : Int) | str (s : Str)
  | tup (xs : List D) | lst (xs : List D) | dic (kvs : List (D × D))
  | obj (c : Nat) (fs : List (Str × D))

def D.box : D → Bool
  | .lst _ => true
  | .dic _ => true
  | _ => false

/-- who may hold a value: nobody may change it | it is shared | shared, its items so | owned, its items so -/
inductive T where
  | im | sh | s (t : T) | ow (t : T)
  deriving DecidableEq

def kD : Key → D
  | .inl i => .int i
  | .inr x => .str x

theorem rd_same {H H' : Hp} {a : Addr} {u : HO} (e : Same H H') (h : Rd H a u) : Rd H' a u := by
  rcases h with h | ⟨o, h⟩
  · exact .inl (e _ _ h)
  · exact .inr ⟨o, e _ _ h⟩
theorem sqT_same {K : PySem.W.Frag} {H H' : Hp} {a : Addr} {xs : List V} (e : Same H H') (h : SqT K H a xs) : SqT K H' a xs := by
  rcases h with h | h
  · exact .inl (rd_same e h)
  · exact .inr h

/-- an object that holds others and may change -/
def Box : Option HO → Prop
  | some (.lst _) => True
  | some (.dK _) => True
  | some (.dT _) => True
  | _ => False
/-- all but the boxes at F stay -/
def Chg (F : List Addr) (H H' : Hp) : Prop := (∀ b u, b ∉ F → H b = some u → H' b = some u) ∧ ∀ b ∈ F, Box (H b)
theorem Chg.same {H H' : Hp} {F : List Addr} (e : Same H H') (h : ∀ b ∈ F, Box (H b)) : Chg F H H' := ⟨fun b u _ q => e b u q, h⟩
theorem Chg.rdT {F : List Addr} {H H' : Hp} (c : Chg F H H') {a : Addr} {xs : List V} (h : Rd H a (.tup xs)) : Rd H' a (.tup xs) := by
  have na : ∀ o, H a = some o → (∀ xs, o ≠ .lst xs) → (∀ xs, o ≠ .dK xs) → (∀ xs, o ≠ .dT xs) → a ∉ F := fun o e h1 h2 h3 hm => by
    have := c.2 a hm
    rw [e] at this
    cases o <;> first | exact this | exact h1 _ rfl | exact h2 _ rfl | exact h3 _ rfl
  rcases h with h | ⟨o, h⟩
  · exact .inl (c.1 a _ (na _ h (fun _ z => by cases z) (fun _ z => by cases z) fun _ z => by cases z) h)
  · exact .inr ⟨o, c.1 a _ (na _ h (fun _ z => by cases z) (fun _ z => by cases z) fun _ z => by cases z) h⟩
theorem Chg.sqT {K : PySem.W.Frag} {F : List Addr} {H H' : Hp} (c : Chg F H H') {a : Addr} {xs : List V} (h : SqT K H a xs) : SqT K H' a xs := by
  rcases h with h | h
  · exact .inl (c.rdT h)
  · exact .inr h
theorem Chg.rdN {F : List Addr} {H H' : Hp} (c : Chg F H H') {a : Addr} {u : HO} (n : a ∉ F) (h : Rd H a u) : Rd H' a u := by
  rcases h with h | ⟨o, h⟩
  · exact .inl (c.1 a _ n h)
  · exact .inr ⟨o, c.1 a _ n h⟩
theorem Chg.ins {F : List Addr} {H H' : Hp} (c : Chg F H H') {a C dx : Addr} {fs : List (Str × V)} (h : H a = some (.ins C dx fs)) : H' a = some (.ins C dx fs) :=
  c.1 a _ (fun hm => by have := c.2 a hm; rw [h] at this; exact this) h

section
variable (K : PySem.W.Frag) (cls : Nat → Addr)
mutual
/-- v bears d; its boxes lie at addresses of which N holds -/
inductive Rep (N : Addr → Prop) (H : Hp) : V → D → Prop
  | non : Rep N H .non .non
  | bl (b : Bool) : Rep N H (.bl b) (.bl b)
  | int (i : Int) : Rep N H (.int i) (.int i)
  | str (x : Str) : Rep N H (.str x) (.str x)
  | tup {a : Addr} {vs : List V} {ds : List D} : SqT K H a vs → Reps N H vs ds → Rep N H (.ref a) (.tup ds)
  | lst {a : Addr} {vs : List V} {ds : List D} : N a → Rd H a (.lst vs) → Reps N H vs ds → Rep N H (.ref a) (.lst ds)
  | dK {a : Addr} {kvs : List (Key × V)} {ds : List D} : N a → Rd H a (.dK kvs) → Reps N H (kvs.map (·.2)) ds → Rep N H (.ref a) (.dic ((kvs.map fun kv => kD kv.1).zip ds))
  | dT {a : Addr} {kvs : List (List Key × V)} {ds : List D} : N a → Rd H a (.dT kvs) → Reps N H (kvs.map (·.2)) ds → Rep N H (.ref a) (.dic ((kvs.map fun kv => D.tup (kv.1.map kD)).zip ds))
  | obj {a dx : Addr} {c : Nat} {fs : List (Str × V)} {ds : List D} : H a = some (.ins (cls c) dx fs) → Reps N H (fs.map (·.2)) ds → Rep N H (.ref a) (.obj c ((fs.map (·.1)).zip ds))
inductive Reps (N : Addr → Prop) (H : Hp) : List V → List D → Prop
  | nil : Reps N H [] []
  | cons {v : V} {vs : List V} {d : D} {ds : List D} : Rep N H v d → Reps N H vs ds → Reps N H (v :: vs) (d :: ds)
end
end
section
variable {K : PySem.W.Frag} {cls : Nat → Addr} {N N' : Addr → Prop} {H H' : Hp}
mutual
theorem Rep.chg {F : List Addr} (c : Chg F H H') (nF : ∀ a, N a → a ∉ F) (n : ∀ a, N a → N' a) : ∀ {v : V} {d : D}, Rep K cls N H v d → Rep K cls N' H' v d
  | _, _, .non => .non
  | _, _, .bl b => .bl b
  | _, _, .int i => .int i
  | _, _, .str x => .str x
  | _, _, .tup h r => .tup (c.sqT h) (Reps.chg c nF n r)
  | _, _, .lst a h r => .lst (n _ a) (c.rdN (nF _ a) h) (Reps.chg c nF n r)
  | _, _, .dK a h r => .dK (n _ a) (c.rdN (nF _ a) h) (Reps.chg c nF n r)
  | _, _, .dT a h r => .dT (n _ a) (c.rdN (nF _ a) h) (Reps.chg c nF n r)
  | _, _, .obj h r => .obj (c.ins h) (Reps.chg c nF n r)
theorem Reps.chg {F : List Addr} (c : Chg F H H') (nF : ∀ a, N a → a ∉ F) (n : ∀ a, N a → N' a) : ∀ {vs : List V} {ds : List D}, Reps K cls N H vs ds → Reps K cls N' H' vs ds
  | _, _, .nil => .nil
  | _, _, .cons h r => .cons (Rep.chg c nF n h) (Reps.chg c nF n r)
end
theorem Rep.mono (e : Same H H') (n : ∀ a, N a → N' a) {v : V} {d : D} (h : Rep K cls N H v d) : Rep K cls N' H' v d :=
  Rep.chg (F := []) (Chg.same e fun _ z => absurd z (by simp)) (fun _ _ => by simp) n h
theorem Reps.mono (e : Same H H') (n : ∀ a, N a → N' a) {v : List V} {d : List D} (h : Reps K cls N H v d) : Reps K cls N' H' v d :=
  Reps.chg (F := []) (Chg.same e fun _ z => absurd z (by simp)) (fun _ _ => by simp) n h
theorem Rep.wk (n : ∀ a, N a → N' a) {v : V} {d : D} (h : Rep K cls N H v d) : Rep K cls N' H v d := h.mono (Same.refl H) n
theorem rd_some {a : Addr} {u : HO} (h : Rd H a u) : H a ≠ none := by
  rcases h with h | ⟨o, h⟩ <;> (rw [h]; simp)
mutual
theorem Rep.dom : ∀ {v : V} {d : D}, Rep K cls N H v d → Rep K cls (fun a => N a ∧ H a ≠ none) H v d
  | _, _, .non => .non
  | _, _, .bl b => .bl b
  | _, _, .int i => .int i
  | _, _, .str x => .str x
  | _, _, .tup h r => .tup h (Reps.dom r)
  | _, _, .lst a h r => .lst ⟨a, rd_some h⟩ h (Reps.dom r)
  | _, _, .dK a h r => .dK ⟨a, rd_some h⟩ h (Reps.dom r)
  | _, _, .dT a h r => .dT ⟨a, rd_some h⟩ h (Reps.dom r)
  | _, _, .obj h r => .obj h (Reps.dom r)
theorem Reps.dom : ∀ {vs : List V} {ds : List D}, Reps K cls N H vs ds → Reps K cls (fun a => N a ∧ H a ≠ none) H vs ds
  | _, _, .nil => .nil
  | _, _, .cons h r => .cons (Rep.dom h) (Reps.dom r)
end
theorem Reps.length : ∀ {vs : List V} {ds : List D}, Reps K cls N H vs ds → vs.length = ds.length
  | _, _, .nil => rfl
  | _, _, .cons _ r => by simp [Reps.length r]
theorem Reps.get : ∀ {vs : List V} {ds : List D} {i : Nat} {d : D}, Reps K cls N H vs ds → ds[i]? = some d → ∃ v, vs[i]? = some v ∧ Rep K cls N H v d
  | _, _, _, _, .nil, e => by simp at e
  | _, _, 0, _, .cons h _, e => by simp at e; subst e; exact ⟨_, rfl, h⟩
  | _, _, i + 1, _, .cons _ r, e => by
    obtain ⟨v, h1, h2⟩ := Reps.get (i := i) r (by simpa using e)
    exact ⟨v, by simpa using h1, h2⟩
end
abbrev N0 : Addr → Prop := fun _ => False

theorem pimp {α β : Type} {F G : α → β → Prop} : ∀ {l₁ : List α} {l₂ : List β}, Paired F l₁ l₂ → (∀ a b, F a b → G a b) → Paired G l₁ l₂
  | _, _, .nil, _ => .nil
  | _, _, .cons r t, f => .cons (f _ _ r) (pimp t f)
section
variable (K : PySem.W.Frag) (cls : Nat → Addr)
/-- a thing whose items are borne by P -/
inductive BS (N : Addr → Prop) (H : Hp) (P : V → D → Prop) : V → D → Prop
  | im {v : V} {d : D} : Rep K cls N0 H v d → BS N H P v d
  | tup {a : Addr} {vs : List V} {ds : List D} : SqT K H a vs → Paired P vs ds → BS N H P (.ref a) (.tup ds)
  | lst {a : Addr} {vs : List V} {ds : List D} : N a → Rd H a (.lst vs) → Paired P vs ds → BS N H P (.ref a) (.lst ds)
  | dK {a : Addr} {kvs : List (Key × V)} {ds : List D} : N a → Rd H a (.dK kvs) → Paired P (kvs.map (·.2)) ds → BS N H P (.ref a) (.dic ((kvs.map fun kv => kD kv.1).zip ds))
  | dT {a : Addr} {kvs : List (List Key × V)} {ds : List D} : N a → Rd H a (.dT kvs) → Paired P (kvs.map (·.2)) ds → BS N H P (.ref a) (.dic ((kvs.map fun kv => D.tup (kv.1.map kD)).zip ds))
/-- v bears d as a borrowed thing of kind t -/
def RepB (N : Addr → Prop) (H : Hp) : T → V → D → Prop
  | .im => Rep K cls N0 H
  | .sh => Rep K cls N H
  | .s t => BS K cls N H (RepB N H t)
  | .ow t => BS K cls N H (RepB N H t)
end
section
variable {K : PySem.W.Frag} {cls : Nat → Addr} {N N' : Addr → Prop} {H H' : Hp}
theorem BS.chg {F : List Addr} {P P' : V → D → Prop} (c : Chg F H H') (nF : ∀ a, N a → a ∉ F) (n : ∀ a, N a → N' a) (hp : ∀ v d, P v d → P' v d) {v : V} {d : D} (h : BS K cls N H P v d) : BS K cls N' H' P' v d := by
  cases h with
  | im h => exact .im (Rep.chg c (fun _ z => z.elim) (fun _ z => z) h)
  | tup h r => exact .tup (c.sqT h) (pimp r hp)
  | lst na h r => exact .lst (n _ na) (c.rdN (nF _ na) h) (pimp r hp)
  | dK na h r => exact .dK (n _ na) (c.rdN (nF _ na) h) (pimp r hp)
  | dT na h r => exact .dT (n _ na) (c.rdN (nF _ na) h) (pimp r hp)
theorem RepB.chg {F : List Addr} (c : Chg F H H') (nF : ∀ a, N a → a ∉ F) (n : ∀ a, N a → N' a) : ∀ {t : T} {v : V} {d : D}, RepB K cls N H t v d → RepB K cls N' H' t v d
  | .im, _, _, h => Rep.chg c (fun _ z => z.elim) (fun _ z => z) h
  | .sh, _, _, h => Rep.chg c nF n h
  | .s t, _, _, h => BS.chg c nF n (fun _ _ z => RepB.chg (t := t) c nF n z) h
  | .ow t, _, _, h => BS.chg c nF n (fun _ _ z => RepB.chg (t := t) c nF n z) h
theorem RepB.mono (e : Same H H') (n : ∀ a, N a → N' a) {t : T} {v : V} {d : D} (h : RepB K cls N H t v d) : RepB K cls N' H' t v d :=
  RepB.chg (F := []) (Chg.same e fun _ z => absurd z (by simp)) (fun _ _ => by simp) n h
theorem BS.mono {P P' : V → D → Prop} (e : Same H H') (n : ∀ a, N a → N' a) (hp : ∀ v d, P v d → P' v d) {v : V} {d : D} (h : BS K cls N H P v d) : BS K cls N' H' P' v d :=
  BS.chg (F := []) (Chg.same e fun _ z => absurd z (by simp)) (fun _ _ => by simp) n hp h
theorem RepB.of_im : ∀ {t : T} {v : V} {d : D}, Rep K cls N0 H v d → RepB K cls N H t v d
  | .im, _, _, h => h
  | .sh, _, _, h => h.wk fun _ z => z.elim
  | .s _, _, _, h => .im h
  | .ow _, _, _, h => .im h
theorem Reps.paired : ∀ {vs : List V} {ds : List D}, Reps K cls N H vs ds → Paired (Rep K cls N H) vs ds
  | _, _, .nil => .nil
  | _, _, .cons h r => .cons h (Reps.paired r)
theorem Reps.of : ∀ {vs : List V} {ds : List D}, Paired (Rep K cls N H) vs ds → Reps K cls N H vs ds
  | _, _, .nil => .nil
  | _, _, .cons h r => .cons h (Reps.of r)
theorem BS.rep {P : V → D → Prop} (hp : ∀ v d, P v d → Rep K cls N H v d) {v : V} {d : D} (h : BS K cls N H P v d) : Rep K cls N H v d := by
  cases h with
  | im h => exact h.wk fun _ z => z.elim
  | tup h r => exact .tup h (.of (pimp r hp))
  | lst na h r => exact .lst na h (.of (pimp r hp))
  | dK na h r => exact .dK na h (.of (pimp r hp))
  | dT na h r => exact .dT na h (.of (pimp r hp))
theorem RepB.rep : ∀ {t : T} {v : V} {d : D}, RepB K cls N H t v d → Rep K cls N H v d
  | .im, _, _, h => Rep.wk (N := N0) (fun _ z => z.elim) h
  | .sh, _, _, h => h
  | .s t, _, _, h => BS.rep (fun _ _ z => RepB.rep (t := t) z) h
  | .ow t, _, _, h => BS.rep (fun _ _ z => RepB.rep (t := t) z) h
end

/-! ### kinds -/
def T.bor : T → T
  | .im => .im
  | .sh => .sh
  | .s t => .s t.bor
  | .ow t => .s t.bor
def T.el : T → T
  | .im => .im
  | .sh => .sh
  | .s t => t
  | .ow t => t
/-- nothing owned in it -/
def T.flat : T → Bool
  | .im => true
  | .sh => true
  | .s t => t.flat
  | .ow _ => false
/-- as good as -/
def T.le : T → T → Bool
  | .im, .s b => b.flat
  | .im, _ => true
  | .sh, .sh => true
  | .s _, .sh => true
  | .s a, .s b => b.flat && T.le a b
  | .ow a, .ow b => T.le a b
  | _, _ => false
def T.join : T → T → T
  | .im, t => t
  | t, .im => t
  | .s a, .s b => .s (T.join a b)
  | .ow a, .ow b => .ow (T.join a b)
  | _, _ => .sh
theorem bor_flat : ∀ t : T, t.flat = true → t.bor = t
  | .im, _ => rfl
  | .sh, _ => rfl
  | .s t, h => by
    have e := bor_flat t h
    show T.s t.bor = T.s t
    rw [e]
  | .ow _, h => by cases h
theorem flat_bor : ∀ t : T, t.bor.flat = true
  | .im => rfl
  | .sh => rfl
  | .s t => flat_bor t
  | .ow t => flat_bor t
theorem le_bor : ∀ a b : T, T.le a b = true → T.le a.bor b.bor = true
  | .im, b, _ => by cases b <;> first | rfl | exact flat_bor _
  | .sh, .sh, _ => rfl
  | .s t, .sh, _ => rfl
  | .s a, .s b, h => by
    have h' := (Bool.and_eq_true_iff.mp h).2
    show (b.bor.flat && T.le a.bor b.bor) = true
    rw [flat_bor, le_bor a b h']
    rfl
  | .ow a, .ow b, h => by
    show (b.bor.flat && T.le a.bor b.bor) = true
    rw [flat_bor, le_bor a b h]
    rfl
section
variable {K : PySem.W.Frag} {cls : Nat → Addr} {N N' : Addr → Prop} {H H' : Hp}
theorem RepB.le : ∀ {t u : T} {v : V} {d : D}, T.le t u = true → RepB K cls N H t v d → RepB K cls N H u v d
  | .im, _, _, _, _, h => RepB.of_im h
  | .sh, .sh, _, _, _, h => h
  | .s t, .sh, _, _, _, h => RepB.rep (t := .s t) h
  | .s a, .s b, _, _, e, h => BS.mono (Same.refl H) (fun _ z => z) (fun _ _ z => RepB.le (t := a) (u := b) (Bool.and_eq_true_iff.mp e).2 z) h
  | .ow a, .ow b, _, _, e, h => BS.mono (Same.refl H) (fun _ z => z) (fun _ _ z => RepB.le (t := a) (u := b) e z) h
theorem RepB.bor : ∀ {t : T} {v : V} {d : D}, RepB K cls N H t v d → RepB K cls N H t.bor v d
  | .im, _, _, h => h
  | .sh, _, _, h => h
  | .s t, _, _, h => BS.mono (Same.refl H) (fun _ z => z) (fun _ _ z => RepB.bor (t := t) z) h
  | .ow t, _, _, h => BS.mono (Same.refl H) (fun _ z => z) (fun _ _ z => RepB.bor (t := t) z) h
end
end Pv

set_option maxRecDepth 100000
set_option maxHeartbeats 1000000
namespace Pv
open PySem L2
section
variable (K : PySem.W.Frag) (cls : Nat → Addr)
mutual
/-- v bears d as a thing of kind t; F: what is owned in it -/
inductive ReT (N : Addr → Prop) (H : Hp) : T → V → D → List Addr → Prop
  | bo {t : T} {v : V} {d : D} : t.flat = true → RepB K cls N H t v d → ReT N H t v d []
  | owx {t : T} {v : V} {d : D} : Rep K cls N0 H v d → ReT N H (.ow t) v d []
  | owl {t : T} {p : Addr} {vs : List V} {ds : List D} {F : List Addr} : H p = some (.lst vs) → ReTs N H t vs ds F → ReT N H (.ow t) (.ref p) (.lst ds) (p :: F)
  | owK {t : T} {p : Addr} {kvs : List (Key × V)} {ds : List D} {F : List Addr} : H p = some (.dK kvs) → ReTs N H t (kvs.map (·.2)) ds F → ReT N H (.ow t) (.ref p) (.dic ((kvs.map fun kv => kD kv.1).zip ds)) (p :: F)
  | owT {t : T} {p : Addr} {kvs : List (List Key × V)} {ds : List D} {F : List Addr} : H p = some (.dT kvs) → ReTs N H t (kvs.map (·.2)) ds F → ReT N H (.ow t) (.ref p) (.dic ((kvs.map fun kv => D.tup (kv.1.map kD)).zip ds)) (p :: F)
inductive ReTs (N : Addr → Prop) (H : Hp) : T → List V → List D → List Addr → Prop
  | nil {t : T} : ReTs N H t [] [] []
  | cons {t : T} {v : V} {vs : List V} {d : D} {ds : List D} {F G : List Addr} : ReT N H t v d F → ReTs N H t vs ds G → ReTs N H t (v :: vs) (d :: ds) (F ++ G)
end
end
section
variable {K : PySem.W.Frag} {cls : Nat → Addr} {N N' : Addr → Prop} {H H' : Hp}
mutual
theorem ReT.chg {F' : List Addr} (c : Chg F' H H') (nF : ∀ a, N a → a ∉ F') (n : ∀ a, N a → N' a) : ∀ {t : T} {v : V} {d : D} {F : List Addr}, (∀ a ∈ F, a ∉ F') → ReT K cls N H t v d F → ReT K cls N' H' t v d F
  | _, _, _, _, _, .bo f h => .bo f (h.chg c nF n)
  | _, _, _, _, _, .owx h => .owx (Rep.chg c (fun _ z => z.elim) (fun _ z => z) h)
  | _, _, _, _, hF, .owl e r => .owl (c.1 _ _ (hF _ (by simp)) e) (ReTs.chg c nF n (fun a z => hF a (by simp [z])) r)
  | _, _, _, _, hF, .owK e r => .owK (c.1 _ _ (hF _ (by simp)) e) (ReTs.chg c nF n (fun a z => hF a (by simp [z])) r)
  | _, _, _, _, hF, .owT e r => .owT (c.1 _ _ (hF _ (by simp)) e) (ReTs.chg c nF n (fun a z => hF a (by simp [z])) r)
theorem ReTs.chg {F' : List Addr} (c : Chg F' H H') (nF : ∀ a, N a → a ∉ F') (n : ∀ a, N a → N' a) : ∀ {t : T} {v : List V} {d : List D} {F : List Addr}, (∀ a ∈ F, a ∉ F') → ReTs K cls N H t v d F → ReTs K cls N' H' t v d F
  | _, _, _, _, _, .nil => .nil
  | _, _, _, _, hF, .cons e r => .cons (ReT.chg c nF n (fun a z => hF a (by simp [z])) e) (ReTs.chg c nF n (fun a z => hF a (by simp [z])) r)
end
theorem ReT.mono (e : Same H H') (n : ∀ a, N a → N' a) {t : T} {v : V} {d : D} {F : List Addr} (h : ReT K cls N H t v d F) : ReT K cls N' H' t v d F :=
  ReT.chg (F' := []) (Chg.same e fun _ z => absurd z (by simp)) (fun _ _ => by simp) n (fun _ _ => by simp) h
theorem ReTs.mono (e : Same H H') (n : ∀ a, N a → N' a) {t : T} {v : List V} {d : List D} {F : List Addr} (h : ReTs K cls N H t v d F) : ReTs K cls N' H' t v d F :=
  ReTs.chg (F' := []) (Chg.same e fun _ z => absurd z (by simp)) (fun _ _ => by simp) n (fun _ _ => by simp) h
mutual
/-- borrowed -/
theorem ReT.bor : ∀ {t : T} {v : V} {d : D} {F : List Addr}, ReT K cls N H t v d F → RepB K cls (fun a => N a ∨ a ∈ F) H t.bor v d
  | _, _, _, _, .bo f h => by rw [bor_flat _ f]; exact h.mono (Same.refl H) fun _ z => .inl z
  | _, _, _, _, .owx h => .im h
  | _, _, _, _, .owl e r => .lst (.inr (by simp)) (.inl e) (pimp (ReTs.bor r) fun _ _ z => z.mono (Same.refl H) fun a z => z.imp_right fun z => by simp [z])
  | _, _, _, _, .owK e r => .dK (.inr (by simp)) (.inl e) (pimp (ReTs.bor r) fun _ _ z => z.mono (Same.refl H) fun a z => z.imp_right fun z => by simp [z])
  | _, _, _, _, .owT e r => .dT (.inr (by simp)) (.inl e) (pimp (ReTs.bor r) fun _ _ z => z.mono (Same.refl H) fun a z => z.imp_right fun z => by simp [z])
theorem ReTs.bor : ∀ {t : T} {v : List V} {d : List D} {F : List Addr}, ReTs K cls N H t v d F → Paired (RepB K cls (fun a => N a ∨ a ∈ F) H t.bor) v d
  | _, _, _, _, .nil => .nil
  | _, _, _, _, .cons e r => .cons (e.bor.mono (Same.refl H) fun a z => z.imp_right fun z => by simp [z]) (pimp (ReTs.bor r) fun _ _ z => z.mono (Same.refl H) fun a z => z.imp_right fun z => by simp [z])
end
mutual
theorem ReT.box : ∀ {t : T} {v : V} {d : D} {F : List Addr}, ReT K cls N H t v d F → ∀ a ∈ F, Box (H a)
  | _, _, _, _, .bo f h, a, z => by simp at z
  | _, _, _, _, .owx h, a, z => by simp at z
  | _, _, _, _, .owl e r, a, z => by
    rcases List.mem_cons.mp z with rfl | z
    · rw [e]; trivial
    · exact ReTs.box r a z
  | _, _, _, _, .owK e r, a, z => by
    rcases List.mem_cons.mp z with rfl | z
    · rw [e]; trivial
    · exact ReTs.box r a z
  | _, _, _, _, .owT e r, a, z => by
    rcases List.mem_cons.mp z with rfl | z
    · rw [e]; trivial
    · exact ReTs.box r a z
theorem ReTs.box : ∀ {t : T} {v : List V} {d : List D} {F : List Addr}, ReTs K cls N H t v d F → ∀ a ∈ F, Box (H a)
  | _, _, _, _, .nil, a, z => by simp at z
  | _, _, _, _, .cons e r, a, z => by
    rcases List.mem_append.mp z with z | z
    · exact ReT.box e a z
    · exact ReTs.box r a z
end
theorem ReTs.of_flat {t : T} (f : t.flat = true) : ∀ {vs : List V} {ds : List D}, Paired (RepB K cls N H t) vs ds → ReTs K cls N H t vs ds []
  | _, _, .nil => .nil
  | _, _, .cons h r => ReTs.cons (F := []) (G := []) (.bo f h) (ReTs.of_flat f r)
end

/-! ### small syntax -/
inductive P1 where
  | neg | isN | notN | abs | len | isi (ty : String)
  deriving DecidableEq
inductive P2 where
  | add | sub | mul | fdiv | mod | pow | eq | ne | lt | le | gt | ge | idx
  deriving DecidableEq
inductive TG0 where
  | nm (i : Nat) | tp (is : List Nat)
  deriving DecidableEq
/-- expressions; argument lists by nil, cons; what is walked by rng1 .. -/
inductive CE where
  | var (i : Nat)
  | int (i : Int) | str (s : Str) | bl (b : Bool) | non
  | o1 (p : P1) (a : CE) | o2 (p : P2) (a b : CE)
  | and (a b : CE) | or (a b : CE) | not (a : CE) | ifx (c a b : CE)
  | nil | cons (a b : CE)
  | lst (es : CE) | tup (es : CE)
  | call (f : Nat) (es : CE)
  | rng1 (a : CE) | rng2 (a b : CE) | rng3 (a b c : CE)
inductive CS where
  | nil | seq (a b : CS)
  | asg (i : Nat) (e : CE) | mov (i j : Nat) | ex (e : CE) | ret (e : CE)
  | ite (c : CE) (a b : CS) | whl (inv : List (Nat × T)) (c : CE) (b : CS) | for (inv : List (Nat × T)) (g : TG0) (it : CE) (b : CS)
  | brk | cnt | pas
abbrev Env := List (Option D)
abbrev CallW := Nat → List D → (D → Prop) → Prop

/-! ### meaning -/
mutual
def D.py : D → PyData
  | .non => .none
  | .bl b => .bool b
  | .int i => .int i
  | .str s => .str s
  | .tup xs => .tuple (D.pys xs)
  | .lst xs => .list (D.pys xs)
  | .dic _ => .none
  | .obj _ _ => .none
def D.pys : List D → List PyData
  | [] => []
  | x :: xs => D.py x :: D.pys xs
end
mutual
/-- None, bools, rngL, texts, lists and tuples of such -/
def D.plain : D → Bool
  | .tup xs => D.plains xs
  | .lst xs => D.plains xs
  | .dic _ => false
  | .obj _ _ => false
  | _ => true
def D.plains : List D → Bool
  | [] => true
  | x :: xs => D.plain x && D.plains xs
end
def okEq (x y : D) : Prop := x.plain = true ∧ y.plain = true ∧ SeqAt.shaped x.py = true ∧ SeqAt.shaped y.py = true
def tyName : D → Option String
  | .non => some "NoneType"
  | .bl _ => some "bool"
  | .int _ => some "int"
  | .str _ => some "str"
  | .tup _ => some "tuple"
  | .lst _ => some "list"
  | _ => none
def isTy (ty : String) (d : D) : Option Bool := (tyName d).bind fun n => kitB n ty
def p1 : P1 → D → (D → Prop) → Prop
  | .neg, .int i, Q => Q (.int (-i))
  | .isN, .non, Q => Q (.bl true)
  | .isN, _, Q => Q (.bl false)
  | .notN, .non, Q => Q (.bl false)
  | .notN, _, Q => Q (.bl true)
  | .abs, .int i, Q => Q (.int (if i < 0 then -i else i))
  | .len, .lst xs, Q => Q (.int xs.length)
  | .len, .tup xs, Q => Q (.int xs.length)
  | .len, .str s, Q => s.length ≤ sizeLine ∧ Q (.int s.length)
  | .isi ty, d, Q => match isTy ty d with
    | some b => Q (.bl b)
    | none => False
  | _, _, _ => False
/-- may be multiplied | divided -/
def mulOk (i j : Int) : Prop := CMul i j ∨ CMulW i j
def divOk (_ j : Int) : Prop := j ≠ 0 ∧ j.natAbs.log2 < 9000
def p2 : P2 → D → D → (D → Prop) → Prop
  | .add, .int i, .int j, Q => Q (.int (i + j))
  | .add, .str x, .str y, Q => x.length + y.length ≤ sizeLine ∧ Q (.str (x ++ y))
  | .add, .lst xs, .lst ys, Q => xs.length + ys.length ≤ sizeLine ∧ Q (.lst (xs ++ ys))
  | .sub, .int i, .int j, Q => Q (.int (i - j))
  | .mul, .int i, .int j, Q => mulOk i j ∧ Q (.int (i * j))
  | .fdiv, .int i, .int j, Q => divOk i j ∧ Q (.int (i.fdiv j))
  | .mod, .int i, .int j, Q => j ≠ 0 ∧ Q (.int (i.fmod j))
  | .pow, .int i, .int j, Q => CPow i j ∧ Q (.int (i ^ j.toNat))
  | .eq, x, y, Q => okEq x y ∧ Q (.bl (PyData.eqv x.py y.py))
  | .ne, x, y, Q => okEq x y ∧ Q (.bl (!PyData.eqv x.py y.py))
  | .lt, .int i, .int j, Q => Q (.bl (decide (i < j)))
  | .le, .int i, .int j, Q => Q (.bl (decide (i ≤ j)))
  | .gt, .int i, .int j, Q => Q (.bl (decide (j < i)))
  | .ge, .int i, .int j, Q => Q (.bl (decide (j ≤ i)))
  | .idx, .lst xs, .int i, Q => ∃ d, atI xs i = some d ∧ Q d
  | .idx, .tup xs, .int i, Q => ∃ d, atI xs i = some d ∧ Q d
  | .idx, .str s, .int i, Q => s.length ≤ sizeLine ∧ ∃ c, atI s.cps.toList i = some c ∧ Q (.str ⟨#[c]⟩)
  | _, _, _, _ => False
def onB (d : D) (t f : Prop) : Prop := match d with
  | .bl true => t
  | .bl false => f
  | _ => False
/-- rngL lo, lo + c, .. -/
def rngL (lo c : Int) (n : Nat) : List D := (List.range n).map fun k => D.int (lo + (k : Nat) * c)
mutual
def E (C : CallW) : CE → Env → (D → Prop) → Prop
  | .var i, env, Q => match env[i]? with
    | some (some d) => Q d
    | _ => False
  | .int i, _, Q => Q (.int i)
  | .str s, _, Q => Q (.str s)
  | .bl b, _, Q => Q (.bl b)
  | .non, _, Q => Q .non
  | .o1 p a, env, Q => E C a env fun x => p1 p x Q
  | .o2 p a b, env, Q => E C a env fun x => E C b env fun y => p2 p x y Q
  | .and a b, env, Q => E C a env fun x => onB x (E C b env Q) (Q (.bl false))
  | .or a b, env, Q => E C a env fun x => onB x (Q (.bl true)) (E C b env Q)
  | .not a, env, Q => E C a env fun x => onB x (Q (.bl false)) (Q (.bl true))
  | .ifx c a b, env, Q => E C c env fun x => onB x (E C a env Q) (E C b env Q)
  | .lst es, env, Q => Es C es env fun xs => xs.length ≤ sizeLine ∧ Q (.lst xs)
  | .tup es, env, Q => Es C es env fun xs => xs.length ≤ sizeLine ∧ Q (.tup xs)
  | .call f es, env, Q => Es C es env fun xs => C f xs Q
  | _, _, _ => False
def Es (C : CallW) : CE → Env → (List D → Prop) → Prop
  | .nil, _, Q => Q []
  | .cons a b, env, Q => E C a env fun x => Es C b env fun xs => Q (x :: xs)
  | _, _, _ => False
end
/-- what is walked -/
def It (C : CallW) : CE → Env → (List D → Prop) → Prop
  | .rng1 a, env, Q => E C a env fun x => match x with
    | .int n => (-(2 ^ 62) ≤ n ∧ n < 2 ^ 62) ∧ Q (rngL 0 1 n.toNat)
    | _ => False
  | .rng2 a b, env, Q => E C a env fun x => E C b env fun y => match x, y with
    | .int i, .int n => ((-(2 ^ 62) ≤ i ∧ i < 2 ^ 62) ∧ -(2 ^ 62) ≤ n ∧ n < 2 ^ 62) ∧ Q (rngL i 1 (n - i).toNat)
    | _, _ => False
  | .rng3 a b c, env, Q => E C a env fun x => E C b env fun y => E C c env fun z => match x, y, z with
    | .int i, .int j, .int c => ∃ n, RgC i j c n ∧ Q (rngL i c n)
    | _, _, _ => False
  | c, env, Q => E C c env fun x => match x with
    | .lst xs => Q xs
    | .tup xs => Q xs
    | .str s => Q (s.cps.toList.map fun c => D.str ⟨#[c]⟩)
    | _ => False
structure Ks where
  nx : Env → Prop
  rt : D → Prop
  bk : Env → Prop := fun _ => False
  ct : Env → Prop := fun _ => False
/-- a target takes a value -/
def stor : List Nat → List D → Env → Env
  | i :: is, d :: ds, env => stor is ds (env.set i (some d))
  | _, _, env => env
def G0 : TG0 → D → Env → (Env → Prop) → Prop
  | .nm i, d, env, Q => Q (env.set i (some d))
  | .tp is, .tup ds, env, Q => ds.length = is.length ∧ Q (stor is ds env)
  | _, _, _, _ => False
def forW (body : D → Env → (Env → Prop) → Prop) (fin : Env → Prop) : List D → Env → Prop
  | [], env => fin env
  | d :: ds, env => body d env (forW body fin ds)
def whlW (step : Env → (Env → Prop) → Prop) : Nat → Env → Prop
  | 0, _ => False
  | n + 1, env => step env (whlW step n)
def W (C : CallW) : CS → Ks → Env → Prop
  | .nil, k, env => k.nx env
  | .pas, k, env => k.nx env
  | .seq a b, k, env => W C a { k with nx := W C b k } env
  | .asg i e, k, env => E C e env fun d => k.nx (env.set i (some d))
  | .mov i j, k, env => match env[j]? with
    | some (some d) => k.nx ((env.set j none).set i (some d))
    | _ => False
  | .ex e, k, env => E C e env fun _ => k.nx env
  | .ret e, k, env => E C e env k.rt
  | .ite c a b, k, env => E C c env fun x => onB x (W C a k env) (W C b k env)
  | .whl _ c b, k, env => ∃ n, whlW (fun env' nx => E C c env' fun x => onB x (W C b { nx := nx, ct := nx, bk := k.nx, rt := k.rt } env') (k.nx env')) n env
  | .for _ g it b, k, env => It C it env fun ds => forW (fun d env' nx => G0 g d env' fun env2 => W C b { nx := nx, ct := nx, bk := k.nx, rt := k.rt } env2) k.nx ds env
  | .brk, k, env => k.bk env
  | .cnt, k, env => k.ct env
/-- a def: its number of parameters, of slots, its body -/
structure Fn where
  np : Nat
  ns : Nat
  body : CS
def Cw (FT : List Fn) : Nat → CallW
  | 0, _, _, _ => False
  | k + 1, f, args, Q => match FT[f]? with
    | some fi => args.length = fi.np ∧ W (Cw FT k) fi.body { nx := fun _ => Q .non, rt := Q } (args.map some ++ List.replicate (fi.ns - fi.np) none)
    | none => False
end Pv

set_option maxRecDepth 100000
set_option maxHeartbeats 1000000
namespace Pv
open PySem L2
/-! ### shapes of the given syntax -/
def visB (sc : Scope) (x : Str) : Bool := match sc.names.lookup x with
  | some .local => true
  | some .cell => true
  | some .free => true
  | _ => false
def locB (sc : Scope) (x : Str) : Bool := match sc.names.lookup x with
  | some .local => true
  | some .cell => true
  | _ => false
def glB (sc : Scope) (x : Str) : Bool := decide (sc.names.lookup x = some .globalImplicit)
def nmB (x : Str) : Bool := !(x == ("__debug__" : Str)) && !(x == ("__classdict__" : Str)) && !decide (x = ("__name__" : Str))
def plainB : Expr → Bool
  | .BoolOp .. => true
  | .BinOp .. => true
  | .UnaryOp .. => true
  | .IfExp .. => true
  | .Dict .. => true
  | .ListComp .. => true
  | .Compare .. => true
  | .Call .. => true
  | .Constant .. => true
  | .Attribute .. => true
  | .Subscript .. => true
  | .Name .. => true
  | .List .. => true
  | .Tuple .. => true
  | _ => false
theorem vis_of {sc : Scope} {x : Str} (h : visB sc x = true) : Vis sc x := by
  unfold visB at h
  unfold Vis
  split at h <;> simp_all
theorem loc_of {sc : Scope} {x : Str} (h : locB sc x = true) : L2.Loc sc x := by
  unfold locB at h
  unfold L2.Loc
  split at h <;> simp_all
theorem gl_of {X : Cx} {sc : Scope} {x : Str} (e : X.env.scope = sc) (h : glB sc x = true) : Gl X x := by
  subst e
  have q : X.env.scope.names.lookup x = some .globalImplicit := of_decide_eq_true h
  exact q
theorem nm_of {x : Str} (h : nmB x = true) : (x == ("__debug__" : Str)) = false ∧ (x == ("__classdict__" : Str)) = false ∧ x ≠ ("__name__" : Str) := by
  simpa [nmB, and_assoc] using h
theorem plain_star {e : Expr} {es : List Expr} {env : PySem.Env} (h : plainB e = true) : starEach (e :: es) env = (false, eval e env) :: starEach es env := by
  cases e <;> first | rfl | cases h
theorem plain_ix {e : Expr} (h : plainB e = true) : PlainIx e := by
  cases e <;> first | exact fun _ _ => rfl | cases h
theorem plain_fold {e : Expr} {env : PySem.Env} (h : plainB e = true) : ∀ x, foldedSetIterable e env x = pure x := by
  cases e <;> first | exact fun _ => rfl | cases h
theorem plain_mark {e : Expr} {op : CmpOp} (h : plainB e = true) : behindInMarks op e = false := by
  cases e <;> first | rfl | cases h
/-- a test that is a plain value's truth -/
def valTest : Expr → Bool
  | .UnaryOp .Not _ _ => false
  | .BoolOp .. => false
  | .IfExp .. => false
  | .Compare .. => false
  | _ => true
theorem val_test {e : Expr} {env : PySem.Env} (h : valTest e = true) : ∀ whole, isTrue e env whole = (do let v ← whole; standAt e.pos; holding [v] (truthy v)) := by
  intro whole
  cases e
  case UnaryOp op x p => cases op <;> first | rfl | cases h
  all_goals first | rfl | cases h
def noComp : Expr → Bool
  | .ListComp .. => false
  | .SetComp .. => false
  | .DictComp .. => false
  | _ => true
theorem no_swap {e : Expr} {t : Option Expr} {l : Nat} {env : PySem.Env} (h : noComp e = true) : swapsWith e t l env = pure false := by
  cases e <;> first | rfl | cases h

def asUn (op : UnaryOp) : Expr → Option Expr
  | .UnaryOp o x _ => if o = op then some x else none
  | _ => none
theorem asUn_of {op : UnaryOp} {e x : Expr} (h : asUn op e = some x) : ∃ pos, e = .UnaryOp op x pos := by
  unfold asUn at h
  split at h
  · split at h
    · rename_i e; subst e; cases h; exact ⟨_, rfl⟩
    · cases h
  · cases h
def asBin (op : Operator) : Expr → Option (Expr × Expr)
  | .BinOp x o y _ => if o = op then some (x, y) else none
  | _ => none
theorem asBin_of {op : Operator} {e x y : Expr} (h : asBin op e = some (x, y)) : ∃ pos, e = .BinOp x op y pos := by
  unfold asBin at h
  split at h
  · split at h
    · rename_i e; subst e; cases h; exact ⟨_, rfl⟩
    · cases h
  · cases h
def asCmp (op : CmpOp) : Expr → Option (Expr × Expr)
  | .Compare x [o] [y] _ => if o = op ∧ plainB y = true then some (x, y) else none
  | _ => none
theorem asCmp_of {op : CmpOp} {e x y : Expr} (h : asCmp op e = some (x, y)) : ∃ pos, e = .Compare x [op] [y] pos ∧ plainB y = true := by
  unfold asCmp at h
  split at h
  · split at h
    · rename_i e; obtain ⟨e, p⟩ := e; subst e; cases h; exact ⟨_, rfl, p⟩
    · cases h
  · cases h
def asCmpN (op : CmpOp) : Expr → Option Expr
  | .Compare x [o] [.Constant .none _ _] _ => if o = op then some x else none
  | _ => none
theorem asCmpN_of {op : CmpOp} {e x : Expr} (h : asCmpN op e = some x) : ∃ pos j p, e = .Compare x [op] [.Constant .none j p] pos := by
  unfold asCmpN at h
  split at h
  · split at h
    · rename_i e; subst e; cases h; exact ⟨_, _, _, rfl⟩
    · cases h
  · cases h
/-- nm(x), nm not shadowed -/
def asB1 (nm : Str) (sc : Scope) : Expr → Option Expr
  | .Call (.Name f _) [x] [] _ => if f = nm ∧ glB sc nm = true ∧ plainB x = true then some x else none
  | _ => none
theorem asB1_of {nm : Str} {sc : Scope} {e x : Expr} (h : asB1 nm sc e = some x) : ∃ p pos, e = .Call (.Name nm p) [x] [] pos ∧ glB sc nm = true ∧ plainB x = true := by
  unfold asB1 at h
  split at h
  · split at h
    · rename_i e; obtain ⟨rfl, g, p⟩ := e; cases h; exact ⟨_, _, rfl, g, p⟩
    · cases h
  · cases h
def asB2 (nm : Str) (sc : Scope) : Expr → Option (Expr × Expr)
  | .Call (.Name f _) [x, y] [] _ => if f = nm ∧ glB sc nm = true ∧ plainB x = true ∧ plainB y = true then some (x, y) else none
  | _ => none
theorem asB2_of {nm : Str} {sc : Scope} {e x y : Expr} (h : asB2 nm sc e = some (x, y)) : ∃ p pos, e = .Call (.Name nm p) [x, y] [] pos ∧ glB sc nm = true ∧ plainB x = true ∧ plainB y = true := by
  unfold asB2 at h
  split at h
  · split at h
    · rename_i e; obtain ⟨rfl, g, p, q⟩ := e; cases h; exact ⟨_, _, rfl, g, p, q⟩
    · cases h
  · cases h
def asB3 (nm : Str) (sc : Scope) : Expr → Option (Expr × Expr × Expr)
  | .Call (.Name f _) [x, y, z] [] _ => if f = nm ∧ glB sc nm = true ∧ plainB x = true ∧ plainB y = true ∧ plainB z = true then some (x, y, z) else none
  | _ => none
theorem asB3_of {nm : Str} {sc : Scope} {e x y z : Expr} (h : asB3 nm sc e = some (x, y, z)) : ∃ p pos, e = .Call (.Name nm p) [x, y, z] [] pos ∧ glB sc nm = true ∧ plainB x = true ∧ plainB y = true ∧ plainB z = true := by
  unfold asB3 at h
  split at h
  · split at h
    · rename_i e; obtain ⟨rfl, g, p, q, r⟩ := e; cases h; exact ⟨_, _, rfl, g, p, q, r⟩
    · cases h
  · cases h
/-- isinstance(x, ty) -/
def asIsi (ty : Str) (sc : Scope) (e : Expr) : Option Expr := match asB2 "isinstance" sc e with
  | some (x, .Name f _) => if f = ty ∧ glB sc ty = true ∧ nmB ty = true then some x else none
  | _ => none
theorem asIsi_of {ty : Str} {sc : Scope} {e x : Expr} (h : asIsi ty sc e = some x) : ∃ p q pos, e = .Call (.Name ("isinstance" : Str) p) [x, .Name ty q] [] pos ∧ glB sc "isinstance" = true ∧ plainB x = true ∧ glB sc ty = true ∧ nmB ty = true := by
  unfold asIsi at h
  split at h
  · rename_i q
    split at h
    · rename_i z
      obtain ⟨rfl, g, n⟩ := z
      cases h
      obtain ⟨p, pos, rfl, g1, p1, _⟩ := asB2_of q
      exact ⟨_, _, _, rfl, g1, p1, g, n⟩
    · cases h
  · cases h
def asSub : Expr → Option (Expr × Expr)
  | .Subscript x i _ => if plainB i = true then some (x, i) else none
  | _ => none
theorem asSub_of {e x y : Expr} (h : asSub e = some (x, y)) : ∃ pos, e = .Subscript x y pos ∧ plainB y = true := by
  unfold asSub at h
  split at h
  · split at h
    · rename_i p; cases h; exact ⟨_, rfl, p⟩
    · cases h
  · cases h
/-- x op rest -/
def asBool (op : BoolOp) : Expr → Option (Expr × Expr)
  | .BoolOp o [x, y] _ => if o = op then some (x, y) else none
  | .BoolOp o (x :: y :: z :: r) p => if o = op then some (x, .BoolOp o (y :: z :: r) p) else none
  | _ => none
def strOf (ty : String) : Str := Str.ofString ty
def tys : List String := ["int", "bool", "str", "list", "tuple", "dict"]
def sh1 : P1 → Scope → Expr → Option Expr
  | .neg, _, e => asUn .USub e
  | .isN, _, e => asCmpN .Is e
  | .notN, _, e => asCmpN .IsNot e
  | .abs, sc, e => asB1 "abs" sc e
  | .len, sc, e => asB1 "len" sc e
  | .isi ty, sc, e => if ty ∈ tys then asIsi (strOf ty) sc e else none
def sh2 : P2 → Scope → Expr → Option (Expr × Expr)
  | .add, _, e => asBin .Add e
  | .sub, _, e => asBin .Sub e
  | .mul, _, e => asBin .Mult e
  | .fdiv, _, e => asBin .FloorDiv e
  | .mod, _, e => asBin .Mod e
  | .pow, _, e => asBin .Pow e
  | .eq, _, e => asCmp .Eq e
  | .ne, _, e => asCmp .NotEq e
  | .lt, _, e => asCmp .Lt e
  | .le, _, e => asCmp .LtE e
  | .gt, _, e => asCmp .Gt e
  | .ge, _, e => asCmp .GtE e
  | .idx, _, e => asSub e
mutual
/-- e is the expression c: N the names by slot, fns the defs' names -/
def mE (N fns : List Str) : CE → Scope → Expr → Bool
  | .var i, sc, e => match e with
    | .Name x _ => decide (N[i]? = some x) && visB sc x && nmB x
    | _ => false
  | .int i, _, e => match e with
    | .Constant (.int j) _ _ => decide (i = j)
    | _ => false
  | .str i, _, e => match e with
    | .Constant (.str j) _ _ => decide (i = j)
    | _ => false
  | .bl i, _, e => match e with
    | .Constant (.bool j) _ _ => decide (i = j)
    | _ => false
  | .non, _, e => match e with
    | .Constant .none _ _ => true
    | _ => false
  | .o1 p a, sc, e => match sh1 p sc e with
    | some x => mE N fns a sc x
    | none => false
  | .o2 p a b, sc, e => match sh2 p sc e with
    | some (x, y) => mE N fns a sc x && mE N fns b sc y
    | none => false
  | .and a b, sc, e => match asBool .And e with
    | some (x, y) => mE N fns a sc x && mE N fns b sc y
    | none => false
  | .or a b, sc, e => match asBool .Or e with
    | some (x, y) => mE N fns a sc x && mE N fns b sc y
    | none => false
  | .not a, sc, e => match asUn .Not e with
    | some x => mE N fns a sc x
    | none => false
  | .ifx c a b, sc, e => match e with
    | .IfExp t x y _ => mE N fns c sc t && mE N fns a sc x && mE N fns b sc y
    | _ => false
  | .lst es, sc, e => match e with
    | .List xs _ => mEs N fns es sc xs
    | _ => false
  | .tup es, sc, e => match e with
    | .Tuple xs _ _ => mEs N fns es sc xs
    | _ => false
  | .call f es, sc, e => match e with
    | .Call (.Name x _) xs [] _ => decide (fns[f]? = some x) && glB sc x && nmB x && mEs N fns es sc xs
    | _ => false
  | _, _, _ => false
def mEs (N fns : List Str) : CE → Scope → List Expr → Bool
  | .nil, _, es => match es with
    | [] => true
    | _ => false
  | .cons a b, sc, es => match es with
    | x :: xs => plainB x && mE N fns a sc x && mEs N fns b sc xs
    | [] => false
  | _, _, _ => false
end
/-- what is walked -/
def mI (N fns : List Str) : CE → Scope → Expr → Bool
  | .rng1 a, sc, e => match asB1 "range" sc e with
    | some x => mE N fns a sc x
    | none => false
  | .rng2 a b, sc, e => match asB2 "range" sc e with
    | some (x, y) => mE N fns a sc x && mE N fns b sc y
    | none => false
  | .rng3 a b c, sc, e => match asB3 "range" sc e with
    | some (x, y, z) => mE N fns a sc x && mE N fns b sc y && mE N fns c sc z
    | none => false
  | c, sc, e => plainB e && mE N fns c sc e
def mG (N : List Str) : TG0 → Scope → Expr → Bool
  | .nm i, sc, e => match e with
    | .Name x _ => decide (N[i]? = some x) && locB sc x
    | _ => false
  | .tp is, sc, e => match e with
    | .Tuple xs _ _ => go is sc xs
    | _ => false
where go : List Nat → Scope → List Expr → Bool
  | [], _, [] => true
  | i :: is, sc, .Name x _ :: xs => decide (N[i]? = some x) && locB sc x && go is sc xs
  | _, _, _ => false
mutual
def mS (N fns : List Str) : CS → Scope → Stmt → Bool
  | .pas, _, s => match s with
    | .Pass _ => true
    | .Expr (.Constant (.str _) _ _) _ => true
    | _ => false
  | .asg i e, sc, s => match s with
    | .Assign [.Name x _] v _ => decide (N[i]? = some x) && locB sc x && noComp v && mE N fns e sc v
    | _ => false
  | .mov i j, sc, s => match s with
    | .Assign [.Name x _] v _ => decide (N[i]? = some x) && locB sc x && noComp v && mE N fns (.var j) sc v
    | _ => false
  | .ex e, sc, s => match s with
    | .Expr v _ => noComp v && mE N fns e sc v
    | _ => false
  | .ret e, sc, s => match s with
    | .Return (some v) _ => mE N fns e sc v
    | _ => false
  | .ite c a b, sc, s => match s with
    | .If t x y _ => mE N fns c sc t && mSs N fns a sc x && mSs N fns b sc y
    | _ => false
  | .whl _ c b, sc, s => match s with
    | .While t x [] _ => mE N fns c sc t && mSs N fns b sc x
    | _ => false
  | .for _ g it b, sc, s => match s with
    | .For t i x [] _ => mG N g sc t && mI N fns it sc i && mSs N fns b sc x
    | _ => false
  | .brk, _, s => match s with
    | .Break _ => true
    | _ => false
  | .cnt, _, s => match s with
    | .Continue _ => true
    | _ => false
  | _, _, _ => false
def mSs (N fns : List Str) : CS → Scope → List Stmt → Bool
  | .nil, _, ss => match ss with
    | [] => true
    | _ => false
  | .seq a b, sc, ss => match ss with
    | x :: xs => mS N fns a sc x && mSs N fns b sc xs
    | [] => false
  | _, _, _ => false
end
end Pv

set_option maxRecDepth 100000
set_option maxHeartbeats 1000000
namespace Pv
open PySem L2
structure FnI where
  name : Str
  ps : List Str
  N : List Str
  fn : Fn
  sg : List T
  rt : T
structure Glob where
  P : Program
  w : World
  K : PySem.W.Frag
  mg : Str → Option Value
  base : Heap
  cls : Nat → Addr
  fns : List FnI
  fa : Nat → Addr
  fd : Nat → FuncData
def FTof (fns : List FnI) : List Fn := fns.map (·.fn)
section
variable (K : PySem.W.Frag) (cls : Nat → Addr)
/-- what a call (an operation) from H to H' hands back -/
def RSp (N : Addr → Prop) (H H' : Hp) (t : T) (v : V) (d : D) : Prop :=
  ∃ F, F.Nodup ∧ (∀ a ∈ F, H a = none) ∧ ReT K cls (fun a => (N a ∨ H a = none) ∧ a ∉ F) H' t v d F
inductive ArgsB (N : Addr → Prop) (H : Hp) : List T → List V → List D → Prop
  | nil : ArgsB N H [] [] []
  | cons {t : T} {ts : List T} {v : V} {vs : List V} {d : D} {ds : List D} : RepB K cls N H t v d → ArgsB N H ts vs ds → ArgsB N H (t :: ts) (v :: vs) (d :: ds)
end
theorem ArgsB.length {K cls N H} : ∀ {ts : List T} {vs : List V} {ds : List D}, ArgsB K cls N H ts vs ds → vs.length = ts.length ∧ ds.length = ts.length
  | _, _, _, .nil => ⟨rfl, rfl⟩
  | _, _, _, .cons _ r => by simp [ArgsB.length r]
def spF (G : Glob) (k f : Nat) : Sp := fun vs H Q _ => ∃ i ds N R, G.fns[f]? = some i ∧ vs.length = i.ps.length ∧ ArgsB G.K G.cls N H i.sg vs ds ∧ Cw (FTof G.fns) k f ds R ∧
  ∀ v H' d, Same H H' → RSp G.K G.cls N H H' i.rt v d → R d → Q v H'
def bltNames : List Str := ["range", "isinstance", "len", "abs", "int", "bool", "str", "list", "tuple", "dict", "min", "max", "sum", "sorted", "enumerate", "zip", "reversed", "set", "any", "all", "divmod"]
structure Gok (G : Glob) (k : Nat) : Prop where
  nob : ∀ x ∈ bltNames, G.mg x = none
  mgf : ∀ f i, G.fns[f]? = some i → G.mg i.name = some (.ref (G.fa f)) ∧ PySem.W.keepIn G.K (.ref (G.fa f)) = true ∧ Binds G.K (G.fd f) i.ps []
  len : ∀ (f : Nat) (i : FnI), G.fns[f]? = some i → i.sg.length = i.ps.length
  ok : ∀ f i, G.fns[f]? = some i → FnOk G.P G.w G.K G.mg G.base CX0 k (G.fa f) (G.fd f) i.ps (spF G k f)
structure Good (G : Glob) (k : Nat) (N : List Str) (sc : Scope) (X : Cx) : Prop where
  hP : X.prog = G.P
  hw : X.w = G.w
  hK : X.K = G.K
  hm : X.mg = G.mg
  hb : X.base = G.base
  hN : X.N = N
  nd : N.Nodup
  hsc : X.env.scope = sc
  calm : X.calm = true
  room : Room k X.A
  xe : X.xe = fun _ _ => False
  hfn : ∀ x, sc.names.lookup x = some .cell → X.fn x = true
  G : Gok G k

/-! ### readings -/
theorem _root_.L2.PE.sub {X : Cx} {e : Expr} {t t' : TE} (h : PE X e t) (i : ∀ σ H R, t' σ H R → t σ H R) : PE X e t' := ⟨fun pins s σ H R I q => h.run pins s σ H R I (i σ H R q)⟩
theorem _root_.L2.PT.sub {X : Cx} {e : Expr} {t t' : TT} (h : PT X e t) (i : ∀ σ H R, t' σ H R → t σ H R) : PT X e t' := ⟨fun pins s σ H R I q => h.run pins s σ H R I (i σ H R q)⟩
theorem _root_.L2.PA.sub {X : Cx} {e : List Expr} {t t' : TA} (h : PA X e t) (i : ∀ σ H R, t' σ H R → t σ H R) : PA X e t' := ⟨fun pos pins s σ H R I q => h.run pos pins s σ H R I (i σ H R q)⟩
theorem _root_.L2.PI.sub {X : Cx} {g e : Expr} {t t' : TI} (h : PI X g e t) (i : ∀ σ H R, t' σ H R → t σ H R) : PI X g e t' := ⟨fun pins s σ H R I q => h.run pins s σ H R I (i σ H R q)⟩
theorem _root_.L2.PS.sub {X : Cx} {e : Stmt} {t t' : TS} (h : PS X e t) (i : ∀ D σ H, t' D σ H → t D σ H) : PS X e t' := ⟨fun pins s σ H D I q => h.run pins s σ H D I (i D σ H q)⟩
theorem _root_.L2.PSs.sub {X : Cx} {e : List Stmt} {t t' : TS} (h : PSs X e t) (i : ∀ D σ H, t' D σ H → t D σ H) : PSs X e t' := ⟨fun pins s σ H D I q => h.run pins s σ H D I (i D σ H q)⟩
def MonE (t : TE) : Prop := ∀ σ H (R R' : VK), (∀ v H', R v H' → R' v H') → t σ H R → t σ H R'

section
variable {K : PySem.W.Frag} {cls : Nat → Addr} {N N' : Addr → Prop} {H H' : Hp}
theorem rep_int {v : V} {i : Int} (h : Rep K cls N H v (.int i)) : v = .int i := by cases h; rfl
theorem rep_bl {v : V} {i : Bool} (h : Rep K cls N H v (.bl i)) : v = .bl i := by cases h; rfl
theorem rep_str {v : V} {i : Str} (h : Rep K cls N H v (.str i)) : v = .str i := by cases h; rfl
theorem rep_non {v : V} (h : Rep K cls N H v .non) : v = .non := by cases h; rfl
theorem rep_lst {v : V} {ds : List D} (h : Rep K cls N H v (.lst ds)) : ∃ a vs, v = .ref a ∧ N a ∧ Rd H a (.lst vs) ∧ Reps K cls N H vs ds := by cases h; exact ⟨_, _, rfl, ‹_›, ‹_›, ‹_›⟩
theorem rep_tup {v : V} {ds : List D} (h : Rep K cls N H v (.tup ds)) : ∃ a vs, v = .ref a ∧ SqT K H a vs ∧ Reps K cls N H vs ds := by cases h; exact ⟨_, _, rfl, ‹_›, ‹_›⟩
theorem rep_isN {v : V} {d : D} (h : Rep K cls N H v d) : decide (v = .non) = (match d with | .non => true | _ => false) := by
  cases h <;> rfl
theorem rs_im {v : V} {d : D} (h : Rep K cls N0 H' v d) : RSp K cls N H H' .im v d := ⟨[], .nil, fun _ z => absurd z (by simp), .bo rfl h⟩
theorem rs_int (i : Int) : RSp K cls N H H' .im (.int i) (.int i) := rs_im (.int i)
theorem rs_bl (i : Bool) : RSp K cls N H H' .im (.bl i) (.bl i) := rs_im (.bl i)
theorem rs_str (i : Str) : RSp K cls N H H' .im (.str i) (.str i) := rs_im (.str i)
theorem rs_bo {t : T} {v : V} {d : D} (f : t.flat = true) (h : RepB K cls N H' t v d) : RSp K cls N H H' t v d :=
  ⟨[], .nil, fun _ z => absurd z (by simp), .bo f (h.mono (Same.refl _) fun a z => ⟨.inl z, by simp⟩)⟩
theorem repB_lst {t : T} (f : t.flat = true) {v : V} {ds : List D} (h : RepB K cls N H t v (.lst ds)) : ∃ a vs, v = .ref a ∧ N a ∧ Rd H a (.lst vs) ∧ Paired (RepB K cls N H t.el) vs ds := by
  cases t with
  | im => obtain ⟨_, _, _, z, _⟩ := rep_lst h; exact z.elim
  | sh => obtain ⟨a, vs, e, n, r, p⟩ := rep_lst h; exact ⟨a, vs, e, n, r, p.paired⟩
  | s t =>
    cases h with
    | im h => obtain ⟨_, _, _, z, _⟩ := rep_lst h; exact z.elim
    | lst n r p => exact ⟨_, _, rfl, n, r, p⟩
  | ow t => cases f
theorem repB_tup {t : T} (f : t.flat = true) {v : V} {ds : List D} (h : RepB K cls N H t v (.tup ds)) : ∃ a vs, v = .ref a ∧ SqT K H a vs ∧ Paired (RepB K cls N H t.el) vs ds := by
  cases t with
  | im => obtain ⟨a, vs, e, r, p⟩ := rep_tup h; exact ⟨a, vs, e, r, p.paired⟩
  | sh => obtain ⟨a, vs, e, r, p⟩ := rep_tup h; exact ⟨a, vs, e, r, p.paired⟩
  | s t =>
    cases h with
    | im h => obtain ⟨a, vs, e, r, p⟩ := rep_tup h; exact ⟨a, vs, e, r, pimp p.paired fun _ _ z => RepB.of_im z⟩
    | tup r p => exact ⟨_, _, rfl, r, p⟩
  | ow t => cases f
theorem pair_get {F : V → D → Prop} : ∀ {vs : List V} {ds : List D} {i : Nat} {d : D}, Paired F vs ds → ds[i]? = some d → ∃ v, vs[i]? = some v ∧ F v d
  | _, _, _, _, .nil, e => by simp at e
  | _, _, 0, _, .cons h _, e => by simp at e; subst e; exact ⟨_, rfl, h⟩
  | _, _, i + 1, _, .cons _ r, e => by
    obtain ⟨v, h1, h2⟩ := pair_get (i := i) r (by simpa using e)
    exact ⟨v, by simpa using h1, h2⟩
theorem pair_len {F : V → D → Prop} {vs : List V} {ds : List D} (h : Paired F vs ds) : vs.length = ds.length := Paired.length h
theorem pair_at {F : V → D → Prop} {vs : List V} {ds : List D} {i : Int} {d : D} (h : Paired F vs ds) (e : atI ds i = some d) : ∃ v, atI vs i = some v ∧ F v d := by
  unfold atI at e ⊢
  rw [pair_len h]
  cases q : ixN ds.length i with
  | none => rw [q] at e; cases e
  | some j =>
    rw [q] at e
    exact pair_get h e
mutual
theorem dp_of : ∀ {v : V} {d : D}, Rep K cls N H v d → d.plain = true → Dp K H v d.py
  | _, _, .non, _ => by unfold D.py; exact .non
  | _, _, .bl b, _ => by unfold D.py; exact .bl b
  | _, _, .int i, _ => by unfold D.py; exact .int i
  | _, _, .str x, _ => by unfold D.py; exact .str x
  | _, _, .tup h r, p => by unfold D.py; unfold D.plain at p; exact .tup h (dps_of r p)
  | _, _, .lst a h r, p => by unfold D.py; unfold D.plain at p; exact .lst (.inl h) (dps_of r p)
  | _, _, .dK a h r, p => by unfold D.plain at p; cases p
  | _, _, .dT a h r, p => by unfold D.plain at p; cases p
  | _, _, .obj h r, p => by unfold D.plain at p; cases p
theorem dps_of : ∀ {v : List V} {d : List D}, Reps K cls N H v d → D.plains d = true → DpAll K H v (D.pys d)
  | _, _, .nil, _ => by unfold D.pys; exact .nil
  | _, _, .cons h r, p => by
    unfold D.pys
    unfold D.plains at p
    rw [Bool.and_eq_true] at p
    exact .cons (dp_of h p.1) (dps_of r p.2)
end
end

section
variable {K : PySem.W.Frag} {cls : Nat → Addr} {N N' : Addr → Prop} {H H' : Hp}
theorem BS.dom {P P' : V → D → Prop} (hp : ∀ v d, P v d → P' v d) {v : V} {d : D} (h : BS K cls N H P v d) : BS K cls (fun a => N a ∧ H a ≠ none) H P' v d := by
  cases h with
  | im h => exact .im h
  | tup h r => exact .tup h (pimp r hp)
  | lst na h r => exact .lst ⟨na, rd_some h⟩ h (pimp r hp)
  | dK na h r => exact .dK ⟨na, rd_some h⟩ h (pimp r hp)
  | dT na h r => exact .dT ⟨na, rd_some h⟩ h (pimp r hp)
theorem RepB.dom : ∀ {t : T} {v : V} {d : D}, RepB K cls N H t v d → RepB K cls (fun a => N a ∧ H a ≠ none) H t v d
  | .im, _, _, h => h
  | .sh, _, _, h => Rep.dom h
  | .s t, _, _, h => BS.dom (fun _ _ z => RepB.dom (t := t) z) h
  | .ow t, _, _, h => BS.dom (fun _ _ z => RepB.dom (t := t) z) h
theorem same_new {p : Addr} {o : HO} (hp : H p = none) : Same H (upd H p o) := fun b u e => by rw [upd_ne (ne_of_none e hp)]; exact e
theorem rs_new {p : Addr} {t : T} {vs : List V} {ds : List D} (hp : H p = none) (f : t.flat = true) (h : Paired (RepB K cls N H t) vs ds) : RSp K cls N H (upd H p (.lst vs)) (.ow t) (.ref p) (.lst ds) := by
  refine ⟨[p], by simp, fun a z => by rw [List.mem_singleton.mp z]; exact hp, .owl (F := []) upd_same (ReTs.of_flat f (pimp h fun _ _ z => ?_))⟩
  exact z.dom.mono (same_new hp) fun a q => ⟨.inl q.1, fun z => q.2 (by rw [List.mem_singleton.mp z]; exact hp)⟩
theorem pair_append {F : V → D → Prop} : ∀ {vs ws : List V} {ds es : List D}, Paired F vs ds → Paired F ws es → Paired F (vs ++ ws) (ds ++ es)
  | _, _, _, _, .nil, h => h
  | _, _, _, _, .cons a r, h => .cons a (pair_append r h)
end
def p1T : P1 → T → Option T := fun _ _ => some .im
def p2T : P2 → T → T → Option T
  | .idx, a, _ => if a.el.flat then some a.el else none
  | .add, a, b => if a = .im ∧ b = .im then some .im else
    if (T.join a.el b.el).flat && T.le a.el (T.join a.el b.el) && T.le b.el (T.join a.el b.el) then some (.ow (T.join a.el b.el)) else none
  | _, _, _ => some .im
end Pv

set_option maxRecDepth 100000
set_option maxHeartbeats 1000000
namespace Pv
open PySem L2
section
variable {G : Glob} {k : Nat} {N : List Str} {sc : Scope} {X : Cx} {ta tb : TE} {e x y : Expr}
/-- what is asked of a one-place operation on a value; of a two-place one -/
def A1 (G : Glob) (p : P1) (t t' : T) (R : VK) : V → Hp → Prop := fun v H => ∃ Nn d Q, RepB G.K G.cls Nn H t v d ∧ p1 p d Q ∧ ∀ v' H' d', Same H H' → RSp G.K G.cls Nn H H' t' v' d' → Q d' → R v' H'
def A2 (G : Glob) (p : P2) (t u t' : T) (R : VK) : V → V → Hp → Prop := fun v w H => ∃ Nn d d2 Q, RepB G.K G.cls Nn H t v d ∧ RepB G.K G.cls Nn H u w d2 ∧ p2 p d d2 Q ∧ ∀ v' H' d', Same H H' → RSp G.K G.cls Nn H H' t' v' d' → Q d' → R v' H'
theorem Good.gl (g : Good G k N sc X) {x : Str} (h : glB sc x = true) : Gl X x := gl_of g.hsc h
theorem Good.nob (g : Good G k N sc X) {x : Str} (h : x ∈ bltNames) : X.mg x = none := by rw [g.hm]; exact g.G.nob x h
theorem Good.u (g : Good G k N sc X) : X.A.units + 64 < cLine := g.room.units
theorem call1_pe {nm id : String} {r : List V → Hp → VK → Prop} (g : Good G k N sc X) (hc : CallR X (.builtin id) r) (hn : Str.ofString nm ∈ bltNames) (hv : bootBuiltins (Str.ofString nm) = some (.builtin id)) (h1 : Str.ofString nm ≠ "__name__" := by decide +kernel) (h2 : (Str.ofString nm == ("__debug__" : Str)) = false := by decide +kernel)
    (sh : asB1 (Str.ofString nm) sc e = some x) (ha : PE X x ta) : PE X e (fun σ H R => ta σ H fun v H1 => r [v] H1 R) := by
  obtain ⟨p, pos, rfl, gl, pl⟩ := asB1_of sh
  exact pe_callB hc (g.gl gl) (g.nob hn) hv (pa_cons ha pa_nil (plain_star pl)) h1 h2 (plain_star pl)
theorem call1T_pe {nm T : String} {r : List V → Hp → VK → Prop} (g : Good G k N sc X) (hc : CallR X (.type T) r) (hn : Str.ofString nm ∈ bltNames) (hv : bootBuiltins (Str.ofString nm) = some (.type T)) (h1 : Str.ofString nm ≠ "__name__" := by decide +kernel) (h2 : (Str.ofString nm == ("__debug__" : Str)) = false := by decide +kernel)
    (sh : asB1 (Str.ofString nm) sc e = some x) (ha : PE X x ta) : PE X e (fun σ H R => ta σ H fun v H1 => r [v] H1 R) := by
  obtain ⟨p, pos, rfl, gl, pl⟩ := asB1_of sh
  exact pe_callTy hc (g.gl gl) (g.nob hn) hv (pa_cons ha pa_nil (plain_star pl)) h1 h2 (plain_star pl)
theorem tyX_of {K : PySem.W.Frag} {cls : Nat → Addr} {Nn : Addr → Prop} {H : Hp} {v : V} {d : D} {n : String} (h : Rep K cls Nn H v d) (e : tyName d = some n) : TyX K H v (.type n) := by
  cases h with
  | non => cases e; exact .base .non
  | bl b => cases e; exact .base (.bl b)
  | int i => cases e; exact .base (.int i)
  | str i => cases e; exact .base (.str i)
  | tup q r =>
    cases e
    rcases q with (q | ⟨o, q⟩) | ⟨o, its, n, q, c, _⟩
    · exact .base (.tup q)
    · exact .fTuple q
    · exact .kTuple q c
  | lst a q r =>
    cases e
    rcases q with q | ⟨o, q⟩
    · exact .base (.lst q)
    · exact .base (.frz q)
  | dK a q r => cases e
  | dT a q r => cases e
  | obj q r => cases e
theorem p1_N {p : P1} {op : CmpOp} (h : (p = .isN ∧ op = .Is) ∨ (p = .notN ∧ op = .IsNot)) {t t' : T} (ht : p1T p t = some t') : ∃ r : R2, OpR X (compareOp op) r ∧ ∀ v H R, A1 G p t t' R v H → r v .non H R := by
  obtain rfl : T.im = t' := by simpa [p1T] using ht
  rcases h with ⟨rfl, rfl⟩ | ⟨rfl, rfl⟩
  · refine ⟨_, op_isN, fun v H1 R ⟨Nn, d, Q, hr, hp, kk⟩ => ⟨rfl, ?_⟩⟩
    rw [rep_isN hr.rep]
    cases d <;> exact kk _ _ _ (Same.refl _) (rs_bl _) hp
  · refine ⟨_, op_notN, fun v H1 R ⟨Nn, d, Q, hr, hp, kk⟩ => ⟨rfl, ?_⟩⟩
    rw [rep_isN hr.rep]
    cases d <;> exact kk _ _ _ (Same.refl _) (rs_bl _) hp
theorem boot_ty {ty : String} (h : ty ∈ tys) : bootBuiltins (strOf ty) = some (.type ty) ∧ strOf ty ∈ bltNames := by
  simp only [tys, List.mem_cons, List.not_mem_nil, or_false] at h
  rcases h with rfl | rfl | rfl | rfl | rfl | rfl <;> exact ⟨by decide +kernel, by decide +kernel⟩
theorem p1_ok (g : Good G k N sc X) (mt : MonE ta) (ha : PE X x ta) : ∀ {p : P1} {t t' : T}, t.flat = true → sh1 p sc e = some x → p1T p t = some t' →
    PE X e (fun σ H R => ta σ H (A1 G p t t' R)) := by
  intro p t t' ft sh ht
  by_cases hN : p = .isN
  · obtain ⟨r, hr, i⟩ := p1_N (X := X) (G := G) (.inl ⟨hN, rfl⟩) ht
    subst hN
    obtain ⟨pos, j, p, rfl⟩ := asCmpN_of sh
    exact (pe_cmpR hr ha pe_non (nomark _)).sub fun σ H R h => mt _ _ _ _ (fun v H1 z => i v H1 R z) h
  by_cases hN2 : p = .notN
  · obtain ⟨r, hr, i⟩ := p1_N (X := X) (G := G) (.inr ⟨hN2, rfl⟩) ht
    subst hN2
    obtain ⟨pos, j, p, rfl⟩ := asCmpN_of sh
    exact (pe_cmpR hr ha pe_non (nomark _)).sub fun σ H R h => mt _ _ _ _ (fun v H1 z => i v H1 R z) h
  obtain rfl : T.im = t' := by simpa [p1T] using ht
  cases p with
  | isN => exact absurd rfl hN
  | notN => exact absurd rfl hN2
  | neg =>
    obtain ⟨pos, rfl⟩ := asUn_of sh
    refine (pe_un un_neg ha).sub fun σ H R h => mt _ _ _ _ (fun v H1 ⟨Nn, d, Q, hr, hp, kk⟩ => ?_) h
    cases d <;> try exact hp.elim
    obtain rfl := rep_int hr.rep
    exact ⟨_, rfl, kk _ _ _ (Same.refl _) (rs_int _) hp⟩
  | abs =>
    refine (call1_pe (nm := "abs") g call_abs (by decide +kernel) (by decide +kernel) (sh := sh) (ha := ha)).sub fun σ H R h => mt _ _ _ _ (fun v H1 ⟨Nn, d, Q, hr, hp, kk⟩ => ?_) h
    cases d <;> try exact hp.elim
    obtain rfl := rep_int hr.rep
    exact ⟨_, rfl, kk _ _ _ (Same.refl _) (rs_int _) hp⟩
  | len =>
    refine (call1_pe (nm := "len") g call_len (by decide +kernel) (by decide +kernel) (sh := sh) (ha := ha)).sub fun σ H R h => mt _ _ _ _ (fun v H1 ⟨Nn, d, Q, hr, hp, kk⟩ => ?_) h
    cases d <;> try exact hp.elim
    case str s =>
      obtain rfl := rep_str hr.rep
      exact ⟨_, s.length, rfl, ⟨hp.1, rfl⟩, kk _ _ _ (Same.refl _) (rs_int _) hp.2⟩
    case tup ds =>
      obtain ⟨a, vs, rfl, q, r⟩ := rep_tup hr.rep
      exact ⟨_, ds.length, rfl, .inr ⟨vs, by rw [g.hK]; exact q, r.length.symm⟩, kk _ _ _ (Same.refl _) (rs_int _) hp⟩
    case lst ds =>
      obtain ⟨a, vs, rfl, _, q, r⟩ := rep_lst hr.rep
      exact ⟨_, ds.length, rfl, .inl ⟨vs, .inl q, r.length.symm⟩, kk _ _ _ (Same.refl _) (rs_int _) hp⟩
  | isi ty =>
    have sh' : (if ty ∈ tys then asIsi (strOf ty) sc e else none) = some x := sh
    split at sh'
    case isFalse => cases sh'
    rename_i hty
    obtain ⟨hb, hm⟩ := boot_ty hty
    obtain ⟨p, q, pos, rfl, g1, pl, g2, nb⟩ := asIsi_of sh'
    have hq : PE X (.Name (strOf ty) q) (tC (.ty ty)) := pe_bltn (g.gl g2) (g.nob hm) hb rfl (nm_of nb).2.2 (nm_of nb).1
    refine (pe_callB call_isi (g.gl g1) (g.nob (by decide +kernel)) (by decide +kernel) (pa_cons ha (pa_cons hq pa_nil rfl) (plain_star pl)) (by decide +kernel) (by decide +kernel) (plain_star pl)).sub fun σ H R h => mt _ _ _ _ (fun v H1 ⟨Nn, d, Q, hr, hp, kk⟩ => ?_) h
    have hp' : (match isTy ty d with | some b => Q (.bl b) | none => False) := by cases d <;> exact hp
    cases e : isTy ty d with
    | none => rw [e] at hp'; exact hp'.elim
    | some b =>
      rw [e] at hp'
      unfold isTy at e
      cases e2 : tyName d with
      | none => rw [e2] at e; cases e
      | some n =>
        rw [e2] at e
        exact ⟨v, .ty ty, .type n, .type ty, b, rfl, .ty ty, by rw [g.hK]; exact tyX_of hr.rep e2, kit_ty e, kk _ _ _ (Same.refl _) (rs_bl _) hp'⟩
theorem op_pe {op : Operator} {r : R2} (ho : OpR X (binaryOp op) r) (sh : asBin op e = some (x, y)) (ha : PE X x ta) (hb : PE X y tb) : PE X e (fun σ H R => ta σ H fun v H1 => tb σ H1 fun w H2 => r v w H2 R) := by
  obtain ⟨pos, rfl⟩ := asBin_of sh
  exact pe_op ho ha hb
theorem cmp_pe {op : CmpOp} {r : R2} (ho : OpR X (compareOp op) r) (sh : asCmp op e = some (x, y)) (ha : PE X x ta) (hb : PE X y tb) : PE X e (fun σ H R => ta σ H fun v H1 => tb σ H1 fun w H2 => r v w H2 R) := by
  obtain ⟨pos, rfl, pl⟩ := asCmp_of sh
  exact pe_cmpR ho ha hb (plain_mark pl)
theorem ix_pe {r : R2} (ho : IxR X r) (sh : asSub e = some (x, y)) (ha : PE X x ta) (hb : PE X y tb) : PE X e (fun σ H R => ta σ H fun v H1 => tb σ H1 fun w H2 => r v w H2 R) := by
  obtain ⟨pos, rfl, pl⟩ := asSub_of sh
  exact pe_ix ho ha hb (plain_ix pl)
theorem op_mulA : OpR X (binaryOp .Mult) (rI mulOk fun i j => .int (i * j)) := by
  intro pins s σ H x y v u Q I rx ry h
  obtain ⟨i, j, h1, h2, hc | hc, q⟩ := h
  · exact op_mul pins s σ H x y v u Q I rx ry ⟨i, j, h1, h2, hc, q⟩
  · exact op_mulW pins s σ H x y v u Q I rx ry ⟨i, j, h1, h2, hc, q⟩
theorem op_divA : OpR X (binaryOp .FloorDiv) (rI divOk fun i j => .int (i.fdiv j)) :=
  opI fun _ _ _ _ _ _ _ hc q => PyProof.Rows.floordiv_int hc.1 q (.inl (PyProof.noPylong_of_log2 hc.2))
/-- list + list, locked ones too -/
def rCatA : R2 := fun x y H Q => ∃ a b xs ys, x = .ref a ∧ y = .ref b ∧ Rd H a (.lst xs) ∧ Rd H b (.lst ys) ∧ xs.length + ys.length ≤ sizeLine ∧ ∀ p, H p = none → Q (.ref p) (upd H p (.lst (xs ++ ys)))
theorem op_catA : OpR X (binaryOp .Add) rCatA := by
  intro pins s σ H x y v u Q I rx ry h
  obtain ⟨a, b, xs, ys, rfl, rfl, ha, hb, hz, q⟩ := h
  cases rx
  cases ry
  obtain ⟨_, i1, n1, r1, e1⟩ := ha.ok I.hok
  obtain ⟨_, i2, n2, r2, e2⟩ := hb.ok I.hok
  have l1 := r1.length
  have l2 := r2.length
  refine PySem.P.add_list e1 e2 ?_ ?_
  · have e : i1.toArray ++ i2.toArray = (i1 ++ i2).toArray := by simp
    rw [e]
    refine ⟨.ref _, _, I.lnew (ys := xs ++ ys) (t' := s.toks) (Vals.append r1 r2) ?_, rfl, q _ I.fresh⟩
    simpa using hz
  · simp only [List.size_toArray]
    omega
def rAddA : R2 := fun x y H Q => (∃ i j, x = .int i ∧ y = .int j ∧ Q (.int (i + j)) H) ∨ (∃ i j, x = .str i ∧ y = .str j ∧ i.length + j.length ≤ sizeLine ∧ Q (.str (i ++ j)) H) ∨ rCatA x y H Q
theorem op_addA : OpR X (binaryOp .Add) rAddA := op_add.or (op_add_str.or op_catA)
/-- two tests that both sides have been read -/
theorem two (mt : MonE ta) (mb : MonE tb) {σ : St} {H : Hp} {p q : V → V → Hp → Prop} (i : ∀ v w H, p v w H → q v w H) (h : ta σ H fun v H1 => tb σ H1 fun w H2 => p v w H2) : ta σ H fun v H1 => tb σ H1 fun w H2 => q v w H2 :=
  mt _ _ _ _ (fun v H1 z => mb _ _ _ _ (fun w H2 z => i v w H2 z) z) h
theorem p2_int {p : P2} {op : V → V → Hp → Prop} {C : Int → Int → Prop} {g : Int → Int → Int} {t u : T} {R : VK} {v w : V} {H : Hp} (h : A2 G p t u .im R v w H)
    (ho : ∀ d d2 Q, p2 p d d2 Q → ∃ i j, d = .int i ∧ d2 = .int j ∧ C i j ∧ Q (.int (g i j))) : ∃ i j, v = .int i ∧ w = .int j ∧ C i j ∧ R (.int (g i j)) H := by
  obtain ⟨Nn, d, d2, Q, h1, h2, hp, kk⟩ := h
  obtain ⟨i, j, rfl, rfl, c, q⟩ := ho _ _ _ hp
  obtain rfl := rep_int h1.rep
  obtain rfl := rep_int h2.rep
  exact ⟨i, j, rfl, rfl, c, kk _ _ _ (Same.refl _) (rs_int _) q⟩
theorem p2_bl {p : P2} {g : Int → Int → Bool} {t u : T} {R : VK} {v w : V} {H : Hp} (h : A2 G p t u .im R v w H)
    (ho : ∀ d d2 Q, p2 p d d2 Q → ∃ i j, d = .int i ∧ d2 = .int j ∧ Q (.bl (g i j))) : ∃ i j, v = .int i ∧ w = .int j ∧ R (.bl (g i j)) H := by
  obtain ⟨Nn, d, d2, Q, h1, h2, hp, kk⟩ := h
  obtain ⟨i, j, rfl, rfl, q⟩ := ho _ _ _ hp
  obtain rfl := rep_int h1.rep
  obtain rfl := rep_int h2.rep
  exact ⟨i, j, rfl, rfl, kk _ _ _ (Same.refl _) (rs_bl _) q⟩
/-- which operator, which comparison a two-place operation is -/
def binOf : P2 → Option Operator
  | .add => some .Add
  | .sub => some .Sub
  | .mul => some .Mult
  | .fdiv => some .FloorDiv
  | .mod => some .Mod
  | .pow => some .Pow
  | _ => none
def cmpOf : P2 → Option CmpOp
  | .eq => some .Eq
  | .ne => some .NotEq
  | .lt => some .Lt
  | .le => some .LtE
  | .gt => some .Gt
  | .ge => some .GtE
  | _ => none
theorem p2_bin {p : P2} {op : Operator} (ho : binOf p = some op) {t u t' : T} (ft : t.flat = true) (fu : u.flat = true) (ht : p2T p t u = some t') : ∃ r : R2, OpR X (binaryOp op) r ∧ ∀ v w H R, A2 G p t u t' R v w H → r v w H R := by
  cases p <;> cases ho
  case add =>
    refine ⟨_, op_addA, fun v w H1 R h => ?_⟩
    simp only [p2T] at ht
    split at ht
    · obtain rfl := Option.some.inj ht
      obtain ⟨Nn, d, d2, Q, h1, h2, hp, kk⟩ := h
      cases d <;> cases d2 <;> try exact hp.elim
      · obtain rfl := rep_int h1.rep
        obtain rfl := rep_int h2.rep
        exact .inl ⟨_, _, rfl, rfl, kk _ _ _ (Same.refl _) (rs_int _) hp⟩
      · obtain rfl := rep_str h1.rep
        obtain rfl := rep_str h2.rep
        exact .inr (.inl ⟨_, _, rfl, rfl, hp.1, kk _ _ _ (Same.refl _) (rs_str _) hp.2⟩)
      · rename_i z _ _
        rw [z.1] at h1
        obtain ⟨_, _, _, n, _⟩ := rep_lst (N := N0) h1
        exact n.elim
    · split at ht
      · rename_i c
        simp only [Bool.and_eq_true] at c
        obtain ⟨⟨ff, f1⟩, f2⟩ := c
        obtain rfl := Option.some.inj ht
        obtain ⟨Nn, d, d2, Q, h1, h2, hp, kk⟩ := h
        cases d <;> cases d2 <;> try exact hp.elim
        · obtain rfl := rep_int h1.rep
          obtain rfl := rep_int h2.rep
          exact .inl ⟨_, _, rfl, rfl, kk _ _ _ (Same.refl _) ⟨[], .nil, fun _ z => absurd z (by simp), .owx (.int _)⟩ hp⟩
        · obtain rfl := rep_str h1.rep
          obtain rfl := rep_str h2.rep
          exact .inr (.inl ⟨_, _, rfl, rfl, hp.1, kk _ _ _ (Same.refl _) ⟨[], .nil, fun _ z => absurd z (by simp), .owx (.str _)⟩ hp.2⟩)
        · obtain ⟨a, vs, rfl, _, q1, p1⟩ := repB_lst ft h1
          obtain ⟨b, ws, rfl, _, q2, p2⟩ := repB_lst fu h2
          refine .inr (.inr ⟨a, b, vs, ws, rfl, rfl, q1, q2, by rw [pair_len p1, pair_len p2]; exact hp.1, fun p hn => kk _ _ _ (same_new hn) (rs_new hn ff (pair_append ?_ ?_)) hp.2⟩)
          · exact pimp p1 fun _ _ z => z.le f1
          · exact pimp p2 fun _ _ z => z.le f2
      · cases ht
  case sub =>
    cases ht
    refine ⟨_, op_sub, fun v w H1 R h => ?_⟩
    obtain ⟨i, j, h1, h2, -, q⟩ := p2_int (C := fun _ _ => True) (op := fun _ _ _ => True) h fun d d2 Q hp => by cases d <;> cases d2 <;> first | exact ⟨_, _, rfl, rfl, trivial, hp⟩ | exact hp.elim
    exact ⟨i, j, h1, h2, q⟩
  case mul =>
    cases ht
    refine ⟨_, op_mulA, fun v w H1 R h => ?_⟩
    exact p2_int (C := mulOk) (op := fun _ _ _ => True) h fun d d2 Q hp => by cases d <;> cases d2 <;> first | exact ⟨_, _, rfl, rfl, hp.1, hp.2⟩ | exact hp.elim
  case fdiv =>
    cases ht
    refine ⟨_, op_divA, fun v w H1 R h => ?_⟩
    exact p2_int (C := divOk) (op := fun _ _ _ => True) h fun d d2 Q hp => by cases d <;> cases d2 <;> first | exact ⟨_, _, rfl, rfl, hp.1, hp.2⟩ | exact hp.elim
  case mod =>
    cases ht
    refine ⟨_, op_modN, fun v w H1 R h => ?_⟩
    exact p2_int (C := fun _ j => j ≠ 0) (op := fun _ _ _ => True) h fun d d2 Q hp => by cases d <;> cases d2 <;> first | exact ⟨_, _, rfl, rfl, hp.1, hp.2⟩ | exact hp.elim
  case pow =>
    cases ht
    refine ⟨_, op_pow, fun v w H1 R h => ?_⟩
    exact p2_int (C := CPow) (op := fun _ _ _ => True) h fun d d2 Q hp => by cases d <;> cases d2 <;> first | exact ⟨_, _, rfl, rfl, hp.1, hp.2⟩ | exact hp.elim
theorem p2_cmp (g : Good G k N sc X) {p : P2} {op : CmpOp} (ho : cmpOf p = some op) {t u t' : T} (ft : t.flat = true) (fu : u.flat = true) (ht : p2T p t u = some t') : ∃ r : R2, OpR X (compareOp op) r ∧ ∀ v w H R, A2 G p t u t' R v w H → r v w H R := by
  cases p <;> cases ho
  case eq =>
    cases ht
    refine ⟨_, op_eqD g.u, fun v w H1 R h => ?_⟩
    obtain ⟨Nn, d, d2, Q, h1, h2, hp, kk⟩ := h
    have hp' : okEq d d2 ∧ Q (.bl (PyData.eqv d.py d2.py)) := by cases d <;> exact hp
    exact ⟨_, _, by rw [g.hK]; exact dp_of h1.rep hp'.1.1, by rw [g.hK]; exact dp_of h2.rep hp'.1.2.1, hp'.1.2.2.1, hp'.1.2.2.2, kk _ _ _ (Same.refl _) (rs_bl _) hp'.2⟩
  case ne =>
    cases ht
    refine ⟨_, op_neD g.u, fun v w H1 R h => ?_⟩
    obtain ⟨Nn, d, d2, Q, h1, h2, hp, kk⟩ := h
    have hp' : okEq d d2 ∧ Q (.bl (!PyData.eqv d.py d2.py)) := by cases d <;> exact hp
    exact ⟨_, _, by rw [g.hK]; exact dp_of h1.rep hp'.1.1, by rw [g.hK]; exact dp_of h2.rep hp'.1.2.1, hp'.1.2.2.1, hp'.1.2.2.2, kk _ _ _ (Same.refl _) (rs_bl _) hp'.2⟩
  case lt =>
    cases ht
    refine ⟨_, op_lt, fun v w H1 R h => ?_⟩
    exact p2_bl h fun d d2 Q hp => by cases d <;> cases d2 <;> first | exact ⟨_, _, rfl, rfl, hp⟩ | exact hp.elim
  case le =>
    cases ht
    refine ⟨_, op_le, fun v w H1 R h => ?_⟩
    exact p2_bl h fun d d2 Q hp => by cases d <;> cases d2 <;> first | exact ⟨_, _, rfl, rfl, hp⟩ | exact hp.elim
  case gt =>
    cases ht
    refine ⟨_, op_gt, fun v w H1 R h => ?_⟩
    exact p2_bl h fun d d2 Q hp => by cases d <;> cases d2 <;> first | exact ⟨_, _, rfl, rfl, hp⟩ | exact hp.elim
  case ge =>
    cases ht
    refine ⟨_, op_ge, fun v w H1 R h => ?_⟩
    exact p2_bl h fun d d2 Q hp => by cases d <;> cases d2 <;> first | exact ⟨_, _, rfl, rfl, hp⟩ | exact hp.elim
theorem p2_ix (g : Good G k N sc X) {t u t' : T} (ft : t.flat = true) (fu : u.flat = true) (ht : p2T .idx t u = some t') : ∀ v w H R, A2 G .idx t u t' R v w H → rIx X.K v w H R := by
  intro v w H1 R h
  simp only [p2T] at ht
  split at ht
  · rename_i fe
    obtain rfl := Option.some.inj ht
    obtain ⟨Nn, d, d2, Q, h1, h2, hp, kk⟩ := h
    cases d <;> cases d2 <;> try exact hp.elim
    case str.int s i =>
      obtain ⟨z, c, hc, q⟩ := hp
      obtain rfl := rep_str h1.rep
      obtain rfl := rep_int h2.rep
      refine .inr (.inr ⟨_, _, c, rfl, rfl, z, hc, kk _ _ _ (Same.refl _) ?_ q⟩)
      exact rs_bo fe (RepB.of_im (.str _))
    case tup.int ds i =>
      obtain ⟨d, hd, q⟩ := hp
      obtain ⟨a, vs, rfl, hs, pp⟩ := repB_tup ft h1
      obtain rfl := rep_int h2.rep
      obtain ⟨v, hv, rv⟩ := pair_at pp hd
      exact .inr (.inl ⟨a, vs, i, v, rfl, rfl, by rw [g.hK]; exact hs, hv, kk _ _ _ (Same.refl _) (rs_bo fe rv) q⟩)
    case lst.int ds i =>
      obtain ⟨d, hd, q⟩ := hp
      obtain ⟨a, vs, rfl, _, hs, pp⟩ := repB_lst ft h1
      obtain rfl := rep_int h2.rep
      obtain ⟨v, hv, rv⟩ := pair_at pp hd
      exact .inl ⟨a, vs, i, v, rfl, rfl, .inl hs, hv, kk _ _ _ (Same.refl _) (rs_bo fe rv) q⟩
  · cases ht
theorem sh2_bin {p : P2} {op : Operator} (ho : binOf p = some op) : sh2 p sc e = asBin op e := by cases p <;> cases ho <;> rfl
theorem sh2_cmp {p : P2} {op : CmpOp} (ho : cmpOf p = some op) : sh2 p sc e = asCmp op e := by cases p <;> cases ho <;> rfl
theorem p2_ok (g : Good G k N sc X) (mt : MonE ta) (mb : MonE tb) (ha : PE X x ta) (hb : PE X y tb) : ∀ {p : P2} {t u t' : T}, t.flat = true → u.flat = true → sh2 p sc e = some (x, y) → p2T p t u = some t' →
    PE X e (fun σ H R => ta σ H fun v H1 => tb σ H1 fun w H2 => A2 G p t u t' R v w H2) := by
  intro p t u t' ft fu sh ht
  cases hb1 : binOf p with
  | some op =>
    rw [sh2_bin hb1] at sh
    obtain ⟨r, hr, i⟩ := p2_bin (X := X) (G := G) hb1 ft fu ht
    exact (op_pe hr sh ha hb).sub fun σ H R h => two mt mb (fun v w H1 h => i v w H1 R h) h
  | none =>
    cases hc : cmpOf p with
    | some op =>
      rw [sh2_cmp hc] at sh
      obtain ⟨r, hr, i⟩ := p2_cmp g hc ft fu ht
      exact (cmp_pe hr sh ha hb).sub fun σ H R h => two mt mb (fun v w H1 h => i v w H1 R h) h
    | none =>
      obtain rfl : p = .idx := by cases p <;> simp_all [binOf, cmpOf]
      exact (ix_pe ix_seq sh ha hb).sub fun σ H R h => two mt mb (fun v w H1 h => p2_ix g ft fu ht v w H1 R h) h
end
end Pv

set_option maxRecDepth 100000
set_option maxHeartbeats 1000000
namespace Pv
open PySem L2
section
variable {K : PySem.W.Frag} {cls : Nat → Addr} {N N' : Addr → Prop} {H H' : Hp}
mutual
theorem ReT.le : ∀ {t u : T} {v : V} {d : D} {F : List Addr}, T.le t u = true → ReT K cls N H t v d F → ReT K cls N H u v d F
  | t, u, v, d, _, e, .bo f h => by
    cases t with
    | im =>
      cases u with
      | im => exact .bo rfl h
      | sh => exact .bo rfl (RepB.of_im h)
      | ow u => exact .owx h
      | s u => exact .bo (t := .s u) e (RepB.of_im h)
    | sh => cases u <;> first | exact .bo rfl h | cases e
    | s t =>
      cases u with
      | im => cases e
      | sh => exact .bo rfl (RepB.le (t := .s t) (u := .sh) rfl h)
      | s u => exact .bo (Bool.and_eq_true_iff.mp e).1 (RepB.le (t := .s t) (u := .s u) e h)
      | ow u => cases e
    | ow t => cases f
  | .ow t, .ow u, v, d, _, e, .owx h => .owx h
  | .ow t, .ow u, _, _, _, e, .owl h r => .owl h (ReTs.le e r)
  | .ow t, .ow u, _, _, _, e, .owK h r => .owK h (ReTs.le e r)
  | .ow t, .ow u, _, _, _, e, .owT h r => .owT h (ReTs.le e r)
theorem ReTs.le : ∀ {t u : T} {v : List V} {d : List D} {F : List Addr}, T.le t u = true → ReTs K cls N H t v d F → ReTs K cls N H u v d F
  | _, _, _, _, _, _, .nil => .nil
  | _, _, _, _, _, e, .cons h r => .cons (ReT.le e h) (ReTs.le e r)
end
end
/-! ### who owns what an expression hands back: its kind, and the slots whose things it may hold -/
def T.leaf : T → Bool
  | .im => true
  | .ow t => t.leaf
  | _ => false
def joins : List T → T
  | [] => .im
  | t :: ts => T.join t (joins ts)
def lesB : List T → List T → Bool
  | [], [] => true
  | t :: ts, u :: us => T.le t.bor u && lesB ts us
  | _, _ => false
def als (t : T) (A : List Nat) : List Nat := if t = .im then [] else A
def lstT (ts : List T) : T := if ts.all (fun t => T.le t (joins ts)) then joins ts else .sh
def tupT (ts : List T) : T := if joins (ts.map T.bor) = .im then .im else if ts.all (fun t => T.le t.bor (joins (ts.map T.bor))) && (joins (ts.map T.bor)).flat then .s (joins (ts.map T.bor)) else .sh
mutual
def cE (fns : List FnI) (Γ : List T) : CE → Option (T × List Nat)
  | .var i => match Γ[i]? with
    | some t => some (t.bor, if t = .im then [] else [i])
    | none => none
  | .int _ => some (.im, [])
  | .str _ => some (.im, [])
  | .bl _ => some (.im, [])
  | .non => some (.im, [])
  | .o1 p a => match cE fns Γ a with
    | some (t, A) => match p1T p t.bor with
      | some t' => some (t', als t' A)
      | none => none
    | none => none
  | .o2 p a b => match cE fns Γ a, cE fns Γ b with
    | some (t, A), some (u, B) => match p2T p t.bor u.bor with
      | some t' => some (t', als t' (A ++ B))
      | none => none
    | _, _ => none
  | .and a b => match cE fns Γ a, cE fns Γ b with
    | some _, some (u, B) => some (u.bor, B)
    | _, _ => none
  | .or a b => match cE fns Γ a, cE fns Γ b with
    | some _, some (u, B) => some (u.bor, B)
    | _, _ => none
  | .not a => match cE fns Γ a with
    | some _ => some (.im, [])
    | none => none
  | .ifx c a b => match cE fns Γ c, cE fns Γ a, cE fns Γ b with
    | some _, some (t, A), some (u, B) => let j := T.join t.bor u.bor
      if T.le t.bor j && T.le u.bor j then some (j, A ++ B) else none
    | _, _, _ => none
  | .lst es => match cL fns Γ es with
    | some (ts, A) => if (ts.all fun t => T.le t (lstT ts)) then some (.ow (lstT ts), A) else if ts.all (fun t => T.le t.bor .sh) then some (.ow .sh, A) else none
    | none => none
  | .tup es => match cL fns Γ es with
    | some (ts, A) => if (ts.all fun t => T.le t.bor (tupT ts).el) && (tupT ts).flat then some (tupT ts, A) else none
    | none => none
  | .call f es => match cL fns Γ es, fns[f]? with
    | some (ts, A), some i => if lesB ts i.sg then some (i.rt, if i.rt.leaf then [] else A) else none
    | _, _ => none
  | _ => none
def cL (fns : List FnI) (Γ : List T) : CE → Option (List T × List Nat)
  | .nil => some ([], [])
  | .cons a b => match cE fns Γ a, cL fns Γ b with
    | some (t, A), some (ts, B) => some (t :: ts, A ++ B)
    | _, _ => none
  | _ => none
end
/-! ### readings -/
def NA (L : Nat → Addr → Prop) (H : Hp) (A : List Nat) : Addr → Prop := fun a => (∃ i ∈ A, L i a) ∨ H a = none
theorem NA.old {L} {H H' : Hp} {A : List Nat} (e : Same H H') : ∀ a, NA L H' A a → NA L H A a := fun a z => z.imp_right fun q => e.free q
theorem NA.mono {L H} {A B : List Nat} (h : ∀ i ∈ A, i ∈ B) : ∀ a, NA L H A a → NA L H B a := fun a z => z.imp_left fun ⟨i, hi, q⟩ => ⟨i, h i hi, q⟩
section
variable (K : PySem.W.Frag) (cls : Nat → Addr)
def RS (L : Nat → Addr → Prop) (H1 H' : Hp) (t : T) (A : List Nat) (v : V) (d : D) : Prop :=
  ∃ F, F.Nodup ∧ (∀ a ∈ F, H1 a = none) ∧ ReT K cls (fun a => NA L H1 A a ∧ a ∉ F) H' t v d F
inductive ReTL (N : Addr → Prop) (H : Hp) : List T → List V → List D → List Addr → Prop
  | nil : ReTL N H [] [] [] []
  | cons {t : T} {ts : List T} {v : V} {vs : List V} {d : D} {ds : List D} {F F' : List Addr} : ReT K cls N H t v d F → ReTL N H ts vs ds F' → ReTL N H (t :: ts) (v :: vs) (d :: ds) (F ++ F')
def RSL (L : Nat → Addr → Prop) (H1 H' : Hp) (ts : List T) (A : List Nat) (vs : List V) (ds : List D) : Prop :=
  ∃ F, F.Nodup ∧ (∀ a ∈ F, H1 a = none) ∧ ReTL K cls (fun a => NA L H1 A a ∧ a ∉ F) H' ts vs ds F
def ER (Γ : List T) (L : Nat → Addr → Prop) (H : Hp) (σ : St) (env : Env) : Prop :=
  σ.length = env.length ∧ (∀ i a, L i a → H a ≠ none) ∧ ∀ i d, env[i]? = some (some d) → ∃ v t, σ[i]? = some (some v) ∧ Γ[i]? = some t ∧ RepB K cls (L i) H t.bor v d
end
theorem some_same {H H' : Hp} (e : Same H H') {a : Addr} (h : H a ≠ none) : H' a ≠ none := fun q => h (e.free q)
theorem ER.mono {K cls Γ L} {H H' : Hp} {σ : St} {env : Env} (e : Same H H') (h : ER K cls Γ L H σ env) : ER K cls Γ L H' σ env :=
  ⟨h.1, fun i a z => some_same e (h.2.1 i a z), fun i d q => let ⟨v, t, h1, h2, h3⟩ := h.2.2 i d q; ⟨v, t, h1, h2, h3.mono e fun _ z => z⟩⟩
section
variable (G : Glob) (C : CallW) (Γ : List T) (L : Nat → Addr → Prop)
def tS (c : CE) (t : T) (A : List Nat) : TE := fun σ H1 R => ∃ env Q, ER G.K G.cls Γ L H1 σ env ∧ E C c env Q ∧ ∀ v H' d, Same H1 H' → RS G.K G.cls L H1 H' t A v d → Q d → R v H'
def tSL (c : CE) (ts : List T) (A : List Nat) : TA := fun σ H1 R => ∃ env Q, ER G.K G.cls Γ L H1 σ env ∧ Es C c env Q ∧ ∀ vs H' ds, Same H1 H' → RSL G.K G.cls L H1 H' ts A vs ds → Q ds → R vs H'
def tST (c : CE) : TT := fun σ H1 R => ∃ env P1 P2, ER G.K G.cls Γ L H1 σ env ∧ E C c env (fun d => onB d P1 P2) ∧ (∀ H', Same H1 H' → P1 → R true H') ∧ ∀ H', Same H1 H' → P2 → R false H'
end
section
variable {G : Glob} {C : CallW} {Γ : List T} {L : Nat → Addr → Prop}
theorem tS_mon {c : CE} {t : T} {A : List Nat} : MonE (tS G C Γ L c t A) := fun σ H R R' i ⟨env, Q, h1, h3, h4⟩ => ⟨env, Q, h1, h3, fun v H' d a b c => i _ _ (h4 v H' d a b c)⟩
variable {K : PySem.W.Frag} {cls : Nat → Addr} {H1 H2 H' H'' : Hp}
theorem RS.im {A : List Nat} {v : V} {d : D} (h : Rep K cls N0 H' v d) : RS K cls L H1 H' .im A v d := ⟨[], .nil, fun _ z => absurd z (by simp), .bo rfl h⟩
theorem RS.bo {t : T} {A : List Nat} {v : V} {d : D} (f : t.flat = true) (h : RepB K cls (NA L H1 A) H' t v d) : RS K cls L H1 H' t A v d := ⟨[], .nil, fun _ z => absurd z (by simp), .bo f (h.mono (Same.refl _) fun a z => ⟨z, by simp⟩)⟩
/-- borrowed, at a later heap -/
theorem RS.bor {t : T} {A : List Nat} {v : V} {d : D} (s2 : Same H' H'') (h : RS K cls L H1 H' t A v d) : RepB K cls (NA L H1 A) H'' t.bor v d := by
  obtain ⟨F, nd, fr, r⟩ := h
  refine r.bor.mono s2 fun a z => ?_
  rcases z with ⟨z, _⟩ | z
  · exact z
  · exact .inr (fr a z)
theorem RS.flatten {t : T} {A : List Nat} {v : V} {d : D} (s : Same H2 H1) (s2 : Same H' H'') (h : RS K cls L H1 H' t A v d) : RS K cls L H2 H'' t.bor A v d :=
  .bo (flat_bor t) ((h.bor s2).mono (Same.refl _) (NA.old s))
theorem RS.wk {t : T} {A B : List Nat} {v : V} {d : D} (i : ∀ i ∈ A, i ∈ B) (h : RS K cls L H1 H' t A v d) : RS K cls L H1 H' t B v d := by
  obtain ⟨F, nd, fr, r⟩ := h
  exact ⟨F, nd, fr, r.mono (Same.refl _) fun a z => ⟨NA.mono i a z.1, z.2⟩⟩
/-- what an operation on things at A hands back -/
theorem rs_of {t : T} {A : List Nat} {v : V} {d : D} (s2 : Same H1 H2) (h : RSp K cls (NA L H1 A) H2 H' t v d) : RS K cls L H1 H' t (als t A) v d := by
  obtain ⟨F, nd, fr, r⟩ := h
  by_cases e : t = .im
  · subst e
    cases r with
    | bo f h => exact .im h
  · unfold als
    rw [if_neg e]
    refine ⟨F, nd, fun a z => s2.free (fr a z), r.mono (Same.refl _) fun a z => ⟨?_, z.2⟩⟩
    rcases z.1 with q | q
    · exact q
    · exact .inr (s2.free q)
mutual
theorem leaf_N {N N' : Addr → Prop} : ∀ {t : T} {v : V} {d : D} {F : List Addr}, t.leaf = true → ReT K cls N H' t v d F → ReT K cls N' H' t v d F
  | t, _, _, _, f, .bo q h => by
    cases t with
    | im => exact .bo rfl h
    | ow t => cases q
    | _ => cases f
  | .ow _, _, _, _, _, .owx h => .owx h
  | .ow _, _, _, _, f, .owl h r => .owl h (leafs_N f r)
  | .ow _, _, _, _, f, .owK h r => .owK h (leafs_N f r)
  | .ow _, _, _, _, f, .owT h r => .owT h (leafs_N f r)
theorem leafs_N {N N' : Addr → Prop} : ∀ {t : T} {v : List V} {d : List D} {F : List Addr}, t.leaf = true → ReTs K cls N H' t v d F → ReTs K cls N' H' t v d F
  | _, _, _, _, _, .nil => .nil
  | _, _, _, _, f, .cons h r => .cons (leaf_N f h) (leafs_N f r)
end
theorem ReTL.mono {N N' : Addr → Prop} (e : Same H' H'') (n : ∀ a, N a → N' a) : ∀ {ts : List T} {vs : List V} {ds : List D} {F : List Addr}, ReTL K cls N H' ts vs ds F → ReTL K cls N' H'' ts vs ds F
  | _, _, _, _, .nil => .nil
  | _, _, _, _, .cons h r => .cons (h.mono e n) (ReTL.mono e n r)
theorem ReTL.same {N : Addr → Prop} {t : T} : ∀ {ts : List T} {vs : List V} {ds : List D} {F : List Addr}, (ts.all fun u => T.le u t) = true → ReTL K cls N H' ts vs ds F → ReTs K cls N H' t vs ds F
  | _, _, _, _, _, .nil => .nil
  | _, _, _, _, e, .cons h r => by
    rw [List.all_cons, Bool.and_eq_true] at e
    exact .cons (h.le e.1) (ReTL.same e.2 r)
theorem ReTL.bor {N : Addr → Prop} {t : T} : ∀ {ts : List T} {vs : List V} {ds : List D} {F : List Addr}, (ts.all fun u => T.le u.bor t) = true → ReTL K cls N H' ts vs ds F → Paired (RepB K cls (fun a => N a ∨ a ∈ F) H' t) vs ds
  | _, _, _, _, _, .nil => .nil
  | _, _, _, _, e, .cons h r => by
    rw [List.all_cons, Bool.and_eq_true] at e
    refine .cons ((h.bor.le e.1).mono (Same.refl _) fun a z => z.imp_right fun z => List.mem_append_left _ z) (pimp (ReTL.bor e.2 r) fun _ _ z => z.mono (Same.refl _) fun a z => z.imp_right fun z => List.mem_append_right _ z)
theorem ReTL.args {N : Addr → Prop} : ∀ {ts us : List T} {vs : List V} {ds : List D} {F : List Addr}, lesB ts us = true → ReTL K cls N H' ts vs ds F → ArgsB K cls (fun a => N a ∨ a ∈ F) H' us vs ds
  | [], us, _, _, _, e, .nil => by cases us <;> first | exact .nil | cases e
  | t :: ts, [], _, _, _, e, .cons h r => by cases e
  | t :: ts, u :: us, _, _, _, e, .cons h r => by
    have e' := Bool.and_eq_true_iff.mp e
    refine .cons ((h.bor.le e'.1).mono (Same.refl _) fun a z => z.imp_right fun z => List.mem_append_left _ z) ?_
    have q := ReTL.args e'.2 r
    exact args_mono (fun a z => z.imp_right fun z => List.mem_append_right _ z) q
where
  args_mono {N N' : Addr → Prop} (n : ∀ a, N a → N' a) : ∀ {ts : List T} {vs : List V} {ds : List D}, ArgsB K cls N H' ts vs ds → ArgsB K cls N' H' ts vs ds
  | _, _, _, .nil => .nil
  | _, _, _, .cons h r => .cons (h.mono (Same.refl _) n) (args_mono n r)
theorem ReTL.length {N : Addr → Prop} : ∀ {ts : List T} {vs : List V} {ds : List D} {F : List Addr}, ReTL K cls N H' ts vs ds F → vs.length = ts.length ∧ ds.length = ts.length
  | _, _, _, _, .nil => ⟨rfl, rfl⟩
  | _, _, _, _, .cons _ r => by simp [ReTL.length r]
mutual
theorem ReT.dom {N : Addr → Prop} : ∀ {t : T} {v : V} {d : D} {F : List Addr}, ReT K cls N H' t v d F → ReT K cls (fun a => N a ∧ H' a ≠ none) H' t v d F
  | _, _, _, _, .bo q h => .bo q h.dom
  | .ow _, _, _, _, .owx h => .owx h
  | .ow _, _, _, _, .owl h r => .owl h (ReTs.dom r)
  | .ow _, _, _, _, .owK h r => .owK h (ReTs.dom r)
  | .ow _, _, _, _, .owT h r => .owT h (ReTs.dom r)
theorem ReTs.dom {N : Addr → Prop} : ∀ {t : T} {v : List V} {d : List D} {F : List Addr}, ReTs K cls N H' t v d F → ReTs K cls (fun a => N a ∧ H' a ≠ none) H' t v d F
  | _, _, _, _, .nil => .nil
  | _, _, _, _, .cons h r => .cons h.dom (ReTs.dom r)
end
theorem rs_lst1 {ts : List T} {t : T} {A : List Nat} {vs : List V} {ds : List D} {p : Addr} (s : Same H1 H') (hp : H' p = none) (hl : (ts.all fun u => T.le u t) = true) (h : RSL K cls L H1 H' ts A vs ds) :
    RS K cls L H1 (upd H' p (.lst vs)) (.ow t) A (.ref p) (.lst ds) := by
  obtain ⟨F, nd, fr, r⟩ := h
  have r1 := ReTL.same hl r
  have pF : p ∉ F := fun z => by
    have := r1.box p z
    rw [hp] at this
    exact this
  refine ⟨p :: F, List.nodup_cons.mpr ⟨pF, nd⟩, fun a z => ?_, .owl upd_same (r1.dom.mono (same_new hp) fun a z => ⟨z.1.1, fun q => ?_⟩)⟩
  · rcases List.mem_cons.mp z with rfl | z
    · exact s.free hp
    · exact fr a z
  · rcases List.mem_cons.mp q with rfl | q
    · exact z.2 hp
    · exact z.1.2 q
theorem rs_lst2 {ts : List T} {t : T} {A : List Nat} {vs : List V} {ds : List D} {p : Addr} (s : Same H1 H') (hp : H' p = none) (f : t.flat = true) (hl : (ts.all fun u => T.le u.bor t) = true) (h : RSL K cls L H1 H' ts A vs ds) :
    RS K cls L H1 (upd H' p (.lst vs)) (.ow t) A (.ref p) (.lst ds) := by
  obtain ⟨F, nd, fr, r⟩ := h
  have r1 := ReTL.bor hl r
  refine ⟨[p], by simp, fun a z => by rw [List.mem_singleton.mp z]; exact s.free hp, .owl (F := []) upd_same (ReTs.of_flat f (pimp r1 fun _ _ z => ?_))⟩
  refine z.dom.mono (same_new hp) fun a q => ⟨?_, fun z => q.2 (by rw [List.mem_singleton.mp z]; exact hp)⟩
  rcases q.1 with q | q
  · exact q.1
  · exact .inr (fr a q)
theorem rs_tup {ts : List T} {t : T} {A : List Nat} {vs : List V} {ds : List D} {p : Addr} (s : Same H1 H') (hp : H' p = none) (f : t.flat = true) (hl : (ts.all fun u => T.le u.bor t.el) = true) (ht : t = .im ∨ t = .sh ∨ ∃ u, t = .s u) (h : RSL K cls L H1 H' ts A vs ds) :
    RS K cls L H1 (upd H' p (.tup vs)) t A (.ref p) (.tup ds) := by
  obtain ⟨F, nd, fr, r⟩ := h
  have r1 := pimp (ReTL.bor hl r) fun _ _ z => (z.mono (same_new (o := .tup vs) hp) (N' := NA L H1 A) fun a q => by
    rcases q with q | q
    · exact q.1
    · exact .inr (fr a q))
  refine .bo f ?_
  rcases ht with rfl | rfl | ⟨u, rfl⟩
  · exact .tup (SqT.of upd_same) (.of r1)
  · exact .tup (SqT.of upd_same) (.of r1)
  · exact .tup (SqT.of upd_same) r1
end
end Pv

set_option maxRecDepth 100000
set_option maxHeartbeats 1000000
namespace Pv
open PySem L2
theorem asBool_of {op : BoolOp} {e x y : Expr} (h : asBool op e = some (x, y)) : (∃ pos, e = .BoolOp op [x, y] pos) ∨ ∃ a b r pos, y = .BoolOp op (a :: b :: r) pos ∧ e = .BoolOp op (x :: a :: b :: r) pos := by
  unfold asBool at h
  split at h
  · split at h
    · rename_i z; subst z; cases h; exact .inl ⟨_, rfl⟩
    · cases h
  · split at h
    · rename_i z; subst z; cases h; exact .inr ⟨_, _, _, _, rfl, rfl⟩
    · cases h
  · cases h
def boolB : Expr → Bool
  | .BoolOp .. => true
  | _ => false
def names (fns : List FnI) : List Str := fns.map (·.name)
theorem onB_imp {d : D} {p q p' q' : Prop} (h : onB d p q) (h1 : p → p') (h2 : q → q') : onB d p' q' := by
  unfold onB at h ⊢
  split <;> simp_all
theorem rep_onB {K cls N H} {v : V} {d : D} {p q : Prop} (r : Rep K cls N H v d) (h : onB d p q) : ∃ b, v = .bl b ∧ d = .bl b ∧ (b = true → p) ∧ (b = false → q) := by
  unfold onB at h
  split at h
  · exact ⟨true, rep_bl r, rfl, fun _ => h, fun z => by cases z⟩
  · exact ⟨false, rep_bl r, rfl, (fun z => by cases z), fun _ => h⟩
  · exact h.elim
theorem tup_flat {ts : List T} (h : (tupT ts).flat = true) : tupT ts = .im ∨ tupT ts = .sh ∨ ∃ t, tupT ts = .s t := by
  cases e : tupT ts with
  | im => exact .inl rfl
  | sh => exact .inr (.inl rfl)
  | s t => exact .inr (.inr ⟨t, rfl⟩)
  | ow t => rw [e] at h; cases h
theorem star_any {env : PySem.Env} {pos : Pos} : ∀ {xs : List Expr}, (∀ x ∈ xs, plainB x = true) → (backTo pos (starEach xs env)).any (·.1) = false
  | [], _ => rfl
  | x :: xs, h => by
    rw [plain_star (h x (by simp))]
    have ih := star_any (env := env) (pos := pos) (xs := xs) fun y hy => h y (by simp [hy])
    show (false || (backTo pos (starEach xs env)).any (·.1)) = false
    rw [ih]
    rfl
theorem mEs_plain {N fns : List Str} : ∀ (es : CE) {sc : Scope} {xs : List Expr}, mEs N fns es sc xs = true → ∀ x ∈ xs, plainB x = true
  | .cons a b, sc, xs, h => by
    unfold mEs at h
    split at h
    · simp only [Bool.and_eq_true] at h
      intro x hx
      rcases List.mem_cons.mp hx with rfl | hx
      · exact h.1.1
      · exact mEs_plain b h.2 x hx
    · cases h
  | .nil, sc, xs, h => by
    unfold mEs at h
    split at h
    · intro x hx; simp at hx
    · cases h
  | .var _, _, _, h | .int _, _, _, h | .str _, _, _, h | .bl _, _, _, h | .non, _, _, h | .o1 _ _, _, _, h | .o2 _ _ _, _, _, h | .and _ _, _, _, h | .or _ _, _, _, h | .not _, _, _, h | .ifx _ _ _, _, _, h | .lst _, _, _, h | .tup _, _, _, h | .call _ _, _, _, h | .rng1 _, _, _, h | .rng2 _ _, _, _, h | .rng3 _ _ _, _, _, h => by unfold mEs at h; cases h
section
variable {G : Glob} {k : Nat} {N : List Str} {Γ : List T} {L : Nat → Addr → Prop} {sc : Scope} {X : Cx}
theorem pt_ifx {X : Cx} {c a b : Expr} {pos : Pos} {tc ta tb : TT} (hc : PT X c tc) (ha : PT X a ta) (hb : PT X b tb) : PT X (.IfExp c a b pos) (fun σ H R => tc σ H fun d H1 => if d = true then ta σ H1 R else tb σ H1 R) := by
  refine ⟨fun pins s σ H R I h => ?_⟩
  show wpAny _ _ (isTrue c X.env (eval c X.env) >>= fun d => if d = true then isTrue a X.env (eval a X.env) else isTrue b X.env (eval b X.env)) _ _ _
  refine wpAny_bind (thn (hc.run pins s σ H _ I h) fun d s1 ⟨H1, I1, q1⟩ => ?_)
  cases d with
  | true => exact ha.run pins s1 σ H1 R I1 q1
  | false => exact hb.run pins s1 σ H1 R I1 q1
/-- a test that is a value -/
theorem _root_.L2.PW.sub {X : Cx} {e : Expr} {t t' : TT} (h : PW X e t) (i : ∀ σ H R, t' σ H R → t σ H R) : PW X e t' := ⟨fun wh pins s σ H R I q => h.run wh pins s σ H R I (i σ H R q)⟩
theorem test_val {c : CE} {e : Expr} {t : T} {A : List Nat} (h : PE X e (tS G (Cw (FTof G.fns) k) Γ L c t A)) (hv : valTest e = true) : PT X e (tST G (Cw (FTof G.fns) k) Γ L c) := by
  refine (pt_val h (val_test hv)).sub fun σ H R ⟨env, P1, P2, er, hE, k1, k2⟩ => ⟨env, _, er, hE, fun v H' d s' rs hd => ?_⟩
  obtain ⟨b, rfl, -, h1, h2⟩ := rep_onB (rs.bor (Same.refl _)).rep hd
  refine ⟨b, rfl, ?_⟩
  cases b with
  | true => exact k1 _ s' (h1 rfl)
  | false => exact k2 _ s' (h2 rfl)
mutual
theorem sE : ∀ (c : CE) {sc : Scope} {X : Cx} (g : Good G k N sc X) {Γ : List T} {L : Nat → Addr → Prop} {e : Expr} {t : T} {A : List Nat}, mE N (names G.fns) c sc e = true → cE G.fns Γ c = some (t, A) → PE X e (tS G (Cw (FTof G.fns) k) Γ L c t A)
  | .var i, sc, X, g, Γ, L, e, t, A, hm, hc => by
    unfold mE at hm
    split at hm
    · simp only [Bool.and_eq_true, decide_eq_true_eq] at hm
      obtain ⟨⟨hN, hv⟩, hn⟩ := hm
      unfold cE at hc
      split at hc
      · rename_i t' ht
        cases hc
        refine (pe_var (by rw [g.hN]; exact hN) (by rw [g.hsc]; exact vis_of hv) (nm_of hn).1 (nm_of hn).2.1).sub fun σ H R ⟨env, Q, er, hE, kk⟩ => ?_
        unfold E at hE
        split at hE
        · rename_i d hd
          obtain ⟨v, t2, h1, h2, h3⟩ := er.2.2 i d hd
          rw [ht] at h2
          cases h2
          refine ⟨v, h1, kk v H d (Same.refl _) (.bo (flat_bor t') ?_) hE⟩
          split
          · rename_i z
            subst z
            exact RepB.of_im h3
          · exact h3.mono (Same.refl _) fun a z => .inl ⟨i, by simp, z⟩
        · exact hE.elim
      · cases hc
    · cases hm
  | .int i, sc, X, g, Γ, L, e, t, A, hm, hc => by
    unfold mE at hm
    split at hm
    · cases of_decide_eq_true hm
      unfold cE at hc
      cases hc
      refine pe_int.sub fun σ H R ⟨env, Q, er, hE, kk⟩ => ?_
      unfold E at hE
      exact kk _ _ _ (Same.refl _) (.im (.int _)) hE
    · cases hm
  | .str i, sc, X, g, Γ, L, e, t, A, hm, hc => by
    unfold mE at hm
    split at hm
    · cases of_decide_eq_true hm
      unfold cE at hc
      cases hc
      refine pe_str.sub fun σ H R ⟨env, Q, er, hE, kk⟩ => ?_
      unfold E at hE
      exact kk _ _ _ (Same.refl _) (.im (.str _)) hE
    · cases hm
  | .bl i, sc, X, g, Γ, L, e, t, A, hm, hc => by
    unfold mE at hm
    split at hm
    · cases of_decide_eq_true hm
      unfold cE at hc
      cases hc
      refine pe_bl.sub fun σ H R ⟨env, Q, er, hE, kk⟩ => ?_
      unfold E at hE
      exact kk _ _ _ (Same.refl _) (.im (.bl _)) hE
    · cases hm
  | .non, sc, X, g, Γ, L, e, t, A, hm, hc => by
    unfold mE at hm
    split at hm
    · unfold cE at hc
      cases hc
      refine pe_non.sub fun σ H R ⟨env, Q, er, hE, kk⟩ => ?_
      unfold E at hE
      exact kk _ _ _ (Same.refl _) (.im .non) hE
    · cases hm
  | .o1 p a, sc, X, g, Γ, L, e, t, A, hm, hc => by
    unfold mE at hm
    split at hm
    · rename_i x sh
      unfold cE at hc
      split at hc
      · rename_i ta Aa ha
        split at hc
        · rename_i t' ht
          cases hc
          refine (p1_ok g tS_mon (sE a g (Γ := Γ) (L := L) hm ha) (flat_bor ta) sh ht).sub fun σ H R ⟨env, Q, er, hE, kk⟩ => ?_
          unfold E at hE
          exact ⟨env, _, er, hE, fun v H' d s' rs hp => ⟨NA L H Aa, d, Q, rs.bor (Same.refl _), hp, fun v' H'' d' s'' r' q' => kk v' H'' d' (s'.trans s'') (rs_of s' r') q'⟩⟩
        · cases hc
      · cases hc
    · cases hm
  | .o2 p a b, sc, X, g, Γ, L, e, t, A, hm, hc => by
    unfold mE at hm
    split at hm
    · rename_i x y sh
      rw [Bool.and_eq_true] at hm
      unfold cE at hc
      split at hc
      · rename_i ta Aa tb Ab ha hb
        split at hc
        · rename_i t' ht
          cases hc
          refine (p2_ok g tS_mon tS_mon (sE a g (Γ := Γ) (L := L) hm.1 ha) (sE b g (Γ := Γ) (L := L) hm.2 hb) (flat_bor ta) (flat_bor tb) sh ht).sub fun σ H R ⟨env, Q, er, hE, kk⟩ => ?_
          unfold E at hE
          refine ⟨env, _, er, hE, fun v H' d s' rs hE2 => ⟨env, _, er.mono s', hE2, fun w H2 d2 s2 rs2 hp => ?_⟩⟩
          refine ⟨NA L H (Aa ++ Ab), d, d2, Q, (rs.bor s2).mono (Same.refl _) (NA.mono fun i z => by simp [z]), (rs2.bor (Same.refl _)).mono (Same.refl _) (fun a z => NA.mono (fun i z => by simp [z]) a (NA.old s' a z)), hp, fun v' H'' d' s'' r' q' => ?_⟩
          exact kk v' H'' d' ((s'.trans s2).trans s'') (rs_of (s'.trans s2) r') q'
        · cases hc
      · cases hc
    · cases hm
  | .and a b, sc, X, g, Γ, L, e, t, A, hm, hc => by
    unfold mE at hm
    split at hm
    · rename_i x y sh
      rw [Bool.and_eq_true] at hm
      unfold cE at hc
      split at hc
      · rename_i ra tb Ab ha hb
        obtain ⟨ta, Aa⟩ := ra
        cases hc
        have p1 := sE a g (Γ := Γ) (L := L) hm.1 ha
        have p2 := sE b g (Γ := Γ) (L := L) hm.2 hb
        have key : PE X e (tAndV (tS G (Cw (FTof G.fns) k) Γ L a ta Aa) (tS G (Cw (FTof G.fns) k) Γ L b tb A)) := by
          rcases asBool_of sh with ⟨pos, rfl⟩ | ⟨_, _, _, pos, rfl, rfl⟩
          · exact pe_and p1 (pe_one p2)
          · exact pe_and p1 p2
        refine key.sub fun σ H R ⟨env, Q, er, hE, kk⟩ => ?_
        unfold E at hE
        refine ⟨env, _, er, hE, fun v H' d s' rs hd => ?_⟩
        obtain ⟨bb, rfl, -, h1, h2⟩ := rep_onB (rs.bor (Same.refl _)).rep hd
        refine ⟨bb, rfl, ?_⟩
        cases bb with
        | true => exact iteT ⟨env, Q, er.mono s', h1 rfl, fun v' H'' d' s'' rs' q' => kk v' H'' d' (s'.trans s'') (rs'.flatten s' (Same.refl _)) q'⟩
        | false => exact iteF (kk _ _ _ s' (.bo (flat_bor _) (RepB.of_im (.bl _))) (h2 rfl))
      · cases hc
    · cases hm
  | .or a b, sc, X, g, Γ, L, e, t, A, hm, hc => by
    unfold mE at hm
    split at hm
    · rename_i x y sh
      rw [Bool.and_eq_true] at hm
      unfold cE at hc
      split at hc
      · rename_i ra tb Ab ha hb
        obtain ⟨ta, Aa⟩ := ra
        cases hc
        have p1 := sE a g (Γ := Γ) (L := L) hm.1 ha
        have p2 := sE b g (Γ := Γ) (L := L) hm.2 hb
        have key : PE X e (tOrV (tS G (Cw (FTof G.fns) k) Γ L a ta Aa) (tS G (Cw (FTof G.fns) k) Γ L b tb A)) := by
          rcases asBool_of sh with ⟨pos, rfl⟩ | ⟨_, _, _, pos, rfl, rfl⟩
          · exact pe_or p1 (pe_one p2)
          · exact pe_or p1 p2
        refine key.sub fun σ H R ⟨env, Q, er, hE, kk⟩ => ?_
        unfold E at hE
        refine ⟨env, _, er, hE, fun v H' d s' rs hd => ?_⟩
        obtain ⟨bb, rfl, -, h1, h2⟩ := rep_onB (rs.bor (Same.refl _)).rep hd
        refine ⟨bb, rfl, ?_⟩
        cases bb with
        | false => exact iteF ⟨env, Q, er.mono s', h2 rfl, fun v' H'' d' s'' rs' q' => kk v' H'' d' (s'.trans s'') (rs'.flatten s' (Same.refl _)) q'⟩
        | true => exact iteT (kk _ _ _ s' (.bo (flat_bor _) (RepB.of_im (.bl _))) (h1 rfl))
      · cases hc
    · cases hm
  | .not a, sc, X, g, Γ, L, e, t, A, hm, hc => by
    unfold mE at hm
    split at hm
    · rename_i x sh
      unfold cE at hc
      split at hc
      · rename_i ra ha
        obtain ⟨ta, Aa⟩ := ra
        cases hc
        obtain ⟨pos, rfl⟩ := asUn_of sh
        refine (pe_not (sE a g (Γ := Γ) (L := L) hm ha)).sub fun σ H R ⟨env, Q, er, hE, kk⟩ => ?_
        unfold E at hE
        refine ⟨env, _, er, hE, fun v H' d s' rs hd => ?_⟩
        obtain ⟨bb, rfl, -, h1, h2⟩ := rep_onB (rs.bor (Same.refl _)).rep hd
        refine ⟨bb, rfl, ?_⟩
        cases bb with
        | true => exact kk _ _ _ s' (.im (.bl _)) (h1 rfl)
        | false => exact kk _ _ _ s' (.im (.bl _)) (h2 rfl)
      · cases hc
    · cases hm
  | .ifx c a b, sc, X, g, Γ, L, e, t, A, hm, hc => by
    unfold mE at hm
    split at hm
    · simp only [Bool.and_eq_true] at hm
      unfold cE at hc
      split at hc
      · rename_i rc ta Aa tb Ab h0 ha hb
        simp only at hc
        split at hc
        · rename_i hl
          rw [Bool.and_eq_true] at hl
          cases hc
          refine (pe_ifExp (sT c g (Γ := Γ) (L := L) hm.1.1 h0).1 (sE a g (Γ := Γ) (L := L) hm.1.2 ha) (sE b g (Γ := Γ) (L := L) hm.2 hb)).sub fun σ H R ⟨env, Q, er, hE, kk⟩ => ?_
          unfold E at hE
          have fin : ∀ {u : T} {B : List Nat} {H' H'' : Hp} {v : V} {d : D}, T.le u.bor (T.join ta.bor tb.bor) = true → (∀ i ∈ B, i ∈ Aa ++ Ab) → Same H H' → Same H' H'' → RS G.K G.cls L H' H'' u B v d → RS G.K G.cls L H H'' (T.join ta.bor tb.bor) (Aa ++ Ab) v d := by
            intro u B H' H'' v d hu hB s1 s2 rs
            obtain ⟨F, nd, fr, r⟩ := (rs.flatten (H2 := H) s1 (Same.refl _)).wk hB
            exact ⟨F, nd, fr, r.le hu⟩
          exact ⟨env, _, _, er, hE, fun H' s' h1 => iteT ⟨env, Q, er.mono s', h1, fun v' H'' d' s'' rs' q' => kk v' H'' d' (s'.trans s'') (fin hl.1 (fun i z => by simp [z]) s' s'' rs') q'⟩,
            fun H' s' h1 => iteF ⟨env, Q, er.mono s', h1, fun v' H'' d' s'' rs' q' => kk v' H'' d' (s'.trans s'') (fin hl.2 (fun i z => by simp [z]) s' s'' rs') q'⟩⟩
        · cases hc
      · cases hc
    · cases hm
  | .lst es, sc, X, g, Γ, L, e, t, A, hm, hc => by
    unfold mE at hm
    split at hm
    · unfold cE at hc
      split at hc
      · rename_i ts Aa ha
        refine (pe_lst (sEs es g (Γ := Γ) (L := L) hm ha)).sub fun σ H R ⟨env, Q, er, hE, kk⟩ => ?_
        unfold E at hE
        refine ⟨env, _, er, hE, fun vs H' ds s' rs hd => ⟨?_, fun p hp => ?_⟩⟩
        · obtain ⟨F, nd, fr, r⟩ := rs
          rw [r.length.1, ← r.length.2]
          exact hd.1
        · refine kk _ _ _ (s'.trans (same_new hp)) ?_ hd.2
          split at hc
          · rename_i hl
            cases hc
            exact rs_lst1 s' hp hl rs
          · split at hc
            · rename_i hl
              cases hc
              exact rs_lst2 s' hp rfl hl rs
            · cases hc
      · cases hc
    · cases hm
  | .tup es, sc, X, g, Γ, L, e, t, A, hm, hc => by
    unfold mE at hm
    split at hm
    · unfold cE at hc
      split at hc
      · rename_i ts Aa ha
        split at hc
        · rename_i hl
          rw [Bool.and_eq_true] at hl
          cases hc
          refine (pe_tup (sEs es g (Γ := Γ) (L := L) hm ha)).sub fun σ H R ⟨env, Q, er, hE, kk⟩ => ?_
          unfold E at hE
          refine ⟨env, _, er, hE, fun vs H' ds s' rs hd => ⟨?_, fun p hp => ?_⟩⟩
          · obtain ⟨F, nd, fr, r⟩ := rs
            rw [r.length.1, ← r.length.2]
            exact hd.1
          · exact kk _ _ _ (s'.trans (same_new hp)) (rs_tup s' hp hl.2 hl.1 (tup_flat hl.2) rs) hd.2
        · cases hc
      · cases hc
    · cases hm
  | .call f es, sc, X, g, Γ, L, e, t, A, hm, hc => by
    unfold mE at hm
    split at hm
    · rename_i x p0 xs pos
      simp only [Bool.and_eq_true, decide_eq_true_eq] at hm
      obtain ⟨⟨⟨hf, gl⟩, nm⟩, hm⟩ := hm
      unfold cE at hc
      split at hc
      · rename_i ts Aa i ha hi
        split at hc
        · rename_i hl
          obtain ⟨hmg, hk, hb⟩ := g.G.mgf f i hi
          have hx : x = i.name := by
            unfold names at hf
            rw [List.getElem?_map, hi] at hf
            exact (Option.some.inj hf).symm
          subst hx
          have F : FnOk X.prog X.w X.K X.mg X.base CX0 k (G.fa f) (G.fd f) i.ps (spF G k f) := by
            rw [g.hP, g.hw, g.hK, g.hm, g.hb]
            exact g.G.ok f i hi
          have pa := sEs es g (Γ := Γ) (L := L) hm ha
          have key : PE X (.Call (.Name i.name p0) xs [] pos) (tCall (spF G k f) [] E0 (tSL G (Cw (FTof G.fns) k) Γ L es ts Aa)) := by
            cases xs with
            | cons y ys =>
              have pl := mEs_plain es hm
              exact pe_call F g.room (g.gl gl) (by rw [g.hm]; exact hmg) (by rw [g.hK]; exact hk) (by rw [g.hK]; exact hb) .nil pass0 pa (nm_of nm).1 (plain_star (pl y (by simp))) (star_any fun z hz => pl z (by simp [hz]))
            | nil =>
              refine (pe_call0 F g.room (g.gl gl) (by rw [g.hm]; exact hmg) (by rw [g.hK]; exact hk) (by rw [g.hK]; exact hb) .nil pass0 (nm_of nm).1).sub fun σ H R ⟨env, Q, er, hE, kk⟩ => ?_
              cases es with
              | nil =>
                unfold Es at hE
                exact kk [] H [] (Same.refl _) ⟨[], .nil, (fun _ z => absurd z (by simp)), by unfold cL at ha; cases ha; exact .nil⟩ hE
              | cons a b => unfold mEs at hm; simp at hm
              | _ => unfold mEs at hm; cases hm
          refine key.sub fun σ H R ⟨env, Q, er, hE, kk⟩ => ?_
          unfold E at hE
          refine ⟨env, _, er, hE, fun vs H' ds s' rs hd => ?_⟩
          obtain ⟨F1, nd, fr, r⟩ := rs
          have ar := ReTL.args hl r
          refine ⟨i, ds, NA L H Aa, Q, hi, ?_, ?_, hd, fun v H'' d s'' r' q' => ?_⟩
          · rw [List.append_nil, ar.length.1]
            exact g.G.len f i hi
          · rw [List.append_nil]
            refine ReTL.args.args_mono (fun a z => ?_) ar
            rcases z with z | z
            · exact z.1
            · exact .inr (fr a z)
          · cases hc
            refine kk v H'' d (s'.trans s'') ?_ q'
            have r2 := rs_of s' r'
            split
            · rename_i lf
              obtain ⟨F2, nd2, fr2, r2⟩ := r2
              exact ⟨F2, nd2, fr2, leaf_N lf r2⟩
            · exact r2.wk fun i z => by
                unfold als at z
                split at z
                · simp at z
                · exact z
        · cases hc
      · cases hc
    · cases hm
  | .nil, sc, X, g, Γ, L, e, t, A, hm, hc => by unfold mE at hm; cases hm
  | .cons a b, sc, X, g, Γ, L, e, t, A, hm, hc => by unfold mE at hm; cases hm
  | .rng1 a, sc, X, g, Γ, L, e, t, A, hm, hc => by unfold mE at hm; cases hm
  | .rng2 a b, sc, X, g, Γ, L, e, t, A, hm, hc => by unfold mE at hm; cases hm
  | .rng3 a b c, sc, X, g, Γ, L, e, t, A, hm, hc => by unfold mE at hm; cases hm
/-- tests -/
theorem sT : ∀ (c : CE) {sc : Scope} {X : Cx} (g : Good G k N sc X) {Γ : List T} {L : Nat → Addr → Prop} {e : Expr} {r : T × List Nat}, mE N (names G.fns) c sc e = true → cE G.fns Γ c = some r → PT X e (tST G (Cw (FTof G.fns) k) Γ L c) ∧ (boolB e = true → PW X e (tST G (Cw (FTof G.fns) k) Γ L c))
  | .and a b, sc, X, g, Γ, L, e, r, hm, hc => by
    unfold mE at hm
    split at hm
    · rename_i x y sh
      rw [Bool.and_eq_true] at hm
      unfold cE at hc
      split at hc
      · rename_i ra tb Ab ha hb
        have p1 := (sT a g (Γ := Γ) (L := L) hm.1 ha).1
        have p2 := sT b g (Γ := Γ) (L := L) hm.2 hb
        have key : PW X e (tAnd (tST G (Cw (FTof G.fns) k) Γ L a) (tST G (Cw (FTof G.fns) k) Γ L b)) := by
          rcases asBool_of sh with ⟨pos, rfl⟩ | ⟨_, _, _, pos, rfl, rfl⟩
          · exact pw_and p1 (pw_and1 p2.1)
          · exact pw_and p1 (p2.2 rfl)
        have key2 : PW X e (tST G (Cw (FTof G.fns) k) Γ L (.and a b)) := key.sub fun σ H R ⟨env, P1, P2, er, hE, k1, k2⟩ => by
          unfold E at hE
          exact ⟨env, _, _, er, hE, fun H' s' h => iteT ⟨env, P1, P2, er.mono s', h, fun H'' s'' => k1 H'' (s'.trans s''), fun H'' s'' => k2 H'' (s'.trans s'')⟩, fun H' s' h => iteF (k2 H' s' h)⟩
        exact ⟨key2.pt, fun _ => key2⟩
      · cases hc
    · cases hm
  | .or a b, sc, X, g, Γ, L, e, r, hm, hc => by
    unfold mE at hm
    split at hm
    · rename_i x y sh
      rw [Bool.and_eq_true] at hm
      unfold cE at hc
      split at hc
      · rename_i ra tb Ab ha hb
        have p1 := (sT a g (Γ := Γ) (L := L) hm.1 ha).1
        have p2 := sT b g (Γ := Γ) (L := L) hm.2 hb
        have key : PW X e (tOr (tST G (Cw (FTof G.fns) k) Γ L a) (tST G (Cw (FTof G.fns) k) Γ L b)) := by
          rcases asBool_of sh with ⟨pos, rfl⟩ | ⟨_, _, _, pos, rfl, rfl⟩
          · exact pw_or p1 (pw_or1 p2.1)
          · exact pw_or p1 (p2.2 rfl)
        have key2 : PW X e (tST G (Cw (FTof G.fns) k) Γ L (.or a b)) := key.sub fun σ H R ⟨env, P1, P2, er, hE, k1, k2⟩ => by
          unfold E at hE
          exact ⟨env, _, _, er, hE, fun H' s' h => iteT (k1 H' s' h), fun H' s' h => iteF ⟨env, P1, P2, er.mono s', h, fun H'' s'' => k1 H'' (s'.trans s''), fun H'' s'' => k2 H'' (s'.trans s'')⟩⟩
        exact ⟨key2.pt, fun _ => key2⟩
      · cases hc
    · cases hm
  | .not a, sc, X, g, Γ, L, e, r, hm, hc => by
    unfold mE at hm
    split at hm
    · rename_i x sh
      unfold cE at hc
      split at hc
      · rename_i ra ha
        obtain ⟨pos, rfl⟩ := asUn_of sh
        refine ⟨(pt_not (sT a g (Γ := Γ) (L := L) hm ha).1).sub fun σ H R ⟨env, P1, P2, er, hE, k1, k2⟩ => ?_, fun z => by cases z⟩
        unfold E at hE
        exact ⟨env, _, _, er, hE, fun H' s' h => k2 H' s' h, fun H' s' h => k1 H' s' h⟩
      · cases hc
    · cases hm
  | .o1 p a, sc, X, g, Γ, L, e, r, hm, hc => by
    obtain ⟨t, A⟩ := r
    have p0 := sE (.o1 p a) g (Γ := Γ) (L := L) hm hc
    by_cases hN : (p = .isN ∨ p = .notN)
    · unfold mE at hm
      split at hm
      · rename_i x sh
        unfold cE at hc
        split at hc
        · rename_i ta Aa ha
          split at hc
          · rename_i t' ht
            have pa := sE a g (Γ := Γ) (L := L) hm ha
            have fin : ∀ {op : CmpOp} {r : R2}, (∀ v H R, A1 G p ta.bor t' R v H → r v .non H R) → ∀ σ H (R : Bool → Hp → Prop), tST G (Cw (FTof G.fns) k) Γ L (.o1 p a) σ H R → tTest (tOp r (tS G (Cw (FTof G.fns) k) Γ L a ta Aa) (tC .non)) σ H R := by
              intro op r i σ H R ⟨env, P1, P2, er, hE, k1, k2⟩
              unfold E at hE
              refine ⟨env, _, er, hE, fun v H' d s' rs hp => i _ _ _ ⟨NA L H Aa, d, _, rs.bor (Same.refl _), hp, fun v' H'' d' s'' r' q' => ?_⟩⟩
              obtain ⟨b, rfl, -, h1, h2⟩ := rep_onB ((rs_of s' r').bor (Same.refl _)).rep q'
              refine ⟨b, rfl, ?_⟩
              cases b with
              | true => exact k1 _ (s'.trans s'') (h1 rfl)
              | false => exact k2 _ (s'.trans s'') (h2 rfl)
            rcases hN with rfl | rfl
            · obtain ⟨r, hr, i⟩ := p1_N (X := X) (G := G) (.inl ⟨rfl, rfl⟩) ht
              obtain ⟨pos, j, p, rfl⟩ := asCmpN_of sh
              exact ⟨(pt_cmpR hr pa pe_non (nomark _)).sub (fin (op := .Is) i), fun z => by cases z⟩
            · obtain ⟨r, hr, i⟩ := p1_N (X := X) (G := G) (.inr ⟨rfl, rfl⟩) ht
              obtain ⟨pos, j, p, rfl⟩ := asCmpN_of sh
              exact ⟨(pt_cmpR hr pa pe_non (nomark _)).sub (fin (op := .Is) i), fun z => by cases z⟩
          · cases hc
        · cases hc
      · cases hm
    · have hv : valTest e = true ∧ boolB e = false := by
        unfold mE at hm
        split at hm
        · rename_i x sh
          cases p with
          | isN => exact absurd (.inl rfl) hN
          | notN => exact absurd (.inr rfl) hN
          | neg => obtain ⟨pos, rfl⟩ := asUn_of sh; exact ⟨rfl, rfl⟩
          | abs => obtain ⟨_, pos, rfl, _⟩ := asB1_of sh; exact ⟨rfl, rfl⟩
          | len => obtain ⟨_, pos, rfl, _⟩ := asB1_of sh; exact ⟨rfl, rfl⟩
          | isi ty =>
            have sh' : (if ty ∈ tys then asIsi (strOf ty) sc e else none) = some x := sh
            split at sh'
            · obtain ⟨_, _, pos, rfl, _⟩ := asIsi_of sh'; exact ⟨rfl, rfl⟩
            · cases sh'
        · cases hm
      exact ⟨test_val p0 hv.1, fun z => by rw [hv.2] at z; cases z⟩
  | .o2 p a b, sc, X, g, Γ, L, e, r, hm, hc => by
    obtain ⟨t, A⟩ := r
    have p0 := sE (.o2 p a b) g (Γ := Γ) (L := L) hm hc
    cases hop : cmpOf p with
    | some op =>
      unfold mE at hm
      split at hm
      · rename_i x y sh
        rw [Bool.and_eq_true] at hm
        unfold cE at hc
        split at hc
        · rename_i ta Aa tb Ab ha hb
          split at hc
          · rename_i t' ht
            rw [sh2_cmp hop] at sh
            obtain ⟨pos, rfl, pl⟩ := asCmp_of sh
            obtain ⟨r, hr, i⟩ := p2_cmp g hop (flat_bor ta) (flat_bor tb) ht
            refine ⟨(pt_cmpR hr (sE a g (Γ := Γ) (L := L) hm.1 ha) (sE b g (Γ := Γ) (L := L) hm.2 hb) (plain_mark pl)).sub fun σ H R ⟨env, P1, P2, er, hE, k1, k2⟩ => ?_, fun z => by cases z⟩
            unfold E at hE
            refine ⟨env, _, er, hE, fun v H' d s' rs hE2 => ⟨env, _, er.mono s', hE2, fun w H2 d2 s2 rs2 hp => i _ _ _ _ ?_⟩⟩
            refine ⟨NA L H (Aa ++ Ab), d, d2, _, (rs.bor s2).mono (Same.refl _) (NA.mono fun i z => by simp [z]), (rs2.bor (Same.refl _)).mono (Same.refl _) (fun a z => NA.mono (fun i z => by simp [z]) a (NA.old s' a z)), hp, fun v' H'' d' s'' r' q' => ?_⟩
            obtain ⟨b, rfl, -, h1, h2⟩ := rep_onB ((rs_of (s'.trans s2) r').bor (Same.refl _)).rep q'
            refine ⟨b, rfl, ?_⟩
            cases b with
            | true => exact k1 _ ((s'.trans s2).trans s'') (h1 rfl)
            | false => exact k2 _ ((s'.trans s2).trans s'') (h2 rfl)
          · cases hc
        · cases hc
      · cases hm
    | none =>
      have hv : valTest e = true ∧ boolB e = false := by
        unfold mE at hm
        split at hm
        · rename_i x y sh
          cases hb : binOf p with
          | some op =>
            rw [sh2_bin hb] at sh
            obtain ⟨pos, rfl⟩ := asBin_of sh
            exact ⟨rfl, rfl⟩
          | none =>
            obtain rfl : p = .idx := by cases p <;> simp_all [binOf, cmpOf]
            obtain ⟨pos, rfl, _⟩ := asSub_of sh
            exact ⟨rfl, rfl⟩
        · cases hm
      exact ⟨test_val p0 hv.1, fun z => by rw [hv.2] at z; cases z⟩
  | .var i, sc, X, g, Γ, L, e, r, hm, hc => by
    obtain ⟨t, A⟩ := r
    have p0 := sE (.var i) g (Γ := Γ) (L := L) hm hc
    unfold mE at hm
    split at hm
    · exact ⟨test_val p0 rfl, fun z => by cases z⟩
    · cases hm
  | .bl i, sc, X, g, Γ, L, e, r, hm, hc => by
    obtain ⟨t, A⟩ := r
    have p0 := sE (.bl i) g (Γ := Γ) (L := L) hm hc
    unfold mE at hm
    split at hm
    · exact ⟨test_val p0 rfl, fun z => by cases z⟩
    · cases hm
  | .call f es, sc, X, g, Γ, L, e, r, hm, hc => by
    obtain ⟨t, A⟩ := r
    have p0 := sE (.call f es) g (Γ := Γ) (L := L) hm hc
    unfold mE at hm
    split at hm
    · exact ⟨test_val p0 rfl, fun z => by cases z⟩
    · cases hm
  | .int i, sc, X, g, Γ, L, e, r, hm, hc => by
    obtain ⟨t, A⟩ := r
    have p0 := sE (.int i) g (Γ := Γ) (L := L) hm hc
    unfold mE at hm
    split at hm
    · exact ⟨test_val p0 rfl, fun z => by cases z⟩
    · cases hm
  | .str i, sc, X, g, Γ, L, e, r, hm, hc => by
    obtain ⟨t, A⟩ := r
    have p0 := sE (.str i) g (Γ := Γ) (L := L) hm hc
    unfold mE at hm
    split at hm
    · exact ⟨test_val p0 rfl, fun z => by cases z⟩
    · cases hm
  | .non, sc, X, g, Γ, L, e, r, hm, hc => by
    obtain ⟨t, A⟩ := r
    have p0 := sE .non g (Γ := Γ) (L := L) hm hc
    unfold mE at hm
    split at hm
    · exact ⟨test_val p0 rfl, fun z => by cases z⟩
    · cases hm
  | .lst es, sc, X, g, Γ, L, e, r, hm, hc => by
    obtain ⟨t, A⟩ := r
    have p0 := sE (.lst es) g (Γ := Γ) (L := L) hm hc
    unfold mE at hm
    split at hm
    · exact ⟨test_val p0 rfl, fun z => by cases z⟩
    · cases hm
  | .tup es, sc, X, g, Γ, L, e, r, hm, hc => by
    obtain ⟨t, A⟩ := r
    have p0 := sE (.tup es) g (Γ := Γ) (L := L) hm hc
    unfold mE at hm
    split at hm
    · exact ⟨test_val p0 rfl, fun z => by cases z⟩
    · cases hm
  | .ifx c a b, sc, X, g, Γ, L, e, r, hm, hc => by
    unfold mE at hm
    split at hm
    · simp only [Bool.and_eq_true] at hm
      unfold cE at hc
      split at hc
      · rename_i rc ta Aa tb Ab h0 ha hb
        have p0 := (sT c g (Γ := Γ) (L := L) hm.1.1 h0).1
        have p1 := (sT a g (Γ := Γ) (L := L) hm.1.2 ha).1
        have p2 := (sT b g (Γ := Γ) (L := L) hm.2 hb).1
        refine ⟨(pt_ifx p0 p1 p2).sub fun σ H R ⟨env, P1, P2, er, hE, k1, k2⟩ => ?_, fun z => by cases z⟩
        unfold E at hE
        exact ⟨env, _, _, er, hE, fun H' s' h => iteT ⟨env, P1, P2, er.mono s', h, fun H'' s'' => k1 H'' (s'.trans s''), fun H'' s'' => k2 H'' (s'.trans s'')⟩, fun H' s' h => iteF ⟨env, P1, P2, er.mono s', h, fun H'' s'' => k1 H'' (s'.trans s''), fun H'' s'' => k2 H'' (s'.trans s'')⟩⟩
      · cases hc
    · cases hm
  | .nil, sc, X, g, Γ, L, e, r, hm, hc => by unfold mE at hm; cases hm
  | .cons a b, sc, X, g, Γ, L, e, r, hm, hc => by unfold mE at hm; cases hm
  | .rng1 a, sc, X, g, Γ, L, e, r, hm, hc => by unfold mE at hm; cases hm
  | .rng2 a b, sc, X, g, Γ, L, e, r, hm, hc => by unfold mE at hm; cases hm
  | .rng3 a b c, sc, X, g, Γ, L, e, r, hm, hc => by unfold mE at hm; cases hm
theorem sEs : ∀ (c : CE) {sc : Scope} {X : Cx} (g : Good G k N sc X) {Γ : List T} {L : Nat → Addr → Prop} {e : List Expr} {ts : List T} {A : List Nat}, mEs N (names G.fns) c sc e = true → cL G.fns Γ c = some (ts, A) → PA X e (tSL G (Cw (FTof G.fns) k) Γ L c ts A)
  | .nil, sc, X, g, Γ, L, e, ts, A, hm, hc => by
    unfold mEs at hm
    split at hm
    · unfold cL at hc
      cases hc
      refine pa_nil.sub fun σ H R ⟨env, Q, er, hE, kk⟩ => ?_
      unfold Es at hE
      exact kk [] H [] (Same.refl _) ⟨[], .nil, (fun _ z => absurd z (by simp)), .nil⟩ hE
    · cases hm
  | .cons a b, sc, X, g, Γ, L, e, ts, A, hm, hc => by
    unfold mEs at hm
    split at hm
    · rename_i x xs
      simp only [Bool.and_eq_true] at hm
      unfold cL at hc
      split at hc
      · rename_i t Aa ts Ab ha hb
        cases hc
        refine (pa_cons (sE a g (Γ := Γ) (L := L) hm.1.2 ha) (sEs b g (Γ := Γ) (L := L) hm.2 hb) (plain_star hm.1.1)).sub fun σ H R ⟨env, Q, er, hE, kk⟩ => ?_
        unfold Es at hE
        refine ⟨env, _, er, hE, fun v H' d s' rs hE2 => ⟨env, _, er.mono s', hE2, fun vs H2 ds s2 rs2 hq => ?_⟩⟩
        refine kk _ _ _ (s'.trans s2) ?_ hq
        obtain ⟨F, nd, fr, r⟩ := rs
        obtain ⟨F2, nd2, fr2, r2⟩ := rs2
        have bx := r.box
        have dj : ∀ a ∈ F, a ∉ F2 := fun a z z2 => by
          have := bx a z
          rw [fr2 a z2] at this
          exact this
        refine ⟨F ++ F2, List.nodup_append.mpr ⟨nd, nd2, fun a z b z2 e => dj a z (e ▸ z2)⟩, fun a z => ?_, .cons (r.dom.mono s2 fun a z => ⟨NA.mono (fun i z => by simp [z]) a z.1.1, fun q => ?_⟩) (r2.mono (Same.refl _) fun a z => ⟨NA.mono (fun i z => by simp [z]) a (NA.old s' a z.1), fun q => ?_⟩)⟩
        · rcases List.mem_append.mp z with z | z
          · exact fr a z
          · exact s'.free (fr2 a z)
        · rcases List.mem_append.mp q with q | q
          · exact z.1.2 q
          · exact z.2 (fr2 a q)
        · rcases List.mem_append.mp q with q | q
          · rcases z.1 with ⟨i, _, z⟩ | z
            · exact er.2.1 i a z (fr a q)
            · have := bx a q
              rw [z] at this
              exact this
          · exact z.2 q
      · cases hc
    · cases hm
  | .var _, _, _, _, _, _, _, _, _, h, _ | .int _, _, _, _, _, _, _, _, _, h, _ | .str _, _, _, _, _, _, _, _, _, h, _ | .bl _, _, _, _, _, _, _, _, _, h, _ | .non, _, _, _, _, _, _, _, _, h, _ | .o1 _ _, _, _, _, _, _, _, _, _, h, _ | .o2 _ _ _, _, _, _, _, _, _, _, _, h, _ | .and _ _, _, _, _, _, _, _, _, _, h, _ | .or _ _, _, _, _, _, _, _, _, _, h, _ | .not _, _, _, _, _, _, _, _, _, h, _ | .ifx _ _ _, _, _, _, _, _, _, _, _, h, _ | .lst _, _, _, _, _, _, _, _, _, h, _ | .tup _, _, _, _, _, _, _, _, _, h, _ | .call _ _, _, _, _, _, _, _, _, _, h, _ | .rng1 _, _, _, _, _, _, _, _, _, h, _ | .rng2 _ _, _, _, _, _, _, _, _, _, h, _ | .rng3 _ _ _, _, _, _, _, _, _, _, _, h, _ => by unfold mEs at h; cases h
end
end
end Pv

set_option maxRecDepth 100000
set_option maxHeartbeats 1000000
namespace Pv
open PySem L2
/-! ### what is walked -/
/-- Hb has all of H but boxes of which N does not hold -/
def Keep (N : Addr → Prop) (H Hb : Hp) : Prop := ∀ b u, H b = some u → (Box (H b) → N b) → Hb b = some u
section
variable {K : PySem.W.Frag} {cls : Nat → Addr} {N N' : Addr → Prop} {H H' Hb : Hp}
theorem Keep.rd (e : Keep N H Hb) {a : Addr} {u : HO} (n : N a) (h : Rd H a u) : Rd Hb a u := by
  rcases h with h | ⟨o, h⟩
  · exact .inl (e a _ h fun _ => n)
  · exact .inr ⟨o, e a _ h fun _ => n⟩
theorem Keep.sqT (e : Keep N H Hb) {a : Addr} {xs : List V} (h : SqT K H a xs) : SqT K Hb a xs := by
  rcases h with (h | ⟨o, h⟩) | h
  · exact .inl (.inl (e a _ h fun z => by rw [h] at z; exact z.elim))
  · exact .inl (.inr ⟨o, e a _ h fun z => by rw [h] at z; exact z.elim⟩)
  · exact .inr h
mutual
theorem Rep.keep (e : Keep N H Hb) (n : ∀ a, N' a → N a) : ∀ {v : V} {d : D}, Rep K cls N' H v d → Rep K cls N' Hb v d
  | _, _, .non => .non
  | _, _, .bl b => .bl b
  | _, _, .int i => .int i
  | _, _, .str x => .str x
  | _, _, .tup h r => .tup (e.sqT h) (Reps.keep e n r)
  | _, _, .lst a h r => .lst a (e.rd (n _ a) h) (Reps.keep e n r)
  | _, _, .dK a h r => .dK a (e.rd (n _ a) h) (Reps.keep e n r)
  | _, _, .dT a h r => .dT a (e.rd (n _ a) h) (Reps.keep e n r)
  | _, _, .obj h r => .obj (e _ _ h fun z => by rw [h] at z; exact z.elim) (Reps.keep e n r)
theorem Reps.keep (e : Keep N H Hb) (n : ∀ a, N' a → N a) : ∀ {v : List V} {d : List D}, Reps K cls N' H v d → Reps K cls N' Hb v d
  | _, _, .nil => .nil
  | _, _, .cons h r => .cons (Rep.keep e n h) (Reps.keep e n r)
end
theorem BS.keep (e : Keep N H Hb) {P P' : V → D → Prop} (hp : ∀ v d, P v d → P' v d) {v : V} {d : D} (h : BS K cls N H P v d) : BS K cls N Hb P' v d := by
  cases h with
  | im h => exact .im (h.keep e fun _ z => z.elim)
  | tup h r => exact .tup (e.sqT h) (pimp r hp)
  | lst na h r => exact .lst na (e.rd na h) (pimp r hp)
  | dK na h r => exact .dK na (e.rd na h) (pimp r hp)
  | dT na h r => exact .dT na (e.rd na h) (pimp r hp)
theorem RepB.keep (e : Keep N H Hb) : ∀ {t : T} {v : V} {d : D}, RepB K cls N H t v d → RepB K cls N Hb t v d
  | .im, _, _, h => Rep.keep e (fun _ z => z.elim) h
  | .sh, _, _, h => Rep.keep e (fun _ z => z) h
  | .s t, _, _, h => BS.keep e (fun _ _ z => RepB.keep (t := t) e z) h
  | .ow t, _, _, h => BS.keep e (fun _ _ z => RepB.keep (t := t) e z) h
end
/-- J walks ds while all of Hb stands -/
def Wk (K : PySem.W.Frag) (cls : Nat → Addr) (J : L2.It) (Hb : Hp) (N : Addr → Prop) (t : T) (ds : List D) : Prop :=
  ∃ Gp Y, Walk J ds.length Gp Y ∧ (∀ H, Same Hb H → Gp H) ∧ ∀ i H x H', i < ds.length → Same Hb H → Y i H x H' → ∃ d, ds[i]? = some d ∧ Same H H' ∧ RepB K cls (fun a => N a ∨ H a = none) H' t x d
def cI (fns : List FnI) (Γ : List T) : CE → Option (T × List Nat)
  | .rng1 a => (cE fns Γ a).map fun _ => (.im, [])
  | .rng2 a b => (cE fns Γ a).bind fun _ => (cE fns Γ b).map fun _ => (.im, [])
  | .rng3 a b c => (cE fns Γ a).bind fun _ => (cE fns Γ b).bind fun _ => (cE fns Γ c).map fun _ => (.im, [])
  | c => (cE fns Γ c).map fun r => (r.1.bor.el, r.2)
def tI (G : Glob) (C : CallW) (Γ : List T) (L : Nat → Addr → Prop) (c : CE) (t : T) (A : List Nat) : TI := fun σ H1 R => ∃ env Q, ER G.K G.cls Γ L H1 σ env ∧ It C c env Q ∧
  ∀ J H' ds, Same H1 H' → (∀ Hb, Keep (NA L H1 A) H' Hb → Wk G.K G.cls J Hb (fun a => NA L H1 A a ∧ Hb a ≠ none) t ds) → Q ds → R J H'
theorem rngL_len (lo c : Int) (n : Nat) : (rngL lo c n).length = n := by simp [rngL]
theorem rngL_get {lo c : Int} {n i : Nat} (h : i < n) : (rngL lo c n)[i]? = some (.int (lo + (i : Nat) * c)) := by
  simp [rngL, h]
section
variable {K : PySem.W.Frag} {cls : Nat → Addr} {N : Addr → Prop} {Hb : Hp}
theorem wk_rng (lo : Int) (n : Nat) : Wk K cls (Itr lo n) Hb N .im (rngL lo 1 n) := by
  refine ⟨fun _ => True, YFn fun i => .int (lo + i), by rw [rngL_len]; exact walk_range, fun _ _ => trivial, fun i H x H' hi _ y => ?_⟩
  rw [rngL_len] at hi
  obtain ⟨rfl, rfl⟩ := y
  refine ⟨_, rngL_get hi, Same.refl _, ?_⟩
  rw [Int.mul_one]
  exact .int _
theorem wk_rngC (lo c : Int) (n : Nat) : Wk K cls (Itc lo c n) Hb N .im (rngL lo c n) := by
  refine ⟨fun _ => True, YFn fun i => .int (lo + (i : Nat) * c), by rw [rngL_len]; exact walk_rangeC, fun _ _ => trivial, fun i H x H' hi _ y => ?_⟩
  rw [rngL_len] at hi
  obtain ⟨rfl, rfl⟩ := y
  exact ⟨_, rngL_get hi, Same.refl _, .int _⟩
theorem wk_lst {a : Addr} {vs : List V} {ds : List D} {t : T} (h : Rd Hb a (.lst vs)) (p : Paired (RepB K cls N Hb t) vs ds) : Wk K cls (Itl K a) Hb N t ds := by
  refine ⟨_, _, pair_len p ▸ walk_list (xs := vs), fun H e => .inl (rd_same e h), fun i H x H' hi e y => ?_⟩
  obtain ⟨rfl, hx⟩ := y
  obtain ⟨d, hd⟩ : ∃ d, ds[i]? = some d := ⟨ds[i], by simp [hi]⟩
  obtain ⟨v, hv, r⟩ := pair_get p hd
  rw [hx] at hv
  cases hv
  exact ⟨d, hd, Same.refl _, r.mono e fun a z => .inl z⟩
theorem wk_tup {a : Addr} {vs : List V} {ds : List D} {t : T} (h : SqT K Hb a vs) (p : Paired (RepB K cls N Hb t) vs ds) : Wk K cls (Itt K a) Hb N t ds := by
  refine ⟨_, _, pair_len p ▸ walk_tup (xs := vs), fun H e => sqT_same e h, fun i H x H' hi e y => ?_⟩
  obtain ⟨rfl, hx⟩ := y
  obtain ⟨d, hd⟩ : ∃ d, ds[i]? = some d := ⟨ds[i], by simp [hi]⟩
  obtain ⟨v, hv, r⟩ := pair_get p hd
  rw [hx] at hv
  cases hv
  exact ⟨d, hd, Same.refl _, r.mono e fun a z => .inl z⟩
theorem wk_str {z : Str} {t : T} : Wk K cls (Its z) Hb N t (z.cps.toList.map fun c => D.str ⟨#[c]⟩) := by
  have e : (z.cps.toList.map fun c => D.str ⟨#[c]⟩).length = z.cps.size := by simp
  refine ⟨_, _, e.symm ▸ walk_str, fun _ _ => trivial, fun i H x H' hi _ y => ?_⟩
  obtain ⟨rfl, c, hc, rfl⟩ := y
  exact ⟨_, by rw [List.getElem?_map, Array.getElem?_toList, hc]; rfl, Same.refl _, RepB.of_im (.str _)⟩
end
/-- a list, a tuple, a text -/
def iAny (K : PySem.W.Frag) (te : TE) : TI := fun σ H R => te σ H fun x H1 => (∃ a xs, x = .ref a ∧ SqL K H1 a xs ∧ R (Itl K a) H1) ∨ (∃ a xs, x = .ref a ∧ SqT K H1 a xs ∧ R (Itt K a) H1) ∨ ∃ z, x = .str z ∧ R (Its z) H1
theorem pi_any {X : Cx} {g e : Expr} {te : TE} (he : PE X e te) : PI X g e (iAny X.K te) := by
  refine ⟨fun pins s σ H R I h => thn (he.run pins s σ H _ I h) fun v s1 ⟨x, H1, I1, r1, q1⟩ => ?_⟩
  rcases q1 with ⟨a, xs, rfl, hq, q⟩ | ⟨a, xs, rfl, hq, q⟩ | ⟨z, rfl, q⟩
  · cases r1
    obtain ⟨its, rv, p, hz⟩ := I1.list hq
    exact wpAny_pyIter_list p.isList (pi_one (tk := s1.toks) I1 _ (turn_list a _) ⟨_, Heap.get?_push_size _ rfl, rfl, rfl⟩ q)
  · cases r1
    obtain ⟨its, rv, p, hz⟩ := I1.tuple hq
    exact wpAny_pyIter_tuple (show s1.heap.IsTuple a its.toArray from p) (pi_one (tk := s1.toks) I1 _ (turn_tuple a _) ⟨_, Heap.get?_push_size _ rfl, rfl, rfl⟩ q)
  · have h2 : PIE X pins σ g R = PIE X pins σ g R := rfl
    obtain ⟨t, rfl⟩ := r1
    cases ha : z.cps.all (· < 128)
    · exact wpAny_pyIter_wide ha (pi_one (tk := s1.toks) I1 _ (turn_str _ z t "str_iterator" (.inr rfl)) ⟨_, Heap.get?_push_size _ rfl, rfl, rfl⟩ q)
    · exact wpAny_pyIter_ascii ha (pi_one (tk := s1.toks) I1 _ (turn_str _ z t "str_ascii_iterator" (.inl rfl)) ⟨_, Heap.get?_push_size _ rfl, rfl, rfl⟩ q)
section
variable {G : Glob} {k : Nat} {N : List Str} {Γ : List T} {L : Nat → Addr → Prop} {sc : Scope} {X : Cx} {tg : Expr}
theorem el_flat : ∀ {t : T}, t.flat = true → t.el.flat = true
  | .im, _ => rfl
  | .sh, _ => rfl
  | .s _, h => h
theorem sI_any (g : Good G k N sc X) {c : CE} {e : Expr} {t : T} {A : List Nat} (h : PE X e (tS G (Cw (FTof G.fns) k) Γ L c t A))
    (hI : ∀ env Q, It (Cw (FTof G.fns) k) c env Q → E (Cw (FTof G.fns) k) c env fun x => match x with | .lst xs => Q xs | .tup xs => Q xs | .str s => Q (s.cps.toList.map fun c => D.str ⟨#[c]⟩) | _ => False) :
    PI X tg e (tI G (Cw (FTof G.fns) k) Γ L c t.bor.el A) := by
  refine (pi_any h).sub fun σ H R ⟨env, Q, er, hE, kk⟩ => ⟨env, _, er, hI env Q hE, fun v H' d s' rs hd => ?_⟩
  have rb := rs.bor (Same.refl _)
  cases d <;> try exact hd.elim
  case str z =>
    obtain rfl := rep_str rb.rep
    exact .inr (.inr ⟨z, rfl, kk _ _ _ s' (fun Hb _ => wk_str) hd⟩)
  case tup ds =>
    obtain ⟨a, vs, rfl, q, p⟩ := repB_tup (flat_bor t) rb
    exact .inr (.inl ⟨a, vs, rfl, by rw [g.hK]; exact q, by rw [g.hK]; exact kk _ _ _ s' (fun Hb e => wk_tup (e.sqT q) (pimp p fun _ _ z => (z.keep e).dom)) hd⟩)
  case lst ds =>
    obtain ⟨a, vs, rfl, n, q, p⟩ := repB_lst (flat_bor t) rb
    exact .inl ⟨a, vs, rfl, .inl q, by rw [g.hK]; exact kk _ _ _ s' (fun Hb e => wk_lst (e.rd n q) (pimp p fun _ _ z => (z.keep e).dom)) hd⟩
theorem sI (g : Good G k N sc X) : ∀ (c : CE) {e : Expr} {t : T} {A : List Nat}, mI N (names G.fns) c sc e = true → cI G.fns Γ c = some (t, A) → PI X tg e (tI G (Cw (FTof G.fns) k) Γ L c t A) := by
  intro c e t A hm hc
  have gen : (plainB e && mE N (names G.fns) c sc e) = true → (cE G.fns Γ c).map (fun r => (r.1.bor.el, r.2)) = some (t, A) →
      (∀ env Q, It (Cw (FTof G.fns) k) c env Q → E (Cw (FTof G.fns) k) c env fun x => match x with | .lst xs => Q xs | .tup xs => Q xs | .str s => Q (s.cps.toList.map fun c => D.str ⟨#[c]⟩) | _ => False) →
      PI X tg e (tI G (Cw (FTof G.fns) k) Γ L c t A) := by
    intro h1 h2 h3
    rw [Bool.and_eq_true] at h1
    cases hr : cE G.fns Γ c with
    | none => rw [hr] at h2; cases h2
    | some r =>
      obtain ⟨u, B⟩ := r
      rw [hr] at h2
      cases h2
      exact sI_any g (sE c g h1.2 hr) h3
  cases c with
  | rng1 a =>
    simp only [mI] at hm
    split at hm
    · rename_i x sh
      obtain ⟨p, pos, rfl, gl, pl⟩ := asB1_of sh
      simp only [cI] at hc
      cases ha : cE G.fns Γ a with
      | none => rw [ha] at hc; cases hc
      | some r =>
        obtain ⟨u, B⟩ := r
        rw [ha] at hc
        cases hc
        refine (pi_range1 (g.gl gl) (g.nob (by decide +kernel)) (pa_cons (sE a g (Γ := Γ) (L := L) hm ha) pa_nil (plain_star pl)) (plain_star pl)).sub fun σ H R ⟨env, Q, er, hE, kk⟩ => ?_
        simp only [It] at hE
        refine ⟨env, _, er, hE, fun v H' d s' rs hd => ?_⟩
        cases d <;> try exact hd.elim
        rename_i n
        obtain rfl := rep_int (rs.bor (Same.refl _)).rep
        exact ⟨n, rfl, hd.1.1, hd.1.2, kk _ _ _ s' (fun Hb _ => wk_rng 0 n.toNat) hd.2⟩
    · cases hm
  | rng2 a b =>
    simp only [mI] at hm
    split at hm
    · rename_i x y sh
      obtain ⟨p, pos, rfl, gl, pl, pl2⟩ := asB2_of sh
      rw [Bool.and_eq_true] at hm
      simp only [cI] at hc
      cases ha : cE G.fns Γ a with
      | none => rw [ha] at hc; cases hc
      | some r =>
        cases hb : cE G.fns Γ b with
        | none => rw [ha, hb] at hc; cases hc
        | some r2 =>
          obtain ⟨u, B⟩ := r
          obtain ⟨u2, B2⟩ := r2
          rw [ha, hb] at hc
          cases hc
          refine (pi_range2 (g.gl gl) (g.nob (by decide +kernel)) (pa_cons (sE a g (Γ := Γ) (L := L) hm.1 ha) (pa_cons (sE b g (Γ := Γ) (L := L) hm.2 hb) pa_nil (plain_star pl2)) (plain_star pl)) (by rw [plain_star pl, plain_star pl2]; rfl) (plain_star pl2)).sub fun σ H R ⟨env, Q, er, hE, kk⟩ => ?_
          simp only [It] at hE
          refine ⟨env, _, er, hE, fun v H' d s' rs hd => ⟨env, _, er.mono s', hd, fun v2 H2 d2 s2 rs2 hd => ?_⟩⟩
          cases d <;> try exact hd.elim
          cases d2 <;> try exact hd.elim
          rename_i n _ m
          obtain rfl := rep_int (rs.bor (Same.refl _)).rep
          obtain rfl := rep_int (rs2.bor (Same.refl _)).rep
          exact ⟨n, m, rfl, ⟨hd.1.1.1, hd.1.1.2, hd.1.2⟩, kk _ _ _ (s'.trans s2) (fun Hb _ => wk_rng n (m - n).toNat) hd.2⟩
    · cases hm
  | rng3 a b c =>
    simp only [mI] at hm
    split at hm
    · rename_i x y z sh
      obtain ⟨p, pos, rfl, gl, pl, pl2, pl3⟩ := asB3_of sh
      simp only [Bool.and_eq_true] at hm
      simp only [cI] at hc
      cases ha : cE G.fns Γ a with
      | none => rw [ha] at hc; cases hc
      | some r =>
        cases hb : cE G.fns Γ b with
        | none => rw [ha, hb] at hc; cases hc
        | some r2 =>
          cases hc3 : cE G.fns Γ c with
          | none => rw [ha, hb, hc3] at hc; cases hc
          | some r3 =>
            obtain ⟨u, B⟩ := r
            obtain ⟨u2, B2⟩ := r2
            obtain ⟨u3, B3⟩ := r3
            rw [ha, hb, hc3] at hc
            cases hc
            refine (pi_range3 (g.gl gl) (g.nob (by decide +kernel)) (pa_cons (sE a g (Γ := Γ) (L := L) hm.1.1 ha) (pa_cons (sE b g (Γ := Γ) (L := L) hm.1.2 hb) (pa_cons (sE c g (Γ := Γ) (L := L) hm.2 hc3) pa_nil (plain_star pl3)) (plain_star pl2)) (plain_star pl)) (plain_star pl) (star_any (by simp [pl2, pl3]))).sub fun σ H R ⟨env, Q, er, hE, kk⟩ => ?_
            simp only [It] at hE
            refine ⟨env, _, er, hE, fun v H' d s' rs hd => ⟨env, _, er.mono s', hd, fun v2 H2 d2 s2 rs2 hd => ⟨env, _, (er.mono s').mono s2, hd, fun v3 H3 d3 s3 rs3 hd => ?_⟩⟩⟩
            cases d <;> try exact hd.elim
            cases d2 <;> try exact hd.elim
            cases d3 <;> try exact hd.elim
            rename_i n _ m _ c
            obtain rfl := rep_int (rs.bor (Same.refl _)).rep
            obtain rfl := rep_int (rs2.bor (Same.refl _)).rep
            obtain rfl := rep_int (rs3.bor (Same.refl _)).rep
            obtain ⟨q, rg, hd⟩ := hd
            exact ⟨n, m, c, q, rfl, rg, kk _ _ _ ((s'.trans s2).trans s3) (fun Hb _ => wk_rngC n c q) hd⟩
    · cases hm
  | _ => exact gen hm hc fun _ _ z => z
end
end Pv

set_option maxRecDepth 100000
set_option maxHeartbeats 1000000
namespace Pv
open PySem L2
/-! ### statements: who owns what -/
section
variable (K : PySem.W.Frag) (cls : Nat → Addr)
/-- the slots bear env: H0 the heap at the beginning, Nz what was shared there; Fs what each slot owns -/
structure SRF (Fs : Nat → List Addr) (Nz : Addr → Prop) (Γ : List T) (H0 H : Hp) (σ : St) (env : Env) : Prop where
  nd : ∀ i, (Fs i).Nodup
  dj : ∀ i j, i ≠ j → ∀ a ∈ Fs i, a ∉ Fs j
  own : ∀ i, ∀ a ∈ Fs i, H0 a = none ∧ Box (H a)
  same : Same H0 H
  l1 : σ.length = env.length
  l2 : Γ.length = env.length
  get : ∀ i d, env[i]? = some (some d) → ∃ v t, σ[i]? = some (some v) ∧ Γ[i]? = some t ∧ ReT K cls (fun a => (Nz a ∨ H0 a = none) ∧ ∀ j, a ∉ Fs j) H t v d (Fs i)
def SR (Nz : Addr → Prop) (Γ : List T) (H0 H : Hp) (σ : St) (env : Env) : Prop := ∃ Fs, SRF K cls Fs Nz Γ H0 H σ env
end
/-- weaker: less owned -/
def wkB (t u : T) : Bool := T.le t u || T.le t.bor u
def wkL : List T → List T → Bool
  | [], [] => true
  | t :: ts, u :: us => wkB t u && wkL ts us
  | _, _ => false
def frz (Γ : List T) (A : List Nat) : List T := (List.range Γ.length).map fun i => if i ∈ A then (Γ.getD i .im).bor else Γ.getD i .im
theorem frz_len (Γ : List T) (A : List Nat) : (frz Γ A).length = Γ.length := by simp [frz]
theorem frz_get {Γ : List T} {A : List Nat} {i : Nat} {t : T} (h : Γ[i]? = some t) : (frz Γ A)[i]? = some (if i ∈ A then t.bor else t) := by
  obtain ⟨hi, e⟩ := List.getElem?_eq_some_iff.mp h
  subst e
  simp [frz, hi, List.getD_eq_getElem?_getD]
theorem wkL_len : ∀ {ts us : List T}, wkL ts us = true → ts.length = us.length
  | [], [], _ => rfl
  | _ :: ts, _ :: us, h => by simp [wkL_len (Bool.and_eq_true_iff.mp h).2]
theorem wkL_get : ∀ {ts us : List T} {i : Nat} {t : T}, wkL ts us = true → ts[i]? = some t → ∃ u, us[i]? = some u ∧ wkB t u = true
  | [], [], _, _, _, e => by simp at e
  | t :: ts, u :: us, 0, _, h, e => by simp at e; subst e; exact ⟨u, rfl, (Bool.and_eq_true_iff.mp h).1⟩
  | t :: ts, u :: us, i + 1, _, h, e => by
    obtain ⟨w, h1, h2⟩ := wkL_get (i := i) (Bool.and_eq_true_iff.mp h).2 (by simpa using e)
    exact ⟨w, by simpa using h1, h2⟩
section
variable {K : PySem.W.Frag} {cls : Nat → Addr} {Nz : Addr → Prop} {Γ Γ' : List T} {H0 H H' : Hp} {σ : St} {env : Env}
theorem box_some {H : Hp} {a : Addr} (h : Box (H a)) : H a ≠ none := fun z => by rw [z] at h; exact h
theorem box_same {H H' : Hp} (e : Same H H') {a : Addr} (h : Box (H a)) : Box (H' a) := by
  cases q : H a with
  | none => rw [q] at h; exact h.elim
  | some o => rw [e a o q]; rw [q] at h; exact h
theorem SRF.mono {Fs : Nat → List Addr} (h : SRF K cls Fs Nz Γ H0 H σ env) (e : Same H H') : SRF K cls Fs Nz Γ H0 H' σ env :=
  ⟨h.nd, h.dj, fun i a z => ⟨(h.own i a z).1, box_same e (h.own i a z).2⟩, h.same.trans e, h.l1, h.l2, fun i d q => let ⟨v, t, e1, e2, r⟩ := h.get i d q; ⟨v, t, e1, e2, r.mono e fun _ z => z⟩⟩
/-- less owned: the slots at A are shared from now on -/
theorem SRF.free {Fs : Nat → List Addr} (A : Nat → Prop) (h : SRF K cls Fs Nz Γ H0 H σ env) (hl : Γ'.length = Γ.length)
    (hg : ∀ i t, Γ[i]? = some t → ∃ u, Γ'[i]? = some u ∧ ((¬ A i ∧ T.le t u = true) ∨ (A i ∧ T.le t.bor u = true ∧ u.flat = true))) : ∃ Gs, (∀ i a, a ∈ Gs i → a ∈ Fs i ∧ ¬ A i) ∧ SRF K cls Gs Nz Γ' H0 H σ env := by
  obtain ⟨h1, h2, h3, h4, h5, h6, h7⟩ := h
  classical
  refine ⟨fun i => if A i then [] else Fs i, fun i a ha => ?_, fun i => ?_, fun i j hij a ha => ?_, fun i a ha => ?_, h4, h5, hl.trans h6, fun i d hd => ?_⟩
  · (try dsimp only at ha); split at ha
    · simp at ha
    · exact ⟨ha, ‹_›⟩
  · (try dsimp only); split
    · exact .nil
    · exact h1 i
  · try dsimp only at ha ⊢
    split at ha
    · simp at ha
    · split
      · simp
      · exact h2 i j hij a ha
  · try dsimp only at ha
    split at ha
    · simp at ha
    · exact h3 i a ha
  · obtain ⟨v, t, e1, e2, r⟩ := h7 i d hd
    obtain ⟨u, e3, c⟩ := hg i t e2
    refine ⟨v, u, e1, e3, ?_⟩
    have nn : ∀ a, ((Nz a ∨ H0 a = none) ∧ ∀ j, a ∉ Fs j) → ((Nz a ∨ H0 a = none) ∧ ∀ j, a ∉ (if A j then [] else Fs j)) := fun a z => ⟨z.1, fun j => by
      split
      · simp
      · exact z.2 j⟩
    rcases c with ⟨na, le⟩ | ⟨ya, le, fl⟩
    · try dsimp only
      rw [if_neg na]
      exact (r.mono (Same.refl _) nn).le le
    · try dsimp only
      rw [if_pos ya]
      refine .bo fl ((r.bor.mono (Same.refl _) fun a z => ?_).le le)
      rcases z with z | z
      · exact nn a z
      · refine ⟨.inr (h3 i a z).1, fun j => ?_⟩
        split
        · simp
        · rename_i nj
          exact h2 i j (fun e => nj (e ▸ ya)) a z
theorem le_flat_bor : ∀ {t u : T}, T.le t.bor u = true → T.le t u = true ∨ u.flat = true
  | .im, .im, _ => .inr rfl
  | .im, .sh, _ => .inr rfl
  | .im, .s _, h => .inr h
  | .im, .ow _, _ => .inl rfl
  | .sh, .sh, _ => .inr rfl
  | .s t, .sh, _ => .inr rfl
  | .s t, .s u, h => .inr (Bool.and_eq_true_iff.mp h).1
  | .ow t, .sh, _ => .inr rfl
  | .ow t, .s u, h => .inr (Bool.and_eq_true_iff.mp h).1
theorem SRF.wk {Fs : Nat → List Addr} (h : SRF K cls Fs Nz Γ H0 H σ env) (hw : wkL Γ Γ' = true) : ∃ Gs, (∀ i a, a ∈ Gs i → a ∈ Fs i) ∧ SRF K cls Gs Nz Γ' H0 H σ env := by
  have := h.free (Γ' := Γ') (fun i => ∃ t u, Γ[i]? = some t ∧ Γ'[i]? = some u ∧ T.le t u = false) (wkL_len hw).symm fun i t ht => by
    obtain ⟨u, hu, w⟩ := wkL_get hw ht
    refine ⟨u, hu, ?_⟩
    cases q : T.le t u with
    | true =>
      refine .inl ⟨fun ⟨t', u', a, b, c⟩ => ?_, rfl⟩
      rw [ht] at a; rw [hu] at b; cases a; cases b
      rw [q] at c; cases c
    | false =>
      have w' : T.le t.bor u = true := by
        unfold wkB at w
        rw [q] at w
        exact w
      refine .inr ⟨⟨t, u, ht, hu, q⟩, w', ?_⟩
      rcases le_flat_bor w' with z | z
      · rw [q] at z; cases z
      · exact z
  obtain ⟨Gs, g1, g2⟩ := this
  exact ⟨Gs, fun i a z => (g1 i a z).1, g2⟩
theorem SR.wk (h : SR K cls Nz Γ H0 H σ env) (hw : wkL Γ Γ' = true) : SR K cls Nz Γ' H0 H σ env := let ⟨_, h⟩ := h; let ⟨Gs, _, g⟩ := h.wk hw; ⟨Gs, g⟩
theorem le_refl_flat : ∀ t : T, T.le t t = true ∨ t.flat = false
  | .im => .inl rfl
  | .sh => .inl rfl
  | .s t => by
    cases h : t.flat with
    | false => exact .inr h
    | true =>
      rcases le_refl_flat t with z | z
      · exact .inl (by show (t.flat && T.le t t) = true; rw [h, z]; rfl)
      · rw [h] at z; cases z
  | .ow t => by
    rcases le_refl_flat t with z | z
    · exact .inl z
    · exact .inr rfl
theorem le_bor_refl (t : T) : T.le t.bor t.bor = true := by
  rcases le_refl_flat t.bor with z | z
  · exact z
  · rw [flat_bor] at z; cases z
/-- the slots as an expression reads them -/
def Lof (Nz : Addr → Prop) (H0 H : Hp) (Fs : Nat → List Addr) : Nat → Addr → Prop := fun i a => (a ∈ Fs i ∨ ((Nz a ∨ H0 a = none) ∧ ∀ j, a ∉ Fs j)) ∧ H a ≠ none
theorem SRF.er {Fs : Nat → List Addr} (h : SRF K cls Fs Nz Γ H0 H σ env) : ER K cls Γ (Lof Nz H0 H Fs) H σ env :=
  ⟨h.l1, fun i a z => z.2, fun i d q => let ⟨v, t, e1, e2, r⟩ := h.get i d q; ⟨v, t, e1, e2, r.bor.dom.mono (Same.refl _) fun a z => ⟨z.1.elim (fun z => .inr z) fun z => .inl z, z.2⟩⟩⟩
theorem SRF.frzA {Fs : Nat → List Addr} (h : SRF K cls Fs Nz Γ H0 H σ env) (hf : ∀ t ∈ Γ, T.le t t = true) (A : List Nat) : ∃ Gs, (∀ i a, a ∈ Gs i → a ∈ Fs i ∧ i ∉ A) ∧ SRF K cls Gs Nz (Pv.frz Γ A) H0 H σ env :=
  h.free (fun i => i ∈ A) (frz_len Γ A) fun i t ht => by
    refine ⟨_, frz_get ht, ?_⟩
    by_cases q : i ∈ A
    · rw [if_pos q]
      exact .inr ⟨q, le_bor_refl t, flat_bor t⟩
    · rw [if_neg q]
      exact .inl ⟨q, hf t (List.mem_of_getElem? ht)⟩
/-- a value is stored at x; the slots at A are shared from now on -/
theorem SRF.store {Fs : Nat → List Addr} (h : SRF K cls Fs Nz Γ H0 H σ env) {x : Nat} {t : T} {A : List Nat} {v : V} {d : D} {F : List Addr} {N : Addr → Prop} (s : Same H H') (nd : F.Nodup) (fr : ∀ a ∈ F, H a = none) (r : ReT K cls N H' t v d F)
    (hN : ∀ a, N a → (NA (Lof Nz H0 H Fs) H A a ∨ ((Nz a ∨ H0 a = none) ∧ ∀ j, a ∉ Fs j)) ∧ a ∉ F) : SRF K cls (fun j => if j = x then F else if j ∈ A then [] else Fs j) Nz ((frz Γ A).set x t) H0 H' (σ.set x (some v)) (env.set x (some d)) := by
  obtain ⟨h1, h2, h3, h4, h5, h6, h7⟩ := h
  have fA : ∀ i a, a ∈ Fs i → a ∉ F := fun i a z q => box_some (h3 i a z).2 (fr a q)
  refine ⟨fun j => ?_, fun i j hij a ha => ?_, fun i a ha => ?_, h4.trans s, by simp [h5], by simp [frz_len, h6], fun i d' hd => ?_⟩
  · (try dsimp only); split
    · exact nd
    · split
      · exact .nil
      · exact h1 j
  · try dsimp only at ha ⊢
    split at ha
    · rename_i e
      rw [if_neg (fun q => hij (e.trans q.symm))]
      split
      · simp
      · exact fun q => fA j a q ha
    · split at ha
      · simp at ha
      · split
        · exact fA i a ha
        · split
          · simp
          · exact h2 i j hij a ha
  · try dsimp only at ha
    split at ha
    · exact ⟨h4.free (fr a ha), r.box a ha⟩
    · split at ha
      · simp at ha
      · exact ⟨(h3 i a ha).1, box_same s (h3 i a ha).2⟩
  · have hlx : x = i → x < env.length := fun e => by
      subst e
      have := (List.getElem?_eq_some_iff.mp hd).1
      simpa using this
    by_cases e : x = i
    · subst e
      have hx := hlx rfl
      rw [List.getElem?_set_self hx] at hd
      cases hd
      refine ⟨v, t, by rw [List.getElem?_set_self (by omega)], by rw [List.getElem?_set_self (by rw [frz_len]; omega)], ?_⟩
      try dsimp only
      rw [if_pos rfl]
      refine r.mono (Same.refl _) fun a z => ⟨?_, fun j => ?_⟩
      · rcases (hN a z).1 with (⟨i, hi, q, _⟩ | q) | q
        · rcases q with q | q
          · exact .inr (h3 i a q).1
          · exact q.1
        · exact .inr (h4.free q)
        · exact q.1
      · split
        · exact (hN a z).2
        · split
          · simp
          · rename_i nx nA
            rcases (hN a z).1 with (⟨i, hi, q, _⟩ | q) | q
            · rcases q with q | q
              · exact h2 i j (fun e => nA (e ▸ hi)) a q
              · exact q.2 j
            · exact fun w => box_some (h3 j a w).2 q
            · exact q.2 j
    · rw [List.getElem?_set_ne e] at hd
      obtain ⟨v', t', e1, e2, r'⟩ := h7 i d' hd
      refine ⟨v', if i ∈ A then t'.bor else t', by rw [List.getElem?_set_ne e]; exact e1, by rw [List.getElem?_set_ne e]; exact frz_get e2, ?_⟩
      have e' : ¬ i = x := fun q => e q.symm
      try dsimp only
      rw [if_neg e']
      have nn : ∀ a, (((Nz a ∨ H0 a = none) ∧ ∀ j, a ∉ Fs j) ∧ H a ≠ none) → ((Nz a ∨ H0 a = none) ∧ ∀ j, a ∉ (if j = x then F else if j ∈ A then [] else Fs j)) := fun a z => ⟨z.1.1, fun j => by
        split
        · exact fun w => z.2 (fr a w)
        · split
          · simp
          · exact z.1.2 j⟩
      by_cases hA : i ∈ A
      · rw [if_pos hA, if_pos hA]
        refine .bo (flat_bor _) (r'.bor.dom.mono s fun a z => ?_)
        rcases z.1 with w | w
        · exact nn a ⟨w, z.2⟩
        · refine ⟨.inr (h3 i a w).1, fun j => ?_⟩
          split
          · exact fA i a w
          · split
            · simp
            · rename_i nx nA
              exact h2 i j (fun e => nA (e ▸ hA)) a w
      · rw [if_neg hA, if_neg hA]
        exact r'.dom.mono s fun a z => nn a z
theorem SRF.storeR {Fs : Nat → List Addr} (h : SRF K cls Fs Nz Γ H0 H σ env) {x : Nat} {t : T} {A : List Nat} {v : V} {d : D} (s : Same H H') (rs : RS K cls (Lof Nz H0 H Fs) H H' t A v d) : SR K cls Nz ((frz Γ A).set x t) H0 H' (σ.set x (some v)) (env.set x (some d)) := by
  obtain ⟨F, nd, fr, r⟩ := rs
  exact ⟨_, h.store s nd fr r fun a z => ⟨.inl z.1, z.2⟩⟩
/-- the beginning is set anew: what is not owned now -/
noncomputable def base' (Fs : Nat → List Addr) (H : Hp) : Hp := fun b => open Classical in if ∃ i, b ∈ Fs i then none else H b
theorem base_same (Fs : Nat → List Addr) (H : Hp) : Same (base' Fs H) H := fun b u e => by
  unfold base' at e
  split at e
  · cases e
  · exact e
theorem base_out {Fs : Nat → List Addr} {H : Hp} {b : Addr} (h : ∀ i, b ∉ Fs i) : base' Fs H b = H b := by
  unfold base'
  rw [if_neg (fun ⟨i, z⟩ => h i z)]
theorem base_in {Fs : Nat → List Addr} {H : Hp} {i : Nat} {b : Addr} (h : b ∈ Fs i) : base' Fs H b = none := by
  unfold base'
  rw [if_pos ⟨i, h⟩]
theorem SRF.rebase {Fs : Nat → List Addr} (h : SRF K cls Fs Nz Γ H0 H σ env) : SR K cls (fun a => Nz a ∨ H0 a = none) Γ (base' Fs H) H σ env :=
  ⟨Fs, h.nd, h.dj, fun i a z => ⟨base_in z, (h.own i a z).2⟩, base_same Fs H, h.l1, h.l2, fun i d q => let ⟨v, t, e1, e2, r⟩ := h.get i d q; ⟨v, t, e1, e2, r.mono (Same.refl _) fun a z => ⟨.inl z.1, z.2⟩⟩⟩
theorem SR.unbase {Fs : Nat → List Addr} (h3 : ∀ i, ∀ a ∈ Fs i, H0 a = none ∧ Box (H a)) (h4 : Same H0 H) (h : SR K cls (fun a => Nz a ∨ H0 a = none) Γ (base' Fs H) H' σ env) : SR K cls Nz Γ H0 H' σ env := by
  have e0 : Same H0 (base' Fs H) := fun b u e => by
    rw [base_out fun i z => by have := (h3 i b z).1; rw [e] at this; cases this]
    exact h4 b u e
  obtain ⟨G, g1, g2, g3, g4, g5, g6, g7⟩ := h
  refine ⟨G, g1, g2, fun i a z => ⟨e0.free (g3 i a z).1, (g3 i a z).2⟩, e0.trans g4, g5, g6, fun i d q => ?_⟩
  obtain ⟨v, t, e1, e2, r⟩ := g7 i d q
  refine ⟨v, t, e1, e2, r.mono (Same.refl _) fun a z => ⟨?_, z.2⟩⟩
  rcases z.1 with z | z
  · exact z
  · exact .inr (e0.free z)
theorem RSp.unbase {Fs : Nat → List Addr} {t : T} {v : V} {d : D} (h3 : ∀ i, ∀ a ∈ Fs i, H0 a = none ∧ Box (H a)) (h4 : Same H0 H) (h : RSp K cls (fun a => Nz a ∨ H0 a = none) (base' Fs H) H' t v d) : RSp K cls Nz H0 H' t v d := by
  have e0 : Same H0 (base' Fs H) := fun b u e => by
    rw [base_out fun i z => by have := (h3 i b z).1; rw [e] at this; cases this]
    exact h4 b u e
  obtain ⟨F, nd, fr, r⟩ := h
  refine ⟨F, nd, fun a z => e0.free (fr a z), r.mono (Same.refl _) fun a z => ⟨?_, z.2⟩⟩
  rcases z.1 with z | z
  · exact z
  · exact .inr (e0.free z)
end
end Pv

set_option maxRecDepth 100000
set_option maxHeartbeats 1000000
namespace Pv
open PySem L2
def ovr : List T → List (Nat × T) → List T
  | Γ, [] => Γ
  | Γ, (i, t) :: r => ovr (Γ.set i t) r
def jn (t u : T) : T := if wkB t (T.join t u) && wkB u (T.join t u) then T.join t u else if wkB t (T.join t.bor u.bor) && wkB u (T.join t.bor u.bor) then T.join t.bor u.bor else .sh
def jnL : List T → List T → List T
  | t :: ts, u :: us => jn t u :: jnL ts us
  | _, _ => []
def reflB (Γ : List T) : Bool := Γ.all fun t => T.le t t
/-- what a slot's own thing is, handed on whole -/
def ownT (Γ : List T) : CE → Option (Nat × T)
  | .var i => match Γ[i]? with
    | some (.ow t) => some (i, .ow t)
    | _ => none
  | _ => none
def tgT : TG0 → T → List T → List T
  | .nm i, t, Γ => Γ.set i t
  | .tp is, t, Γ => is.foldl (fun g i => g.set i t.el) Γ
def mer (x y : Option (List T)) : Option (Option (List T)) := match x, y with
  | none, r => some r
  | r, none => some r
  | some a, some b => if wkL a (jnL a b) && wkL b (jnL a b) then some (some (jnL a b)) else none
/-- the kinds behind a statement (none within: it isn't left at its end) -/
def cS (fns : List FnI) (rt : T) : Option (List T) → List T → CS → Option (Option (List T))
  | _, Γ, .nil => some (some Γ)
  | _, Γ, .pas => some (some Γ)
  | ΓL, Γ, .seq a b => match cS fns rt ΓL Γ a with
    | some (some Γ1) => cS fns rt ΓL Γ1 b
    | some none => some none
    | none => none
  | _, Γ, .asg x e => match cE fns Γ e with
    | some (t, A) => if reflB Γ then some (some ((frz Γ A).set x t)) else none
    | none => none
  | _, Γ, .mov x y => match Γ[y]? with
    | some t => if x ≠ y then some (some (Γ.set x t)) else none
    | none => none
  | _, Γ, .ex e => match cE fns Γ e with
    | some _ => some (some Γ)
    | none => none
  | _, Γ, .ret e => match ownT Γ e with
    | some (y, t) => if T.le t rt then some none else none
    | none => match cE fns Γ e with
      | some (t, A) => if T.le t rt then some none else if T.le t.bor rt && rt.flat then some none else none
      | none => none
  | ΓL, Γ, .ite c a b => match cE fns Γ c, cS fns rt ΓL Γ a, cS fns rt ΓL Γ b with
    | some _, some x, some y => mer x y
    | _, _, _ => none
  | _, Γ, .whl inv c b => let Γi := ovr Γ inv
    if wkL Γ Γi then match cE fns Γi c, cS fns rt (some Γi) Γi b with
      | some _, some none => some (some Γi)
      | some _, some (some Γb) => if wkL Γb Γi then some (some Γi) else none
      | _, _ => none
    else none
  | _, Γ, .for inv g it b => match cI fns Γ it with
    | some (t, A) => let Γi := ovr (frz Γ A) inv
      if reflB Γ && reflB Γi && wkL (frz Γ A) Γi && t.flat then match cS fns rt (some Γi) (tgT g t Γi) b with
        | some none => some (some Γi)
        | some (some Γb) => if wkL Γb Γi then some (some Γi) else none
        | none => none
      else none
    | none => none
  | ΓL, Γ, .brk => match ΓL with
    | some g => if wkL Γ g then some none else none
    | none => none
  | ΓL, Γ, .cnt => match ΓL with
    | some g => if wkL Γ g then some none else none
    | none => none
section
variable (G : Glob) (C : CallW) (rt : T) (ΓL : Option (List T)) (Γ : List T) (r : Option (List T))
/-- the reading of a statement -/
def tSS (c : CS) : TS := fun D σ H => ∃ Nz H0 env k, SR G.K G.cls Nz Γ H0 H σ env ∧ W C c k env ∧
  (∀ Γ' σ' H' env', r = some Γ' → SR G.K G.cls Nz Γ' H0 H' σ' env' → k.nx env' → D.nx σ' H') ∧
  (∀ Γ' σ' H' env', ΓL = some Γ' → SR G.K G.cls Nz Γ' H0 H' σ' env' → k.bk env' → D.bk σ' H') ∧
  (∀ Γ' σ' H' env', ΓL = some Γ' → SR G.K G.cls Nz Γ' H0 H' σ' env' → k.ct env' → D.ct σ' H') ∧
  ∀ v H' d, Same H0 H' → RSp G.K G.cls Nz H0 H' rt v d → k.rt d → D.rt v H'
end
section
variable {K : PySem.W.Frag} {cls : Nat → Addr} {Nz : Addr → Prop} {Γ Γ' : List T} {H0 H H' : Hp} {σ : St} {env : Env}
theorem refl_of (h : reflB Γ = true) : ∀ t ∈ Γ, T.le t t = true := List.all_eq_true.mp h
theorem SRF.rs {Fs : Nat → List Addr} (h : SRF K cls Fs Nz Γ H0 H σ env) {t : T} {A : List Nat} {v : V} {d : D} (rs : RS K cls (Lof Nz H0 H Fs) H H' t A v d) : RSp K cls Nz H0 H' t v d := by
  obtain ⟨F, nd, fr, r⟩ := rs
  refine ⟨F, nd, fun a z => h.same.free (fr a z), r.mono (Same.refl _) fun a z => ⟨?_, z.2⟩⟩
  rcases z.1 with ⟨i, hi, q, _⟩ | q
  · rcases q with q | q
    · exact .inr (h.own i a q).1
    · exact q.1
  · exact .inr (h.same.free q)
theorem RSp.le {N : Addr → Prop} {t u : T} {v : V} {d : D} (e : T.le t u = true) (h : RSp K cls N H H' t v d) : RSp K cls N H H' u v d := by
  obtain ⟨F, nd, fr, r⟩ := h
  exact ⟨F, nd, fr, r.le e⟩
theorem RSp.bor {N : Addr → Prop} {t u : T} {v : V} {d : D} (e : T.le t.bor u = true) (f : u.flat = true) (h : RSp K cls N H H' t v d) : RSp K cls N H H' u v d := by
  obtain ⟨F, nd, fr, r⟩ := h
  refine ⟨[], .nil, fun _ z => absurd z (by simp), .bo f ((r.bor.mono (Same.refl _) fun a z => ⟨?_, by simp⟩).le e)⟩
  rcases z with z | z
  · exact z.1
  · exact .inr (fr a z)
/-- the thing that a slot owns -/
theorem SRF.own1 {Fs : Nat → List Addr} (h : SRF K cls Fs Nz Γ H0 H σ env) {y : Nat} {t : T} (ht : Γ[y]? = some t) {d : D} (hd : env[y]? = some (some d)) : ∃ v, σ[y]? = some (some v) ∧ RSp K cls Nz H0 H t v d := by
  obtain ⟨v, t', e1, e2, r⟩ := h.get y d hd
  rw [ht] at e2
  cases e2
  exact ⟨v, e1, Fs y, h.nd y, fun a z => (h.own y a z).1, r.mono (Same.refl _) fun a z => ⟨z.1, z.2 y⟩⟩
theorem SRF.move {Fs : Nat → List Addr} (h : SRF K cls Fs Nz Γ H0 H σ env) {x y : Nat} (xy : x ≠ y) {t : T} (ht : Γ[y]? = some t) {d : D} (hd : env[y]? = some (some d)) :
    ∃ v, σ[y]? = some (some v) ∧ SR K cls Nz (Γ.set x t) H0 H (σ.set x (some v)) ((env.set y none).set x (some d)) := by
  obtain ⟨v, t', e1, e2, r⟩ := h.get y d hd
  rw [ht] at e2
  cases e2
  refine ⟨v, e1, fun j => if j = x then Fs y else if j = y then [] else Fs j, fun j => ?_, fun i j hij a ha => ?_, fun i a ha => ?_, h.same, by simp [h.l1], by simp [h.l2], fun i d' hd' => ?_⟩
  · (try dsimp only); split
    · exact h.nd y
    · split
      · exact .nil
      · exact h.nd j
  · try dsimp only at ha ⊢
    split at ha
    · rename_i e
      rw [if_neg (fun q => hij (e.trans q.symm))]
      split
      · simp
      · rename_i q
        exact h.dj y j (fun e => q e.symm) a ha
    · split at ha
      · simp at ha
      · rename_i q
        split
        · exact h.dj i y q a ha
        · split
          · simp
          · exact h.dj i j hij a ha
  · try dsimp only at ha
    split at ha
    · exact h.own y a ha
    · split at ha
      · simp at ha
      · exact h.own i a ha
  · have nn : ∀ a, ((Nz a ∨ H0 a = none) ∧ ∀ j, a ∉ Fs j) → ((Nz a ∨ H0 a = none) ∧ ∀ j, a ∉ (if j = x then Fs y else if j = y then [] else Fs j)) := fun a z => ⟨z.1, fun j => by
      split
      · exact z.2 y
      · split
        · simp
        · exact z.2 j⟩
    by_cases e : x = i
    · subst e
      have hx : x < env.length := by
        have := (List.getElem?_eq_some_iff.mp hd').1
        simpa using this
      rw [List.getElem?_set_self (by simpa using hx)] at hd'
      cases hd'
      have l1 := h.l1
      have l2 := h.l2
      refine ⟨v, t, by rw [List.getElem?_set_self (by omega)], by rw [List.getElem?_set_self (by omega)], ?_⟩
      try dsimp only
      rw [if_pos rfl]
      exact r.mono (Same.refl _) nn
    · rw [List.getElem?_set_ne e] at hd'
      by_cases hy : y = i
      · subst hy
        by_cases hl : y < env.length
        · rw [List.getElem?_set_self hl] at hd'; cases hd'
        · rw [List.getElem?_eq_none (by simpa using hl)] at hd'; cases hd'
      · rw [List.getElem?_set_ne hy] at hd'
        obtain ⟨v', t', e1, e2, r'⟩ := h.get i d' hd'
        refine ⟨v', t', by rw [List.getElem?_set_ne e]; exact e1, by rw [List.getElem?_set_ne e]; exact e2, ?_⟩
        have e' : ¬ i = x := fun q => e q.symm
        have hy' : ¬ i = y := fun q => hy q.symm
        try dsimp only
        rw [if_neg e', if_neg hy']
        exact r'.mono (Same.refl _) nn
end
/-! ### targets -/
section
variable {X : Cx} {N : List Str} {sc : Scope}
theorem Good.loc {G : Glob} {k : Nat} (g : Good G k N sc X) {x : Str} (h : locB sc x = true) : L2.Loc X.env.scope x ∧ (X.fn x = true ∨ X.env.scope.names.lookup x = some .local) := by
  have l := loc_of h
  rw [g.hsc]
  refine ⟨l, ?_⟩
  rcases l with l | l
  · exact .inr l
  · exact .inl (g.hfn x l)
def gNms : List Nat → TGs
  | [] => gNil
  | i :: is => gCons (gName i) (gNms is)
theorem pg_names {G : Glob} {k : Nat} (g : Good G k N sc X) : ∀ {is : List Nat} {xs : List Expr}, mG.go N is sc xs = true → PGs X xs (gNms is) ∧ (assignEach xs X.env).length = is.length ∧ (assignEach xs X.env).findIdx? (·.1) = none
  | [], [], _ => ⟨pgs_nil, rfl, rfl⟩
  | i :: is, x :: xs, h => by
    cases x with
    | Name x p =>
      unfold mG.go at h
      simp only [Bool.and_eq_true, decide_eq_true_eq] at h
      obtain ⟨⟨hN, hl⟩, hr⟩ := h
      obtain ⟨l, f⟩ := g.loc hl
      obtain ⟨a1, a2, a3⟩ := pg_names g hr
      refine ⟨pgs_cons (pg_name (by rw [g.hN]; exact g.nd) (by rw [g.hN]; exact hN) l f) a1, ?_, ?_⟩
      · show (assignEach xs X.env).length + 1 = is.length + 1
        rw [a2]
      · show ((false, assign (.Name x p) X.env) :: assignEach xs X.env).findIdx? (·.1) = none
        rw [List.findIdx?_cons]
        simp [a3]
    | _ => unfold mG.go at h; cases h
  | [], _ :: _, h => by unfold mG.go at h; cases h
  | _ :: _, [], h => by unfold mG.go at h; cases h
end
end Pv

set_option maxRecDepth 100000
set_option maxHeartbeats 1000000
namespace Pv
open PySem L2
theorem mer_l {x y r : Option (List T)} (h : mer x y = some r) : ∀ Γ', x = some Γ' → ∃ Γm, r = some Γm ∧ (Γ' = Γm ∨ wkL Γ' Γm = true) := by
  rintro Γ' rfl
  cases y with
  | none => cases h; exact ⟨Γ', rfl, .inl rfl⟩
  | some b =>
    simp only [mer] at h
    split at h
    · rename_i c
      rw [Bool.and_eq_true] at c
      cases h
      exact ⟨_, rfl, .inr c.1⟩
    · cases h
theorem mer_r {x y r : Option (List T)} (h : mer x y = some r) : ∀ Γ', y = some Γ' → ∃ Γm, r = some Γm ∧ (Γ' = Γm ∨ wkL Γ' Γm = true) := by
  rintro Γ' rfl
  cases x with
  | none => cases h; exact ⟨Γ', rfl, .inl rfl⟩
  | some b =>
    simp only [mer] at h
    split at h
    · rename_i c
      rw [Bool.and_eq_true] at c
      cases h
      exact ⟨_, rfl, .inr c.2⟩
    · cases h
section
variable {K : PySem.W.Frag} {cls : Nat → Addr} {Nz : Addr → Prop} {Γ Γ' : List T} {H0 H H' : Hp} {σ : St} {env : Env}
theorem SR.mono (h : SR K cls Nz Γ H0 H σ env) (e : Same H H') : SR K cls Nz Γ H0 H' σ env := let ⟨Fs, h⟩ := h; ⟨Fs, h.mono e⟩
theorem SR.wk' (h : SR K cls Nz Γ H0 H σ env) (hw : Γ = Γ' ∨ wkL Γ Γ' = true) : SR K cls Nz Γ' H0 H σ env := by
  rcases hw with rfl | hw
  · exact h
  · exact h.wk hw
theorem frz_nil (Γ : List T) : frz Γ [] = Γ := by
  apply List.ext_getElem?
  intro i
  cases h : Γ[i]? with
  | none => rw [List.getElem?_eq_none (by rw [frz_len]; exact List.getElem?_eq_none_iff.mp h)]
  | some t => rw [frz_get h, if_neg (by simp)]
end
theorem _root_.L2.PT.some {X : Cx} {e : Expr} {ι : Sort _} {t : ι → TT} (h : ∀ i, PT X e (t i)) : PT X e (fun σ H R => ∃ i, t i σ H R) := ⟨fun pins s σ H R I ⟨i, q⟩ => (h i).run pins s σ H R I q⟩
theorem Good.nv {G : Glob} {k : Nat} {N : List Str} {sc : Scope} {X : Cx} (g : Good G k N sc X) : PassesOwn (model X.prog X.w) X.A X.env X.xe := by
  rw [g.xe]
  exact PassesOwn.never
theorem var_pe {G : Glob} {k : Nat} {N : List Str} {sc : Scope} {X : Cx} (g : Good G k N sc X) {i : Nat} {fns : List Str} {e : Expr} (hm : mE N fns (.var i) sc e = true) : PE X e (tVar i) := by
  unfold mE at hm
  split at hm
  · simp only [Bool.and_eq_true, decide_eq_true_eq] at hm
    obtain ⟨⟨hN, hv⟩, hn⟩ := hm
    exact pe_var (by rw [g.hN]; exact hN) (by rw [g.hsc]; exact vis_of hv) (nm_of hn).1 (nm_of hn).2.1
  · cases hm
theorem itN_own {K : PySem.W.Frag} {cls : Nat → Addr} {Nz : Addr → Prop} {Γ : List T} {H0 H : Hp} {σ : St} {env : Env} {Fs : Nat → List Addr} (h : SRF K cls Fs Nz Γ H0 H σ env) : ∀ a, ((Nz a ∨ H0 a = none) ∧ H0 a ≠ none) ∨ H a = none → (Nz a ∨ H0 a = none) ∧ ∀ j, a ∉ Fs j := fun a z => by
  rcases z with z | z
  · exact ⟨z.1, fun j w => z.2 (h.own j a w).1⟩
  · exact ⟨.inr (h.same.free z), fun j w => box_some (h.own j a w).2 z⟩
/-- a walked item, its addresses not owned now -/
def ItN (K : PySem.W.Frag) (cls : Nat → Addr) (Nz : Addr → Prop) (H0 H H' : Hp) (t : T) (x : V) (d : D) : Prop := RepB K cls (fun a => ((Nz a ∨ H0 a = none) ∧ H0 a ≠ none) ∨ H a = none) H' t x d
section
variable {K : PySem.W.Frag} {cls : Nat → Addr} {Nz : Addr → Prop} {Γ : List T} {H0 H H' : Hp} {σ : St} {env : Env}
theorem SRF.item {Fs : Nat → List Addr} {N : Addr → Prop} {t : T} {x : V} {d : D} {i : Nat} (h : SRF K cls Fs Nz Γ H0 H σ env) (s : Same H H') (ft : t.flat = true) (r : RepB K cls N H' t x d) (hN : ∀ a, N a → (Nz a ∨ H0 a = none) ∧ ∀ j, a ∉ Fs j) :
    ∃ Gs, (∀ i a, a ∈ Gs i → a ∈ Fs i) ∧ SRF K cls Gs Nz (Γ.set i t) H0 H' (σ.set i (some x)) (env.set i (some d)) := by
  have := h.store (x := i) (A := []) s .nil (fun _ z => absurd z (by simp)) (.bo ft r) fun a z => ⟨.inr (hN a z), by simp⟩
  rw [frz_nil] at this
  refine ⟨_, fun j a z => ?_, this⟩
  try dsimp only at z
  split at z
  · simp at z
  · simpa using z
theorem SRF.items {N : Addr → Prop} {t : T} : ∀ {is : List Nat} {vs : List V} {ds : List D} {Fs : Nat → List Addr} {Γ : List T} {σ : St} {env : Env}, SRF K cls Fs Nz Γ H0 H σ env → t.flat = true → Paired (RepB K cls N H t) vs ds → (∀ a, N a → (Nz a ∨ H0 a = none) ∧ ∀ j, a ∉ Fs j) → ds.length = is.length →
    ∀ {Q : St → Hp → Prop}, (∀ σ', SR K cls Nz (is.foldl (fun g i => g.set i t) Γ) H0 H σ' (stor is ds env) → Q σ' H) → gNms is vs σ H Q
  | [], _, _, _, _, _, _, h, _, .nil, _, _, Q, k => ⟨rfl, k _ ⟨_, h⟩⟩
  | i :: is, _, _, _, _, _, _, h, ft, .cons (a := v) (b := d) a r, hN, hl, Q, k => by
    refine ⟨_, _, rfl, ?_⟩
    obtain ⟨Gs, g1, g⟩ := h.item (i := i) (Same.refl _) ft a hN
    exact SRF.items g ft r (fun a z => ⟨(hN a z).1, fun j w => (hN a z).2 j (g1 j a w)⟩) (by simpa using hl) k
  | [], _, _, _, _, _, _, _, _, .cons _ _, _, hl, _, _ => by simp at hl
  | _ :: _, _, _, _, _, _, _, _, _, .nil, _, hl, _, _ => by simp at hl
end
theorem mI_fold {N fns : List Str} {sc : Scope} {c : CE} {e : Expr} {env : PySem.Env} (h : mI N fns c sc e = true) : ∀ x, foldedSetIterable e env x = pure x := by
  cases c with
  | rng1 a =>
    simp only [mI] at h
    split at h
    · rename_i sh; obtain ⟨_, _, rfl, _⟩ := asB1_of sh; exact fun _ => rfl
    · cases h
  | rng2 a b =>
    simp only [mI] at h
    split at h
    · rename_i sh; obtain ⟨_, _, rfl, _⟩ := asB2_of sh; exact fun _ => rfl
    · cases h
  | rng3 a b c =>
    simp only [mI] at h
    split at h
    · rename_i sh; obtain ⟨_, _, rfl, _⟩ := asB3_of sh; exact fun _ => rfl
    · cases h
  | _ =>
    simp only [mI, Bool.and_eq_true] at h
    exact plain_fold h.1
section
variable {G : Glob} {k : Nat} {N : List Str} {sc : Scope} {X : Cx} {rt : T}
mutual
theorem sS (g : Good G k N sc X) : ∀ (c : CS) {st : Stmt} {ΓL : Option (List T)} {Γ : List T} {r : Option (List T)}, mS N (names G.fns) c sc st = true → cS G.fns rt ΓL Γ c = some r → PS X st (tSS G (Cw (FTof G.fns) k) rt ΓL Γ r c)
  | .pas, st, ΓL, Γ, r, hm, hc => by
    simp only [cS] at hc
    cases hc
    have go : ∀ D σ H, tSS G (Cw (FTof G.fns) k) rt ΓL Γ (some Γ) .pas D σ H → tNext D σ H := fun D σ H ⟨Nz, H0, env, k, sr, hW, k1, _⟩ => k1 Γ σ H env rfl sr hW
    unfold mS at hm
    split at hm
    · exact ps_pass.sub go
    · exact ps_doc.sub go
    · cases hm
  | .asg i e, st, ΓL, Γ, r, hm, hc => by
    unfold mS at hm
    split at hm
    · simp only [Bool.and_eq_true, decide_eq_true_eq] at hm
      obtain ⟨⟨⟨hN, hl⟩, hn⟩, he⟩ := hm
      obtain ⟨l, f⟩ := g.loc hl
      simp only [cS] at hc
      split at hc
      · rename_i t A hcE
        split at hc
        · rename_i hf
          cases hc
          constructor
          intro pins s σ H D I ⟨Nz, H0, env, k', ⟨Fs, h⟩, hW, k1, _⟩
          exact (ps_set (by rw [g.hN]; exact g.nd) (by rw [g.hN]; exact hN) l (sE e g (Γ := Γ) (L := Lof Nz H0 H Fs) he hcE) (no_swap hn) f).run pins s σ H D I ⟨env, _, h.er, hW, fun v H' d s' rs q => k1 _ _ _ _ rfl (h.storeR s' rs) q⟩
        · cases hc
      · cases hc
    · cases hm
  | .mov i j, st, ΓL, Γ, r, hm, hc => by
    unfold mS at hm
    split at hm
    · simp only [Bool.and_eq_true, decide_eq_true_eq] at hm
      obtain ⟨⟨⟨hN, hl⟩, hn⟩, he⟩ := hm
      obtain ⟨l, f⟩ := g.loc hl
      simp only [cS] at hc
      split at hc
      · rename_i t ht
        split at hc
        · rename_i xy
          cases hc
          constructor
          intro pins s σ H D I ⟨Nz, H0, env, k', ⟨Fs, h⟩, hW, k1, _⟩
          simp only [W] at hW
          split at hW
          · rename_i d hd
            obtain ⟨v, hv, sr⟩ := h.move xy ht hd
            exact (ps_set (by rw [g.hN]; exact g.nd) (by rw [g.hN]; exact hN) l (var_pe g he) (no_swap hn) f).run pins s σ H D I ⟨v, hv, k1 _ _ _ _ rfl sr hW⟩
          · exact hW.elim
        · cases hc
      · cases hc
    · cases hm
  | .ex e, st, ΓL, Γ, r, hm, hc => by
    unfold mS at hm
    split at hm
    · rw [Bool.and_eq_true] at hm
      simp only [cS] at hc
      split at hc
      · rename_i rr hcE
        obtain ⟨t, A⟩ := rr
        cases hc
        constructor
        intro pins s σ H D I ⟨Nz, H0, env, k', ⟨Fs, h⟩, hW, k1, _⟩
        exact (ps_expr (sE e g (Γ := Γ) (L := Lof Nz H0 H Fs) hm.2 hcE) (no_swap hm.1)).run pins s σ H D I ⟨env, _, h.er, hW, fun v H' d s' rs q => k1 _ _ _ _ rfl ⟨Fs, h.mono s'⟩ q⟩
      · cases hc
    · cases hm
  | .ret e, st, ΓL, Γ, r, hm, hc => by
    unfold mS at hm
    split at hm
    · simp only [cS] at hc
      split at hc
      · rename_i y t ho
        split at hc
        · rename_i hl
          cases hc
          have he : e = .var y ∧ Γ[y]? = some t := by
            unfold ownT at ho
            split at ho
            · split at ho
              · rename_i q; cases ho; exact ⟨rfl, q⟩
              · cases ho
            · cases ho
          obtain ⟨rfl, ht⟩ := he
          constructor
          intro pins s σ H D I ⟨Nz, H0, env, k', ⟨Fs, h⟩, hW, _, _, _, k4⟩
          simp only [W] at hW
          unfold E at hW
          split at hW
          · rename_i d hd
            obtain ⟨v, hv, rs⟩ := h.own1 ht hd
            exact (ps_ret (var_pe g hm)).run pins s σ H D I ⟨v, hv, k4 v H d h.same (rs.le hl) hW⟩
          · exact hW.elim
        · cases hc
      · split at hc
        · rename_i t A hcE
          have key : (∀ {K cls N H H' v d}, RSp K cls N H H' t v d → RSp K cls N H H' rt v d) ∧ r = none := by
            split at hc
            · rename_i hl
              cases hc
              exact ⟨fun z => z.le hl, rfl⟩
            · split at hc
              · rename_i hl
                rw [Bool.and_eq_true] at hl
                cases hc
                exact ⟨fun z => z.bor hl.1 hl.2, rfl⟩
              · cases hc
          obtain ⟨key, rfl⟩ := key
          constructor
          intro pins s σ H D I ⟨Nz, H0, env, k', ⟨Fs, h⟩, hW, _, _, _, k4⟩
          exact (ps_ret (sE e g (Γ := Γ) (L := Lof Nz H0 H Fs) hm hcE)).run pins s σ H D I ⟨env, _, h.er, hW, fun v H' d s' rs q => k4 v H' d (h.same.trans s') (key (h.rs rs)) q⟩
        · cases hc
    · cases hm
  | .ite c a b, st, ΓL, Γ, r, hm, hc => by
    unfold mS at hm
    split at hm
    · simp only [Bool.and_eq_true] at hm
      simp only [cS] at hc
      split at hc
      · rename_i rr x y h0 ha hb
        constructor
        intro pins s σ H D I ⟨Nz, H0, env, k', ⟨Fs, h⟩, hW, k1, k2, k3, k4⟩
        refine (ps_if (sT c g (Γ := Γ) (L := Lof Nz H0 H Fs) hm.1.1 h0).1 (sSs g a hm.1.2 ha) (sSs g b hm.2 hb)).run pins s σ H D I ⟨env, _, _, h.er, hW, fun H' s' hw => iteT ?_, fun H' s' hw => iteF ?_⟩
        · refine ⟨Nz, H0, env, k', ⟨Fs, h.mono s'⟩, hw, fun Γ' σ' H2 env' e sr q => ?_, k2, k3, k4⟩
          obtain ⟨Γm, rfl, w⟩ := mer_l hc Γ' e
          exact k1 Γm σ' H2 env' rfl (sr.wk' w) q
        · refine ⟨Nz, H0, env, k', ⟨Fs, h.mono s'⟩, hw, fun Γ' σ' H2 env' e sr q => ?_, k2, k3, k4⟩
          obtain ⟨Γm, rfl, w⟩ := mer_r hc Γ' e
          exact k1 Γm σ' H2 env' rfl (sr.wk' w) q
      · cases hc
    · cases hm
  | .whl inv c b, st, ΓL, Γ, r, hm, hc => by
    unfold mS at hm
    split at hm
    · rw [Bool.and_eq_true] at hm
      simp only [cS] at hc
      split at hc
      · rename_i hw0
        obtain ⟨rr, rb, h0, hb, rfl, hwb⟩ : ∃ rr rb, cE G.fns (ovr Γ inv) c = some rr ∧ cS G.fns rt (some (ovr Γ inv)) (ovr Γ inv) b = some rb ∧ r = some (ovr Γ inv) ∧ ∀ Γb, rb = some Γb → wkL Γb (ovr Γ inv) = true := by
          split at hc
          · rename_i h1 h2; cases hc; exact ⟨_, _, h1, h2, rfl, fun _ z => by cases z⟩
          · rename_i h1 h2
            split at hc
            · rename_i h3; cases hc; exact ⟨_, _, h1, h2, rfl, fun _ z => by cases z; exact h3⟩
            · cases hc
          · cases hc
        constructor
        intro pins s σ H D I ⟨Nz, H0, env, k', sr, hW, k1, k2, k3, k4⟩
        simp only [W] at hW
        obtain ⟨n0, hW⟩ := hW
        refine (ps_while g.nv (PT.some fun L => (sT c g (Γ := ovr Γ inv) (L := L) hm.1 h0).1) (sSs g b hm.2 hb)).run pins s σ H D I ⟨fun n σ' H' => ∃ env', SR G.K G.cls Nz (ovr Γ inv) H0 H' σ' env' ∧ whlW _ n env', ⟨n0, env, sr.wk hw0, hW⟩, ?_⟩
        rintro n σ1 H1 ⟨env1, sr1, hw⟩
        cases n with
        | zero => exact hw.elim
        | succ n =>
          simp only [whlW] at hw
          obtain ⟨Fs1, f1⟩ := id sr1
          refine ⟨Lof Nz H0 H1 Fs1, env1, _, _, f1.er, hw, fun H' s' h1 => iteT ⟨fun σ' H' => ∃ env', SR G.K G.cls Nz (ovr Γ inv) H0 H' σ' env' ∧ whlW _ n env', fun σ' H' q => ⟨n, Nat.lt_succ_self n, q⟩, ?_⟩, fun H' s' h1 => iteF (k1 _ _ _ _ rfl (sr1.mono s') h1)⟩
          refine ⟨Nz, H0, env1, _, sr1.mono s', h1, fun Γ' σ' H2 env' e sr q => ⟨env', sr.wk (hwb Γ' e), q⟩, fun Γ' σ' H2 env' e sr q => k1 Γ' σ' H2 env' e sr q, fun Γ' σ' H2 env' e sr q => ?_, k4⟩
          cases e
          exact ⟨env', sr, q⟩
      · cases hc
    · cases hm
  | .for inv tg it b, st, ΓL, Γ, r, hm, hc => by
    unfold mS at hm
    split at hm
    · rename_i tgE itE bod pos
      simp only [Bool.and_eq_true] at hm
      simp only [cS] at hc
      split at hc
      · rename_i t A hcI
        split at hc
        · rename_i hw0
          simp only [Bool.and_eq_true] at hw0
          obtain ⟨⟨⟨hf, hfi⟩, hwi⟩, ft⟩ := hw0
          obtain ⟨rb, hb, rfl, hwb⟩ : ∃ rb, cS G.fns rt (some (ovr (frz Γ A) inv)) (tgT tg t (ovr (frz Γ A) inv)) b = some rb ∧ r = some (ovr (frz Γ A) inv) ∧ ∀ Γb, rb = some Γb → wkL Γb (ovr (frz Γ A) inv) = true := by
            split at hc
            · rename_i h2; cases hc; exact ⟨_, h2, rfl, fun _ z => by cases z⟩
            · rename_i h2
              split at hc
              · rename_i h3; cases hc; exact ⟨_, h2, rfl, fun _ z => by cases z; exact h3⟩
              · cases hc
            · cases hc
          generalize hΓi : ovr (frz Γ A) inv = Γi at *
          constructor
          intro pins s σ H D I ⟨Nz, H0, env, k', ⟨Fs, h⟩, hW, k1, k2, k3, k4⟩
          simp only [W] at hW
          have body := sSs g b (ΓL := some Γi) (Γ := tgT tg t Γi) hm.2 hb
          -- the loop, from what its head has left
          have loop : ∀ J H' ds, Same H H' → (∀ Hb, Keep (NA (Lof Nz H0 H Fs) H A) H' Hb → Wk G.K G.cls J Hb (fun a => NA (Lof Nz H0 H Fs) H A a ∧ Hb a ≠ none) t ds) →
              forW (fun d env' nx => G0 tg d env' fun env2 => W (Cw (FTof G.fns) k) b { nx := nx, ct := nx, bk := k'.nx, rt := k'.rt } env2) k'.nx ds env →
              ∀ (gg : TG), (∀ v (d : Pv.D) σ (Hx H1 : Hp) env' (Q : Env → Prop) (Hb : Hp) (R : St → Hp → Prop), SR G.K G.cls (fun a => Nz a ∨ H0 a = none) Γi Hb Hx σ env' → Same Hx H1 → ItN G.K G.cls (fun a => Nz a ∨ H0 a = none) Hb Hx H1 t v d → G0 tg d env' Q → (∀ σ' env'', SR G.K G.cls (fun a => Nz a ∨ H0 a = none) (tgT tg t Γi) Hb H1 σ' env'' → Q env'' → R σ' H1) → gg v σ H1 R) →
              ∃ W' : Nat → Nat → St → Hp → Prop, (∃ m, W' 0 m σ H') ∧ ∀ i m σ H, W' i m σ H →
                (J.stop i H ∧ D.nx σ H) ∨ (J.go i H ∧ ∃ N' : St → Hp → Prop, (∀ σ' H', N' σ' H' → ∃ m', m' < m ∧ W' (i + 1) m' σ' H') ∧ ∀ x H', J.yld i H x H' → gg x σ H' fun σ2 H2 => tSS G (Cw (FTof G.fns) k) rt (some Γi) (tgT tg t Γi) rb b { D with nx := N', ct := N', bk := D.nx } σ2 H2) := by
            intro J H' ds s' hwk hq gg hgg
            obtain ⟨G1, g1, h1⟩ := (h.mono s').frzA (refl_of hf) A
            obtain ⟨G2, g2, h2⟩ := h1.wk hwi
            have hk : Keep (NA (Lof Nz H0 H Fs) H A) H' (base' G2 H') := by
              intro b u e hb
              rw [base_out fun i z => ?_]
              · exact e
              · obtain ⟨z1, z2⟩ := g1 i b (g2 i b z)
                have hbx := (h.own i b z1).2
                rcases hb (box_same s' hbx) with ⟨j, hj, w, _⟩ | w
                · rcases w with w | w
                  · exact h.dj j i (fun e => z2 (e ▸ hj)) b w z1
                  · exact w.2 i z1
                · exact box_some hbx w
            obtain ⟨Gp, Y, wk, hGp, hY⟩ := hwk _ hk
            have fin : ∀ σ' H'' env', SR G.K G.cls (fun a => Nz a ∨ H0 a = none) Γi (base' G2 H') H'' σ' env' → SR G.K G.cls Nz Γi H0 H'' σ' env' := fun σ' H'' env' q => q.unbase h2.own h2.same
            refine for_it wk (fun i σ' H'' => ∃ env', SR G.K G.cls (fun a => Nz a ∨ H0 a = none) Γi (base' G2 H') H'' σ' env' ∧ forW (fun d env' nx => G0 tg d env' fun env2 => W (Cw (FTof G.fns) k) b { nx := nx, ct := nx, bk := k'.nx, rt := k'.rt } env2) k'.nx (ds.drop i) env')
              ⟨env, h2.rebase, hq⟩ (fun i σ' H'' _ ⟨env', ⟨F, q⟩, _⟩ => hGp _ q.same) ?_ (fun σ' H'' ⟨env', q, w⟩ => ?_)
            · rintro i x σ' Hx H1 hi ⟨env', q, w⟩ y
              obtain ⟨F, qF⟩ := id q
              obtain ⟨d, hd, s1, rb1⟩ := hY i Hx x H1 hi qF.same y
              rw [List.drop_eq_getElem_cons hi] at w
              rw [List.getElem?_eq_getElem hi] at hd
              cases hd
              simp only [forW] at w
              refine hgg x _ σ' Hx H1 env' _ (base' G2 H') _ q s1 (rb1.mono (Same.refl _) fun a z => ?_) w fun σ2 env2 sr2 hw2 => ?_
              · rcases z with z | z
                · refine .inl ⟨.inl ?_, z.2⟩
                  rcases z.1 with ⟨j, hj, w, _⟩ | w
                  · rcases w with w | w
                    · exact .inr (h.own j a w).1
                    · exact w.1
                  · exact .inr (h.same.free w)
                · exact .inr z
              · refine ⟨_, _, env2, _, sr2, hw2, fun Γ' σ3 H3 env3 e sr3 q3 => ⟨env3, sr3.wk (hwb Γ' e), q3⟩, fun Γ' σ3 H3 env3 e sr3 q3 => ?_, fun Γ' σ3 H3 env3 e sr3 q3 => ?_, fun v H3 d s3 rs3 q3 => ?_⟩
                · cases e
                  exact k1 _ _ _ _ rfl (fin _ _ _ sr3) q3
                · cases e
                  exact ⟨env3, sr3, q3⟩
                · refine k4 v H3 d ?_ (rs3.unbase h2.own h2.same) q3
                  intro b u e
                  refine s3 b u ?_
                  rw [base_out fun i z => by have := (h2.own i b z).1; rw [e] at this; cases this]
                  exact h2.same b u e
            · rw [List.drop_eq_nil_of_le (Nat.le_refl _)] at w
              exact k1 _ _ _ _ rfl (fin _ _ _ q) w
          have pi := sI g (Γ := Γ) (L := Lof Nz H0 H Fs) (tg := tgE) it hm.1.2 hcI
          have hs : ∀ x, foldedSetIterable itE X.env x = pure x := mI_fold hm.1.2
          cases tg with
          | nm i =>
            have hg := hm.1.1
            simp only [mG] at hg
            split at hg
            · simp only [Bool.and_eq_true, decide_eq_true_eq] at hg
              obtain ⟨l, f⟩ := g.loc hg.2
              refine (ps_for g.nv g.calm pi (pg_name (by rw [g.hN]; exact g.nd) (by rw [g.hN]; exact hg.1) l f) body hs).run pins s σ H D I ⟨env, _, h.er, hW, fun J H' ds s' hwk hq => ?_⟩
              refine loop J H' ds s' hwk hq (gName i) fun v d σ Hx H1 env' Q Hb R sr s1 it hG hk => ?_
              obtain ⟨F, f⟩ := sr
              obtain ⟨Gs, _, g'⟩ := f.item (i := i) s1 ft it (itN_own f)
              exact hk _ _ ⟨Gs, g'⟩ hG
            · cases hg
          | tp is =>
            have hg := hm.1.1
            simp only [mG] at hg
            split at hg
            · obtain ⟨pg, pl, pf⟩ := pg_names g hg
              refine (ps_for g.nv g.calm pi (pg_tup g.calm pg pl pf) body hs).run pins s σ H D I ⟨env, _, h.er, hW, fun J H' ds s' hwk hq => ?_⟩
              refine loop J H' ds s' hwk hq _ fun v d σ Hx H1 env' Q Hb R sr s1 it hG hk => ?_
              cases d <;> try exact hG.elim
              rename_i ds
              obtain ⟨a, vs, rfl, hq, pp⟩ := repB_tup ft it
              refine ⟨a, vs, rfl, by rw [g.hK]; exact hq, by rw [pair_len pp]; exact hG.1, ?_⟩
              obtain ⟨F, f⟩ := sr
              exact SRF.items (f.mono s1) (el_flat ft) pp (itN_own f) hG.1 fun σ' sr' => hk _ _ sr' hG.2
            · cases hg
        · cases hc
      · cases hc
    · cases hm
  | .brk, st, ΓL, Γ, r, hm, hc => by
    unfold mS at hm
    split at hm
    · simp only [cS] at hc
      split at hc
      · rename_i gg
        split at hc
        · rename_i hw
          cases hc
          exact ps_break.sub fun D σ H ⟨Nz, H0, env, k, sr, hW, k1, k2, _⟩ => k2 gg σ H env rfl (sr.wk hw) hW
        · cases hc
      · cases hc
    · cases hm
  | .cnt, st, ΓL, Γ, r, hm, hc => by
    unfold mS at hm
    split at hm
    · simp only [cS] at hc
      split at hc
      · rename_i gg
        split at hc
        · rename_i hw
          cases hc
          exact ps_continue.sub fun D σ H ⟨Nz, H0, env, k, sr, hW, k1, k2, k3, _⟩ => k3 gg σ H env rfl (sr.wk hw) hW
        · cases hc
      · cases hc
    · cases hm
  | .nil, st, ΓL, Γ, r, hm, hc => by unfold mS at hm; cases hm
  | .seq a b, st, ΓL, Γ, r, hm, hc => by unfold mS at hm; cases hm
theorem sSs (g : Good G k N sc X) : ∀ (c : CS) {st : List Stmt} {ΓL : Option (List T)} {Γ : List T} {r : Option (List T)}, mSs N (names G.fns) c sc st = true → cS G.fns rt ΓL Γ c = some r → PSs X st (tSS G (Cw (FTof G.fns) k) rt ΓL Γ r c)
  | .nil, st, ΓL, Γ, r, hm, hc => by
    unfold mSs at hm
    split at hm
    · simp only [cS] at hc
      cases hc
      exact pss_nil.sub fun D σ H ⟨Nz, H0, env, k, sr, hW, k1, _⟩ => k1 Γ σ H env rfl sr hW
    · cases hm
  | .seq a b, st, ΓL, Γ, r, hm, hc => by
    unfold mSs at hm
    split at hm
    · rw [Bool.and_eq_true] at hm
      simp only [cS] at hc
      split at hc
      · rename_i Γ1 ha
        refine (pss_cons (sS g a hm.1 ha) (sSs g b hm.2 hc)).sub fun D σ H ⟨Nz, H0, env, k, sr, hW, k1, k2, k3, k4⟩ => ?_
        simp only [W] at hW
        refine ⟨Nz, H0, env, _, sr, hW, fun Γ' σ' H' env' e sr' q => ?_, k2, k3, k4⟩
        cases e
        exact ⟨Nz, H0, env', k, sr', q, k1, k2, k3, k4⟩
      · rename_i ha
        cases hc
        refine (pss_cons (sS g a hm.1 ha) pss_never).sub fun D σ H ⟨Nz, H0, env, k, sr, hW, k1, k2, k3, k4⟩ => ?_
        simp only [W] at hW
        exact ⟨Nz, H0, env, _, sr, hW, fun Γ' σ' H' env' e => (by cases e), k2, k3, k4⟩
      · cases hc
    · cases hm
  | .pas, _, _, _, _, h, _ | .asg _ _, _, _, _, _, h, _ | .mov _ _, _, _, _, _, h, _ | .ex _, _, _, _, _, h, _ | .ret _, _, _, _, _, h, _ | .ite _ _ _, _, _, _, _, h, _ | .whl _ _ _, _, _, _, _, h, _ | .for _ _ _ _, _, _, _, _, h, _ | .brk, _, _, _, _, h, _ | .cnt, _, _, _, _, h, _ => by unfold mSs at h; cases h
end
end
end Pv

set_option maxRecDepth 100000
set_option maxHeartbeats 1000000
namespace Pv
open PySem L2
/-! ### defs -/
def scopeB (N ps : List Str) (sc : Scope) : Bool := decide (sc.kind = .function) && !sc.isCoroutine && !sc.isGenerator && decide N.Nodup && decide (N.take ps.length = ps) && ps.all (fun x => locB sc x) && sc.names.all (fun y => !decide (y.2 = .free))
theorem scopeB_of {N ps : List Str} {sc : Scope} (h : scopeB N ps sc = true) : FnScope N ps sc := by
  unfold scopeB at h
  simp only [Bool.and_eq_true, decide_eq_true_eq, Bool.not_eq_true', List.all_eq_true, decide_eq_false_iff_not] at h
  obtain ⟨⟨⟨⟨⟨⟨h1, h2⟩, h3⟩, h4⟩, h5⟩, h6⟩, h7⟩ := h
  exact ⟨h1, h2, h3, h4, h5, fun x hx => loc_of (h6 x hx), h7⟩
def gam0 (i : FnI) : List T := i.sg ++ List.replicate (i.fn.ns - i.fn.np) .im
def chkF (fns : List FnI) (i : FnI) (st : Stmt) : Bool :=
  scopeB i.N i.ps (defScope st) && decide (i.fn.np = i.ps.length) && decide (i.fn.ns = i.N.length) && decide (i.sg.length = i.ps.length) && decide (i.fn.np ≤ i.fn.ns) && i.sg.all T.flat && mSs i.N (names fns) i.fn.body (defScope st) (defBody st) &&
    match cS fns i.rt none (gam0 i) i.fn.body with
    | some none => true
    | some (some _) => T.le .im i.rt
    | none => false
structure Gst (G : Glob) (qs : Nat → Str) (sts : Nat → Stmt) : Prop where
  nob : ∀ x ∈ bltNames, G.mg x = none
  mgf : ∀ f i, G.fns[f]? = some i → G.mg i.name = some (.ref (G.fa f)) ∧ PySem.W.keepIn G.K (.ref (G.fa f)) = true ∧ Binds G.K (G.fd f) i.ps []
  fn : ∀ (f : Nat) (i : FnI), G.fns[f]? = some i → Fun G.K i.name (qs f) (sts f) (G.fa f) (G.fd f)
  chk : ∀ (f : Nat) (i : FnI), G.fns[f]? = some i → chkF G.fns i (sts f) = true
theorem start_get {N : List Str} {vs : List V} {i : Nat} {v : V} (h : vs[i]? = some v) : (start N vs)[i]? = some (some v) := by
  have hi : i < vs.length := (List.getElem?_eq_some_iff.mp h).1
  unfold L2.start
  rw [List.getElem?_append_left (by simpa using hi), List.getElem?_map, h]
  rfl
theorem args_get {K cls N H} : ∀ {ts : List T} {vs : List V} {ds : List D} {i : Nat} {d : D}, ArgsB K cls N H ts vs ds → ds[i]? = some d → ∃ v t, vs[i]? = some v ∧ ts[i]? = some t ∧ RepB K cls N H t v d
  | _, _, _, _, _, .nil, e => by simp at e
  | _, _, _, 0, _, .cons h _, e => by simp at e; subst e; exact ⟨_, _, rfl, rfl, h⟩
  | _, _, _, i + 1, _, .cons _ r, e => by
    obtain ⟨v, t, h1, h2, h3⟩ := args_get (i := i) r (by simpa using e)
    exact ⟨v, t, by simpa using h1, by simpa using h2, h3⟩
theorem sr_start {K : PySem.W.Frag} {cls : Nat → Addr} {Nn : Addr → Prop} {H : Hp} {i : FnI} {vs : List V} {ds : List D} (h : ArgsB K cls Nn H i.sg vs ds) (h1 : i.sg.length = i.fn.np) (h2 : i.fn.np ≤ i.fn.ns) (h3 : i.fn.ns = i.N.length) (hf : i.sg.all T.flat = true) :
    SR K cls Nn (gam0 i) H H (start i.N vs) (ds.map some ++ List.replicate (i.fn.ns - i.fn.np) none) := by
  have l := h.length
  refine ⟨fun _ => [], fun _ => .nil, fun _ _ _ a z => absurd z (by simp), fun _ a z => absurd z (by simp), Same.refl _, ?_, ?_, fun j d hd => ?_⟩
  · simp only [L2.start, List.length_append, List.length_map, List.length_replicate]; omega
  · simp only [gam0, List.length_append, List.length_map, List.length_replicate]; omega
  · have hj : j < ds.length := by
      by_cases hj : j < ds.length
      · exact hj
      · rw [List.getElem?_append_right (by simpa using hj), List.getElem?_replicate] at hd
        split at hd <;> cases hd
    rw [List.getElem?_append_left (by simpa using hj), List.getElem?_map] at hd
    cases e : ds[j]? with
    | none => rw [e] at hd; cases hd
    | some d' =>
      rw [e] at hd
      cases hd
      obtain ⟨v, t, e1, e2, r⟩ := args_get h e
      refine ⟨v, t, start_get e1, ?_, .bo (List.all_eq_true.mp hf t (List.mem_of_getElem? e2)) (r.mono (Same.refl _) fun a z => ⟨.inl z, fun j => by simp⟩)⟩
      unfold gam0
      rw [List.getElem?_append_left (by omega)]
      exact e2
theorem fn_step {G : Glob} {qs : Nat → Str} {sts : Nat → Stmt} (S : Gst G qs sts) {k : Nat} (g : Gok G k) {f : Nat} {i : FnI} (hi : G.fns[f]? = some i) : FnOk G.P G.w G.K G.mg G.base CX0 (k + 1) (G.fa f) (G.fd f) i.ps (spF G (k + 1) f) := by
  have hc := S.chk f i hi
  unfold chkF at hc
  simp only [Bool.and_eq_true, decide_eq_true_eq] at hc
  obtain ⟨⟨⟨⟨⟨⟨⟨c1, c2⟩, c3⟩, c4⟩, c5⟩, c6⟩, c7⟩, c8⟩ := hc
  have sc := scopeB_of c1
  refine (S.fn f i hi).ok sc (fun vs H Q E h => ?_) fun cdv A outer s H vs Q E hr h => ?_
  · obtain ⟨i', ds, Nn, R, hi', hl, _⟩ := h
    rw [hi] at hi'
    cases hi'
    exact hl
  · obtain ⟨i', ds, Nn, R, hi', hl, ar, hC, kk⟩ := h
    rw [hi] at hi'
    cases hi'
    have hF : (FTof G.fns)[f]? = some i.fn := by
      unfold FTof
      rw [List.getElem?_map, hi]
      rfl
    simp only [Cw, hF] at hC
    have gd : Good G k i.N (defScope (sts f)) (cxOf CX0 G.P G.w G.K G.mg G.base i.N (qs f) (defScope (sts f)) (G.fa f) cdv A outer s H E).nox :=
      ⟨rfl, rfl, rfl, rfl, rfl, rfl, sc.nd, rfl, rfl, hr, rfl, fun _ _ => rfl, g⟩
    have sr := sr_start ar (by omega) c5 c3 c6
    cases hr2 : cS G.fns i.rt none (gam0 i) i.fn.body with
    | none => rw [hr2] at c8; cases c8
    | some r =>
      refine ⟨_, sSs gd i.fn.body c7 hr2, ?_⟩
      refine ⟨Nn, H, _, _, sr, hC.2, fun Γ' σ' H' env' e sr' q => ?_, fun _ _ _ _ e => (by cases e), fun _ _ _ _ e => (by cases e), fun v H' d s' rs q => kk v H' d s' rs q⟩
      subst e
      rw [hr2] at c8
      obtain ⟨Fs, sr'⟩ := sr'
      exact kk .non H' .non sr'.same ((rs_im .non).le c8) q
theorem gok {G : Glob} {qs : Nat → Str} {sts : Nat → Stmt} (S : Gst G qs sts) : ∀ k, Gok G k := by
  have len : ∀ (f : Nat) (i : FnI), G.fns[f]? = some i → i.sg.length = i.ps.length := fun f i hi => by
    have hc := S.chk f i hi
    unfold chkF at hc
    simp only [Bool.and_eq_true, decide_eq_true_eq] at hc
    exact hc.1.1.1.1.2
  intro k
  induction k with
  | zero =>
    refine ⟨S.nob, S.mgf, len, fun f i hi => ⟨fun vs H Q E h => ?_, fun A outer s H args us vs Q E _ _ _ _ h => ?_⟩⟩
    · obtain ⟨i', ds, Nn, R, hi', hl, _⟩ := h
      rw [hi] at hi'
      cases hi'
      exact hl
    · obtain ⟨i', ds, Nn, R, hi', hl, ar, hC, kk⟩ := h
      exact hC.elim
  | succ k ih => exact ⟨S.nob, S.mgf, len, fun f i hi => fn_step S ih hi⟩
/-! ### the law -/
def noLst (K : PySem.W.Frag) : Bool := K.all fun p => match p.2.cls with
  | .type n => n != "list"
  | _ => true
theorem look_mem {α : Type} : ∀ {l : List (Addr × α)} {a : Addr} {o : α}, l.lookup a = some o → (a, o) ∈ l
  | [], _, _, e => by cases e
  | (b, u) :: r, a, o, e => by
    rw [List.lookup_cons] at e
    split at e
    · rename_i q
      cases e
      have := eq_of_beq q
      subst this
      exact List.mem_cons_self
    · exact List.mem_cons_of_mem _ (look_mem e)
theorem noLst_rd {K : PySem.W.Frag} (h : noLst K = true) {H : Hp} {a : Addr} {xs : List V} (s : SqL K H a xs) : Rd H a (.lst xs) := by
  rcases s with s | ⟨o, its, n, hk, hc, _⟩
  · exact s
  · have := List.all_eq_true.mp h _ (look_mem hk)
    simp only [hc] at this
    simp at this
/-- the script -/
def scr (ns : List Int) : D := .lst (ns.map D.int)
theorem ints_pair {K cls N H} : ∀ ns : List Int, Paired (RepB K cls N H .im) (ns.map V.int) (ns.map D.int)
  | [] => .nil
  | n :: ns => .cons (.int n) (ints_pair ns)
theorem law_sp {G : Glob} {k f : Nat} {i : FnI} (hi : G.fns[f]? = some i) (hs : i.sg = [.s .im]) (hp : i.ps.length = 1) {H : Hp} {a : Addr} {ns : List Int} (hL : Rd H a (.lst (ns.map V.int))) (h : Cw (FTof G.fns) k f [scr ns] fun d => d = .bl true) : spF G k f [.ref a] H (fun v _ => v = .bl true) fun _ _ _ => False := by
  refine ⟨i, [scr ns], fun _ => True, _, hi, by rw [hp]; rfl, ?_, h, fun v H' d _ rs e => ?_⟩
  · rw [hs]
    exact .cons (.lst trivial hL (ints_pair ns)) .nil
  · subst e
    obtain ⟨F, _, _, r⟩ := rs
    exact rep_bl r.bor.rep
end Pv

set_option maxRecDepth 100000
set_option maxHeartbeats 1000000
namespace Pv
open PySem L2
/-! ### what the top has left -/
structure Ent where
  i : FnI
  st : Stmt
  f : Addr
  fd : FuncData
def EntOk (K : PySem.W.Frag) (mg : Str → Option Value) (e : Ent) : Prop := mg e.i.name = some (.ref e.f) ∧ PySem.W.keepIn K (.ref e.f) = true ∧ Binds K e.fd e.i.ps [] ∧ Fun K e.i.name e.i.name e.st e.f e.fd
def allE (P : Ent → Prop) : List Ent → Prop
  | [] => True
  | e :: r => P e ∧ allE P r
theorem allE_get {P : Ent → Prop} : ∀ {L : List Ent} {j : Nat} {e : Ent}, allE P L → L[j]? = some e → P e
  | [], _, _, _, h => by simp at h
  | _ :: _, 0, _, a, h => by simp at h; subst h; exact a.1
  | _ :: r, j + 1, _, a, h => allE_get (j := j) a.2 (by simpa using h)
def noSt : Stmt := .Pass ⟨0, 0, 0, 0⟩
def globOf (P : Program) (w : World) (K : PySem.W.Frag) (mg : Str → Option Value) (base : Heap) (cls : Nat → Addr) (fd0 : FuncData) (L : List Ent) : Glob :=
  ⟨P, w, K, mg, base, cls, L.map (·.i), fun j => (L[j]?.map (·.f)).getD 0, fun j => (L[j]?.map (·.fd)).getD fd0⟩
theorem gst_of {P : Program} {w : World} {K : PySem.W.Frag} {mg : Str → Option Value} {base : Heap} {cls : Nat → Addr} {fd0 : FuncData} {L : List Ent} (nob : ∀ x ∈ bltNames, mg x = none) (h : allE (EntOk K mg) L) {fs : List (FnI × Stmt)} (hfs : L.map (fun e => (e.i, e.st)) = fs)
    (chk : (fs.all fun p => chkF (fs.map (·.1)) p.1 p.2) = true) : Gst (globOf P w K mg base cls fd0 L) (fun j => (L[j]?.map (·.i.name)).getD Str.empty) (fun j => (L[j]?.map (·.st)).getD noSt) := by
  have key : ∀ (j : Nat) (i : FnI), (L.map (·.i))[j]? = some i → ∃ e, L[j]? = some e ∧ e.i = i := fun j i q => by
    rw [List.getElem?_map] at q
    cases r : L[j]? with
    | none => rw [r] at q; cases q
    | some e => rw [r] at q; exact ⟨e, rfl, Option.some.inj q⟩
  have hm : fs.map (·.1) = L.map (·.i) := by rw [← hfs, List.map_map]; rfl
  refine ⟨nob, fun j i q => ?_, fun j i q => ?_, fun j i q => ?_⟩ <;> obtain ⟨e, he, rfl⟩ := key j i q <;> have ok := allE_get h he
  · simp only [globOf, he, Option.map_some, Option.getD_some]
    exact ⟨ok.1, ok.2.1, ok.2.2.1⟩
  · simp only [globOf, he, Option.map_some, Option.getD_some]
    exact ok.2.2.2
  · have hin : (e.i, e.st) ∈ fs := by
      rw [← hfs]
      exact List.mem_map.mpr ⟨e, List.mem_of_getElem? he, rfl⟩
    have := List.all_eq_true.mp chk _ hin
    simp only [globOf, he, Option.map_some, Option.getD_some]
    rw [hm] at this
    exact this
/-- one def, from what k_is finds -/
theorem ent_ok {K : PySem.W.Frag} {h : Heap} {mg : Str → Option Value} {i : FnI} {st : Stmt} {f : Addr} {oc : Value} {od an : Option Addr} {osl : Array (Option Value)} {kV doc pm cdv ct : Value} (X : K.In h) (G : h.Ns mainGlobals mg)
    (hb : ∀ (kV doc pm : Value) (an : Option Addr) (cdv ct : Value) (us : List Value), us.length = i.ps.length → bindArgs (PySem.W.fnOf i.name i.name (defArgs st) (defBody st) (defScope st) .none kV doc pm an cdv ct) ⟨us, []⟩ = pure (i.ps.zip us))
    (a : PySem.W.nsIn K mainGlobals i.name = some (some (.ref f))) (l : K.lookup f = some ⟨oc, od, .func (PySem.W.fnOf i.name i.name (defArgs st) (defBody st) (defScope st) .none kV doc pm an cdv ct), osl⟩)
    (c : PySem.W.codeIn K cdv i.name = true) (k : PySem.W.keepIn K (.ref f) = true) : EntOk K mg ⟨i, st, f, PySem.W.fnOf i.name i.name (defArgs st) (defBody st) (defScope st) .none kV doc pm an cdv ct⟩ := by
  have F := fun_mk (st := st) l c k
  exact ⟨PySem.W.mg_of X G a, k, F.binds hb, F⟩
def spLaw (K : PySem.W.Frag) : Sp := fun vs H Q _ => ∃ (a : Addr) (ns : List Int), vs = [.ref a] ∧ SqL K H a (ns.map V.int) ∧ ns.length ≤ 63 ∧ ∀ H', Q (.bl true) H'
theorem law_ok {P : Program} {w : World} {K : PySem.W.Frag} {mg : Str → Option Value} {base : Heap} {cls : Nat → Addr} {fd0 : FuncData} {L : List Ent} (nob : ∀ x ∈ bltNames, mg x = none) (h : allE (EntOk K mg) L) {fs : List (FnI × Stmt)} (hfs : L.map (fun e => (e.i, e.st)) = fs)
    (chk : (fs.all fun p => chkF (fs.map (·.1)) p.1 p.2) = true) (nl : noLst K = true) {j k : Nat} {e : Ent} (he : L[j]? = some e) (h1 : e.i.sg = [.s .im]) (h2 : e.i.ps = [("script" : Str)])
    (pure : ∀ ns : List Int, ns.length ≤ 63 → Cw (fs.map (·.1.fn)) k j [scr ns] fun d => d = .bl true) : FnOk P w K mg base CX0 k e.f e.fd ["script"] (spLaw K) := by
  have S := gst_of (P := P) (w := w) (base := base) (cls := cls) (fd0 := fd0) nob h hfs chk
  have g := gok S k
  have hi : (globOf P w K mg base cls fd0 L).fns[j]? = some e.i := by
    show (L.map (·.i))[j]? = some e.i
    rw [List.getElem?_map, he]
    rfl
  have F := g.ok j e.i hi
  have ef : (globOf P w K mg base cls fd0 L).fa j = e.f := by simp only [globOf, he, Option.map_some, Option.getD_some]
  have ed : (globOf P w K mg base cls fd0 L).fd j = e.fd := by simp only [globOf, he, Option.map_some, Option.getD_some]
  rw [ef, ed, h2] at F
  refine F.imp fun vs H Q E ⟨a, ns, e1, hS, hl, kk⟩ => ?_
  subst e1
  have hT : FTof (globOf P w K mg base cls fd0 L).fns = fs.map (·.1.fn) := by
    rw [← hfs, List.map_map]
    show (L.map (·.i)).map (·.fn) = _
    rw [List.map_map]
    rfl
  have := law_sp (G := globOf P w K mg base cls fd0 L) (k := k) hi h1 (by rw [h2]; rfl) (noLst_rd nl hS) (by rw [hT]; exact pure ns hl)
  obtain ⟨i, ds, Nn, R, a1, a2, a3, a4, a5⟩ := this
  refine ⟨i, ds, Nn, R, a1, a2, a3, a4, fun v H' d s rs q => ?_⟩
  have := a5 v H' d s rs q
  rw [this]
  exact kk H'
theorem walk {l : PySem.W.OpenLaw} {q : Program} {loose : List Str} {XP : (Str → Option Value) → Heap → Prop} {YP : World → Heap → Prop} {d : DefRec} {K : Params → PySem.W.Frag} {k : Nat} (hn : l.most = some 63) (hdf : d.params.defaults = []) (hr : Room k callerA)
    (hY : ∀ (w : World) (h : Heap), YP w h → (K w.params).In h)
    (F : ∀ (w : World) (mg : Str → Option Value) (fa : Addr) (h : Heap), (K w.params).In h → h.Ns mainGlobals mg → mg d.name = some (.ref fa) →
      ∃ fd : FuncData, (∀ (s : Shared) (u : Value), BindsTo s fd ⟨[u], []⟩ [("script", u)]) ∧ ∀ base : Heap, (K w.params).In base → base.Ns mainGlobals mg → FnOk l.prog w (K w.params) mg base CX0 k fa fd ["script"] (spLaw (K w.params))) :
    PySem.W.WalkO q loose XP YP l.row.toRowW d [] (fun f vs => PySem.call f vs) :=
  L2.walk_of (n := 63) (k := k) (x := "script") (CX := fun _ => CX0) (sp := fun w => spLaw (K w.params)) hn (by decide) hdf hr hY F (fun _ _ a ns hl _ hS => ⟨a, ns, rfl, hS, hl, fun _ => rfl⟩) fun _ _ _ _ _ z => z
end Pv

set_option maxRecDepth 100000
set_option maxHeartbeats 1000000
namespace Pv
open PySem L2
/-! ### the meaning grows with what is wanted -/
def MonC (C : CallW) : Prop := ∀ f ds (Q Q' : D → Prop), (∀ d, Q d → Q' d) → C f ds Q → C f ds Q'
theorem onB_mono {d : D} {p q p' q' : Prop} (h1 : p → p') (h2 : q → q') (h : onB d p q) : onB d p' q' := onB_imp h h1 h2
theorem p1_mono {p : P1} {x : D} {Q Q' : D → Prop} (i : ∀ d, Q d → Q' d) (h : p1 p x Q) : p1 p x Q' := by
  cases p with
  | isi ty =>
    have h' : (match isTy ty x with | some b => Q (.bl b) | none => False) := by cases x <;> exact h
    have g : (match isTy ty x with | some b => Q' (.bl b) | none => False) := by
      split at h'
      · exact i _ h'
      · exact h'
    cases x <;> exact g
  | _ => cases x <;> first | exact i _ h | exact ⟨h.1, i _ h.2⟩ | exact h
theorem p2_mono {p : P2} {x y : D} {Q Q' : D → Prop} (i : ∀ d, Q d → Q' d) (h : p2 p x y Q) : p2 p x y Q' := by
  cases p <;> cases x <;> cases y <;> first | exact i _ h | exact ⟨h.1, i _ h.2⟩ | (obtain ⟨d, h1, h2⟩ := h; exact ⟨d, h1, i _ h2⟩) | (obtain ⟨h0, d, h1, h2⟩ := h; exact ⟨h0, d, h1, i _ h2⟩) | exact h
section
variable {C : CallW} (hC : MonC C)
include hC
mutual
theorem E_mono : ∀ (c : CE) {env : Env} {Q Q' : D → Prop}, (∀ d, Q d → Q' d) → E C c env Q → E C c env Q'
  | .var i, env, Q, Q', m, h => by
    unfold E at h ⊢
    split at h
    · exact m _ h
    · exact h
  | .int _, env, Q, Q', m, h => by unfold E at h ⊢; exact m _ h
  | .str _, env, Q, Q', m, h => by unfold E at h ⊢; exact m _ h
  | .bl _, env, Q, Q', m, h => by unfold E at h ⊢; exact m _ h
  | .non, env, Q, Q', m, h => by unfold E at h ⊢; exact m _ h
  | .o1 p a, env, Q, Q', m, h => by unfold E at h ⊢; exact E_mono a (fun _ z => p1_mono m z) h
  | .o2 p a b, env, Q, Q', m, h => by unfold E at h ⊢; exact E_mono a (fun _ z => E_mono b (fun _ z => p2_mono m z) z) h
  | .and a b, env, Q, Q', m, h => by unfold E at h ⊢; exact E_mono a (fun _ z => onB_mono (E_mono b m) (m _) z) h
  | .or a b, env, Q, Q', m, h => by unfold E at h ⊢; exact E_mono a (fun _ z => onB_mono (m _) (E_mono b m) z) h
  | .not a, env, Q, Q', m, h => by unfold E at h ⊢; exact E_mono a (fun _ z => onB_mono (m _) (m _) z) h
  | .ifx c a b, env, Q, Q', m, h => by unfold E at h ⊢; exact E_mono c (fun _ z => onB_mono (E_mono a m) (E_mono b m) z) h
  | .lst es, env, Q, Q', m, h => by unfold E at h ⊢; exact Es_mono es (fun _ z => ⟨z.1, m _ z.2⟩) h
  | .tup es, env, Q, Q', m, h => by unfold E at h ⊢; exact Es_mono es (fun _ z => ⟨z.1, m _ z.2⟩) h
  | .call f es, env, Q, Q', m, h => by unfold E at h ⊢; exact Es_mono es (fun _ z => hC _ _ _ _ m z) h
  | .nil, env, Q, Q', m, h => by unfold E at h; exact h.elim
  | .cons _ _, env, Q, Q', m, h => by unfold E at h; exact h.elim
  | .rng1 _, env, Q, Q', m, h => by unfold E at h; exact h.elim
  | .rng2 _ _, env, Q, Q', m, h => by unfold E at h; exact h.elim
  | .rng3 _ _ _, env, Q, Q', m, h => by unfold E at h; exact h.elim
theorem Es_mono : ∀ (c : CE) {env : Env} {Q Q' : List D → Prop}, (∀ d, Q d → Q' d) → Es C c env Q → Es C c env Q'
  | .nil, env, Q, Q', m, h => by unfold Es at h ⊢; exact m _ h
  | .cons a b, env, Q, Q', m, h => by unfold Es at h ⊢; exact E_mono a (fun _ z => Es_mono b (fun _ z => m _ z) z) h
  | .var _, _, _, _, _, h | .int _, _, _, _, _, h | .str _, _, _, _, _, h | .bl _, _, _, _, _, h | .non, _, _, _, _, h | .o1 _ _, _, _, _, _, h | .o2 _ _ _, _, _, _, _, h | .and _ _, _, _, _, _, h | .or _ _, _, _, _, _, h | .not _, _, _, _, _, h | .ifx _ _ _, _, _, _, _, h | .lst _, _, _, _, _, h | .tup _, _, _, _, _, h | .call _ _, _, _, _, _, h | .rng1 _, _, _, _, _, h | .rng2 _ _, _, _, _, _, h | .rng3 _ _ _, _, _, _, _, h => by unfold Es at h; exact h.elim
end
theorem It_mono (c : CE) {env : Env} {Q Q' : List D → Prop} (m : ∀ d, Q d → Q' d) (h : It C c env Q) : It C c env Q' := by
  cases c with
  | rng1 a =>
    simp only [It] at h ⊢
    refine E_mono hC a (fun d z => ?_) h
    split at z
    · exact ⟨z.1, m _ z.2⟩
    · exact z
  | rng2 a b =>
    simp only [It] at h ⊢
    refine E_mono hC a (fun d z => E_mono hC b (fun d z => ?_) z) h
    split at z
    · exact ⟨z.1, m _ z.2⟩
    · exact z
  | rng3 a b c =>
    simp only [It] at h ⊢
    refine E_mono hC a (fun d z => E_mono hC b (fun d z => E_mono hC c (fun d z => ?_) z) z) h
    split at z
    · obtain ⟨n, r, z⟩ := z; exact ⟨n, r, m _ z⟩
    · exact z
  | _ =>
    simp only [It] at h ⊢
    refine E_mono hC _ (fun d z => ?_) h
    split at z <;> first | exact m _ z | exact z
omit hC in
theorem G0_mono {g : TG0} {d : D} {env : Env} {Q Q' : Env → Prop} (m : ∀ e, Q e → Q' e) (h : G0 g d env Q) : G0 g d env Q' := by
  cases g with
  | nm i => exact m _ h
  | tp is => cases d <;> first | exact ⟨h.1, m _ h.2⟩ | exact h
omit hC in
theorem forW_mono {b b' : D → Env → (Env → Prop) → Prop} {f f' : Env → Prop} (hb : ∀ d e Q Q', (∀ e, Q e → Q' e) → b d e Q → b' d e Q') (hf : ∀ e, f e → f' e) : ∀ {ds : List D} {env : Env}, forW b f ds env → forW b' f' ds env
  | [], _, h => hf _ h
  | d :: ds, env, h => hb _ _ _ _ (fun _ z => forW_mono hb hf (ds := ds) z) h
omit hC in
theorem whlW_mono {s s' : Env → (Env → Prop) → Prop} (hs : ∀ e Q Q', (∀ e, Q e → Q' e) → s e Q → s' e Q') : ∀ {n : Nat} {env : Env}, whlW s n env → whlW s' n env
  | 0, _, h => h
  | n + 1, env, h => hs _ _ _ (fun _ z => whlW_mono hs (n := n) z) h
omit hC in
theorem whlW_succ {s : Env → (Env → Prop) → Prop} (hs : ∀ e Q Q', (∀ e, Q e → Q' e) → s e Q → s e Q') : ∀ {n : Nat} {env : Env}, whlW s n env → whlW s (n + 1) env
  | 0, _, h => h.elim
  | n + 1, env, h => hs _ _ _ (fun _ z => whlW_succ hs (n := n) z) h
omit hC in
theorem whlW_le {s : Env → (Env → Prop) → Prop} (hs : ∀ e Q Q', (∀ e, Q e → Q' e) → s e Q → s e Q') {n m : Nat} (h : n ≤ m) {env : Env} (w : whlW s n env) : whlW s m env := by
  induction h with
  | refl => exact w
  | step _ ih => exact whlW_succ hs ih
structure KsLe (k k' : Ks) : Prop where
  nx : ∀ e, k.nx e → k'.nx e
  rt : ∀ d, k.rt d → k'.rt d
  bk : ∀ e, k.bk e → k'.bk e
  ct : ∀ e, k.ct e → k'.ct e
theorem W_mono : ∀ (c : CS) {k k' : Ks} {env : Env}, KsLe k k' → W C c k env → W C c k' env
  | .nil, k, k', env, m, h => m.nx _ h
  | .pas, k, k', env, m, h => m.nx _ h
  | .seq a b, k, k', env, m, h => W_mono a (k := { k with nx := W C b k }) (k' := { k' with nx := W C b k' }) ⟨fun _ z => W_mono b m z, m.rt, m.bk, m.ct⟩ h
  | .asg i e, k, k', env, m, h => E_mono hC e (fun _ z => m.nx _ z) h
  | .mov i j, k, k', env, m, h => by
    simp only [W] at h ⊢
    split at h
    · exact m.nx _ h
    · exact h
  | .ex e, k, k', env, m, h => E_mono hC e (fun _ z => m.nx _ z) h
  | .ret e, k, k', env, m, h => E_mono hC e m.rt h
  | .ite c a b, k, k', env, m, h => E_mono hC c (fun _ z => onB_mono (W_mono a m) (W_mono b m) z) h
  | .whl _ c b, k, k', env, m, ⟨n, h⟩ => ⟨n, whlW_mono (fun e Q Q' i z => E_mono hC c (fun _ z => onB_mono (W_mono b (k := { nx := Q, ct := Q, bk := k.nx, rt := k.rt }) (k' := { nx := Q', ct := Q', bk := k'.nx, rt := k'.rt }) ⟨i, m.rt, m.nx, i⟩) (m.nx _) z) z) h⟩
  | .for _ g it b, k, k', env, m, h => It_mono hC it (fun ds z => forW_mono (fun d e Q Q' i z => G0_mono (fun _ z => W_mono b (k := { nx := Q, ct := Q, bk := k.nx, rt := k.rt }) (k' := { nx := Q', ct := Q', bk := k'.nx, rt := k'.rt }) ⟨i, m.rt, m.nx, i⟩ z) z) m.nx z) h
  | .brk, k, k', env, m, h => m.bk _ h
  | .cnt, k, k', env, m, h => m.ct _ h
end
theorem Cw_mono (FT : List Fn) : ∀ k, MonC (Cw FT k)
  | 0, f, ds, Q, Q', m, h => h
  | k + 1, f, ds, Q, Q', m, h => by
    simp only [Cw] at h ⊢
    split at h
    · exact ⟨h.1, W_mono (Cw_mono FT k) _ (k := { nx := fun _ => Q .non, rt := Q }) (k' := { nx := fun _ => Q' .non, rt := Q' }) ⟨fun _ z => m _ z, m, fun _ z => z, fun _ z => z⟩ h.2⟩
    · exact h
/-- a while by an invariant and a measure -/
theorem W_whl {FT : List Fn} {n : Nat} {inv : List (Nat × T)} {c : CE} {b : CS} {k : Ks} {env : Env} (I : Nat → Env → Prop) (m : Nat) (h0 : I m env)
    (hs : ∀ m env, I m env → E (Cw FT n) c env fun x => onB x (W (Cw FT n) b { nx := fun e => ∃ m', m' < m ∧ I m' e, ct := fun e => ∃ m', m' < m ∧ I m' e, bk := k.nx, rt := k.rt } env) (k.nx env)) : W (Cw FT n) (.whl inv c b) k env := by
  have mono : ∀ (e : Env) (Q Q' : Env → Prop), (∀ e, Q e → Q' e) → (E (Cw FT n) c e fun x => onB x (W (Cw FT n) b { nx := Q, ct := Q, bk := k.nx, rt := k.rt } e) (k.nx e)) → E (Cw FT n) c e fun x => onB x (W (Cw FT n) b { nx := Q', ct := Q', bk := k.nx, rt := k.rt } e) (k.nx e) :=
    fun e Q Q' i z => E_mono (Cw_mono FT n) c (fun _ z => onB_mono (W_mono (Cw_mono FT n) b (k := { nx := Q, ct := Q, bk := k.nx, rt := k.rt }) (k' := { nx := Q', ct := Q', bk := k.nx, rt := k.rt }) ⟨i, fun _ z => z, fun _ z => z, i⟩) (fun z => z) z) z
  have key : ∀ m env, I m env → whlW (fun env' nx => E (Cw FT n) c env' fun x => onB x (W (Cw FT n) b { nx := nx, ct := nx, bk := k.nx, rt := k.rt } env') (k.nx env')) (m + 1) env := by
    intro m
    induction m using Nat.strongRecOn with
    | _ m ih =>
      intro env h
      exact mono env _ _ (fun e ⟨m', lt, h'⟩ => whlW_le mono (Nat.succ_le_of_lt lt) (ih m' lt e h')) (hs m env h)
  exact ⟨m + 1, key m env h0⟩
/-- a for by an invariant of the turn -/
theorem forW_inv {body : D → Env → (Env → Prop) → Prop} {fin : Env → Prop} (mono : ∀ d e Q Q', (∀ e, Q e → Q' e) → body d e Q → body d e Q') (I : Nat → Env → Prop) : ∀ (ds : List D) (i : Nat) {env : Env}, I i env →
    (∀ j d env, ds[j]? = some d → I (i + j) env → body d env (I (i + j + 1))) → (∀ env, I (i + ds.length) env → fin env) → forW body fin ds env
  | [], i, env, h0, _, hd => hd env h0
  | d :: ds, i, env, h0, hs, hd => by
    refine mono d env _ _ (fun e z => forW_inv mono I ds (i + 1) z (fun j d' env' q z => ?_) fun env' z => hd env' ?_) (hs 0 d env rfl h0)
    · have := hs (j + 1) d' env' (by simpa using q) (by rw [show i + (j + 1) = i + 1 + j by omega]; exact z)
      rw [show i + (j + 1) + 1 = i + 1 + j + 1 by omega] at this
      exact this
    · rw [List.length_cons, show i + (ds.length + 1) = i + 1 + ds.length by omega]
      exact z
theorem W_for {FT : List Fn} {n : Nat} {inv : List (Nat × T)} {g : TG0} {it : CE} {b : CS} {k : Ks} {env : Env} (ds : List D) (I : Nat → Env → Prop) (hi : ∀ Q : List D → Prop, Q ds → It (Cw FT n) it env Q) (h0 : I 0 env)
    (hs : ∀ j d env, ds[j]? = some d → I j env → G0 g d env fun e => W (Cw FT n) b { nx := I (j + 1), ct := I (j + 1), bk := k.nx, rt := k.rt } e) (hd : ∀ env, I ds.length env → k.nx env) : W (Cw FT n) (.for inv g it b) k env := by
  refine hi _ (forW_inv (body := fun d env' nx => G0 g d env' fun env2 => W (Cw FT n) b { nx := nx, ct := nx, bk := k.nx, rt := k.rt } env2) (fun d e Q Q' i z => G0_mono (fun _ z => W_mono (Cw_mono FT n) b (k := { nx := Q, ct := Q, bk := k.nx, rt := k.rt }) (k' := { nx := Q', ct := Q', bk := k.nx, rt := k.rt }) ⟨i, fun _ z => z, fun _ z => z, i⟩ z) z) I ds 0 h0 (fun j d env q z => ?_) fun env z => ?_)
  · rw [Nat.zero_add] at z ⊢
    exact hs j d env q z
  · rw [Nat.zero_add] at z
    exact hd env z
/-! ### steps -/
section
variable {C : CallW} {k : Ks} {env : Env} {d : D} {r a a2 : CS} {e c : CE} {i j : Nat}
theorem w_nil (h : k.nx env) : W C .nil k env := h
theorem w_pas (h : W C r k env) : W C (.seq .pas r) k env := h
theorem w_asg (h : ∀ Q : D → Prop, Q d → E C e env Q) (w : W C r k (env.set i (some d))) : W C (.seq (.asg i e) r) k env := h _ w
theorem w_mov (h : env[j]? = some (some d)) (w : W C r k ((env.set j none).set i (some d))) : W C (.seq (.mov i j) r) k env := by
  show (match env[j]? with | some (some d) => W C r k ((env.set j none).set i (some d)) | _ => False)
  rw [h]
  exact w
theorem w_ex (h : ∀ Q : D → Prop, Q d → E C e env Q) (w : W C r k env) : W C (.seq (.ex e) r) k env := h (fun _ => W C r k env) w
theorem w_ret (h : ∀ Q : D → Prop, Q d → E C e env Q) (w : k.rt d) : W C (.seq (.ret e) r) k env := h _ w
theorem w_brk (h : k.bk env) : W C (.seq .brk r) k env := h
theorem w_cnt (h : k.ct env) : W C (.seq .cnt r) k env := h
theorem w_ite {b : Bool} (h : ∀ Q : D → Prop, Q (.bl b) → E C c env Q) (h1 : b = true → W C a { k with nx := W C r k } env) (h2 : b = false → W C a2 { k with nx := W C r k } env) : W C (.seq (.ite c a a2) r) k env := by
  refine h _ ?_
  cases b with
  | true => exact h1 rfl
  | false => exact h2 rfl
theorem w_yes (h : ∀ Q : D → Prop, Q (.bl true) → E C c env Q) (h1 : W C a { k with nx := W C r k } env) : W C (.seq (.ite c a a2) r) k env := h _ h1
theorem w_no (h : ∀ Q : D → Prop, Q (.bl false) → E C c env Q) (h1 : W C a2 { k with nx := W C r k } env) : W C (.seq (.ite c a a2) r) k env := h _ h1
theorem onB_b {b : Bool} {p q : Prop} (h1 : b = true → p) (h2 : b = false → q) : onB (.bl b) p q := by
  cases b with
  | true => exact h1 rfl
  | false => exact h2 rfl
theorem onB_if {b : Bool} {Q : D → Prop} {x y : D} (h : Q (if b then x else y)) : onB (.bl b) (Q x) (Q y) := by
  cases b <;> exact h
end
theorem w_whl {FT : List Fn} {n : Nat} {inv : List (Nat × T)} {c : CE} {b r : CS} {k : Ks} {env : Env} (I : Nat → Env → Prop) (m : Nat) (h0 : I m env)
    (hs : ∀ m env, I m env → E (Cw FT n) c env fun x => onB x (W (Cw FT n) b { nx := fun e => ∃ m', m' < m ∧ I m' e, ct := fun e => ∃ m', m' < m ∧ I m' e, bk := W (Cw FT n) r k, rt := k.rt } env) (W (Cw FT n) r k env)) : W (Cw FT n) (.seq (.whl inv c b) r) k env :=
  W_whl (inv := inv) (k := { k with nx := W (Cw FT n) r k }) I m h0 hs
theorem w_for {FT : List Fn} {n : Nat} {inv : List (Nat × T)} {g : TG0} {it : CE} {b r : CS} {k : Ks} {env : Env} (ds : List D) (I : Nat → Env → Prop) (hi : ∀ Q : List D → Prop, Q ds → It (Cw FT n) it env Q) (h0 : I 0 env)
    (hs : ∀ j d env, ds[j]? = some d → I j env → G0 g d env fun e => W (Cw FT n) b { nx := I (j + 1), ct := I (j + 1), bk := W (Cw FT n) r k, rt := k.rt } e) (hd : ∀ env, I ds.length env → W (Cw FT n) r k env) : W (Cw FT n) (.seq (.for inv g it b) r) k env :=
  W_for (inv := inv) (k := { k with nx := W (Cw FT n) r k }) ds I hi h0 hs hd
/-! ### sizes -/
theorem mulOk_l {i j : Int} (h1 : -(2 ^ 64) < i) (h2 : i < 2 ^ 64) : mulOk i j := .inl (.inl ⟨h1, h2⟩)
theorem mulOk_r {i j : Int} (h1 : -(2 ^ 64) < j) (h2 : j < 2 ^ 64) : mulOk i j := .inl (.inr ⟨h1, h2⟩)
theorem mulOk_w {i j : Int} (a b : Nat) (ha : i.natAbs < 2 ^ a) (hb : j.natAbs < 2 ^ b) (h0 : 0 < a) (h1 : 0 < b) (h : a + b ≤ 1000000) : mulOk i j := .inr (wide_mul ha hb h0 h1 h)
theorem divOk_w {i j : Int} (b : Nat) (h : j ≠ 0) (hb : j.natAbs < 2 ^ b) (h0 : 0 < b) (h9 : b ≤ 9000) : divOk i j := ⟨h, Nat.lt_of_lt_of_le (PySem.Flt.log2_lt_of h0 hb) h9⟩
/-! ### equality of data -/
theorem eqv_int (i j : Int) : PyData.eqv (D.int i).py (D.int j).py = decide (i = j) := by
  simp only [D.py, PyData.eqv]
  rw [Bool.beq_eq_decide_eq]
theorem okEq_int (i j : Int) : okEq (.int i) (.int j) := ⟨rfl, rfl, by simp [D.py, SeqAt.shaped, PyData.canLay0, PyData.depth], by simp [D.py, SeqAt.shaped, PyData.canLay0, PyData.depth]⟩
theorem p2_eq_int {i j : Int} {Q : D → Prop} : p2 .eq (.int i) (.int j) Q ↔ Q (.bl (decide (i = j))) := by
  show okEq _ _ ∧ _ ↔ _
  rw [eqv_int]
  exact ⟨fun h => h.2, fun h => ⟨okEq_int i j, h⟩⟩
theorem p2_ne_int {i j : Int} {Q : D → Prop} : p2 .ne (.int i) (.int j) Q ↔ Q (.bl (!decide (i = j))) := by
  show okEq _ _ ∧ _ ↔ _
  rw [eqv_int]
  exact ⟨fun h => h.2, fun h => ⟨okEq_int i j, h⟩⟩
end Pv
namespace Pv
open PySem L2
theorem rgC_up {L : Int} (c : Int) (h0 : 0 ≤ L) (hL : L < 2 ^ 30) (hc : 1 ≤ c) (hc2 : c < 2 ^ 30) : RgC 0 L c ((L + c - 1) / c).toNat := by
  have e := PyProof.Rows.rangeSize_pos (len := L) hc h0
  have g0 : 0 ≤ (L + c - 1) / c := Int.ediv_nonneg (by omega) (by omega)
  have g1 : (L + c - 1) / c * c ≤ L + c - 1 := Int.ediv_mul_le _ (by omega)
  have g2 : (L + c - 1) / c ≤ L + c - 1 := Int.ediv_le_self _ (by omega)
  refine ⟨by omega, by omega, ?_, by rw [e]; omega⟩
  unfold Builtin.Range.small
  rw [e]
  generalize (L + c - 1) / c = g at *
  have g3 : g * c = c * g := Int.mul_comm _ _
  simp only [Builtin.Range.rangeFitsLong, Bool.and_eq_true, Bool.or_eq_true, decide_eq_true_eq, beq_iff_eq]
  have g4 : 0 ≤ g * c := Int.mul_nonneg g0 (by omega)
  rw [if_pos (by omega)]
  simp only [Bool.and_eq_true, decide_eq_true_eq]
  clear e g1 g3 g4
  omega
theorem rngL_at {lo c : Int} {n j : Nat} {d : D} (h : (rngL lo c n)[j]? = some d) : j < n ∧ d = .int (lo + (j : Int) * c) := by
  by_cases q : j < n
  · exact ⟨q, Option.some.inj (h.symm.trans (rngL_get q))⟩
  · rw [List.getElem?_eq_none (by rw [rngL_len]; omega)] at h
    cases h
end Pv

set_option maxRecDepth 100000
set_option maxHeartbeats 1000000
namespace Law
open PySem L2 Pv
/-! ### the text by places -/
def tp (i : Nat) : Stmt := PySem.Challenge.pw_grooveway_k25_fractions_reduced.main.body.getD i (.Pass ⟨0, 0, 0, 0⟩)
/- common(a, b) -/
def b_common : CS :=
    (.seq (.asg 0 (.o1 .abs (.var 0)))
    (.seq (.asg 1 (.o1 .abs (.var 1)))
    (.seq (.whl [] (.o2 .gt (.var 1) (.int 0)) (.seq (.asg 2 (.var 1))
    (.seq (.asg 1 (.o2 .mod (.var 0) (.var 1)))
    (.seq (.asg 0 (.var 2))
    .nil))))
    (.seq (.ret (.var 0))
    .nil))))
def i_common : FnI := ⟨"common", ["a", "b"], ["a", "b", "kept"], ⟨2, 3, b_common⟩, [.im, .im], .im⟩
abbrev s_common : Stmt := tp 1
/- reduced(a, b) -/
def b_reduced : CS :=
    (.seq (.asg 2 (.call 0 (.cons (.var 0) (.cons (.var 1) .nil))))
    (.seq (.ite (.o2 .lt (.var 1) (.int 0)) (.seq (.asg 2 (.o2 .sub (.int 0) (.var 2)))
    .nil) .nil)
    (.seq (.ret (.tup (.cons (.o2 .fdiv (.var 0) (.var 2)) (.cons (.o2 .fdiv (.var 1) (.var 2)) .nil))))
    .nil)))
def i_reduced : FnI := ⟨"reduced", ["a", "b"], ["a", "b", "by"], ⟨2, 3, b_reduced⟩, [.im, .im], .im⟩
abbrev s_reduced : Stmt := tp 2
/- _law_cell_at(script, k) -/
def b_law_cell_at : CS :=
    (.seq (.ite (.o2 .lt (.var 1) (.o1 .len (.var 0))) (.seq (.ret (.o2 .idx (.var 0) (.var 1)))
    .nil) .nil)
    (.seq (.ret (.int 0))
    .nil))
def i_law_cell_at : FnI := ⟨"_law_cell_at", ["script", "k"], ["script", "k"], ⟨2, 2, b_law_cell_at⟩, [(.s .im), .im], .im⟩
abbrev s_law_cell_at : Stmt := tp 4
/- _law_is_whole(found) -/
def b_law_is_whole : CS :=
    (.seq (.ret (.and (.o1 (.isi "int") (.var 0)) (.not (.o1 (.isi "bool") (.var 0)))))
    .nil)
def i_law_is_whole : FnI := ⟨"_law_is_whole", ["found"], ["found"], ⟨1, 1, b_law_is_whole⟩, [.im], .im⟩
abbrev s_law_is_whole : Stmt := tp 5
/- _law_drawn(cell) -/
def b_law_drawn : CS :=
    (.seq (.ite (.o2 .eq (.o2 .mod (.var 0) (.int 3)) (.int 0)) (.seq (.ret (.o2 .sub (.o2 .mod (.o2 .fdiv (.var 0) (.int 3)) (.int 13)) (.int 6)))
    .nil) .nil)
    (.seq (.ret (.o2 .sub (.o2 .mod (.o2 .fdiv (.var 0) (.int 3)) (.o2 .add (.o2 .mul (.int 2) (.o2 .pow (.int 10) (.int 60))) (.int 1))) (.o2 .pow (.int 10) (.int 60))))
    .nil))
def i_law_drawn : FnI := ⟨"_law_drawn", ["cell"], ["cell"], ⟨1, 1, b_law_drawn⟩, [.im], .im⟩
abbrev s_law_drawn : Stmt := tp 6
/- _law_alone(a, b) -/
def b_law_alone : CS :=
    (.seq (.whl [] (.o2 .ne (.var 1) (.int 0)) (.seq (.asg 2 (.o2 .mod (.var 0) (.var 1)))
    (.seq (.asg 0 (.var 1))
    (.seq (.asg 1 (.var 2))
    .nil))))
    (.seq (.ret (.o2 .eq (.o1 .abs (.var 0)) (.int 1)))
    .nil))
def i_law_alone : FnI := ⟨"_law_alone", ["a", "b"], ["a", "b", "rest"], ⟨2, 3, b_law_alone⟩, [.im, .im], .im⟩
abbrev s_law_alone : Stmt := tp 7
/- law(script) -/
def b_law : CS :=
    (.seq (.for [] (.nm 1) (.rng3 (.int 0) (.o2 .add (.o1 .len (.var 0)) (.int 1)) (.int 2)) (.seq (.asg 2 (.call 4 (.cons (.call 2 (.cons (.var 0) (.cons (.var 1) .nil))) .nil)))
    (.seq (.asg 3 (.call 4 (.cons (.call 2 (.cons (.var 0) (.cons (.o2 .add (.var 1) (.int 1)) .nil))) .nil)))
    (.seq (.ite (.o2 .eq (.var 3) (.int 0)) (.seq (.asg 3 (.int 7))
    .nil) .nil)
    (.seq (.asg 4 (.o2 .add (.int 1) (.o2 .mul (.o2 .mod (.o2 .fdiv (.call 2 (.cons (.var 0) (.cons (.var 1) .nil))) (.int 5)) (.int 2)) (.o2 .mod (.o2 .fdiv (.call 2 (.cons (.var 0) (.cons (.o2 .add (.var 1) (.int 1)) .nil))) (.int 7)) (.o2 .pow (.int 10) (.int 30))))))
    (.seq (.asg 5 (.call 1 (.cons (.o2 .mul (.var 2) (.var 4)) (.cons (.o2 .mul (.var 3) (.var 4)) .nil))))
    (.seq (.ite (.or (.not (.o1 (.isi "tuple") (.var 5))) (.o2 .ne (.o1 .len (.var 5)) (.int 2))) (.seq (.ret (.bl false))
    .nil) .nil)
    (.seq (.ite (.or (.not (.call 3 (.cons (.o2 .idx (.var 5) (.int 0)) .nil))) (.or (.not (.call 3 (.cons (.o2 .idx (.var 5) (.int 1)) .nil))) (.o2 .le (.o2 .idx (.var 5) (.int 1)) (.int 0)))) (.seq (.ret (.bl false))
    .nil) .nil)
    (.seq (.ite (.or (.o2 .ne (.o2 .mul (.o2 .idx (.var 5) (.int 0)) (.var 3)) (.o2 .mul (.o2 .idx (.var 5) (.int 1)) (.var 2))) (.not (.call 5 (.cons (.o2 .idx (.var 5) (.int 0)) (.cons (.o2 .idx (.var 5) (.int 1)) .nil))))) (.seq (.ret (.bl false))
    .nil) .nil)
    .nil)))))))))
    (.seq (.ret (.bl true))
    .nil))
def i_law : FnI := ⟨"law", ["script"], ["script", "k", "a", "b", "by", "found"], ⟨1, 6, b_law⟩, [(.s .im)], .im⟩
abbrev s_law : Stmt := tp 8
def fs : List (FnI × Stmt) := [(i_common, s_common), (i_reduced, s_reduced), (i_law_cell_at, s_law_cell_at), (i_law_is_whole, s_law_is_whole), (i_law_drawn, s_law_drawn), (i_law_alone, s_law_alone), (i_law, s_law)]
def FT : List Fn := fs.map (·.1.fn)
theorem C_common {k : Nat} {Q : D → Prop} {x0 x1 : D} (h : W (Cw FT k) b_common { nx := fun _ => Q .non, rt := Q } [some x0, some x1, none]) : Cw FT (k + 1) 0 [x0, x1] Q := ⟨rfl, h⟩
theorem C_reduced {k : Nat} {Q : D → Prop} {x0 x1 : D} (h : W (Cw FT k) b_reduced { nx := fun _ => Q .non, rt := Q } [some x0, some x1, none]) : Cw FT (k + 1) 1 [x0, x1] Q := ⟨rfl, h⟩
theorem C_law_cell_at {k : Nat} {Q : D → Prop} {x0 x1 : D} (h : W (Cw FT k) b_law_cell_at { nx := fun _ => Q .non, rt := Q } [some x0, some x1]) : Cw FT (k + 1) 2 [x0, x1] Q := ⟨rfl, h⟩
theorem C_law_is_whole {k : Nat} {Q : D → Prop} {x0 : D} (h : W (Cw FT k) b_law_is_whole { nx := fun _ => Q .non, rt := Q } [some x0]) : Cw FT (k + 1) 3 [x0] Q := ⟨rfl, h⟩
theorem C_law_drawn {k : Nat} {Q : D → Prop} {x0 : D} (h : W (Cw FT k) b_law_drawn { nx := fun _ => Q .non, rt := Q } [some x0]) : Cw FT (k + 1) 4 [x0] Q := ⟨rfl, h⟩
theorem C_law_alone {k : Nat} {Q : D → Prop} {x0 x1 : D} (h : W (Cw FT k) b_law_alone { nx := fun _ => Q .non, rt := Q } [some x0, some x1, none]) : Cw FT (k + 1) 5 [x0, x1] Q := ⟨rfl, h⟩
theorem C_law {k : Nat} {Q : D → Prop} {x0 : D} (h : W (Cw FT k) b_law { nx := fun _ => Q .non, rt := Q } [some x0, none, none, none, none, none]) : Cw FT (k + 1) 6 [x0] Q := ⟨rfl, h⟩
theorem chk : (fs.all fun p => chkF (fs.map (·.1)) p.1 p.2) = true := by decide +kernel
end Law

set_option maxRecDepth 10000
namespace Law
open PySem L2 Pv
theorem okEq_int_t (i j : Int) : okEq (.int i) (.int j) = True := eq_true (okEq_int i j)
local macro_rules | `(tactic| walk_at "pv") => `(tactic| simp only [E, Es, p1, p2, okEq_int_t, eqv_int, true_and, List.getElem?_cons_zero, List.getElem?_cons_succ, List.set_cons_zero, List.set_cons_succ])
local macro_rules | `(tactic| walk_at "sv") => `(tactic| simp only [List.set_cons_zero, List.set_cons_succ])
local macro_rules | `(tactic| walk_at "go") => `(tactic| repeat (first | assumption | walk_at "pv" | walk_at "cal"))
local macro_rules | `(tactic| walk_at "ev") => `(tactic| (intro Q q; walk_at "go"))
local macro_rules | `(tactic| walk_at "asg") => `(tactic| (refine w_asg (by walk_at "ev") ?_; walk_at "sv"))
theorem abs_nat (a : Int) : (if a < 0 then -a else a) = (a.natAbs : Int) := by split <;> omega
theorem common_ok (a b : Int) {k : Nat} {Q : D → Prop} (h : Q (.int (Int.gcd a b))) : Cw FT (k + 1) 0 [.int a, .int b] Q := by
  refine C_common ?_
  unfold b_common
  walk_at "asg"
  walk_at "asg"
  rw [abs_nat, abs_nat]
  refine w_whl (fun y e => ∃ x : Nat, ∃ z, e = [some (.int x), some (.int y), z] ∧ Nat.gcd x y = Int.gcd a b) _ ⟨a.natAbs, _, rfl, rfl⟩ ?_
  rintro y _ ⟨x, z, rfl, hg⟩
  walk_at "pv"
  refine onB_b (fun hb => ?_) (fun hb => ?_)
  · walk_at "asg"
    have h0 : (y : Int) ≠ 0 := by simp at hb; omega
    refine w_asg (d := .int ((x % y : Nat) : Int)) (by intro Q q; walk_at "pv"; exact ⟨h0, by rw [Int.fmod_eq_emod_of_nonneg _ (by omega)]; exact q⟩) ?_; walk_at "sv"
    walk_at "asg"
    refine w_nil ⟨x % y, ?_, y, _, rfl, ?_⟩
    · exact Nat.mod_lt _ (by omega)
    · rw [← hg, Nat.gcd_comm x y, Nat.gcd_rec y x, Nat.gcd_comm]
  · refine w_ret (by walk_at "ev") ?_
    have : y = 0 := by simp at hb; omega
    subst this
    rw [Nat.gcd_zero_right] at hg
    rw [hg]
    exact h
local macro_rules | `(tactic| walk_at "cal") => `(tactic| refine common_ok _ _ ?_)
/-- what reduced tells -/
def red (a b : Int) : Int × Int := let g : Int := if b < 0 then 0 - (Int.gcd a b : Int) else Int.gcd a b; (a.fdiv g, b.fdiv g)
theorem reduced_ok (a b : Int) {k : Nat} {Q : D → Prop} (hb : b ≠ 0) (hs : b.natAbs < 2 ^ 8000) (h : Q (.tup [.int (red a b).1, .int (red a b).2])) : Cw FT (k + 2) 1 [.int a, .int b] Q := by
  refine C_reduced ?_
  unfold b_reduced
  walk_at "asg"
  have hg0 : 0 < Int.gcd a b := Int.gcd_pos_of_ne_zero_right _ hb
  have hgl : Int.gcd a b ≤ b.natAbs := Nat.le_of_dvd (by omega) (Int.gcd_dvd_natAbs_right a b)
  have dv : ∀ i j : Int, j.natAbs = Int.gcd a b → divOk i j := fun i j e => divOk_w 8000 (by omega) (by omega) (by decide) (by decide)
  refine w_ite (by walk_at "ev") (fun e => ?_) (fun e => ?_)
  · walk_at "asg"
    have e' : b < 0 := by simpa using e
    refine w_nil (w_ret (d := .tup [.int (red a b).1, .int (red a b).2]) (by
      intro Q q; walk_at "pv"
      refine ⟨dv _ _ (by omega), dv _ _ (by omega), (by show 2 ≤ sizeLine; decide), ?_⟩
      unfold red at q
      simp only [if_pos e'] at q
      exact q) h)
  · have e' : ¬ b < 0 := by simpa using e
    refine w_nil (w_ret (d := .tup [.int (red a b).1, .int (red a b).2]) (by
      intro Q q; walk_at "pv"
      refine ⟨dv _ _ (by omega), dv _ _ (by omega), (by show 2 ≤ sizeLine; decide), ?_⟩
      unfold red at q
      simp only [if_neg e'] at q
      exact q) h)
local macro_rules | `(tactic| walk_at "cal") => `(tactic| refine reduced_ok _ _ ?_ ?_ ?_)
/-- a cell of the script -/
def cell (ns : List Int) (j : Nat) : Int := ns.getD j 0
theorem cell_ok (ns : List Int) (j : Nat) {i : Int} (hi : i = j) {k : Nat} {Q : D → Prop} (h : Q (.int (cell ns j))) : Cw FT (k + 1) 2 [scr ns, .int i] Q := by
  subst hi
  refine C_law_cell_at ?_
  unfold b_law_cell_at scr
  refine w_ite (by walk_at "ev") (fun e => ?_) (fun e => ?_)
  · have hj : j < ns.length := by simpa using e
    refine w_ret (d := .int (cell ns j)) (by
      intro Q q; walk_at "pv"
      exact ⟨_, atI_nat (by rw [List.getElem?_map, List.getElem?_eq_getElem hj]; simp [cell, List.getD_eq_getElem?_getD, List.getElem?_eq_getElem hj]), q⟩) h
  · have hj : ¬ j < ns.length := by simpa using e
    refine w_nil (w_ret (d := .int (cell ns j)) (by
      intro Q q; walk_at "pv"
      have : cell ns j = 0 := by simp [cell, List.getD_eq_getElem?_getD, List.getElem?_eq_none (by omega : ns.length ≤ j)]
      rw [this] at q
      exact q) h)
theorem whole_ok (i : Int) {k : Nat} {Q : D → Prop} (h : Q (.bl true)) : Cw FT (k + 1) 3 [.int i] Q := by
  refine C_law_is_whole ?_
  unfold b_law_is_whole
  exact w_ret (d := .bl true) (by intro Q q; walk_at "pv"; exact q) h
local macro_rules | `(tactic| walk_at "cal") => `(tactic| refine whole_ok _ ?_)
/-- a number drawn by a cell -/
def drawn (c : Int) : Int := if c.fmod 3 = 0 then (c.fdiv 3).fmod 13 - 6 else (c.fdiv 3).fmod (2 * 10 ^ 60 + 1) - 10 ^ 60
theorem drawn_ok (c : Int) {k : Nat} {Q : D → Prop} (h : Q (.int (drawn c))) : Cw FT (k + 1) 4 [.int c] Q := by
  refine C_law_drawn ?_
  unfold b_law_drawn
  refine w_ite (b := decide (c.fmod 3 = 0)) (by intro Q q; walk_at "pv"; exact ⟨by decide, q⟩) (fun e => ?_) (fun e => ?_)
  · have e' : c.fmod 3 = 0 := by simpa using e
    refine w_ret (d := .int (drawn c)) (by
      intro Q q; walk_at "pv"
      refine ⟨divOk_w 2 (by decide) (by decide) (by decide) (by decide), by decide, ?_⟩
      unfold drawn at q
      rw [if_pos e'] at q
      exact q) h
  · have e' : ¬ c.fmod 3 = 0 := by simpa using e
    refine w_nil (w_ret (d := .int (drawn c)) (by
      intro Q q; walk_at "pv"
      unfold drawn at q
      rw [if_neg e'] at q
      refine ⟨divOk_w 2 (by decide) (by decide) (by decide) (by decide), (by unfold CPow; decide), mulOk_l (by decide) (by decide), by decide, (by unfold CPow; decide), ?_⟩
      exact q) h)
theorem fmod_natAbs_lt (x : Int) {y : Int} (h : y ≠ 0) : (x.fmod y).natAbs < y.natAbs := by
  by_cases hp : 0 < y
  · have h1 := Int.fmod_nonneg_of_pos x hp
    have h2 := Int.fmod_lt_of_pos x hp
    omega
  · have h1 := Int.fmod_nonneg_of_pos (-x) (show 0 < -y by omega)
    have h2 := Int.fmod_lt_of_pos (-x) (show 0 < -y by omega)
    rw [Int.neg_fmod_neg] at h1 h2
    omega
theorem gcd_fmod (x y : Int) : Int.gcd y (x.fmod y) = Int.gcd x y := by
  rw [Int.fmod_def, Int.gcd_comm x y, Int.sub_eq_add_neg, ← Int.mul_neg, Int.gcd_add_mul_left_right]
theorem alone_ok (a b : Int) {k : Nat} {Q : D → Prop} (h : Q (.bl (decide (Int.gcd a b = 1)))) : Cw FT (k + 1) 5 [.int a, .int b] Q := by
  refine C_law_alone ?_
  unfold b_law_alone
  refine w_whl (fun m e => ∃ x y z, e = [some (.int x), some (.int y), z] ∧ y.natAbs = m ∧ Int.gcd x y = Int.gcd a b) _ ⟨a, b, _, rfl, rfl, rfl⟩ ?_
  rintro m _ ⟨x, y, z, rfl, rfl, hg⟩
  walk_at "pv"
  refine onB_b (fun hb => ?_) (fun hb => ?_)
  · have h0 : y ≠ 0 := by simpa using hb
    refine w_asg (d := .int (x.fmod y)) (by intro Q q; walk_at "pv"; exact ⟨h0, q⟩) ?_; walk_at "sv"
    walk_at "asg"
    walk_at "asg"
    refine w_nil ⟨_, ?_, y, x.fmod y, _, rfl, rfl, ?_⟩
    · exact fmod_natAbs_lt x h0
    · rw [← hg, gcd_fmod]
  · have h0 : y = 0 := by simpa using hb
    subst h0
    refine w_ret (d := .bl (decide (Int.gcd a b = 1))) (by
      intro Q q; walk_at "pv"
      rw [abs_nat]
      rw [Int.gcd_zero_right] at hg
      rw [← hg] at q
      have : decide ((x.natAbs : Int) = 1) = decide (x.natAbs = 1) := by
        by_cases e : x.natAbs = 1
        · rw [e]; rfl
        · rw [decide_eq_false e, decide_eq_false (by omega)]
      rw [this]
      exact q) h
end Law

set_option maxRecDepth 10000
namespace Law
open PySem L2 Pv
local macro_rules | `(tactic| walk_at "pv") => `(tactic| simp only [E, Es, p1, p2, okEq_int_t, eqv_int, true_and, List.getElem?_cons_zero, List.getElem?_cons_succ, List.set_cons_zero, List.set_cons_succ])
local macro_rules | `(tactic| walk_at "sv") => `(tactic| simp only [List.set_cons_zero, List.set_cons_succ])
theorem drawn_bd (c : Int) : (drawn c).natAbs ≤ 10 ^ 60 := by
  unfold drawn
  have a1 := Int.fmod_nonneg_of_pos (c.fdiv 3) (show (0 : Int) < 13 by decide)
  have a2 := Int.fmod_lt_of_pos (c.fdiv 3) (show (0 : Int) < 13 by decide)
  have b1 := Int.fmod_nonneg_of_pos (c.fdiv 3) (show (0 : Int) < 2 * 10 ^ 60 + 1 by decide)
  have b2 := Int.fmod_lt_of_pos (c.fdiv 3) (show (0 : Int) < 2 * 10 ^ 60 + 1 by decide)
  split <;> omega
/-- the second number -/
def nz (b : Int) : Int := if b = 0 then 7 else b
theorem nz_ne (b : Int) : nz b ≠ 0 := by unfold nz; split <;> omega
theorem nz_bd {b : Int} (h : b.natAbs ≤ 10 ^ 60) : (nz b).natAbs ≤ 10 ^ 60 := by unfold nz; split <;> omega
def by_ (c e : Int) : Int := 1 + (c.fdiv 5).fmod 2 * (e.fdiv 7).fmod (10 ^ 30)
theorem by_bd (c e : Int) : 1 ≤ by_ c e ∧ by_ c e ≤ 10 ^ 30 := by
  unfold by_
  have a1 := Int.fmod_nonneg_of_pos (c.fdiv 5) (show (0 : Int) < 2 by decide)
  have a2 := Int.fmod_lt_of_pos (c.fdiv 5) (show (0 : Int) < 2 by decide)
  have b1 := Int.fmod_nonneg_of_pos (e.fdiv 7) (show (0 : Int) < 10 ^ 30 by decide)
  have b2 := Int.fmod_lt_of_pos (e.fdiv 7) (show (0 : Int) < 10 ^ 30 by decide)
  generalize (c.fdiv 5).fmod 2 = u at *
  generalize (e.fdiv 7).fmod (10 ^ 30) = v at *
  have : u = 0 ∨ u = 1 := by omega
  rcases this with rfl | rfl <;> omega
/-- what is asked of what reduced tells -/
theorem red_good (a b y : Int) (hb : b ≠ 0) (hy : 1 ≤ y) : 0 < (red (a * y) (b * y)).2 ∧ (red (a * y) (b * y)).1 * b = (red (a * y) (b * y)).2 * a ∧ Int.gcd (red (a * y) (b * y)).1 (red (a * y) (b * y)).2 = 1
    ∧ (red (a * y) (b * y)).1.natAbs ≤ a.natAbs ∧ (red (a * y) (b * y)).2.natAbs ≤ b.natAbs := by
  have hby : b * y ≠ 0 := Int.mul_ne_zero hb (by omega)
  have hg0 : 0 < Int.gcd a b := Int.gcd_pos_of_ne_zero_right _ hb
  have hgy : Int.gcd (a * y) (b * y) = Int.gcd a b * y.natAbs := Int.gcd_mul_right ..
  obtain ⟨p, hp⟩ := Int.gcd_dvd_left a b
  obtain ⟨q, hq⟩ := Int.gcd_dvd_right a b
  have hyy : (y.natAbs : Int) = y := by omega
  have hgI : ((Int.gcd (a * y) (b * y) : Nat) : Int) = (Int.gcd a b : Int) * y := by rw [hgy, Int.natCast_mul, hyy]
  have hpq : Int.gcd p q = 1 := by
    have := Int.gcd_mul_left (Int.gcd a b : Int) p q
    rw [← hp, ← hq, Int.natAbs_natCast] at this
    exact Nat.eq_of_mul_eq_mul_left hg0 (by omega)
  have e1 : ∀ u x : Int, u ≠ 0 → (x * u).fdiv u = x := fun u x h => Int.mul_fdiv_cancel _ h
  have hG : ((Int.gcd a b : Nat) : Int) * y ≠ 0 := Int.mul_ne_zero (by omega) (by omega)
  have ea : a * y = p * ((Int.gcd a b : Int) * y) := by conv => lhs; rw [hp]; rw [Int.mul_comm (Int.gcd a b : Int) p, Int.mul_assoc]
  have eb : b * y = q * ((Int.gcd a b : Int) * y) := by conv => lhs; rw [hq]; rw [Int.mul_comm (Int.gcd a b : Int) q, Int.mul_assoc]
  have hpa : p.natAbs ≤ a.natAbs := by
    conv => rhs; rw [hp]
    rw [Int.natAbs_mul]
    exact Nat.le_mul_of_pos_left _ (by omega)
  have hqb : q.natAbs ≤ b.natAbs := by
    conv => rhs; rw [hq]
    rw [Int.natAbs_mul]
    exact Nat.le_mul_of_pos_left _ (by omega)
  have hG0 : 0 < ((Int.gcd a b : Nat) : Int) * y := Int.mul_pos (by omega) (by omega)
  unfold red
  simp only [hgI]
  by_cases hneg : b * y < 0
  · simp only [if_pos hneg]
    have hq0 : q < 0 := by
      rw [eb] at hneg
      refine Int.lt_of_not_ge fun h => ?_
      have := Int.mul_nonneg h (Int.le_of_lt hG0)
      omega
    have f1 : (a * y).fdiv (0 - ((Int.gcd a b : Nat) : Int) * y) = -p := by
      rw [ea, Int.zero_sub, show p * (((Int.gcd a b : Nat) : Int) * y) = (-p) * (-(((Int.gcd a b : Nat) : Int) * y)) by rw [Int.neg_mul_neg]]
      exact e1 _ _ (by omega)
    have f2 : (b * y).fdiv (0 - ((Int.gcd a b : Nat) : Int) * y) = -q := by
      rw [eb, Int.zero_sub, show q * (((Int.gcd a b : Nat) : Int) * y) = (-q) * (-(((Int.gcd a b : Nat) : Int) * y)) by rw [Int.neg_mul_neg]]
      exact e1 _ _ (by omega)
    rw [f1, f2]
    refine ⟨by omega, ?_, ?_, by omega, by omega⟩
    · conv => lhs; rw [hq]
      conv => rhs; rw [hp]
      rw [Int.neg_mul, Int.neg_mul, Int.mul_left_comm p, Int.mul_left_comm q, Int.mul_comm p q]
    · rw [Int.neg_gcd, Int.gcd_neg]; exact hpq
  · simp only [if_neg hneg]
    have hq0 : 0 < q := by
      have : 0 < b * y := by omega
      rw [eb] at this
      refine Int.lt_of_not_ge fun h => ?_
      have := Int.mul_nonpos_of_nonpos_of_nonneg h (Int.le_of_lt hG0)
      omega
    have f1 : (a * y).fdiv (((Int.gcd a b : Nat) : Int) * y) = p := by rw [ea]; exact e1 _ _ hG
    have f2 : (b * y).fdiv (((Int.gcd a b : Nat) : Int) * y) = q := by rw [eb]; exact e1 _ _ hG
    rw [f1, f2]
    refine ⟨hq0, ?_, hpq, hpa, hqb⟩
    conv => lhs; rw [hq]
    conv => rhs; rw [hp]
    rw [Int.mul_left_comm p, Int.mul_left_comm q, Int.mul_comm p q]
end Law

set_option maxRecDepth 10000
set_option maxHeartbeats 1000000
namespace Law
open PySem L2 Pv
local macro_rules | `(tactic| walk_at "pv") => `(tactic| simp only [E, Es, p1, p2, okEq_int_t, eqv_int, true_and, List.getElem?_cons_zero, List.getElem?_cons_succ, List.set_cons_zero, List.set_cons_succ])
local macro_rules | `(tactic| walk_at "sv") => `(tactic| simp only [List.set_cons_zero, List.set_cons_succ])
theorem law_pure (ns : List Int) (hn : ns.length ≤ 63) : Cw FT 3 6 [scr ns] fun d => d = .bl true := by
  refine C_law (k := 2) ?_
  unfold b_law
  have hlen : ((ns.length : Nat) : Int) < 2 ^ 29 := by omega
  refine w_for (rngL 0 2 (((ns.length : Int) + 1 + 2 - 1) / 2).toNat) (fun i e => ∃ a b c d e', e = [some (scr ns), a, b, c, d, e']) ?_ ⟨_, _, _, _, _, rfl⟩ ?_ ?_
  · intro Q q
    simp only [Pv.It]
    walk_at "pv"
    simp only [scr, p1, p2, List.length_map]
    exact ⟨_, rgC_up 2 (by omega) (by omega) (by decide) (by decide), q⟩
  · rintro j d _ hd ⟨a, b, c, d', e', rfl⟩
    obtain ⟨hj, rfl⟩ := rngL_at hd
    have hk0 : (0 : Int) + (j : Int) * 2 = ((2 * j : Nat) : Int) := by omega
    have hk1 : (0 : Int) + (j : Int) * 2 + 1 = ((2 * j + 1 : Nat) : Int) := by omega
    simp only [G0]
    walk_at "sv"
    generalize hA : drawn (cell ns (2 * j)) = A
    generalize hB : drawn (cell ns (2 * j + 1)) = B
    have bA : A.natAbs ≤ 10 ^ 60 := hA ▸ drawn_bd _
    have bB : B.natAbs ≤ 10 ^ 60 := hB ▸ drawn_bd _
    have bB' := nz_bd bB
    refine w_asg (d := .int A) (by
      intro Q q; walk_at "pv"
      refine cell_ok ns _ hk0 ?_
      refine drawn_ok _ ?_
      rw [hA]
      exact q) ?_; walk_at "sv"
    refine w_asg (d := .int B) (by
      intro Q q; walk_at "pv"
      refine cell_ok ns _ hk1 ?_
      refine drawn_ok _ ?_
      rw [hB]
      exact q) ?_; walk_at "sv"
    have rest : W (Cw FT 2) (match b_law with | .seq (.for _ _ _ (.seq _ (.seq _ (.seq _ r)))) _ => r | _ => .nil) { nx := fun e => ∃ a b c d e', e = [some (scr ns), a, b, c, d, e'], ct := fun e => ∃ a b c d e', e = [some (scr ns), a, b, c, d, e'], bk := W (Cw FT 2) (.seq (.ret (.bl true)) .nil) { nx := fun _ => D.non = .bl true, rt := fun d => d = .bl true }, rt := fun d => d = .bl true } [some (scr ns), some (.int (0 + (j : Int) * 2)), some (.int A), some (.int (nz B)), d', e'] := by
      unfold b_law
      generalize hy : by_ (cell ns (2 * j)) (cell ns (2 * j + 1)) = y
      have by1 := by_bd (cell ns (2 * j)) (cell ns (2 * j + 1))
      rw [hy] at by1
      refine w_asg (d := .int y) (by
        intro Q q; walk_at "pv"
        refine cell_ok ns _ hk0 ?_
        refine ⟨divOk_w 3 (by decide) (by decide) (by decide) (by decide), by decide, ?_⟩
        refine cell_ok ns _ hk1 ?_
        refine ⟨divOk_w 3 (by decide) (by decide) (by decide) (by decide), (by unfold CPow; decide), by decide, ?_, ?_⟩
        · have a1 := Int.fmod_nonneg_of_pos ((cell ns (2 * j)).fdiv 5) (show (0 : Int) < 2 by decide)
          have a2 := Int.fmod_lt_of_pos ((cell ns (2 * j)).fdiv 5) (show (0 : Int) < 2 by decide)
          exact mulOk_l (by omega) (by omega)
        · have e : (10 : Int) ^ Int.toNat 30 = 10 ^ 30 := rfl
          rw [e]
          walk_at "pv"
          unfold by_ at hy
          rw [hy]
          exact q) ?_; walk_at "sv"
      have n0 := nz_ne B
      generalize nz B = C at *
      have g := red_good A C y n0 by1.1
      generalize hr : red (A * y) (C * y) = r at g
      obtain ⟨p, q⟩ := r
      simp only at g
      obtain ⟨g1, g2, g3, g4, g5⟩ := g
      have hw : ∀ x : Int, x.natAbs ≤ 10 ^ 60 → x.natAbs < 2 ^ 200 := fun x h => Nat.lt_of_le_of_lt h (by decide +kernel)
      have hwy : y.natAbs < 2 ^ 200 := by
        have : y.natAbs ≤ 10 ^ 30 := by omega
        exact Nat.lt_of_le_of_lt this (by decide)
      refine w_asg (d := .tup [.int p, .int q]) (by
        intro Q q'; walk_at "pv"
        refine ⟨mulOk_w 200 200 (hw _ bA) hwy (by decide) (by decide) (by decide), mulOk_w 200 200 (hw _ bB') hwy (by decide) (by decide) (by decide), ?_⟩
        refine reduced_ok _ _ (Int.mul_ne_zero n0 (by omega)) ?_ ?_
        · rw [Int.natAbs_mul]
          refine Nat.lt_of_lt_of_le (Nat.mul_lt_mul'' (hw _ bB') hwy) ?_
          rw [← Nat.pow_add]
          exact Nat.pow_le_pow_right (by decide) (by decide)
        · rw [hr]
          exact q') ?_; walk_at "sv"
      refine w_no (by intro Q q'; walk_at "pv"; exact q') (w_nil ?_)
      have hl : (D.bl true) = D.bl true := rfl
      have x0 : atI [D.int p, D.int q] 0 = some (.int p) := rfl
      have x1 : atI [D.int p, D.int q] 1 = some (.int q) := rfl
      refine w_no (by intro Q q'; walk_at "pv"; refine ⟨_, x0, whole_ok _ ?_⟩; simp only [onB]; refine ⟨_, x1, whole_ok _ ?_⟩; simp only [onB]; refine ⟨_, x1, ?_⟩; walk_at "pv"; rw [decide_eq_false (by omega)]; exact q') (w_nil ?_)
      refine w_no (by
        intro Q q'; walk_at "pv"
        refine ⟨_, x0, mulOk_w 200 200 (hw _ (by omega)) (hw _ bB') (by decide) (by decide) (by decide), _, x1, mulOk_w 200 200 (hw _ (by omega)) (hw _ bA) (by decide) (by decide) (by decide), ?_⟩
        walk_at "pv"
        rw [decide_eq_true g2]
        simp only [Bool.not_true, onB]
        refine ⟨_, x0, _, x1, alone_ok _ _ ?_⟩
        rw [decide_eq_true g3]
        exact q') (by simp only [W]; exact ⟨_, _, _, _, _, rfl⟩)
    by_cases h0 : B = 0
    · refine w_yes (by intro Q q; walk_at "pv"; rw [decide_eq_true h0]; exact q) ?_
      refine w_asg (d := .int 7) (by intro Q q; walk_at "pv"; exact q) ?_; walk_at "sv"
      refine w_nil ?_
      have : nz B = 7 := if_pos h0
      rw [this] at rest
      exact rest
    · refine w_no (by intro Q q; walk_at "pv"; rw [decide_eq_false h0]; exact q) ?_
      refine w_nil ?_
      have : nz B = B := if_neg h0
      rw [this] at rest
      exact rest
  · rintro _ ⟨a, b, c, d', e', rfl⟩
    exact w_ret (by intro Q q; walk_at "pv"; exact q) rfl
end Law

set_option maxRecDepth 100000
set_option maxHeartbeats 1000000
namespace Law
open PySem L2 Pv
theorem all_mk {w : World} {K : PySem.W.Frag} {h : Heap} {mg : Str → Option Value} {fa f0 f1 f2 f3 f4 f5 f6 : Addr} (X : K.In h) (G : h.Ns mainGlobals mg) (hfa : mg "law" = some (.ref fa))
    {od0 an0 od1 an1 od2 an2 od3 an3 od4 an4 od5 an5 od6 an6 : Option Addr} {sl0 sl1 sl2 sl3 sl4 sl5 sl6 : Array (Option Value)} {oc0 kV0 dc0 pm0 cd0 ct0 oc1 kV1 dc1 pm1 cd1 ct1 oc2 kV2 dc2 pm2 cd2 ct2 oc3 kV3 dc3 pm3 cd3 ct3 oc4 kV4 dc4 pm4 cd4 ct4 oc5 kV5 dc5 pm5 cd5 ct5 oc6 kV6 dc6 pm6 cd6 ct6 : Value}
    (a0 : PySem.W.nsIn K mainGlobals "common" = some (some (.ref f0))) (l0 : K.lookup f0 = some ⟨oc0, od0, .func (PySem.W.fnOf "common" "common" (defArgs s_common) (defBody s_common) (defScope s_common) .none kV0 dc0 pm0 an0 cd0 ct0), sl0⟩) (c0 : PySem.W.codeIn K cd0 "common" = true) (k0 : PySem.W.keepIn K (.ref f0) = true)
    (a1 : PySem.W.nsIn K mainGlobals "reduced" = some (some (.ref f1))) (l1 : K.lookup f1 = some ⟨oc1, od1, .func (PySem.W.fnOf "reduced" "reduced" (defArgs s_reduced) (defBody s_reduced) (defScope s_reduced) .none kV1 dc1 pm1 an1 cd1 ct1), sl1⟩) (c1 : PySem.W.codeIn K cd1 "reduced" = true) (k1 : PySem.W.keepIn K (.ref f1) = true)
    (a2 : PySem.W.nsIn K mainGlobals "_law_cell_at" = some (some (.ref f2))) (l2 : K.lookup f2 = some ⟨oc2, od2, .func (PySem.W.fnOf "_law_cell_at" "_law_cell_at" (defArgs s_law_cell_at) (defBody s_law_cell_at) (defScope s_law_cell_at) .none kV2 dc2 pm2 an2 cd2 ct2), sl2⟩) (c2 : PySem.W.codeIn K cd2 "_law_cell_at" = true) (k2 : PySem.W.keepIn K (.ref f2) = true)
    (a3 : PySem.W.nsIn K mainGlobals "_law_is_whole" = some (some (.ref f3))) (l3 : K.lookup f3 = some ⟨oc3, od3, .func (PySem.W.fnOf "_law_is_whole" "_law_is_whole" (defArgs s_law_is_whole) (defBody s_law_is_whole) (defScope s_law_is_whole) .none kV3 dc3 pm3 an3 cd3 ct3), sl3⟩) (c3 : PySem.W.codeIn K cd3 "_law_is_whole" = true) (k3 : PySem.W.keepIn K (.ref f3) = true)
    (a4 : PySem.W.nsIn K mainGlobals "_law_drawn" = some (some (.ref f4))) (l4 : K.lookup f4 = some ⟨oc4, od4, .func (PySem.W.fnOf "_law_drawn" "_law_drawn" (defArgs s_law_drawn) (defBody s_law_drawn) (defScope s_law_drawn) .none kV4 dc4 pm4 an4 cd4 ct4), sl4⟩) (c4 : PySem.W.codeIn K cd4 "_law_drawn" = true) (k4 : PySem.W.keepIn K (.ref f4) = true)
    (a5 : PySem.W.nsIn K mainGlobals "_law_alone" = some (some (.ref f5))) (l5 : K.lookup f5 = some ⟨oc5, od5, .func (PySem.W.fnOf "_law_alone" "_law_alone" (defArgs s_law_alone) (defBody s_law_alone) (defScope s_law_alone) .none kV5 dc5 pm5 an5 cd5 ct5), sl5⟩) (c5 : PySem.W.codeIn K cd5 "_law_alone" = true) (k5 : PySem.W.keepIn K (.ref f5) = true)
    (a6 : PySem.W.nsIn K mainGlobals "law" = some (some (.ref f6))) (l6 : K.lookup f6 = some ⟨oc6, od6, .func (PySem.W.fnOf "law" "law" (defArgs s_law) (defBody s_law) (defScope s_law) .none kV6 dc6 pm6 an6 cd6 ct6), sl6⟩) (c6 : PySem.W.codeIn K cd6 "law" = true) (k6 : PySem.W.keepIn K (.ref f6) = true)
    (z0 : PySem.W.nsIn K mainGlobals "range" = some none) (z1 : PySem.W.nsIn K mainGlobals "isinstance" = some none) (z2 : PySem.W.nsIn K mainGlobals "len" = some none) (z3 : PySem.W.nsIn K mainGlobals "abs" = some none) (z4 : PySem.W.nsIn K mainGlobals "int" = some none) (z5 : PySem.W.nsIn K mainGlobals "bool" = some none) (z6 : PySem.W.nsIn K mainGlobals "str" = some none) (z7 : PySem.W.nsIn K mainGlobals "list" = some none) (z8 : PySem.W.nsIn K mainGlobals "tuple" = some none) (z9 : PySem.W.nsIn K mainGlobals "dict" = some none) (z10 : PySem.W.nsIn K mainGlobals "min" = some none) (z11 : PySem.W.nsIn K mainGlobals "max" = some none) (z12 : PySem.W.nsIn K mainGlobals "sum" = some none) (z13 : PySem.W.nsIn K mainGlobals "sorted" = some none) (z14 : PySem.W.nsIn K mainGlobals "enumerate" = some none) (z15 : PySem.W.nsIn K mainGlobals "zip" = some none) (z16 : PySem.W.nsIn K mainGlobals "reversed" = some none) (z17 : PySem.W.nsIn K mainGlobals "set" = some none) (z18 : PySem.W.nsIn K mainGlobals "any" = some none) (z19 : PySem.W.nsIn K mainGlobals "all" = some none) (z20 : PySem.W.nsIn K mainGlobals "divmod" = some none) (nl : noLst K = true) :
    ∃ fd : FuncData, (∀ (s : Shared) (v : Value), BindsTo s fd ⟨[v], []⟩ [("script", v)]) ∧ ∀ base : Heap, K.In base → base.Ns mainGlobals mg → FnOk PySem.Challenge.rw_grooveway_k25_fractions_reduced.prog w K mg base CX0 4 fa fd ["script"] (spLaw K) := by
  have e := hfa.symm.trans (PySem.W.mg_of X G a6)
  replace e : f6 = fa := by cases e; rfl
  subst e
  have e0 := ent_ok (i := i_common) (st := s_common) X G (fun _ _ _ _ _ _ us hl => match us, hl with | [_, _], _ => rfl) a0 l0 c0 k0
  have e1 := ent_ok (i := i_reduced) (st := s_reduced) X G (fun _ _ _ _ _ _ us hl => match us, hl with | [_, _], _ => rfl) a1 l1 c1 k1
  have e2 := ent_ok (i := i_law_cell_at) (st := s_law_cell_at) X G (fun _ _ _ _ _ _ us hl => match us, hl with | [_, _], _ => rfl) a2 l2 c2 k2
  have e3 := ent_ok (i := i_law_is_whole) (st := s_law_is_whole) X G (fun _ _ _ _ _ _ us hl => match us, hl with | [_], _ => rfl) a3 l3 c3 k3
  have e4 := ent_ok (i := i_law_drawn) (st := s_law_drawn) X G (fun _ _ _ _ _ _ us hl => match us, hl with | [_], _ => rfl) a4 l4 c4 k4
  have e5 := ent_ok (i := i_law_alone) (st := s_law_alone) X G (fun _ _ _ _ _ _ us hl => match us, hl with | [_, _], _ => rfl) a5 l5 c5 k5
  have e6 := ent_ok (i := i_law) (st := s_law) X G (fun _ _ _ _ _ _ us hl => match us, hl with | [_], _ => rfl) a6 l6 c6 k6
  have nob : ∀ x ∈ bltNames, mg x = none := by
    intro x hx
    simp only [bltNames, List.mem_cons, List.not_mem_nil, or_false] at hx
    rcases hx with rfl | rfl | rfl | rfl | rfl | rfl | rfl | rfl | rfl | rfl | rfl | rfl | rfl | rfl | rfl | rfl | rfl | rfl | rfl | rfl | rfl
    · exact PySem.W.mg_none_of X G z0
    · exact PySem.W.mg_none_of X G z1
    · exact PySem.W.mg_none_of X G z2
    · exact PySem.W.mg_none_of X G z3
    · exact PySem.W.mg_none_of X G z4
    · exact PySem.W.mg_none_of X G z5
    · exact PySem.W.mg_none_of X G z6
    · exact PySem.W.mg_none_of X G z7
    · exact PySem.W.mg_none_of X G z8
    · exact PySem.W.mg_none_of X G z9
    · exact PySem.W.mg_none_of X G z10
    · exact PySem.W.mg_none_of X G z11
    · exact PySem.W.mg_none_of X G z12
    · exact PySem.W.mg_none_of X G z13
    · exact PySem.W.mg_none_of X G z14
    · exact PySem.W.mg_none_of X G z15
    · exact PySem.W.mg_none_of X G z16
    · exact PySem.W.mg_none_of X G z17
    · exact PySem.W.mg_none_of X G z18
    · exact PySem.W.mg_none_of X G z19
    · exact PySem.W.mg_none_of X G z20
  exact ⟨_, fun s v => .of_eq rfl, fun base _ _ => law_ok (L := [⟨i_common, s_common, f0, PySem.W.fnOf "common" "common" (defArgs s_common) (defBody s_common) (defScope s_common) .none kV0 dc0 pm0 an0 cd0 ct0⟩, ⟨i_reduced, s_reduced, f1, PySem.W.fnOf "reduced" "reduced" (defArgs s_reduced) (defBody s_reduced) (defScope s_reduced) .none kV1 dc1 pm1 an1 cd1 ct1⟩, ⟨i_law_cell_at, s_law_cell_at, f2, PySem.W.fnOf "_law_cell_at" "_law_cell_at" (defArgs s_law_cell_at) (defBody s_law_cell_at) (defScope s_law_cell_at) .none kV2 dc2 pm2 an2 cd2 ct2⟩, ⟨i_law_is_whole, s_law_is_whole, f3, PySem.W.fnOf "_law_is_whole" "_law_is_whole" (defArgs s_law_is_whole) (defBody s_law_is_whole) (defScope s_law_is_whole) .none kV3 dc3 pm3 an3 cd3 ct3⟩, ⟨i_law_drawn, s_law_drawn, f4, PySem.W.fnOf "_law_drawn" "_law_drawn" (defArgs s_law_drawn) (defBody s_law_drawn) (defScope s_law_drawn) .none kV4 dc4 pm4 an4 cd4 ct4⟩, ⟨i_law_alone, s_law_alone, f5, PySem.W.fnOf "_law_alone" "_law_alone" (defArgs s_law_alone) (defBody s_law_alone) (defScope s_law_alone) .none kV5 dc5 pm5 an5 cd5 ct5⟩, ⟨i_law, s_law, f6, PySem.W.fnOf "law" "law" (defArgs s_law) (defBody s_law) (defScope s_law) .none kV6 dc6 pm6 an6 cd6 ct6⟩]) (cls := fun _ => 0) (fd0 := PySem.W.fnOf "law" "law" (defArgs s_law) (defBody s_law) (defScope s_law) .none kV6 dc6 pm6 an6 cd6 ct6) (j := 6) nob ⟨e0, e1, e2, e3, e4, e5, e6, trivial⟩ (fs := fs) rfl chk nl rfl rfl rfl law_pure⟩
end Law
open PySem PySem.W PyProof.Rows
set_option maxRecDepth 100000 in
set_option maxHeartbeats 0 in
theorem PySem.Challenge.cw_grooveway_k25_fractions_reduced_holds : PySem.Challenge.rw_grooveway_k25_fractions_reduced.Holds := by
  w_on; o_law; k_head; (case hw => w_witness2)
  k_fill
  refine Pv.walk (l := PySem.Challenge.rw_grooveway_k25_fractions_reduced) (k := 4) rfl rfl ⟨rfl, by decide, by decide⟩ (fun w h Y => PySem.W.kIn_of Y) ?F
  case F =>
    intro w mg fa h KX G hmg
    refine' Law.all_mk KX G hmg ?a0 ?l0 ?c0 ?k0 ?a1 ?l1 ?c1 ?k1 ?a2 ?l2 ?c2 ?k2 ?a3 ?l3 ?c3 ?k3 ?a4 ?l4 ?c4 ?k4 ?a5 ?l5 ?c5 ?k5 ?a6 ?l6 ?c6 ?k6 ?z0 ?z1 ?z2 ?z3 ?z4 ?z5 ?z6 ?z7 ?z8 ?z9 ?z10 ?z11 ?z12 ?z13 ?z14 ?z15 ?z16 ?z17 ?z18 ?z19 ?z20 ?nl
    (case a0 => k_is)
    (case l0 => k_is)
    (case c0 => k_is)
    (case k0 => k_is)
    (case a1 => k_is)
    (case l1 => k_is)
    (case c1 => k_is)
    (case k1 => k_is)
    (case a2 => k_is)
    (case l2 => k_is)
    (case c2 => k_is)
    (case k2 => k_is)
    (case a3 => k_is)
    (case l3 => k_is)
    (case c3 => k_is)
    (case k3 => k_is)
    (case a4 => k_is)
    (case l4 => k_is)
    (case c4 => k_is)
    (case k4 => k_is)
    (case a5 => k_is)
    (case l5 => k_is)
    (case c5 => k_is)
    (case k5 => k_is)
    (case a6 => k_is)
    (case l6 => k_is)
    (case c6 => k_is)
    (case k6 => k_is)
    (case z0 => k_is)
    (case z1 => k_is)
    (case z2 => k_is)
    (case z3 => k_is)
    (case z4 => k_is)
    (case z5 => k_is)
    (case z6 => k_is)
    (case z7 => k_is)
    (case z8 => k_is)
    (case z9 => k_is)
    (case z10 => k_is)
    (case z11 => k_is)
    (case z12 => k_is)
    (case z13 => k_is)
    (case z14 => k_is)
    (case z15 => k_is)
    (case z16 => k_is)
    (case z17 => k_is)
    (case z18 => k_is)
    (case z19 => k_is)
    (case z20 => k_is)
    (case nl => rfl)
