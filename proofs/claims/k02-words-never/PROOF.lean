import PyProof.Rows.All
import Wide.All
import OpenK.AllK
import Wide.FinOn
import HandS.ForMost
import HandS.Wide
import HandS.IsInst
import HandS.Deep
import HandS.Walk
import HandS.StrMore
import HandS.SortInts
import HandS.TupAny
import HandS.TupLe
import HandS.Rev
import HandS.RevRange
import HandS.Zip
import HandS.RaiseMore
import HandS.Style
import HandS.Finally
import HandS.Small
import HandS.DictComp
import HandS.SetFor
import HandS.Conv
import HandS.More
import HandS.Codes
import HandS.Exc
import HandS.ExcOwn
import HandS.ExcIs
import HandS.WordsExc
import KE.GoesMore
import PyProof.StrWalks
import HandS.Strs
import HandS.TupLen
import KE.KDictDisplayH
import HandS.Defaults
import PyProof.Rows.StrSplitCount
import PyProof.Rows.StrFirst
import PySem.Challenge.RW_grooveway_k02_words_never
set_option Elab.async false
set_option linter.all false
set_option maxRecDepth 100000
set_option maxHeartbeats 1000000
/-! Pure values, and how the abstract heap bears them. -/
namespace Pv
open PySem L2

/-- a pure value -/
inductive D where
  | non | bl (b : Bool) | int (i : Int) | str (s : Str)
  | tup (xs : List D) | lst (xs : List D) | dicK (kvs : List (Key × D)) | dicT (kvs : List (List Key × D))
  | obj (c : Nat) (ds : List D)

def D.box : D → Bool
  | .lst _ => true
  | .dicK _ => true
  | .dicT _ => true
  | _ => false

/-- who may hold a value: nobody may change it | it is shared | shared, its items so | owned, its items so -/
inductive T where
  | im | sh | s (t : T) | ow (t : T)
  deriving DecidableEq

def kD : Key → D
  | .inl i => .int i
  | .inr x => .str x

theorem rd_same {H H' : Hp} {a : Addr} {u : HO} (e : Same H H') (h : Rd H a u) : Rd H' a u := by
  rcases h with h | ⟨o, h⟩
  · exact .inl (e _ _ h)
  · exact .inr ⟨o, e _ _ h⟩
theorem sqT_same {K : PySem.W.Frag} {H H' : Hp} {a : Addr} {xs : List V} (e : Same H H') (h : SqT K H a xs) : SqT K H' a xs := by
  rcases h with h | h
  · exact .inl (rd_same e h)
  · exact .inr h

/-- an object that holds others and may change -/
def Box : Option HO → Prop
  | some (.lst _) => True
  | some (.dK _) => True
  | some (.dT _) => True
  | _ => False
/-- all but the boxes at F stay -/
def Chg (F : List Addr) (H H' : Hp) : Prop := (∀ b u, b ∉ F → H b = some u → H' b = some u) ∧ ∀ b ∈ F, Box (H b)
theorem Chg.same {H H' : Hp} {F : List Addr} (e : Same H H') (h : ∀ b ∈ F, Box (H b)) : Chg F H H' := ⟨fun b u _ q => e b u q, h⟩
theorem Chg.rdT {F : List Addr} {H H' : Hp} (c : Chg F H H') {a : Addr} {xs : List V} (h : Rd H a (.tup xs)) : Rd H' a (.tup xs) := by
  have na : ∀ o, H a = some o → (∀ xs, o ≠ .lst xs) → (∀ xs, o ≠ .dK xs) → (∀ xs, o ≠ .dT xs) → a ∉ F := fun o e h1 h2 h3 hm => by
    have := c.2 a hm
    rw [e] at this
    cases o <;> first | exact this | exact h1 _ rfl | exact h2 _ rfl | exact h3 _ rfl
  rcases h with h | ⟨o, h⟩
  · exact .inl (c.1 a _ (na _ h (fun _ z => by cases z) (fun _ z => by cases z) fun _ z => by cases z) h)
  · exact .inr ⟨o, c.1 a _ (na _ h (fun _ z => by cases z) (fun _ z => by cases z) fun _ z => by cases z) h⟩
theorem Chg.sqT {K : PySem.W.Frag} {F : List Addr} {H H' : Hp} (c : Chg F H H') {a : Addr} {xs : List V} (h : SqT K H a xs) : SqT K H' a xs := by
  rcases h with h | h
  · exact .inl (c.rdT h)
  · exact .inr h
theorem Chg.tup {F : List Addr} {H H' : Hp} (c : Chg F H H') {a : Addr} {xs : List V} (h : H a = some (.tup xs)) : H' a = some (.tup xs) :=
  c.1 a _ (fun hm => by have := c.2 a hm; rw [h] at this; exact this) h
theorem Chg.rdN {F : List Addr} {H H' : Hp} (c : Chg F H H') {a : Addr} {u : HO} (n : a ∉ F) (h : Rd H a u) : Rd H' a u := by
  rcases h with h | ⟨o, h⟩
  · exact .inl (c.1 a _ n h)
  · exact .inr ⟨o, c.1 a _ n h⟩
theorem Chg.ins {F : List Addr} {H H' : Hp} (c : Chg F H H') {a C dx : Addr} {fs : List (Str × V)} (h : H a = some (.ins C dx fs)) : H' a = some (.ins C dx fs) :=
  c.1 a _ (fun hm => by have := c.2 a hm; rw [h] at this; exact this) h

mutual
/-- v bears d; its boxes lie at addresses of which N holds -/
inductive Rep (K : PySem.W.Frag) (cls : Nat → Addr × List Str) (N : Addr → Prop) (H : Hp) : V → D → Prop
  | non : Rep K cls N H .non .non
  | bl (b : Bool) : Rep K cls N H (.bl b) (.bl b)
  | int (i : Int) : Rep K cls N H (.int i) (.int i)
  | str (x : Str) : Rep K cls N H (.str x) (.str x)
  | tup {a : Addr} {vs : List V} {ds : List D} : H a = some (.tup vs) → Reps K cls N H vs ds → Rep K cls N H (.ref a) (.tup ds)
  | lst {a : Addr} {vs : List V} {ds : List D} : N a → Rd H a (.lst vs) → Reps K cls N H vs ds → Rep K cls N H (.ref a) (.lst ds)
  | dK {a : Addr} {kvs : List (Key × V)} {ds : List D} : N a → Rd H a (.dK kvs) → Reps K cls N H (kvs.map (·.2)) ds → Rep K cls N H (.ref a) (.dicK ((kvs.map (·.1)).zip ds))
  | dT {a : Addr} {kvs : List (List Key × V)} {ds : List D} : N a → Rd H a (.dT kvs) → Reps K cls N H (kvs.map (·.2)) ds → Rep K cls N H (.ref a) (.dicT ((kvs.map (·.1)).zip ds))
  | obj {a dx : Addr} {c : Nat} {fs : List (Str × V)} {ds : List D} : H a = some (.ins (cls c).1 dx fs) → fs.map (·.1) = (cls c).2 → Reps K cls N H (fs.map (·.2)) ds → Rep K cls N H (.ref a) (.obj c ds)
inductive Reps (K : PySem.W.Frag) (cls : Nat → Addr × List Str) (N : Addr → Prop) (H : Hp) : List V → List D → Prop
  | nil : Reps K cls N H [] []
  | cons {v : V} {vs : List V} {d : D} {ds : List D} : Rep K cls N H v d → Reps K cls N H vs ds → Reps K cls N H (v :: vs) (d :: ds)
end
section
variable {K : PySem.W.Frag} {cls : Nat → Addr × List Str} {N N' : Addr → Prop} {H H' : Hp}
mutual
theorem Rep.chg {F : List Addr} (c : Chg F H H') (nF : ∀ a, N a → a ∉ F) (n : ∀ a, N a → N' a) : ∀ {v : V} {d : D}, Rep K cls N H v d → Rep K cls N' H' v d
  | _, _, .non => .non
  | _, _, .bl b => .bl b
  | _, _, .int i => .int i
  | _, _, .str x => .str x
  | _, _, .tup h r => .tup (c.tup h) (Reps.chg c nF n r)
  | _, _, .lst a h r => .lst (n _ a) (c.rdN (nF _ a) h) (Reps.chg c nF n r)
  | _, _, .dK a h r => .dK (n _ a) (c.rdN (nF _ a) h) (Reps.chg c nF n r)
  | _, _, .dT a h r => .dT (n _ a) (c.rdN (nF _ a) h) (Reps.chg c nF n r)
  | _, _, .obj h z r => .obj (c.ins h) z (Reps.chg c nF n r)
theorem Reps.chg {F : List Addr} (c : Chg F H H') (nF : ∀ a, N a → a ∉ F) (n : ∀ a, N a → N' a) : ∀ {vs : List V} {ds : List D}, Reps K cls N H vs ds → Reps K cls N' H' vs ds
  | _, _, .nil => .nil
  | _, _, .cons h r => .cons (Rep.chg c nF n h) (Reps.chg c nF n r)
end
theorem Rep.mono (e : Same H H') (n : ∀ a, N a → N' a) {v : V} {d : D} (h : Rep K cls N H v d) : Rep K cls N' H' v d :=
  Rep.chg (F := []) (Chg.same e fun _ z => absurd z (by simp)) (fun _ _ => by simp) n h
theorem Reps.mono (e : Same H H') (n : ∀ a, N a → N' a) {v : List V} {d : List D} (h : Reps K cls N H v d) : Reps K cls N' H' v d :=
  Reps.chg (F := []) (Chg.same e fun _ z => absurd z (by simp)) (fun _ _ => by simp) n h
theorem Rep.wk (n : ∀ a, N a → N' a) {v : V} {d : D} (h : Rep K cls N H v d) : Rep K cls N' H v d := h.mono (Same.refl H) n
theorem rd_some {a : Addr} {u : HO} (h : Rd H a u) : H a ≠ none := by
  rcases h with h | ⟨o, h⟩ <;> (rw [h]; simp)
mutual
theorem Rep.dom : ∀ {v : V} {d : D}, Rep K cls N H v d → Rep K cls (fun a => N a ∧ H a ≠ none) H v d
  | _, _, .non => .non
  | _, _, .bl b => .bl b
  | _, _, .int i => .int i
  | _, _, .str x => .str x
  | _, _, .tup h r => .tup h (Reps.dom r)
  | _, _, .lst a h r => .lst ⟨a, rd_some h⟩ h (Reps.dom r)
  | _, _, .dK a h r => .dK ⟨a, rd_some h⟩ h (Reps.dom r)
  | _, _, .dT a h r => .dT ⟨a, rd_some h⟩ h (Reps.dom r)
  | _, _, .obj h z r => .obj h z (Reps.dom r)
theorem Reps.dom : ∀ {vs : List V} {ds : List D}, Reps K cls N H vs ds → Reps K cls (fun a => N a ∧ H a ≠ none) H vs ds
  | _, _, .nil => .nil
  | _, _, .cons h r => .cons (Rep.dom h) (Reps.dom r)
end
theorem Reps.length : ∀ {vs : List V} {ds : List D}, Reps K cls N H vs ds → vs.length = ds.length
  | _, _, .nil => rfl
  | _, _, .cons _ r => by simp [Reps.length r]
theorem Reps.get : ∀ {vs : List V} {ds : List D} {i : Nat} {d : D}, Reps K cls N H vs ds → ds[i]? = some d → ∃ v, vs[i]? = some v ∧ Rep K cls N H v d
  | _, _, _, _, .nil, e => by simp at e
  | _, _, 0, _, .cons h _, e => by simp at e; subst e; exact ⟨_, rfl, h⟩
  | _, _, i + 1, _, .cons _ r, e => by
    obtain ⟨v, h1, h2⟩ := Reps.get (i := i) r (by simpa using e)
    exact ⟨v, by simpa using h1, h2⟩
end
abbrev N0 : Addr → Prop := fun _ => False

theorem pimp {α β : Type} {F G : α → β → Prop} : ∀ {l₁ : List α} {l₂ : List β}, Paired F l₁ l₂ → (∀ a b, F a b → G a b) → Paired G l₁ l₂
  | _, _, .nil, _ => .nil
  | _, _, .cons r t, f => .cons (f _ _ r) (pimp t f)
section
variable (K : PySem.W.Frag) (cls : Nat → Addr × List Str)
/-- a thing whose items are borne by P -/
inductive BS (N : Addr → Prop) (H : Hp) (P : V → D → Prop) : V → D → Prop
  | im {v : V} {d : D} : Rep K cls N0 H v d → BS N H P v d
  | tup {a : Addr} {vs : List V} {ds : List D} : H a = some (.tup vs) → Paired P vs ds → BS N H P (.ref a) (.tup ds)
  | lst {a : Addr} {vs : List V} {ds : List D} : N a → Rd H a (.lst vs) → Paired P vs ds → BS N H P (.ref a) (.lst ds)
  | dK {a : Addr} {kvs : List (Key × V)} {ds : List D} : N a → Rd H a (.dK kvs) → Paired P (kvs.map (·.2)) ds → BS N H P (.ref a) (.dicK ((kvs.map (·.1)).zip ds))
  | dT {a : Addr} {kvs : List (List Key × V)} {ds : List D} : N a → Rd H a (.dT kvs) → Paired P (kvs.map (·.2)) ds → BS N H P (.ref a) (.dicT ((kvs.map (·.1)).zip ds))
/-- v bears d as a borrowed thing of kind t -/
def RepB (N : Addr → Prop) (H : Hp) : T → V → D → Prop
  | .im => Rep K cls N0 H
  | .sh => Rep K cls N H
  | .s t => BS K cls N H (RepB N H t)
  | .ow t => BS K cls N H (RepB N H t)
end
section
variable {K : PySem.W.Frag} {cls : Nat → Addr × List Str} {N N' : Addr → Prop} {H H' : Hp}
theorem BS.chg {F : List Addr} {P P' : V → D → Prop} (c : Chg F H H') (nF : ∀ a, N a → a ∉ F) (n : ∀ a, N a → N' a) (hp : ∀ v d, P v d → P' v d) {v : V} {d : D} (h : BS K cls N H P v d) : BS K cls N' H' P' v d := by
  cases h with
  | im h => exact .im (Rep.chg c (fun _ z => z.elim) (fun _ z => z) h)
  | tup h r => exact .tup (c.tup h) (pimp r hp)
  | lst na h r => exact .lst (n _ na) (c.rdN (nF _ na) h) (pimp r hp)
  | dK na h r => exact .dK (n _ na) (c.rdN (nF _ na) h) (pimp r hp)
  | dT na h r => exact .dT (n _ na) (c.rdN (nF _ na) h) (pimp r hp)
theorem RepB.chg {F : List Addr} (c : Chg F H H') (nF : ∀ a, N a → a ∉ F) (n : ∀ a, N a → N' a) : ∀ {t : T} {v : V} {d : D}, RepB K cls N H t v d → RepB K cls N' H' t v d
  | .im, _, _, h => Rep.chg c (fun _ z => z.elim) (fun _ z => z) h
  | .sh, _, _, h => Rep.chg c nF n h
  | .s t, _, _, h => BS.chg c nF n (fun _ _ z => RepB.chg (t := t) c nF n z) h
  | .ow t, _, _, h => BS.chg c nF n (fun _ _ z => RepB.chg (t := t) c nF n z) h
theorem RepB.mono (e : Same H H') (n : ∀ a, N a → N' a) {t : T} {v : V} {d : D} (h : RepB K cls N H t v d) : RepB K cls N' H' t v d :=
  RepB.chg (F := []) (Chg.same e fun _ z => absurd z (by simp)) (fun _ _ => by simp) n h
theorem BS.mono {P P' : V → D → Prop} (e : Same H H') (n : ∀ a, N a → N' a) (hp : ∀ v d, P v d → P' v d) {v : V} {d : D} (h : BS K cls N H P v d) : BS K cls N' H' P' v d :=
  BS.chg (F := []) (Chg.same e fun _ z => absurd z (by simp)) (fun _ _ => by simp) n hp h
theorem RepB.of_im : ∀ {t : T} {v : V} {d : D}, Rep K cls N0 H v d → RepB K cls N H t v d
  | .im, _, _, h => h
  | .sh, _, _, h => h.wk fun _ z => z.elim
  | .s _, _, _, h => .im h
  | .ow _, _, _, h => .im h
theorem Reps.paired : ∀ {vs : List V} {ds : List D}, Reps K cls N H vs ds → Paired (Rep K cls N H) vs ds
  | _, _, .nil => .nil
  | _, _, .cons h r => .cons h (Reps.paired r)
theorem Reps.of : ∀ {vs : List V} {ds : List D}, Paired (Rep K cls N H) vs ds → Reps K cls N H vs ds
  | _, _, .nil => .nil
  | _, _, .cons h r => .cons h (Reps.of r)
theorem BS.rep {P : V → D → Prop} (hp : ∀ v d, P v d → Rep K cls N H v d) {v : V} {d : D} (h : BS K cls N H P v d) : Rep K cls N H v d := by
  cases h with
  | im h => exact h.wk fun _ z => z.elim
  | tup h r => exact .tup h (.of (pimp r hp))
  | lst na h r => exact .lst na h (.of (pimp r hp))
  | dK na h r => exact .dK na h (.of (pimp r hp))
  | dT na h r => exact .dT na h (.of (pimp r hp))
theorem RepB.rep : ∀ {t : T} {v : V} {d : D}, RepB K cls N H t v d → Rep K cls N H v d
  | .im, _, _, h => Rep.wk (N := N0) (fun _ z => z.elim) h
  | .sh, _, _, h => h
  | .s t, _, _, h => BS.rep (fun _ _ z => RepB.rep (t := t) z) h
  | .ow t, _, _, h => BS.rep (fun _ _ z => RepB.rep (t := t) z) h
end

/-! ### kinds -/
def T.bor : T → T
  | .im => .im
  | .sh => .sh
  | .s t => .s t.bor
  | .ow t => .s t.bor
def T.el : T → T
  | .im => .im
  | .sh => .sh
  | .s t => t
  | .ow t => t
/-- nothing owned in it -/
def T.flat : T → Bool
  | .im => true
  | .sh => true
  | .s t => t.flat
  | .ow _ => false
/-- as good as -/
def T.le : T → T → Bool
  | .im, .s b => b.flat
  | .im, _ => true
  | .sh, .sh => true
  | .s _, .sh => true
  | .s a, .s b => b.flat && T.le a b
  | .ow a, .ow b => T.le a b
  | _, _ => false
def T.join : T → T → T
  | .im, t => t
  | t, .im => t
  | .s a, .s b => .s (T.join a b)
  | .ow a, .ow b => .ow (T.join a b)
  | _, _ => .sh
theorem bor_flat : ∀ t : T, t.flat = true → t.bor = t
  | .im, _ => rfl
  | .sh, _ => rfl
  | .s t, h => by
    have e := bor_flat t h
    show T.s t.bor = T.s t
    rw [e]
  | .ow _, h => by cases h
theorem flat_bor : ∀ t : T, t.bor.flat = true
  | .im => rfl
  | .sh => rfl
  | .s t => flat_bor t
  | .ow t => flat_bor t
theorem le_bor : ∀ a b : T, T.le a b = true → T.le a.bor b.bor = true
  | .im, b, _ => by cases b <;> first | rfl | exact flat_bor _
  | .sh, .sh, _ => rfl
  | .s t, .sh, _ => rfl
  | .s a, .s b, h => by
    have h' := (Bool.and_eq_true_iff.mp h).2
    show (b.bor.flat && T.le a.bor b.bor) = true
    rw [flat_bor, le_bor a b h']
    rfl
  | .ow a, .ow b, h => by
    show (b.bor.flat && T.le a.bor b.bor) = true
    rw [flat_bor, le_bor a b h]
    rfl
section
variable {K : PySem.W.Frag} {cls : Nat → Addr × List Str} {N N' : Addr → Prop} {H H' : Hp}
theorem RepB.le : ∀ {t u : T} {v : V} {d : D}, T.le t u = true → RepB K cls N H t v d → RepB K cls N H u v d
  | .im, _, _, _, _, h => RepB.of_im h
  | .sh, .sh, _, _, _, h => h
  | .s t, .sh, _, _, _, h => RepB.rep (t := .s t) h
  | .s a, .s b, _, _, e, h => BS.mono (Same.refl H) (fun _ z => z) (fun _ _ z => RepB.le (t := a) (u := b) (Bool.and_eq_true_iff.mp e).2 z) h
  | .ow a, .ow b, _, _, e, h => BS.mono (Same.refl H) (fun _ z => z) (fun _ _ z => RepB.le (t := a) (u := b) e z) h
theorem RepB.bor : ∀ {t : T} {v : V} {d : D}, RepB K cls N H t v d → RepB K cls N H t.bor v d
  | .im, _, _, h => h
  | .sh, _, _, h => h
  | .s t, _, _, h => BS.mono (Same.refl H) (fun _ z => z) (fun _ _ z => RepB.bor (t := t) z) h
  | .ow t, _, _, h => BS.mono (Same.refl H) (fun _ z => z) (fun _ _ z => RepB.bor (t := t) z) h
end
end Pv

set_option maxRecDepth 100000
set_option maxHeartbeats 1000000
/-! enumerate, zip of lists, tuples, texts in any mix -/
namespace Pv
open PySem PySem.Spec PyProof.Rows L2
def ch1 (z : Str) : List V := z.cps.toList.map fun c => V.str ⟨#[c]⟩
theorem an {a b : Nat} (h : a ≠ b) : @Ne Addr a b := h
inductive SK where
  | l | t | s
/-- v is a list, tuple or text of the items xs -/
def SrcK (K : PySem.W.Frag) (H : Hp) : SK → V → List V → Prop
  | .l, v, xs => ∃ a, v = .ref a ∧ SqL K H a xs
  | .t, v, xs => ∃ a, v = .ref a ∧ SqT K H a xs
  | .s, v, xs => ∃ z, v = .str z ∧ xs = ch1 z
/-- an iterator over it has come to i -/
def ItK (it : Addr) : SK → Value → Nat → Heap → Prop
  | .l, u, i, h => ∃ a, u = .ref a ∧ h.IsListIter it a i
  | .t, u, i, h => ∃ a, u = .ref a ∧ h.IsTupleIter it a i
  | .s, u, i, h => ∃ z t, u = .str z t ∧ h.IsStrIter it (strIterType z) z t i
theorem itK_obj {it : Addr} {k : SK} {u : Value} {i : Nat} {h : Heap} (st : ItK it k u i h) : ∃ o, h.get? it = some o ∧ ∀ v, o.data ≠ .cell v := by
  cases k with
  | l => obtain ⟨a, _, o, e, _, d⟩ := st; exact ⟨o, e, fun v z => by rw [d] at z; cases z⟩
  | t => obtain ⟨a, _, o, e, _, d⟩ := st; exact ⟨o, e, fun v z => by rw [d] at z; cases z⟩
  | s => obtain ⟨z, t, _, o, e, _, d⟩ := st; exact ⟨o, e, fun v z => by rw [d] at z; cases z⟩
theorem itK_at {it : Addr} {k : SK} {u : Value} {i : Nat} {h h' : Heap} (st : ItK it k u i h) (e : ∀ o, h.get? it = some o → h'.get? it = some o) : ItK it k u i h' := by
  cases k with
  | l => obtain ⟨a, q, st⟩ := st; exact ⟨a, q, st.at e⟩
  | t => obtain ⟨a, q, st⟩ := st; exact ⟨a, q, st.at e⟩
  | s => obtain ⟨z, t, q, o, ho, r⟩ := st; exact ⟨z, t, q, o, e o ho, r⟩
section
variable {X : Cx} {pins : List (Addr × Obj)} {σ : L2.St} {H : Hp} {s : Shared} {k : SK} {v : V} {u : Value} {xs ys : List V} {it : Addr} {i : Nat}
theorem src_inj (I : Inv X pins σ H s) (h : SrcK X.K H k v xs) (h' : SrcK X.K H k v ys) : xs = ys := by
  cases k with
  | l => obtain ⟨a, rfl, q⟩ := h; obtain ⟨b, e, q'⟩ := h'; cases e; exact I.list_inj q q'
  | t => obtain ⟨a, rfl, q⟩ := h; obtain ⟨b, e, q'⟩ := h'; cases e; exact I.tuple_inj q q'
  | s => obtain ⟨z, rfl, rfl⟩ := h; obtain ⟨b, e, rfl⟩ := h'; cases e; rfl
theorem vals_at : ∀ {xs : List V} {its : List Value} {j : Nat} {w : Value}, Vals xs its → its[j]? = some w → ∃ x, xs[j]? = some x ∧ RelV x w
  | _, _, 0, _, .cons r _, e => by simp at e; subst e; exact ⟨_, rfl, r⟩
  | _, _, j + 1, _, .cons _ t, e => by
    obtain ⟨x, h1, h2⟩ := vals_at (j := j) t (by simpa using e)
    exact ⟨x, by simpa using h1, h2⟩
  | _, _, _, _, .nil, e => by simp at e
theorem draws_of (I : Inv X pins σ H s) (hh : X.A.handled = none) (rv : RelV v u) (q : SrcK X.K H k v xs) (st : ItK it k u i s.heap) (hne : ∀ a, v = .ref a → a ≠ it) :
    ∃ (fp : List Addr) (P : Nat → Value → Prop) (St : Nat → Heap → Prop), Draws X.prog X.w X.A.in1 it fp xs.length P St ∧ it ∈ fp ∧ (∀ b ∈ fp, b = it ∨ v = .ref b) ∧ (∀ j w, P j w → ∃ x, xs[j]? = some x ∧ RelV x w) ∧ St i s.heap ∧ ∀ j h, St j h → ItK it k u j h := by
  cases k with
  | l =>
    obtain ⟨a, rfl, hq⟩ := q
    cases rv
    obtain ⟨its, r, p, _⟩ := I.list hq
    obtain ⟨b, e, st⟩ := st
    cases e
    have e1 : its.toArray.size = xs.length := by rw [List.size_toArray, r.length]
    refine ⟨[it, a], _, _, e1 ▸ Draws.list (show X.A.in1.handled = none from hh) it a (hne a rfl) its.toArray, by simp, fun b hb => ?_, fun j w hw => vals_at r (by simpa using hw), ⟨st, p.isList⟩, fun j h z => ⟨a, rfl, z.1⟩⟩
    simp only [List.mem_cons, List.not_mem_nil, or_false] at hb
    exact hb.imp_right fun z => by rw [z]
  | t =>
    obtain ⟨a, rfl, hq⟩ := q
    cases rv
    obtain ⟨its, r, p, _⟩ := I.tuple hq
    obtain ⟨b, e, st⟩ := st
    cases e
    have e1 : its.toArray.size = xs.length := by rw [List.size_toArray, r.length]
    refine ⟨[it, a], _, _, e1 ▸ Draws.tuple (show X.A.in1.handled = none from hh) it a (hne a rfl) its.toArray, by simp, fun b hb => ?_, fun j w hw => vals_at r (by simpa using hw), ⟨st, p⟩, fun j h z => ⟨a, rfl, z.1⟩⟩
    simp only [List.mem_cons, List.not_mem_nil, or_false] at hb
    exact hb.imp_right fun z => by rw [z]
  | s =>
    obtain ⟨z, rfl, rfl⟩ := q
    obtain ⟨t, rfl⟩ := rv
    obtain ⟨z', t', e, st⟩ := st
    cases e
    have e1 : z.cps.size = (ch1 z).length := by simp [ch1]
    refine ⟨[it], _, _, e1 ▸ Draws.text (show X.A.in1.handled = none from hh) it z t, by simp, fun b hb => .inl (by simpa using hb), fun j w hw => ?_, st, fun j h y => ⟨z, t, rfl, y⟩⟩
    obtain ⟨c, t2, hc, rfl⟩ := hw
    exact ⟨.str ⟨#[c]⟩, by simp [ch1, hc], ⟨t2, rfl⟩⟩
theorem begins_of (I : Inv X pins σ H s) (rv : RelV v u) (q : SrcK X.K H k v xs) : ∃ (o : Obj) (Hh : Heap → Prop), Begins u o Hh ∧ Hh s.heap ∧ (∀ a, v = .ref a → a < s.heap.objs.size) ∧ ∀ h it, h.get? it = some o → ItK it k u 0 h := by
  cases k with
  | l =>
    obtain ⟨a, rfl, hq⟩ := q
    cases rv
    obtain ⟨its, r, p, _⟩ := I.list hq
    exact ⟨_, _, begins_list a its.toArray, p.isList, fun b e => (by cases e; exact p.lt), fun h it e => ⟨a, rfl, _, e, rfl, rfl⟩⟩
  | t =>
    obtain ⟨a, rfl, hq⟩ := q
    cases rv
    obtain ⟨its, r, p, _⟩ := I.tuple hq
    exact ⟨_, _, begins_tuple a its.toArray, p, fun b e => (by cases e; obtain ⟨o, ho, _⟩ := id p; exact Heap.lt_size ho), fun h it e => ⟨a, rfl, _, e, rfl, rfl⟩⟩
  | s =>
    obtain ⟨z, rfl, rfl⟩ := q
    obtain ⟨t, rfl⟩ := rv
    exact ⟨_, _, begins_text z t, trivial, fun b e => (by cases e), fun h it e => ⟨z, t, rfl, _, e, rfl, rfl⟩⟩
end
/-! enumerate -/
def IteG (K : PySem.W.Frag) (k : SK) (v : V) : L2.It :=
  ⟨fun i H => ∃ (xs : List V) (x : V), SrcK K H k v xs ∧ xs[i]? = some x, fun i H u H' => ∃ T x, u = .ref T ∧ H T = none ∧ H' = upd H T (.tup [.int (i : Nat), x]) ∧ ∀ xs, SrcK K H k v xs → xs[i]? = some x, fun i H => ∃ xs : List V, SrcK K H k v xs ∧ xs.length = i⟩
theorem turn_enumG {P : Program} {w : World} {K : PySem.W.Frag} {elts : List Expr} {kk : Nat} {tpos : Pos} {k : SK} {v : V} {u : Value} (rv : RelV v u) (e it : Addr) (hne : e ≠ it) (ha : ∀ a, v = .ref a → a ≠ e ∧ a ≠ it) :
    Turn P w K (.Tuple elts kk tpos) (IteG K k v) [e, it] e (fun i h => (∃ old, IsEnum h e it ((i : Nat) : Int) old) ∧ ItK it k u i h) where
  mem := by simp
  obj := fun i h st b hb => by
    obtain ⟨⟨old, he⟩, hi⟩ := st
    have e' : b = e ∨ b = it := by simpa using hb
    rcases e' with z | z
    · rw [z]; exact ⟨_, he, fun v q => nomatch q⟩
    · rw [z]; exact itK_obj hi
  keep := fun i h h' st k => let ⟨⟨old, he⟩, hi⟩ := st; ⟨⟨old, k e (by simp) _ he⟩, itK_at hi fun o q => k it (by simp) o q⟩
  item := by
    intro X hP hw hK hc i pins s σ H E I hf st hg
    subst hP hw hK
    obtain ⟨⟨old, he⟩, hit⟩ := st
    obtain ⟨xs, x, hq, hx⟩ := hg
    obtain ⟨fp, Pd, St, D, mi, mf, pd, hst, back⟩ := draws_of I (I.ok.hd hc) rv hq hit (fun a q => (ha a q).2)
    have hlt : i < xs.length := (List.getElem?_eq_some_iff.mp hx).1
    have hel : e < s.heap.objs.size := Heap.lt_size he
    have hil : it < s.heap.objs.size := by obtain ⟨_, q, _⟩ := itK_obj hit; exact Heap.lt_size q
    have hef : e ∉ fp := fun z => by
      rcases mf e z with q | q
      · exact hne q
      · exact (ha e q).1 rfl
    refine wpAny_pyNext_enum_itemD D he hst hlt hne hef fun val h' tk hP ho hst' hT hsz hk => ?_
    obtain ⟨x', hx', rx⟩ := pd _ _ hP
    rw [hx] at hx'
    cases hx'
    refine ⟨_, rfl, wpAny_letOwnedTupleGo_enum (s := { s with heap := h', toks := tk + 1 }) ho fun h'' he' sb => ?_⟩
    have hT2 : h''.get? s.heap.objs.size = some { cls := .type "tuple", data := .seq #[.int i tk, val] } := (sb.2 _ (Nat.ne_of_gt hel)).trans hT
    have new : ObjOk X.prog X.w (upd H s.heap.objs.size (.tup [.int (i : Nat), x])) h'' s.heap.objs.size (.tup [.int (i : Nat), x]) :=
      ⟨by show 2 ≤ sizeLine; decide, [.int i tk, val], .cons ⟨_, rfl⟩ (.cons rx .nil), ⟨_, hT2, rfl, _, rfl⟩⟩
    have I1 : Inv X pins σ (upd H s.heap.objs.size (.tup [.int (i : Nat), x])) { s with heap := h'', toks := tk + 1 } :=
      I.turnedNew (ch := [e, it]) (fun b ob hb q => (sb.2 b (fun z => hb (by simp [z]))).trans (hk b ob (fun z => hb (by simp [z])) (fun z => hb (by simp [z])) q)) hf (Nat.le_refl _) new
    refine ⟨.ref s.heap.objs.size, _, I1, rfl, ⟨_, x, rfl, I.hok.fresh (Nat.le_refl _), rfl, fun ys hy => by rw [src_inj I hy hq]; exact hx⟩, ⟨⟨val, ?_⟩, itK_at (back _ _ hst') fun o q => (sb.2 it (Ne.symm hne)).trans q⟩, fun b hb => ?_⟩
    · have e1 : ((i + 1 : Nat) : Int) = (i : Int) + 1 := by omega
      rw [e1]; exact he'
    · have hb' : b < s.heap.objs.size := by
        have e' : b = e ∨ b = it := by simpa using hb
        rcases e' with z | z
        · rw [z]; exact hel
        · rw [z]; exact hil
      rw [upd_ne (Nat.ne_of_lt hb')]
      exact (hf b hb).1
  done := by
    intro X hP hw hK hc i pins s σ H E I hf st hg
    subst hP hw hK
    obtain ⟨⟨old, he⟩, hit⟩ := st
    obtain ⟨xs, hq, hx⟩ := hg
    obtain ⟨fp, Pd, St, D, mi, mf, pd, hst, back⟩ := draws_of I (I.ok.hd hc) rv hq hit (fun a q => (ha a q).2)
    obtain ⟨f0, f1, f2, f3, f4, f5⟩ := hf it (by simp)
    exact wpAny_pyNext_enum_endD D he (hx ▸ hst) fun h' eb => ⟨rfl, I.turned (t' := s.toks) (fun b o hb q => eb b o hb q) f0 f1 f3 f4 f5⟩
  self := fun A i s Q E st h => let ⟨⟨_, he⟩, _⟩ := st; wpAny_pyIter_enum he h
theorem meets_enumerate_newT (l : Addr) (items : Array Value) (n : Nat) (dct : Option Addr) (sl : Array (Option Value)) :
    Meets (Builtin.«enumerate.__new__» ⟨[.type "enumerate", .ref l], []⟩) (fun _ R s => s.heap.get? l = some { cls := .type "tuple", dict := dct, data := .seq items n, slots := sl } ∧
      R (.ok (.ret (.ref (s.heap.push { cls := .type "tuple_iterator", data := .fields #[.ref l, .int 0 0] }).objs.size)))
        { s with heap := (s.heap.push { cls := .type "tuple_iterator", data := .fields #[.ref l, .int 0 0] }).push { cls := .type "enumerate", data := .fields #[.none, .bool false, .ref s.heap.objs.size, rawInt 0, .none, .none] } }) :=
  .of_wp fun prog w A R s h => by
    obtain ⟨hp, g, d, tk, os⟩ := s; obtain ⟨hl, h⟩ := h
    have hsub := sub_enumerate
    have hL : Heap.IsTuple (Shared.heap ⟨hp, g, d, tk, os⟩) l items := ⟨_, hl, rfl, n, rfl⟩
    wp_walk using AutoSeq1.wpAny_loadPart' hl
    refine wpAny_stack_any fun st => wpAny_pure ?_
    split
    · rename_i c _ _ _ _ _
      cases (c == Value.type "enumerate")
      · wp_walk using AutoSeq1.wpAny_loadPart' hl, wpAny_pyIter_tuple hL
        exact ⟨_, rfl, h⟩
      · wp_walk using AutoSeq1.wpAny_loadPart' hl, wpAny_pyIter_tuple hL
        exact ⟨_, rfl, h⟩
    · wp_walk using AutoSeq1.wpAny_loadPart' hl, wpAny_pyIter_tuple hL
      exact ⟨_, rfl, h⟩
section
variable {prog : Program} {w : World} {A : Around} {E : Value → Shared → Prop} {s : Shared}
theorem call_enumerate_tuple {l : Addr} {items : Array Value} {Q : Value → Shared → Prop} (hL : s.heap.IsTuple l items)
    (h : ∀ h', IsEnum h' (s.heap.objs.size + 1) s.heap.objs.size 0 .none → h'.IsTupleIter s.heap.objs.size l 0 → h'.objs.size = s.heap.objs.size + 2 →
      (∀ b o, s.heap.get? b = some o → h'.get? b = some o) → Q (.ref (s.heap.objs.size + 1)) { s with heap := h' }) :
    wpAny (model prog w) A (call (.type "enumerate") [.ref l]) Q E s := by
  obtain ⟨⟨c, dct, dt, sl⟩, hl, hc, n, hd⟩ := hL
  replace hc : c = .type "tuple" := hc
  replace hd : dt = .seq items n := hd
  subst hc hd
  refine callType_new F.called_enumerate (by decide) (F.typeCall_enumerate_1 _) (F.newCall_enumerate_1 _) (fun obj => F.args_object_init_2 obj _) F.entry_enumerate_new
    (meets_enumerate_newT l items n dct sl) ⟨hl, ?_⟩
  have hz : (s.heap.push { cls := .type "tuple_iterator", data := .fields #[.ref l, .int 0 0] }).objs.size = s.heap.objs.size + 1 := Heap.size_push ..
  show _ ∧ _
  rw [hz]
  have he : IsEnum ((s.heap.push { cls := .type "tuple_iterator", data := .fields #[.ref l, .int 0 0] }).push
      { cls := .type "enumerate", data := .fields #[.none, .bool false, .ref s.heap.objs.size, rawInt 0, .none, .none] }) (s.heap.objs.size + 1) s.heap.objs.size 0 .none := by
    have := Heap.get?_push_size (s.heap.push { cls := .type "tuple_iterator", data := .fields #[.ref l, .int 0 0] })
      (o := { cls := .type "enumerate", data := .fields #[.none, .bool false, .ref s.heap.objs.size, rawInt 0, .none, .none] }) rfl
    rw [hz] at this; exact this
  refine ⟨⟨_, he, rfl⟩, h _ he ⟨_, Heap.get?_push_of_some _ (Heap.get?_push_size _ rfl), rfl, rfl⟩ (by rw [Heap.size_push, hz]) fun b o x => Heap.get?_push_of_some _ (Heap.get?_push_of_some _ x)⟩
end
theorem call_enumG {X : Cx} {pins : List (Addr × Obj)} {σ : L2.St} {H : Hp} {s : Shared} {k : SK} {v : V} {u : Value} {xs : List V} {Q : Value → Shared → Prop} {E : Value → Shared → Prop} (I : Inv X pins σ H s) (rv : RelV v u) (q : SrcK X.K H k v xs)
    (h : (∀ a, v = .ref a → a < s.heap.objs.size) → ∀ h', IsEnum h' (s.heap.objs.size + 1) s.heap.objs.size 0 .none → ItK s.heap.objs.size k u 0 h' → (∀ b o, s.heap.get? b = some o → h'.get? b = some o) → Q (.ref (s.heap.objs.size + 1)) { s with heap := h' }) :
    wpAny (model X.prog X.w) X.A (call (.type "enumerate") [u]) Q E s := by
  cases k with
  | l =>
    obtain ⟨a, rfl, hq⟩ := q
    cases rv
    obtain ⟨its, r, p, _⟩ := I.list hq
    exact call_enumerate_list p.isList fun h' he hit _ hk => h (fun b e => by cases e; exact p.lt) h' he ⟨a, rfl, hit⟩ hk
  | t =>
    obtain ⟨a, rfl, hq⟩ := q
    cases rv
    obtain ⟨its, r, p, _⟩ := I.tuple hq
    have hl : a < s.heap.objs.size := by obtain ⟨o, ho, _⟩ := id p; exact Heap.lt_size ho
    exact call_enumerate_tuple (show s.heap.IsTuple a its.toArray from p) fun h' he hit _ hk => h (fun b e => by cases e; exact hl) h' he ⟨a, rfl, hit⟩ hk
  | s =>
    obtain ⟨z, rfl, rfl⟩ := q
    obtain ⟨t, rfl⟩ := rv
    exact call_enumerate_str fun h' he hit _ hk => h (fun b e => (by cases e)) h' he ⟨z, t, rfl, hit⟩ hk
def iEnumG (K : PySem.W.Frag) (ta : TA) : TI := fun σ H R => ta σ H fun vs H1 => ∃ k v xs, vs = [v] ∧ SrcK K H1 k v xs ∧ R (IteG K k v) H1
theorem pi_enumG {X : Cx} {e : Expr} {ta : TA} {p pos tpos : Pos} {elts : List Expr} {kk : Nat} (hg : Gl X "enumerate") (hm : X.mg "enumerate" = none) (ha : PA X [e] ta) (hs : starEach [e] X.env = [(false, eval e X.env)] := by rfl) :
    PI X (.Tuple elts kk tpos) (.Call (.Name "enumerate" p) [e] [] pos) (iEnumG X.K ta) := by
  refine ⟨fun pins s σ H R I h => ?_⟩
  refine Call_ (ld_blt I hg hm boot_enumerate (PyProof.Rows.callWith_type1 (thn (ha.run pos pins s σ H _ I h) fun us s1 ⟨vs, H1, I1, r1, q1⟩ => ?_) hs rfl))
  obtain ⟨k, v, xs, ex, hq, q⟩ := q1
  subst ex
  cases r1 with
  | cons r rr =>
    cases rr
    refine call_enumG I1 r hq fun hlt h' he hit hk => wpAny_pyIter_enum he ?_
    have I2 : Inv X pins σ H1 { s1 with heap := h' } := I1.kept (t' := s1.toks) hk
    refine ⟨s1.heap.objs.size + 1, [s1.heap.objs.size + 1, s1.heap.objs.size], _, _, H1, rfl, I2, turn_enumG r (s1.heap.objs.size + 1) s1.heap.objs.size (Nat.succ_ne_self _) (fun a e => ?_), ⟨⟨.none, he⟩, hit⟩, fun b hb => ?_, q⟩
    · have := hlt a e
      exact ⟨Nat.ne_of_lt (Nat.lt_succ_of_lt this), Nat.ne_of_lt this⟩
    · have e' : b = s1.heap.objs.size + 1 ∨ b = s1.heap.objs.size := by simpa using hb
      have hle : s1.heap.objs.size ≤ b := by
        rcases e' with z | z
        · rw [z]; exact Nat.le_add_right _ _
        · rw [z]; exact Nat.le_refl _
      exact I1.fpOk hle (I1.hok.fresh hle)
/-! zip -/
def ItzG (K : PySem.W.Frag) (k1 : SK) (v1 : V) (k2 : SK) (v2 : V) : L2.It :=
  ⟨fun i H => ∃ (xs ys : List V) (x y : V), SrcK K H k1 v1 xs ∧ SrcK K H k2 v2 ys ∧ xs[i]? = some x ∧ ys[i]? = some y,
    fun i H v H' => ∃ T x y, v = .ref T ∧ H T = none ∧ H' = upd H T (.tup [x, y]) ∧ (∀ xs, SrcK K H k1 v1 xs → xs[i]? = some x) ∧ ∀ ys, SrcK K H k2 v2 ys → ys[i]? = some y,
    fun i H => ∃ xs ys : List V, SrcK K H k1 v1 xs ∧ SrcK K H k2 v2 ys ∧ i = min xs.length ys.length⟩
theorem turn_zipG {P : Program} {w : World} {K : PySem.W.Frag} {elts : List Expr} {kk : Nat} {tpos : Pos} {k1 k2 : SK} {v1 v2 : V} {u1 u2 : Value} (rv1 : RelV v1 u1) (rv2 : RelV v2 u2) (n : Nat) (ha : ∀ a : Nat, v1 = .ref a ∨ v2 = .ref a → a < n) :
    Turn P w K (.Tuple elts kk tpos) (ItzG K k1 v1 k2 v2) [n + 4, n + 2, n + 3, n, n + 1] (n + 4) (fun i h => IsZip h (n + 4) (n + 2) (n + 3) .none ∧ IsTupOf2 h (n + 2) (.ref n) (.ref (n + 1)) ∧ (∃ x y, IsTupOf2 h (n + 3) x y) ∧ ItK n k1 u1 i h ∧ ItK (n + 1) k2 u2 i h) where
  mem := by simp
  obj := fun i h st c hc => by
    obtain ⟨hz, hTI, ⟨x, y, hTO⟩, h1, h2⟩ := st
    have e' : c = n + 4 ∨ c = n + 2 ∨ c = n + 3 ∨ c = n ∨ c = n + 1 := by simpa using hc
    rcases e' with q | q | q | q | q
    · rw [q]; exact ⟨_, hz, fun v q => nomatch q⟩
    · rw [q]; exact ⟨_, hTI, fun v q => nomatch q⟩
    · rw [q]; exact ⟨_, hTO, fun v q => nomatch q⟩
    · rw [q]; exact itK_obj h1
    · rw [q]; exact itK_obj h2
  keep := fun i h h' st k => by
    obtain ⟨hz, hTI, ⟨x, y, hTO⟩, h1, h2⟩ := st
    exact ⟨k _ (by simp) _ hz, k _ (by simp) _ hTI, ⟨x, y, k _ (by simp) _ hTO⟩, itK_at h1 fun o q => k n (by simp) o q, itK_at h2 fun o q => k (n + 1) (by simp) o q⟩
  item := by
    intro X hP hw hK hc i pins s σ H E I hf st hg
    subst hP hw hK
    obtain ⟨hz, hTI, ⟨x0, y0, hTO⟩, h1, h2⟩ := st
    obtain ⟨xs, ys, x, y, hqx, hqy, hx, hy⟩ := hg
    obtain ⟨fp1, P1, St1, D1, mi1, mf1, pd1, hst1, back1⟩ := draws_of I (I.ok.hd hc) rv1 hqx h1 (fun a q => Nat.ne_of_lt (ha a (.inl q)))
    obtain ⟨fp2, P2, St2, D2, mi2, mf2, pd2, hst2, back2⟩ := draws_of I (I.ok.hd hc) rv2 hqy h2 (fun a q => Nat.ne_of_lt (Nat.lt_succ_of_lt (ha a (.inr q))))
    have lt1 : i < xs.length := (List.getElem?_eq_some_iff.mp hx).1
    have lt2 : i < ys.length := (List.getElem?_eq_some_iff.mp hy).1
    have b1 : ∀ b : Nat, b ∈ fp1 → b ≤ n := fun b hb => (mf1 b hb).elim (fun z => Nat.le_of_eq z) fun z => Nat.le_of_lt (ha b (.inl z))
    have b2 : ∀ b : Nat, b ∈ fp2 → b < n ∨ b = n + 1 := fun b hb => (mf2 b hb).elim .inr fun z => .inl (ha b (.inr z))
    have S : ZipSep2 (n + 4) (n + 2) (n + 3) n (n + 1) fp1 fp2 := ⟨an (by omega), an (by omega), an (by omega), an (by omega), mi1, fun z => by have := b1 _ z; omega, fun z => by have := b1 _ z; omega, an (by omega), mi2, fun z => by have := b2 _ z; omega, fun z => by have := b2 _ z; omega, fun z => by have := b2 _ z; omega, fun z => by have := b1 _ z; omega⟩
    have hzl : n + 4 < s.heap.objs.size := Heap.lt_size hz
    refine wpAny_pyNext_zipD2_item S D1 D2 hz hTI hTO hst1 hst2 lt1 lt2 fun w1 w2 h' tk p1 p2 z' TO' s1' s2' hT hsz hk => ?_
    obtain ⟨x', hx', rx⟩ := pd1 _ _ p1
    rw [hx] at hx'
    cases hx'
    obtain ⟨y', hy', ry⟩ := pd2 _ _ p2
    rw [hy] at hy'
    cases hy'
    refine ⟨_, rfl, wpAny_letOwnedTupleGo_zip (s := { s with heap := h', toks := tk }) z' fun h'' z'' sb => ?_⟩
    have hT2 : h''.get? s.heap.objs.size = some { cls := .type "tuple", data := .seq #[w1, w2] } := (sb.2 _ (Nat.ne_of_gt hzl)).trans hT
    have new : ObjOk X.prog X.w (upd H s.heap.objs.size (.tup [x, y])) h'' s.heap.objs.size (.tup [x, y]) :=
      ⟨by show 2 ≤ sizeLine; decide, [w1, w2], .cons rx (.cons ry .nil), ⟨_, hT2, rfl, _, rfl⟩⟩
    have I1 : Inv X pins σ (upd H s.heap.objs.size (.tup [x, y])) { s with heap := h'', toks := tk } :=
      I.turnedNew (ch := [n + 4, n + 2, n + 3, n, n + 1]) (fun c o hb q => (sb.2 c (fun q' => hb (by simp [q']))).trans (hk c o (fun q' => hb (by simp [q'])) (fun q' => hb (by simp [q'])) (fun q' => hb (by simp [q'])) (fun q' => hb (by simp [q'])) q)) hf (Nat.le_refl _) new
    refine ⟨.ref s.heap.objs.size, _, I1, rfl, ⟨_, x, y, rfl, I.hok.fresh (Nat.le_refl _), rfl, fun l hl => by rw [src_inj I hl hqx]; exact hx, fun l hl => by rw [src_inj I hl hqy]; exact hy⟩, ⟨z'', ?_, ⟨w1, w2, ?_⟩, ?_, ?_⟩, fun c hcm => ?_⟩
    · exact (sb.2 _ (an (by omega))).trans (hk _ _ (an (by omega)) (an (by omega)) (an (by omega)) (an (by omega)) hTI)
    · exact (sb.2 _ (an (by omega))).trans TO'
    · exact itK_at (back1 _ _ s1') fun o q => (sb.2 n (an (by omega))).trans q
    · exact itK_at (back2 _ _ s2') fun o q => (sb.2 (n + 1) (an (by omega))).trans q
    · have hlt : (c : Nat) < s.heap.objs.size := by
        have hzl : n + 4 < s.heap.objs.size := hzl
        have key : ∀ c s : Nat, c = n + 4 ∨ c = n + 2 ∨ c = n + 3 ∨ c = n ∨ c = n + 1 → n + 4 < s → c < s := fun c s h1 h2 => by omega
        exact key c _ (by simpa using hcm) hzl
      rw [upd_ne (Nat.ne_of_lt hlt)]
      exact (hf c hcm).1
  done := by
    intro X hP hw hK hc i pins s σ H E I hf st hg
    subst hP hw hK
    obtain ⟨hz, hTI, ⟨x0, y0, hTO⟩, h1, h2⟩ := st
    obtain ⟨xs, ys, hqx, hqy, hend⟩ := hg
    obtain ⟨fp1, P1, St1, D1, mi1, mf1, pd1, hst1, back1⟩ := draws_of I (I.ok.hd hc) rv1 hqx h1 (fun a q => Nat.ne_of_lt (ha a (.inl q)))
    obtain ⟨fp2, P2, St2, D2, mi2, mf2, pd2, hst2, back2⟩ := draws_of I (I.ok.hd hc) rv2 hqy h2 (fun a q => Nat.ne_of_lt (Nat.lt_succ_of_lt (ha a (.inr q))))
    have b1 : ∀ b : Nat, b ∈ fp1 → b ≤ n := fun b hb => (mf1 b hb).elim (fun z => Nat.le_of_eq z) fun z => Nat.le_of_lt (ha b (.inl z))
    have b2 : ∀ b : Nat, b ∈ fp2 → b < n ∨ b = n + 1 := fun b hb => (mf2 b hb).elim .inr fun z => .inl (ha b (.inr z))
    have S : ZipSep2 (n + 4) (n + 2) (n + 3) n (n + 1) fp1 fp2 := ⟨an (by omega), an (by omega), an (by omega), an (by omega), mi1, fun z => by have := b1 _ z; omega, fun z => by have := b1 _ z; omega, an (by omega), mi2, fun z => by have := b2 _ z; omega, fun z => by have := b2 _ z; omega, fun z => by have := b2 _ z; omega, fun z => by have := b1 _ z; omega⟩
    exact wpAny_pyNext_zipD2_end S D1 D2 hz hTI hTO hst1 hst2 (by omega) (by omega) (by omega) fun h' tk hk => ⟨rfl, I.turnedL (t' := tk) (ch := [n + 4, n + 2, n + 3, n, n + 1]) (fun c o hb q =>
      hk c o (fun q' => hb (by simp [q'])) (fun q' => hb (by simp [q'])) (fun q' => hb (by simp [q'])) (fun q' => hb (by simp [q'])) q) hf⟩
  self := fun A i s Q E st h => wpAny_pyIter_zip st.1 h
def iZipG (K : PySem.W.Frag) (ta : TA) : TI := fun σ H R => ta σ H fun vs H1 => ∃ k1 v1 xs k2 v2 ys, vs = [v1, v2] ∧ SrcK K H1 k1 v1 xs ∧ SrcK K H1 k2 v2 ys ∧ R (ItzG K k1 v1 k2 v2) H1
theorem pi_zipG {X : Cx} {e e2 : Expr} {ta : TA} {p pos tpos : Pos} {elts : List Expr} {kk : Nat} (hg : Gl X "zip") (hm : X.mg "zip" = none) (ha : PA X [e, e2] ta)
    (hs : starEach [e, e2] X.env = (false, eval e X.env) :: starEach [e2] X.env := by rfl) (hpl : (backTo pos (starEach [e2] X.env)).any (·.1) = false := by rfl) :
    PI X (.Tuple elts kk tpos) (.Call (.Name "zip" p) [e, e2] [] pos) (iZipG X.K ta) := by
  refine ⟨fun pins s σ H R I h => ?_⟩
  refine Call_ (ld_blt I hg hm PyProof.Rows.boot_zip (PyProof.Rows.callWith_type1 (thn (ha.run pos pins s σ H _ I h) fun us s1 ⟨vs, H1, I1, r1, q1⟩ => ?_) hs hpl))
  obtain ⟨k1, v1, xs, k2, v2, ys, ex, hqx, hqy, q⟩ := q1
  subst ex
  cases r1 with
  | cons r rr =>
    cases rr with
    | cons r' rr =>
      cases rr
      obtain ⟨o1, H1', B1, hb1, l1, k1'⟩ := begins_of I1 r hqx
      obtain ⟨o2, H2', B2, hb2, l2, k2'⟩ := begins_of I1 r' hqy
      refine zip_begins2 B1 B2 hb1 hb2 fun h' hz hTI hTO g1 g2 hsz hk => wpAny_pyIter_zip hz ?_
      have I2 : Inv X pins σ H1 { s1 with heap := h' } := I1.kept (t' := s1.toks) hk
      refine ⟨s1.heap.objs.size + 4, [s1.heap.objs.size + 4, s1.heap.objs.size + 2, s1.heap.objs.size + 3, s1.heap.objs.size, s1.heap.objs.size + 1], _, _, H1, rfl, I2, turn_zipG r r' s1.heap.objs.size (fun a e => e.elim (l1 a) (l2 a)), ⟨hz, hTI, ⟨_, _, hTO⟩, k1' _ _ g1, k2' _ _ g2⟩, fun c hcm => ?_, q⟩
      have e' : c = s1.heap.objs.size + 4 ∨ c = s1.heap.objs.size + 2 ∨ c = s1.heap.objs.size + 3 ∨ c = s1.heap.objs.size ∨ c = s1.heap.objs.size + 1 := by simpa using hcm
      have hle : s1.heap.objs.size ≤ c := by
        rcases e' with z | z | z | z | z
        · rw [z]; exact Nat.le_add_right _ _
        · rw [z]; exact Nat.le_add_right _ _
        · rw [z]; exact Nat.le_add_right _ _
        · rw [z]; exact Nat.le_refl _
        · rw [z]; exact Nat.le_add_right _ _
      exact I1.fpOk hle (I1.hok.fresh hle)
/-! walked -/
theorem walk_enumG {K : PySem.W.Frag} {k : SK} {v : V} {xs : List V} : Walk (IteG K k v) xs.length (fun H => SrcK K H k v xs) (YPair (fun i => some (.int (i : Nat))) (fun i => xs[i]?)) := by
  refine ⟨fun i _ hi q => ⟨xs, xs[i], q, by simp [hi]⟩, fun _ q => ⟨xs, q, rfl⟩, fun i H u H' _ q y => ?_⟩
  obtain ⟨T, x, h1, h2, h3, h4⟩ := y
  exact ⟨T, .int (i : Nat), x, h1, h2, h3, rfl, h4 xs q⟩
theorem walk_zipG {K : PySem.W.Frag} {k1 k2 : SK} {v1 v2 : V} {xs ys : List V} {n : Nat} (hn : n = min xs.length ys.length) : Walk (ItzG K k1 v1 k2 v2) n (fun H => SrcK K H k1 v1 xs ∧ SrcK K H k2 v2 ys) (YPair (fun i => xs[i]?) (fun i => ys[i]?)) := by
  subst hn
  refine ⟨fun i _ hi q => ?_, fun _ q => ⟨xs, ys, q.1, q.2, rfl⟩, fun i H v H' _ q y => ?_⟩
  · have h1 : i < xs.length := by omega
    have h2 : i < ys.length := by omega
    exact ⟨xs, ys, xs[i], ys[i], q.1, q.2, by simp [h1], by simp [h2]⟩
  · obtain ⟨T, x, z, h1, h2, h3, h4, h5⟩ := y
    exact ⟨T, x, z, h1, h2, h3, h4 xs q.1, h5 ys q.2⟩
theorem srcK_same {K : PySem.W.Frag} {H H' : Hp} {k : SK} {v : V} {xs : List V} (e : Same H H') (h : SrcK K H k v xs) : SrcK K H' k v xs := by
  cases k with
  | l => obtain ⟨a, rfl, q⟩ := h; exact ⟨a, rfl, q.elim (fun z => .inl (rd_same e z)) .inr⟩
  | t => obtain ⟨a, rfl, q⟩ := h; exact ⟨a, rfl, sqT_same e q⟩
  | s => exact h
end Pv

set_option maxRecDepth 100000
set_option maxHeartbeats 1000000
namespace Pv
open PySem L2 ZB PySem.Spec PyProof.Rows PySem.Builtin
section
variable {prog : Program} {w : World} {A : Around} {E : Value → Shared → Prop} {s : Shared}
theorem hint_str {x : Str} {t : Tok} {Q : Bool → Shared → Prop} (h : Q false s) : wpAny (model prog w) A (Builtin.List.listLengthHint (.str x t)) Q E s := by
  have hT : s.TypeIs (.str x t) "str" := typeIs_str s x t
  unfold Builtin.List.listLengthHint
  refine wpAny_bind (wpAny_specialOf hT F.slot_str_len.lookup ?_)
  generalize hid : ("str.__len__" : String) = id0
  wp_delta
  rw [show splitId id0 = some ("str", "__len__") from by subst hid; decide +kernel]
  subst hid
  refine wpAny_bind (wpAny_isInstance (T := "str") (b := true) hT (by rw [isSubtype_type]; kernel_rfl) ?_)
  refine wpAny_ite_split (fun hab => absurd hab (by decide)) (fun _ => ?_)
  refine wpAny_ite_split (fun _ => ?_) (fun hab => absurd (by decide +kernel) hab)
  refine wpAny_bind (wpAny_typeOf hT ?_)
  exact wpAny_pure h
theorem extend_str {R : Result → Shared → Prop} (hh : A.handled = none) (x : Str) (t : Tok) (S : Addr) (res : Value) (c₀ : Nat) (hS : s.heap.get? S = some { cls := .type "list", data := .seq #[] c₀ })
    (hR : ∀ h' tk acc' c', (∀ b o, b ≠ S → s.heap.get? b = some o → h'.get? b = some o) → h'.get? S = some { cls := .type "list", dict := none, data := .seq acc' c', slots := #[] } →
      ItemsOf (SignAt x) acc' x.cps.size → R (.ok (.ret res)) { s with heap := h', toks := tk }) (hn : x.cps.size ≤ sizeLine) :
    wpAny (model prog w) A.in1 (Builtin.List.listExtendWith (.ref S) (.str x t) res)
      (fun fin s' => match fin with | .done f => R (.ok f) s' | .again c' => c'.quiet = true ∧ codeAny (model prog w) A c' R s') (fun e s' => R (.error e) s') s := by
  have hSI : S ≠ s.heap.objs.size := Nat.ne_of_lt (Heap.lt_size hS)
  have hSf : S ∉ [s.heap.objs.size] := fun hm => hSI (List.mem_singleton.mp hm)
  unfold Builtin.List.listExtendWith
  refine wpAny_bind (wpAny_typeOf (T := "str") (v := .str x t) (typeIs_str s x t) ?_)
  have h1 : Builtin.List.listSameRef (.ref S) (.str x t) = false := rfl
  have h2 : (Value.type "str" == Value.type "list") = false := by decide
  have h3 : (Value.type "str" == Value.type "tuple") = false := by decide
  simp only [h1, h2, h3, Bool.or_false, Bool.false_eq_true, if_false]
  refine wpAny_bind (wpAny_pyIter_str fun o St W0 hst => ?_)
  refine wpAny_bind (wpAny_holding (hint_str ?_))
  rw [if_neg (by first | decide | decide +kernel)]
  have W := W0 A.in1 hh
  refine wpAny_pure ⟨plainId_quiet PySem.F.plain_extend_loop _, codeAny_extend_loopS W.toS hn _ hSf _ x.cps.size 0 _ _ _ rfl (Nat.zero_le _) hst (Heap.get?_push_of_some _ hS) (ItemsOf.nil _) fun s' acc' c' hm hS' hacc => ?_⟩
  rw [Moved.eq_with hm]
  refine hR s'.heap s'.toks acc' c' (fun b ob hb e => hm.heap b ob (fun hmem => ?_) (Heap.get?_push_of_some _ e)) hS' hacc
  rcases List.mem_cons.mp hmem with e' | hmem
  · exact hb e'
  · exact absurd (Heap.lt_size e) (by rw [List.mem_singleton.mp hmem]; exact Nat.lt_irrefl _)
theorem list_init_str {R : Result → Shared → Prop} (hh : A.handled = none) (x : Str) (t : Tok) (S : Addr) (hS : s.heap.get? S = some { cls := .type "list", data := .seq #[] })
    (hR : ∀ h' tk acc' c', (∀ b o, b ≠ S → s.heap.get? b = some o → h'.get? b = some o) → h'.get? S = some { cls := .type "list", dict := none, data := .seq acc' c', slots := #[] } →
      ItemsOf (SignAt x) acc' x.cps.size → R (.ok (.ret .none)) { s with heap := h', toks := tk }) (hn : x.cps.size ≤ sizeLine) :
    wpAny (model prog w) A.in1 (Builtin.«list.__init__» ⟨[.ref S, .str x t], []⟩)
      (fun fin s' => match fin with | .done f => R (.ok f) s' | .again c' => c'.quiet = true ∧ codeAny (model prog w) A c' R s') (fun e s' => R (.error e) s') s := by
  show wpAny _ _ (do let old ← Builtin.List.listItems (.ref S); Builtin.List.listUpdate (.ref S) (fun _ => #[]); letGo old.toList.reverse; Builtin.List.listExtendWith (.ref S) (.str x t) .none) _ _ s
  refine wpAny_bind ?_
  unfold Builtin.List.listItems
  refine wpAny_bind (wpAny_seqItems hS rfl (wpAny_pure ?_))
  show wpAny _ _ (updateSeq S (fun _ => #[]) >>= fun _ => letGo (#[] : Array Value).toList.reverse >>= fun _ => Builtin.List.listExtendWith (.ref S) (.str x t) .none) _ _ s
  refine wpAny_bind (wpAny_updateSeq hS rfl ?_)
  have hS₂ := Heap.get?_update_self (Obj.mapSeq (fun _ => (#[] : Array Value))) hS rfl
  have oth : ∀ b o, b ≠ S → s.heap.get? b = some o → (s.heap.update S (Obj.mapSeq (fun _ => (#[] : Array Value)))).get? b = some o :=
    fun b o hb e => (Heap.get?_update_other _ _ (Ne.symm hb)).trans e
  refine wpAny_bind (wpAny_letGo ?_)
  refine extend_str hh x t S .none _ hS₂ (fun h' tk acc' c' hk hS' hacc => ?_) hn
  exact hR h' tk acc' c' (fun b o hb e => hk b o hb (oth b o hb e)) hS' hacc
theorem call_list_str {x : Str} {t : Tok} {Q : Value → Shared → Prop} (hh : A.handled = none) (hn : x.cps.size ≤ sizeLine)
    (hQ : ∀ h' tk acc' c', (∀ b o, s.heap.get? b = some o → h'.get? b = some o) →
      h'.get? s.heap.objs.size = some { cls := .type "list", dict := none, data := .seq acc' c', slots := #[] } → ItemsOf (SignAt x) acc' x.cps.size → Q (.ref s.heap.objs.size) { s with heap := h', toks := tk }) :
    wpAny (model prog w) A (call (.type "list") [.str x t]) Q E s := by
  refine callType_codes (Q₁ := fun obj s₁ => obj = .ref s.heap.objs.size ∧ s₁ = { s with heap := s.heap.push { cls := .type "list", data := .seq #[] } }) PySem.F.called_list (PySem.F.typeCall_list_1 _) PySem.F.entry_list_init
    (code_list_new _ ⟨rfl, rfl⟩) fun obj s₁ h₁ => ?_
  obtain ⟨rfl, rfl⟩ := h₁
  have hS : (s.heap.push { cls := .type "list", data := .seq #[] }).get? s.heap.objs.size = some { cls := .type "list", data := .seq #[] } := Heap.get?_push_size _ rfl
  refine ⟨⟨_, hS, rfl⟩, PySem.F.args_list_init_2 _ _, list_init_str (A := A.in1) hh x t _ hS (fun h' tk acc' c' hk hS' hacc => ?_) hn⟩
  exact ⟨rfl, hQ h' tk acc' c' (fun b o e => hk b o (Nat.ne_of_lt (Heap.lt_size e)) (Heap.get?_push_of_some _ e)) hS' hacc⟩
end
/-- list(x), x a text -/
theorem cr_listS {X : Cx} (hc : X.calm = true) : CallR X (.type "list") (fun xs H Q => ∃ x : Str, xs = [.str x] ∧ x.length ≤ sizeLine ∧ ∀ p, H p = none → Q (.ref p) (upd H p (.lst (x.cps.toList.map fun c => V.str ⟨#[c]⟩)))) := by
  intro pins s σ H xs us Q I r h
  obtain ⟨x, e, hz, q⟩ := h
  subst e
  obtain ⟨u, eu, t, rfl⟩ := vals1 r
  subst eu
  refine call_list_str (I.ok.hd hc) hz fun h' tk acc c' hk e hi => ?_
  refine ⟨.ref s.heap.objs.size, upd H s.heap.objs.size (.lst (x.cps.toList.map fun c => V.str ⟨#[c]⟩)), I.laid hk (Nat.le_refl _) ⟨by rw [List.length_map, Array.length_toList]; exact hz, acc.toList, c', ?_, by rw [Array.toArray_toList]; exact e⟩, rfl, q _ (I.hok.fresh (Nat.le_refl _))⟩
  refine vals_of_idx _ _ (by rw [List.length_map, Array.length_toList, Array.length_toList]; exact hi.1) fun j u hj => ?_
  obtain ⟨c, t', hc, rfl⟩ := hi.2 j u (by rw [← Array.getElem?_toList]; exact hj)
  exact ⟨.str ⟨#[c]⟩, by rw [List.getElem?_map, Array.getElem?_toList, hc]; rfl, ⟨_, rfl⟩⟩
end Pv

set_option maxRecDepth 100000
set_option maxHeartbeats 2000000
/-! len(set(xs)) of texts; a def read off a class and called; x is True -/
namespace Pv
open PySem PySem.Spec PyProof.Rows L2
/-! ### x is b -/
section
variable {X : Cx}
theorem is_bl {M : Model} {A : Around} {E : Value → Shared → Prop} {s : Shared} (a b : Bool) {R : Bool → Shared → Prop} (q : R (a == b) s) : wpAny M A (isSame (.bool a) (.bool b)) R E s := by
  refine wpAny_isSame_plain rfl ?_
  have : (Value.bool a == Value.bool b) = (a == b) := by cases a <;> cases b <;> rfl
  rw [this]
  exact q
theorem op_isB : OpR X (compareOp .Is) (fun x y H Q => ∃ a b, x = .bl a ∧ y = .bl b ∧ Q (.bl (a == b)) H) := by
  intro pins s σ H x y v u Q I rx ry h
  obtain ⟨a, b, rfl, rfl, q⟩ := h
  cases rx
  cases ry
  show wpAny _ _ ((isSame (Value.bool a) (Value.bool b)) >>= fun z => pure (Value.bool z)) _ _ s
  exact wpAny_bind (is_bl a b (wpAny_pure (fin_bl I q rfl)))
end
/-! ### a def read off a class -/
/-- C.m is the plain def at f -/
structure ClsFn (K : PySem.W.Frag) (C : Addr) (m : Str) (f : Addr) : Prop where
  rd : PySem.W.readsIn K C (.type "type") = true
  ga : PySem.W.specialIn K (.ref C) "__getattribute__" = some (some (.builtin "type.__getattribute__"))
  at_ : PySem.W.findCls K (.ref C) (.type "type") m = some (.val (.ref f))
  kp : PySem.W.keepIn K (.ref f) = true
/-- C.m(..), m a plain def of the class at C -/
def tClsFn (C : Addr) (sp : Sp) (E : XK) (ta : TE) (t : TA) : TE := fun σ H Q => ta σ H fun x H1 => x = .ref C ∧ t σ H1 fun vs H2 => sp vs H2 Q E
section
variable {X : Cx} {CX : CXT} {k : Nat} {C f : Addr} {fd : FuncData} {ps : List Str} {sp : Sp} {E : XK} {o e : Expr} {es : List Expr} {m : Str} {pos apos : Pos} {ta : TE} {t : TA} {pl : Sem Bool}
theorem pe_clsfn (he : PE X o ta) (r : ClsFn X.K C m f) (F : FnOk X.prog X.w X.K X.mg X.base CX k f fd ps sp) (hb : Binds X.K fd ps []) (hr : Room k X.A) (hx : Passes CX X E) (ha : PA X (e :: es) t)
    (hst : starEach (e :: es) X.env = (false, eval e X.env) :: starEach es X.env := by rfl) (hpl : (backTo pos (starEach es X.env)).any (·.1) = false := by rfl)
    (ht : eval (.Call (.Attribute o m apos) (e :: es) [] pos) X.env = (do
      let ov ← eval o X.env
      standAt apos.atName
      let (f, first) ← holding [ov] (getMethod ov m pl)
      callWith pos f first (backTo pos (starEach (e :: es) X.env)) (backToKw pos (keywordEach [] X.env))) := by rfl) :
    PE X (.Call (.Attribute o m apos) (e :: es) [] pos) (tClsFn C sp E ta t) := by
  refine ⟨fun pins s σ H Q I h => ?_⟩
  refine PySem.W.methodCall_KW (pl := pl) (thn (he.run pins s σ H _ I h) fun u s1 ⟨x, H1, I1, rx, ex, q⟩ => ?_) ht
  subst ex
  obtain rfl : u = Value.ref C := rx
  refine PySem.W.method_cls I1.kIn r.ga (PySem.W.cls_value I1.kIn r.rd r.at_ rfl ?_)
  refine PySem.W.callWith_K (first := []) (h₀ := X.base) I1.ok.mod.kin r.kp (thn (ha.run pos pins _ σ H1 _ (I1.tok _) q) fun us s2 ⟨vs, H2, I2, rr, q2⟩ => ⟨I2.kIn, ?_⟩) hst hpl
  have := run_fn (us := us) (vs := vs) (dvs := []) (ds := []) F hr hb .nil hx I2 rr (by rw [List.append_nil]; exact q2)
  exact this
end
/-! ### sets of texts -/
def ddS (xs : List Str) : List Str := xs.foldl (fun acc x => if acc.any (· == x) then acc else acc ++ [x]) []
theorem ddS_snoc (xs : List Str) (x : Str) : ddS (xs ++ [x]) = if (ddS xs).any (· == x) then ddS xs else ddS xs ++ [x] := by
  unfold ddS
  rw [List.foldl_append]
  rfl
theorem ddS_len : ∀ (xs : List Str) (i : Nat), (ddS (xs.take i)).length ≤ i := by
  intro xs i
  induction i with
  | zero => simp [ddS]
  | succ i ih =>
    cases e : xs[i]? with
    | none =>
      rw [List.take_add_one, e, Option.toList_none, List.append_nil]
      omega
    | some x =>
      rw [List.take_add_one, e, Option.toList_some, ddS_snoc]
      split
      · omega
      · rw [List.length_append, List.length_singleton]; omega
theorem dd_any (acc : List Str) (x k : Str) : (acc.any (· == k) || decide (k = x)) = (if acc.any (· == x) then acc else acc ++ [x]).any (· == k) := by
  by_cases hb : acc.any (· == x) = true
  · rw [if_pos hb]
    by_cases e : k = x
    · subst e
      rw [hb, Bool.true_or]
    · rw [decide_eq_false e, Bool.or_false]
  · rw [if_neg hb, List.any_append]
    by_cases e : k = x
    · subst e
      simp
    · have : (x == k) = false := by simpa [beq_iff_eq] using (fun h : x = k => e h.symm)
      simp [e, this]
theorem dd_len (acc : List Str) (x : Str) : (if acc.any (· == x) then acc.length else acc.length + 1) = (if acc.any (· == x) then acc else acc ++ [x]).length := by
  by_cases hb : acc.any (· == x) = true
  · rw [if_pos hb, if_pos hb]
  · rw [if_neg hb, if_neg hb, List.length_append, List.length_singleton]
section
variable {prog : Program} {w : World} {A : Around} {R : PySem.Result → Shared → Prop} {I : Addr} {fp wr : List Addr} {G : Array GenState → Array GenState → Prop} {n : Nat} {P : Nat → Value → Prop} {St : Nat → Shared → Prop}
theorem loopStrs (W : WalksS prog w A.in1 I fp wr G n P St) (S : Addr) (hSf : S ∉ fp) (xs : List Str) (hsz : xs.length = n) (hn1 : n + 1 < scanBound)
    (hval : ∀ i v, P i v → ∃ t, v = .str (xs.getD i Str.empty) t) :
    ∀ (k i : Nat) (s : Shared), n - i = k → i ≤ n → St i s →
      s.heap.SetOf (PySem.strKind prog w) S (fun k' => (ddS (xs.take i)).any (· == k')) (ddS (xs.take i)).length →
      (∀ s', Moved (S :: wr) G s s' → s'.heap.SetOf (PySem.strKind prog w) S (fun k' => (ddS xs).any (· == k')) (ddS xs).length → R (.ok (.ret .none)) s') →
      codeAny (model prog w) A (.builtin "set.update.loop" ⟨[.ref S, .ref I], []⟩) R s := by
  have hSw : S ∉ wr := fun h => hSf (W.sub _ h)
  have hsub : ∀ b ∈ wr, b ∈ S :: wr := fun b hb => List.mem_cons_of_mem _ hb
  intro k
  induction k with
  | zero =>
    intro i s hk hi hst hS hR
    obtain rfl : i = n := by omega
    refine codeAny_builtin PyProof.Rows.F.entry_set_update_loop ?_
    rw [Around.under_plainId PyProof.Rows.F.plain_set_update_loop _]
    refine wpAny_bind (W.done s _ _ hst fun s' hm => ?_)
    refine wpAny_pure (hR s' (hm.mono hsub) ?_)
    rw [← hsz, List.take_length] at hS
    obtain ⟨o, es, ep, t, ho, rest⟩ := hS
    exact ⟨o, es, ep, t, hm.heap S _ hSw ho, rest⟩
  | succ k ih =>
    intro i s hk hi hst hS hR
    have hlt : i < n := by omega
    refine codeAny_builtin PyProof.Rows.F.entry_set_update_loop ?_
    rw [Around.under_plainId PyProof.Rows.F.plain_set_update_loop _]
    refine wpAny_bind (W.item i s _ _ hlt hst fun v s' hP hst' hm => ?_)
    obtain ⟨t, rfl⟩ := hval i v hP
    have hS' : s'.heap.SetOf (PySem.strKind prog w) S (fun k' => (ddS (xs.take i)).any (· == k')) (ddS (xs.take i)).length := by
      obtain ⟨o, es, ep, tb, ho, rest⟩ := hS
      exact ⟨o, es, ep, tb, hm.heap S _ hSw ho, rest⟩
    refine wpAny_bind (wpAny_holding ?_)
    unfold setAdd
    refine wpAny_holding (wpAny_bind ((PySem.strKind prog w).pyHash (k := xs.getD i Str.empty) (strKind_is _ _ _ _) ?_))
    have hl := ddS_len xs i
    refine wpAny_setAddHashed_of (knd := PySem.strKind prog w) (s := { s' with toks := s'.toks + 1 }) (strKind_is _ _ _ _) rfl hS' (by omega) fun h' hsb hS2 => ?_
    have ex : xs[i]? = some (xs.getD i Str.empty) := by
      rw [List.getD_eq_getElem?_getD, List.getElem?_eq_getElem (by omega)]
      rfl
    have e1 : ddS (xs.take (i + 1)) = if (ddS (xs.take i)).any (· == xs.getD i Str.empty) then ddS (xs.take i) else ddS (xs.take i) ++ [xs.getD i Str.empty] := by
      rw [List.take_add_one, ex, Option.toList_some, ddS_snoc]
    have hSi : h'.SetOf (PySem.strKind prog w) S (fun k' => (ddS (xs.take (i + 1))).any (· == k')) (ddS (xs.take (i + 1))).length := by
      refine SetOf_congr hS2 (fun k' => ?_) ?_
      · rw [e1]
        exact dd_any _ _ _
      · rw [e1]
        exact dd_len _ _
    refine wpAny_pure ⟨plainId_quiet PyProof.Rows.F.plain_set_update_loop _, ih (i + 1) _ (by omega) hlt (W.frame _ s' _ _ hst' (Nat.le_succ _) fun b hb o e => ?_) hSi fun s'' hm'' hS'' => ?_⟩
    · rw [hsb.2 b (fun h : b = S => hSf (by rw [← h]; exact hb))]; exact e
    · refine hR s'' (Moved.trans W.gtrans ((hm.mono hsub).then_heap (Nat.le_succ _) fun b o hb e => ?_) hm'') hS''
      rw [hsb.2 b (fun h : b = S => hb (by rw [h]; exact List.mem_cons_self))]; exact e
end
section
variable {prog : Program} {w : World} {A : Around} {E : Value → Shared → Prop} {s : Shared}
set_option maxHeartbeats 3200000 in
theorem call_set_txts {l : Addr} {items : Array Value} {xs : List Str} {Q : Value → Shared → Prop}
    (hh : A.handled = none) (hl : s.heap.IsList l items) (hi : StrsAre items.toList xs) (hn1 : xs.length + 1 < scanBound)
    (h : ∀ (h' : Heap) (tk : Nat), h'.SetOf (PySem.strKind prog w) s.heap.objs.size (fun k' => (ddS xs).any (· == k')) (ddS xs).length →
      (∀ b o, b < s.heap.objs.size → s.heap.get? b = some o → h'.get? b = some o) → Q (.ref s.heap.objs.size) { s with heap := h', toks := tk }) :
    wpAny (model prog w) A (call (.type "set") [.ref l]) Q E s := by
  obtain ⟨c, tl, hmro⟩ := PySem.F.called_set.mro
  have hmade := PySem.F.called_set.made
  have hsub := PySem.F.called_set.sub
  refine wpAny_call (codeAny_of_tree ?_)
  show wpAny _ _ (callAny (.type "set") _) _ _ _
  refine wpAny_pure ⟨Code.quiet_builtin _ (by decide +kernel), codeAny_builtin PySem.F.entry_type_call ?_⟩
  rw [Around.under_plain (weight_type_call_type "set" [.ref l] []) rfl]
  have h1 := PySem.F.called_set.notType
  have h2 := PySem.F.called_set.canCreate
  have hct := PySem.F.typeCall_set_1 (.ref l)
  repeat (any_goals (first | assumption | wp_step))
  let e0 : Bool → Obj := fun led => { cls := .type "set", dict := none, data := .set #[] 0 (.fresh 0 0 led) }
  refine codeAny_mono (code_set_new_1 (.ref l) (E := E) (Q₁ := fun obj s₁ => ∃ led : Bool, obj = .ref s.heap.objs.size ∧ s₁ = { s with heap := s.heap.push (e0 led) }) fun led => ⟨led, rfl, rfl⟩) fun r s₁ hr => ?_
  cases r with
  | error e => exact hr
  | ok fl =>
    cases fl with
    | ret obj =>
      obtain ⟨led, rfl, rfl⟩ := hr
      have hS : (s.heap.push (e0 led)).get? s.heap.objs.size = some (e0 led) := Heap.get?_push_size _ rfl
      have hT : Shared.TypeIs { s with heap := s.heap.push (e0 led) } (.ref s.heap.objs.size) "set" := ⟨_, hS, rfl⟩
      have hli := PySem.F.called_set.init.lookup
      have hbi := PySem.F.called_set.init.bind (.ref s.heap.objs.size)
      repeat (any_goals (first | assumption | wp_step))
      refine codeAny_mono (codeAny_call_builtin (R := wants (fun r s₂ => r = .none ∧ ∃ h' tk, s₂ = { s with heap := h', toks := tk } ∧
          h'.SetOf (PySem.strKind prog w) s.heap.objs.size (fun k' => (ddS xs).any (· == k')) (ddS xs).length ∧
          (∀ b o, b < s.heap.objs.size → s.heap.get? b = some o → h'.get? b = some o)) E) PySem.F.called_set.init.plain PySem.F.entry_set_init (check_set_init_1 hT ?_)) fun r₂ s₂ hr₂ => ?_
      · obtain ⟨⟨_, _, _, _⟩, hol, hcl, nl, hdl⟩ := hl
        simp only at hcl hdl
        subst hcl; subst hdl
        have hl1 : (s.heap.push (e0 led)).IsList l items := ⟨_, Heap.get?_push_of_some _ hol, rfl, nl, rfl⟩
        have hol' := Heap.get?_push_of_some (e0 led) hol
        have hsls := PySem.F.sub_list_set
        have hslf := PySem.F.sub_list_frozenset
        have hne : (Value.type "list" == Value.type "dict") = false := by decide
        unfold Builtin.«set.__init__» noKeywords Builtin.Frozenset.updateFrom
        generalize hPI : pyIter = PI
        wp_walk
        subst hPI
        refine wpAny_pyIter_list hl1 (wpAny_bind (wpAny_runValue ?_))
        have hlS : l < s.heap.objs.size := Heap.lt_size hol
        have hneI : l ≠ (s.heap.push (e0 led)).objs.size := by
          rw [Heap.size_push]; exact Nat.ne_of_lt (Nat.lt_succ_of_lt hlS)
        have hSf : s.heap.objs.size ∉ [(s.heap.push (e0 led)).objs.size, l] := by
          rw [Heap.size_push]; simp only [List.mem_cons, List.mem_singleton, List.not_mem_nil, or_false, not_or]
          exact ⟨Nat.ne_of_lt (Nat.lt_succ_self _), Nat.ne_of_gt hlS⟩
        have hsz : xs.length = items.size := by rw [← StrsAre.len_eq hi, Array.length_toList]
        refine loopStrs ((Walks.list (A := A.in1.in1.in1) (by simp [hh]) _ l hneI items).toS) s.heap.objs.size
          hSf xs hsz (by rw [← hsz]; exact hn1) (fun i v hv => SS.strs_at hi i v (by rw [Array.getElem?_toList]; exact hv)) (items.size - 0) 0 _ (by omega) (Nat.zero_le _)
          ⟨⟨_, Heap.get?_push_size _ rfl, rfl, rfl⟩, (hl1.push _)⟩ ?hS0 ?hR
        case hS0 =>
          have hget : ((s.heap.push (e0 led)).push { cls := .type "list_iterator", data := .fields #[.ref l, .int 0 0] }).get? s.heap.objs.size = some (e0 led) := Heap.get?_push_of_some _ hS
          exact SetOf_congr ((setObjOf_fresh (knd := PySem.strKind prog w) led).setOf hget (by unfold scanBound; omega)) (fun _ => rfl) rfl
        case hR =>
          intro s' hm hS'
          obtain ⟨h', g', d', tk', os'⟩ := s'
          obtain rfl : g' = s.gens := hm.gens
          obtain rfl : d' = s.drawn := hm.drawn
          obtain rfl : os' = s.os := hm.os
          refine wpAny_pure (wpAny_pure ⟨rfl, h', tk', rfl, hS', fun b o hb e => ?_⟩)
          refine hm.heap b o ?_ (Heap.get?_push_of_some _ (Heap.get?_push_of_some _ e))
          rw [Heap.size_push]
          simp only [List.mem_cons, List.mem_singleton, List.not_mem_nil, or_false, not_or]
          exact ⟨Nat.ne_of_lt hb, Nat.ne_of_lt (Nat.lt_succ_of_lt hb)⟩
      · cases r₂ with
        | error e => exact hr₂
        | ok fl₂ =>
          cases fl₂ with
          | ret r =>
            obtain ⟨rfl, h', tk, rfl, hS', hk'⟩ := hr₂
            repeat (any_goals (first | assumption | wp_step))
            exact h _ _ hS' hk'
          | _ => exact hr₂.elim
    | _ => exact hr.elim
end
theorem strs_vals : ∀ {ys : List Str} {us : List Value}, Vals (ys.map V.str) us → StrsAre us ys
  | [], _, .nil => .nil
  | y :: ys, _, .cons r t => by
    obtain ⟨k, rfl⟩ := r
    exact .cons y k (strs_vals t)
def tLenSetT (K : PySem.W.Frag) (ta : TE) : TE := fun σ H Q => ta σ H fun x H1 => ∃ (l : Addr) (ss : List Str), x = .ref l ∧ SqL K H1 l (ss.map V.str) ∧ ss.length ≤ 1000 ∧ Q (.int ((ddS ss).length : Nat)) H1
theorem pe_lenSetT {X : Cx} {a : Expr} {ta : TE} {p p2 q pos : Pos} (hg : Gl X "len") (hm : X.mg "len" = none) (hg2 : Gl X "set") (hm2 : X.mg "set" = none) (ha : PE X a ta) (hc : X.calm = true)
    (na : starEach [a] X.env = (false, eval a X.env) :: starEach [] X.env := by rfl) : PE X (.Call (.Name "len" p) [.Call (.Name "set" p2) [a] [] q] [] pos) (tLenSetT X.K ta) := by
  refine ⟨fun pins s σ H Q I h => ?_⟩
  refine Call_ (ld_blt I hg hm boot_len ?_)
  refine PyProof.Rows.callWith_builtin1 (PyProof.Rows.args_cons ?_ rfl) rfl rfl
  refine Call_ (ld_blt I hg2 hm2 boot_set ?_)
  refine PyProof.Rows.callWith_type1 (PyProof.Rows.args_cons (thn (ha.run pins s σ H _ I h) fun v s1 ⟨x, H1, I1, r1, q1⟩ => PyProof.Rows.args_nil ?_) na) na rfl
  obtain ⟨l, ss, rfl, hq, hl, q1⟩ := q1
  cases r1
  obtain ⟨its, r, pl, hz⟩ := I1.list hq
  have hb := ddS_len ss ss.length
  rw [List.take_length] at hb
  refine call_set_txts (I1.ok.hd hc) pl.isList (xs := ss) (by simpa using strs_vals r) (by unfold scanBound; omega) fun h' tk hS hk => ?_
  refine PyProof.Rows.args_nil ?_
  obtain ⟨o, es, ep, t, ho, hex, hd, _, _, _, hf, hn⟩ := hS
  have I2 : Inv X pins σ H1 { s1 with heap := h', toks := tk } := I1.kept fun b o e => hk b o (Heap.lt_size e) e
  exact call_len_set ho hex hd hf (by rw [hn] <;> omega) ⟨.int (ddS ss).length, H1, I2.tok _, ⟨_, by rw [hn]⟩, q1⟩
end Pv

set_option maxRecDepth 100000
set_option maxHeartbeats 1000000
namespace Pv
open PySem L2
section
variable (K : PySem.W.Frag) (cls : Nat → Addr × List Str)
mutual
/-- v bears d as a thing of kind t; F: what is owned in it -/
inductive ReT (N : Addr → Prop) (H : Hp) : T → V → D → List Addr → Prop
  | bo {t : T} {v : V} {d : D} : t.flat = true → RepB K cls N H t v d → ReT N H t v d []
  | owx {t : T} {v : V} {d : D} : Rep K cls N0 H v d → ReT N H (.ow t) v d []
  | owl {t : T} {p : Addr} {vs : List V} {ds : List D} {F : List Addr} : H p = some (.lst vs) → ReTs N H t vs ds F → ReT N H (.ow t) (.ref p) (.lst ds) (p :: F)
  | owK {t : T} {p : Addr} {kvs : List (Key × V)} {ds : List D} {F : List Addr} : (H p = some (.dK kvs) ∧ (kvs.map (·.1)).Nodup) → ReTs N H t (kvs.map (·.2)) ds F → ReT N H (.ow t) (.ref p) (.dicK ((kvs.map (·.1)).zip ds)) (p :: F)
  | owT {t : T} {p : Addr} {kvs : List (List Key × V)} {ds : List D} {F : List Addr} : (H p = some (.dT kvs) ∧ (kvs.map (·.1)).Nodup) → ReTs N H t (kvs.map (·.2)) ds F → ReT N H (.ow t) (.ref p) (.dicT ((kvs.map (·.1)).zip ds)) (p :: F)
  | owP {t : T} {p : Addr} {vs : List V} {ds : List D} {F : List Addr} : H p = some (.tup vs) → ReTs N H t vs ds F → ReT N H (.ow t) (.ref p) (.tup ds) F
inductive ReTs (N : Addr → Prop) (H : Hp) : T → List V → List D → List Addr → Prop
  | nil {t : T} : ReTs N H t [] [] []
  | cons {t : T} {v : V} {vs : List V} {d : D} {ds : List D} {F G : List Addr} : ReT N H t v d F → ReTs N H t vs ds G → ReTs N H t (v :: vs) (d :: ds) (F ++ G)
end
end
section
variable {K : PySem.W.Frag} {cls : Nat → Addr × List Str} {N N' : Addr → Prop} {H H' : Hp}
mutual
theorem ReT.chg {F' : List Addr} (c : Chg F' H H') (nF : ∀ a, N a → a ∉ F') (n : ∀ a, N a → N' a) : ∀ {t : T} {v : V} {d : D} {F : List Addr}, (∀ a ∈ F, a ∉ F') → ReT K cls N H t v d F → ReT K cls N' H' t v d F
  | _, _, _, _, _, .bo f h => .bo f (h.chg c nF n)
  | _, _, _, _, _, .owx h => .owx (Rep.chg c (fun _ z => z.elim) (fun _ z => z) h)
  | _, _, _, _, hF, .owl e r => .owl (c.1 _ _ (hF _ (by simp)) e) (ReTs.chg c nF n (fun a z => hF a (by simp [z])) r)
  | _, _, _, _, hF, .owK e r => .owK ⟨c.1 _ _ (hF _ (by simp)) e.1, e.2⟩ (ReTs.chg c nF n (fun a z => hF a (by simp [z])) r)
  | _, _, _, _, hF, .owT e r => .owT ⟨c.1 _ _ (hF _ (by simp)) e.1, e.2⟩ (ReTs.chg c nF n (fun a z => hF a (by simp [z])) r)
  | _, _, _, _, hF, .owP e r => .owP (c.tup e) (ReTs.chg c nF n hF r)
theorem ReTs.chg {F' : List Addr} (c : Chg F' H H') (nF : ∀ a, N a → a ∉ F') (n : ∀ a, N a → N' a) : ∀ {t : T} {v : List V} {d : List D} {F : List Addr}, (∀ a ∈ F, a ∉ F') → ReTs K cls N H t v d F → ReTs K cls N' H' t v d F
  | _, _, _, _, _, .nil => .nil
  | _, _, _, _, hF, .cons e r => .cons (ReT.chg c nF n (fun a z => hF a (by simp [z])) e) (ReTs.chg c nF n (fun a z => hF a (by simp [z])) r)
end
theorem ReT.mono (e : Same H H') (n : ∀ a, N a → N' a) {t : T} {v : V} {d : D} {F : List Addr} (h : ReT K cls N H t v d F) : ReT K cls N' H' t v d F :=
  ReT.chg (F' := []) (Chg.same e fun _ z => absurd z (by simp)) (fun _ _ => by simp) n (fun _ _ => by simp) h
theorem ReTs.mono (e : Same H H') (n : ∀ a, N a → N' a) {t : T} {v : List V} {d : List D} {F : List Addr} (h : ReTs K cls N H t v d F) : ReTs K cls N' H' t v d F :=
  ReTs.chg (F' := []) (Chg.same e fun _ z => absurd z (by simp)) (fun _ _ => by simp) n (fun _ _ => by simp) h
mutual
/-- borrowed -/
theorem ReT.bor : ∀ {t : T} {v : V} {d : D} {F : List Addr}, ReT K cls N H t v d F → RepB K cls (fun a => N a ∨ a ∈ F) H t.bor v d
  | _, _, _, _, .bo f h => by rw [bor_flat _ f]; exact h.mono (Same.refl H) fun _ z => .inl z
  | _, _, _, _, .owx h => .im h
  | _, _, _, _, .owl e r => .lst (.inr (by simp)) (.inl e) (pimp (ReTs.bor r) fun _ _ z => z.mono (Same.refl H) fun a z => z.imp_right fun z => by simp [z])
  | _, _, _, _, .owK e r => .dK (.inr (by simp)) (.inl e.1) (pimp (ReTs.bor r) fun _ _ z => z.mono (Same.refl H) fun a z => z.imp_right fun z => by simp [z])
  | _, _, _, _, .owT e r => .dT (.inr (by simp)) (.inl e.1) (pimp (ReTs.bor r) fun _ _ z => z.mono (Same.refl H) fun a z => z.imp_right fun z => by simp [z])
  | _, _, _, _, .owP e r => .tup e (ReTs.bor r)
theorem ReTs.bor : ∀ {t : T} {v : List V} {d : List D} {F : List Addr}, ReTs K cls N H t v d F → Paired (RepB K cls (fun a => N a ∨ a ∈ F) H t.bor) v d
  | _, _, _, _, .nil => .nil
  | _, _, _, _, .cons e r => .cons (e.bor.mono (Same.refl H) fun a z => z.imp_right fun z => by simp [z]) (pimp (ReTs.bor r) fun _ _ z => z.mono (Same.refl H) fun a z => z.imp_right fun z => by simp [z])
end
mutual
theorem ReT.box : ∀ {t : T} {v : V} {d : D} {F : List Addr}, ReT K cls N H t v d F → ∀ a ∈ F, Box (H a)
  | _, _, _, _, .bo f h, a, z => by simp at z
  | _, _, _, _, .owx h, a, z => by simp at z
  | _, _, _, _, .owl e r, a, z => by
    rcases List.mem_cons.mp z with rfl | z
    · rw [e]; trivial
    · exact ReTs.box r a z
  | _, _, _, _, .owK e r, a, z => by
    rcases List.mem_cons.mp z with rfl | z
    · rw [e.1]; trivial
    · exact ReTs.box r a z
  | _, _, _, _, .owT e r, a, z => by
    rcases List.mem_cons.mp z with rfl | z
    · rw [e.1]; trivial
    · exact ReTs.box r a z
  | _, _, _, _, .owP e r, a, z => ReTs.box r a z
theorem ReTs.box : ∀ {t : T} {v : List V} {d : List D} {F : List Addr}, ReTs K cls N H t v d F → ∀ a ∈ F, Box (H a)
  | _, _, _, _, .nil, a, z => by simp at z
  | _, _, _, _, .cons e r, a, z => by
    rcases List.mem_append.mp z with z | z
    · exact ReT.box e a z
    · exact ReTs.box r a z
end
theorem ReTs.of_flat {t : T} (f : t.flat = true) : ∀ {vs : List V} {ds : List D}, Paired (RepB K cls N H t) vs ds → ReTs K cls N H t vs ds []
  | _, _, .nil => .nil
  | _, _, .cons h r => ReTs.cons (F := []) (G := []) (.bo f h) (ReTs.of_flat f r)
end

/-! ### small syntax -/
inductive P1 where
  | neg | isN | notN | abs | len | isi (ty : String)
  | min1 | max1 | sum1 | all1 | any1 | int1 | str1 | list1 | tup1 | srt1 | lset | isT | isF
  deriving DecidableEq
inductive P2 where
  | add | sub | mul | fdiv | mod | pow | eq | ne | lt | le | gt | ge | idx | isin | nin | addt
  deriving DecidableEq
/-- two-place built-in functions, methods of texts -/
inductive B2 where
  | min2 | max2 | dm
  deriving DecidableEq
inductive M0 where
  | strip
  deriving DecidableEq
inductive M1 where
  | split | part | join | sw | ew | find | rfind | scount | sidx
  | lcnt | lidx | dget
  deriving DecidableEq
inductive TG0 where
  | nm (i : Nat) | tp (is : List Nat)
  deriving DecidableEq
/-- expressions; argument lists by nil, cons; what is walked by rng1 .. -/
inductive CE where
  | var (i : Nat)
  | int (i : Int) | str (s : Str) | bl (b : Bool) | non
  | o1 (p : P1) (a : CE) | o2 (p : P2) (a b : CE)
  | and (a b : CE) | or (a b : CE) | not (a : CE) | ifx (c a b : CE)
  | nil | cons (a b : CE)
  | lst (es : CE) | tup (es : CE) | tupo (es : CE)
  | call (f : Nat) (es : CE) | calp (f : Nat) (es : CE) (df : List Int)
  | b2 (f : B2) (a b : CE) | m0 (m : M0) (a : CE) | m1 (m : M1) (a b : CE)
  | slc (k bl bh : Bool) (a lo hi : CE) | gs (x v : Str) | lrng (a : CE) | dic0 (t : Bool) | dic1 (a b : CE) | fit (t : T) (a : CE)
  | isc (c : Nat) (x : Str) (cs : List Nat) (a : CE) | chn (p q : P2) (a b c : CE)
  | fld (f : Str) (i : Nat) (cs : List Nat) (a : CE) | meth (m : Str) (tb : List (Nat × Nat)) (a es : CE) | make (c f : Nat) (nd : Bool) (es : CE)
  | comp (own : List Nat) (g : TG0) (elt it c : CE)
  | rng1 (a : CE) | rng2 (a b : CE) | rng3 (a b c : CE) | ien (a : CE) | izp (a b : CE) | irv (a : CE) | irr (a : CE) | ikd (a : CE)
@[reducible] def isTup : CE → Bool
  | .tup _ => true
  | _ => false
/-- what changes a list in its place -/
inductive Mu where
  | app | ext | rev | clr | popD
  deriving DecidableEq
/-- what an except suite asks of its exception -/
inductive XB where
  | isi (cs : List Nat) (x : Str) | and (a b : XB) | not (a : XB)
/-- what an except suite puts into a slot -/
inductive XE where
  | bs (l : List XB) | b (x : XB) | c (e : CE)
inductive CS where
  | nil | seq (a b : CS)
  | asg (i : Nat) (e : CE) | mov (i j : Nat) | ex (e : CE) | ret (e : CE)
  | ite (c : CE) (a b : CS) | whl (inv : List (Nat × T)) (c : CE) (b : CS) | for (inv : List (Nat × T)) (g : TG0) (it : CE) (b : CS)
  | brk | cnt | pas
  | unp (is : List Nat) (e : CE) | mut (x : Nat) (p : List CE) (m : Mu) (e : CE) | appm (x : Nat) (p : List CE) (y : Nat) | sto (x : Nat) (p : List CE) (i e : CE) | aug (x : Nat) (p : List CE) (i : CE) (o : P2) (e : CE) | popTo (y x : Nat) (e : Option CE) | insm (x : Nat) (i : CE) (y : Nat) | augn (i : Nat) (p : P2) (e : CE) | wkn (x : Nat) (t : T) | dup (x y : Nat) (e : CE) | dst (x : Nat) (i e : CE) | fom (x y : Nat) (m : Mu) (e : CE) | fol (inv : List (Nat × T)) (g : TG0) (x : Nat) (b : CS) | rse (c : Nat) (x m : Str) | ded | rcl (t : Option Nat) (e : CE) | rrt (e : CE) | tryx (b : CS) (cs : List Nat) (x : Str) (n : Nat) (su : List (Nat × XE)) | cio (x f : Nat) (es : CE) | fomP (x c y : Nat) | fop (inv : List (Nat × T)) (g : TG0) (x : Nat) (a : CE) (b : CS)
abbrev Env := List (Option D)
/-- an exception: its class -/
abbrev Ex := Nat
/-- calls: X is what is wished of an exception -/
structure CallW where
  run : (Ex → Prop) → Nat → List D → (D → Prop) → Prop
instance : CoeFun CallW fun _ => Nat → List D → (D → Prop) → Prop := ⟨fun C => C.run fun _ => False⟩

/-! ### meaning -/
mutual
def D.py : D → PyData
  | .non => .none
  | .bl b => .bool b
  | .int i => .int i
  | .str s => .str s
  | .tup xs => .tuple (D.pys xs)
  | .lst xs => .list (D.pys xs)
  | .dicK _ => .none
  | .dicT _ => .none
  | .obj _ _ => .none
def D.pys : List D → List PyData
  | [] => []
  | x :: xs => D.py x :: D.pys xs
end
mutual
/-- None, bools, rngL, texts, lists and tuples of such -/
def D.plain : D → Bool
  | .tup xs => D.plains xs
  | .lst xs => D.plains xs
  | .dicK _ => false
  | .dicT _ => false
  | .obj _ _ => false
  | _ => true
def D.plains : List D → Bool
  | [] => true
  | x :: xs => D.plain x && D.plains xs
end
def okEq (x y : D) : Prop := x.plain = true ∧ y.plain = true ∧ SeqAt.shaped x.py = true ∧ SeqAt.shaped y.py = true
def tyName : D → Option String
  | .non => some "NoneType"
  | .bl _ => some "bool"
  | .int _ => some "int"
  | .str _ => some "str"
  | .tup _ => some "tuple"
  | .lst _ => some "list"
  | _ => none
def isTy (ty : String) (d : D) : Option Bool := (tyName d).bind fun n => kitB n ty
mutual
/-- no box within -/
def D.imm : D → Bool
  | .non => true
  | .bl _ => true
  | .int _ => true
  | .str _ => true
  | .tup xs => D.imms xs
  | _ => false
def D.imms : List D → Bool
  | [] => true
  | x :: xs => D.imm x && D.imms xs
end
/-- the thing itself tells that it is of this kind -/
def fit : T → D → Prop
  | .im, d => d.imm = true
  | .s t, .lst xs => ∀ x ∈ xs, fit t x
  | .s t, .tup xs => ∀ x ∈ xs, fit t x
  | _, _ => False
/-! ### dicts -/
def toKey : D → Option Key
  | .int i => some (.inl i)
  | .str s => some (.inr s)
  | _ => none
def toKeyL : List D → Option (List Key)
  | [] => some []
  | d :: ds => match toKey d, toKeyL ds with
    | some k, some ks => some (k :: ks)
    | _, _ => none
def toKeys : D → Option (List Key)
  | .tup ds => toKeyL ds
  | _ => none
def dval {κ : Type} [DecidableEq κ] (kvs : List (κ × D)) (k : κ) : Option D := (kvs.find? fun kv => decide (kv.1 = k)).map (·.2)
def dput {κ : Type} [DecidableEq κ] (kvs : List (κ × D)) (k : κ) (v : D) : List (κ × D) :=
  if (kvs.any fun kv => decide (kv.1 = k)) = true then kvs.map (fun kv => if kv.1 = k then (kv.1, v) else kv) else kvs ++ [(k, v)]
def dsW (j y : D) : D → (D → Prop) → Prop
  | .dicK kvs, Q => ∃ k, toKey j = some k ∧ kvs.length < sizeLine ∧ Q (.dicK (dput kvs k y))
  | .dicT kvs, Q => ∃ k, toKeys j = some k ∧ kvs.length < sizeLine ∧ Q (.dicT (dput kvs k y))
  | _, _ => False
def D.ofKey : Key → D
  | .inl i => .int i
  | .inr s => .str s
def p1 : P1 → D → (D → Prop) → Prop
  | .neg, .int i, Q => Q (.int (-i))
  | .lset, .lst xs, Q => ∃ ss : List Str, xs = ss.map D.str ∧ ss.length ≤ 1000 ∧ Q (.int ((ddS ss).length : Nat))
  | .isT, .bl b, Q => Q (.bl (b == true))
  | .isF, .bl b, Q => Q (.bl (b == false))
  | .isN, .non, Q => Q (.bl true)
  | .isN, _, Q => Q (.bl false)
  | .notN, .non, Q => Q (.bl false)
  | .notN, _, Q => Q (.bl true)
  | .abs, .int i, Q => Q (.int (if i < 0 then -i else i))
  | .len, .lst xs, Q => Q (.int xs.length)
  | .len, .tup xs, Q => Q (.int xs.length)
  | .len, .dicK kvs, Q => Q (.int kvs.length)
  | .len, .dicT kvs, Q => Q (.int kvs.length)
  | .len, .str s, Q => s.length ≤ sizeLine ∧ Q (.int s.length)
  | .isi ty, d, Q => match isTy ty d with
    | some b => Q (.bl b)
    | none => False
  | .min1, .lst xs, Q => ∃ ns : List Int, xs = ns.map D.int ∧ 0 < ns.length ∧ ∀ m, m ∈ ns → (∀ y, y ∈ ns → m ≤ y) → Q (.int m)
  | .max1, .lst xs, Q => ∃ ns : List Int, xs = ns.map D.int ∧ 0 < ns.length ∧ ∀ m, m ∈ ns → (∀ y, y ∈ ns → y ≤ m) → Q (.int m)
  | .sum1, .lst xs, Q => ∃ ns : List Int, xs = ns.map D.int ∧ Q (.int ns.sum)
  | .min1, .tup xs, Q => ∃ ns : List Int, xs = ns.map D.int ∧ 0 < ns.length ∧ ∀ m, m ∈ ns → (∀ y, y ∈ ns → m ≤ y) → Q (.int m)
  | .max1, .tup xs, Q => ∃ ns : List Int, xs = ns.map D.int ∧ 0 < ns.length ∧ ∀ m, m ∈ ns → (∀ y, y ∈ ns → y ≤ m) → Q (.int m)
  | .sum1, .tup xs, Q => ∃ ns : List Int, xs = ns.map D.int ∧ Q (.int ns.sum)
  | .all1, .lst xs, Q => ∃ bs : List Bool, xs = bs.map D.bl ∧ Q (.bl (bs.all id))
  | .any1, .lst xs, Q => ∃ bs : List Bool, xs = bs.map D.bl ∧ Q (.bl (bs.any id))
  | .int1, .int i, Q => Q (.int i)
  | .int1, .bl b, Q => Q (.int (if b then 1 else 0))
  | .int1, .str s, Q => ∃ n, PySem.intText? s = some n ∧ s.length ≤ 640 ∧ Q (.int n)
  | .str1, .int i, Q => i.natAbs.log2 < 1920 ∧ Q (.str (toString i))
  | .str1, .str s, Q => Q (.str s)
  | .list1, .lst xs, Q => Q (.lst xs)
  | .list1, .tup xs, Q => Q (.lst xs)
  | .list1, .str s, Q => s.length ≤ sizeLine ∧ Q (.lst (s.cps.toList.map fun c => D.str ⟨#[c]⟩))
  | .list1, .dicK ks, Q => Q (.lst (ks.map fun kv => D.ofKey kv.1))
  | .list1, .dicT ks, Q => Q (.lst (ks.map fun kv => D.tup (kv.1.map D.ofKey)))
  | .tup1, .lst xs, Q => Q (.tup xs)
  | .tup1, .tup xs, Q => Q (.tup xs)
  | .srt1, .lst xs, Q => ∃ ns : List Int, xs = ns.map D.int ∧ ∀ ns' : List Int, ns'.Perm ns → ns'.Pairwise (· ≤ ·) → Q (.lst (ns'.map D.int))
  | .srt1, .dicK ks, Q => ∃ ns : List Int, ks.map (·.1) = ns.map Sum.inl ∧ ns.length < 64 ∧ ∀ ns' : List Int, ns'.Perm ns → ns'.Pairwise (· ≤ ·) → Q (.lst (ns'.map D.int))
  | _, _, _ => False
/-- may be multiplied | divided -/
def mulOk (i j : Int) : Prop := CMul i j ∨ CMulW i j
def divOk (_ j : Int) : Prop := j ≠ 0 ∧ j.natAbs.log2 < 9000
/-- a text within a text -/
def strIn (i j : Str) : Bool := !(Builtin.Str.occurrences j i 0 j.length 1).isEmpty
def okIn (x : D) (ys : List D) : Prop := x.plain = true ∧ D.plains ys = true ∧ SeqAt.shaped x.py = true ∧ SeqAt.shaped (.list (D.pys ys)) = true
def okRep (n : Nat) (k : Int) : Prop := -(2 ^ 63) ≤ k ∧ k < 2 ^ 63 ∧ n * k.toNat ≤ sizeLine
def repS (s : Str) (k : Int) : Str := ⟨(List.replicate k.toNat s.cps.toList).flatten.toArray⟩
def p2 : P2 → D → D → (D → Prop) → Prop
  | .add, .int i, .int j, Q => Q (.int (i + j))
  | .add, .str x, .str y, Q => x.length + y.length ≤ sizeLine ∧ Q (.str (x ++ y))
  | .add, .lst xs, .lst ys, Q => xs.length + ys.length ≤ sizeLine ∧ Q (.lst (xs ++ ys))
  | .addt, .tup xs, .tup ys, Q => xs.length + ys.length ≤ sizeLine ∧ Q (.tup (xs ++ ys))
  | .isin, .str i, .str j, Q => Q (.bl (strIn i j))
  | .nin, .str i, .str j, Q => Q (.bl (!strIn i j))
  | .isin, x, .lst ys, Q => okIn x ys ∧ Q (.bl (ys.any fun y => PyData.eqv y.py x.py))
  | .nin, x, .lst ys, Q => okIn x ys ∧ Q (.bl (!ys.any fun y => PyData.eqv y.py x.py))
  | .isin, x, .tup ys, Q => okIn x ys ∧ Q (.bl (ys.any fun y => PyData.eqv y.py x.py))
  | .nin, x, .tup ys, Q => okIn x ys ∧ Q (.bl (!ys.any fun y => PyData.eqv y.py x.py))
  | .mul, .lst xs, .int k, Q => okRep xs.length k ∧ Q (.lst (List.replicate k.toNat xs).flatten)
  | .mul, .str s, .int k, Q => okRep s.length k ∧ Q (.str (repS s k))
  | .sub, .int i, .int j, Q => Q (.int (i - j))
  | .mul, .int i, .int j, Q => mulOk i j ∧ Q (.int (i * j))
  | .fdiv, .int i, .int j, Q => divOk i j ∧ Q (.int (i.fdiv j))
  | .mod, .int i, .int j, Q => j ≠ 0 ∧ Q (.int (i.fmod j))
  | .pow, .int i, .int j, Q => CPow i j ∧ Q (.int (i ^ j.toNat))
  | .eq, x, y, Q => okEq x y ∧ Q (.bl (PyData.eqv x.py y.py))
  | .ne, x, y, Q => okEq x y ∧ Q (.bl (!PyData.eqv x.py y.py))
  | .lt, .int i, .int j, Q => Q (.bl (decide (i < j)))
  | .le, .int i, .int j, Q => Q (.bl (decide (i ≤ j)))
  | .gt, .int i, .int j, Q => Q (.bl (decide (j < i)))
  | .ge, .int i, .int j, Q => Q (.bl (decide (j ≤ i)))
  | .idx, .lst xs, .int i, Q => ∃ d, atI xs i = some d ∧ Q d
  | .idx, .tup xs, .int i, Q => ∃ d, atI xs i = some d ∧ Q d
  | .idx, .dicK kvs, x, Q => ∃ k d, toKey x = some k ∧ dval kvs k = some d ∧ Q d
  | .idx, .dicT kvs, x, Q => ∃ k d, toKeys x = some k ∧ dval kvs k = some d ∧ Q d
  | .isin, x, .dicK kvs, Q => ∃ k, toKey x = some k ∧ Q (.bl (dval kvs k).isSome)
  | .isin, x, .dicT kvs, Q => ∃ k, toKeys x = some k ∧ Q (.bl (dval kvs k).isSome)
  | .nin, x, .dicK kvs, Q => ∃ k, toKey x = some k ∧ Q (.bl (!(dval kvs k).isSome))
  | .nin, x, .dicT kvs, Q => ∃ k, toKeys x = some k ∧ Q (.bl (!(dval kvs k).isSome))
  | .idx, .str s, .int i, Q => s.length ≤ sizeLine ∧ ∃ c, atI s.cps.toList i = some c ∧ Q (.str ⟨#[c]⟩)
  | _, _, _, _ => False
def onB (d : D) (t f : Prop) : Prop := match d with
  | .bl true => t
  | .bl false => f
  | _ => False
def b2W : B2 → D → D → (D → Prop) → Prop
  | .dm, .int i, .int j, Q => CDiv i j ∧ Q (.tup [.int (i / j), .int (i % j)])
  | .min2, .int i, .int j, Q => Q (.int (if j < i then j else i))
  | .max2, .int i, .int j, Q => Q (.int (if j > i then j else i))
  | _, _, _, _ => False
def isS : D → Prop
  | .str _ => True
  | _ => False
def isLs : D → Prop
  | .lst _ => True
  | _ => False
def isDc : D → Prop
  | .dicK _ => True
  | .dicT _ => True
  | _ => False
def m0W : M0 → D → (D → Prop) → Prop
  | .strip, .str a, Q => a.length ≤ sizeLine ∧ Q (.str (Txt.strip a))
  | _, _, _ => False
def m1W : M1 → D → D → (D → Prop) → Prop
  | .split, .str a, .str b, Q => (b.length == 0) = false ∧ a.length + 2 ≤ sizeLine ∧ Q (.lst ((Txt.split a b).map D.str))
  | .part, .str a, .str b, Q => (b.length == 0) = false ∧ a.length ≤ sizeLine ∧ Q (.tup [.str (Txt.partition a b).1, .str (Txt.partition a b).2.1, .str (Txt.partition a b).2.2])
  | .join, .str a, .lst xs, Q => ∃ ys : List Str, xs = ys.map D.str ∧ (ys.map (·.length)).sum + ys.length * a.length ≤ 16777216 ∧ Q (.str (Txt.join a ys))
  | .join, .str a, .tup xs, Q => ∃ ys : List Str, xs = ys.map D.str ∧ (ys.map (·.length)).sum + ys.length * a.length ≤ 16777216 ∧ Q (.str (Txt.join a ys))
  | .sw, .str a, .str b, Q => Q (.bl (Txt.startswith a b))
  | .ew, .str a, .str b, Q => Q (.bl (Txt.endswith a b))
  | .find, .str a, .str b, Q => Q (.int (Txt.find a b))
  | .rfind, .str a, .str b, Q => Q (.int (Txt.rfind a b))
  | .scount, .str a, .str b, Q => Q (.int (Txt.count a b))
  | .sidx, .str a, .str b, Q => 0 ≤ Txt.find a b ∧ Q (.int (Txt.find a b))
  | .lcnt, .lst xs, y, Q => okIn y xs ∧ Q (.int (xs.countP (fun z => PyData.eqv z.py y.py) : Nat))
  | .lidx, .lst xs, y, Q => okIn y xs ∧ ∃ (j : Nat) (z : D), xs[j]? = some z ∧ PyData.eqv z.py y.py = true ∧ (∀ (m : Nat) (z' : D), m < j → xs[m]? = some z' → PyData.eqv z'.py y.py = false) ∧ Q (.int (j : Nat))
  | .dget, .dicK ks, y, Q => ∃ k, toKey y = some k ∧ ((dval ks k).getD .non).imm = true ∧ Q ((dval ks k).getD .non)
  | .dget, .dicT ks, y, Q => ∃ k, toKeys y = some k ∧ ((dval ks k).getD .non).imm = true ∧ Q ((dval ks k).getD .non)
  | _, _, _, _ => False
def cutD (xs : List D) (lo hi : Option Int) : List D := (xs.drop (HT.sIx xs.length 0 lo)).take (HT.sIx xs.length xs.length hi - HT.sIx xs.length 0 lo)
/-- a slice: of a tuple (true), of a list or text -/
def slW : Bool → D → Option Int → Option Int → (D → Prop) → Prop
  | true, .tup xs, l, h, Q => Q (.tup (cutD xs l h))
  | false, .lst xs, l, h, Q => Q (.lst (cutD xs l h))
  | false, .str s, l, h, Q => s.length ≤ sizeLine ∧ Q (.str (L2.cutS s l h))
  | _, _, _, _, _ => False
def enumD : Nat → List D → List D
  | _, [] => []
  | n, d :: ds => .tup [.int n, d] :: enumD (n + 1) ds
def onI (d : D) (Q : Option Int → Prop) : Prop := match d with
  | .int i => Q (some i)
  | _ => False
/-- what is walked -/
def itD (x : D) (Q : List D → Prop) : Prop := match x with
  | .lst xs => Q xs
  | .tup xs => Q xs
  | .str s => Q (s.cps.toList.map fun c => D.str ⟨#[c]⟩)
  | _ => False
/-- a target takes a value -/
def stor : List Nat → List D → Env → Env
  | i :: is, d :: ds, env => stor is ds (env.set i (some d))
  | _, _, env => env
def G0 : TG0 → D → Env → (Env → Prop) → Prop
  | .nm i, d, env, Q => Q (env.set i (some d))
  | .tp is, .tup ds, env, Q => ds.length = is.length ∧ Q (stor is ds env)
  | _, _, _, _ => False
def wipD (env : Env) : List Nat → Env
  | [] => env
  | v :: vs => (wipD env vs).set v none
/-- a comprehension -/
def cmpW (step : D → (Option D → Prop) → Prop) (fin : List D → Prop) : List D → List D → Prop
  | [], acc => fin acc
  | d :: ds, acc => step d fun o => match o with
    | some y => acc.length < sizeLine ∧ cmpW step fin ds (acc ++ [y])
    | none => cmpW step fin ds acc
/-- rngL lo, lo + c, .. -/
def rngL (lo c : Int) (n : Nat) : List D := (List.range n).map fun k => D.int (lo + (k : Nat) * c)
mutual
def E (C : CallW) : CE → Env → (D → Prop) → Prop
  | .var i, env, Q => match env[i]? with
    | some (some d) => Q d
    | _ => False
  | .int i, _, Q => Q (.int i)
  | .str s, _, Q => Q (.str s)
  | .bl b, _, Q => Q (.bl b)
  | .non, _, Q => Q .non
  | .o1 p a, env, Q => E C a env fun x => p1 p x Q
  | .o2 p a b, env, Q => E C a env fun x => E C b env fun y => p2 p x y Q
  | .and a b, env, Q => E C a env fun x => onB x (E C b env Q) (Q (.bl false))
  | .or a b, env, Q => E C a env fun x => onB x (Q (.bl true)) (E C b env Q)
  | .not a, env, Q => E C a env fun x => onB x (Q (.bl false)) (Q (.bl true))
  | .ifx c a b, env, Q => E C c env fun x => onB x (E C a env Q) (E C b env Q)
  | .lst es, env, Q => Es C es env fun xs => xs.length ≤ sizeLine ∧ Q (.lst xs)
  | .tup es, env, Q => Es C es env fun xs => xs.length ≤ sizeLine ∧ Q (.tup xs)
  | .tupo es, env, Q => Es C es env fun xs => xs.length ≤ sizeLine ∧ Q (.tup xs)
  | .call f es, env, Q => Es C es env fun xs => C f xs Q
  | .calp f es df, env, Q => Es C es env fun xs => C f (xs ++ df.map D.int) Q
  | .b2 f a b, env, Q => E C a env fun x => E C b env fun y => b2W f x y Q
  | .m0 m a, env, Q => E C a env fun x => m0W m x Q
  | .m1 m a b, env, Q => E C a env fun x => (match m with
    | .lcnt => isLs x
    | .lidx => isLs x
    | .dget => isDc x
    | _ => isS x) ∧ E C b env fun y => m1W m x y Q
  | .slc k bl bh a lo hi, env, Q => E C a env fun x => (if bl = true then fun R => E C lo env fun d => onI d R else fun R => R none) fun l => (if bh = true then fun R => E C hi env fun d => onI d R else fun R => R none) fun h => slW k x l h Q
  | .gs _ v, _, Q => Q (.str v)
  | .fit t a, env, Q => E C a env fun d => fit t d ∧ Q d
  | .chn p q a b c, env, Q => E C a env fun x => E C b env fun y => p2 p x y fun r => onB r (E C c env fun z => p2 q y z Q) (Q (.bl false))
  | .ikd a, env, Q => E C a env fun x => match x with
    | .dicK ks => Q (.lst (ks.map fun kv => D.ofKey kv.1))
    | .dicT ks => Q (.lst (ks.map fun kv => D.tup (kv.1.map D.ofKey)))
    | _ => False
  | .irr a, env, Q => E C a env fun x => match x with
    | .int n => (-(2 ^ 62) ≤ n ∧ n < 2 ^ 62) ∧ Q (.tup (rngL 0 1 n.toNat).reverse)
    | _ => False
  | .isc c _ cs a, env, Q => E C a env fun d => match d with
    | .obj c' _ => c' ∈ c :: cs ∧ Q (.bl true)
    | _ => False
  | .fld _ i cs a, env, Q => E C a env fun x => match x with
    | .obj c ds => c ∈ cs ∧ ∃ d, ds[i]? = some d ∧ Q d
    | _ => False
  | .meth _ tb a es, env, Q => E C a env fun x => match x with
    | .obj c ds => ∃ f, tb.lookup c = some f ∧ Es C es env fun xs => C f (.obj c ds :: xs) Q
    | _ => False
  | .make _ f nd es, env, Q => Es C es env fun xs => match nd with
    | true => C f (xs ++ [.non]) Q
    | false => C f xs Q
  | .dic0 t, _, Q => Q (if t = true then .dicT [] else .dicK [])
  | .dic1 a b, env, Q => E C a env fun x => E C b env fun y => match isTup a with
    | true => ∃ k, toKeys x = some k ∧ Q (.dicT [(k, y)])
    | false => ∃ k, toKey x = some k ∧ Q (.dicK [(k, y)])
  | .lrng a, env, Q => E C a env fun x => match x with
    | .int n => RgOk 0 n ∧ Q (.lst (rngL 0 1 n.toNat))
    | _ => False
  | .comp own g elt it c, env, Q => E C it env fun x => itD x fun ds => cmpW (fun d R => G0 g d (wipD env own) fun env2 => E C c env2 fun b => onB b (E C elt env2 fun y => R (some y)) (R none)) (fun ys => Q (.lst ys)) ds []
  | .rng1 a, env, Q => E C a env fun x => match x with
    | .int n => (-(2 ^ 62) ≤ n ∧ n < 2 ^ 62) ∧ Q (.tup (rngL 0 1 n.toNat))
    | _ => False
  | .rng2 a b, env, Q => E C a env fun x => E C b env fun y => match x, y with
    | .int i, .int n => ((-(2 ^ 62) ≤ i ∧ i < 2 ^ 62) ∧ -(2 ^ 62) ≤ n ∧ n < 2 ^ 62) ∧ Q (.tup (rngL i 1 (n - i).toNat))
    | _, _ => False
  | .rng3 a b c, env, Q => E C a env fun x => E C b env fun y => E C c env fun z => match x, y, z with
    | .int i, .int j, .int c => ∃ n, RgC i j c n ∧ Q (.tup (rngL i c n))
    | _, _, _ => False
  | .ien a, env, Q => E C a env fun x => itD x fun xs => Q (.tup (enumD 0 xs))
  | .izp a b, env, Q => E C a env fun x => E C b env fun y => itD x fun xs => itD y fun ys => Q (.tup (List.zipWith (fun p q => D.tup [p, q]) xs ys))
  | .irv a, env, Q => E C a env fun x => match x with
    | .lst xs => Q (.tup xs.reverse)
    | .tup xs => Q (.tup xs.reverse)
    | _ => False
  | _, _, _ => False
def Es (C : CallW) : CE → Env → (List D → Prop) → Prop
  | .nil, _, Q => Q []
  | .cons a b, env, Q => E C a env fun x => Es C b env fun xs => Q (x :: xs)
  | _, _, _ => False
end
/-- what is walked -/
def It (C : CallW) (c : CE) (env : Env) (Q : List D → Prop) : Prop := E C c env fun x => itD x Q
structure Ks where
  nx : Env → Prop
  rt : D → Prop
  bk : Env → Prop := fun _ => False
  ct : Env → Prop := fun _ => False
  ex : Ex → Env → Prop := fun _ _ => False
def forW (body : D → Env → (Env → Prop) → Prop) (fin : Env → Prop) : List D → Env → Prop
  | [], env => fin env
  | d :: ds, env => body d env (forW body fin ds)
def whlW (step : Env → (Env → Prop) → Prop) : Nat → Env → Prop
  | 0, _ => False
  | n + 1, env => step env (whlW step n)
/-- a path's indices, by values -/
def Ep (C : CallW) : List CE → Env → (List Int → Prop) → Prop
  | [], _, Q => Q []
  | c :: cs, env, Q => E C c env fun x => match x with
    | .int i => Ep C cs env fun is => Q (i :: is)
    | _ => False
/-- the thing at a path is changed -/
def updP : List Int → D → (D → (D → Prop) → Prop) → (D → Prop) → Prop
  | [], d, f, Q => f d Q
  | i :: is, .lst xs, f, Q => ∃ j d, L2.ixN xs.length i = some j ∧ xs[j]? = some d ∧ updP is d f fun d' => Q (.lst (xs.set j d'))
  | i :: is, .tup xs, f, Q => ∃ j d, L2.ixN xs.length i = some j ∧ xs[j]? = some d ∧ updP is d f fun d' => Q (.tup (xs.set j d'))
  | _, _, _, _ => False
def isL : D → Prop
  | .lst _ => True
  | _ => False
def muW : Mu → D → D → (D → Prop) → Prop
  | .app, .lst xs, y, Q => xs.length < sizeLine ∧ Q (.lst (xs ++ [y]))
  | .ext, .lst xs, .lst ys, Q => xs.length + ys.length ≤ sizeLine ∧ Q (.lst (xs ++ ys))
  | .rev, .lst xs, .non, Q => Q (.lst xs.reverse)
  | .clr, .lst _, .non, Q => Q (.lst [])
  | .popD, .lst xs, .non, Q => xs ≠ [] ∧ Q (.lst xs.dropLast)
  | _, _, _, _ => False
def setW (i : D) (y : D) : D → (D → Prop) → Prop
  | .lst xs, Q => match i with
    | .int k => ∃ j, L2.ixN xs.length k = some j ∧ Q (.lst (xs.set j y))
    | _ => False
  | _, _ => False
def popW (x : D) (i : Option D) (Q : D → D → Prop) : Prop := match x, i with
  | .lst xs, none => ∃ y, xs[xs.length - 1]? = some y ∧ Q y (.lst xs.dropLast)
  | .lst xs, some (.int k) => -(2 ^ 63) ≤ k ∧ k < 2 ^ 63 ∧ ∃ j y, seqIndex? k xs.length = some j ∧ xs[j]? = some y ∧ Q y (.lst (xs.eraseIdx j))
  | _, _ => False
def insW (x i y : D) (Q : D → Prop) : Prop := match x, i with
  | .lst xs, .int k => xs.length < sizeLine ∧ 0 ≤ k ∧ k < 2 ^ 63 ∧ Q (.lst (xs.take k.toNat ++ [y] ++ xs.drop k.toNat))
  | _, _ => False
def augW : P2 → D → D → (D → Prop) → Prop
  | .add, .int i, .int j, Q => Q (.int (i + j))
  | .sub, .int i, .int j, Q => Q (.int (i - j))
  | .add, .str i, .str j, Q => i.length + j.length ≤ sizeLine ∧ Q (.str (i ++ j))
  | _, _, _, _ => False
def atV (env : Env) (x : Nat) (Q : D → Prop) : Prop := match env[x]? with
  | some (some d) => Q d
  | _ => False
/-- a slot's list is walked as it stands at each turn -/
def folW (x : Nat) (step : D → Env → (Env → Prop) → Prop) (fin : Env → Prop) : Nat → Nat → Env → Prop
  | 0, _, _ => False
  | n + 1, i, env => atV env x fun d => ∃ ds, d = .lst ds ∧ match ds[i]? with
    | none => fin env
    | some y => step y env (folW x step fin n (i + 1))
/-- each thing of a list is changed in its turn -/
def fomW (step : Nat → D → (D → Prop) → Prop) : Nat → Nat → D → (D → Prop) → Prop
  | 0, _, d, Q => Q d
  | n + 1, i, d, Q => step i d fun d' => fomW step n (i + 1) d' Q
/-- a call that may raise -/
def EX (C : CallW) (X : Ex → Prop) : CE → Env → (D → Prop) → Prop
  | .call f es, env, Q => Es C es env fun xs => C.run X f xs Q
  | .meth _ tb a es, env, Q => E C a env fun x => match x with
    | .obj c ds => ∃ f, tb.lookup c = some f ∧ Es C es env fun xs => C.run X f (.obj c ds :: xs) Q
    | _ => False
  | e, env, Q => E C e env Q
def XBv : XB → Ex → Bool
  | .isi cs _, x => decide (x ∈ cs)
  | .and a b, x => XBv a x && XBv b x
  | .not a, x => !XBv a x
def XEv : XE → Ex → D
  | .bs l, x => .lst (l.map fun b => .bl (XBv b x))
  | .b a, x => .bl (XBv a x)
  | .c (.int i), _ => .int i
  | .c (.str s), _ => .str s
  | .c (.bl b), _ => .bl b
  | .c _, _ => .non
def SUw : List (Nat × XE) → Ex → Env → Env
  | [], _, env => env
  | (i, e) :: r, x, env => SUw r x (env.set i (some (XEv e x)))
def W (C : CallW) : CS → Ks → Env → Prop
  | .nil, k, env => k.nx env
  | .pas, k, env => k.nx env
  | .seq a b, k, env => W C a { k with nx := W C b k } env
  | .asg i e, k, env => E C e env fun d => k.nx (env.set i (some d))
  | .mov i j, k, env => match env[j]? with
    | some (some d) => k.nx ((env.set j none).set i (some d))
    | _ => False
  | .ex e, k, env => E C e env fun _ => k.nx env
  | .ret e, k, env => E C e env k.rt
  | .ite c a b, k, env => E C c env fun x => onB x (W C a k env) (W C b k env)
  | .whl _ c b, k, env => ∃ n, whlW (fun env' nx => E C c env' fun x => onB x (W C b { nx := nx, ct := nx, bk := k.nx, rt := k.rt, ex := k.ex } env') (k.nx env')) n env
  | .for _ g it b, k, env => It C it env fun ds => forW (fun d env' nx => G0 g d env' fun env2 => W C b { nx := nx, ct := nx, bk := k.nx, rt := k.rt, ex := k.ex } env2) k.nx ds env
  | .augn i p e, k, env => atV env i fun x => E C e env fun y => augW p x y fun z => k.nx (env.set i (some z))
  | .wkn _ _, k, env => k.nx env
  | .unp is e, k, env => E C e env fun d => G0 (.tp is) d env k.nx
  | .mut x p m e, k, env => atV env x fun d => Ep C p env fun is => updP is d (fun d0 Q => isL d0 ∧ E C e env fun y => muW m d0 y Q) fun d' => k.nx (env.set x (some d'))
  | .appm x p y, k, env => atV env x fun d => atV env y fun z => Ep C p env fun is => updP is d (fun d0 Q => isL d0 ∧ muW .app d0 z Q) fun d' => k.nx ((env.set y none).set x (some d'))
  | .sto x p i e, k, env => E C e env fun y => atV env x fun d => Ep C p env fun is => updP is d (fun d0 Q => isL d0 ∧ E C i env fun j => setW j y d0 Q) fun d' => k.nx (env.set x (some d'))
  | .aug x p i o e, k, env => atV env x fun d => Ep C p env fun is => updP is d (fun d0 Q => isL d0 ∧ E C i env fun j => p2 .idx d0 j fun a => E C e env fun b => augW o a b fun z => setW j z d0 Q) fun d' => k.nx (env.set x (some d'))
  | .popTo y x none, k, env => atV env x fun d => popW d none fun z d' => k.nx ((env.set x (some d')).set y (some z))
  | .popTo y x (some i), k, env => atV env x fun d => isL d ∧ E C i env fun j => popW d (some j) fun z d' => k.nx ((env.set x (some d')).set y (some z))
  | .insm x i y, k, env => atV env x fun d => atV env y fun z => isL d ∧ E C i env fun j => insW d j z fun d' => k.nx ((env.set y none).set x (some d'))
  | .fol _ g x b, k, env => ∃ n, folW x (fun d env' nx => G0 g d env' fun env2 => W C b { nx := nx, ct := nx, bk := k.nx, rt := k.rt, ex := k.ex } env2) k.nx n 0 env
  | .fom x y m e, k, env => atV env x fun d => ∃ ds, d = .lst ds ∧ fomW (fun i d Q => updP [(i : Int)] d (fun d0 Q => isL d0 ∧ E C e ((env.set y none).set x (some d)) fun z => muW m d0 z Q) Q) ds.length 0 d fun d' => k.nx ((env.set y none).set x (some d'))
  | .dst x i e, k, env => E C e env fun y => atV env x fun d => E C i env fun j => dsW j y d fun d' => k.nx (env.set x (some d'))
  | .dup x y e, k, env => atV env x fun d => atV env y fun z => ∃ xs, d = .lst xs ∧ xs.length < sizeLine ∧ E C e (env.set x none) fun r => k.nx ((env.set x (some (.lst (xs ++ [z])))).set y (some r))
  | .brk, k, env => k.bk env
  | .cnt, k, env => k.ct env
  | .rse c _ _, k, env => k.ex c env
  | .ded, _, _ => False
  | .rcl t e, k, env => EX C (fun x => k.ex x env) e env fun d => k.nx (match t with
    | some i => env.set i (some d)
    | none => env)
  | .rrt e, k, env => EX C (fun x => k.ex x env) e env k.rt
  | .tryx b cs _ n su, k, env => W C b { k with ex := fun x env' => if x ∈ cs then k.nx ((SUw su x (env'.set n none)).set n none) else k.ex x env' } env
  | .fomP x c y, k, env => atV env x fun d => ∃ xs ys, d = .lst xs ∧ xs[c]? = some (.lst ys) ∧ fomW (fun i d Q => updP [(c : Int), (i : Int)] d (fun d0 Q => isL d0 ∧ E C .non ((env.set y none).set x (some d)) fun z => muW .clr d0 z Q) Q) ys.length 0 d fun d' => k.nx ((env.set y none).set x (some d'))
  | .fop _ g x a b, k, env => atV env x fun d => E C a env fun w => popW d none fun z d' => p2 .idx w z fun v => itD v fun ds => forW (fun d env' nx => G0 g d env' fun env2 => W C b { nx := nx, ct := nx, bk := k.nx, rt := k.rt, ex := k.ex } env2) k.nx ds (env.set x (some d'))
  | .cio x f es, k, env => atV env x fun d => Es C es env fun ds => C f (d :: ds) fun d' => k.nx (env.set x (some d'))
/-- a def: its number of parameters, of slots, its body -/
structure Fn where
  np : Nat
  ns : Nat
  body : CS
  ini : Option (Nat × CE) := none
  io : Bool := false
  bas : Option (Nat × CE) := none
def Cr (FT : List Fn) : Nat → (Ex → Prop) → Nat → List D → (D → Prop) → Prop
  | 0, _, _, _, _ => False
  | k + 1, X, f, args, Q => match FT[f]? with
    | some fi => match fi.ini with
      | none => match fi.io with
        | false => args.length = fi.np ∧ W ⟨Cr FT k⟩ fi.body { nx := fun _ => Q .non, rt := Q, ex := fun x _ => X x } (args.map some ++ List.replicate (fi.ns - fi.np) none)
        | true => args.length = fi.np ∧ W ⟨Cr FT k⟩ fi.body { nx := fun env => atV env 0 Q, rt := fun _ => False } (args.map some ++ List.replicate (fi.ns - fi.np) none)
      | some (c, es) => args.length + 1 = fi.np ∧ match fi.bas with
        | none => W ⟨Cr FT k⟩ fi.body { nx := fun env => Es ⟨Cr FT k⟩ es env fun ds => Q (.obj c ds), rt := fun _ => False, ex := fun x _ => X x } (none :: (args.map some ++ List.replicate (fi.ns - fi.np) none))
        | some (fb, us) => Es ⟨Cr FT k⟩ us (none :: (args.map some ++ List.replicate (fi.ns - fi.np) none)) fun bs => Cr FT k X fb bs fun d => ∃ cb ds0, d = .obj cb ds0 ∧
          W ⟨Cr FT k⟩ fi.body { nx := fun env => Es ⟨Cr FT k⟩ es env fun ds => Q (.obj c (ds0 ++ ds)), rt := fun _ => False, ex := fun x _ => X x } (none :: (args.map some ++ List.replicate (fi.ns - fi.np) none))
    | none => False
def Cw (FT : List Fn) (k : Nat) : CallW := ⟨Cr FT k⟩
end Pv

set_option maxRecDepth 100000
set_option maxHeartbeats 1000000
namespace Pv
open PySem L2
/-! ### shapes of the given syntax -/
def visB (sc : Scope) (x : Str) : Bool := match sc.names.lookup x with
  | some .local => true
  | some .cell => true
  | some .free => true
  | _ => false
def locB (sc : Scope) (x : Str) : Bool := match sc.names.lookup x with
  | some .local => true
  | some .cell => true
  | _ => false
def glB (sc : Scope) (x : Str) : Bool := decide (sc.names.lookup x = some .globalImplicit)
def nmB (x : Str) : Bool := !(x == ("__debug__" : Str)) && !(x == ("__classdict__" : Str)) && !decide (x = ("__name__" : Str))
def plainB : Expr → Bool
  | .BoolOp .. => true
  | .BinOp .. => true
  | .UnaryOp .. => true
  | .IfExp .. => true
  | .Dict .. => true
  | .ListComp .. => true
  | .Compare .. => true
  | .Call .. => true
  | .Constant .. => true
  | .Attribute .. => true
  | .Subscript .. => true
  | .Name .. => true
  | .List .. => true
  | .Tuple .. => true
  | _ => false
theorem vis_of {sc : Scope} {x : Str} (h : visB sc x = true) : Vis sc x := by
  unfold visB at h
  unfold Vis
  split at h <;> simp_all
theorem loc_of {sc : Scope} {x : Str} (h : locB sc x = true) : L2.Loc sc x := by
  unfold locB at h
  unfold L2.Loc
  split at h <;> simp_all
theorem gl_of {X : Cx} {sc : Scope} {x : Str} (e : X.env.scope = sc) (h : glB sc x = true) : Gl X x := by
  subst e
  have q : X.env.scope.names.lookup x = some .globalImplicit := of_decide_eq_true h
  exact q
theorem nm_of {x : Str} (h : nmB x = true) : (x == ("__debug__" : Str)) = false ∧ (x == ("__classdict__" : Str)) = false ∧ x ≠ ("__name__" : Str) := by
  simpa [nmB, and_assoc] using h
theorem plain_star {e : Expr} {es : List Expr} {env : PySem.Env} (h : plainB e = true) : starEach (e :: es) env = (false, eval e env) :: starEach es env := by
  cases e <;> first | rfl | cases h
theorem plain_ix {e : Expr} (h : plainB e = true) : PlainIx e := by
  cases e <;> first | exact fun _ _ => rfl | cases h
theorem plain_fold {e : Expr} {env : PySem.Env} (h : plainB e = true) : ∀ x, foldedSetIterable e env x = pure x := by
  cases e <;> first | exact fun _ => rfl | cases h
theorem plain_mark {e : Expr} {op : CmpOp} (h : plainB e = true) : behindInMarks op e = false := by
  cases e <;> first | rfl | cases h
/-- a test that is a plain value's truth -/
def valTest : Expr → Bool
  | .UnaryOp .Not _ _ => false
  | .BoolOp .. => false
  | .IfExp .. => false
  | .Compare .. => false
  | _ => true
def boolB : Expr → Bool
  | .BoolOp .. => true
  | _ => false
theorem val_test {e : Expr} {env : PySem.Env} (h : valTest e = true) : ∀ whole, isTrue e env whole = (do let v ← whole; standAt e.pos; holding [v] (truthy v)) := by
  intro whole
  cases e
  case UnaryOp op x p => cases op <;> first | rfl | cases h
  all_goals first | rfl | cases h
def noComp : Expr → Bool
  | .ListComp .. => false
  | .SetComp .. => false
  | .DictComp .. => false
  | _ => true
theorem no_swap {e : Expr} {t : Option Expr} {l : Nat} {env : PySem.Env} (h : noComp e = true) : swapsWith e t l env = pure false := by
  cases e <;> first | rfl | cases h
/-- the value may be a comprehension where the target is no plain local name -/
def noSw (sc : Scope) (x : Str) (e : Expr) : Bool := noComp e || decide (sc.names.lookup x = some .cell)
def noSub (_ : Expr) : Bool := true
theorem no_swapC {sc : Scope} {x : Str} {e : Expr} {p : Pos} {l : Nat} {env : PySem.Env} (q : env.scope = sc) (h : noSw sc x e = true) : swapsWith e (some (.Name x p)) l env = pure false := by
  unfold noSw at h
  rw [Bool.or_eq_true] at h
  rcases h with h | h
  · exact no_swap h
  · have h := of_decide_eq_true h
    subst q
    have : (env.kindOf x == some NameKind.local) = false := by
      unfold Env.kindOf
      rw [h]
      rfl
    cases e <;> first | rfl | simp only [swapsWith, this, Bool.and_false, Bool.false_and]
theorem no_swapSub {o j e : Expr} {p : Pos} {l : Nat} {env : PySem.Env} : swapsWithSole [.Subscript o j p] e l env = pure false := by
  cases e <;> rfl

def asUn (op : UnaryOp) : Expr → Option Expr
  | .UnaryOp o x _ => if o = op then some x else none
  | _ => none
theorem asUn_of {op : UnaryOp} {e x : Expr} (h : asUn op e = some x) : ∃ pos, e = .UnaryOp op x pos := by
  unfold asUn at h
  split at h
  · split at h
    · rename_i e; subst e; cases h; exact ⟨_, rfl⟩
    · cases h
  · cases h
def asBin (op : Operator) : Expr → Option (Expr × Expr)
  | .BinOp x o y _ => if o = op then some (x, y) else none
  | _ => none
theorem asBin_of {op : Operator} {e x y : Expr} (h : asBin op e = some (x, y)) : ∃ pos, e = .BinOp x op y pos := by
  unfold asBin at h
  split at h
  · split at h
    · rename_i e; subst e; cases h; exact ⟨_, rfl⟩
    · cases h
  · cases h
def asCmp (op : CmpOp) : Expr → Option (Expr × Expr)
  | .Compare x [o] [y] _ => if o = op ∧ plainB y = true then some (x, y) else none
  | _ => none
theorem asCmp_of {op : CmpOp} {e x y : Expr} (h : asCmp op e = some (x, y)) : ∃ pos, e = .Compare x [op] [y] pos ∧ plainB y = true := by
  unfold asCmp at h
  split at h
  · split at h
    · rename_i e; obtain ⟨e, p⟩ := e; subst e; cases h; exact ⟨_, rfl, p⟩
    · cases h
  · cases h
/-- a op1 b op2 c -/
def asChn (op op' : CmpOp) : Expr → Option (Expr × Expr × Expr)
  | .Compare x [o, o'] [y, z] _ => if o = op ∧ o' = op' ∧ plainB y = true ∧ plainB z = true then some (x, y, z) else none
  | _ => none
theorem asChn_of {op op' : CmpOp} {e x y z : Expr} (h : asChn op op' e = some (x, y, z)) : ∃ pos, e = .Compare x [op, op'] [y, z] pos ∧ plainB y = true ∧ plainB z = true := by
  unfold asChn at h
  split at h
  · split at h
    · rename_i e; obtain ⟨rfl, rfl, p, q⟩ := e; cases h; exact ⟨_, rfl, p, q⟩
    · cases h
  · cases h
/-- less, more -/
def ordOp : P2 → Option CmpOp
  | .lt => some .Lt
  | .le => some .LtE
  | .gt => some .Gt
  | .ge => some .GtE
  | _ => none
def asCmpN (op : CmpOp) : Expr → Option Expr
  | .Compare x [o] [.Constant .none _ _] _ => if o = op then some x else none
  | _ => none
theorem asCmpN_of {op : CmpOp} {e x : Expr} (h : asCmpN op e = some x) : ∃ pos j p, e = .Compare x [op] [.Constant .none j p] pos := by
  unfold asCmpN at h
  split at h
  · split at h
    · rename_i e; subst e; cases h; exact ⟨_, _, _, rfl⟩
    · cases h
  · cases h
def asCmpB (b : Bool) : Expr → Option Expr
  | .Compare x [.Is] [.Constant (.bool c) _ _] _ => if c = b then some x else none
  | _ => none
theorem asCmpB_of {b : Bool} {e x : Expr} (h : asCmpB b e = some x) : ∃ pos j p, e = .Compare x [.Is] [.Constant (.bool b) j p] pos := by
  unfold asCmpB at h
  split at h
  · split at h
    · rename_i e; subst e; cases h; exact ⟨_, _, _, rfl⟩
    · cases h
  · cases h
/-- nm(x), nm not shadowed -/
def asB1 (nm : Str) (sc : Scope) : Expr → Option Expr
  | .Call (.Name f _) [x] [] _ => if f = nm ∧ glB sc nm = true ∧ plainB x = true then some x else none
  | _ => none
theorem asB1_of {nm : Str} {sc : Scope} {e x : Expr} (h : asB1 nm sc e = some x) : ∃ p pos, e = .Call (.Name nm p) [x] [] pos ∧ glB sc nm = true ∧ plainB x = true := by
  unfold asB1 at h
  split at h
  · split at h
    · rename_i e; obtain ⟨rfl, g, p⟩ := e; cases h; exact ⟨_, _, rfl, g, p⟩
    · cases h
  · cases h
def asB2 (nm : Str) (sc : Scope) : Expr → Option (Expr × Expr)
  | .Call (.Name f _) [x, y] [] _ => if f = nm ∧ glB sc nm = true ∧ plainB x = true ∧ plainB y = true then some (x, y) else none
  | _ => none
theorem asB2_of {nm : Str} {sc : Scope} {e x y : Expr} (h : asB2 nm sc e = some (x, y)) : ∃ p pos, e = .Call (.Name nm p) [x, y] [] pos ∧ glB sc nm = true ∧ plainB x = true ∧ plainB y = true := by
  unfold asB2 at h
  split at h
  · split at h
    · rename_i e; obtain ⟨rfl, g, p, q⟩ := e; cases h; exact ⟨_, _, rfl, g, p, q⟩
    · cases h
  · cases h
def asB3 (nm : Str) (sc : Scope) : Expr → Option (Expr × Expr × Expr)
  | .Call (.Name f _) [x, y, z] [] _ => if f = nm ∧ glB sc nm = true ∧ plainB x = true ∧ plainB y = true ∧ plainB z = true then some (x, y, z) else none
  | _ => none
theorem asB3_of {nm : Str} {sc : Scope} {e x y z : Expr} (h : asB3 nm sc e = some (x, y, z)) : ∃ p pos, e = .Call (.Name nm p) [x, y, z] [] pos ∧ glB sc nm = true ∧ plainB x = true ∧ plainB y = true ∧ plainB z = true := by
  unfold asB3 at h
  split at h
  · split at h
    · rename_i e; obtain ⟨rfl, g, p, q, r⟩ := e; cases h; exact ⟨_, _, rfl, g, p, q, r⟩
    · cases h
  · cases h
/-- a receiver of a method -/
def recvB : Expr → Bool
  | .Call (.Name _ _) [] [] _ => false
  | _ => true
theorem recv_of {o : Expr} {m : Str} {env : PySem.Env} (h : recvB o = true) : attributeBase o m env (eval o env) = eval o env := by
  unfold attributeBase
  split
  · cases h
  · rfl
def asM0 (nm : Str) : Expr → Option Expr
  | .Call (.Attribute o m ap) [] [] pos => if m = nm ∧ recvB o = true ∧ (ap.endLine == pos.line) = true then some o else none
  | _ => none
theorem asM0_of {nm : Str} {e o : Expr} (h : asM0 nm e = some o) : ∃ ap pos, e = .Call (.Attribute o nm ap) [] [] pos ∧ recvB o = true ∧ (ap.endLine == pos.line) = true := by
  unfold asM0 at h
  split at h
  · split at h
    · rename_i e; obtain ⟨rfl, g, p⟩ := e; cases h; exact ⟨_, _, rfl, g, p⟩
    · cases h
  · cases h
def asM1 (nm : Str) : Expr → Option (Expr × Expr)
  | .Call (.Attribute o m ap) [x] [] pos => if m = nm ∧ recvB o = true ∧ (ap.endLine == pos.line) = true ∧ plainB x = true then some (o, x) else none
  | _ => none
theorem asM1_of {nm : Str} {e o x : Expr} (h : asM1 nm e = some (o, x)) : ∃ ap pos, e = .Call (.Attribute o nm ap) [x] [] pos ∧ recvB o = true ∧ (ap.endLine == pos.line) = true ∧ plainB x = true := by
  unfold asM1 at h
  split at h
  · split at h
    · rename_i e; obtain ⟨rfl, g, p⟩ := e; cases h; exact ⟨_, _, rfl, g, p⟩
    · cases h
  · cases h
def asM2 (nm : Str) : Expr → Option (Expr × Expr × Expr)
  | .Call (.Attribute o m ap) [x, y] [] pos => if m = nm ∧ recvB o = true ∧ (ap.endLine == pos.line) = true ∧ plainB x = true ∧ plainB y = true then some (o, x, y) else none
  | _ => none
theorem asM2_of {nm : Str} {e o x y : Expr} (h : asM2 nm e = some (o, x, y)) : ∃ ap pos, e = .Call (.Attribute o nm ap) [x, y] [] pos ∧ recvB o = true ∧ (ap.endLine == pos.line) = true ∧ plainB x = true ∧ plainB y = true := by
  unfold asM2 at h
  split at h
  · split at h
    · rename_i e; obtain ⟨rfl, g, p, q⟩ := e; cases h; exact ⟨_, _, rfl, g, p, q⟩
    · cases h
  · cases h
/-- isinstance(x, ty) -/
def asIsi (ty : Str) (sc : Scope) (e : Expr) : Option Expr := match asB2 "isinstance" sc e with
  | some (x, .Name f _) => if f = ty ∧ glB sc ty = true ∧ nmB ty = true then some x else none
  | _ => none
theorem asIsi_of {ty : Str} {sc : Scope} {e x : Expr} (h : asIsi ty sc e = some x) : ∃ p q pos, e = .Call (.Name ("isinstance" : Str) p) [x, .Name ty q] [] pos ∧ glB sc "isinstance" = true ∧ plainB x = true ∧ glB sc ty = true ∧ nmB ty = true := by
  unfold asIsi at h
  split at h
  · rename_i q
    split at h
    · rename_i z
      obtain ⟨rfl, g, n⟩ := z
      cases h
      obtain ⟨p, pos, rfl, g1, p1, _⟩ := asB2_of q
      exact ⟨_, _, _, rfl, g1, p1, g, n⟩
    · cases h
  · cases h
def asSub : Expr → Option (Expr × Expr)
  | .Subscript x i _ => if plainB i = true then some (x, i) else none
  | _ => none
theorem asSub_of {e x y : Expr} (h : asSub e = some (x, y)) : ∃ pos, e = .Subscript x y pos ∧ plainB y = true := by
  unfold asSub at h
  split at h
  · split at h
    · rename_i p; cases h; exact ⟨_, rfl, p⟩
    · cases h
  · cases h
/-- x op rest -/
def asBool (op : BoolOp) : Expr → Option (Expr × Expr)
  | .BoolOp o [x, y] _ => if o = op then some (x, y) else none
  | .BoolOp o (x :: y :: z :: r) p => if o = op then some (x, .BoolOp o (y :: z :: r) p) else none
  | _ => none
def strOf (ty : String) : Str := Str.ofString ty
def tys : List String := ["int", "bool", "str", "list", "tuple", "dict"]
def sh1 : P1 → Scope → Expr → Option Expr
  | .neg, _, e => asUn .USub e
  | .isN, _, e => asCmpN .Is e
  | .notN, _, e => asCmpN .IsNot e
  | .abs, sc, e => asB1 "abs" sc e
  | .len, sc, e => asB1 "len" sc e
  | .isi ty, sc, e => if ty ∈ tys then asIsi (strOf ty) sc e else none
  | .min1, sc, e => asB1 "min" sc e
  | .max1, sc, e => asB1 "max" sc e
  | .sum1, sc, e => asB1 "sum" sc e
  | .all1, sc, e => asB1 "all" sc e
  | .any1, sc, e => asB1 "any" sc e
  | .int1, sc, e => asB1 "int" sc e
  | .str1, sc, e => asB1 "str" sc e
  | .list1, sc, e => asB1 "list" sc e
  | .tup1, sc, e => asB1 "tuple" sc e
  | .srt1, sc, e => asB1 "sorted" sc e
  | .lset, sc, e => match asB1 "len" sc e with
    | some y => asB1 "set" sc y
    | none => none
  | .isT, _, e => asCmpB true e
  | .isF, _, e => asCmpB false e
def sh2 : P2 → Scope → Expr → Option (Expr × Expr)
  | .add, _, e => asBin .Add e
  | .addt, _, e => asBin .Add e
  | .sub, _, e => asBin .Sub e
  | .mul, _, e => asBin .Mult e
  | .fdiv, _, e => asBin .FloorDiv e
  | .mod, _, e => asBin .Mod e
  | .pow, _, e => asBin .Pow e
  | .eq, _, e => asCmp .Eq e
  | .ne, _, e => asCmp .NotEq e
  | .lt, _, e => asCmp .Lt e
  | .le, _, e => asCmp .LtE e
  | .gt, _, e => asCmp .Gt e
  | .ge, _, e => asCmp .GtE e
  | .idx, _, e => asSub e
  | .isin, _, e => asCmp .In e
  | .nin, _, e => asCmp .NotIn e
def shB2 : B2 → Scope → Expr → Option (Expr × Expr)
  | .dm, sc, e => asB2 "divmod" sc e
  | .min2, sc, e => asB2 "min" sc e
  | .max2, sc, e => asB2 "max" sc e
def nmM0 : M0 → Str
  | .strip => "strip"
def nmM1 : M1 → Str
  | .split => "split"
  | .part => "partition"
  | .join => "join"
  | .sw => "startswith"
  | .ew => "endswith"
  | .find => "find"
  | .rfind => "rfind"
  | .scount => "count"
  | .sidx => "index"
  | .lcnt => "count"
  | .lidx => "index"
  | .dget => "get"
/-- the names of the defs, of the module's texts -/
structure CT where
  cn : List (Str × List Str) := []
  ms : List (Nat × Str × Nat) := []
  mks : List (Nat × Nat) := []
  xs : List (Str × List Nat) := []
  sub : List (Nat × Nat) := []
  bas : List (Nat × Nat) := []
  ne : List (Nat × Nat) := []
structure Nm where
  fs : List Str
  gs : List (Str × Str)
  ct : CT := {}
/-- an instance is told by a name, an attribute, an item -/
def nameB : Expr → Bool
  | .Name .. => true
  | .Attribute .. => true
  | .Subscript .. => true
  | _ => false
def hasF (ct : CT) (f : Str) (i c : Nat) : Bool := match ct.cn[c]? with
  | some p => decide (p.2[i]? = some f)
  | none => false
def hasN (ct : CT) (x : Str) (c : Nat) : Bool := match ct.cn[c]? with
  | some p => decide (p.1 = x)
  | none => false
/-- only walked -/
def isIt : CE → Bool
  | .rng1 _ => true
  | .rng2 _ _ => true
  | .rng3 _ _ _ => true
  | .ien _ => true
  | .izp _ _ => true
  | .irv _ => true
  | .irr _ => true
  | .ikd _ => true
  | _ => false
def pairIt : CE → Bool
  | .ien _ => true
  | .izp _ _ => true
  | _ => false
def isTp : TG0 → Bool
  | .tp _ => true
  | _ => false
def mG (N : List Str) : TG0 → Scope → Expr → Bool
  | .nm i, sc, e => match e with
    | .Name x _ => decide (N[i]? = some x) && locB sc x
    | _ => false
  | .tp is, sc, e => match e with
    | .Tuple xs _ _ => go is sc xs
    | _ => false
where go : List Nat → Scope → List Expr → Bool
  | [], _, [] => true
  | i :: is, sc, .Name x _ :: xs => decide (N[i]? = some x) && locB sc x && go is sc xs
  | _, _, _ => false
def tgIn : TG0 → List Nat → Bool
  | .nm i, own => decide (i ∈ own)
  | .tp is, own => is.all fun i => decide (i ∈ own)
def ownS (N : List Str) (own : List Nat) : List (Str × Nat) := own.map fun i => ((N[i]?).getD Str.empty, i)
mutual
/-- e is the expression c: N the names by slot, fns the defs' names; w: it is walked -/
def mE (N : List Str) (fns : Nm) : Bool → CE → Scope → Expr → Bool
  | _, .var i, sc, e => match e with
    | .Name x _ => decide (N[i]? = some x) && visB sc x && nmB x
    | _ => false
  | _, .int i, _, e => match e with
    | .Constant (.int j) _ _ => decide (i = j)
    | _ => false
  | _, .str i, _, e => match e with
    | .Constant (.str j) _ _ => decide (i = j)
    | _ => false
  | _, .bl i, _, e => match e with
    | .Constant (.bool j) _ _ => decide (i = j)
    | _ => false
  | _, .non, _, e => match e with
    | .Constant .none _ _ => true
    | _ => false
  | _, .o1 p a, sc, e => match sh1 p sc e with
    | some x => mE N fns false a sc x
    | none => false
  | _, .o2 p a b, sc, e => match sh2 p sc e with
    | some (x, y) => mE N fns false a sc x && mE N fns false b sc y
    | none => false
  | _, .and a b, sc, e => match asBool .And e with
    | some (x, y) => mE N fns false a sc x && mE N fns false b sc y
    | none => false
  | _, .or a b, sc, e => match asBool .Or e with
    | some (x, y) => mE N fns false a sc x && mE N fns false b sc y
    | none => false
  | _, .not a, sc, e => match asUn .Not e with
    | some x => mE N fns false a sc x
    | none => false
  | _, .ifx c a b, sc, e => match e with
    | .IfExp t x y _ => mE N fns false c sc t && mE N fns false a sc x && mE N fns false b sc y
    | _ => false
  | _, .lst es, sc, e => match e with
    | .List xs _ => mEs N fns es sc xs
    | _ => false
  | _, .tup es, sc, e => match e with
    | .Tuple xs _ _ => mEs N fns es sc xs
    | _ => false
  | _, .tupo es, sc, e => match e with
    | .Tuple xs _ _ => mEs N fns es sc xs
    | _ => false
  | _, .call f es, sc, e => match e with
    | .Call (.Name x _) xs [] _ => decide (fns.fs[f]? = some x) && glB sc x && nmB x && mEs N fns es sc xs
    | _ => false
  | _, .calp f es _, sc, e => match e with
    | .Call (.Name x _) xs [] _ => decide (fns.fs[f]? = some x) && glB sc x && nmB x && mEs N fns es sc xs
    | _ => false
  | _, .b2 f a b, sc, e => match shB2 f sc e with
    | some (x, y) => mE N fns false a sc x && mE N fns false b sc y
    | none => false
  | _, .m0 m a, sc, e => match asM0 (nmM0 m) e with
    | some x => mE N fns false a sc x
    | none => false
  | _, .m1 m a b, sc, e => match asM1 (nmM1 m) e with
    | some (x, y) => mE N fns false a sc x && mE N fns false b sc y
    | none => false
  | _, .slc _ bl bh a lo hi, sc, e => match e with
    | .Subscript x (.Slice l h none _) _ => mE N fns false a sc x && (match l with
        | some y => bl && mE N fns false lo sc y
        | none => !bl) && (match h with
        | some y => bh && mE N fns false hi sc y
        | none => !bh)
    | _ => false
  | _, .gs x v, sc, e => match e with
    | .Name y _ => decide (x = y) && glB sc y && nmB y && decide ((x, v) ∈ fns.gs)
    | _ => false
  | _, .fit _ a, sc, e => valTest e && !boolB e && plainB e && mE N fns false a sc e
  | _, .chn p q a b c, sc, e => match ordOp p, ordOp q with
    | some op, some op' => match asChn op op' e with
      | some (x, y, z) => mE N fns false a sc x && mE N fns false b sc y && mE N fns false c sc z
      | none => false
    | _, _ => false
  | _, .isc c x cs a, sc, e => match asIsi x sc e with
    | some y => hasN fns.ct x c && mE N fns false a sc y && cs.all fun c' => decide ((c', c) ∈ fns.ct.sub)
    | none => false
  | _, .fld f i cs a, sc, e => match e with
    | .Attribute o f' _ => decide (f' = f) && recvB o && mE N fns false a sc o && cs.all (hasF fns.ct f i)
    | _ => false
  | _, .meth m tb a es, sc, e => match e with
    | .Call (.Attribute o m' ap) xs [] pos => decide (m' = m) && recvB o && (ap.endLine == pos.line) && decide (xs.length < 30) && mE N fns false a sc o && mEs N fns es sc xs && tb.all fun p => decide ((p.1, m, p.2) ∈ fns.ct.ms)
    | _ => false
  | _, .make c f _ es, sc, e => match e with
    | .Call (.Name x _) (y :: ys) [] _ => hasN fns.ct x c && glB sc x && nmB x && mEs N fns es sc (y :: ys) && decide ((c, f) ∈ fns.ct.mks)
    | _ => false
  | _, .dic0 _, _, e => match e with
    | .Dict [] [] _ => true
    | _ => false
  | _, .dic1 a b, sc, e => match e with
    | .Dict [some x] [y] _ => mE N fns false a sc x && mE N fns false b sc y
    | _ => false
  | _, .lrng a, sc, e => match asB1 "list" sc e with
    | some x => match asB1 "range" sc x with
      | some y => mE N fns false a sc y
      | none => false
    | none => false
  | _, .comp own g elt it c, sc, e => match e with
    | .ListComp el [⟨tg, iter, ifs, 0⟩] scope _ => blkC N sc scope (ownS N own) && tgIn g own && mG N g scope tg && (isIt it || plainB iter) && (!pairIt it || isTp g) && mE N fns true it sc iter && mE N fns false elt (relS scope sc) el && (match ifs with
        | [] => (match c with
          | .bl true => true
          | _ => false)
        | [t] => mE N fns false c (relS scope sc) t
        | _ => false)
    | _ => false
  | true, .rng1 a, sc, e => match asB1 "range" sc e with
    | some x => mE N fns false a sc x
    | none => false
  | true, .rng2 a b, sc, e => match asB2 "range" sc e with
    | some (x, y) => mE N fns false a sc x && mE N fns false b sc y
    | none => false
  | true, .rng3 a b c, sc, e => match asB3 "range" sc e with
    | some (x, y, z) => mE N fns false a sc x && mE N fns false b sc y && mE N fns false c sc z
    | none => false
  | true, .ien a, sc, e => match asB1 "enumerate" sc e with
    | some x => mE N fns false a sc x
    | none => false
  | true, .izp a b, sc, e => match asB2 "zip" sc e with
    | some (x, y) => mE N fns false a sc x && mE N fns false b sc y
    | none => false
  | true, .ikd a, sc, e => plainB e && mE N fns false a sc e
  | true, .irr a, sc, e => match asB1 "reversed" sc e with
    | some x => match asB1 "range" sc x with
      | some y => mE N fns false a sc y
      | none => false
    | none => false
  | true, .irv a, sc, e => match asB1 "reversed" sc e with
    | some x => mE N fns false a sc x
    | none => false
  | _, _, _, _ => false
def mEs (N : List Str) (fns : Nm) : CE → Scope → List Expr → Bool
  | .nil, _, es => match es with
    | [] => true
    | _ => false
  | .cons a b, sc, es => match es with
    | x :: xs => plainB x && mE N fns false a sc x && mEs N fns b sc xs
    | [] => false
  | _, _, _ => false
end
/-- what is walked -/
def mI (N : List Str) (fns : Nm) (g : TG0) (c : CE) (sc : Scope) (e : Expr) : Bool := (isIt c || plainB e) && (!pairIt c || isTp g) && mE N fns true c sc e
/-- name = [..]: the store within the comprehension -/
def lcOk (sc : Scope) (x : Str) (xp sp : Pos) : Expr → Bool
  | .ListComp _ _ scope p => decide (sc.kind = .function) && decide (sc.names.lookup x = some .local) && (xp.line == p.line) && !(scope.names.any fun (n, k) => n == x && (k == .local || k == .cell))
  | _ => false
def isCmp : CE → Bool
  | .comp .. => true
  | _ => false
/-- a list's place: a name, or items of it -/
def isC : CE → Bool
  | .int _ => true
  | .str _ => true
  | .bl _ => true
  | .non => true
  | _ => false
def mPl (N : List Str) (fns : Nm) (x : Nat) : List CE → Scope → Expr → Bool
  | [], sc, e => mE N fns false (.var x) sc e
  | [c], sc, e => match asSub e with
    | some (o, i) => mE N fns false (.var x) sc o && mE N fns false c sc i
    | none => false
  | [c, c2], sc, e => match asSub e with
    | some (o, i) => (match asSub o with
      | some (o2, i2) => mE N fns false (.var x) sc o2 && mE N fns false c sc i2
      | none => false) && mE N fns false c2 sc i && (isC c && isC c2)
    | none => false
  | _, _, _ => false
def asDisc : Stmt → Option Expr
  | .Expr v _ => some v
  | _ => none
def nmMu : Mu → Str
  | .app => "append"
  | .ext => "extend"
  | .rev => "reverse"
  | .clr => "clear"
  | .popD => "pop"
def binOf : P2 → Option Operator
  | .add => some .Add
  | .addt => some .Add
  | .sub => some .Sub
  | .mul => some .Mult
  | .fdiv => some .FloorDiv
  | .mod => some .Mod
  | .pow => some .Pow
  | _ => none
def noTup : Expr → Bool
  | .Tuple .. => false
  | _ => true
def mApm (N : List Str) (fns : Nm) (x y : Nat) (sc : Scope) : Stmt → Bool
  | .Expr v _ => (match asM1 (nmMu .app) v with
        | some (o, z) => mPl N fns x [] sc o && mE N fns false (.var y) sc z
        | none => false)
  | _ => false
def mAsg (N : List Str) (fns : Nm) (i : Nat) (e : CE) (sc : Scope) : Stmt → Bool
  | .Assign [.Name x _] v _ => decide (N[i]? = some x) && locB sc x && noComp v && mE N fns false e sc v
  | _ => false
/-- a call that may raise -/
def isRC : CE → Bool
  | .call .. => true
  | .meth .. => true
  | _ => false
/-- isinstance(e, X) within a suite: e is slot n -/
def mXB (N : List Str) (fns : Nm) (n : Nat) : XB → Scope → Expr → Bool
  | .isi cs x, sc, e => match asB2 "isinstance" sc e with
    | some (o, .Name f _) => decide (f = x) && glB sc x && nmB x && mE N fns false (.var n) sc o && ((decide (x = ("ValueError" : Str)) && decide (cs = List.range fns.ct.xs.length)) || decide ((x, cs) ∈ fns.ct.xs))
    | _ => false
  | _, _, _ => false
def mXBs (N : List Str) (fns : Nm) (n : Nat) : List XB → Scope → List Expr → Bool
  | [], _, [] => true
  | b :: bs, sc, e :: es => mXB N fns n b sc e && mXBs N fns n bs sc es
  | _, _, _ => false
def mXE (N : List Str) (fns : Nm) (n : Nat) : XE → Scope → Expr → Bool
  | .bs l, sc, e => match e with
    | .List es _ => mXBs N fns n l sc es
    | _ => false
  | .b a, sc, e => mXB N fns n a sc e
  | .c c, sc, e => isC c && mE N fns false c sc e
def mSu (N : List Str) (fns : Nm) (n : Nat) : List (Nat × XE) → Scope → List Stmt → Bool
  | [], _, [] => true
  | (y, xe) :: r, sc, .Assign [.Name z _] v _ :: ss => decide (N[y]? = some z) && locB sc z && noComp v && decide (y ≠ n) && mXE N fns n xe sc v && mSu N fns n r sc ss
  | _, _, _ => false
mutual
def mS (N : List Str) (fns : Nm) : CS → Scope → Stmt → Bool
  | .pas, _, s => match s with
    | .Pass _ => true
    | .Expr (.Constant (.str _) _ _) _ => true
    | _ => false
  | .asg i e, sc, s => match s with
    | .Assign [.Name x xp] v sp => decide (N[i]? = some x) && locB sc x && (noSw sc x v || (isCmp e && lcOk sc x xp sp v)) && mE N fns false e sc v
    | _ => false
  | .augn i p e, sc, s => match s with
    | .AugAssign (.Name x _) op v _ => decide (N[i]? = some x) && locB sc x && decide (binOf p = some op) && decide (p = .add ∨ p = .sub) && mE N fns false e sc v
    | _ => false
  | .mov i j, sc, s => match s with
    | .Assign [.Name x _] v _ => decide (N[i]? = some x) && locB sc x && noComp v && mE N fns false (.var j) sc v
    | _ => false
  | .ex e, sc, s => match s with
    | .Expr v _ => noComp v && mE N fns false e sc v
    | _ => false
  | .ret e, sc, s => match s with
    | .Return (some v) _ => mE N fns false e sc v
    | _ => false
  | .ite c a b, sc, s => match s with
    | .If t x y _ => mE N fns false c sc t && mSs N fns a sc x && mSs N fns b sc y
    | _ => false
  | .whl _ c b, sc, s => match s with
    | .While t x [] _ => mE N fns false c sc t && mSs N fns b sc x
    | _ => false
  | .for _ g it b, sc, s => match s with
    | .For t i x [] _ => mG N g sc t && mI N fns g it sc i && mSs N fns b sc x
    | _ => false
  | .brk, _, s => match s with
    | .Break _ => true
    | _ => false
  | .cnt, _, s => match s with
    | .Continue _ => true
    | _ => false
  | .unp is e, sc, s => match s with
    | .Assign [t] v _ => mG N (.tp is) sc t && noComp v && noTup v && mE N fns false e sc v
    | _ => false
  | .mut x p m e, sc, s => match s with
    | .Expr v _ => match m with
      | .app => (match asM1 (nmMu .app) v with
        | some (o, y) => mPl N fns x p sc o && mE N fns false e sc y
        | none => false)
      | .ext => (match asM1 (nmMu .ext) v with
        | some (o, y) => mPl N fns x p sc o && mE N fns false e sc y
        | none => false)
      | m => (match asM0 (nmMu m) v, e with
        | some o, .non => mPl N fns x p sc o
        | _, _ => false)
    | _ => false
  | .appm x p y, sc, s => match s with
    | .Expr v _ => (match asM1 (nmMu .app) v with
        | some (o, z) => mPl N fns x p sc o && mE N fns false (.var y) sc z
        | none => false)
    | _ => false
  | .sto x p i e, sc, s => match s with
    | .Assign [.Subscript o j _] v _ => noSub v && plainB j && mPl N fns x p sc o && mE N fns false i sc j && mE N fns false e sc v
    | _ => false
  | .aug x p i q e, sc, s => match s with
    | .AugAssign (.Subscript o j _) op v _ => plainB j && mPl N fns x p sc o && mE N fns false i sc j && mE N fns false e sc v && decide (binOf q = some op) && decide (q = .add ∨ q = .sub)
    | _ => false
  | .fol _ g x b, sc, s => match s with
    | .For t i bd [] _ => mG N g sc t && mE N fns false (.var x) sc i && mSs N fns b sc bd
    | _ => false
  | .fom x y m e, sc, s => match s with
    | .For (.Name nx _) o [.Expr v _] [] _ => decide (N[y]? = some nx) && locB sc nx && mE N fns false (.var x) sc o && (match m with
      | .app => (match asM1 (nmMu .app) v with
        | some (o, z) => mE N fns false (.var y) sc o && mE N fns false e sc z
        | none => false)
      | .clr => (match asM0 (nmMu .clr) v, e with
        | some o, .non => mE N fns false (.var y) sc o
        | _, _ => false)
      | _ => false)
    | _ => false
  | .fomP x c y, sc, s => match s with
    | .For (.Name nx _) (.Subscript o (.Constant (.int j) j1 j2) sp) [.Expr v _] [] _ => decide (N[y]? = some nx) && locB sc nx && decide (j = (c : Int)) && mPl N fns x [.int (c : Int)] sc (.Subscript o (.Constant (.int j) j1 j2) sp) && (match asM0 (nmMu .clr) v with
        | some o2 => mE N fns false (.var y) sc o2
        | none => false)
    | _ => false
  | .fop _ g x a b, sc, s => match s with
    | .For t (.Subscript o v _) bd [] _ => mG N g sc t && plainB v && mE N fns false a sc o && (match asM0 "pop" v with
        | some r => mE N fns false (.var x) sc r
        | none => false) && mSs N fns b sc bd
    | _ => false
  | .dst x i e, sc, s => match s with
    | .Assign [.Subscript o j _] v _ => noSub v && plainB j && mPl N fns x [] sc o && mE N fns false i sc j && mE N fns false e sc v
    | _ => false
  | .popTo y x i, sc, s => match s with
    | .Assign [.Name z _] v _ => decide (N[y]? = some z) && locB sc z && (match i with
      | none => (match asM0 "pop" v with
        | some o => mE N fns false (.var x) sc o
        | none => false)
      | some i => (match asM1 "pop" v with
        | some (o, j) => mE N fns false (.var x) sc o && mE N fns false i sc j
        | none => false))
    | _ => false
  | .insm x i y, sc, s => match s with
    | .Expr v _ => (match asM2 "insert" v with
        | some (o, j, z) => mE N fns false (.var x) sc o && mE N fns false i sc j && mE N fns false (.var y) sc z
        | none => false)
    | _ => false
  | .ded, _, _ => true
  | .rse c x m, sc, s => match s with
    | .Raise (some (.Call (.Name y _) [.Constant (.str z) _ _] [] _)) none _ => decide (y = x) && decide (z = m) && glB sc x && nmB x && (match fns.ct.xs[c]? with
      | some p => decide (p.1 = x)
      | none => false)
    | _ => false
  | .rcl t e, sc, s => match t with
    | some i => match s with
      | .Assign [.Name x _] v _ => decide (N[i]? = some x) && locB sc x && noComp v && isRC e && mE N fns false e sc v
      | _ => false
    | none => match s with
      | .Expr v _ => noComp v && isRC e && mE N fns false e sc v
      | _ => false
  | .rrt e, sc, s => match s with
    | .Return (some v) _ => isRC e && mE N fns false e sc v
    | _ => false
  | .cio x f es, sc, s => match s with
    | .Expr (.Call (.Name nm _) (y :: ys) [] _) _ => decide (fns.fs[f]? = some nm) && glB sc nm && nmB nm && mE N fns false (.var x) sc y && plainB y && mEs N fns es sc ys
    | _ => false
  | _, _, _ => false
def mSs (N : List Str) (fns : Nm) : CS → Scope → List Stmt → Bool
  | .nil, _, ss => match ss with
    | [] => true
    | _ => false
  | .seq a b, sc, ss => match a with
    | .wkn _ _ => mSs N fns b sc ss
    | .dup x y e => match ss with
      | s1 :: s2 :: xs => mApm N fns x y sc s1 && mAsg N fns y e sc s2 && mSs N fns b sc xs
      | _ => false
    | _ => match ss with
      | x :: xs => mS N fns a sc x && mSs N fns b sc xs
      | [] => false
  | _, _, _ => false
end
/-- try: b / except x as n: su -/
def mTry (N : List Str) (fns : Nm) (b : CS) (cs : List Nat) (x : Str) (n : Nat) (su : List (Nat × XE)) (sc : Scope) : Stmt → Bool
  | .Try body [.ExceptHandler (some (.Name y _)) (some nm) (b0 :: ss) _] [] [] _ => mSs N fns b sc body && decide (y = x) && glB sc x && nmB x && decide (N[n]? = some nm) && decide (sc.names.lookup nm = some .local) && decide ((x, cs) ∈ fns.ct.xs) && !su.isEmpty && mSu N fns n su sc (b0 :: ss)
  | _ => false
end Pv

set_option maxRecDepth 100000
set_option maxHeartbeats 1000000
namespace Pv
open PySem L2
structure FnI where
  name : Str
  ps : List Str
  N : List Str
  fn : Fn
  sg : List T
  rt : T
  top : Bool := true
  dfs : List (List Int) := []
  dn : Bool := false
structure Glob where
  P : Program
  w : World
  K : PySem.W.Frag
  mg : Str → Option Value
  base : Heap
  cls : Nat → Addr × List Str
  fns : List FnI
  gcs : List (Str × Str)
  ct : CT
  fa : Nat → Addr
  fd : Nat → FuncData
  ec : Nat → Addr := fun _ => 0
def FTof (fns : List FnI) : List Fn := fns.map (·.fn)
section
variable (K : PySem.W.Frag) (cls : Nat → Addr × List Str)
/-- what a call (an operation) from H to H' hands back -/
def RSp (N : Addr → Prop) (H H' : Hp) (t : T) (v : V) (d : D) : Prop :=
  ∃ F, F.Nodup ∧ (∀ a ∈ F, H a = none) ∧ ReT K cls (fun a => (N a ∨ H a = none) ∧ a ∉ F) H' t v d F
inductive ArgsB (N : Addr → Prop) (H : Hp) : List T → List V → List D → Prop
  | nil : ArgsB N H [] [] []
  | cons {t : T} {ts : List T} {v : V} {vs : List V} {d : D} {ds : List D} : RepB K cls N H t v d → ArgsB N H ts vs ds → ArgsB N H (t :: ts) (v :: vs) (d :: ds)
end
theorem ArgsB.length {K cls N H} : ∀ {ts : List T} {vs : List V} {ds : List D}, ArgsB K cls N H ts vs ds → vs.length = ts.length ∧ ds.length = ts.length
  | _, _, _, .nil => ⟨rfl, rfl⟩
  | _, _, _, .cons _ r => by simp [ArgsB.length r]
/-- what an exception class's entry tells -/
structure Exc1 (K : PySem.W.Frag) (mg : Str → Option Value) (x : Str) (C : Addr) : Prop where
  gC : mg x = some (.ref C)
  xP : PySem.W.excIn K C [.type "ValueError", .type "Exception", .type "BaseException", .type "object"] "ValueError.__new__" = true
  kP : PySem.W.keepIn K (.ref C) = true
  tP : PySem.W.typeIn K (.ref C) = some (.type "type")
  ec : ExcC K C
  ve : PySem.W.kitOne K (.ref C) (.type "ValueError") = some true
structure ExOk (G : Glob) : Prop where
  one : ∀ (c : Nat) (p : Str × List Nat), G.ct.xs[c]? = some p → Exc1 G.K G.mg p.1 (G.ec c)
  sub : ∀ (c d : Nat) (q : Str × List Nat), c < G.ct.xs.length → G.ct.xs[d]? = some q → PySem.W.subIn G.K (.ref (G.ec c)) (.ref (G.ec d)) = some (decide (c ∈ q.2)) ∧ PySem.W.kitOne G.K (.ref (G.ec c)) (.ref (G.ec d)) = some (decide (c ∈ q.2))
/-- a call of f and what it lets out -/
def CwX (G : Glob) (k f : Nat) (ds : List D) (R : D → Prop) (H : Hp) (E : XK) : Prop := ∃ Xp : Ex → Prop, (Cw (FTof G.fns) k).run Xp f ds R ∧ ∀ x H', x < G.ct.xs.length → Same H H' → Xp x → E (.ref (G.ec x)) none H'
theorem CwX.none {G : Glob} {k f : Nat} {ds : List D} {R : D → Prop} {H : Hp} {E : XK} (h : Cw (FTof G.fns) k f ds R) : CwX G k f ds R H E := ⟨_, h, fun _ _ _ _ z => z.elim⟩
def spF (G : Glob) (k f : Nat) : Sp := fun vs H Q E => ∃ i ds N R, G.fns[f]? = some i ∧ vs.length = i.ps.length ∧ ArgsB G.K G.cls N H i.sg vs ds ∧ CwX G k f ds R H E ∧
  ∀ v H' d, Same H H' → RSp G.K G.cls N H H' i.rt v d → R d → Q v H'
/-- an __init__'s promise -/
def spI (G : Glob) (k f : Nat) : Sp := fun vs H Q E => ∃ i c es c2 p2 x dx us ds N R, G.fns[f]? = some i ∧ i.fn.ini = some (c, es) ∧ vs = .ref x :: us ∧ vs.length = i.ps.length ∧ G.ct.cn[c2]? = some p2 ∧ (G.cls c).2 <+: p2.2 ∧ H x = some (.ins (G.cls c2).1 dx []) ∧ ArgsB G.K G.cls N H (i.sg.drop 1) us ds ∧
  (∃ Xp : Ex → Prop, (Cw (FTof G.fns) k).run Xp f ds R ∧ ∀ y H', y < G.ct.xs.length → (∀ b u, b ≠ x → H b = some u → H' b = some u) → Xp y → E (.ref (G.ec y)) none H') ∧
  ∀ H' fs es', (∀ b u, b ≠ x → H b = some u → H' b = some u) → H' x = some (.ins (G.cls c2).1 dx fs) → fs.map (·.1) = (G.cls c).2 → Reps G.K G.cls N0 H' (fs.map (·.2)) es' → R (.obj c es') → Q .non H'
/-- what is hidden at the beginning -/
def hid (F : List Addr) (H : Hp) : Hp := fun b => if b ∈ F then none else H b
/-- a def that changes its first argument -/
def spO (G : Glob) (k f : Nat) : Sp := fun vs H Q _ => ∃ i t v0 d0 F0 us ds N R, G.fns[f]? = some i ∧ i.fn.ini = none ∧ i.fn.io = true ∧ vs = v0 :: us ∧ vs.length = i.ps.length ∧ i.sg[0]? = some (.ow t) ∧ F0.Nodup ∧ (∀ a, N a → a ∉ F0) ∧ ReT G.K G.cls N H (.ow t) v0 d0 F0 ∧ ArgsB G.K G.cls N H (i.sg.drop 1) us ds ∧ Cw (FTof G.fns) k f (d0 :: ds) R ∧
  ∀ H' d', Same (hid F0 H) H' → RSp G.K G.cls N (hid F0 H) H' (.ow t) v0 d' → R d' → Q .non H'
def spG (G : Glob) (k f : Nat) : Sp := match G.fns[f]? with
  | some i => if i.fn.ini.isSome = true then spI G k f else if i.fn.io = true then spO G k f else spF G k f
  | none => spF G k f
def bltNames : List Str := ["range", "isinstance", "len", "abs", "int", "bool", "str", "list", "tuple", "dict", "min", "max", "sum", "sorted", "enumerate", "zip", "reversed", "set", "any", "all", "divmod", "ValueError"]
/-- the classes as the top has made them -/
structure ClsOk (G : Glob) : Prop where
  cn : ∀ c p, G.ct.cn[c]? = some p → Cls G.K (G.cls c).1 ∧ (G.cls c).2 = p.2 ∧ p.2.Nodup ∧ p.2.length < 1000 ∧ (∀ f ∈ p.2, NoAttr G.K (G.cls c).1 f) ∧ G.mg p.1 = some (.ref (G.cls c).1)
  pre : ∀ c p n c', G.ct.cn[c]? = some p → n < p.2.length → (G.cls c').1 = (G.cls c).1 → p.2.take n ≠ (G.cls c').2
  ms : ∀ q ∈ G.ct.ms, Meth G.K (G.cls q.1).1 q.2.1 (G.fa q.2.2) ∧ ∃ p, G.ct.cn[q.1]? = some p ∧ q.2.1 ∉ p.2
  mks : ∀ q ∈ G.ct.mks, Mk G.K (G.cls q.1).1 (G.fa q.2)
  sub : ∀ q ∈ G.ct.sub, PySem.W.kitOne G.K (.ref (G.cls q.1).1) (.ref (G.cls q.2).1) = some true ∧ q.1 < G.ct.cn.length
  bas : ∀ q ∈ G.ct.bas, ClsFn G.K (G.cls q.1).1 "__init__" (G.fa q.2)
  ic : ∀ c p, G.ct.cn[c]? = some p → PySem.W.findIn G.K (.ref (G.cls c).1) "__class__" = some (some (.builtin "object.__class__")) ∧ PySem.W.specialIn G.K (.builtin "object.__class__") "__get__" = some (some (.builtin "getset_descriptor.__get__")) ∧ PySem.W.takesIn G.K (.builtin "object.__class__") = some true ∧ PySem.W.mroIn G.K (G.cls c).1 (.type "object") = some true
structure Gok (G : Glob) (k : Nat) : Prop where
  nob : ∀ x ∈ bltNames, G.mg x = none
  gcs : ∀ p ∈ G.gcs, ∃ u, G.mg p.1 = some u ∧ RelV (.str p.2) u
  mgf : ∀ f i, G.fns[f]? = some i → (i.top = true → G.mg i.name = some (.ref (G.fa f))) ∧ PySem.W.keepIn G.K (.ref (G.fa f)) = true ∧ Binds G.K (G.fd f) i.ps []
  dfs : ∀ f i, G.fns[f]? = some i → ∀ l ∈ i.dfs, ∃ ds, Vals (l.map V.int) ds ∧ Binds G.K (G.fd f) i.ps ds
  dn : ∀ f i, G.fns[f]? = some i → i.dn = true → ∃ ds, Vals [V.non] ds ∧ Binds G.K (G.fd f) i.ps ds
  len : ∀ (f : Nat) (i : FnI), G.fns[f]? = some i → i.sg.length = i.ps.length
  cl : ClsOk G
  xo : ExOk G
  sg0 : ∀ (f : Nat) (i : FnI), G.fns[f]? = some i → i.fn.ini.isSome = true → i.sg.length ≠ 0
  ok : ∀ f i, G.fns[f]? = some i → FnOk G.P G.w G.K G.mg G.base (L2.CX G.P G.w) (2 * k) (G.fa f) (G.fd f) i.ps (spG G k f)
structure Good (G : Glob) (k : Nat) (N : List Str) (sc : Scope) (X : Cx) : Prop where
  hP : X.prog = G.P
  hw : X.w = G.w
  hK : X.K = G.K
  hm : X.mg = G.mg
  hb : X.base = G.base
  hN : X.N = N
  nd : N.Nodup
  hsc : X.env.scope = sc
  calm : X.calm = true
  room : Room (2 * k + 1) X.A
  nv : PassesOwn (model X.prog X.w) X.A X.env X.xe
  G : Gok G k
/-- at a def's own level -/
def FnC (sc : Scope) (X : Cx) : Prop := ∀ x, sc.names.lookup x = some .cell → X.fn x = true
def names (G : Glob) : Nm := ⟨G.fns.map (·.name), G.gcs, G.ct⟩

/-! ### readings -/
theorem _root_.L2.PE.sub {X : Cx} {e : Expr} {t t' : TE} (h : PE X e t) (i : ∀ σ H R, t' σ H R → t σ H R) : PE X e t' := ⟨fun pins s σ H R I q => h.run pins s σ H R I (i σ H R q)⟩
theorem _root_.L2.PT.sub {X : Cx} {e : Expr} {t t' : TT} (h : PT X e t) (i : ∀ σ H R, t' σ H R → t σ H R) : PT X e t' := ⟨fun pins s σ H R I q => h.run pins s σ H R I (i σ H R q)⟩
theorem _root_.L2.PA.sub {X : Cx} {e : List Expr} {t t' : TA} (h : PA X e t) (i : ∀ σ H R, t' σ H R → t σ H R) : PA X e t' := ⟨fun pos pins s σ H R I q => h.run pos pins s σ H R I (i σ H R q)⟩
theorem _root_.L2.PI.sub {X : Cx} {g e : Expr} {t t' : TI} (h : PI X g e t) (i : ∀ σ H R, t' σ H R → t σ H R) : PI X g e t' := ⟨fun pins s σ H R I q => h.run pins s σ H R I (i σ H R q)⟩
theorem _root_.L2.PS.sub {X : Cx} {e : Stmt} {t t' : TS} (h : PS X e t) (i : ∀ D σ H, t' D σ H → t D σ H) : PS X e t' := ⟨fun pins s σ H D I q => h.run pins s σ H D I (i D σ H q)⟩
theorem _root_.L2.PSs.sub {X : Cx} {e : List Stmt} {t t' : TS} (h : PSs X e t) (i : ∀ D σ H, t' D σ H → t D σ H) : PSs X e t' := ⟨fun pins s σ H D I q => h.run pins s σ H D I (i D σ H q)⟩
def MonE (t : TE) : Prop := ∀ σ H (R R' : VK), (∀ v H', R v H' → R' v H') → t σ H R → t σ H R'

section
variable {K : PySem.W.Frag} {cls : Nat → Addr × List Str} {N N' : Addr → Prop} {H H' : Hp}
theorem rep_int {v : V} {i : Int} (h : Rep K cls N H v (.int i)) : v = .int i := by cases h; rfl
theorem rep_bl {v : V} {i : Bool} (h : Rep K cls N H v (.bl i)) : v = .bl i := by cases h; rfl
theorem rep_str {v : V} {i : Str} (h : Rep K cls N H v (.str i)) : v = .str i := by cases h; rfl
theorem rep_non {v : V} (h : Rep K cls N H v .non) : v = .non := by cases h; rfl
theorem rep_lst {v : V} {ds : List D} (h : Rep K cls N H v (.lst ds)) : ∃ a vs, v = .ref a ∧ N a ∧ Rd H a (.lst vs) ∧ Reps K cls N H vs ds := by cases h; exact ⟨_, _, rfl, ‹_›, ‹_›, ‹_›⟩
theorem rep_tupR {v : V} {ds : List D} (h : Rep K cls N H v (.tup ds)) : ∃ a vs, v = .ref a ∧ H a = some (.tup vs) ∧ Reps K cls N H vs ds := by cases h; exact ⟨_, _, rfl, ‹_›, ‹_›⟩
theorem rep_tup {v : V} {ds : List D} (h : Rep K cls N H v (.tup ds)) : ∃ a vs, v = .ref a ∧ SqT K H a vs ∧ Reps K cls N H vs ds := by cases h; exact ⟨_, _, rfl, .inl (.inl ‹_›), ‹_›⟩
theorem rep_isN {v : V} {d : D} (h : Rep K cls N H v d) : decide (v = .non) = (match d with | .non => true | _ => false) := by
  cases h <;> rfl
theorem rs_im {v : V} {d : D} (h : Rep K cls N0 H' v d) : RSp K cls N H H' .im v d := ⟨[], .nil, fun _ z => absurd z (by simp), .bo rfl h⟩
theorem rs_int (i : Int) : RSp K cls N H H' .im (.int i) (.int i) := rs_im (.int i)
theorem rs_bl (i : Bool) : RSp K cls N H H' .im (.bl i) (.bl i) := rs_im (.bl i)
theorem rs_str (i : Str) : RSp K cls N H H' .im (.str i) (.str i) := rs_im (.str i)
theorem rs_bo {t : T} {v : V} {d : D} (f : t.flat = true) (h : RepB K cls N H' t v d) : RSp K cls N H H' t v d :=
  ⟨[], .nil, fun _ z => absurd z (by simp), .bo f (h.mono (Same.refl _) fun a z => ⟨.inl z, by simp⟩)⟩
theorem repB_lst {t : T} (f : t.flat = true) {v : V} {ds : List D} (h : RepB K cls N H t v (.lst ds)) : ∃ a vs, v = .ref a ∧ N a ∧ Rd H a (.lst vs) ∧ Paired (RepB K cls N H t.el) vs ds := by
  cases t with
  | im => obtain ⟨_, _, _, z, _⟩ := rep_lst h; exact z.elim
  | sh => obtain ⟨a, vs, e, n, r, p⟩ := rep_lst h; exact ⟨a, vs, e, n, r, p.paired⟩
  | s t =>
    cases h with
    | im h => obtain ⟨_, _, _, z, _⟩ := rep_lst h; exact z.elim
    | lst n r p => exact ⟨_, _, rfl, n, r, p⟩
  | ow t => cases f
theorem repB_tupR {t : T} (f : t.flat = true) {v : V} {ds : List D} (h : RepB K cls N H t v (.tup ds)) : ∃ a vs, v = .ref a ∧ H a = some (.tup vs) ∧ Paired (RepB K cls N H t.el) vs ds := by
  cases t with
  | im => obtain ⟨a, vs, e, r, p⟩ := rep_tupR h; exact ⟨a, vs, e, r, p.paired⟩
  | sh => obtain ⟨a, vs, e, r, p⟩ := rep_tupR h; exact ⟨a, vs, e, r, p.paired⟩
  | s t =>
    cases h with
    | im h => obtain ⟨a, vs, e, r, p⟩ := rep_tupR h; exact ⟨a, vs, e, r, pimp p.paired fun _ _ z => RepB.of_im z⟩
    | tup r p => exact ⟨_, _, rfl, r, p⟩
  | ow t => cases f
theorem repB_tup {t : T} (f : t.flat = true) {v : V} {ds : List D} (h : RepB K cls N H t v (.tup ds)) : ∃ a vs, v = .ref a ∧ SqT K H a vs ∧ Paired (RepB K cls N H t.el) vs ds := by
  cases t with
  | im => obtain ⟨a, vs, e, r, p⟩ := rep_tup h; exact ⟨a, vs, e, r, p.paired⟩
  | sh => obtain ⟨a, vs, e, r, p⟩ := rep_tup h; exact ⟨a, vs, e, r, p.paired⟩
  | s t =>
    cases h with
    | im h => obtain ⟨a, vs, e, r, p⟩ := rep_tup h; exact ⟨a, vs, e, r, pimp p.paired fun _ _ z => RepB.of_im z⟩
    | tup r p => exact ⟨_, _, rfl, .inl (.inl r), p⟩
  | ow t => cases f
theorem repB_dK {t : T} (f : t.flat = true) {v : V} {ks : List (Key × D)} (h : RepB K cls N H t v (.dicK ks)) : ∃ a kvs ds, v = .ref a ∧ N a ∧ Rd H a (.dK kvs) ∧ ks = (kvs.map (·.1)).zip ds ∧ Paired (RepB K cls N H t.el) (kvs.map (·.2)) ds := by
  cases t with
  | im => cases h with | dK n _ _ => exact n.elim
  | sh => cases h with | dK n r p => exact ⟨_, _, _, rfl, n, r, rfl, p.paired⟩
  | s t =>
    cases h with
    | im h => cases h with | dK n _ _ => exact n.elim
    | dK n r p => exact ⟨_, _, _, rfl, n, r, rfl, p⟩
  | ow t => cases f
theorem repB_dT {t : T} (f : t.flat = true) {v : V} {ks : List (List Key × D)} (h : RepB K cls N H t v (.dicT ks)) : ∃ a kvs ds, v = .ref a ∧ N a ∧ Rd H a (.dT kvs) ∧ ks = (kvs.map (·.1)).zip ds ∧ Paired (RepB K cls N H t.el) (kvs.map (·.2)) ds := by
  cases t with
  | im => cases h with | dT n _ _ => exact n.elim
  | sh => cases h with | dT n r p => exact ⟨_, _, _, rfl, n, r, rfl, p.paired⟩
  | s t =>
    cases h with
    | im h => cases h with | dT n _ _ => exact n.elim
    | dT n r p => exact ⟨_, _, _, rfl, n, r, rfl, p⟩
  | ow t => cases f
theorem pair_get {F : V → D → Prop} : ∀ {vs : List V} {ds : List D} {i : Nat} {d : D}, Paired F vs ds → ds[i]? = some d → ∃ v, vs[i]? = some v ∧ F v d
  | _, _, _, _, .nil, e => by simp at e
  | _, _, 0, _, .cons h _, e => by simp at e; subst e; exact ⟨_, rfl, h⟩
  | _, _, i + 1, _, .cons _ r, e => by
    obtain ⟨v, h1, h2⟩ := pair_get (i := i) r (by simpa using e)
    exact ⟨v, by simpa using h1, h2⟩
theorem pair_len {F : V → D → Prop} {vs : List V} {ds : List D} (h : Paired F vs ds) : vs.length = ds.length := Paired.length h
theorem pair_at {F : V → D → Prop} {vs : List V} {ds : List D} {i : Int} {d : D} (h : Paired F vs ds) (e : atI ds i = some d) : ∃ v, atI vs i = some v ∧ F v d := by
  unfold atI at e ⊢
  rw [pair_len h]
  cases q : ixN ds.length i with
  | none => rw [q] at e; cases e
  | some j =>
    rw [q] at e
    exact pair_get h e
mutual
theorem dp_of : ∀ {v : V} {d : D}, Rep K cls N H v d → d.plain = true → Dp K H v d.py
  | _, _, .non, _ => by unfold D.py; exact .non
  | _, _, .bl b, _ => by unfold D.py; exact .bl b
  | _, _, .int i, _ => by unfold D.py; exact .int i
  | _, _, .str x, _ => by unfold D.py; exact .str x
  | _, _, .tup h r, p => by unfold D.py; unfold D.plain at p; exact .tup (.inl (.inl h)) (dps_of r p)
  | _, _, .lst a h r, p => by unfold D.py; unfold D.plain at p; exact .lst (.inl h) (dps_of r p)
  | _, _, .dK a h r, p => by unfold D.plain at p; cases p
  | _, _, .dT a h r, p => by unfold D.plain at p; cases p
  | _, _, .obj h _ r, p => by unfold D.plain at p; cases p
theorem dps_of : ∀ {v : List V} {d : List D}, Reps K cls N H v d → D.plains d = true → DpAll K H v (D.pys d)
  | _, _, .nil, _ => by unfold D.pys; exact .nil
  | _, _, .cons h r, p => by
    unfold D.pys
    unfold D.plains at p
    rw [Bool.and_eq_true] at p
    exact .cons (dp_of h p.1) (dps_of r p.2)
end
end

section
variable {K : PySem.W.Frag} {cls : Nat → Addr × List Str} {N N' : Addr → Prop} {H H' : Hp}
theorem BS.dom {P P' : V → D → Prop} (hp : ∀ v d, P v d → P' v d) {v : V} {d : D} (h : BS K cls N H P v d) : BS K cls (fun a => N a ∧ H a ≠ none) H P' v d := by
  cases h with
  | im h => exact .im h
  | tup h r => exact .tup h (pimp r hp)
  | lst na h r => exact .lst ⟨na, rd_some h⟩ h (pimp r hp)
  | dK na h r => exact .dK ⟨na, rd_some h⟩ h (pimp r hp)
  | dT na h r => exact .dT ⟨na, rd_some h⟩ h (pimp r hp)
theorem RepB.dom : ∀ {t : T} {v : V} {d : D}, RepB K cls N H t v d → RepB K cls (fun a => N a ∧ H a ≠ none) H t v d
  | .im, _, _, h => h
  | .sh, _, _, h => Rep.dom h
  | .s t, _, _, h => BS.dom (fun _ _ z => RepB.dom (t := t) z) h
  | .ow t, _, _, h => BS.dom (fun _ _ z => RepB.dom (t := t) z) h
theorem same_new {p : Addr} {o : HO} (hp : H p = none) : Same H (upd H p o) := fun b u e => by rw [upd_ne (ne_of_none e hp)]; exact e
theorem rs_new {p : Addr} {t : T} {vs : List V} {ds : List D} (hp : H p = none) (f : t.flat = true) (h : Paired (RepB K cls N H t) vs ds) : RSp K cls N H (upd H p (.lst vs)) (.ow t) (.ref p) (.lst ds) := by
  refine ⟨[p], by simp, fun a z => by rw [List.mem_singleton.mp z]; exact hp, .owl (F := []) upd_same (ReTs.of_flat f (pimp h fun _ _ z => ?_))⟩
  exact z.dom.mono (same_new hp) fun a q => ⟨.inl q.1, fun z => q.2 (by rw [List.mem_singleton.mp z]; exact hp)⟩
theorem pair_append {F : V → D → Prop} : ∀ {vs ws : List V} {ds es : List D}, Paired F vs ds → Paired F ws es → Paired F (vs ++ ws) (ds ++ es)
  | _, _, _, _, .nil, h => h
  | _, _, _, _, .cons a r, h => .cons a (pair_append r h)
end
section
variable {K : PySem.W.Frag} {cls : Nat → Addr × List Str} {N N' : Addr → Prop} {H H' : Hp}
mutual
theorem imm_rep : ∀ {v : V} {d : D}, Rep K cls N H v d → d.imm = true → Rep K cls N' H v d
  | _, _, .non, _ => .non
  | _, _, .bl b, _ => .bl b
  | _, _, .int i, _ => .int i
  | _, _, .str x, _ => .str x
  | _, _, .tup h r, p => .tup h (imms_rep r p)
  | _, _, .lst a h r, p => by cases p
  | _, _, .dK a h r, p => by cases p
  | _, _, .dT a h r, p => by cases p
  | _, _, .obj h _ r, p => by cases p
theorem imms_rep : ∀ {v : List V} {d : List D}, Reps K cls N H v d → D.imms d = true → Reps K cls N' H v d
  | _, _, .nil, _ => .nil
  | _, _, .cons h r, p => by
    unfold D.imms at p
    rw [Bool.and_eq_true] at p
    exact .cons (imm_rep h p.1) (imms_rep r p.2)
end
theorem pimp_mem {F G : V → D → Prop} : ∀ {vs : List V} {ds : List D}, Paired F vs ds → (∀ v d, d ∈ ds → F v d → G v d) → Paired G vs ds
  | _, _, .nil, _ => .nil
  | _, _, .cons r t, f => .cons (f _ _ (by simp) r) (pimp_mem t fun v d h => f v d (by simp [h]))
theorem T.el_flat {u : T} (fu : u.flat = true) : u.el.flat = true := by
  cases u with
  | im => rfl
  | sh => rfl
  | s t => exact fu
  | ow t => cases fu
theorem fit_rep : ∀ {t u : T} {v : V} {d : D}, u.flat = true → t.flat = true → RepB K cls N H u v d → fit t d → RepB K cls N H t v d
  | .im, u, v, d, fu, ft, h, p => imm_rep h.rep p
  | .s t, u, v, .lst ds, fu, ft, h, p => by
    obtain ⟨a, vs, rfl, n, r, pp⟩ := repB_lst fu h
    exact .lst n r (pimp_mem pp fun _ d hd z => fit_rep (T.el_flat fu) ft z (p d hd))
  | .s t, u, v, .tup ds, fu, ft, h, p => by
    obtain ⟨a, vs, rfl, r, pp⟩ := repB_tupR fu h
    exact .tup r (pimp_mem pp fun _ d hd z => fit_rep (T.el_flat fu) ft z (p d hd))
  | .sh, _, _, _, _, _, _, p => by cases p
  | .ow _, _, _, _, _, ft, _, _ => by cases ft
  | .s _, _, _, .non, _, _, _, p | .s _, _, _, .bl _, _, _, _, p | .s _, _, _, .int _, _, _, _, p | .s _, _, _, .str _, _, _, _, p | .s _, _, _, .dicK _, _, _, _, p | .s _, _, _, .dicT _, _, _, _, p | .s _, _, _, .obj _ _, _, _, _, p => by cases p
theorem key_rep {v : V} {d : D} {k : Key} (h : Rep K cls N H v d) (e : toKey d = some k) : v = kV k := by
  cases d <;> cases e
  · exact rep_int h
  · exact rep_str h
theorem keys_reps : ∀ {vs : List V} {ds : List D} {ks : List Key}, Reps K cls N H vs ds → toKeyL ds = some ks → vs = ks.map kV
  | _, _, _, .nil, e => by cases e; rfl
  | _, d :: ds, _, .cons h r, e => by
    unfold toKeyL at e
    split at e
    · rename_i k ks e1 e2
      cases e
      rw [key_rep h e1, keys_reps r e2]
      rfl
    · cases e
theorem keyT_rep {v : V} {d : D} {ks : List Key} (h : Rep K cls N H v d) (e : toKeys d = some ks) : ∃ b, v = .ref b ∧ H b = some (.tup (ks.map kV)) := by
  cases d <;> try cases e
  obtain ⟨a, vs, rfl, h1, h2⟩ := rep_tupR h
  refine ⟨a, rfl, ?_⟩
  rw [← keys_reps h2 e]
  exact h1
theorem dval_rep {κ : Type} [DecidableEq κ] {P : V → D → Prop} : ∀ {kvs : List (κ × V)} {ds : List D}, Paired P (kvs.map (·.2)) ds → ∀ k : κ, (∀ d, dval ((kvs.map (·.1)).zip ds) k = some d → ∃ v, valV kvs k = some v ∧ P v d) ∧ (dval ((kvs.map (·.1)).zip ds) k).isSome = (valV kvs k).isSome
  | [], _, .nil, k => ⟨fun d e => by simp [dval] at e, rfl⟩
  | (k', v) :: kvs, _, .cons (b := d') h r, k => by
    have ih := dval_rep (kvs := kvs) r k
    by_cases e : k' = k
    · subst e
      have h1 : valV ((k', v) :: kvs) k' = some v := valV_pos rfl
      have h2 : ∀ ds, dval (((k' :: kvs.map (·.1))).zip (d' :: ds)) k' = some d' := fun ds => by simp [dval, List.find?_cons]
      exact ⟨fun d e => by
        have e : dval (((k' :: kvs.map (·.1))).zip (d' :: _)) k' = some d := e
        rw [h2] at e
        cases e
        exact ⟨v, h1, h⟩, by
        show (dval (((k' :: kvs.map (·.1))).zip (d' :: _)) k').isSome = _
        rw [h2, h1]
        rfl⟩
    · have h1 : valV ((k', v) :: kvs) k = valV kvs k := valV_neg e
      have h2 : ∀ ds, dval (((k' :: kvs.map (·.1))).zip (d' :: ds)) k = dval ((kvs.map (·.1)).zip ds) k := fun ds => by simp [dval, List.find?_cons, e]
      exact ⟨fun d e => by
        have e : dval (((k' :: kvs.map (·.1))).zip (d' :: _)) k = some d := e
        rw [h2] at e
        rw [h1]
        exact ih.1 d e, by
        show (dval (((k' :: kvs.map (·.1))).zip (d' :: _)) k).isSome = _
        rw [h2, h1]
        exact ih.2⟩
end
def p1T : P1 → T → Option T
  | .list1, t => if t.el.flat then some (.ow t.el) else none
  | .tup1, t => if t.el = .im then some .im else if t.el.flat then some (.s t.el) else none
  | .srt1, _ => some (.ow .im)
  | _, _ => some .im
def p2T : P2 → T → T → Option T
  | .idx, a, _ => if a.el.flat then some a.el else none
  | .add, a, b => if a = .im ∧ b = .im then some .im else
    if (T.join a.el b.el).flat && T.le a.el (T.join a.el b.el) && T.le b.el (T.join a.el b.el) then some (.ow (T.join a.el b.el)) else none
  | .addt, a, b => if a = .im ∧ b = .im then some .im else
    if (T.join a.el b.el).flat && T.le a.el (T.join a.el b.el) && T.le b.el (T.join a.el b.el) then some (.s (T.join a.el b.el)) else none
  | .mul, a, _ => if a = .im then some .im else if a.el.flat then some (.ow a.el) else none
  | _, _, _ => some .im
end Pv

set_option maxRecDepth 100000
set_option maxHeartbeats 1000000
/-! ### the greatest, the least, the sum of a tuple of whole numbers -/
namespace PySem
open Sem (wp)
section
variable {prog : Program} {w : World} {A : Around} {E : Value → Shared → Prop} {s : Shared} {l : Addr} {xs : Array (Int × Tok)}
theorem pv_iter_intTup {Q : Value → Shared → Prop} (hl : s.heap.IsTuple l (intItems xs))
    (h : ∀ s₂ : Shared, s₂ = { s with heap := s.heap.push { cls := .type "tuple_iterator", data := .fields #[.ref l, .int 0 0] } } →
      (s₂.heap.IsTupleIter s.heap.objs.size l 0 ∧ s₂.heap.IsTuple l (intItems xs)) → (∀ b ∈ [s.heap.objs.size, l], b < s₂.heap.objs.size) → l ≠ s.heap.objs.size → Q (.ref s.heap.objs.size) s₂) :
    wpAny (model prog w) A (pyIter (.ref l)) Q E s := by
  have hlt : l < s.heap.objs.size := by obtain ⟨_, e, _⟩ := hl; exact Heap.lt_size e
  refine wpAny_pyIter_tuple hl (h _ rfl ⟨⟨_, Heap.get?_push_size _ rfl, rfl, rfl⟩, hl.push _⟩ (fun b hb => ?_) (Nat.ne_of_lt hlt))
  show b < (s.heap.push _).objs.size
  rw [Heap.size_push]
  rcases List.mem_cons.mp hb with rfl | hb
  · exact Nat.lt_succ_self _
  · rcases List.mem_cons.mp hb with rfl | hb
    · exact Nat.lt_succ_of_lt hlt
    · cases hb
theorem pv_old {h' : Heap} (hk : ∀ b o, b ∉ [s.heap.objs.size] → (s.heap.push { cls := .type "tuple_iterator", data := .fields #[.ref l, .int 0 0] }).get? b = some o → h'.get? b = some o) :
    ∀ b o, s.heap.get? b = some o → h'.get? b = some o := fun b o e => by
  refine hk b o (fun hm => ?_) (Heap.get?_push_of_some _ e)
  rcases List.mem_cons.mp hm with e1 | hm
  · exact absurd (e1 ▸ Heap.lt_size e) (Nat.lt_irrefl _)
  · cases hm
theorem pv_max_tup {Q : Value → Shared → Prop} (hh : A.handled = none) (hl : s.heap.IsTuple l (intItems xs)) (hne : 0 < xs.size)
    (h : ∀ v h' tk, (intItems xs)[argBest (fun i j => decide (numAt xs i > numAt xs j)) (xs.size - 1)]? = some v → (∀ b o, s.heap.get? b = some o → h'.get? b = some o) → Q v { s with heap := h', toks := tk }) :
    wpAny (model prog w) A (call (.builtin "max") [.ref l]) Q E s := by
  refine call_max_walk (pv_iter_intTup hl fun s₂ e st hfp hlI => ?_)
  subst e
  refine ⟨_, _, _, _, _, _, _, rfl, Walks.tuple (A := A.in1) hh _ l hlI (intItems xs), st, hfp, by simpa [intItems] using hne, CmpOf.ints_gt (numAt xs) (fun _ _ => intItems_at), fun v h' tk hP hk => ?_⟩
  exact h v h' tk (by simpa [intItems] using hP) (pv_old hk)
theorem pv_min_tup {Q : Value → Shared → Prop} (hh : A.handled = none) (hl : s.heap.IsTuple l (intItems xs)) (hne : 0 < xs.size)
    (h : ∀ v h' tk, (intItems xs)[argBest (fun i j => decide (numAt xs i < numAt xs j)) (xs.size - 1)]? = some v → (∀ b o, s.heap.get? b = some o → h'.get? b = some o) → Q v { s with heap := h', toks := tk }) :
    wpAny (model prog w) A (call (.builtin "min") [.ref l]) Q E s := by
  refine call_min_walk (pv_iter_intTup hl fun s₂ e st hfp hlI => ?_)
  subst e
  refine ⟨_, _, _, _, _, _, _, rfl, Walks.tuple (A := A.in1) hh _ l hlI (intItems xs), st, hfp, by simpa [intItems] using hne, CmpOf.ints_lt (numAt xs) (fun _ _ => intItems_at), fun v h' tk hP hk => ?_⟩
  exact h v h' tk (by simpa [intItems] using hP) (pv_old hk)
theorem pv_sum_tup {Q : Value → Shared → Prop} (hh : A.handled = none) (hl : s.heap.IsTuple l (intItems xs))
    (h : ∀ h' tk t', (∀ b o, s.heap.get? b = some o → h'.get? b = some o) → Q (.int (preSum (numAt xs) xs.size) t') { s with heap := h', toks := tk }) :
    wpAny (model prog w) A (call (.builtin "sum") [.ref l]) Q E s := by
  refine call_sum_walkG (pv_iter_intTup hl fun s₂ e st hfp hlI => ?_)
  subst e
  refine ⟨_, _, _, _, _, _, numAt xs, rfl, Walks.tuple (A := A.in1) hh _ l hlI (intItems xs), st, hfp, (fun _ _ => intItems_at), fun h' tk t' hk => ?_⟩
  have := h h' tk t' (pv_old hk)
  simpa [intItems] using this
end
end PySem
namespace Pv
open PySem L2
open PySem PySem.Spec PyProof.Rows in
section
variable {prog : Program} {w : World} {A : Around} {E : Value → Shared → Prop} {s : Shared} {l : Addr} {its : List Value} {ns : List Int} {Q : Value → Shared → Prop}
open PySem PySem.Spec PyProof.Rows
theorem sum_rawT (hh : A.handled = none) (hl : s.heap.IsTuple l its.toArray) (hi : IntsAre its ns)
    (h : ∀ h' tk t', (∀ b o, s.heap.get? b = some o → h'.get? b = some o) → Q (.int ns.sum t') { s with heap := h', toks := tk }) : wpAny (model prog w) A (call (.builtin "sum") [.ref l]) Q E s := by
  obtain ⟨xs, e⟩ := hi.allInts.items
  have hn : numsOf (intItems xs).toList = ns := by rw [← e]; exact hi.numsOf
  rw [nums_intItems] at hn
  rw [e] at hl
  refine PySem.pv_sum_tup hh hl fun h' tk t' hk => ?_
  have := h h' tk t' hk
  rw [preSum_eq, List.take_of_length_le (by simp), hn]; exact this
theorem max_rawT (hh : A.handled = none) (hl : s.heap.IsTuple l its.toArray) (hi : IntsAre its ns) (hne : 0 < ns.length)
    (h : ∀ h' tk M t', (∀ b o, s.heap.get? b = some o → h'.get? b = some o) → M ∈ ns → (∀ a, a ∈ ns → a ≤ M) → Q (.int M t') { s with heap := h', toks := tk }) : wpAny (model prog w) A (call (.builtin "max") [.ref l]) Q E s := by
  obtain ⟨xs, e⟩ := hi.allInts.items
  have hn : numsOf (intItems xs).toList = ns := by rw [← e]; exact hi.numsOf
  rw [nums_intItems] at hn
  subst hn
  rw [e] at hl
  have hsz : 0 < xs.size := by simpa using hne
  refine PySem.pv_max_tup hh hl hsz fun v h' tk hv hk => ?_
  obtain ⟨t, rfl⟩ := intItems_at hv
  obtain ⟨h1, h2⟩ := argBest_gt (numAt xs) (xs.size - 1)
  refine h h' tk _ t hk ?_ fun a ha => ?_
  · rw [numAt_eq]; exact PySem.getD_mem (by rw [List.length_map, Array.length_toList]; omega)
  · obtain ⟨j, hj, rfl⟩ := mem_getD ha
    rw [List.length_map, Array.length_toList] at hj
    rw [← numAt_eq]; exact h2 j (by omega)
theorem min_rawT (hh : A.handled = none) (hl : s.heap.IsTuple l its.toArray) (hi : IntsAre its ns) (hne : 0 < ns.length)
    (h : ∀ h' tk M t', (∀ b o, s.heap.get? b = some o → h'.get? b = some o) → M ∈ ns → (∀ a, a ∈ ns → M ≤ a) → Q (.int M t') { s with heap := h', toks := tk }) : wpAny (model prog w) A (call (.builtin "min") [.ref l]) Q E s := by
  obtain ⟨xs, e⟩ := hi.allInts.items
  have hn : numsOf (intItems xs).toList = ns := by rw [← e]; exact hi.numsOf
  rw [nums_intItems] at hn
  subst hn
  rw [e] at hl
  have hsz : 0 < xs.size := by simpa using hne
  refine PySem.pv_min_tup hh hl hsz fun v h' tk hv hk => ?_
  obtain ⟨t, rfl⟩ := intItems_at hv
  obtain ⟨h1, h2⟩ := argBest_lt (numAt xs) (xs.size - 1)
  refine h h' tk _ t hk ?_ fun a ha => ?_
  · rw [numAt_eq]; exact PySem.getD_mem (by rw [List.length_map, Array.length_toList]; omega)
  · obtain ⟨j, hj, rfl⟩ := mem_getD ha
    rw [List.length_map, Array.length_toList] at hj
    rw [← numAt_eq]; exact h2 j (by omega)
end
section
variable {X : Cx}
open PySem PySem.Spec PyProof.Rows
def rSumT (K : PySem.W.Frag) : List V → Hp → VK → Prop := fun vs H Q => ∃ (a : Addr) (ns : List Int), vs = [V.ref a] ∧ SqT K H a (ns.map V.int) ∧ Q (.int ns.sum) H
def rMaxT (K : PySem.W.Frag) : List V → Hp → VK → Prop := fun vs H Q => ∃ (a : Addr) (ns : List Int), vs = [V.ref a] ∧ SqT K H a (ns.map V.int) ∧ 0 < ns.length ∧ ∀ m, m ∈ ns → (∀ y, y ∈ ns → y ≤ m) → Q (.int m) H
def rMinT (K : PySem.W.Frag) : List V → Hp → VK → Prop := fun vs H Q => ∃ (a : Addr) (ns : List Int), vs = [V.ref a] ∧ SqT K H a (ns.map V.int) ∧ 0 < ns.length ∧ ∀ m, m ∈ ns → (∀ y, y ∈ ns → m ≤ y) → Q (.int m) H
theorem cr_sumT (hc : X.calm = true) : CallR X (.builtin "sum") (rSumT X.K) := by
  intro pins s σ H vs us Q I r h
  obtain ⟨a, ns, rfl, hs, q⟩ := h
  obtain ⟨its, rv, hl, _⟩ := I.tuple hs
  rw [Vals.ref1 r]
  exact sum_rawT (I.ok.hd hc) hl rv.ints fun h' tk t' hk => ⟨.int _, H, I.kept hk, ⟨_, rfl⟩, q⟩
theorem cr_maxT (hc : X.calm = true) : CallR X (.builtin "max") (rMaxT X.K) := by
  intro pins s σ H vs us Q I r h
  obtain ⟨a, ns, rfl, hs, hne, q⟩ := h
  obtain ⟨its, rv, hl, _⟩ := I.tuple hs
  rw [Vals.ref1 r]
  exact max_rawT (I.ok.hd hc) hl rv.ints hne fun h' tk m t' hk h1 h2 => ⟨.int _, H, I.kept hk, ⟨_, rfl⟩, q m h1 h2⟩
theorem cr_minT (hc : X.calm = true) : CallR X (.builtin "min") (rMinT X.K) := by
  intro pins s σ H vs us Q I r h
  obtain ⟨a, ns, rfl, hs, hne, q⟩ := h
  obtain ⟨its, rv, hl, _⟩ := I.tuple hs
  rw [Vals.ref1 r]
  exact min_rawT (I.ok.hd hc) hl rv.ints hne fun h' tk m t' hk h1 h2 => ⟨.int _, H, I.kept hk, ⟨_, rfl⟩, q m h1 h2⟩
end
end Pv

set_option maxRecDepth 100000
set_option maxHeartbeats 1000000
namespace Pv
open PySem L2
section
variable {G : Glob} {k : Nat} {N : List Str} {sc : Scope} {X : Cx} {ta tb : TE} {e x y : Expr}
/-- what is asked of a one-place operation on a value; of a two-place one -/
def A1 (G : Glob) (p : P1) (t t' : T) (R : VK) : V → Hp → Prop := fun v H => ∃ Nn d Q, RepB G.K G.cls Nn H t v d ∧ p1 p d Q ∧ ∀ v' H' d', Same H H' → RSp G.K G.cls Nn H H' t' v' d' → Q d' → R v' H'
def A2 (G : Glob) (p : P2) (t u t' : T) (R : VK) : V → V → Hp → Prop := fun v w H => ∃ Nn d d2 Q, RepB G.K G.cls Nn H t v d ∧ RepB G.K G.cls Nn H u w d2 ∧ p2 p d d2 Q ∧ ∀ v' H' d', Same H H' → RSp G.K G.cls Nn H H' t' v' d' → Q d' → R v' H'
theorem pair_strs {K : PySem.W.Frag} {cls : Nat → Addr × List Str} {Nn : Addr → Prop} {H : Hp} {t : T} : ∀ cs : List Nat, Paired (RepB K cls Nn H t) (cs.map fun c => V.str ⟨#[c]⟩) (cs.map fun c => D.str ⟨#[c]⟩)
  | [] => .nil
  | c :: cs => .cons (RepB.of_im (.str _)) (pair_strs cs)
theorem Good.gl (g : Good G k N sc X) {x : Str} (h : glB sc x = true) : Gl X x := gl_of g.hsc h
theorem Good.nob (g : Good G k N sc X) {x : Str} (h : x ∈ bltNames) : X.mg x = none := by rw [g.hm]; exact g.G.nob x h
theorem Good.u (g : Good G k N sc X) : X.A.units + 64 < cLine := g.room.units
theorem call1_pe {nm id : String} {r : List V → Hp → VK → Prop} (g : Good G k N sc X) (hc : CallR X (.builtin id) r) (hn : Str.ofString nm ∈ bltNames) (hv : bootBuiltins (Str.ofString nm) = some (.builtin id)) (h1 : Str.ofString nm ≠ "__name__" := by decide +kernel) (h2 : (Str.ofString nm == ("__debug__" : Str)) = false := by decide +kernel)
    (sh : asB1 (Str.ofString nm) sc e = some x) (ha : PE X x ta) : PE X e (fun σ H R => ta σ H fun v H1 => r [v] H1 R) := by
  obtain ⟨p, pos, rfl, gl, pl⟩ := asB1_of sh
  exact pe_callB hc (g.gl gl) (g.nob hn) hv (pa_cons ha pa_nil (plain_star pl)) h1 h2 (plain_star pl)
theorem call1T_pe {nm T : String} {r : List V → Hp → VK → Prop} (g : Good G k N sc X) (hc : CallR X (.type T) r) (hn : Str.ofString nm ∈ bltNames) (hv : bootBuiltins (Str.ofString nm) = some (.type T)) (h1 : Str.ofString nm ≠ "__name__" := by decide +kernel) (h2 : (Str.ofString nm == ("__debug__" : Str)) = false := by decide +kernel)
    (sh : asB1 (Str.ofString nm) sc e = some x) (ha : PE X x ta) : PE X e (fun σ H R => ta σ H fun v H1 => r [v] H1 R) := by
  obtain ⟨p, pos, rfl, gl, pl⟩ := asB1_of sh
  exact pe_callTy hc (g.gl gl) (g.nob hn) hv (pa_cons ha pa_nil (plain_star pl)) h1 h2 (plain_star pl)
theorem tyX_of {K : PySem.W.Frag} {cls : Nat → Addr × List Str} {Nn : Addr → Prop} {H : Hp} {v : V} {d : D} {n : String} (h : Rep K cls Nn H v d) (e : tyName d = some n) : TyX K H v (.type n) := by
  cases h with
  | non => cases e; exact .base .non
  | bl b => cases e; exact .base (.bl b)
  | int i => cases e; exact .base (.int i)
  | str i => cases e; exact .base (.str i)
  | tup q r =>
    cases e
    exact .base (.tup q)
  | lst a q r =>
    cases e
    rcases q with q | ⟨o, q⟩
    · exact .base (.lst q)
    · exact .base (.frz q)
  | dK a q r => cases e
  | dT a q r => cases e
  | obj q _ r => cases e
theorem p1_N {p : P1} {op : CmpOp} (h : (p = .isN ∧ op = .Is) ∨ (p = .notN ∧ op = .IsNot)) {t t' : T} (ht : p1T p t = some t') : ∃ r : R2, OpR X (compareOp op) r ∧ ∀ v H R, A1 G p t t' R v H → r v .non H R := by
  have e0 : T.im = t' := by rcases h with ⟨rfl, rfl⟩ | ⟨rfl, rfl⟩ <;> simpa [p1T] using ht
  subst e0
  rcases h with ⟨rfl, rfl⟩ | ⟨rfl, rfl⟩
  · refine ⟨_, op_isN, fun v H1 R ⟨Nn, d, Q, hr, hp, kk⟩ => ⟨rfl, ?_⟩⟩
    rw [rep_isN hr.rep]
    cases d <;> exact kk _ _ _ (Same.refl _) (rs_bl _) hp
  · refine ⟨_, op_notN, fun v H1 R ⟨Nn, d, Q, hr, hp, kk⟩ => ⟨rfl, ?_⟩⟩
    rw [rep_isN hr.rep]
    cases d <;> exact kk _ _ _ (Same.refl _) (rs_bl _) hp
theorem p1_B {p : P1} {b : Bool} (h : (p = .isT ∧ b = true) ∨ (p = .isF ∧ b = false)) {t t' : T} (ht : p1T p t = some t') : ∀ v H R, A1 G p t t' R v H → (fun x y H Q => ∃ a b, x = V.bl a ∧ y = V.bl b ∧ Q (.bl (a == b)) H : R2) v (.bl b) H R := by
  have e0 : T.im = t' := by rcases h with ⟨rfl, rfl⟩ | ⟨rfl, rfl⟩ <;> simpa [p1T] using ht
  subst e0
  rcases h with ⟨rfl, rfl⟩ | ⟨rfl, rfl⟩
  all_goals
    intro v H1 R ⟨Nn, d, Q, hr, hp, kk⟩
    cases d with
    | bl c =>
      obtain rfl := rep_bl hr.rep
      exact ⟨c, _, rfl, rfl, kk _ _ _ (Same.refl _) (rs_bl _) hp⟩
    | _ => exact hp.elim
theorem boot_ty {ty : String} (h : ty ∈ tys) : bootBuiltins (strOf ty) = some (.type ty) ∧ strOf ty ∈ bltNames := by
  simp only [tys, List.mem_cons, List.not_mem_nil, or_false] at h
  rcases h with rfl | rfl | rfl | rfl | rfl | rfl <;> exact ⟨by decide +kernel, by decide +kernel⟩
theorem reps_ints {K : PySem.W.Frag} {cls : Nat → Addr × List Str} {Nn : Addr → Prop} {H : Hp} : ∀ {vs : List V} {ns : List Int}, Reps K cls Nn H vs (ns.map D.int) → vs = ns.map V.int
  | _, [], .nil => rfl
  | _, n :: ns, .cons h r => by rw [rep_int h, reps_ints r]; rfl
theorem reps_bls {K : PySem.W.Frag} {cls : Nat → Addr × List Str} {Nn : Addr → Prop} {H : Hp} : ∀ {vs : List V} {ns : List Bool}, Reps K cls Nn H vs (ns.map D.bl) → vs = ns.map V.bl
  | _, [], .nil => rfl
  | _, n :: ns, .cons h r => by rw [rep_bl h, reps_bls r]; rfl
theorem reps_strs {K : PySem.W.Frag} {cls : Nat → Addr × List Str} {Nn : Addr → Prop} {H : Hp} : ∀ {vs : List V} {ns : List Str}, Reps K cls Nn H vs (ns.map D.str) → vs = ns.map V.str
  | _, [], .nil => rfl
  | _, n :: ns, .cons h r => by rw [rep_str h, reps_strs r]; rfl
theorem ints_rep {K : PySem.W.Frag} {cls : Nat → Addr × List Str} {Nn : Addr → Prop} {H : Hp} : ∀ ns : List Int, Paired (RepB K cls Nn H .im) (ns.map V.int) (ns.map D.int)
  | [] => .nil
  | n :: ns => .cons (.int n) (ints_rep ns)
theorem strs_rep {K : PySem.W.Frag} {cls : Nat → Addr × List Str} {Nn : Addr → Prop} {H : Hp} : ∀ ns : List Str, Paired (RepB K cls Nn H .im) (ns.map V.str) (ns.map D.str)
  | [] => .nil
  | n :: ns => .cons (.str n) (strs_rep ns)
theorem same_up {H : Hp} {p : Addr} {o : HO} (h : H p = none) : Same H (upd H p o) := same_new h
theorem rs_tupI {K : PySem.W.Frag} {cls : Nat → Addr × List Str} {Nn : Addr → Prop} {H : Hp} {p : Addr} {vs : List V} {ds : List D} (hp : H p = none) (h : Paired (Rep K cls N0 H) vs ds) : RSp K cls Nn H (upd H p (.tup vs)) .im (.ref p) (.tup ds) :=
  rs_im (.tup upd_same (.of (pimp h fun _ _ z => z.mono (same_new hp) fun _ z => z)))
theorem rs_tupS {K : PySem.W.Frag} {cls : Nat → Addr × List Str} {Nn : Addr → Prop} {H : Hp} {p : Addr} {t : T} {vs : List V} {ds : List D} (hp : H p = none) (f : t.flat = true) (h : Paired (RepB K cls Nn H t) vs ds) : RSp K cls Nn H (upd H p (.tup vs)) (.s t) (.ref p) (.tup ds) :=
  rs_bo f (.tup upd_same (pimp h fun _ _ z => z.mono (same_new hp) fun _ z => z))
theorem call_lenDD : CallR X (.builtin "len") (fun xs H Q => ∃ a kvs, xs = [V.ref a] ∧ Rd H a (.dK kvs) ∧ Q (.int kvs.length) H) := by
  intro pins s σ H xs us Q I r h
  obtain ⟨a, kvs, rfl, ha, q⟩ := h
  obtain ⟨u, rfl, ru⟩ := vals1 r
  cases ru
  exact d_len I ha fun t s' I' => ⟨.int kvs.length, H, I', ⟨t, rfl⟩, q⟩
theorem call_lenDT : CallR X (.builtin "len") (fun xs H Q => ∃ (a : Addr) (kvs : List (List Key × V)), xs = [V.ref a] ∧ Rd H a (.dT kvs) ∧ Q (.int kvs.length) H) := by
  intro pins s σ H xs us Q I r h
  obtain ⟨a, kvs, rfl, ha, q⟩ := h
  obtain ⟨u1, rfl, r1⟩ := vals1 r
  cases r1
  obtain ⟨z, hd, ys, rel, dd⟩ := dt_rd I.hok ha
  have hl : kvs.length = ys.length := Paired.length rel
  refine call_len_dictH hd dd (by rw [← hl]; rw [sizeLine_eq] at z; omega) ?_
  rw [← hl]
  exact ⟨.int ((kvs.length : Nat) : Int), H, I.tok _, ⟨_, rfl⟩, q⟩
theorem pair_keysK {K : PySem.W.Frag} {cls : Nat → Addr × List Str} {Nn : Addr → Prop} {H : Hp} {t : T} : ∀ kv : List (Key × V), Paired (RepB K cls Nn H t) (kv.map fun kv => kV kv.1) (kv.map fun kv => D.ofKey kv.1)
  | [] => .nil
  | (k, _) :: kv => .cons (RepB.of_im (rep_key0 k)) (pair_keysK kv)
where
  rep_key0 {K : PySem.W.Frag} {cls : Nat → Addr × List Str} {N : Addr → Prop} {H : Hp} : ∀ k : Key, Rep K cls N H (kV k) (D.ofKey k)
  | .inl i => .int i
  | .inr s => .str s
theorem reps_keys0 {K : PySem.W.Frag} {cls : Nat → Addr × List Str} {N : Addr → Prop} {H : Hp} : ∀ k : List Key, Reps K cls N H (k.map kV) (k.map D.ofKey)
  | [] => .nil
  | k :: ks => .cons (pair_keysK.rep_key0 k) (reps_keys0 ks)
theorem pair_keysT {K : PySem.W.Frag} {cls : Nat → Addr × List Str} {Nn : Addr → Prop} {H : Hp} {t : T} : ∀ {kv : List (List Key × V)} {bs : List Addr}, IsKeys H kv bs → Paired (RepB K cls Nn H t) (bs.map V.ref) (kv.map fun kv => D.tup (kv.1.map D.ofKey))
  | [], _, .nil => .nil
  | (k, _) :: kv, _, .cons h r => .cons (RepB.of_im (.tup h (reps_keys0 k))) (pair_keysT r)
theorem zip_keysM {κ : Type} {f : κ → D} {l : List κ} {ds : List D} (h : l.length = ds.length) : ((l.zip ds).map fun kv => f kv.1) = l.map f := by
  have : ((l.zip ds).map fun kv => f kv.1) = ((l.zip ds).map Prod.fst).map f := by rw [List.map_map]; rfl
  rw [this, List.map_fst_zip (by omega)]
theorem p1_ok (g : Good G k N sc X) (mt : MonE ta) (ha : PE X x ta) : ∀ {p : P1} {t t' : T}, t.flat = true → sh1 p sc e = some x → p1T p t = some t' →
    PE X e (fun σ H R => ta σ H (A1 G p t t' R)) := by
  intro p t t' ft sh ht
  by_cases hN : p = .isN
  · obtain ⟨r, hr, i⟩ := p1_N (X := X) (G := G) (.inl ⟨hN, rfl⟩) ht
    subst hN
    obtain ⟨pos, j, p, rfl⟩ := asCmpN_of sh
    exact (pe_cmpR hr ha pe_non (nomark _)).sub fun σ H R h => mt _ _ _ _ (fun v H1 z => i v H1 R z) h
  by_cases hN2 : p = .notN
  · obtain ⟨r, hr, i⟩ := p1_N (X := X) (G := G) (.inr ⟨hN2, rfl⟩) ht
    subst hN2
    obtain ⟨pos, j, p, rfl⟩ := asCmpN_of sh
    exact (pe_cmpR hr ha pe_non (nomark _)).sub fun σ H R h => mt _ _ _ _ (fun v H1 z => i v H1 R z) h
  by_cases hB : p = .isT ∨ p = .isF
  · have e0 : T.im = t' := by rcases hB with rfl | rfl <;> simpa [p1T] using ht
    subst e0
    have key : ∀ b : Bool, asCmpB b e = some x → (∀ (d : Pv.D) (Q : Pv.D → Prop), p1 p d Q → ∃ c, d = .bl c ∧ Q (.bl (c == b))) → PE X e (fun σ H R => ta σ H (A1 G p t .im R)) := fun b hs hp => by
      obtain ⟨pos, j, p', rfl⟩ := asCmpB_of hs
      refine (pe_cmpR op_isB ha pe_bl (nomark _)).sub fun σ H R h => mt _ _ _ _ (fun v H1 ⟨Nn, d, Q, hr, hq, kk⟩ => ?_) h
      obtain ⟨c, rfl, q⟩ := hp d Q hq
      obtain rfl := rep_bl hr.rep
      exact ⟨c, b, rfl, rfl, kk _ _ _ (Same.refl _) (rs_bl _) q⟩
    rcases hB with rfl | rfl
    · exact key true sh fun d Q h => by cases d <;> first | exact ⟨_, rfl, h⟩ | exact h.elim
    · exact key false sh fun d Q h => by cases d <;> first | exact ⟨_, rfl, h⟩ | exact h.elim
  by_cases hS : p = .lset
  · subst hS
    obtain rfl : T.im = t' := by simpa [p1T] using ht
    have key : ∃ y, asB1 "len" sc e = some y ∧ asB1 "set" sc y = some x := by
      have sh : (match asB1 "len" sc e with | some y => asB1 "set" sc y | none => none) = some x := sh
      cases hy : asB1 "len" sc e with
      | none => rw [hy] at sh; cases sh
      | some y => rw [hy] at sh; exact ⟨y, rfl, sh⟩
    clear sh
    obtain ⟨y, hy, sh⟩ := key
    · obtain ⟨p, pos, rfl, g1, pl1⟩ := asB1_of hy
      obtain ⟨p', pos', rfl, g2, pl2⟩ := asB1_of sh
      refine (pe_lenSetT (g.gl g1) (g.nob (by decide +kernel)) (g.gl g2) (g.nob (by decide +kernel)) ha g.calm (plain_star pl2)).sub fun σ H R h => mt _ _ _ _ (fun v H1 ⟨Nn, d, Q, hr, hq, kk⟩ => ?_) h
      cases d <;> try exact hq.elim
      obtain ⟨ss, rfl, hl, q⟩ := hq
      obtain ⟨a, vs, rfl, _, r, rr⟩ := rep_lst hr.rep
      obtain rfl := reps_strs rr
      exact ⟨a, ss, rfl, .inl r, hl, kk _ _ _ (Same.refl _) (rs_int _) q⟩
  by_cases hL : p = .list1 ∨ p = .tup1 ∨ p = .srt1
  · rcases hL with rfl | rfl | rfl
    · have ht : (if t.el.flat then some (T.ow t.el) else none) = some t' := ht
      split at ht
      case isFalse => cases ht
      rename_i fe
      obtain rfl := Option.some.inj ht
      refine (call1T_pe (nm := "list") g (call_list_of.or ((cr_listS g.calm).or ((call_listD g.calm).or (call_list_dT g.calm)))) (by decide +kernel) (by decide +kernel) (sh := sh) (ha := ha)).sub fun σ H R h => mt _ _ _ _ (fun v H1 ⟨Nn, d, Q, hr, hp, kk⟩ => ?_) h
      cases d <;> try exact hp.elim
      case tup ds =>
        obtain ⟨a, vs, rfl, q, r⟩ := repB_tup ft hr
        exact .inl ⟨_, vs, rfl, .inr (by rw [g.hK]; exact q), fun l hl => kk _ _ _ (same_new hl) (rs_new hl fe r) hp⟩
      case lst ds =>
        obtain ⟨a, vs, rfl, _, q, r⟩ := repB_lst ft hr
        exact .inl ⟨_, vs, rfl, .inl (.inl q), fun l hl => kk _ _ _ (same_new hl) (rs_new hl fe r) hp⟩
      case str x =>
        obtain rfl := rep_str hr.rep
        exact .inr (.inl ⟨x, rfl, hp.1, fun l hl => kk _ _ _ (same_new hl) (rs_new hl fe (pair_strs x.cps.toList)) hp.2⟩)
      case dicK =>
        obtain ⟨a, kv, ds, rfl, _, r, rfl, p⟩ := repB_dK ft hr
        have hl := Paired.length p
        refine .inr (.inr (.inl ⟨a, kv, rfl, r, fun l hn => kk _ _ _ (same_new hn) (rs_new hn fe (pair_keysK kv)) ?_⟩))
        have e := zip_keysM (f := D.ofKey) (l := kv.map (·.1)) (ds := ds) (by rw [List.length_map] at hl ⊢; exact hl)
        rw [List.map_map] at e
        have hp : Q (.lst (((kv.map (·.1)).zip ds).map fun kv => D.ofKey kv.1)) := hp
        rw [e] at hp
        exact hp
      case dicT =>
        obtain ⟨a, kv, ds, rfl, _, r, rfl, p⟩ := repB_dT ft hr
        have hl := Paired.length p
        refine .inr (.inr (.inr ⟨a, kv, rfl, r, fun l bs hn hb => kk _ _ _ (same_new hn) (rs_new hn fe (pair_keysT hb)) ?_⟩))
        have e := zip_keysM (f := fun k : List Key => D.tup (k.map D.ofKey)) (l := kv.map (·.1)) (ds := ds) (by rw [List.length_map] at hl ⊢; exact hl)
        rw [List.map_map] at e
        have hp : Q (.lst (((kv.map (·.1)).zip ds).map fun kv => D.tup (kv.1.map D.ofKey))) := hp
        rw [e] at hp
        exact hp
    · have ht : (if t.el = .im then some T.im else if t.el.flat then some (T.s t.el) else none) = some t' := by simpa only [p1T] using ht
      refine (call1T_pe (nm := "tuple") g call_tuple_of (by decide +kernel) (by decide +kernel) (sh := sh) (ha := ha)).sub fun σ H R h => mt _ _ _ _ (fun v H1 ⟨Nn, d, Q, hr, hp, kk⟩ => ?_) h
      split at ht
      · rename_i fe
        obtain rfl := Option.some.inj ht
        cases d <;> try exact hp.elim
        case tup ds =>
          obtain ⟨a, vs, rfl, q, r⟩ := repB_tupR ft hr
          rw [fe] at r
          exact ⟨_, vs, rfl, .inr ⟨by rw [g.hK]; exact SqT.of q, kk _ _ _ (Same.refl _) (rs_im (.tup q (.of r))) hp⟩⟩
        case lst ds =>
          obtain ⟨a, vs, rfl, _, q, r⟩ := repB_lst ft hr
          rw [fe] at r
          exact ⟨_, vs, rfl, .inl ⟨.inl q, fun l hl => kk _ _ _ (same_new hl) (rs_tupI hl r) hp⟩⟩
      · split at ht
        · rename_i fe
          obtain rfl := Option.some.inj ht
          cases d <;> try exact hp.elim
          case tup ds =>
            obtain ⟨a, vs, rfl, q, r⟩ := repB_tupR ft hr
            exact ⟨_, vs, rfl, .inr ⟨by rw [g.hK]; exact SqT.of q, kk _ _ _ (Same.refl _) (rs_bo fe (.tup q r)) hp⟩⟩
          case lst ds =>
            obtain ⟨a, vs, rfl, _, q, r⟩ := repB_lst ft hr
            exact ⟨_, vs, rfl, .inl ⟨.inl q, fun l hl => kk _ _ _ (same_new hl) (rs_tupS hl fe r) hp⟩⟩
        · cases ht
    · obtain rfl : T.ow .im = t' := by simpa [p1T] using ht
      refine (call1_pe (nm := "sorted") g (cr_sortedI.or (call_sortedDI g.calm)) (by decide +kernel) (by decide +kernel) (sh := sh) (ha := ha)).sub fun σ H R h => mt _ _ _ _ (fun v H1 ⟨Nn, d, Q, hr, hp, kk⟩ => ?_) h
      cases d <;> try exact hp.elim
      case lst =>
        obtain ⟨ns, rfl, hp⟩ := hp
        obtain ⟨a, vs, rfl, _, q, r⟩ := rep_lst hr.rep
        obtain rfl := reps_ints r
        exact .inl ⟨_, ns, rfl, .inl q, fun ns' p h1 h2 hl => kk _ _ _ (same_new hl) (rs_new hl rfl (ints_rep ns')) (hp ns' h1 h2)⟩
      case dicK =>
        obtain ⟨a, kv, ds, rfl, _, r, rfl, p⟩ := repB_dK ft hr
        have hl := Paired.length p
        obtain ⟨ns, e, h64, hp⟩ := hp
        rw [List.map_fst_zip (by rw [List.length_map] at hl ⊢; omega)] at e
        exact .inr ⟨a, kv, ns, rfl, r, e, h64, fun ns' p h1 h2 hl => kk _ _ _ (same_new hl) (rs_new hl rfl (ints_rep ns')) (hp ns' h1 h2)⟩
  have nL : p ≠ .list1 ∧ p ≠ .tup1 ∧ p ≠ .srt1 := by simpa only [not_or] using hL
  have ht' : p1T p t = some .im := by cases p <;> first | rfl | exact absurd rfl nL.1 | exact absurd rfl nL.2.1 | exact absurd rfl nL.2.2
  rw [ht'] at ht
  obtain rfl := Option.some.inj ht
  cases p with
  | isN => exact absurd rfl hN
  | notN => exact absurd rfl hN2
  | list1 => exact absurd rfl nL.1
  | tup1 => exact absurd rfl nL.2.1
  | srt1 => exact absurd rfl nL.2.2
  | lset => exact absurd rfl hS
  | isT => exact absurd (.inl rfl) hB
  | isF => exact absurd (.inr rfl) hB
  | min1 =>
    refine (call1_pe (nm := "min") g ((cr_min g.calm).or (cr_minT g.calm)) (by decide +kernel) (by decide +kernel) (sh := sh) (ha := ha)).sub fun σ H R h => mt _ _ _ _ (fun v H1 ⟨Nn, d, Q, hr, hp, kk⟩ => ?_) h
    cases d <;> try exact hp.elim
    case lst =>
      obtain ⟨ns, rfl, hn, hp⟩ := hp
      obtain ⟨a, vs, rfl, _, q, r⟩ := rep_lst hr.rep
      obtain rfl := reps_ints r
      exact .inl ⟨_, ns, rfl, .inl q, hn, fun m h1 h2 => kk _ _ _ (Same.refl _) (rs_int _) (hp m h1 h2)⟩
    case tup =>
      obtain ⟨ns, rfl, hn, hp⟩ := hp
      obtain ⟨a, vs, rfl, q, r⟩ := rep_tup hr.rep
      obtain rfl := reps_ints r
      exact .inr ⟨_, ns, rfl, by rw [g.hK]; exact q, hn, fun m h1 h2 => kk _ _ _ (Same.refl _) (rs_int _) (hp m h1 h2)⟩
  | max1 =>
    refine (call1_pe (nm := "max") g ((cr_max g.calm).or (cr_maxT g.calm)) (by decide +kernel) (by decide +kernel) (sh := sh) (ha := ha)).sub fun σ H R h => mt _ _ _ _ (fun v H1 ⟨Nn, d, Q, hr, hp, kk⟩ => ?_) h
    cases d <;> try exact hp.elim
    case lst =>
      obtain ⟨ns, rfl, hn, hp⟩ := hp
      obtain ⟨a, vs, rfl, _, q, r⟩ := rep_lst hr.rep
      obtain rfl := reps_ints r
      exact .inl ⟨_, ns, rfl, .inl q, hn, fun m h1 h2 => kk _ _ _ (Same.refl _) (rs_int _) (hp m h1 h2)⟩
    case tup =>
      obtain ⟨ns, rfl, hn, hp⟩ := hp
      obtain ⟨a, vs, rfl, q, r⟩ := rep_tup hr.rep
      obtain rfl := reps_ints r
      exact .inr ⟨_, ns, rfl, by rw [g.hK]; exact q, hn, fun m h1 h2 => kk _ _ _ (Same.refl _) (rs_int _) (hp m h1 h2)⟩
  | sum1 =>
    refine (call1_pe (nm := "sum") g ((cr_sum g.calm).or (cr_sumT g.calm)) (by decide +kernel) (by decide +kernel) (sh := sh) (ha := ha)).sub fun σ H R h => mt _ _ _ _ (fun v H1 ⟨Nn, d, Q, hr, hp, kk⟩ => ?_) h
    cases d <;> try exact hp.elim
    case lst =>
      obtain ⟨ns, rfl, hp⟩ := hp
      obtain ⟨a, vs, rfl, _, q, r⟩ := rep_lst hr.rep
      obtain rfl := reps_ints r
      exact .inl ⟨_, ns, rfl, .inl q, kk _ _ _ (Same.refl _) (rs_int _) hp⟩
    case tup =>
      obtain ⟨ns, rfl, hp⟩ := hp
      obtain ⟨a, vs, rfl, q, r⟩ := rep_tup hr.rep
      obtain rfl := reps_ints r
      exact .inr ⟨_, ns, rfl, by rw [g.hK]; exact q, kk _ _ _ (Same.refl _) (rs_int _) hp⟩
  | all1 =>
    refine (call1_pe (nm := "all") g (cr_all g.calm) (by decide +kernel) (by decide +kernel) (sh := sh) (ha := ha)).sub fun σ H R h => mt _ _ _ _ (fun v H1 ⟨Nn, d, Q, hr, hp, kk⟩ => ?_) h
    cases d <;> try exact hp.elim
    obtain ⟨ns, rfl, hp⟩ := hp
    obtain ⟨a, vs, rfl, _, q, r⟩ := rep_lst hr.rep
    obtain rfl := reps_bls r
    exact ⟨_, ns, rfl, .inl q, kk _ _ _ (Same.refl _) (rs_bl _) hp⟩
  | any1 =>
    refine (call1_pe (nm := "any") g (cr_any g.calm) (by decide +kernel) (by decide +kernel) (sh := sh) (ha := ha)).sub fun σ H R h => mt _ _ _ _ (fun v H1 ⟨Nn, d, Q, hr, hp, kk⟩ => ?_) h
    cases d <;> try exact hp.elim
    obtain ⟨ns, rfl, hp⟩ := hp
    obtain ⟨a, vs, rfl, _, q, r⟩ := rep_lst hr.rep
    obtain rfl := reps_bls r
    exact ⟨_, ns, rfl, .inl q, kk _ _ _ (Same.refl _) (rs_bl _) hp⟩
  | int1 =>
    refine (call1T_pe (nm := "int") g (call_int1.or call_int_str) (by decide +kernel) (by decide +kernel) (sh := sh) (ha := ha)).sub fun σ H R h => mt _ _ _ _ (fun v H1 ⟨Nn, d, Q, hr, hp, kk⟩ => ?_) h
    cases d <;> try exact hp.elim
    case int i =>
      obtain rfl := rep_int hr.rep
      exact .inl (.inl ⟨i, rfl, kk _ _ _ (Same.refl _) (rs_int _) hp⟩)
    case bl i =>
      obtain rfl := rep_bl hr.rep
      exact .inl (.inr ⟨i, rfl, kk _ _ _ (Same.refl _) (rs_int _) hp⟩)
    case str i =>
      obtain rfl := rep_str hr.rep
      obtain ⟨n, h1, h2, hp⟩ := hp
      exact .inr ⟨i, n, rfl, h1, h2, kk _ _ _ (Same.refl _) (rs_int _) hp⟩
  | str1 =>
    refine (call1T_pe (nm := "str") g (call_str_int.or SkE.call_str_str) (by decide +kernel) (by decide +kernel) (sh := sh) (ha := ha)).sub fun σ H R h => mt _ _ _ _ (fun v H1 ⟨Nn, d, Q, hr, hp, kk⟩ => ?_) h
    cases d <;> try exact hp.elim
    case int i =>
      obtain rfl := rep_int hr.rep
      exact .inl ⟨i, rfl, hp.1, kk _ _ _ (Same.refl _) (rs_str _) hp.2⟩
    case str i =>
      obtain rfl := rep_str hr.rep
      exact .inr ⟨i, rfl, kk _ _ _ (Same.refl _) (rs_str _) hp⟩
  | neg =>
    obtain ⟨pos, rfl⟩ := asUn_of sh
    refine (pe_un un_neg ha).sub fun σ H R h => mt _ _ _ _ (fun v H1 ⟨Nn, d, Q, hr, hp, kk⟩ => ?_) h
    cases d <;> try exact hp.elim
    obtain rfl := rep_int hr.rep
    exact ⟨_, rfl, kk _ _ _ (Same.refl _) (rs_int _) hp⟩
  | abs =>
    refine (call1_pe (nm := "abs") g call_abs (by decide +kernel) (by decide +kernel) (sh := sh) (ha := ha)).sub fun σ H R h => mt _ _ _ _ (fun v H1 ⟨Nn, d, Q, hr, hp, kk⟩ => ?_) h
    cases d <;> try exact hp.elim
    obtain rfl := rep_int hr.rep
    exact ⟨_, rfl, kk _ _ _ (Same.refl _) (rs_int _) hp⟩
  | len =>
    refine (call1_pe (nm := "len") g (call_len.or (call_lenDD.or call_lenDT)) (by decide +kernel) (by decide +kernel) (sh := sh) (ha := ha)).sub fun σ H R h => mt _ _ _ _ (fun v H1 ⟨Nn, d, Q, hr, hp, kk⟩ => ?_) h
    by_cases hk : ∃ kvs, d = .dicK kvs
    · obtain ⟨kvs, rfl⟩ := hk
      obtain ⟨a, kv, ds, rfl, _, r, rfl, p⟩ := repB_dK ft hr
      refine .inr (.inl ⟨a, kv, rfl, r, kk _ _ _ (Same.refl _) (rs_int _) ?_⟩)
      have hl := Paired.length p
      rw [List.length_map] at hl
      have hp : Q (.int (((kv.map (·.1)).zip ds).length : Nat)) := hp
      rw [List.length_zip, List.length_map, ← hl, Nat.min_self] at hp
      exact hp
    by_cases hk2 : ∃ kvs, d = .dicT kvs
    · obtain ⟨kvs, rfl⟩ := hk2
      obtain ⟨a, kv, ds, rfl, _, r, rfl, p⟩ := repB_dT ft hr
      refine .inr (.inr ⟨a, kv, rfl, r, kk _ _ _ (Same.refl _) (rs_int _) ?_⟩)
      have hl := Paired.length p
      rw [List.length_map] at hl
      have hp : Q (.int (((kv.map (·.1)).zip ds).length : Nat)) := hp
      rw [List.length_zip, List.length_map, ← hl, Nat.min_self] at hp
      exact hp
    refine .inl ?_
    cases d <;> first | exact hp.elim | exact absurd ⟨_, rfl⟩ hk | exact absurd ⟨_, rfl⟩ hk2 | skip
    case str s =>
      obtain rfl := rep_str hr.rep
      exact ⟨_, s.length, rfl, ⟨hp.1, rfl⟩, kk _ _ _ (Same.refl _) (rs_int _) hp.2⟩
    case tup ds =>
      obtain ⟨a, vs, rfl, q, r⟩ := rep_tup hr.rep
      exact ⟨_, ds.length, rfl, .inr ⟨vs, by rw [g.hK]; exact q, r.length.symm⟩, kk _ _ _ (Same.refl _) (rs_int _) hp⟩
    case lst ds =>
      obtain ⟨a, vs, rfl, _, q, r⟩ := rep_lst hr.rep
      exact ⟨_, ds.length, rfl, .inl ⟨vs, .inl q, r.length.symm⟩, kk _ _ _ (Same.refl _) (rs_int _) hp⟩
  | isi ty =>
    have sh' : (if ty ∈ tys then asIsi (strOf ty) sc e else none) = some x := sh
    split at sh'
    case isFalse => cases sh'
    rename_i hty
    obtain ⟨hb, hm⟩ := boot_ty hty
    obtain ⟨p, q, pos, rfl, g1, pl, g2, nb⟩ := asIsi_of sh'
    have hq : PE X (.Name (strOf ty) q) (tC (.ty ty)) := pe_bltn (g.gl g2) (g.nob hm) hb rfl (nm_of nb).2.2 (nm_of nb).1
    refine (pe_callB call_isi (g.gl g1) (g.nob (by decide +kernel)) (by decide +kernel) (pa_cons ha (pa_cons hq pa_nil rfl) (plain_star pl)) (by decide +kernel) (by decide +kernel) (plain_star pl)).sub fun σ H R h => mt _ _ _ _ (fun v H1 ⟨Nn, d, Q, hr, hp, kk⟩ => ?_) h
    have hp' : (match isTy ty d with | some b => Q (.bl b) | none => False) := by cases d <;> exact hp
    cases e : isTy ty d with
    | none => rw [e] at hp'; exact hp'.elim
    | some b =>
      rw [e] at hp'
      unfold isTy at e
      cases e2 : tyName d with
      | none => rw [e2] at e; cases e
      | some n =>
        rw [e2] at e
        exact ⟨v, .ty ty, .type n, .type ty, b, rfl, .ty ty, by rw [g.hK]; exact tyX_of hr.rep e2, kit_ty e, kk _ _ _ (Same.refl _) (rs_bl _) hp'⟩
theorem op_pe {op : Operator} {r : R2} (ho : OpR X (binaryOp op) r) (sh : asBin op e = some (x, y)) (ha : PE X x ta) (hb : PE X y tb) : PE X e (fun σ H R => ta σ H fun v H1 => tb σ H1 fun w H2 => r v w H2 R) := by
  obtain ⟨pos, rfl⟩ := asBin_of sh
  exact pe_op ho ha hb
theorem cmp_pe {op : CmpOp} {r : R2} (ho : OpR X (compareOp op) r) (sh : asCmp op e = some (x, y)) (ha : PE X x ta) (hb : PE X y tb) : PE X e (fun σ H R => ta σ H fun v H1 => tb σ H1 fun w H2 => r v w H2 R) := by
  obtain ⟨pos, rfl, pl⟩ := asCmp_of sh
  exact pe_cmpR ho ha hb (plain_mark pl)
theorem ix_pe {r : R2} (ho : IxR X r) (sh : asSub e = some (x, y)) (ha : PE X x ta) (hb : PE X y tb) : PE X e (fun σ H R => ta σ H fun v H1 => tb σ H1 fun w H2 => r v w H2 R) := by
  obtain ⟨pos, rfl, pl⟩ := asSub_of sh
  exact pe_ix ho ha hb (plain_ix pl)
theorem op_mulA : OpR X (binaryOp .Mult) (rI mulOk fun i j => .int (i * j)) := by
  intro pins s σ H x y v u Q I rx ry h
  obtain ⟨i, j, h1, h2, hc | hc, q⟩ := h
  · exact op_mul pins s σ H x y v u Q I rx ry ⟨i, j, h1, h2, hc, q⟩
  · exact op_mulW pins s σ H x y v u Q I rx ry ⟨i, j, h1, h2, hc, q⟩
theorem op_divA : OpR X (binaryOp .FloorDiv) (rI divOk fun i j => .int (i.fdiv j)) :=
  opI fun _ _ _ _ _ _ _ hc q => PyProof.Rows.floordiv_int hc.1 q (.inl (PyProof.noPylong_of_log2 hc.2))
def rRepA : R2 := fun x y H Q => ∃ l k xs, x = .ref l ∧ y = .int k ∧ Rd H l (.lst xs) ∧ okRep xs.length k ∧ ∀ p, H p = none → Q (.ref p) (upd H p (.lst (List.replicate k.toNat xs).flatten))
open PySem.Spec PyProof.Rows in
theorem op_repA : OpR X (binaryOp .Mult) rRepA := by
  intro pins s σ H x y v u Q I rx ry h
  obtain ⟨l, k, xs, rfl, rfl, hH, ⟨h1, h2, hz⟩, q⟩ := h
  cases rx
  obtain ⟨t, rfl⟩ := ry
  obtain ⟨_, its, n, r, e⟩ := hH.ok I.hok
  have hl := r.length
  have hlen : its.toArray.size * k.toNat ≤ sizeLine := by rw [List.size_toArray, ← hl]; exact hz
  have hcap : ¬ its.toArray.size * k.toNat > (2 ^ 63 - 1) / 8 := by
    have : (sizeLine : Nat) ≤ (2 ^ 63 - 1) / 8 := by decide
    omega
  have hfit : ¬ (!Builtin.List.listFitsIndex k) = true := by
    rw [fitsIndex_both h1 h2]
    exact Bool.false_ne_true
  have hlong : ¬ Builtin.List.listTooLong (its.toArray.size * k.toNat) = true := by
    rw [notLongL hlen]
    exact Bool.false_ne_true
  have hnew : List.foldl (fun x1 x2 => x1 ++ x2) #[] (List.replicate (if its.toArray.isEmpty = true then 0 else k.toNat) its.toArray) = (List.replicate k.toNat its).flatten.toArray := by
    have f0 : ∀ m : Nat, List.foldl (fun x1 x2 => x1 ++ x2) #[] (List.replicate m its.toArray) = (List.replicate m its).flatten.toArray := fun m => by
      have := foldl_rep its m []
      rw [List.nil_append] at this
      exact this
    rw [f0]
    cases its with
    | nil => simp
    | cons a r' => rw [if_neg (by simp)]
  refine wpAny_binaryOp_repeat_ref (T := "list") (U := "int") (by decide) ⟨_, e, rfl⟩ (fun s' => typeIs_int s' k t) noFill_list_mul F.fills_int_mul F.slot_int_rmul repeat_list F.slot_int_index.lookup
    (call_meets F.slot_int_rmul (typeIs_int s k t) F.entry_int_rmul (F.args_int_rmul_2 _ _) (int___rmul___int_list k t l its.toArray n)
      ⟨e, rfl, ⟨_, e, rfl⟩, call_meets F.slot_list_mul ⟨_, e, rfl⟩ F.entry_list_mul (F.args_list_mul_2 _ _) (AutoListH.list___mul___list_int_3 l its.toArray n k t hfit hcap hlong) ⟨e, ?_⟩⟩)
  rw [hnew]
  exact ⟨.ref _, _, I.lnew (t' := s.toks) (r.rep k.toNat) (by rw [PyProof.Rows.lm_len_rep_flat, Nat.mul_comm]; exact hz), rfl, q _ I.fresh⟩
def rMulS : R2 := fun x y H Q => ∃ z k, x = .str z ∧ y = .int k ∧ okRep z.length k ∧ Q (.str (repS z k)) H
theorem repS_cps (z : Str) (m : Nat) : (List.replicate m z.cps).foldl (· ++ ·) #[] = (List.replicate m z.cps.toList).flatten.toArray := by
  have : ∀ (m : Nat) (a : Array Nat), (List.replicate m z.cps).foldl (· ++ ·) a = (a.toList ++ (List.replicate m z.cps.toList).flatten).toArray := by
    intro m
    induction m with
    | zero => intro a; simp
    | succ m ih => intro a; rw [List.replicate_succ, List.foldl_cons, ih, List.replicate_succ, List.flatten_cons]; simp
  rw [this]
  simp
theorem op_mulS : OpR X (binaryOp .Mult) rMulS := by
  intro pins s σ H x y v u Q I rx ry h
  obtain ⟨z, k, rfl, rfl, ⟨h1, h2, hz⟩, q⟩ := h
  obtain ⟨t, rfl⟩ := rx
  obtain ⟨t', rfl⟩ := ry
  have hzl : z.length = z.cps.toList.length := by simp [Str.length]
  refine PySem.P.mul_str ?_ (fun a b => ?_) (fun a b => ?_) ?_
  · rw [decide_eq_false (by omega), decide_eq_false (by omega)]; rfl
  · have hk : 1 ≤ k := by omega
    have h9 : (z.length : Int) * k ≤ sizeLine := by
      have := Int.toNat_of_nonneg (show 0 ≤ k by omega)
      rw [← this]
      exact_mod_cast hz
    have : (z.length : Int) ≤ (2 ^ 63 - 1) / k := by
      rw [Int.le_ediv_iff_mul_le (by omega)]
      have : (sizeLine : Int) ≤ 2 ^ 63 - 1 := by decide
      omega
    omega
  · unfold Builtin.Str.tooLong
    exact decide_eq_false (by omega)
  · split
    · rename_i hn
      have e : repS z k = Str.empty := by
        unfold repS
        rw [show k.toNat = 0 by omega]
        rfl
      rw [e] at q
      exact ⟨by decide, ⟨.str _, H, I.tok _, ⟨_, rfl⟩, q⟩⟩
    · split
      · rename_i hn hb
        have e : repS z k = z := by
          unfold repS
          rw [Bool.or_eq_true] at hb
          rcases hb with hb | hb
          · have : k = 1 := by simpa using hb
            subst this
            simp
          · have : z.cps.toList = [] := by
              have h0 : z.length = 0 := by simpa using hb
              rw [hzl] at h0
              exact List.eq_nil_of_length_eq_zero h0
            rw [this]
            have e2 : z = ⟨z.cps⟩ := rfl
            have e3 : z.cps = #[] := by
              apply Array.ext'
              simpa using this
            rw [e2, e3]
            simp
        rw [e] at q
        exact ⟨.str _, H, I, ⟨_, rfl⟩, q⟩
      · have e : (⟨(List.replicate k.toNat z.cps).foldl (· ++ ·) #[]⟩ : Str) = repS z k := by
          unfold repS
          rw [repS_cps]
        rw [e]
        have hl : (repS z k).length ≤ sizeLine := by
          have : (repS z k).length = z.length * k.toNat := by
            unfold repS Str.length
            rw [List.size_toArray]
            have : ∀ m : Nat, (List.replicate m z.cps.toList).flatten.length = z.cps.size * m := fun m => by
              induction m with
              | zero => rfl
              | succ m ih => rw [List.replicate_succ, List.flatten_cons, List.length_append, ih, Array.length_toList, Nat.mul_succ]; omega
            exact this _
          omega
        exact ⟨hl, ⟨.str _, H, I.tok _, ⟨_, rfl⟩, q⟩⟩
def rMulAll : R2 := fun x y H Q => rI mulOk (fun i j => .int (i * j)) x y H Q ∨ rRepA x y H Q ∨ rMulS x y H Q
/-- list + list, locked ones too -/
def rCatA : R2 := fun x y H Q => ∃ a b xs ys, x = .ref a ∧ y = .ref b ∧ Rd H a (.lst xs) ∧ Rd H b (.lst ys) ∧ xs.length + ys.length ≤ sizeLine ∧ ∀ p, H p = none → Q (.ref p) (upd H p (.lst (xs ++ ys)))
theorem op_catA : OpR X (binaryOp .Add) rCatA := by
  intro pins s σ H x y v u Q I rx ry h
  obtain ⟨a, b, xs, ys, rfl, rfl, ha, hb, hz, q⟩ := h
  cases rx
  cases ry
  obtain ⟨_, i1, n1, r1, e1⟩ := ha.ok I.hok
  obtain ⟨_, i2, n2, r2, e2⟩ := hb.ok I.hok
  have l1 := r1.length
  have l2 := r2.length
  refine PySem.P.add_list e1 e2 ?_ ?_
  · have e : i1.toArray ++ i2.toArray = (i1 ++ i2).toArray := by simp
    rw [e]
    refine ⟨.ref _, _, I.lnew (ys := xs ++ ys) (t' := s.toks) (Vals.append r1 r2) ?_, rfl, q _ I.fresh⟩
    simpa using hz
  · simp only [List.size_toArray]
    omega
theorem op_mulAll : OpR X (binaryOp .Mult) rMulAll := op_mulA.or (op_repA.or op_mulS)
def rAddA : R2 := fun x y H Q => (∃ i j, x = .int i ∧ y = .int j ∧ Q (.int (i + j)) H) ∨ (∃ i j, x = .str i ∧ y = .str j ∧ i.length + j.length ≤ sizeLine ∧ Q (.str (i ++ j)) H) ∨ rCatA x y H Q
theorem op_addA : OpR X (binaryOp .Add) rAddA := op_add.or (op_add_str.or op_catA)
/-- two tests that both sides have been read -/
theorem two (mt : MonE ta) (mb : MonE tb) {σ : St} {H : Hp} {p q : V → V → Hp → Prop} (i : ∀ v w H, p v w H → q v w H) (h : ta σ H fun v H1 => tb σ H1 fun w H2 => p v w H2) : ta σ H fun v H1 => tb σ H1 fun w H2 => q v w H2 :=
  mt _ _ _ _ (fun v H1 z => mb _ _ _ _ (fun w H2 z => i v w H2 z) z) h
theorem p2_int {p : P2} {op : V → V → Hp → Prop} {C : Int → Int → Prop} {g : Int → Int → Int} {t u : T} {R : VK} {v w : V} {H : Hp} (h : A2 G p t u .im R v w H)
    (ho : ∀ d d2 Q, p2 p d d2 Q → ∃ i j, d = .int i ∧ d2 = .int j ∧ C i j ∧ Q (.int (g i j))) : ∃ i j, v = .int i ∧ w = .int j ∧ C i j ∧ R (.int (g i j)) H := by
  obtain ⟨Nn, d, d2, Q, h1, h2, hp, kk⟩ := h
  obtain ⟨i, j, rfl, rfl, c, q⟩ := ho _ _ _ hp
  obtain rfl := rep_int h1.rep
  obtain rfl := rep_int h2.rep
  exact ⟨i, j, rfl, rfl, c, kk _ _ _ (Same.refl _) (rs_int _) q⟩
theorem p2_bl {p : P2} {g : Int → Int → Bool} {t u : T} {R : VK} {v w : V} {H : Hp} (h : A2 G p t u .im R v w H)
    (ho : ∀ d d2 Q, p2 p d d2 Q → ∃ i j, d = .int i ∧ d2 = .int j ∧ Q (.bl (g i j))) : ∃ i j, v = .int i ∧ w = .int j ∧ R (.bl (g i j)) H := by
  obtain ⟨Nn, d, d2, Q, h1, h2, hp, kk⟩ := h
  obtain ⟨i, j, rfl, rfl, q⟩ := ho _ _ _ hp
  obtain rfl := rep_int h1.rep
  obtain rfl := rep_int h2.rep
  exact ⟨i, j, rfl, rfl, kk _ _ _ (Same.refl _) (rs_bl _) q⟩
/-- which operator, which comparison a two-place operation is -/
def cmpOf : P2 → Option CmpOp
  | .eq => some .Eq
  | .ne => some .NotEq
  | .lt => some .Lt
  | .le => some .LtE
  | .gt => some .Gt
  | .ge => some .GtE
  | .isin => some .In
  | .nin => some .NotIn
  | _ => none
theorem p2_bin (hK : X.K = G.K) {p : P2} {op : Operator} (ho : binOf p = some op) {t u t' : T} (ft : t.flat = true) (fu : u.flat = true) (ht : p2T p t u = some t') : ∃ r : R2, OpR X (binaryOp op) r ∧ ∀ v w H R, A2 G p t u t' R v w H → r v w H R := by
  cases p <;> cases ho
  case add =>
    refine ⟨_, op_addA, fun v w H1 R h => ?_⟩
    simp only [p2T] at ht
    split at ht
    · obtain rfl := Option.some.inj ht
      obtain ⟨Nn, d, d2, Q, h1, h2, hp, kk⟩ := h
      cases d <;> cases d2 <;> try exact hp.elim
      · obtain rfl := rep_int h1.rep
        obtain rfl := rep_int h2.rep
        exact .inl ⟨_, _, rfl, rfl, kk _ _ _ (Same.refl _) (rs_int _) hp⟩
      · obtain rfl := rep_str h1.rep
        obtain rfl := rep_str h2.rep
        exact .inr (.inl ⟨_, _, rfl, rfl, hp.1, kk _ _ _ (Same.refl _) (rs_str _) hp.2⟩)
      · rename_i z _ _
        rw [z.1] at h1
        obtain ⟨_, _, _, n, _⟩ := rep_lst (N := N0) h1
        exact n.elim
    · split at ht
      · rename_i c
        simp only [Bool.and_eq_true] at c
        obtain ⟨⟨ff, f1⟩, f2⟩ := c
        obtain rfl := Option.some.inj ht
        obtain ⟨Nn, d, d2, Q, h1, h2, hp, kk⟩ := h
        cases d <;> cases d2 <;> try exact hp.elim
        · obtain rfl := rep_int h1.rep
          obtain rfl := rep_int h2.rep
          exact .inl ⟨_, _, rfl, rfl, kk _ _ _ (Same.refl _) ⟨[], .nil, fun _ z => absurd z (by simp), .owx (.int _)⟩ hp⟩
        · obtain rfl := rep_str h1.rep
          obtain rfl := rep_str h2.rep
          exact .inr (.inl ⟨_, _, rfl, rfl, hp.1, kk _ _ _ (Same.refl _) ⟨[], .nil, fun _ z => absurd z (by simp), .owx (.str _)⟩ hp.2⟩)
        · obtain ⟨a, vs, rfl, _, q1, p1⟩ := repB_lst ft h1
          obtain ⟨b, ws, rfl, _, q2, p2⟩ := repB_lst fu h2
          refine .inr (.inr ⟨a, b, vs, ws, rfl, rfl, q1, q2, by rw [pair_len p1, pair_len p2]; exact hp.1, fun p hn => kk _ _ _ (same_new hn) (rs_new hn ff (pair_append ?_ ?_)) hp.2⟩)
          · exact pimp p1 fun _ _ z => z.le f1
          · exact pimp p2 fun _ _ z => z.le f2
      · cases ht
  case sub =>
    cases ht
    refine ⟨_, op_sub, fun v w H1 R h => ?_⟩
    obtain ⟨i, j, h1, h2, -, q⟩ := p2_int (C := fun _ _ => True) (op := fun _ _ _ => True) h fun d d2 Q hp => by cases d <;> cases d2 <;> first | exact ⟨_, _, rfl, rfl, trivial, hp⟩ | exact hp.elim
    exact ⟨i, j, h1, h2, q⟩
  case mul =>
    refine ⟨_, op_mulAll, fun v w H1 R h => ?_⟩
    simp only [p2T] at ht
    split at ht
    · rename_i eim
      subst eim
      obtain rfl := Option.some.inj ht
      obtain ⟨Nn, d, d2, Q, h1, h2, hp, kk⟩ := h
      cases d <;> cases d2 <;> try exact hp.elim
      · obtain rfl := rep_int h1.rep
        obtain rfl := rep_int h2.rep
        exact .inl ⟨_, _, rfl, rfl, hp.1, kk _ _ _ (Same.refl _) (rs_int _) hp.2⟩
      · obtain rfl := rep_str h1.rep
        obtain rfl := rep_int h2.rep
        exact .inr (.inr ⟨_, _, rfl, rfl, hp.1, kk _ _ _ (Same.refl _) (rs_str _) hp.2⟩)
      · obtain ⟨_, _, _, n, _⟩ := rep_lst (N := N0) h1
        exact n.elim
    · split at ht
      · rename_i fe
        obtain rfl := Option.some.inj ht
        obtain ⟨Nn, d, d2, Q, h1, h2, hp, kk⟩ := h
        cases d <;> cases d2 <;> try exact hp.elim
        · obtain rfl := rep_int h1.rep
          obtain rfl := rep_int h2.rep
          exact .inl ⟨_, _, rfl, rfl, hp.1, kk _ _ _ (Same.refl _) ⟨[], .nil, fun _ z => absurd z (by simp), .owx (.int _)⟩ hp.2⟩
        · obtain rfl := rep_str h1.rep
          obtain rfl := rep_int h2.rep
          exact .inr (.inr ⟨_, _, rfl, rfl, hp.1, kk _ _ _ (Same.refl _) ⟨[], .nil, fun _ z => absurd z (by simp), .owx (.str _)⟩ hp.2⟩)
        · rename_i xs kx
          obtain ⟨a, vs, rfl, _, q1, p1⟩ := repB_lst ft h1
          obtain rfl := rep_int h2.rep
          refine .inr (.inl ⟨a, kx, vs, rfl, rfl, q1, by rw [pair_len p1]; exact hp.1, fun p hn => kk _ _ _ (same_new hn) (rs_new hn fe ?_) hp.2⟩)
          have rp : ∀ m : Nat, Paired (RepB G.K G.cls Nn H1 t.el) (List.replicate m vs).flatten (List.replicate m xs).flatten := fun m => by
            induction m with
            | zero => exact .nil
            | succ m ih => rw [List.replicate_succ, List.flatten_cons, List.replicate_succ, List.flatten_cons]; exact pair_append p1 ih
          exact rp _
      · cases ht
  case addt =>
    refine ⟨_, L2.op_catA, fun v w H1 R h => ?_⟩
    simp only [p2T] at ht
    split at ht
    · rename_i eim
      obtain ⟨rfl, rfl⟩ := eim
      obtain rfl := Option.some.inj ht
      obtain ⟨Nn, d, d2, Q, h1, h2, hp, kk⟩ := h
      cases d <;> cases d2 <;> try exact hp.elim
      obtain ⟨a, vs, rfl, q1, p1⟩ := repB_tup ft h1
      obtain ⟨b, ws, rfl, q2, p2⟩ := repB_tup fu h2
      rename_i xs ys
      refine ⟨a, b, vs, ws, rfl, rfl, by rw [hK]; exact q1, by rw [hK]; exact q2, by rw [pair_len p1, pair_len p2]; exact hp.1, fun e => ?_, fun e e2 => ?_, fun e e2 p hn => ?_⟩
      · subst e
        cases p1
        exact kk _ _ _ (Same.refl _) (rs_im h2) hp.2
      · subst e2
        cases p2
        have := hp.2
        rw [List.append_nil] at this
        exact kk _ _ _ (Same.refl _) (rs_im h1) this
      · exact kk _ _ _ (same_new hn) (rs_tupI hn (pair_append p1 p2)) hp.2
    · split at ht
      · rename_i c
        simp only [Bool.and_eq_true] at c
        obtain ⟨⟨ff, f1⟩, f2⟩ := c
        obtain rfl := Option.some.inj ht
        obtain ⟨Nn, d, d2, Q, h1, h2, hp, kk⟩ := h
        cases d <;> cases d2 <;> try exact hp.elim
        obtain ⟨a, vs, rfl, q1, p1⟩ := repB_tupR ft h1
        obtain ⟨b, ws, rfl, q2, p2⟩ := repB_tupR fu h2
        have p1' := pimp p1 fun _ _ z => z.le f1
        have p2' := pimp p2 fun _ _ z => z.le f2
        refine ⟨a, b, vs, ws, rfl, rfl, by rw [hK]; exact SqT.of q1, by rw [hK]; exact SqT.of q2, by rw [pair_len p1, pair_len p2]; exact hp.1, fun e => ?_, fun e e2 => ?_, fun e e2 p hn => ?_⟩
        · subst e
          cases p1
          exact kk _ _ _ (Same.refl _) (rs_bo ff (.tup q2 p2')) hp.2
        · subst e2
          cases p2
          have := hp.2
          rw [List.append_nil] at this
          exact kk _ _ _ (Same.refl _) (rs_bo ff (.tup q1 p1')) this
        · exact kk _ _ _ (same_new hn) (rs_tupS hn ff (pair_append p1' p2')) hp.2
      · cases ht
  case fdiv =>
    cases ht
    refine ⟨_, op_divA, fun v w H1 R h => ?_⟩
    exact p2_int (C := divOk) (op := fun _ _ _ => True) h fun d d2 Q hp => by cases d <;> cases d2 <;> first | exact ⟨_, _, rfl, rfl, hp.1, hp.2⟩ | exact hp.elim
  case mod =>
    cases ht
    refine ⟨_, op_modN, fun v w H1 R h => ?_⟩
    exact p2_int (C := fun _ j => j ≠ 0) (op := fun _ _ _ => True) h fun d d2 Q hp => by cases d <;> cases d2 <;> first | exact ⟨_, _, rfl, rfl, hp.1, hp.2⟩ | exact hp.elim
  case pow =>
    cases ht
    refine ⟨_, op_pow, fun v w H1 R h => ?_⟩
    exact p2_int (C := CPow) (op := fun _ _ _ => True) h fun d d2 Q hp => by cases d <;> cases d2 <;> first | exact ⟨_, _, rfl, rfl, hp.1, hp.2⟩ | exact hp.elim
theorem any_pys (f : PyData → Bool) : ∀ ys : List D, (D.pys ys).any f = ys.any fun y => f y.py
  | [] => rfl
  | y :: ys => by simp only [D.pys, List.any_cons, any_pys f ys]
def rIxDD : R2 := fun x y H Q => ∃ a v, x = .ref a ∧ DGet H a y (some v) ∧ Q v H
theorem ix_dic (hu : X.A.units + 1 < cLine) : IxR X rIxDD := by
  intro value slice pins s σ H x y v u Q I rx ry h hs
  obtain ⟨a, r, rfl, g, q⟩ := h
  obtain rfl : v = Value.ref a := rx
  exact PyProof.Rows.tail_any (dict_typeIs I g) PySem.F.slot_dict_getitem.lookup (d_getItem hu I g ry fun w' s3 I3 rw' => ⟨r, H, I3, rw', q⟩) hs
theorem op_din (hu : X.A.units + 1 < cLine) : OpR X (compareOp .In) (fun x y H Q => ∃ a o, y = .ref a ∧ DGet H a x o ∧ Q (.bl o.isSome) H) := by
  intro pins s σ H x y v u Q I rx ry h
  obtain ⟨a, o, rfl, g, q⟩ := h
  obtain rfl : u = Value.ref a := ry
  exact d_in hu I g rx fun s3 I3 => ⟨.bl o.isSome, H, I3, rfl, q⟩
theorem op_dnin (hu : X.A.units + 1 < cLine) : OpR X (compareOp .NotIn) (fun x y H Q => ∃ a o, y = .ref a ∧ DGet H a x o ∧ Q (.bl (!o.isSome)) H) := by
  intro pins s σ H x y v u Q I rx ry h
  obtain ⟨a, o, rfl, g, q⟩ := h
  obtain rfl : u = Value.ref a := ry
  exact d_notIn hu I g rx fun s3 I3 => ⟨.bl (!o.isSome), H, I3, rfl, q⟩
def rInDT (K : PySem.W.Frag) : R2 := fun x y H Q => ∃ d ds, Dp K H x d ∧ Dp K H y (.tuple ds) ∧ SeqAt.shaped d = true ∧ SeqAt.shaped (.list ds) = true ∧ Q (.bl (ds.any fun z => PyData.eqv z d)) H
def rNotInDT (K : PySem.W.Frag) : R2 := fun x y H Q => ∃ d ds, Dp K H x d ∧ Dp K H y (.tuple ds) ∧ SeqAt.shaped d = true ∧ SeqAt.shaped (.list ds) = true ∧ Q (.bl (!ds.any fun z => PyData.eqv z d)) H
theorem op_inDT (hu : X.A.units + 65 < cLine) : OpR X (compareOp .In) (rInDT X.K) := by
  intro pins s σ H x y v u Q I rx ry h
  obtain ⟨d, ds, hd, he, sd, se, q⟩ := h
  obtain ⟨as, r1⟩ := Dp.reads I d x v hd rx
  obtain ⟨bs, r2⟩ := Dp.reads I (.tuple ds) y u he ry
  exact SeqAt.in_tuple_reads r2 r1 (SeqAt.canLay_of_shaped se) (SeqAt.canLay_of_shaped sd) (PyProof.Rows.room_in_shaped sd hu) ⟨.bl _, H, I, rfl, q⟩
theorem op_notInDT (hu : X.A.units + 65 < cLine) : OpR X (compareOp .NotIn) (rNotInDT X.K) := by
  intro pins s σ H x y v u Q I rx ry h
  obtain ⟨d, ds, hd, he, sd, se, q⟩ := h
  obtain ⟨as, r1⟩ := Dp.reads I d x v hd rx
  obtain ⟨bs, r2⟩ := Dp.reads I (.tuple ds) y u he ry
  exact SeqAt.notIn_tuple_reads r2 r1 (SeqAt.canLay_of_shaped se) (SeqAt.canLay_of_shaped sd) (PyProof.Rows.room_in_shaped sd hu) ⟨.bl _, H, I, rfl, q⟩
theorem dget_in {K : PySem.W.Frag} {cls : Nat → Addr × List Str} {Nn : Addr → Prop} {H : Hp} {t u : T} (ft : t.flat = true) {v w : V} {x d : D} {Q : Bool → Prop} (h1 : RepB K cls Nn H u w x) (h2 : RepB K cls Nn H t v d)
    (hp : (∃ kvs k, d = .dicK kvs ∧ toKey x = some k ∧ Q (dval kvs k).isSome) ∨ (∃ kvs k, d = .dicT kvs ∧ toKeys x = some k ∧ Q (dval kvs k).isSome)) : ∃ a o, v = .ref a ∧ DGet H a w o ∧ Q o.isSome := by
  rcases hp with ⟨kvs, k, rfl, e, q⟩ | ⟨kvs, k, rfl, e, q⟩
  · obtain ⟨a, kv, ds, rfl, _, r, rfl, p⟩ := repB_dK ft h2
    refine ⟨a, _, rfl, .inl ⟨kv, k, r, key_rep h1.rep e, rfl⟩, ?_⟩
    rw [← (dval_rep p k).2]
    exact q
  · obtain ⟨a, kv, ds, rfl, _, r, rfl, p⟩ := repB_dT ft h2
    obtain ⟨b, rfl, hb⟩ := keyT_rep h1.rep e
    refine ⟨a, _, rfl, .inr ⟨kv, k, b, r, rfl, hb, rfl⟩, ?_⟩
    rw [← (dval_rep p k).2]
    exact q
theorem p2_cmp (g : Good G k N sc X) {p : P2} {op : CmpOp} (ho : cmpOf p = some op) {t u t' : T} (ft : t.flat = true) (fu : u.flat = true) (ht : p2T p t u = some t') : ∃ r : R2, OpR X (compareOp op) r ∧ ∀ v w H R, A2 G p t u t' R v w H → r v w H R := by
  cases p <;> cases ho
  case eq =>
    cases ht
    refine ⟨_, op_eqD g.u, fun v w H1 R h => ?_⟩
    obtain ⟨Nn, d, d2, Q, h1, h2, hp, kk⟩ := h
    have hp' : okEq d d2 ∧ Q (.bl (PyData.eqv d.py d2.py)) := by cases d <;> exact hp
    exact ⟨_, _, by rw [g.hK]; exact dp_of h1.rep hp'.1.1, by rw [g.hK]; exact dp_of h2.rep hp'.1.2.1, hp'.1.2.2.1, hp'.1.2.2.2, kk _ _ _ (Same.refl _) (rs_bl _) hp'.2⟩
  case ne =>
    cases ht
    refine ⟨_, op_neD g.u, fun v w H1 R h => ?_⟩
    obtain ⟨Nn, d, d2, Q, h1, h2, hp, kk⟩ := h
    have hp' : okEq d d2 ∧ Q (.bl (!PyData.eqv d.py d2.py)) := by cases d <;> exact hp
    exact ⟨_, _, by rw [g.hK]; exact dp_of h1.rep hp'.1.1, by rw [g.hK]; exact dp_of h2.rep hp'.1.2.1, hp'.1.2.2.1, hp'.1.2.2.2, kk _ _ _ (Same.refl _) (rs_bl _) hp'.2⟩
  case isin =>
    cases ht
    refine ⟨_, ((op_in_str.or (op_inD (X := X) (by have := g.room.un; omega))).or (op_din (X := X) (by have := g.u; omega))).or (op_inDT (X := X) (by have := g.room.un; omega)), fun v w H1 R h => ?_⟩
    obtain ⟨Nn, d, d2, Q, h1, h2, hp, kk⟩ := h
    by_cases hd : (∃ kvs k, d2 = .dicK kvs ∧ toKey d = some k ∧ Q (.bl (dval kvs k).isSome)) ∨ (∃ kvs k, d2 = .dicT kvs ∧ toKeys d = some k ∧ Q (.bl (dval kvs k).isSome))
    · obtain ⟨a, o, rfl, g1, q⟩ := dget_in (Q := fun b => Q (.bl b)) fu h1 h2 hd
      exact .inl (.inr ⟨a, o, rfl, g1, kk _ _ _ (Same.refl _) (rs_bl _) q⟩)
    have hd2 : (∀ kvs, d2 ≠ .dicK kvs) ∧ ∀ kvs, d2 ≠ .dicT kvs := by
      refine ⟨fun kvs e => ?_, fun kvs e => ?_⟩
      · subst e
        exact hd (.inl (by cases d <;> (obtain ⟨k, q⟩ := hp; exact ⟨kvs, k, rfl, q⟩)))
      · subst e
        exact hd (.inr (by cases d <;> (obtain ⟨k, q⟩ := hp; exact ⟨kvs, k, rfl, q⟩)))
    by_cases htp : ∃ ys, d2 = .tup ys
    · obtain ⟨ys, rfl⟩ := htp
      have hp : okIn d ys ∧ Q (.bl (ys.any fun y => PyData.eqv y.py d.py)) := by cases d <;> exact hp
      obtain ⟨⟨o1, o2, o3, o4⟩, hq⟩ := hp
      refine .inr ⟨d.py, D.pys ys, by rw [g.hK]; exact dp_of h1.rep o1, by rw [g.hK]; have := dp_of h2.rep (by simpa [D.plain] using o2); simpa [D.py] using this, o3, o4, ?_⟩
      rw [any_pys]
      exact kk _ _ _ (Same.refl _) (rs_bl _) hq
    have htp2 : ∀ ys, d2 ≠ .tup ys := fun ys e => htp ⟨ys, e⟩
    refine .inl (.inl ?_)
    by_cases hs : ∃ i j, d = .str i ∧ d2 = .str j
    · obtain ⟨i, j, rfl, rfl⟩ := hs
      obtain rfl := rep_str h1.rep
      obtain rfl := rep_str h2.rep
      exact .inl ⟨i, j, rfl, rfl, kk _ _ _ (Same.refl _) (rs_bl _) hp⟩
    · have : ∃ ys, d2 = .lst ys ∧ okIn d ys ∧ Q (.bl (ys.any fun y => PyData.eqv y.py d.py)) := by
        cases d2 <;> cases d <;> first | exact ⟨_, rfl, hp⟩ | exact hp.elim | exact absurd ⟨_, _, rfl, rfl⟩ hs | exact absurd rfl (hd2.1 _) | exact absurd rfl (hd2.2 _) | exact absurd rfl (htp2 _)
      obtain ⟨ys, rfl, ⟨o1, o2, o3, o4⟩, hq⟩ := this
      refine .inr ⟨d.py, D.pys ys, by rw [g.hK]; exact dp_of h1.rep o1, by rw [g.hK]; have := dp_of h2.rep (by simpa [D.plain] using o2); simpa [D.py] using this, o3, o4, ?_⟩
      rw [any_pys]
      exact kk _ _ _ (Same.refl _) (rs_bl _) hq
  case nin =>
    cases ht
    refine ⟨_, ((op_notin_str.or (op_notInD (X := X) (by have := g.room.un; omega))).or (op_dnin (X := X) (by have := g.u; omega))).or (op_notInDT (X := X) (by have := g.room.un; omega)), fun v w H1 R h => ?_⟩
    obtain ⟨Nn, d, d2, Q, h1, h2, hp, kk⟩ := h
    by_cases hd : (∃ kvs k, d2 = .dicK kvs ∧ toKey d = some k ∧ Q (.bl (!(dval kvs k).isSome))) ∨ (∃ kvs k, d2 = .dicT kvs ∧ toKeys d = some k ∧ Q (.bl (!(dval kvs k).isSome)))
    · obtain ⟨a, o, rfl, g1, q⟩ := dget_in (Q := fun b => Q (.bl (!b))) fu h1 h2 hd
      exact .inl (.inr ⟨a, o, rfl, g1, kk _ _ _ (Same.refl _) (rs_bl _) q⟩)
    have hd2 : (∀ kvs, d2 ≠ .dicK kvs) ∧ ∀ kvs, d2 ≠ .dicT kvs := by
      refine ⟨fun kvs e => ?_, fun kvs e => ?_⟩
      · subst e
        exact hd (.inl (by cases d <;> (obtain ⟨k, q⟩ := hp; exact ⟨kvs, k, rfl, q⟩)))
      · subst e
        exact hd (.inr (by cases d <;> (obtain ⟨k, q⟩ := hp; exact ⟨kvs, k, rfl, q⟩)))
    by_cases htp : ∃ ys, d2 = .tup ys
    · obtain ⟨ys, rfl⟩ := htp
      have hp : okIn d ys ∧ Q (.bl (!ys.any fun y => PyData.eqv y.py d.py)) := by cases d <;> exact hp
      obtain ⟨⟨o1, o2, o3, o4⟩, hq⟩ := hp
      refine .inr ⟨d.py, D.pys ys, by rw [g.hK]; exact dp_of h1.rep o1, by rw [g.hK]; have := dp_of h2.rep (by simpa [D.plain] using o2); simpa [D.py] using this, o3, o4, ?_⟩
      rw [any_pys]
      exact kk _ _ _ (Same.refl _) (rs_bl _) hq
    have htp2 : ∀ ys, d2 ≠ .tup ys := fun ys e => htp ⟨ys, e⟩
    refine .inl (.inl ?_)
    by_cases hs : ∃ i j, d = .str i ∧ d2 = .str j
    · obtain ⟨i, j, rfl, rfl⟩ := hs
      obtain rfl := rep_str h1.rep
      obtain rfl := rep_str h2.rep
      exact .inl ⟨i, j, rfl, rfl, kk _ _ _ (Same.refl _) (rs_bl _) hp⟩
    · have : ∃ ys, d2 = .lst ys ∧ okIn d ys ∧ Q (.bl (!ys.any fun y => PyData.eqv y.py d.py)) := by
        cases d2 <;> cases d <;> first | exact ⟨_, rfl, hp⟩ | exact hp.elim | exact absurd ⟨_, _, rfl, rfl⟩ hs | exact absurd rfl (hd2.1 _) | exact absurd rfl (hd2.2 _) | exact absurd rfl (htp2 _)
      obtain ⟨ys, rfl, ⟨o1, o2, o3, o4⟩, hq⟩ := this
      refine .inr ⟨d.py, D.pys ys, by rw [g.hK]; exact dp_of h1.rep o1, by rw [g.hK]; have := dp_of h2.rep (by simpa [D.plain] using o2); simpa [D.py] using this, o3, o4, ?_⟩
      rw [any_pys]
      exact kk _ _ _ (Same.refl _) (rs_bl _) hq
  case lt =>
    cases ht
    refine ⟨_, op_lt, fun v w H1 R h => ?_⟩
    exact p2_bl h fun d d2 Q hp => by cases d <;> cases d2 <;> first | exact ⟨_, _, rfl, rfl, hp⟩ | exact hp.elim
  case le =>
    cases ht
    refine ⟨_, op_le, fun v w H1 R h => ?_⟩
    exact p2_bl h fun d d2 Q hp => by cases d <;> cases d2 <;> first | exact ⟨_, _, rfl, rfl, hp⟩ | exact hp.elim
  case gt =>
    cases ht
    refine ⟨_, op_gt, fun v w H1 R h => ?_⟩
    exact p2_bl h fun d d2 Q hp => by cases d <;> cases d2 <;> first | exact ⟨_, _, rfl, rfl, hp⟩ | exact hp.elim
  case ge =>
    cases ht
    refine ⟨_, op_ge, fun v w H1 R h => ?_⟩
    exact p2_bl h fun d d2 Q hp => by cases d <;> cases d2 <;> first | exact ⟨_, _, rfl, rfl, hp⟩ | exact hp.elim
theorem p2_ix (g : Good G k N sc X) {t u t' : T} (ft : t.flat = true) (fu : u.flat = true) (ht : p2T .idx t u = some t') : ∀ v w H R, A2 G .idx t u t' R v w H → rIx X.K v w H R ∨ rIxDD v w H R := by
  intro v w H1 R h
  simp only [p2T] at ht
  split at ht
  · rename_i fe
    obtain rfl := Option.some.inj ht
    obtain ⟨Nn, d, d2, Q, h1, h2, hp, kk⟩ := h
    by_cases hk : ∃ kvs, d = .dicK kvs
    · obtain ⟨kvs, rfl⟩ := hk
      have hp : ∃ k d, toKey d2 = some k ∧ dval kvs k = some d ∧ Q d := by cases d2 <;> exact hp
      obtain ⟨k, d, e, l, q⟩ := hp
      obtain ⟨a, kv, ds, rfl, _, r, rfl, p⟩ := repB_dK ft h1
      obtain ⟨v, hv, rv⟩ := (dval_rep p k).1 d l
      exact .inr ⟨a, v, rfl, .inl ⟨kv, k, r, key_rep h2.rep e, hv.symm⟩, kk _ _ _ (Same.refl _) (rs_bo fe rv) q⟩
    by_cases ht : ∃ kvs, d = .dicT kvs
    · obtain ⟨kvs, rfl⟩ := ht
      have hp : ∃ k d, toKeys d2 = some k ∧ dval kvs k = some d ∧ Q d := by cases d2 <;> exact hp
      obtain ⟨k, d, e, l, q⟩ := hp
      obtain ⟨a, kv, ds, rfl, _, r, rfl, p⟩ := repB_dT ft h1
      obtain ⟨v, hv, rv⟩ := (dval_rep p k).1 d l
      obtain ⟨b, rfl, hb⟩ := keyT_rep h2.rep e
      exact .inr ⟨a, v, rfl, .inr ⟨kv, k, b, r, rfl, hb, hv.symm⟩, kk _ _ _ (Same.refl _) (rs_bo fe rv) q⟩
    refine .inl ?_
    cases d <;> cases d2 <;> first | exact hp.elim | exact absurd ⟨_, rfl⟩ hk | exact absurd ⟨_, rfl⟩ ht | skip
    case str.int s i =>
      obtain ⟨z, c, hc, q⟩ := hp
      obtain rfl := rep_str h1.rep
      obtain rfl := rep_int h2.rep
      refine .inr (.inr ⟨_, _, c, rfl, rfl, z, hc, kk _ _ _ (Same.refl _) ?_ q⟩)
      exact rs_bo fe (RepB.of_im (.str _))
    case tup.int ds i =>
      obtain ⟨d, hd, q⟩ := hp
      obtain ⟨a, vs, rfl, hs, pp⟩ := repB_tup ft h1
      obtain rfl := rep_int h2.rep
      obtain ⟨v, hv, rv⟩ := pair_at pp hd
      exact .inr (.inl ⟨a, vs, i, v, rfl, rfl, by rw [g.hK]; exact hs, hv, kk _ _ _ (Same.refl _) (rs_bo fe rv) q⟩)
    case lst.int ds i =>
      obtain ⟨d, hd, q⟩ := hp
      obtain ⟨a, vs, rfl, _, hs, pp⟩ := repB_lst ft h1
      obtain rfl := rep_int h2.rep
      obtain ⟨v, hv, rv⟩ := pair_at pp hd
      exact .inl ⟨a, vs, i, v, rfl, rfl, .inl hs, hv, kk _ _ _ (Same.refl _) (rs_bo fe rv) q⟩
  · cases ht
theorem sh2_bin {p : P2} {op : Operator} (ho : binOf p = some op) : sh2 p sc e = asBin op e := by cases p <;> cases ho <;> rfl
theorem sh2_cmp {p : P2} {op : CmpOp} (ho : cmpOf p = some op) : sh2 p sc e = asCmp op e := by cases p <;> cases ho <;> rfl
theorem p2_ok (g : Good G k N sc X) (mt : MonE ta) (mb : MonE tb) (ha : PE X x ta) (hb : PE X y tb) : ∀ {p : P2} {t u t' : T}, t.flat = true → u.flat = true → sh2 p sc e = some (x, y) → p2T p t u = some t' →
    PE X e (fun σ H R => ta σ H fun v H1 => tb σ H1 fun w H2 => A2 G p t u t' R v w H2) := by
  intro p t u t' ft fu sh ht
  cases hb1 : binOf p with
  | some op =>
    rw [sh2_bin hb1] at sh
    obtain ⟨r, hr, i⟩ := p2_bin (X := X) (G := G) g.hK hb1 ft fu ht
    exact (op_pe hr sh ha hb).sub fun σ H R h => two mt mb (fun v w H1 h => i v w H1 R h) h
  | none =>
    cases hc : cmpOf p with
    | some op =>
      rw [sh2_cmp hc] at sh
      obtain ⟨r, hr, i⟩ := p2_cmp g hc ft fu ht
      exact (cmp_pe hr sh ha hb).sub fun σ H R h => two mt mb (fun v w H1 h => i v w H1 R h) h
    | none =>
      obtain rfl : p = .idx := by cases p <;> simp_all [binOf, cmpOf]
      exact (ix_pe (ix_seq.or (ix_dic (by have := g.u; omega))) sh ha hb).sub fun σ H R h => two mt mb (fun v w H1 h => p2_ix g ft fu ht v w H1 R h) h
end
end Pv

set_option maxRecDepth 100000
set_option maxHeartbeats 1000000
namespace Pv
open PySem PySem.Spec PyProof.Rows L2
/-! ### methods of lists and dicts with one argument -/
theorem list_at {X : Cx} {pins : List (Addr × Obj)} {σ : L2.St} {H : Hp} {s : Shared} {a : Addr} {xs : List V} (I : Inv X pins σ H s) (h : Rd H a (.lst xs)) : s.TypeIs (.ref a) "list" ∧ ∀ b, Value.ref a = .ref b → ∃ ob, s.heap.get? b = some ob ∧ ob.dict = none := by
  obtain ⟨its, rv, ⟨⟨cls, dd, data, sls⟩, n, ho, hc, hdn, hdt⟩, hlen⟩ := I.list (.inl h)
  simp only at hc hdt
  subst hc hdt
  exact ⟨⟨_, ho, rfl⟩, fun b e => by cases e; exact ⟨_, ho, hdn⟩⟩
section
variable {X : Cx} {o e : Expr} {to te : TE}
def tLM1 (r : V → List V → Hp → VK → Prop) (to te : TE) : TE := fun σ H Q => to σ H fun x H1 => (∃ a xs, x = .ref a ∧ Rd H1 a (.lst xs)) ∧ te σ H1 fun y H2 => r x [y] H2 Q
theorem pe_lm1 {id : String} {name : Str} {apos pos : Pos} {r : V → List V → Hp → VK → Prop} (slot : Slot "list" name id) (ty : typeOf (.builtin id) = pure (.type "method_descriptor")) (rule : MtR X id r) (ho : PE X o to) (he : PE X e te)
    (hs : starEach [e] X.env = [(false, eval e X.env)]) (hbase : attributeBase o name X.env (eval o X.env) = eval o X.env) (hline : (apos.endLine == pos.line) = true) :
    PE X (.Call (.Attribute o name apos) [e] [] pos) (tLM1 r to te) := by
  refine ⟨fun pins s σ H Q I h => ?_⟩
  refine PySem.Call_method1 hbase hs hline (thn (ho.run pins s σ H _ I h) fun v s1 ⟨x, H1, I1, r1, q1⟩ => ?_)
  obtain ⟨⟨a, xs, rfl, hr⟩, q1⟩ := q1
  obtain ⟨t1, t2⟩ := list_at I1 hr
  obtain rfl : v = Value.ref a := r1
  refine ⟨"list", _, F.plainAttrs_list, slot, ty, t1, t2, Calls.callWith_builtin rfl (Calls.evalArgs_plain (Calls.spliced_cons ?_))⟩
  exact thn (he.run pins s1 σ H1 _ I1 q1) fun u s2 ⟨y, H2, I2, r2, q2⟩ => Calls.spliced_nil (rule pins s2 σ H2 (.ref a) [y] (.ref a) [u] Q I2 rfl (.cons r2 .nil) q2)
def tDM1 (r : V → List V → Hp → VK → Prop) (to te : TE) : TE := fun σ H Q => to σ H fun x H1 => (∃ a, x = .ref a ∧ IsD H1 a) ∧ te σ H1 fun y H2 => r x [y] H2 Q
theorem pe_dm1 {id : String} {name : Str} {apos pos : Pos} {r : V → List V → Hp → VK → Prop} (slot : Slot "dict" name id) (ty : typeOf (.builtin id) = pure (.type "method_descriptor")) (rule : MtR X id r) (ho : PE X o to) (he : PE X e te)
    (hs : starEach [e] X.env = [(false, eval e X.env)]) (hbase : attributeBase o name X.env (eval o X.env) = eval o X.env) (hline : (apos.endLine == pos.line) = true) :
    PE X (.Call (.Attribute o name apos) [e] [] pos) (tDM1 r to te) := by
  refine ⟨fun pins s σ H Q I h => ?_⟩
  refine PySem.Call_method1 hbase hs hline (thn (ho.run pins s σ H _ I h) fun v s1 ⟨x, H1, I1, r1, q1⟩ => ?_)
  obtain ⟨⟨a, rfl, hr⟩, q1⟩ := q1
  obtain ⟨t1, t2, _⟩ := isD_at I1 hr
  obtain rfl : v = Value.ref a := r1
  refine ⟨"dict", _, F.plainAttrs_dict, slot, ty, t1, t2, Calls.callWith_builtin rfl (Calls.evalArgs_plain (Calls.spliced_cons ?_))⟩
  exact thn (he.run pins s1 σ H1 _ I1 q1) fun u s2 ⟨y, H2, I2, r2, q2⟩ => Calls.spliced_nil (rule pins s2 σ H2 (.ref a) [y] (.ref a) [u] Q I2 rfl (.cons r2 .nil) q2)
def rDGet1 : V → List V → Hp → VK → Prop := fun x xs H Q => ∃ (a : Addr) (y : V) (o : Option V), x = .ref a ∧ xs = [y] ∧ DGet H a y o ∧ Q (o.getD .non) H
theorem mt_dget1 (hu : X.A.units + 1 < cLine) : MtR X "dict.get" rDGet1 := by
  intro pins s σ H x xs v us Q I rx rxs h
  obtain ⟨a, y, o, rfl, rfl, g, q⟩ := h
  cases rx
  cases rxs with
  | cons ry rt =>
    cases rt
    exact d_get1 hu I g ry fun w' s3 I3 rw' => ⟨_, H, I3, rw', q⟩
/-- l.count(x) -/
def rCountD (K : PySem.W.Frag) : V → List V → Hp → VK → Prop := fun x xs H Q => ∃ (a : Addr) (y : V) (d : PyData) (ds : List PyData), x = V.ref a ∧ xs = [y] ∧ Dp K H (V.ref a) (.list ds) ∧ Dp K H y d ∧
  SeqAt.shaped (.list ds) = true ∧ SeqAt.shaped d = true ∧ Q (.int (ds.countP (fun z => PyData.eqv z d) : Nat)) H
theorem mt_countD (hu : X.A.units + 65 < cLine) : MtR X "list.count" (rCountD X.K) := by
  intro pins s σ H x xs v us Q I rx rxs h
  obtain ⟨a, y, d, ds, rfl, rfl, hl, hy, sl, sd, q⟩ := h
  cases rx
  cases rxs with
  | cons ry rt =>
    rename_i uy ut
    cases rt
    obtain ⟨bs, r1⟩ := Dp.reads I d y uy hy ry
    have hxs : PyData.canLayAll0 ds = true := SeqAt.canLay_of_shaped sl
    have hroom : X.A.units + 1 + min (PyData.depthAll ds) d.depth < cLine := room_in_shaped sd hu
    cases hl with
    | lst hs ha =>
      obtain ⟨its, rv, ⟨⟨cls, dd, data, sls⟩, n, ho, hc, hdn, hdt⟩, hlen⟩ := I.list hs
      simp only at hc hdt
      subst hc hdt
      obtain ⟨as, h4⟩ := Dp.readsAll I ds _ its ha rv
      have hmap : its.map (SeqAt.readOf s.heap) = ds := SeqAt.readsAll_map ds its as hxs h4
      refine call_meets PySem.F.slot_list_count ⟨_, ho, rfl⟩ PySem.F.entry_list_count (PySem.F.args_list_count_2 _ _)
        (SeqAt.list_countAt a its.toArray n dd sls uy (fun u => PyData.eqv (SeqAt.readOf s.heap u) d)) ⟨ho, SeqAt.items_eqAt (vs := its.toArray) (show ReadsAll s.heap its.toArray.toList ds as from h4) r1 hxs (SeqAt.canLay_of_shaped sd) hroom, ?_⟩
      have ec : its.toArray.toList.countP (fun u => PyData.eqv (SeqAt.readOf s.heap u) d) = ds.countP (fun z => PyData.eqv z d) := by
        rw [← hmap, List.countP_map]
        rfl
      refine ⟨.int (ds.countP (fun z => PyData.eqv z d) : Nat), H, I.tok _, ⟨s.toks, ?_⟩, q⟩
      show Value.int ((its.toArray.toList.countP _ : Nat) : Int) s.toks = Value.int _ s.toks
      rw [ec]
end
end Pv

set_option maxRecDepth 100000
set_option maxHeartbeats 1000000
namespace Pv
open PySem L2
def m1T : M1 → T
  | .split => .ow .im
  | _ => .im
section
variable {G : Glob} {k : Nat} {N : List Str} {sc : Scope} {X : Cx} {ta tb : TE} {e x y : Expr}
def AB2 (G : Glob) (f : B2) (t u : T) (R : VK) : V → V → Hp → Prop := fun v w H => ∃ Nn d d2 Q, RepB G.K G.cls Nn H t v d ∧ RepB G.K G.cls Nn H u w d2 ∧ b2W f d d2 Q ∧ ∀ v' H' d', Same H H' → RSp G.K G.cls Nn H H' .im v' d' → Q d' → R v' H'
theorem call2_pe {nm id : String} {r : List V → Hp → VK → Prop} (g : Good G k N sc X) (hc : CallR X (.builtin id) r) (hn : Str.ofString nm ∈ bltNames) (hv : bootBuiltins (Str.ofString nm) = some (.builtin id)) (h1 : Str.ofString nm ≠ "__name__" := by decide +kernel) (h2 : (Str.ofString nm == ("__debug__" : Str)) = false := by decide +kernel)
    (sh : asB2 (Str.ofString nm) sc e = some (x, y)) (ha : PE X x ta) (hb : PE X y tb) : PE X e (fun σ H R => ta σ H fun v H1 => tb σ H1 fun w H2 => r [v, w] H2 R) := by
  obtain ⟨p, pos, rfl, gl, pl, pl2⟩ := asB2_of sh
  exact pe_callB hc (g.gl gl) (g.nob hn) hv (pa_cons ha (pa_cons hb pa_nil (plain_star pl2)) (plain_star pl)) h1 h2 (plain_star pl) (by rw [plain_star pl2]; rfl)
theorem b2_ok (g : Good G k N sc X) (mt : MonE ta) (mb : MonE tb) (ha : PE X x ta) (hb : PE X y tb) {f : B2} {t u : T} (sh : shB2 f sc e = some (x, y)) : PE X e (fun σ H R => ta σ H fun v H1 => tb σ H1 fun w H2 => AB2 G f t u R v w H2) := by
  cases f with
  | dm =>
    refine (call2_pe (nm := "divmod") g call_divmod (by decide +kernel) (by decide +kernel) (sh := sh) (ha := ha) (hb := hb)).sub fun σ H R h => two mt mb (fun v w H1 ⟨Nn, d, d2, Q, h1, h2, hp, kk⟩ => ?_) h
    cases d <;> cases d2 <;> try exact hp.elim
    obtain rfl := rep_int h1.rep
    obtain rfl := rep_int h2.rep
    exact ⟨_, _, rfl, hp.1, fun p hn => kk _ _ _ (same_new hn) (rs_im (.tup upd_same (.cons (.int _) (.cons (.int _) .nil)))) hp.2⟩
  | min2 =>
    refine (call2_pe (nm := "min") g (call_min2 g.calm) (by decide +kernel) (by decide +kernel) (sh := sh) (ha := ha) (hb := hb)).sub fun σ H R h => two mt mb (fun v w H1 ⟨Nn, d, d2, Q, h1, h2, hp, kk⟩ => ?_) h
    cases d <;> cases d2 <;> try exact hp.elim
    obtain rfl := rep_int h1.rep
    obtain rfl := rep_int h2.rep
    exact ⟨_, _, rfl, kk _ _ _ (Same.refl _) (rs_int _) hp⟩
  | max2 =>
    refine (call2_pe (nm := "max") g (call_max2 g.calm) (by decide +kernel) (by decide +kernel) (sh := sh) (ha := ha) (hb := hb)).sub fun σ H R h => two mt mb (fun v w H1 ⟨Nn, d, d2, Q, h1, h2, hp, kk⟩ => ?_) h
    cases d <;> cases d2 <;> try exact hp.elim
    obtain rfl := rep_int h1.rep
    obtain rfl := rep_int h2.rep
    exact ⟨_, _, rfl, kk _ _ _ (Same.refl _) (rs_int _) hp⟩
def AM0 (G : Glob) (m : M0) (t : T) (R : VK) : V → Hp → Prop := fun v H => ∃ Nn d Q, RepB G.K G.cls Nn H t v d ∧ m0W m d Q ∧ ∀ v' H' d', Same H H' → RSp G.K G.cls Nn H H' .im v' d' → Q d' → R v' H'
theorem m0_ok (g : Good G k N sc X) (mt : MonE ta) (ha : PE X x ta) {m : M0} {t : T} (sh : asM0 (nmM0 m) e = some x) : PE X e (fun σ H R => ta σ H fun v H1 => AM0 G m t R v H1) := by
  cases m with
  | strip =>
    obtain ⟨ap, pos, rfl, rb, ln⟩ := asM0_of sh
    refine (pe_strip ha (recv_of rb) ln).sub fun σ H R h => mt _ _ _ _ (fun v H1 ⟨Nn, d, Q, h1, hp, kk⟩ => ?_) h
    cases d <;> try exact hp.elim
    obtain rfl := rep_str h1.rep
    exact ⟨⟨_, rfl⟩, _, rfl, rfl, hp.1, kk _ _ _ (Same.refl _) (rs_str _) hp.2⟩
def AM1 (G : Glob) (m : M1) (t u : T) (R : VK) : V → V → Hp → Prop := fun v w H => ∃ Nn d d2 Q, RepB G.K G.cls Nn H t v d ∧ RepB G.K G.cls Nn H u w d2 ∧ m1W m d d2 Q ∧ ∀ v' H' d', Same H H' → RSp G.K G.cls Nn H H' (m1T m) v' d' → Q d' → R v' H'
theorem mt_sidx {X : Cx} : MtR X "str.index" (fun x xs H Q => ∃ a b, x = .str a ∧ xs = [.str b] ∧ 0 ≤ Txt.find a b ∧ Q (.int (Txt.find a b)) H) := by
  intro pins s σ H x xs v us Q I rx rs h
  obtain ⟨a, b, rfl, rfl, hn, q⟩ := h
  obtain ⟨t, rfl⟩ := rx
  cases rs with
  | cons r1 rs =>
    cases rs
    obtain ⟨t2, rfl⟩ := r1
    cases ho : Builtin.Str.occurrences a b 0 a.length 1 with
    | nil =>
      have : Txt.find a b = -1 := by show (match Builtin.Str.occurrences a b 0 a.length 1 with | i :: _ => (i : Int) | [] => -1) = -1; rw [ho]
      rw [this] at hn
      exact absurd hn (by decide)
    | cons i rest =>
      have : Txt.find a b = (i : Int) := by show (match Builtin.Str.occurrences a b 0 a.length 1 with | i :: _ => (i : Int) | [] => -1) = _; rw [ho]
      rw [this] at q
      exact PySem.SC.index ho ⟨.int (i : Nat), H, I.tok _, ⟨_, rfl⟩, q⟩
def RecvP (m : M1) (v : V) (H : Hp) : Prop := match m with
  | .lcnt => ∃ a xs, v = .ref a ∧ Rd H a (.lst xs)
  | .lidx => ∃ a xs, v = .ref a ∧ Rd H a (.lst xs)
  | .dget => ∃ a, v = .ref a ∧ IsD H a
  | _ => ∃ a, v = .str a
theorem countP_pys (f : PyData → Bool) : ∀ ys : List D, (D.pys ys).countP f = ys.countP fun y => f y.py
  | [] => rfl
  | y :: ys => by simp only [D.pys, List.countP_cons, countP_pys f ys]
theorem pys_get : ∀ (ys : List D) (j : Nat), (D.pys ys)[j]? = ys[j]?.map D.py
  | [], _ => by simp [D.pys]
  | y :: ys, 0 => by simp [D.pys]
  | y :: ys, j + 1 => by simp only [D.pys, List.getElem?_cons_succ]; exact pys_get ys j
theorem m1_ok (g : Good G k N sc X) (mt : MonE ta) (mb : MonE tb) (ha : PE X x ta) (hb : PE X y tb) {m : M1} {t u : T} (ft : t.flat = true) (fu : u.flat = true) (sh : asM1 (nmM1 m) e = some (x, y)) : PE X e (fun σ H R => ta σ H fun v H1 => RecvP m v H1 ∧ tb σ H1 fun w H2 => AM1 G m t u R v w H2) := by
  obtain ⟨ap, pos, rfl, rb, ln, pl⟩ := asM1_of sh
  have hs : starEach [y] X.env = [(false, eval y X.env)] := plain_star pl
  have key : ∀ (r : V → List V → Hp → VK → Prop), PE X (.Call (.Attribute x (nmM1 m) ap) [y] [] pos) (tM1 r ta tb) → (∀ v H, RecvP m v H → ∃ a, v = .str a) → (∀ v w H R, AM1 G m t u R v w H → r v [w] H R) → PE X (.Call (.Attribute x (nmM1 m) ap) [y] [] pos) (fun σ H R => ta σ H fun v H1 => RecvP m v H1 ∧ tb σ H1 fun w H2 => AM1 G m t u R v w H2) := fun r h rc i =>
    h.sub fun σ H R h => mt _ _ _ _ (fun v H1 z => ⟨rc _ _ z.1, mb _ _ _ _ (fun w H2 z => i v w H2 R z) z.2⟩) h
  cases m with
  | split =>
    refine key _ (pe_split ha hb hs (recv_of rb) ln) (fun _ _ z => z) fun v w H R ⟨Nn, d, d2, Q, h1, h2, hp, kk⟩ => ?_
    cases d <;> cases d2 <;> try exact hp.elim
    obtain rfl := rep_str h1.rep
    obtain rfl := rep_str h2.rep
    refine ⟨_, _, rfl, rfl, hp.1, hp.2.1, fun p hn => kk _ _ _ (same_new hn) (rs_new hn rfl ?_) hp.2.2⟩
    exact strs_rep _
  | part =>
    refine key _ (pe_partition ha hb hs (recv_of rb) ln) (fun _ _ z => z) fun v w H R ⟨Nn, d, d2, Q, h1, h2, hp, kk⟩ => ?_
    cases d <;> cases d2 <;> try exact hp.elim
    obtain rfl := rep_str h1.rep
    obtain rfl := rep_str h2.rep
    exact ⟨_, _, rfl, rfl, hp.1, hp.2.1, fun p hn => kk _ _ _ (same_new hn) (rs_tupI hn (.cons (.str _) (.cons (.str _) (.cons (.str _) .nil)))) hp.2.2⟩
  | join =>
    refine key _ (pe_join ha hb hs (recv_of rb) ln) (fun _ _ z => z) fun v w H R ⟨Nn, d, d2, Q, h1, h2, hp, kk⟩ => ?_
    cases d <;> try exact hp.elim
    obtain rfl := rep_str h1.rep
    cases d2 <;> try exact hp.elim
    case tup ds =>
      obtain ⟨ys, rfl, hz, hp⟩ := hp
      obtain ⟨a, vs, rfl, q, r⟩ := rep_tup h2.rep
      obtain rfl := reps_strs r
      exact ⟨_, a, ys, rfl, rfl, .inr (by rw [g.hK]; exact q), hz, kk _ _ _ (Same.refl _) (rs_str _) hp⟩
    case lst ds =>
      obtain ⟨ys, rfl, hz, hp⟩ := hp
      obtain ⟨a, vs, rfl, _, q, r⟩ := rep_lst h2.rep
      obtain rfl := reps_strs r
      exact ⟨_, a, ys, rfl, rfl, .inl (.inl q), hz, kk _ _ _ (Same.refl _) (rs_str _) hp⟩
  | sw =>
    refine key _ (pe_m1 F.slot_str_startswith F.type_str_startswith mt_startswith ha hb hs (recv_of rb) ln) (fun _ _ z => z) fun v w H R ⟨Nn, d, d2, Q, h1, h2, hp, kk⟩ => ?_
    cases d <;> cases d2 <;> try exact hp.elim
    obtain rfl := rep_str h1.rep
    obtain rfl := rep_str h2.rep
    exact ⟨_, _, rfl, rfl, kk _ _ _ (Same.refl _) (rs_bl _) hp⟩
  | ew =>
    refine key _ (pe_m1 F.slot_str_endswith F.type_str_endswith mt_endswith ha hb hs (recv_of rb) ln) (fun _ _ z => z) fun v w H R ⟨Nn, d, d2, Q, h1, h2, hp, kk⟩ => ?_
    cases d <;> cases d2 <;> try exact hp.elim
    obtain rfl := rep_str h1.rep
    obtain rfl := rep_str h2.rep
    exact ⟨_, _, rfl, rfl, kk _ _ _ (Same.refl _) (rs_bl _) hp⟩
  | find =>
    refine key _ (pe_m1 F.slot_str_find F.type_str_find mt_find ha hb hs (recv_of rb) ln) (fun _ _ z => z) fun v w H R ⟨Nn, d, d2, Q, h1, h2, hp, kk⟩ => ?_
    cases d <;> cases d2 <;> try exact hp.elim
    obtain rfl := rep_str h1.rep
    obtain rfl := rep_str h2.rep
    exact ⟨_, _, rfl, rfl, kk _ _ _ (Same.refl _) (rs_int _) hp⟩
  | rfind =>
    refine key _ (pe_m1 F.slot_str_rfind F.type_str_rfind mt_rfind ha hb hs (recv_of rb) ln) (fun _ _ z => z) fun v w H R ⟨Nn, d, d2, Q, h1, h2, hp, kk⟩ => ?_
    cases d <;> cases d2 <;> try exact hp.elim
    obtain rfl := rep_str h1.rep
    obtain rfl := rep_str h2.rep
    exact ⟨_, _, rfl, rfl, kk _ _ _ (Same.refl _) (rs_int _) hp⟩
  | scount =>
    refine key _ (pe_m1 F.slot_str_count F.type_str_count mt_count ha hb hs (recv_of rb) ln) (fun _ _ z => z) fun v w H R ⟨Nn, d, d2, Q, h1, h2, hp, kk⟩ => ?_
    cases d <;> cases d2 <;> try exact hp.elim
    obtain rfl := rep_str h1.rep
    obtain rfl := rep_str h2.rep
    exact ⟨_, _, rfl, rfl, kk _ _ _ (Same.refl _) (rs_int _) hp⟩
  | sidx =>
    refine key _ (pe_m1 F.slot_str_index F.type_str_index mt_sidx ha hb hs (recv_of rb) ln) (fun _ _ z => z) fun v w H R ⟨Nn, d, d2, Q, h1, h2, hp, kk⟩ => ?_
    cases d <;> cases d2 <;> try exact hp.elim
    obtain rfl := rep_str h1.rep
    obtain rfl := rep_str h2.rep
    exact ⟨_, _, rfl, rfl, hp.1, kk _ _ _ (Same.refl _) (rs_int _) hp.2⟩
  | lcnt =>
    refine (pe_lm1 F.slot_list_count F.type_list_count (mt_countD (by have := g.room.un; omega)) ha hb hs (recv_of rb) ln).sub fun σ H R h => mt _ _ _ _ (fun v H1 z => ⟨z.1, mb _ _ _ _ (fun w H2 ⟨Nn, d, d2, Q, h1, h2, hp, kk⟩ => ?_) z.2⟩) h
    cases d <;> try exact hp.elim
    rename_i ys
    obtain ⟨⟨o1, o2, o3, o4⟩, q⟩ := hp
    obtain ⟨a, vs, rfl, _, _, _⟩ := rep_lst h1.rep
    refine ⟨a, w, d2.py, D.pys ys, rfl, rfl, by rw [g.hK]; have := dp_of h1.rep (by simpa [D.plain] using o2); simpa [D.py] using this, by rw [g.hK]; exact dp_of h2.rep o1, o4, o3, ?_⟩
    rw [countP_pys]
    exact kk _ _ _ (Same.refl _) (rs_int _) q
  | lidx =>
    refine (pe_lm1 F.slot_list_index F.type_list_index (mt_indexD (by have := g.room.un; omega)) ha hb hs (recv_of rb) ln).sub fun σ H R h => mt _ _ _ _ (fun v H1 z => ⟨z.1, mb _ _ _ _ (fun w H2 ⟨Nn, d, d2, Q, h1, h2, hp, kk⟩ => ?_) z.2⟩) h
    cases d <;> try exact hp.elim
    rename_i ys
    obtain ⟨⟨o1, o2, o3, o4⟩, j, z0, e1, e2, e3, q⟩ := hp
    obtain ⟨a, vs, rfl, _, _, _⟩ := rep_lst h1.rep
    refine ⟨a, w, d2.py, D.pys ys, j, z0.py, rfl, rfl, by rw [g.hK]; have := dp_of h1.rep (by simpa [D.plain] using o2); simpa [D.py] using this, by rw [g.hK]; exact dp_of h2.rep o1, o4, o3, by rw [pys_get, e1]; rfl, e2, fun m z' hm hz' => ?_, kk _ _ _ (Same.refl _) (rs_int _) q⟩
    rw [pys_get] at hz'
    obtain ⟨z2, g1, rfl⟩ := Option.map_eq_some_iff.mp hz'
    exact e3 m z2 hm g1
  | dget =>
    refine (pe_dm1 F.slot_dict_get F.type_dict_get (mt_dget1 (by have := g.u; omega)) ha hb hs (recv_of rb) ln).sub fun σ H R h => mt _ _ _ _ (fun v H1 z => ⟨z.1, mb _ _ _ _ (fun w H2 ⟨Nn, d, d2, Q, h1, h2, hp, kk⟩ => ?_) z.2⟩) h
    cases d <;> try exact hp.elim
    case dicK ks =>
      obtain ⟨key, e1, im, q⟩ := hp
      obtain ⟨a, kvs, ds, rfl, _, r, rfl, p⟩ := repB_dK ft h1
      obtain rfl := key_rep h2.rep e1
      refine ⟨a, _, valV kvs key, rfl, rfl, .inl ⟨kvs, key, r, rfl, rfl⟩, ?_⟩
      have dv := dval_rep p key
      cases hv : dval ((kvs.map (·.1)).zip ds) key with
      | none =>
        rw [hv] at dv q
        have : valV kvs key = none := by have := dv.2; cases z : valV kvs key with | none => rfl | some _ => rw [z] at this; cases this
        rw [this]
        exact kk _ _ _ (Same.refl _) (rs_im .non) q
      | some dd =>
        rw [hv] at dv q im
        obtain ⟨v, e2, rv⟩ := dv.1 dd rfl
        rw [e2]
        exact kk _ _ _ (Same.refl _) (rs_im (imm_rep rv.rep im)) q
    case dicT ks =>
      obtain ⟨key, e1, im, q⟩ := hp
      obtain ⟨a, kvs, ds, rfl, _, r, rfl, p⟩ := repB_dT ft h1
      obtain ⟨b, rfl, hb2⟩ := keyT_rep h2.rep e1
      refine ⟨a, _, valV kvs key, rfl, rfl, .inr ⟨kvs, key, b, r, rfl, hb2, rfl⟩, ?_⟩
      have dv := dval_rep p key
      cases hv : dval ((kvs.map (·.1)).zip ds) key with
      | none =>
        rw [hv] at dv q
        have : valV kvs key = none := by have := dv.2; cases z : valV kvs key with | none => rfl | some _ => rw [z] at this; cases this
        rw [this]
        exact kk _ _ _ (Same.refl _) (rs_im .non) q
      | some dd =>
        rw [hv] at dv q im
        obtain ⟨v, e2, rv⟩ := dv.1 dd rfl
        rw [e2]
        exact kk _ _ _ (Same.refl _) (rs_im (imm_rep rv.rep im)) q
def slT (k : Bool) (t : T) : T := if k = true then t else if t = .im then .im else .ow t.el
theorem pair_drop {F : V → D → Prop} : ∀ {vs : List V} {ds : List D} (n : Nat), Paired F vs ds → Paired F (vs.drop n) (ds.drop n)
  | _, _, 0, h => by simpa using h
  | _, _, n + 1, .nil => by simpa using Paired.nil
  | _, _, n + 1, .cons _ r => by simpa using pair_drop n r
theorem pair_take {F : V → D → Prop} : ∀ {vs : List V} {ds : List D} (n : Nat), Paired F vs ds → Paired F (vs.take n) (ds.take n)
  | _, _, 0, _ => by simpa using Paired.nil
  | _, _, n + 1, .nil => by simpa using Paired.nil
  | _, _, n + 1, .cons h r => by simpa using Paired.cons h (pair_take n r)
theorem pair_cut {F : V → D → Prop} {vs : List V} {ds : List D} (h : Paired F vs ds) (lo hi : Option Int) : Paired F (cutV vs lo hi) (cutD ds lo hi) := by
  unfold cutV cutD
  rw [pair_len h]
  exact pair_take _ (pair_drop _ h)
theorem el_flat0 : ∀ {t : T}, t.flat = true → t.el.flat = true
  | .im, _ => rfl
  | .sh, _ => rfl
  | .s _, h => h
def ASl (G : Glob) (b : Bool) (t : T) (R : VK) : V → Option Int → Option Int → Hp → Prop := fun v l h H => ∃ Nn d Q, RepB G.K G.cls Nn H t v d ∧ slW b d l h Q ∧ ∀ v' H' d', Same H H' → RSp G.K G.cls Nn H H' (slT b t) v' d' → Q d' → R v' H'
theorem cut_whole {xs : List D} {lo hi : Option Int} (h : HT.sIx xs.length 0 lo = 0 ∧ HT.sIx xs.length xs.length hi = xs.length) : cutD xs lo hi = xs := by
  unfold cutD
  rw [h.1, h.2]
  simp
theorem sl_ok (hK : X.K = G.K) {b : Bool} {t : T} (ft : t.flat = true) : ∃ r, SlR X r ∧ ∀ v l h H R, ASl G b t R v l h H → r v l h H R := by
  cases b with
  | true =>
    refine ⟨_, sl_tupA, fun v l h H R ⟨Nn, d, Q, h1, hp, kk⟩ => ?_⟩
    cases d <;> try exact hp.elim
    obtain ⟨a, vs, rfl, q, r⟩ := repB_tup ft h1
    refine ⟨a, vs, rfl, by rw [hK]; exact q, fun hw => kk _ _ _ (Same.refl _) (rs_bo ft h1) ?_, fun hw p hn => kk _ _ _ (same_new hn) ?_ hp⟩
    · rw [pair_len r] at hw
      have hp' : Q (.tup (cutD _ l h)) := hp
      rw [cut_whole hw] at hp'
      exact hp'
    · have rc := pair_cut r l h
      refine rs_bo ft ?_
      cases t with
      | im => exact .tup upd_same (.of (pimp rc fun _ _ z => z.mono (same_new hn) fun _ z => z))
      | sh => exact .tup upd_same (.of (pimp rc fun _ _ z => Rep.mono (same_new hn) (fun _ z => z) z))
      | s u => exact .tup upd_same (pimp rc fun _ _ z => z.mono (same_new hn) fun _ z => z)
      | ow u => cases ft
  | false =>
    refine ⟨_, sl_list.or sl_str, fun v l h H R ⟨Nn, d, Q, h1, hp, kk⟩ => ?_⟩
    cases d <;> try exact hp.elim
    case str s =>
      obtain rfl := rep_str h1.rep
      refine .inr ⟨_, rfl, hp.1, kk _ _ _ (Same.refl _) ?_ hp.2⟩
      unfold slT
      rw [if_neg (by simp)]
      split
      · exact rs_str _
      · exact ⟨[], .nil, fun _ z => absurd z (by simp), .owx (.str _)⟩
    case lst ds =>
      obtain ⟨a, vs, rfl, n, q, r⟩ := repB_lst ft h1
      refine .inl ⟨a, vs, rfl, .inl q, fun p hn => kk _ _ _ (same_new hn) ?_ hp⟩
      unfold slT
      rw [if_neg (by simp)]
      split
      · rename_i e
        subst e
        obtain ⟨_, _, _, n, _⟩ := rep_lst (N := N0) h1
        exact n.elim
      · exact rs_new hn (el_flat0 ft) (pair_cut r l h)
end
end Pv

set_option maxRecDepth 100000
set_option maxHeartbeats 1000000
namespace Pv
open PySem L2
section
variable {K : PySem.W.Frag} {cls : Nat → Addr × List Str} {N N' : Addr → Prop} {H H' : Hp}
mutual
theorem ReT.le : ∀ {t u : T} {v : V} {d : D} {F : List Addr}, T.le t u = true → ReT K cls N H t v d F → ReT K cls N H u v d F
  | t, u, v, d, _, e, .bo f h => by
    cases t with
    | im =>
      cases u with
      | im => exact .bo rfl h
      | sh => exact .bo rfl (RepB.of_im h)
      | ow u => exact .owx h
      | s u => exact .bo (t := .s u) e (RepB.of_im h)
    | sh => cases u <;> first | exact .bo rfl h | cases e
    | s t =>
      cases u with
      | im => cases e
      | sh => exact .bo rfl (RepB.le (t := .s t) (u := .sh) rfl h)
      | s u => exact .bo (Bool.and_eq_true_iff.mp e).1 (RepB.le (t := .s t) (u := .s u) e h)
      | ow u => cases e
    | ow t => cases f
  | .ow t, .ow u, v, d, _, e, .owx h => .owx h
  | .ow t, .ow u, _, _, _, e, .owl h r => .owl h (ReTs.le e r)
  | .ow t, .ow u, _, _, _, e, .owK h r => .owK h (ReTs.le e r)
  | .ow t, .ow u, _, _, _, e, .owT h r => .owT h (ReTs.le e r)
  | .ow t, .ow u, _, _, _, e, .owP h r => .owP h (ReTs.le e r)
theorem ReTs.le : ∀ {t u : T} {v : List V} {d : List D} {F : List Addr}, T.le t u = true → ReTs K cls N H t v d F → ReTs K cls N H u v d F
  | _, _, _, _, _, _, .nil => .nil
  | _, _, _, _, _, e, .cons h r => .cons (ReT.le e h) (ReTs.le e r)
end
end
/-! ### who owns what an expression hands back: its kind, and the slots whose things it may hold -/
def T.leaf : T → Bool
  | .im => true
  | .ow t => t.leaf
  | _ => false
def joins : List T → T
  | [] => .im
  | t :: ts => T.join t (joins ts)
def lesB : List T → List T → Bool
  | [], [] => true
  | t :: ts, u :: us => T.le t.bor u && lesB ts us
  | _, _ => false
def als (t : T) (A : List Nat) : List Nat := if t.leaf then [] else A
def lstT (ts : List T) : T := if ts.all (fun t => T.le t (joins ts)) then joins ts else .sh
def tupT (ts : List T) : T := if joins (ts.map T.bor) = .im then .im else if ts.all (fun t => T.le t.bor (joins (ts.map T.bor))) && (joins (ts.map T.bor)).flat then .s (joins (ts.map T.bor)) else .sh
def tgT : TG0 → T → List T → List T
  | .nm i, t, Γ => Γ.set i t
  | .tp is, t, Γ => is.foldl (fun g i => g.set i t.el) Γ
def pairT (u : T) : T := if u = .im then .im else .s u
def itT (it : CE) (t : T) : T := if isIt it = true then t else t.bor.el
def ownA (own : List Nat) (t : T) (A B : List Nat) : List Nat := if t.leaf then [] else (A.filter fun i => i ∉ own) ++ (if A.any (fun i => i ∈ own) then B else [])
/-- an attribute's kind -/
def fldT : T → T
  | .sh => .sh
  | _ => .im
/-- what all of the methods hand back -/
def methT (fns : List FnI) (ts : List T) : List (Nat × Nat) → Option T
  | [] => none
  | p :: tb => match fns[p.2]? with
    | some i => if lesB ts i.sg && (i.fn.ini.isNone && !i.fn.io) && (tb.all fun q => match fns[q.2]? with | some j => lesB ts j.sg && (j.fn.ini.isNone && !j.fn.io) && decide (j.rt = i.rt) | none => false) then some i.rt else none
    | none => none
def iniB (c : Nat) (i : FnI) : Bool := match i.fn.ini with
  | some p => decide (p.1 = c)
  | none => false
/-- a name -/
def isV : CE → Bool
  | .var _ => true
  | _ => false
mutual
def cE (fns : List FnI) : Bool → List T → CE → Option (T × List Nat)
  | _, Γ, .var i => match Γ[i]? with
    | some t => some (t.bor, if t = .im then [] else [i])
    | none => none
  | _, _, .int _ => some (.im, [])
  | _, _, .str _ => some (.im, [])
  | _, _, .bl _ => some (.im, [])
  | _, _, .non => some (.im, [])
  | _, _, .gs _ _ => some (.im, [])
  | _, Γ, .fit t a => match cE fns false Γ a with
    | some (_, A) => if t.flat then some (t, als t A) else none
    | none => none
  | _, Γ, .chn _ _ a b c => match cE fns false Γ a, cE fns false Γ b, cE fns false Γ c with
    | some _, some _, some _ => some (.im, [])
    | _, _, _ => none
  | _, Γ, .isc _ _ _ a => match cE fns false Γ a with
    | some _ => some (.im, [])
    | none => none
  | _, _, .dic0 _ => some (.ow .im, [])
  | _, Γ, .dic1 a b => match cE fns false Γ a, cE fns false Γ b with
    | some _, some (.im, _) => some (.ow .im, [])
    | _, _ => none
  | _, Γ, .o1 p a => match cE fns false Γ a with
    | some (t, A) => match p1T p t.bor with
      | some t' => some (t', als t' A)
      | none => none
    | none => none
  | _, Γ, .o2 p a b => match cE fns false Γ a, cE fns false Γ b with
    | some (t, A), some (u, B) => match p2T p t.bor u.bor with
      | some t' => some (t', als t' (A ++ B))
      | none => none
    | _, _ => none
  | _, Γ, .b2 _ a b => match cE fns false Γ a, cE fns false Γ b with
    | some _, some _ => some (.im, [])
    | _, _ => none
  | _, Γ, .m0 _ a => match cE fns false Γ a with
    | some _ => some (.im, [])
    | none => none
  | _, Γ, .m1 m a b => match cE fns false Γ a, cE fns false Γ b with
    | some (_, A), some (_, B) => some (m1T m, als (m1T m) (A ++ B))
    | _, _ => none
  | _, Γ, .slc k bl bh a lo hi => match cE fns false Γ a with
    | some (t, A) => if (bl = true → (cE fns false Γ lo).isSome = true) ∧ (bh = true → (cE fns false Γ hi).isSome = true) then some (slT k t.bor, als (slT k t.bor) A) else none
    | none => none
  | _, Γ, .lrng a => match cE fns false Γ a with
    | some _ => some (.ow .im, [])
    | none => none
  | _, Γ, .and a b => match cE fns false Γ a, cE fns false Γ b with
    | some _, some (u, B) => some (u.bor, B)
    | _, _ => none
  | _, Γ, .or a b => match cE fns false Γ a, cE fns false Γ b with
    | some _, some (u, B) => some (u.bor, B)
    | _, _ => none
  | _, Γ, .not a => match cE fns false Γ a with
    | some _ => some (.im, [])
    | none => none
  | _, Γ, .ifx c a b => match cE fns false Γ c, cE fns false Γ a, cE fns false Γ b with
    | some _, some (t, A), some (u, B) => let j := T.join t.bor u.bor
      if T.le t.bor j && T.le u.bor j then some (j, A ++ B) else none
    | _, _, _ => none
  | _, Γ, .lst es => match cL fns Γ es with
    | some (ts, A) => if (ts.all fun t => T.le t (lstT ts)) then some (.ow (lstT ts), A) else if ts.all (fun t => T.le t.bor .sh) then some (.ow .sh, A) else none
    | none => none
  | _, Γ, .tupo es => match cL fns Γ es with
    | some (ts, A) => if (ts.all fun t => T.le t (lstT ts)) then some (.ow (lstT ts), A) else none
    | none => none
  | _, Γ, .tup es => match cL fns Γ es with
    | some (ts, A) => if (ts.all fun t => T.le t.bor (tupT ts).el) && (tupT ts).flat then some (tupT ts, A) else none
    | none => none
  | _, Γ, .call f es => match cL fns Γ es, fns[f]? with
    | some (ts, A), some i => if lesB ts i.sg && i.top && (i.fn.ini.isNone && !i.fn.io) then some (i.rt, if i.rt.leaf then [] else A) else none
    | _, _ => none
  | _, Γ, .calp f es df => match cL fns Γ es, fns[f]? with
    | some (ts, A), some i => if (lesB (ts ++ df.map fun _ => T.im) i.sg && decide (df ∈ i.dfs)) && i.top && (i.fn.ini.isNone && !i.fn.io) then some (i.rt, if i.rt.leaf then [] else A) else none
    | _, _ => none
  | _, Γ, .fld _ _ _ a => match cE fns false Γ a with
    | some (t, A) => some (fldT t.bor, als (fldT t.bor) A)
    | none => none
  | _, Γ, .meth _ tb a es => match cE fns false Γ a, cL fns Γ es with
    | some (t, A), some (ts, B) => match methT fns (t :: ts) tb with
      | some u => some (u, if u.leaf then [] else A ++ B)
      | none => none
    | _, _ => none
  | _, Γ, .make c f nd es => match cL fns Γ es, fns[f]? with
    | some (ts, _), some i => if iniB c i && (lesB (if nd = true then ts ++ [.im] else ts) (i.sg.drop 1) && (!nd || i.dn)) then some (.im, []) else none
    | _, _ => none
  | _, Γ, .comp own g elt it c => match cE fns true Γ it with
    | some (ti, Ai) => match cE fns false (tgT g (itT it ti) Γ) elt, cE fns false (tgT g (itT it ti) Γ) c with
      | some (te, Ae), some _ => if (itT it ti).flat then some (.ow te, ownA own te Ae Ai) else none
      | _, _ => none
    | none => none
  | true, Γ, .rng1 a => match cE fns false Γ a with
    | some _ => some (.im, [])
    | none => none
  | true, Γ, .rng2 a b => match cE fns false Γ a, cE fns false Γ b with
    | some _, some _ => some (.im, [])
    | _, _ => none
  | true, Γ, .rng3 a b c => match cE fns false Γ a, cE fns false Γ b, cE fns false Γ c with
    | some _, some _, some _ => some (.im, [])
    | _, _, _ => none
  | true, Γ, .ien a => match cE fns false Γ a with
    | some (t, A) => some (pairT t.bor.el, A)
    | none => none
  | true, Γ, .izp a b => match cE fns false Γ a, cE fns false Γ b with
    | some (t, A), some (u, B) => if T.le t.bor.el (T.join t.bor.el u.bor.el) && T.le u.bor.el (T.join t.bor.el u.bor.el) && (T.join t.bor.el u.bor.el).flat then some (pairT (T.join t.bor.el u.bor.el), A ++ B) else none
    | _, _ => none
  | true, Γ, .ikd a => match cE fns false Γ a with
    | some (.ow _, _) => some (.im, [])
    | some (_, A) => if isV a = true then some (.im, A) else none
    | none => none
  | true, Γ, .irr a => match cE fns false Γ a with
    | some _ => some (.im, [])
    | none => none
  | true, Γ, .irv a => match cE fns false Γ a with
    | some (t, A) => some (t.bor.el, A)
    | none => none
  | _, _, _ => none
def cL (fns : List FnI) (Γ : List T) : CE → Option (List T × List Nat)
  | .nil => some ([], [])
  | .cons a b => match cE fns false Γ a, cL fns Γ b with
    | some (t, A), some (ts, B) => some (t :: ts, A ++ B)
    | _, _ => none
  | _ => none
end
/-! ### readings -/
def NA (L : Nat → Addr → Prop) (H : Hp) (A : List Nat) : Addr → Prop := fun a => (∃ i ∈ A, L i a) ∨ H a = none
theorem NA.old {L} {H H' : Hp} {A : List Nat} (e : Same H H') : ∀ a, NA L H' A a → NA L H A a := fun a z => z.imp_right fun q => e.free q
theorem NA.mono {L H} {A B : List Nat} (h : ∀ i ∈ A, i ∈ B) : ∀ a, NA L H A a → NA L H B a := fun a z => z.imp_left fun ⟨i, hi, q⟩ => ⟨i, h i hi, q⟩
section
variable (K : PySem.W.Frag) (cls : Nat → Addr × List Str)
def RS (L : Nat → Addr → Prop) (H1 H' : Hp) (t : T) (A : List Nat) (v : V) (d : D) : Prop :=
  ∃ F, F.Nodup ∧ (∀ a ∈ F, H1 a = none) ∧ ReT K cls (fun a => NA L H1 A a ∧ a ∉ F) H' t v d F
inductive ReTL (N : Addr → Prop) (H : Hp) : List T → List V → List D → List Addr → Prop
  | nil : ReTL N H [] [] [] []
  | cons {t : T} {ts : List T} {v : V} {vs : List V} {d : D} {ds : List D} {F F' : List Addr} : ReT K cls N H t v d F → ReTL N H ts vs ds F' → ReTL N H (t :: ts) (v :: vs) (d :: ds) (F ++ F')
def RSL (L : Nat → Addr → Prop) (H1 H' : Hp) (ts : List T) (A : List Nat) (vs : List V) (ds : List D) : Prop :=
  ∃ F, F.Nodup ∧ (∀ a ∈ F, H1 a = none) ∧ ReTL K cls (fun a => NA L H1 A a ∧ a ∉ F) H' ts vs ds F
def ER (Γ : List T) (L : Nat → Addr → Prop) (H : Hp) (σ : St) (env : Env) : Prop :=
  (σ.length = env.length ∧ Γ.length = env.length) ∧ (∀ i a, L i a → H a ≠ none) ∧ ∀ i d, env[i]? = some (some d) → ∃ v t, σ[i]? = some (some v) ∧ Γ[i]? = some t ∧ RepB K cls (L i) H t.bor v d
end
theorem some_same {H H' : Hp} (e : Same H H') {a : Addr} (h : H a ≠ none) : H' a ≠ none := fun q => h (e.free q)
theorem ER.mono {K cls Γ L} {H H' : Hp} {σ : St} {env : Env} (e : Same H H') (h : ER K cls Γ L H σ env) : ER K cls Γ L H' σ env :=
  ⟨h.1, fun i a z => some_same e (h.2.1 i a z), fun i d q => let ⟨v, t, h1, h2, h3⟩ := h.2.2 i d q; ⟨v, t, h1, h2, h3.mono e fun _ z => z⟩⟩
section
variable (G : Glob) (C : CallW) (Γ : List T) (L : Nat → Addr → Prop)
def tS (c : CE) (t : T) (A : List Nat) : TE := fun σ H1 R => ∃ env Q, ER G.K G.cls Γ L H1 σ env ∧ E C c env Q ∧ ∀ v H' d, Same H1 H' → RS G.K G.cls L H1 H' t A v d → Q d → R v H'
def tSL (c : CE) (ts : List T) (A : List Nat) : TA := fun σ H1 R => ∃ env Q, ER G.K G.cls Γ L H1 σ env ∧ Es C c env Q ∧ ∀ vs H' ds, Same H1 H' → RSL G.K G.cls L H1 H' ts A vs ds → Q ds → R vs H'
def tST (c : CE) : TT := fun σ H1 R => ∃ env P1 P2, ER G.K G.cls Γ L H1 σ env ∧ E C c env (fun d => onB d P1 P2) ∧ (∀ H', Same H1 H' → P1 → R true H') ∧ ∀ H', Same H1 H' → P2 → R false H'
end
section
variable {G : Glob} {C : CallW} {Γ : List T} {L : Nat → Addr → Prop}
theorem tS_mon {c : CE} {t : T} {A : List Nat} : MonE (tS G C Γ L c t A) := fun σ H R R' i ⟨env, Q, h1, h3, h4⟩ => ⟨env, Q, h1, h3, fun v H' d a b c => i _ _ (h4 v H' d a b c)⟩
variable {K : PySem.W.Frag} {cls : Nat → Addr × List Str} {H1 H2 H' H'' : Hp}
theorem RS.im {A : List Nat} {v : V} {d : D} (h : Rep K cls N0 H' v d) : RS K cls L H1 H' .im A v d := ⟨[], .nil, fun _ z => absurd z (by simp), .bo rfl h⟩
theorem RS.bo {t : T} {A : List Nat} {v : V} {d : D} (f : t.flat = true) (h : RepB K cls (NA L H1 A) H' t v d) : RS K cls L H1 H' t A v d := ⟨[], .nil, fun _ z => absurd z (by simp), .bo f (h.mono (Same.refl _) fun a z => ⟨z, by simp⟩)⟩
/-- borrowed, at a later heap -/
theorem RS.bor {t : T} {A : List Nat} {v : V} {d : D} (s2 : Same H' H'') (h : RS K cls L H1 H' t A v d) : RepB K cls (NA L H1 A) H'' t.bor v d := by
  obtain ⟨F, nd, fr, r⟩ := h
  refine r.bor.mono s2 fun a z => ?_
  rcases z with ⟨z, _⟩ | z
  · exact z
  · exact .inr (fr a z)
theorem RS.flatten {t : T} {A : List Nat} {v : V} {d : D} (s : Same H2 H1) (s2 : Same H' H'') (h : RS K cls L H1 H' t A v d) : RS K cls L H2 H'' t.bor A v d :=
  .bo (flat_bor t) ((h.bor s2).mono (Same.refl _) (NA.old s))
theorem RS.wk {t : T} {A B : List Nat} {v : V} {d : D} (i : ∀ i ∈ A, i ∈ B) (h : RS K cls L H1 H' t A v d) : RS K cls L H1 H' t B v d := by
  obtain ⟨F, nd, fr, r⟩ := h
  exact ⟨F, nd, fr, r.mono (Same.refl _) fun a z => ⟨NA.mono i a z.1, z.2⟩⟩
mutual
theorem leaf_N {N N' : Addr → Prop} : ∀ {t : T} {v : V} {d : D} {F : List Addr}, t.leaf = true → ReT K cls N H' t v d F → ReT K cls N' H' t v d F
  | t, _, _, _, f, .bo q h => by
    cases t with
    | im => exact .bo rfl h
    | ow t => cases q
    | _ => cases f
  | .ow _, _, _, _, _, .owx h => .owx h
  | .ow _, _, _, _, f, .owl h r => .owl h (leafs_N f r)
  | .ow _, _, _, _, f, .owK h r => .owK h (leafs_N f r)
  | .ow _, _, _, _, f, .owT h r => .owT h (leafs_N f r)
  | .ow _, _, _, _, f, .owP h r => .owP h (leafs_N f r)
theorem leafs_N {N N' : Addr → Prop} : ∀ {t : T} {v : List V} {d : List D} {F : List Addr}, t.leaf = true → ReTs K cls N H' t v d F → ReTs K cls N' H' t v d F
  | _, _, _, _, _, .nil => .nil
  | _, _, _, _, f, .cons h r => .cons (leaf_N f h) (leafs_N f r)
end
/-- what an operation on things at A hands back -/
theorem rs_of {t : T} {A : List Nat} {v : V} {d : D} (s2 : Same H1 H2) (h : RSp K cls (NA L H1 A) H2 H' t v d) : RS K cls L H1 H' t (als t A) v d := by
  obtain ⟨F, nd, fr, r⟩ := h
  refine ⟨F, nd, fun a z => s2.free (fr a z), ?_⟩
  unfold als
  by_cases e : t.leaf = true
  · exact leaf_N e r
  · rw [if_neg e]
    refine r.mono (Same.refl _) fun a z => ⟨?_, z.2⟩
    rcases z.1 with q | q
    · exact q
    · exact .inr (s2.free q)
theorem ReTL.mono {N N' : Addr → Prop} (e : Same H' H'') (n : ∀ a, N a → N' a) : ∀ {ts : List T} {vs : List V} {ds : List D} {F : List Addr}, ReTL K cls N H' ts vs ds F → ReTL K cls N' H'' ts vs ds F
  | _, _, _, _, .nil => .nil
  | _, _, _, _, .cons h r => .cons (h.mono e n) (ReTL.mono e n r)
theorem ReTL.same {N : Addr → Prop} {t : T} : ∀ {ts : List T} {vs : List V} {ds : List D} {F : List Addr}, (ts.all fun u => T.le u t) = true → ReTL K cls N H' ts vs ds F → ReTs K cls N H' t vs ds F
  | _, _, _, _, _, .nil => .nil
  | _, _, _, _, e, .cons h r => by
    rw [List.all_cons, Bool.and_eq_true] at e
    exact .cons (h.le e.1) (ReTL.same e.2 r)
theorem ReTL.bor {N : Addr → Prop} {t : T} : ∀ {ts : List T} {vs : List V} {ds : List D} {F : List Addr}, (ts.all fun u => T.le u.bor t) = true → ReTL K cls N H' ts vs ds F → Paired (RepB K cls (fun a => N a ∨ a ∈ F) H' t) vs ds
  | _, _, _, _, _, .nil => .nil
  | _, _, _, _, e, .cons h r => by
    rw [List.all_cons, Bool.and_eq_true] at e
    refine .cons ((h.bor.le e.1).mono (Same.refl _) fun a z => z.imp_right fun z => List.mem_append_left _ z) (pimp (ReTL.bor e.2 r) fun _ _ z => z.mono (Same.refl _) fun a z => z.imp_right fun z => List.mem_append_right _ z)
theorem reTL_ints {N : Addr → Prop} (df : List Int) : ∀ {ts : List T} {vs : List V} {ds : List D} {F : List Addr}, ReTL K cls N H' ts vs ds F → ReTL K cls N H' (ts ++ df.map fun _ => T.im) (vs ++ df.map V.int) (ds ++ df.map D.int) F
  | _, _, _, _, .nil => by
    induction df with
    | nil => exact .nil
    | cons i df ih => exact .cons (F := []) (F' := []) (.bo rfl (.int i)) ih
  | _, _, _, _, .cons h r => .cons h (reTL_ints df r)
theorem ReTL.args {N : Addr → Prop} : ∀ {ts us : List T} {vs : List V} {ds : List D} {F : List Addr}, lesB ts us = true → ReTL K cls N H' ts vs ds F → ArgsB K cls (fun a => N a ∨ a ∈ F) H' us vs ds
  | [], us, _, _, _, e, .nil => by cases us <;> first | exact .nil | cases e
  | t :: ts, [], _, _, _, e, .cons h r => by cases e
  | t :: ts, u :: us, _, _, _, e, .cons h r => by
    have e' := Bool.and_eq_true_iff.mp e
    refine .cons ((h.bor.le e'.1).mono (Same.refl _) fun a z => z.imp_right fun z => List.mem_append_left _ z) ?_
    have q := ReTL.args e'.2 r
    exact args_mono (fun a z => z.imp_right fun z => List.mem_append_right _ z) q
where
  args_mono {N N' : Addr → Prop} (n : ∀ a, N a → N' a) : ∀ {ts : List T} {vs : List V} {ds : List D}, ArgsB K cls N H' ts vs ds → ArgsB K cls N' H' ts vs ds
  | _, _, _, .nil => .nil
  | _, _, _, .cons h r => .cons (h.mono (Same.refl _) n) (args_mono n r)
theorem lesB_im : ∀ {ts us vs : List T}, lesB (ts ++ us) vs = true → ∃ v1 v2, vs = v1 ++ v2 ∧ lesB ts v1 = true ∧ lesB us v2 = true
  | [], us, vs, h => ⟨[], vs, rfl, rfl, h⟩
  | t :: ts, us, [], h => by cases h
  | t :: ts, us, v :: vs, h => by
    have h' := Bool.and_eq_true_iff.mp h
    obtain ⟨v1, v2, e, h1, h2⟩ := lesB_im h'.2
    exact ⟨v :: v1, v2, by rw [e]; rfl, Bool.and_eq_true_iff.mpr ⟨h'.1, h1⟩, h2⟩
theorem ArgsB.app {N : Addr → Prop} : ∀ {ts us : List T} {vs ws : List V} {ds es : List D}, ArgsB K cls N H' ts vs ds → ArgsB K cls N H' us ws es → ArgsB K cls N H' (ts ++ us) (vs ++ ws) (ds ++ es)
  | [], _, _, _, _, _, .nil, h => h
  | _ :: _, _, _, _, _, _, .cons a r, h => .cons a (ArgsB.app r h)
theorem ReTL.argsA {N : Addr → Prop} {ts us vs' : List T} {vs ws : List V} {ds es : List D} {F : List Addr} (hd : ∀ N H us', lesB us us' = true → ArgsB K cls N H us' ws es) (h : lesB (ts ++ us) vs' = true) (r : ReTL K cls N H' ts vs ds F) : ArgsB K cls (fun a => N a ∨ a ∈ F) H' vs' (vs ++ ws) (ds ++ es) := by
  obtain ⟨v1, v2, rfl, h1, h2⟩ := lesB_im h
  exact (ReTL.args h1 r).app (hd _ _ _ h2)
theorem ReTL.length {N : Addr → Prop} : ∀ {ts : List T} {vs : List V} {ds : List D} {F : List Addr}, ReTL K cls N H' ts vs ds F → vs.length = ts.length ∧ ds.length = ts.length
  | _, _, _, _, .nil => ⟨rfl, rfl⟩
  | _, _, _, _, .cons _ r => by simp [ReTL.length r]
mutual
theorem ReT.dom {N : Addr → Prop} : ∀ {t : T} {v : V} {d : D} {F : List Addr}, ReT K cls N H' t v d F → ReT K cls (fun a => N a ∧ H' a ≠ none) H' t v d F
  | _, _, _, _, .bo q h => .bo q h.dom
  | .ow _, _, _, _, .owx h => .owx h
  | .ow _, _, _, _, .owl h r => .owl h (ReTs.dom r)
  | .ow _, _, _, _, .owK h r => .owK h (ReTs.dom r)
  | .ow _, _, _, _, .owT h r => .owT h (ReTs.dom r)
  | .ow _, _, _, _, .owP h r => .owP h (ReTs.dom r)
theorem ReTs.dom {N : Addr → Prop} : ∀ {t : T} {v : List V} {d : List D} {F : List Addr}, ReTs K cls N H' t v d F → ReTs K cls (fun a => N a ∧ H' a ≠ none) H' t v d F
  | _, _, _, _, .nil => .nil
  | _, _, _, _, .cons h r => .cons h.dom (ReTs.dom r)
end
theorem rs_lst1 {ts : List T} {t : T} {A : List Nat} {vs : List V} {ds : List D} {p : Addr} (s : Same H1 H') (hp : H' p = none) (hl : (ts.all fun u => T.le u t) = true) (h : RSL K cls L H1 H' ts A vs ds) :
    RS K cls L H1 (upd H' p (.lst vs)) (.ow t) A (.ref p) (.lst ds) := by
  obtain ⟨F, nd, fr, r⟩ := h
  have r1 := ReTL.same hl r
  have pF : p ∉ F := fun z => by
    have := r1.box p z
    rw [hp] at this
    exact this
  refine ⟨p :: F, List.nodup_cons.mpr ⟨pF, nd⟩, fun a z => ?_, .owl upd_same (r1.dom.mono (same_new hp) fun a z => ⟨z.1.1, fun q => ?_⟩)⟩
  · rcases List.mem_cons.mp z with rfl | z
    · exact s.free hp
    · exact fr a z
  · rcases List.mem_cons.mp q with rfl | q
    · exact z.2 hp
    · exact z.1.2 q
theorem rs_tupo {ts : List T} {t : T} {A : List Nat} {vs : List V} {ds : List D} {p : Addr} (s : Same H1 H') (hp : H' p = none) (hl : (ts.all fun u => T.le u t) = true) (h : RSL K cls L H1 H' ts A vs ds) :
    RS K cls L H1 (upd H' p (.tup vs)) (.ow t) A (.ref p) (.tup ds) := by
  obtain ⟨F, nd, fr, r⟩ := h
  have r1 := ReTL.same hl r
  refine ⟨F, nd, fr, .owP upd_same (r1.dom.mono (same_new hp) fun a z => ⟨z.1.1, fun q => z.1.2 q⟩)⟩
theorem rs_lst2 {ts : List T} {t : T} {A : List Nat} {vs : List V} {ds : List D} {p : Addr} (s : Same H1 H') (hp : H' p = none) (f : t.flat = true) (hl : (ts.all fun u => T.le u.bor t) = true) (h : RSL K cls L H1 H' ts A vs ds) :
    RS K cls L H1 (upd H' p (.lst vs)) (.ow t) A (.ref p) (.lst ds) := by
  obtain ⟨F, nd, fr, r⟩ := h
  have r1 := ReTL.bor hl r
  refine ⟨[p], by simp, fun a z => by rw [List.mem_singleton.mp z]; exact s.free hp, .owl (F := []) upd_same (ReTs.of_flat f (pimp r1 fun _ _ z => ?_))⟩
  refine z.dom.mono (same_new hp) fun a q => ⟨?_, fun z => q.2 (by rw [List.mem_singleton.mp z]; exact hp)⟩
  rcases q.1 with q | q
  · exact q.1
  · exact .inr (fr a q)
theorem rs_tup {ts : List T} {t : T} {A : List Nat} {vs : List V} {ds : List D} {p : Addr} (s : Same H1 H') (hp : H' p = none) (f : t.flat = true) (hl : (ts.all fun u => T.le u.bor t.el) = true) (ht : t = .im ∨ t = .sh ∨ ∃ u, t = .s u) (h : RSL K cls L H1 H' ts A vs ds) :
    RS K cls L H1 (upd H' p (.tup vs)) t A (.ref p) (.tup ds) := by
  obtain ⟨F, nd, fr, r⟩ := h
  have r1 := pimp (ReTL.bor hl r) fun _ _ z => (z.mono (same_new (o := .tup vs) hp) (N' := NA L H1 A) fun a q => by
    rcases q with q | q
    · exact q.1
    · exact .inr (fr a q))
  refine .bo f ?_
  rcases ht with rfl | rfl | ⟨u, rfl⟩
  · exact .tup upd_same (.of r1)
  · exact .tup upd_same (.of r1)
  · exact .tup upd_same r1
end
end Pv

set_option maxRecDepth 100000
set_option maxHeartbeats 1000000
/-! ### a dict that is locked while it is walked -/
namespace Pv
open PySem L2
/-- a dict's content -/
def DicO (u : HO) : Prop := (∃ kvs, u = .dK kvs) ∨ ∃ kvs, u = .dT kvs
/-- the same heap but that the dict at d may be locked in one of the two -/
structure Lk (d : Addr) (H H' : Hp) : Prop where
  ne : ∀ b, b ≠ d → H' b = H b
  dic : ∃ u, DicO u ∧ Rd H d u ∧ Rd H' d u
section
variable {d : Addr} {H H' : Hp}
theorem Lk.symm (k : Lk d H H') : Lk d H' H := ⟨fun b n => (k.ne b n).symm, let ⟨u, a, b, c⟩ := k.dic; ⟨u, a, c, b⟩⟩
theorem rd_dic {a : Addr} {u w : HO} (du : DicO u) (nw : ∀ o x, w ≠ .frz o x) (h1 : Rd H a u) (h2 : Rd H a w) : u = w := by
  rcases h1 with h1 | ⟨o, h1⟩ <;> rcases h2 with h2 | ⟨o2, h2⟩ <;> rw [h1] at h2
  · cases h2; rfl
  · rcases du with ⟨_, rfl⟩ | ⟨_, rfl⟩ <;> cases h2
  · exact absurd (Option.some.inj h2).symm (nw _ _)
  · cases h2; rfl
theorem Lk.rd (k : Lk d H H') {a : Addr} {w : HO} (nw : ∀ o x, w ≠ .frz o x) (h : Rd H a w) : Rd H' a w := by
  by_cases e : a = d
  · subst e
    obtain ⟨u, du, h1, h2⟩ := k.dic
    rw [← rd_dic du nw h1 h]
    exact h2
  · unfold Rd
    rw [k.ne a e]
    exact h
theorem Lk.get (k : Lk d H H') {a : Addr} {w : HO} (h : H a = some w) (n1 : ¬ DicO w) (n2 : ∀ o x, w ≠ .frz o x) : H' a = some w := by
  have e : a ≠ d := fun e => by
    subst e
    obtain ⟨u, du, h1, h2⟩ := k.dic
    have := rd_dic du n2 h1 (.inl h)
    subst this
    exact n1 du
  rw [k.ne a e]
  exact h
theorem Lk.nn (k : Lk d H H') {a : Addr} (h : H a = none) : H' a = none := by
  have e : a ≠ d := fun e => by
    subst e
    obtain ⟨u, du, h1, h2⟩ := k.dic
    rcases h1 with h1 | ⟨o, h1⟩ <;> (rw [h] at h1; cases h1)
  rw [k.ne a e]
  exact h

theorem nd_tup {vs : List V} : ¬ DicO (.tup vs) := by rintro (⟨_, h⟩ | ⟨_, h⟩) <;> cases h
theorem nd_lst {vs : List V} : ¬ DicO (.lst vs) := by rintro (⟨_, h⟩ | ⟨_, h⟩) <;> cases h
theorem nd_ins {C dx : Addr} {fs : List (Str × V)} : ¬ DicO (.ins C dx fs) := by rintro (⟨_, h⟩ | ⟨_, h⟩) <;> cases h
variable {K : PySem.W.Frag} {cls : Nat → Addr × List Str} {N : Addr → Prop}
mutual
theorem Rep.lk (k : Lk d H H') : ∀ {v : V} {x : D}, Rep K cls N H v x → Rep K cls N H' v x
  | _, _, .non => .non
  | _, _, .bl b => .bl b
  | _, _, .int i => .int i
  | _, _, .str x => .str x
  | _, _, .tup h r => .tup (k.get h nd_tup (fun _ _ z => by cases z)) (Reps.lk k r)
  | _, _, .lst a h r => .lst a (k.rd (fun _ _ z => by cases z) h) (Reps.lk k r)
  | _, _, .dK a h r => .dK a (k.rd (fun _ _ z => by cases z) h) (Reps.lk k r)
  | _, _, .dT a h r => .dT a (k.rd (fun _ _ z => by cases z) h) (Reps.lk k r)
  | _, _, .obj h z r => .obj (k.get h nd_ins (fun _ _ z => by cases z)) z (Reps.lk k r)
theorem Reps.lk (k : Lk d H H') : ∀ {v : List V} {x : List D}, Reps K cls N H v x → Reps K cls N H' v x
  | _, _, .nil => .nil
  | _, _, .cons h r => .cons (Rep.lk k h) (Reps.lk k r)
end
theorem BS.lk (k : Lk d H H') {P P' : V → D → Prop} (hp : ∀ v d, P v d → P' v d) {v : V} {x : D} (h : BS K cls N H P v x) : BS K cls N H' P' v x := by
  cases h with
  | im h => exact .im (h.lk k)
  | tup h r => exact .tup (k.get h nd_tup (fun _ _ z => by cases z)) (pimp r hp)
  | lst na h r => exact .lst na (k.rd (fun _ _ z => by cases z) h) (pimp r hp)
  | dK na h r => exact .dK na (k.rd (fun _ _ z => by cases z) h) (pimp r hp)
  | dT na h r => exact .dT na (k.rd (fun _ _ z => by cases z) h) (pimp r hp)
theorem RepB.lk (k : Lk d H H') : ∀ {t : T} {v : V} {x : D}, RepB K cls N H t v x → RepB K cls N H' t v x
  | .im, _, _, h => Rep.lk k h
  | .sh, _, _, h => Rep.lk k h
  | .s t, _, _, h => BS.lk k (fun _ _ z => RepB.lk (t := t) k z) h
  | .ow t, _, _, h => BS.lk k (fun _ _ z => RepB.lk (t := t) k z) h
mutual
theorem ReT.lk (k : Lk d H H') : ∀ {t : T} {v : V} {x : D} {F : List Addr}, d ∉ F → ReT K cls N H t v x F → ReT K cls N H' t v x F
  | _, _, _, _, _, .bo f h => .bo f (h.lk k)
  | _, _, _, _, _, .owx h => .owx (h.lk k)
  | _, _, _, _, n, .owl h r => .owl (by rw [k.ne _ (fun e => n (by simp [e]))]; exact h) (ReTs.lk k (fun z => n (by simp [z])) r)
  | _, _, _, _, n, .owK h r => .owK ⟨by rw [k.ne _ (fun e => n (by simp [e]))]; exact h.1, h.2⟩ (ReTs.lk k (fun z => n (by simp [z])) r)
  | _, _, _, _, n, .owT h r => .owT ⟨by rw [k.ne _ (fun e => n (by simp [e]))]; exact h.1, h.2⟩ (ReTs.lk k (fun z => n (by simp [z])) r)
  | _, _, _, _, n, .owP h r => .owP (k.get h nd_tup (fun _ _ z => by cases z)) (ReTs.lk k n r)
theorem ReTs.lk (k : Lk d H H') : ∀ {t : T} {v : List V} {x : List D} {F : List Addr}, d ∉ F → ReTs K cls N H t v x F → ReTs K cls N H' t v x F
  | _, _, _, _, _, .nil => .nil
  | _, _, _, _, n, .cons h r => .cons (ReT.lk k (fun z => n (by simp [z])) h) (ReTs.lk k (fun z => n (by simp [z])) r)
end
theorem lk_upd {u : HO} (hd : H d = some u) (du : DicO u) (o : Obj) : Lk d H (upd H d (.frz o u)) :=
  ⟨fun b n => upd_ne n, u, du, .inl hd, .inr ⟨o, upd_same⟩⟩
theorem lk_back {u : HO} {o : Obj} (hd : H d = some (.frz o u)) (du : DicO u) : Lk d H (upd H d u) :=
  ⟨fun b n => upd_ne n, u, du, .inr ⟨o, hd⟩, .inl upd_same⟩
theorem same_lk {u : HO} {o : Obj} (hd : H d = some u) (s : Same (upd H d (.frz o u)) H') : Same H (upd H' d u) := fun b w e => by
  by_cases q : b = d
  · subst q
    rw [hd] at e
    cases e
    exact upd_same
  · rw [upd_ne q]
    exact s b w (by rw [upd_ne q]; exact e)
theorem ER.lk {Γ : List T} {L : Nat → Addr → Prop} {σ : St} {env : Env} (k : Lk d H H') (h : ER K cls Γ L H σ env) : ER K cls Γ L H' σ env :=
  ⟨h.1, fun i a z => fun q => h.2.1 i a z (k.symm.nn q), fun i x q => let ⟨v, t, h1, h2, h3⟩ := h.2.2 i x q; ⟨v, t, h1, h2, h3.lk k⟩⟩
/-- slot x bears a locked dict -/
def FrzAt (x : Nat) (σ : St) (H : Hp) : Prop := ∃ d o u, σ[x]? = some (some (.ref d)) ∧ H d = some (.frz o u) ∧ DicO u
def FrzC (c : CE) (σ : St) (H : Hp) : Prop := match c with
  | .ikd (.var x) => FrzAt x σ H
  | _ => True
theorem tS_lock {G : Glob} {C : CallW} {Γ : List T} {L : Nat → Addr → Prop} {c : CE} {t : T} {A : List Nat} {σ : St} {H : Hp} {R : VK} (h : tS G C Γ L c t A σ H R) {d : Addr} {u : HO} (hd : H d = some u) (du : DicO u) (o : Obj) :
    tS G C Γ L c t A σ (upd H d (.frz o u)) (fun v H' => H' d = some (.frz o u) ∧ R v (upd H' d u)) := by
  obtain ⟨env, Q, er, hE, kk⟩ := h
  have k0 := lk_upd (d := d) hd du o
  refine ⟨env, Q, er.lk k0, hE, fun v H' x s rs hq => ?_⟩
  have hd' : H' d = some (.frz o u) := s _ _ upd_same
  refine ⟨hd', kk _ _ x (same_lk hd s) ?_ hq⟩
  obtain ⟨F, nd, fr, r⟩ := rs
  refine ⟨F, nd, fun a z => k0.symm.nn (fr a z), (ReT.lk (lk_back hd' du) (fun z => ?_) r).mono (Same.refl _) fun a z => ⟨?_, z.2⟩⟩
  · have := fr d z
    rw [upd_same] at this
    cases this
  · rcases z.1 with q | q
    · exact .inl q
    · exact .inr (k0.symm.nn q)
/-- a dict in a slot, as it is read -/
theorem er_dic {G : Glob} {H : Hp} {Γ : List T} {L : Nat → Addr → Prop} {σ : St} {env : Env} {x : Nat} (er : ER G.K G.cls Γ L H σ env) {Q : List D → Prop} {C : CallW} (h : It C (.ikd (.var x)) env Q) :
    FrzAt x σ H ∨ ∃ d u, σ[x]? = some (some (.ref d)) ∧ H d = some u ∧ DicO u := by
  unfold It E E at h
  split at h
  · rename_i dd e
    obtain ⟨v, t, e1, e2, rb⟩ := er.2.2 x dd e
    have rp := rb.rep
    cases dd <;> try exact h.elim
    · cases rp with
      | dK n r _ =>
        rcases r with r | ⟨o, r⟩
        · exact .inr ⟨_, _, e1, r, .inl ⟨_, rfl⟩⟩
        · exact .inl ⟨_, o, _, e1, r, .inl ⟨_, rfl⟩⟩
    · cases rp with
      | dT n r _ =>
        rcases r with r | ⟨o, r⟩
        · exact .inr ⟨_, _, e1, r, .inr ⟨_, rfl⟩⟩
        · exact .inl ⟨_, o, _, e1, r, .inr ⟨_, rfl⟩⟩
  · exact h.elim
end
end Pv

set_option maxRecDepth 100000
set_option maxHeartbeats 1000000
namespace Pv
open PySem L2
theorem _root_.L2.PTs.sub {X : Cx} {e : List Expr} {t t' : TT} (h : PTs X e t) (i : ∀ σ H R, t' σ H R → t σ H R) : PTs X e t' := ⟨fun pins s σ H R I q => h.run pins s σ H R I (i σ H R q)⟩
theorem _root_.L2.PE.some {X : Cx} {e : Expr} {ι : Sort _} {t : ι → TE} (h : ∀ i, PE X e (t i)) : PE X e (fun σ H R => ∃ i, t i σ H R) := ⟨fun pins s σ H R I ⟨i, q⟩ => (h i).run pins s σ H R I q⟩
theorem _root_.L2.PT.some {X : Cx} {e : Expr} {ι : Sort _} {t : ι → TT} (h : ∀ i, PT X e (t i)) : PT X e (fun σ H R => ∃ i, t i σ H R) := ⟨fun pins s σ H R I ⟨i, q⟩ => (h i).run pins s σ H R I q⟩
/-! ### what is walked -/
/-- Hb has all of H but boxes of which N does not hold -/
def Keep (N : Addr → Prop) (H Hb : Hp) : Prop := ∀ b u, H b = some u → (Box (H b) → N b) → Hb b = some u
section
variable {K : PySem.W.Frag} {cls : Nat → Addr × List Str} {N N' : Addr → Prop} {H H' Hb : Hp}
theorem Keep.rd (e : Keep N H Hb) {a : Addr} {u : HO} (n : N a) (h : Rd H a u) : Rd Hb a u := by
  rcases h with h | ⟨o, h⟩
  · exact .inl (e a _ h fun _ => n)
  · exact .inr ⟨o, e a _ h fun _ => n⟩
theorem Keep.tup (e : Keep N H Hb) {a : Addr} {xs : List V} (h : H a = some (.tup xs)) : Hb a = some (.tup xs) := e a _ h fun z => by rw [h] at z; exact z.elim
theorem Keep.sqT (e : Keep N H Hb) {a : Addr} {xs : List V} (h : SqT K H a xs) : SqT K Hb a xs := by
  rcases h with (h | ⟨o, h⟩) | h
  · exact .inl (.inl (e a _ h fun z => by rw [h] at z; exact z.elim))
  · exact .inl (.inr ⟨o, e a _ h fun z => by rw [h] at z; exact z.elim⟩)
  · exact .inr h
mutual
theorem Rep.keep (e : Keep N H Hb) (n : ∀ a, N' a → N a) : ∀ {v : V} {d : D}, Rep K cls N' H v d → Rep K cls N' Hb v d
  | _, _, .non => .non
  | _, _, .bl b => .bl b
  | _, _, .int i => .int i
  | _, _, .str x => .str x
  | _, _, .tup h r => .tup (e.tup h) (Reps.keep e n r)
  | _, _, .lst a h r => .lst a (e.rd (n _ a) h) (Reps.keep e n r)
  | _, _, .dK a h r => .dK a (e.rd (n _ a) h) (Reps.keep e n r)
  | _, _, .dT a h r => .dT a (e.rd (n _ a) h) (Reps.keep e n r)
  | _, _, .obj h y r => .obj (e _ _ h fun z => by rw [h] at z; exact z.elim) y (Reps.keep e n r)
theorem Reps.keep (e : Keep N H Hb) (n : ∀ a, N' a → N a) : ∀ {v : List V} {d : List D}, Reps K cls N' H v d → Reps K cls N' Hb v d
  | _, _, .nil => .nil
  | _, _, .cons h r => .cons (Rep.keep e n h) (Reps.keep e n r)
end
theorem BS.keep (e : Keep N H Hb) {P P' : V → D → Prop} (hp : ∀ v d, P v d → P' v d) {v : V} {d : D} (h : BS K cls N H P v d) : BS K cls N Hb P' v d := by
  cases h with
  | im h => exact .im (h.keep e fun _ z => z.elim)
  | tup h r => exact .tup (e.tup h) (pimp r hp)
  | lst na h r => exact .lst na (e.rd na h) (pimp r hp)
  | dK na h r => exact .dK na (e.rd na h) (pimp r hp)
  | dT na h r => exact .dT na (e.rd na h) (pimp r hp)
theorem RepB.keep (e : Keep N H Hb) : ∀ {t : T} {v : V} {d : D}, RepB K cls N H t v d → RepB K cls N Hb t v d
  | .im, _, _, h => Rep.keep e (fun _ z => z.elim) h
  | .sh, _, _, h => Rep.keep e (fun _ z => z) h
  | .s t, _, _, h => BS.keep e (fun _ _ z => RepB.keep (t := t) e z) h
  | .ow t, _, _, h => BS.keep e (fun _ _ z => RepB.keep (t := t) e z) h
end
/-- J walks ds while all of Hb stands -/
def Wk (K : PySem.W.Frag) (cls : Nat → Addr × List Str) (J : L2.It) (Hb : Hp) (N : Addr → Prop) (t : T) (ds : List D) : Prop :=
  ∃ Gp Y, Walk J ds.length Gp Y ∧ (∀ H, Same Hb H → Gp H) ∧ ∀ i H x H', i < ds.length → Same Hb H → Y i H x H' → ∃ d, ds[i]? = some d ∧ Same H H' ∧ RepB K cls (fun a => N a ∨ H a = none) H' t x d
def tI (G : Glob) (C : CallW) (Γ : List T) (L : Nat → Addr → Prop) (c : CE) (t : T) (A : List Nat) : TI := fun σ H1 R => ∃ env Q, ER G.K G.cls Γ L H1 σ env ∧ It C c env Q ∧
  ∀ J H' ds, Same H1 H' → (∀ Hb, Keep (NA L H1 A) H' Hb → Wk G.K G.cls J Hb (fun a => NA L H1 A a ∧ Hb a ≠ none) t ds) → Q ds → R J H'
theorem rngL_len (lo c : Int) (n : Nat) : (rngL lo c n).length = n := by simp [rngL]
theorem rngL_get {lo c : Int} {n i : Nat} (h : i < n) : (rngL lo c n)[i]? = some (.int (lo + (i : Nat) * c)) := by
  simp [rngL, h]
section
variable {K : PySem.W.Frag} {cls : Nat → Addr × List Str} {N : Addr → Prop} {Hb : Hp}
theorem wk_rng (lo : Int) (n : Nat) : Wk K cls (Itr lo n) Hb N .im (rngL lo 1 n) := by
  refine ⟨fun _ => True, YFn fun i => .int (lo + i), by rw [rngL_len]; exact walk_range, fun _ _ => trivial, fun i H x H' hi _ y => ?_⟩
  rw [rngL_len] at hi
  obtain ⟨rfl, rfl⟩ := y
  refine ⟨_, rngL_get hi, Same.refl _, ?_⟩
  rw [Int.mul_one]
  exact .int _
theorem wk_rngC (lo c : Int) (n : Nat) : Wk K cls (Itc lo c n) Hb N .im (rngL lo c n) := by
  refine ⟨fun _ => True, YFn fun i => .int (lo + (i : Nat) * c), by rw [rngL_len]; exact walk_rangeC, fun _ _ => trivial, fun i H x H' hi _ y => ?_⟩
  rw [rngL_len] at hi
  obtain ⟨rfl, rfl⟩ := y
  exact ⟨_, rngL_get hi, Same.refl _, .int _⟩
theorem wk_rngR (lo : Int) (n : Nat) : Wk K cls (Itc (lo + (n : Nat) - 1) (-1) n) Hb N .im (rngL lo 1 n).reverse := by
  refine ⟨fun _ => True, YFn fun i => .int (lo + (n : Nat) - 1 + (i : Nat) * (-1)), by rw [List.length_reverse, rngL_len]; exact walk_rangeC, fun _ _ => trivial, fun i H x H' hi _ y => ?_⟩
  rw [List.length_reverse, rngL_len] at hi
  obtain ⟨rfl, rfl⟩ := y
  refine ⟨_, ?_, Same.refl _, .int _⟩
  rw [List.getElem?_reverse (by rw [rngL_len]; exact hi), rngL_len, rngL_get (by omega)]
  congr 2
  omega
theorem wk_lst {a : Addr} {vs : List V} {ds : List D} {t : T} (h : Rd Hb a (.lst vs)) (p : Paired (RepB K cls N Hb t) vs ds) : Wk K cls (Itl K a) Hb N t ds := by
  refine ⟨_, _, pair_len p ▸ walk_list (xs := vs), fun H e => .inl (rd_same e h), fun i H x H' hi e y => ?_⟩
  obtain ⟨rfl, hx⟩ := y
  obtain ⟨d, hd⟩ : ∃ d, ds[i]? = some d := ⟨ds[i], by simp [hi]⟩
  obtain ⟨v, hv, r⟩ := pair_get p hd
  rw [hx] at hv
  cases hv
  exact ⟨d, hd, Same.refl _, r.mono e fun a z => .inl z⟩
theorem wk_tup {a : Addr} {vs : List V} {ds : List D} {t : T} (h : SqT K Hb a vs) (p : Paired (RepB K cls N Hb t) vs ds) : Wk K cls (Itt K a) Hb N t ds := by
  refine ⟨_, _, pair_len p ▸ walk_tup (xs := vs), fun H e => sqT_same e h, fun i H x H' hi e y => ?_⟩
  obtain ⟨rfl, hx⟩ := y
  obtain ⟨d, hd⟩ : ∃ d, ds[i]? = some d := ⟨ds[i], by simp [hi]⟩
  obtain ⟨v, hv, r⟩ := pair_get p hd
  rw [hx] at hv
  cases hv
  exact ⟨d, hd, Same.refl _, r.mono e fun a z => .inl z⟩
theorem wk_str {z : Str} {t : T} : Wk K cls (Its z) Hb N t (z.cps.toList.map fun c => D.str ⟨#[c]⟩) := by
  have e : (z.cps.toList.map fun c => D.str ⟨#[c]⟩).length = z.cps.size := by simp
  refine ⟨_, _, e.symm ▸ walk_str, fun _ _ => trivial, fun i H x H' hi _ y => ?_⟩
  obtain ⟨rfl, c, hc, rfl⟩ := y
  exact ⟨_, by rw [List.getElem?_map, Array.getElem?_toList, hc]; rfl, Same.refl _, RepB.of_im (.str _)⟩
end
/-- a list, a tuple, a text -/
def iAny (K : PySem.W.Frag) (te : TE) : TI := fun σ H R => te σ H fun x H1 => (∃ a xs, x = .ref a ∧ SqL K H1 a xs ∧ R (Itl K a) H1) ∨ (∃ a xs, x = .ref a ∧ SqT K H1 a xs ∧ R (Itt K a) H1) ∨ ∃ z, x = .str z ∧ R (Its z) H1
theorem pi_any {X : Cx} {g e : Expr} {te : TE} (he : PE X e te) : PI X g e (iAny X.K te) := by
  refine ⟨fun pins s σ H R I h => thn (he.run pins s σ H _ I h) fun v s1 ⟨x, H1, I1, r1, q1⟩ => ?_⟩
  rcases q1 with ⟨a, xs, rfl, hq, q⟩ | ⟨a, xs, rfl, hq, q⟩ | ⟨z, rfl, q⟩
  · cases r1
    obtain ⟨its, rv, p, hz⟩ := I1.list hq
    exact wpAny_pyIter_list p.isList (pi_one (tk := s1.toks) I1 _ (turn_list a _) ⟨_, Heap.get?_push_size _ rfl, rfl, rfl⟩ q)
  · cases r1
    obtain ⟨its, rv, p, hz⟩ := I1.tuple hq
    exact wpAny_pyIter_tuple (show s1.heap.IsTuple a its.toArray from p) (pi_one (tk := s1.toks) I1 _ (turn_tuple a _) ⟨_, Heap.get?_push_size _ rfl, rfl, rfl⟩ q)
  · have h2 : PIE X pins σ g R = PIE X pins σ g R := rfl
    obtain ⟨t, rfl⟩ := r1
    cases ha : z.cps.all (· < 128)
    · exact wpAny_pyIter_wide ha (pi_one (tk := s1.toks) I1 _ (turn_str _ z t "str_iterator" (.inr rfl)) ⟨_, Heap.get?_push_size _ rfl, rfl, rfl⟩ q)
    · exact wpAny_pyIter_ascii ha (pi_one (tk := s1.toks) I1 _ (turn_str _ z t "str_ascii_iterator" (.inl rfl)) ⟨_, Heap.get?_push_size _ rfl, rfl, rfl⟩ q)

theorem enum_len : ∀ (n : Nat) (ds : List D), (enumD n ds).length = ds.length
  | _, [] => rfl
  | n, d :: ds => by simp [enumD, enum_len (n + 1) ds]
theorem enum_get : ∀ {n : Nat} {ds : List D} {i : Nat} {d : D}, ds[i]? = some d → (enumD n ds)[i]? = some (.tup [.int ((n + i : Nat) : Int), d])
  | n, d :: ds, 0, _, e => by
    simp at e
    subst e
    simp [enumD]
  | n, d :: ds, i + 1, _, e => by
    have := enum_get (n := n + 1) (ds := ds) (i := i) (by simpa using e)
    simp only [enumD, List.getElem?_cons_succ]
    rw [this]
    congr 5
    omega
section
variable {K : PySem.W.Frag} {cls : Nat → Addr × List Str} {N : Addr → Prop} {Hb : Hp}
/-- a new pair -/
theorem pair_new {H : Hp} {p : Addr} {u : T} {x y : V} {d e : D} {N' : Addr → Prop} (hp : H p = none) (fu : u.flat = true) (h1 : RepB K cls N' H u x d) (h2 : RepB K cls N' H u y e) : RepB K cls N' (upd H p (.tup [x, y])) (pairT u) (.ref p) (.tup [d, e]) := by
  have s := same_new (o := .tup [x, y]) hp
  unfold pairT
  split
  · rename_i e
    subst e
    exact .tup upd_same (.of (.cons (h1.mono s fun _ z => z) (.cons (h2.mono s fun _ z => z) .nil)))
  · exact .tup upd_same (.cons (h1.mono s fun _ z => z) (.cons (h2.mono s fun _ z => z) .nil))
theorem wk_enum {a : Addr} {vs : List V} {ds : List D} {t : T} (ft : t.flat = true) (h : Rd Hb a (.lst vs)) (p : Paired (RepB K cls N Hb t) vs ds) : Wk K cls (Ite K a) Hb N (pairT t) (enumD 0 ds) := by
  refine ⟨_, _, (enum_len 0 ds).symm ▸ pair_len p ▸ walk_enum (xs := vs), fun H e => .inl (rd_same e h), fun i H x H' hi e y => ?_⟩
  obtain ⟨T, x1, x2, rfl, hT, rfl, h1, h2⟩ := y
  rw [enum_len] at hi
  obtain ⟨d, hd⟩ : ∃ d, ds[i]? = some d := ⟨ds[i], by simp [hi]⟩
  obtain ⟨v, hv, r⟩ := pair_get p hd
  dsimp only at h1 h2
  rw [h2] at hv
  cases hv
  cases h1
  refine ⟨_, enum_get hd, same_new hT, ?_⟩
  rw [Nat.zero_add]
  have r' := r.mono (N' := fun a => N a ∨ H a = none) e fun a z => .inl z
  exact (pair_new hT ft (RepB.of_im (.int _)) r').mono (Same.refl _) fun _ z => z
theorem wk_zip {a b : Addr} {vs ws : List V} {ds es : List D} {t : T} (ft : t.flat = true) (h : Rd Hb a (.lst vs)) (p : Paired (RepB K cls N Hb t) vs ds) (h2 : Rd Hb b (.lst ws)) (p2 : Paired (RepB K cls N Hb t) ws es) : Wk K cls (Itz K a b) Hb N (pairT t) (List.zipWith (fun p q => D.tup [p, q]) ds es) := by
  have hl : (List.zipWith (fun p q => D.tup [p, q]) ds es).length = min vs.length ws.length := by rw [List.length_zipWith, pair_len p, pair_len p2]
  refine ⟨_, _, walk_zip hl, fun H e => ⟨.inl (rd_same e h), .inl (rd_same e h2)⟩, fun i H x H' hi e y => ?_⟩
  obtain ⟨T, x1, x2, rfl, hT, rfl, h1, h2⟩ := y
  rw [hl, pair_len p, pair_len p2] at hi
  have i1 : i < ds.length := by omega
  have i2 : i < es.length := by omega
  obtain ⟨v, hv, r⟩ := pair_get p (show ds[i]? = some ds[i] by simp [i1])
  obtain ⟨w, hw, r2⟩ := pair_get p2 (show es[i]? = some es[i] by simp [i2])
  dsimp only at h1 h2
  rw [h1] at hv
  rw [h2] at hw
  cases hv
  cases hw
  refine ⟨.tup [ds[i], es[i]], ?_, same_new hT, ?_⟩
  · rw [List.getElem?_zipWith]
    simp [i1, i2]
  · exact pair_new hT ft (r.mono (N' := fun a => N a ∨ H a = none) e fun a z => .inl z) (r2.mono (N' := fun a => N a ∨ H a = none) e fun a z => .inl z)
theorem wk_enumG {k : SK} {v : V} {vs : List V} {ds : List D} {t : T} (ft : t.flat = true) (h : SrcK K Hb k v vs) (p : Paired (RepB K cls N Hb t) vs ds) : Wk K cls (IteG K k v) Hb N (pairT t) (enumD 0 ds) := by
  refine ⟨_, _, (enum_len 0 ds).symm ▸ pair_len p ▸ walk_enumG (xs := vs), fun H e => srcK_same e h, fun i H x H' hi e y => ?_⟩
  obtain ⟨T, x1, x2, rfl, hT, rfl, h1, h2⟩ := y
  rw [enum_len] at hi
  obtain ⟨d, hd⟩ : ∃ d, ds[i]? = some d := ⟨ds[i], by simp [hi]⟩
  obtain ⟨v, hv, r⟩ := pair_get p hd
  dsimp only at h1 h2
  rw [h2] at hv
  cases hv
  cases h1
  refine ⟨_, enum_get hd, same_new hT, ?_⟩
  rw [Nat.zero_add]
  have r' := r.mono (N' := fun a => N a ∨ H a = none) e fun a z => .inl z
  exact (pair_new hT ft (RepB.of_im (.int _)) r').mono (Same.refl _) fun _ z => z
theorem wk_zipG {k1 k2 : SK} {v1 v2 : V} {vs ws : List V} {ds es : List D} {t : T} (ft : t.flat = true) (h : SrcK K Hb k1 v1 vs) (p : Paired (RepB K cls N Hb t) vs ds) (h2 : SrcK K Hb k2 v2 ws) (p2 : Paired (RepB K cls N Hb t) ws es) : Wk K cls (ItzG K k1 v1 k2 v2) Hb N (pairT t) (List.zipWith (fun p q => D.tup [p, q]) ds es) := by
  have hl : (List.zipWith (fun p q => D.tup [p, q]) ds es).length = min vs.length ws.length := by rw [List.length_zipWith, pair_len p, pair_len p2]
  refine ⟨_, _, walk_zipG hl, fun H e => ⟨srcK_same e h, srcK_same e h2⟩, fun i H x H' hi e y => ?_⟩
  obtain ⟨T, x1, x2, rfl, hT, rfl, h1, h2⟩ := y
  rw [hl, pair_len p, pair_len p2] at hi
  have i1 : i < ds.length := by omega
  have i2 : i < es.length := by omega
  obtain ⟨v, hv, r⟩ := pair_get p (show ds[i]? = some ds[i] by simp [i1])
  obtain ⟨w, hw, r2⟩ := pair_get p2 (show es[i]? = some es[i] by simp [i2])
  dsimp only at h1 h2
  rw [h1] at hv
  rw [h2] at hw
  cases hv
  cases hw
  refine ⟨.tup [ds[i], es[i]], ?_, same_new hT, ?_⟩
  · rw [List.getElem?_zipWith]
    simp [i1, i2]
  · exact pair_new hT ft (r.mono (N' := fun a => N a ∨ H a = none) e fun a z => .inl z) (r2.mono (N' := fun a => N a ∨ H a = none) e fun a z => .inl z)
theorem pair_str {P : V → D → Prop} (hp : ∀ x, P (.str x) (.str x)) : ∀ l : List Nat, Paired P (l.map fun c => V.str ⟨#[c]⟩) (l.map fun c => D.str ⟨#[c]⟩)
  | [] => .nil
  | c :: l => .cons (hp _) (pair_str hp l)
/-- what is walked lies there -/
theorem src_of {H : Hp} {t : T} (f : t.flat = true) {v : V} {d : D} {R : List D → Prop} (h : RepB K cls N H t v d) (hd : itD d R) : ∃ k vs ds, SrcK K H k v vs ∧ Paired (RepB K cls N H t.el) vs ds ∧ R ds ∧ ∀ Hb, Keep N H Hb → SrcK K Hb k v vs := by
  cases d <;> try exact hd.elim
  case str z =>
    obtain rfl := rep_str h.rep
    exact ⟨.s, ch1 z, _, ⟨z, rfl, rfl⟩, pair_str (fun x => RepB.of_im (.str x)) _, hd, fun _ _ => ⟨z, rfl, rfl⟩⟩
  case tup ds =>
    obtain ⟨a, vs, rfl, q, p⟩ := repB_tup f h
    exact ⟨.t, vs, ds, ⟨a, rfl, q⟩, p, hd, fun _ e => ⟨a, rfl, e.sqT q⟩⟩
  case lst ds =>
    obtain ⟨a, vs, rfl, n, q, p⟩ := repB_lst f h
    exact ⟨.l, vs, ds, ⟨a, rfl, .inl q⟩, p, hd, fun _ e => ⟨a, rfl, .inl (e.rd n q)⟩⟩
theorem rev_get {α : Type} {xs : List α} {i : Nat} (h : i < xs.length) : xs.reverse[i]? = xs[xs.length - 1 - i]? := by
  rw [List.getElem?_reverse h]
theorem wk_rev {a : Addr} {vs : List V} {ds : List D} {t : T} (h : Rd Hb a (.lst vs)) (p : Paired (RepB K cls N Hb t) vs ds) : Wk K cls (Itv K a vs.length) Hb N t ds.reverse := by
  have hl : ds.reverse.length = vs.length := by rw [List.length_reverse, pair_len p]
  refine ⟨fun H => SqL K H a vs, fun i H x H' => H' = H ∧ vs[vs.length - 1 - i]? = some x, by rw [hl]; exact walk_rev (xs := vs), fun H e => .inl (rd_same e h), fun i H x H' hi e y => ?_⟩
  obtain ⟨rfl, hx⟩ := y
  have hi' : i < ds.length := by simpa using hi
  obtain ⟨d, hd⟩ : ∃ d, ds[ds.length - 1 - i]? = some d := ⟨ds[ds.length - 1 - i]'(by omega), List.getElem?_eq_getElem (by omega)⟩
  obtain ⟨v, hv, r⟩ := pair_get p hd
  rw [pair_len p] at hx
  rw [hx] at hv
  cases hv
  exact ⟨d, by rw [rev_get hi']; exact hd, Same.refl _, r.mono e fun a z => .inl z⟩
theorem wk_revT {a : Addr} {vs : List V} {ds : List D} {t : T} (h : SqT K Hb a vs) (p : Paired (RepB K cls N Hb t) vs ds) : Wk K cls (RT.ItvT K a vs.length) Hb N t ds.reverse := by
  have hl : ds.reverse.length = vs.length := by rw [List.length_reverse, pair_len p]
  refine ⟨fun H => SqT K H a vs, fun i H x H' => H' = H ∧ vs[vs.length - 1 - i]? = some x, by rw [hl]; exact ⟨fun i _ hi q => ⟨hi, vs, vs[vs.length - 1 - i]'(by omega), q, by simp [show vs.length - 1 - i < vs.length by omega]⟩, fun _ _ => Nat.le_refl _, fun _ _ _ _ _ q y => ⟨y.1, y.2 vs q⟩⟩, fun H e => sqT_same e h, fun i H x H' hi e y => ?_⟩
  obtain ⟨rfl, hx⟩ := y
  have hi' : i < ds.length := by simpa using hi
  obtain ⟨d, hd⟩ : ∃ d, ds[ds.length - 1 - i]? = some d := ⟨ds[ds.length - 1 - i]'(by omega), List.getElem?_eq_getElem (by omega)⟩
  obtain ⟨v, hv, r⟩ := pair_get p hd
  rw [pair_len p] at hx
  rw [hx] at hv
  cases hv
  exact ⟨d, by rw [rev_get hi']; exact hd, Same.refl _, r.mono e fun a z => .inl z⟩
end
/-! ### targets -/
section
variable {X : Cx} {N : List Str} {sc : Scope}
def LocP (sc : Scope) (X : Cx) : Prop := ∀ x, locB sc x = true → L2.Loc X.env.scope x ∧ (X.fn x = true ∨ X.env.scope.names.lookup x = some .local)
theorem Good.locP {G : Glob} {k : Nat} (g : Good G k N sc X) (f : FnC sc X) : LocP sc X := fun x h => by
  have l := loc_of h
  rw [g.hsc]
  refine ⟨l, ?_⟩
  rcases l with l | l
  · exact .inr l
  · exact .inl (f x l)
def gNms : List Nat → TGs
  | [] => gNil
  | i :: is => gCons (gName i) (gNms is)
theorem pg_names (hN : X.N = N) (nd : N.Nodup) (lp : LocP sc X) : ∀ {is : List Nat} {xs : List Expr}, mG.go N is sc xs = true → PGs X xs (gNms is) ∧ (assignEach xs X.env).length = is.length ∧ (assignEach xs X.env).findIdx? (·.1) = none
  | [], [], _ => ⟨pgs_nil, rfl, rfl⟩
  | i :: is, x :: xs, h => by
    cases x with
    | Name x p =>
      unfold mG.go at h
      simp only [Bool.and_eq_true, decide_eq_true_eq] at h
      obtain ⟨⟨hNi, hl⟩, hr⟩ := h
      obtain ⟨l, f⟩ := lp x hl
      obtain ⟨a1, a2, a3⟩ := pg_names hN nd lp hr
      refine ⟨pgs_cons (pg_name (by rw [hN]; exact nd) (by rw [hN]; exact hNi) l f) a1, ?_, ?_⟩
      · show (assignEach xs X.env).length + 1 = is.length + 1
        rw [a2]
      · show ((false, assign (.Name x p) X.env) :: assignEach xs X.env).findIdx? (·.1) = none
        rw [List.findIdx?_cons]
        simp [a3]
    | _ => unfold mG.go at h; cases h
  | [], _ :: _, h => by unfold mG.go at h; cases h
  | _ :: _, [], h => by unfold mG.go at h; cases h
def tgG (K : PySem.W.Frag) : TG0 → TG
  | .nm i => gName i
  | .tp is => gTup K is.length (gNms is)
theorem pg_tg (hN : X.N = N) (nd : N.Nodup) (hc : X.calm = true) (lp : LocP sc X) {g : TG0} {tg : Expr} (h : mG N g sc tg = true) : PG X tg (tgG X.K g) := by
  cases g with
  | nm i =>
    cases tg with
    | Name x p =>
      have h' : (decide (N[i]? = some x) && locB sc x) = true := h
      simp only [Bool.and_eq_true, decide_eq_true_eq] at h'
      obtain ⟨l, f⟩ := lp _ h'.2
      exact pg_name (by rw [hN]; exact nd) (by rw [hN]; exact h'.1) l f
    | _ => cases h
  | tp is =>
    cases tg with
    | Tuple xs k p =>
      have h' : mG.go N is sc xs = true := h
      obtain ⟨a1, a2, a3⟩ := pg_names hN nd lp h'
      exact pg_tup hc a1 a2 a3
    | _ => cases h
theorem tg_tuple {g : TG0} {tg : Expr} (h : mG N g sc tg = true) (ht : isTp g = true) : ∃ es k p, tg = .Tuple es k p := by
  cases g with
  | nm i => cases ht
  | tp is =>
    cases tg with
    | Tuple xs k p => exact ⟨_, _, _, rfl⟩
    | _ => cases h
end
/-! ### what is walked, from its parts -/
def SE (G : Glob) (k : Nat) (N : List Str) (c : CE) : Prop := ∀ {sc : Scope} {X : Cx}, Good G k N sc X → ∀ {Γ : List T} {L : Nat → Addr → Prop} {e : Expr} {t : T} {A : List Nat}, mE N (names G) false c sc e = true → cE G.fns false Γ c = some (t, A) → PE X e (tS G (Cw (FTof G.fns) k) Γ L c t A)
def Kids (G : Glob) (k : Nat) (N : List Str) : CE → Prop
  | .rng1 a => SE G k N a
  | .rng2 a b => SE G k N a ∧ SE G k N b
  | .rng3 a b c => SE G k N a ∧ SE G k N b ∧ SE G k N c
  | .ien a => SE G k N a
  | .izp a b => SE G k N a ∧ SE G k N b
  | .irv a => SE G k N a
  | .irr a => SE G k N a
  | .ikd a => SE G k N a
  | _ => True
theorem tl2 {K : PySem.W.Frag} {cls : Nat → Addr × List Str} {N : Addr → Prop} {H : Hp} {t : T} : ∀ {vs : List V} {ds : List D} {F : List Addr}, ReTs K cls N H t vs ds F → vs.length = ds.length
  | _, _, _, .nil => rfl
  | _, _, _, .cons _ r => by rw [List.length_cons, List.length_cons, tl2 r]
/-- the keys of a dict that nobody else has: it is locked for good -/
def iKeysF (td : TE) : TI := fun σ H R => td σ H fun x H1 => ∃ d, x = .ref d ∧ ((∃ kvs, H1 d = some (.dK kvs) ∧ ∀ o, R (Itk d o kvs) (upd H1 d (.frz o (.dK kvs)))) ∨ ∃ kvs, H1 d = some (.dT kvs) ∧ ∀ o, R (Itkt d o kvs) (upd H1 d (.frz o (.dT kvs))))
theorem pi_keysF {X : Cx} {tg e : Expr} {td : TE} (mt : MonE td) (he : PE X e td) : PI X tg e (iKeysF td) := by
  have lk : PE X e (fun σ H Q => td σ H fun x H1 => ∃ d, x = .ref d ∧ ((∃ kvs, H1 d = some (.dK kvs) ∧ ∀ o, Q x (upd H1 d (.frz o (.dK kvs)))) ∨ ∃ kvs, H1 d = some (.dT kvs) ∧ ∀ o, Q x (upd H1 d (.frz o (.dT kvs))))) := by
    refine ⟨fun pins s σ H Q I h => thn (he.run pins s σ H _ I h) fun u s1 ⟨x, H1, I1, rx, d, ex, q⟩ => ?_⟩
    rcases q with ⟨kvs, hd, q⟩ | ⟨kvs, hd, q⟩
    · obtain ⟨od, I2⟩ := I1.lock hd trivial
      exact ⟨x, _, I2, rx, q od⟩
    · obtain ⟨od, I2⟩ := I1.lock hd trivial
      exact ⟨x, _, I2, rx, q od⟩
  refine (pi_keys lk).sub fun σ H R h => mt _ _ _ _ (fun x H1 ⟨d, ex, q⟩ => ⟨d, ex, ?_⟩) h
  rcases q with ⟨kvs, hd, q⟩ | ⟨kvs, hd, q⟩
  · exact .inl ⟨kvs, hd, fun o => ⟨d, o, ex, .inl ⟨kvs, upd_same, q o⟩⟩⟩
  · exact .inr ⟨kvs, hd, fun o => ⟨d, o, ex, .inr ⟨kvs, upd_same, q o⟩⟩⟩
theorem rep_key {K : PySem.W.Frag} {cls : Nat → Addr × List Str} {N : Addr → Prop} {H : Hp} : ∀ k : Key, Rep K cls N H (kV k) (D.ofKey k)
  | .inl i => .int i
  | .inr s => .str s
theorem reps_keys {K : PySem.W.Frag} {cls : Nat → Addr × List Str} {N : Addr → Prop} {H : Hp} : ∀ k : List Key, Reps K cls N H (k.map kV) (k.map D.ofKey)
  | [] => .nil
  | k :: ks => .cons (rep_key k) (reps_keys ks)
theorem zip_keys {κ : Type} {f : κ → D} {l : List κ} {ds : List D} (h : l.length = ds.length) : ((l.zip ds).map fun kv => f kv.1) = l.map f := by
  have : ((l.zip ds).map fun kv => f kv.1) = ((l.zip ds).map Prod.fst).map f := by rw [List.map_map]; rfl
  rw [this, List.map_fst_zip (by omega)]
theorem wk_keys {K : PySem.W.Frag} {cls : Nat → Addr × List Str} {N : Addr → Prop} {Hb : Hp} {d : Addr} {o : Obj} {kvs : List (Key × V)} (h : Hb d = some (.frz o (.dK kvs))) : Wk K cls (Itk d o kvs) Hb N .im ((kvs.map (·.1)).map D.ofKey) := by
  refine ⟨_, _, by rw [List.length_map, List.length_map]; exact walk_keys, fun H e => e _ _ h, fun i H x H' hi e y => ?_⟩
  obtain ⟨rfl, k, v, hk, rfl⟩ := y
  exact ⟨D.ofKey k, by rw [List.getElem?_map, List.getElem?_map, hk]; rfl, Same.refl _, rep_key k⟩
theorem wk_keysT {K : PySem.W.Frag} {cls : Nat → Addr × List Str} {N : Addr → Prop} {Hb : Hp} {d : Addr} {o : Obj} {kvs : List (List Key × V)} (h : Hb d = some (.frz o (.dT kvs))) : Wk K cls (Itkt d o kvs) Hb N .im ((kvs.map (·.1)).map fun k => D.tup (k.map D.ofKey)) := by
  refine ⟨_, _, by rw [List.length_map, List.length_map]; exact walk_keysT, fun H e => e _ _ h, fun i H x H' hi e y => ?_⟩
  obtain ⟨rfl, k, v, q, hk, rfl, hq⟩ := y
  exact ⟨.tup (k.map D.ofKey), by rw [List.getElem?_map, List.getElem?_map, hk]; rfl, Same.refl _, .tup hq (reps_keys k)⟩
theorem mE_w {N : List Str} {fns : Nm} {c : CE} {sc : Scope} {e : Expr} (h : isIt c = false) : mE N fns true c sc e = mE N fns false c sc e := by
  cases c <;> first | (unfold mE; rfl) | cases h
theorem cE_w {fns : List FnI} {Γ : List T} {c : CE} (h : isIt c = false) : cE fns true Γ c = cE fns false Γ c := by
  cases c <;> first | (unfold cE; rfl) | cases h
section
variable {G : Glob} {k : Nat} {N : List Str} {Γ : List T} {L : Nat → Addr → Prop} {sc : Scope} {X : Cx} {tg : Expr}
theorem sI_any (g : Good G k N sc X) {c : CE} {e : Expr} {t : T} {A : List Nat} (h : PE X e (tS G (Cw (FTof G.fns) k) Γ L c t A)) :
    PI X tg e (tI G (Cw (FTof G.fns) k) Γ L c t.bor.el A) := by
  refine (pi_any h).sub fun σ H R ⟨env, Q, er, hE, kk⟩ => ⟨env, _, er, hE, fun v H' d s' rs hd => ?_⟩
  have rb := rs.bor (Same.refl _)
  cases d <;> try exact hd.elim
  case str z =>
    obtain rfl := rep_str rb.rep
    exact .inr (.inr ⟨z, rfl, kk _ _ _ s' (fun Hb _ => wk_str) hd⟩)
  case tup ds =>
    obtain ⟨a, vs, rfl, q, p⟩ := repB_tup (flat_bor t) rb
    exact .inr (.inl ⟨a, vs, rfl, by rw [g.hK]; exact q, by rw [g.hK]; exact kk _ _ _ s' (fun Hb e => wk_tup (e.sqT q) (pimp p fun _ _ z => (z.keep e).dom)) hd⟩)
  case lst ds =>
    obtain ⟨a, vs, rfl, n, q, p⟩ := repB_lst (flat_bor t) rb
    exact .inl ⟨a, vs, rfl, .inl q, by rw [g.hK]; exact kk _ _ _ s' (fun Hb e => wk_lst (e.rd n q) (pimp p fun _ _ z => (z.keep e).dom)) hd⟩
theorem var_pe0 (g : Good G k N sc X) {i : Nat} {fns : Nm} {e : Expr} (hm : mE N fns false (.var i) sc e = true) : PE X e (tVar i) := by
  unfold mE at hm
  split at hm
  · simp only [Bool.and_eq_true, decide_eq_true_eq] at hm
    obtain ⟨⟨hN, hv⟩, hn⟩ := hm
    exact pe_var (by rw [g.hN]; exact hN) (by rw [g.hsc]; exact vis_of hv) (nm_of hn).1 (nm_of hn).2.1
  · cases hm
theorem sI_ikv (g : Good G k N sc X) {x : Nat} {e : Expr} {t : T} {A : List Nat} (hm : mE N (names G) true (.ikd (.var x)) sc e = true) (hc : cE G.fns true Γ (.ikd (.var x)) = some (t, A)) :
    PI X tg e (fun σ H R => FrzC (.ikd (.var x)) σ H ∧ tI G (Cw (FTof G.fns) k) Γ L (.ikd (.var x)) (itT (.ikd (.var x)) t) A σ H R) := by
  unfold mE at hm
  rw [Bool.and_eq_true] at hm
  refine (pi_keys (var_pe0 g hm.2)).sub fun σ H R ⟨⟨d, o, u, hσ, hd, du⟩, env, Q, er, hE, kk⟩ => ?_
  have ht : t = .im ∧ ∃ tx, Γ[x]? = some tx ∧ A = if tx = .im then [] else [x] := by
    unfold cE cE at hc
    split at hc
    · rename_i q
      split at q
      · rename_i tx hx
        simp only [Option.some.injEq, Prod.mk.injEq] at q
        cases tx <;> cases q.1
      · cases q
    · rename_i A' _ q
      split at q
      · rename_i tx hx
        simp only [Option.some.injEq, Prod.mk.injEq] at q
        rw [if_pos (show isV (.var x) = true from rfl)] at hc
        cases hc
        exact ⟨rfl, tx, hx, q.2.symm⟩
      · cases q
    · cases hc
  obtain ⟨rfl, tx, hx, rfl⟩ := ht
  refine ⟨_, hσ, d, o, rfl, ?_⟩
  unfold It E E at hE
  split at hE
  · rename_i dd e0
    obtain ⟨v, t', e1, e2, rb⟩ := er.2.2 x dd e0
    rw [hσ] at e1
    cases e1
    rw [hx] at e2
    cases e2
    have rp := rb.rep
    have nim : ∀ a, L x a → NA L H (if tx = .im then [] else [x]) a := fun a z => by
      by_cases q : tx = .im
      · subst q
        have rb' : Rep G.K G.cls N0 H (.ref d) dd := rb
        cases dd <;> try exact hE.elim
        · cases rb' with | dK n _ _ => exact n.elim
        · cases rb' with | dT n _ _ => exact n.elim
      · rw [if_neg q]
        exact .inl ⟨x, by simp, z⟩
    cases dd <;> try exact hE.elim
    · cases rp with
      | dK n r p =>
        rename_i kvs ds
        have eu := rd_dic du (fun _ _ z => by cases z) (.inr ⟨o, hd⟩) r
        subst eu
        refine .inl ⟨kvs, hd, kk _ _ _ (Same.refl _) (fun Hb ke => wk_keys (ke _ _ hd fun _ => nim _ n)) ?_⟩
        have hl := p.length
        rw [← zip_keys (f := D.ofKey) (by rw [List.length_map] at hl ⊢; exact hl)]
        exact hE
    · cases rp with
      | dT n r p =>
        rename_i kvs ds
        have eu := rd_dic du (fun _ _ z => by cases z) (.inr ⟨o, hd⟩) r
        subst eu
        refine .inr ⟨kvs, hd, kk _ _ _ (Same.refl _) (fun Hb ke => wk_keysT (ke _ _ hd fun _ => nim _ n)) ?_⟩
        have hl := p.length
        rw [← zip_keys (f := fun k : List Key => D.tup (k.map D.ofKey)) (by rw [List.length_map] at hl ⊢; exact hl)]
        exact hE
  · exact hE.elim
theorem sI_of (g : Good G k N sc X) {c : CE} (hs : SE G k N c) (hk : Kids G k N c) {e : Expr} {t : T} {A : List Nat} (hb : (isIt c || plainB e) = true) (hp : pairIt c = true → ∃ es k p, tg = .Tuple es k p) (hm : mE N (names G) true c sc e = true) (hc : cE G.fns true Γ c = some (t, A)) : PI X tg e (fun σ H R => FrzC c σ H ∧ tI G (Cw (FTof G.fns) k) Γ L c (itT c t) A σ H R) := by
  by_cases hv : ∃ x, c = .ikd (.var x)
  · obtain ⟨x, rfl⟩ := hv
    exact sI_ikv g hm hc
  refine (?_ : PI X tg e (tI G (Cw (FTof G.fns) k) Γ L c (itT c t) A)).sub fun σ H R h => h.2
  cases hi : isIt c with
  | false =>
    rw [mE_w hi] at hm
    rw [cE_w hi] at hc
    have := sI_any (tg := tg) g (hs g (L := L) hm hc)
    unfold itT
    rw [hi]
    exact this
  | true =>
    have et : itT c t = t := by unfold itT; rw [if_pos hi]
    rw [et]
    cases c with
    | rng1 a =>
      unfold mE at hm
      split at hm
      · rename_i x sh
        obtain ⟨p, pos, rfl, gl, pl⟩ := asB1_of sh
        unfold cE at hc
        split at hc
        · rename_i r ha
          obtain ⟨u, B⟩ := r
          cases hc
          refine (pi_range1 (g.gl gl) (g.nob (by decide +kernel)) (pa_cons (hk g (Γ := Γ) (L := L) hm ha) pa_nil (plain_star pl)) (plain_star pl)).sub fun σ H R ⟨env, Q, er, hE, kk⟩ => ?_
          unfold It E at hE
          refine ⟨env, _, er, hE, fun v H' d s' rs hd => ?_⟩
          cases d <;> try exact hd.elim
          rename_i n
          obtain rfl := rep_int (rs.bor (Same.refl _)).rep
          exact ⟨n, rfl, hd.1.1, hd.1.2, kk _ _ _ s' (fun Hb _ => wk_rng 0 n.toNat) hd.2⟩
        · cases hc
      · cases hm
    | rng2 a b =>
      unfold mE at hm
      split at hm
      · rename_i x y sh
        obtain ⟨p, pos, rfl, gl, pl, pl2⟩ := asB2_of sh
        rw [Bool.and_eq_true] at hm
        unfold cE at hc
        split at hc
        · rename_i r1 r2 ha hb
          obtain ⟨u, B⟩ := r1
          obtain ⟨u2, B2⟩ := r2
          cases hc
          refine (pi_range2 (g.gl gl) (g.nob (by decide +kernel)) (pa_cons (hk.1 g (Γ := Γ) (L := L) hm.1 ha) (pa_cons (hk.2 g (Γ := Γ) (L := L) hm.2 hb) pa_nil (plain_star pl2)) (plain_star pl)) (by rw [plain_star pl, plain_star pl2]; rfl) (plain_star pl2)).sub fun σ H R ⟨env, Q, er, hE, kk⟩ => ?_
          unfold It E at hE
          refine ⟨env, _, er, hE, fun v H' d s' rs hd => ⟨env, _, er.mono s', hd, fun v2 H2 d2 s2 rs2 hd => ?_⟩⟩
          cases d <;> try exact hd.elim
          cases d2 <;> try exact hd.elim
          rename_i n _ m
          obtain rfl := rep_int (rs.bor (Same.refl _)).rep
          obtain rfl := rep_int (rs2.bor (Same.refl _)).rep
          exact ⟨n, m, rfl, ⟨hd.1.1.1, hd.1.1.2, hd.1.2⟩, kk _ _ _ (s'.trans s2) (fun Hb _ => wk_rng n (m - n).toNat) hd.2⟩
        · cases hc
      · cases hm
    | rng3 a b c =>
      unfold mE at hm
      split at hm
      · rename_i x y z sh
        obtain ⟨p, pos, rfl, gl, pl, pl2, pl3⟩ := asB3_of sh
        simp only [Bool.and_eq_true] at hm
        unfold cE at hc
        split at hc
        · rename_i r1 r2 r3 ha hb hc3
          obtain ⟨u, B⟩ := r1
          obtain ⟨u2, B2⟩ := r2
          obtain ⟨u3, B3⟩ := r3
          cases hc
          have sa : (backTo pos (starEach [y, z] X.env)).any (·.1) = false := by rw [plain_star pl2, plain_star pl3]; rfl
          refine (pi_range3 (g.gl gl) (g.nob (by decide +kernel)) (pa_cons (hk.1 g (Γ := Γ) (L := L) hm.1.1 ha) (pa_cons (hk.2.1 g (Γ := Γ) (L := L) hm.1.2 hb) (pa_cons (hk.2.2 g (Γ := Γ) (L := L) hm.2 hc3) pa_nil (plain_star pl3)) (plain_star pl2)) (plain_star pl)) (plain_star pl) sa).sub fun σ H R ⟨env, Q, er, hE, kk⟩ => ?_
          unfold It E at hE
          refine ⟨env, _, er, hE, fun v H' d s' rs hd => ⟨env, _, er.mono s', hd, fun v2 H2 d2 s2 rs2 hd => ⟨env, _, (er.mono s').mono s2, hd, fun v3 H3 d3 s3 rs3 hd => ?_⟩⟩⟩
          cases d <;> try exact hd.elim
          cases d2 <;> try exact hd.elim
          cases d3 <;> try exact hd.elim
          rename_i n _ m _ c
          obtain rfl := rep_int (rs.bor (Same.refl _)).rep
          obtain rfl := rep_int (rs2.bor (Same.refl _)).rep
          obtain rfl := rep_int (rs3.bor (Same.refl _)).rep
          obtain ⟨q, rg, hd⟩ := hd
          exact ⟨n, m, c, q, rfl, rg, kk _ _ _ ((s'.trans s2).trans s3) (fun Hb _ => wk_rngC n c q) hd⟩
        · cases hc
      · cases hm
    | ien a =>
      obtain ⟨es, kk0, tp, rfl⟩ := hp rfl
      unfold mE at hm
      split at hm
      · rename_i x sh
        obtain ⟨p, pos, rfl, gl, pl⟩ := asB1_of sh
        unfold cE at hc
        split at hc
        · rename_i u B ha
          cases hc
          refine (pi_enumG (g.gl gl) (g.nob (by decide +kernel)) (pa_cons (hk g (Γ := Γ) (L := L) hm ha) pa_nil (plain_star pl)) (plain_star pl)).sub fun σ H R ⟨env, Q, er, hE, kk⟩ => ?_
          unfold It E at hE
          refine ⟨env, _, er, hE, fun v H' d s' rs hd => ?_⟩
          obtain ⟨k, vs, ds, hs, p, hd, keep⟩ := src_of (flat_bor _) (rs.bor (Same.refl _)) hd
          refine ⟨k, v, vs, rfl, by rw [g.hK]; exact hs, ?_⟩
          rw [g.hK]
          exact kk _ _ _ s' (fun Hb e => wk_enumG (el_flat0 (flat_bor _)) (keep Hb e) (pimp p fun _ _ z => (z.keep e).dom)) hd
        · cases hc
      · cases hm
    | izp a b =>
      obtain ⟨es, kk0, tp, rfl⟩ := hp rfl
      unfold mE at hm
      split at hm
      · rename_i x y sh
        obtain ⟨p, pos, rfl, gl, pl, pl2⟩ := asB2_of sh
        rw [Bool.and_eq_true] at hm
        unfold cE at hc
        split at hc
        · rename_i u B u2 B2 ha hb
          split at hc
          · rename_i hl
            simp only [Bool.and_eq_true] at hl
            cases hc
            refine (pi_zipG (g.gl gl) (g.nob (by decide +kernel)) (pa_cons (hk.1 g (Γ := Γ) (L := L) hm.1 ha) (pa_cons (hk.2 g (Γ := Γ) (L := L) hm.2 hb) pa_nil (plain_star pl2)) (plain_star pl)) (plain_star pl) (by rw [plain_star pl2]; rfl)).sub fun σ H R ⟨env, Q, er, hE, kk⟩ => ?_
            unfold It E at hE
            refine ⟨env, _, er, hE, fun v H' d s' rs hd => ⟨env, _, er.mono s', hd, fun v2 H2 d2 s2 rs2 hd => ?_⟩⟩
            obtain ⟨k1, vs, ds1, hs1, p, hd, keep1⟩ := src_of (flat_bor _) ((rs.bor s2).mono (N' := NA L H (B ++ B2)) (Same.refl _) (NA.mono fun i z => by simp [z])) hd
            obtain ⟨k2, ws, ds2, hs2, p2, hd, keep2⟩ := src_of (flat_bor _) ((rs2.bor (Same.refl _)).mono (N' := NA L H (B ++ B2)) (Same.refl _) (fun a z => NA.mono (fun i z => by simp [z]) a (NA.old s' a z))) hd
            refine ⟨k1, v, vs, k2, v2, ws, rfl, by rw [g.hK]; exact hs1, by rw [g.hK]; exact hs2, ?_⟩
            rw [g.hK]
            exact kk _ _ _ (s'.trans s2) (fun Hb e => wk_zipG hl.2 (keep1 Hb e) (pimp p fun _ _ z => ((z.le hl.1.1).keep e).dom) (keep2 Hb e) (pimp p2 fun _ _ z => ((z.le hl.1.2).keep e).dom)) hd
          · cases hc
        · cases hc
      · cases hm
    | ikd a =>
      unfold mE at hm
      rw [Bool.and_eq_true] at hm
      unfold cE at hc
      split at hc
      rotate_left
      · split at hc
        · rename_i hva
          cases a <;> first | exact absurd ⟨_, rfl⟩ hv | cases hva
        · cases hc
      · cases hc
      · rename_i u B ha
        cases hc
        refine (pi_keysF tS_mon (hk g (Γ := Γ) (L := L) hm.2 ha)).sub fun σ H R ⟨env, Q, er, hE, kk⟩ => ?_
        unfold It E at hE
        refine ⟨env, _, er, hE, fun v H' d s' rs hd => ?_⟩
        obtain ⟨F, nd, fr, r⟩ := rs
        cases d <;> try exact hd.elim
        case dicK ks =>
          cases r with
          | bo f _ => cases f
          | owx h => cases h with | dK n _ _ => exact n.elim
          | owK e rr =>
            have hp := fr _ List.mem_cons_self
            refine ⟨_, rfl, .inl ⟨_, e.1, fun o => ?_⟩⟩
            refine kk _ _ _ (fun b w q => by rw [upd_ne (ne_of_none q hp)]; exact s' b w q) (fun Hb ke => wk_keys (ke _ _ upd_same fun _ => .inr hp)) ?_
            have hl := tl2 rr
            rw [← zip_keys (f := D.ofKey) (by rw [List.length_map] at hl ⊢; exact hl)]
            exact hd
        case dicT ks =>
          cases r with
          | bo f _ => cases f
          | owx h => cases h with | dT n _ _ => exact n.elim
          | owT e rr =>
            have hp := fr _ List.mem_cons_self
            refine ⟨_, rfl, .inr ⟨_, e.1, fun o => ?_⟩⟩
            refine kk _ _ _ (fun b w q => by rw [upd_ne (ne_of_none q hp)]; exact s' b w q) (fun Hb ke => wk_keysT (ke _ _ upd_same fun _ => .inr hp)) ?_
            have hl := tl2 rr
            rw [← zip_keys (f := fun k : List Key => D.tup (k.map D.ofKey)) (by rw [List.length_map] at hl ⊢; exact hl)]
            exact hd
    | irr a =>
      unfold mE at hm
      split at hm
      · rename_i x sh
        split at hm
        · rename_i y sh2
          obtain ⟨p, pos, rfl, gl, pl⟩ := asB1_of sh
          obtain ⟨p', pos', rfl, gl', pl'⟩ := asB1_of sh2
          unfold cE at hc
          split at hc
          · rename_i r1 ha
            obtain ⟨ta, Aa⟩ := r1
            cases hc
            refine (pi_revR (g.gl gl) (g.nob (by decide +kernel)) (prg_1 (g.gl gl') (g.nob (by decide +kernel)) (hk g (Γ := Γ) (L := L) hm ha) (plain_star pl')) (plain_star pl)).sub fun σ H R ⟨env, Q, er, hE, kk⟩ => ?_
            unfold It E at hE
            refine ⟨env, _, er, hE, fun v H' d s' rs hd => ?_⟩
            cases d <;> try exact hd.elim
            rename_i n
            obtain rfl := rep_int (rs.bor (Same.refl _)).rep
            refine ⟨n, rfl, by decide, by decide, hd.1.1, hd.1.2, ?_⟩
            rw [Int.sub_zero]
            exact kk _ _ _ s' (fun Hb _ => wk_rngR 0 n.toNat) hd.2
          · cases hc
        · cases hm
      · cases hm
    | irv a =>
      unfold mE at hm
      split at hm
      · rename_i x sh
        obtain ⟨p, pos, rfl, gl, pl⟩ := asB1_of sh
        unfold cE at hc
        split at hc
        · rename_i u B ha
          cases hc
          refine (RT.pi_revA (g.gl gl) (g.nob (by decide +kernel)) (hk g (Γ := Γ) (L := L) hm ha) (plain_star pl)).sub fun σ H R ⟨env, Q, er, hE, kk⟩ => ?_
          unfold It E at hE
          refine ⟨env, _, er, hE, fun v H' d s' rs hd => ?_⟩
          have rb := rs.bor (Same.refl _)
          cases d <;> try exact hd.elim
          case tup ds =>
            obtain ⟨a, vs, rfl, q, p⟩ := repB_tup (flat_bor _) rb
            exact ⟨a, vs, rfl, .inr ⟨by rw [g.hK]; exact q, by rw [g.hK]; exact kk _ _ _ s' (fun Hb e => wk_revT (e.sqT q) (pimp p fun _ _ z => (z.keep e).dom)) hd⟩⟩
          case lst ds =>
            obtain ⟨a, vs, rfl, n, q, p⟩ := repB_lst (flat_bor _) rb
            exact ⟨a, vs, rfl, .inl ⟨.inl q, by rw [g.hK]; exact kk _ _ _ s' (fun Hb e => wk_rev (e.rd n q) (pimp p fun _ _ z => (z.keep e).dom)) hd⟩⟩
        · cases hc
      · cases hm
    | _ => cases hi
end
end Pv

set_option maxRecDepth 100000
set_option maxHeartbeats 1000000
namespace Pv
open PySem L2
/-! ### comprehensions -/
theorem wipe_in {σ : St} {i : Nat} : ∀ {vs : List Nat}, i ∈ vs → i < σ.length → (wipe σ vs)[i]? = some none
  | [], h, _ => by simp at h
  | v :: vs, h, hl => by
    unfold wipe
    by_cases e : v = i
    · subst e
      rw [List.getElem?_set_self (by rw [wipe_length]; exact hl)]
    · rw [List.getElem?_set_ne e]
      rcases List.mem_cons.mp h with q | q
      · exact absurd q.symm e
      · exact wipe_in q hl
theorem wipe_set {σ : St} {i : Nat} {x : Option V} {vs : List Nat} (h : i ∈ vs) : wipe (σ.set i x) vs = wipe σ vs := by
  apply List.ext_getElem?
  intro j
  by_cases hj : j ∈ vs
  · by_cases hl : j < σ.length
    · rw [wipe_in hj hl, wipe_in hj (by simpa using hl)]
    · rw [List.getElem?_eq_none (by rw [wipe_length]; simpa using hl), List.getElem?_eq_none (by rw [wipe_length]; simpa using hl)]
  · rw [wipe_out hj, wipe_out hj, List.getElem?_set_ne (fun e => hj (by rw [← e]; exact h))]
theorem wipD_length (env : Env) : ∀ vs : List Nat, (wipD env vs).length = env.length
  | [] => rfl
  | v :: vs => by unfold wipD; rw [List.length_set, wipD_length env vs]
theorem wipD_some {env : Env} {i : Nat} {d : D} : ∀ {vs : List Nat}, (wipD env vs)[i]? = some (some d) → env[i]? = some (some d) ∧ i ∉ vs
  | [], h => ⟨h, by simp⟩
  | v :: vs, h => by
    unfold wipD at h
    by_cases hi : v = i
    · subst hi
      by_cases hv : v < (wipD env vs).length
      · rw [List.getElem?_set_self hv] at h; cases h
      · rw [List.getElem?_eq_none (by simpa using hv)] at h; cases h
    · rw [List.getElem?_set_ne hi] at h
      obtain ⟨h1, h2⟩ := wipD_some h
      exact ⟨h1, by simp only [List.mem_cons, not_or]; exact ⟨fun e => hi e.symm, h2⟩⟩
def Lown (own : List Nat) (P : Addr → Prop) (L : Nat → Addr → Prop) : Nat → Addr → Prop := fun i a => if i ∈ own then P a else L i a
section
variable {K : PySem.W.Frag} {cls : Nat → Addr × List Str} {Γ : List T} {L : Nat → Addr → Prop} {H H' : Hp} {σ : St} {env : Env}
theorem ER.wipe {own : List Nat} {P : Addr → Prop} (hP : ∀ a, P a → H a ≠ none) (h : ER K cls Γ L H σ env) : ER K cls Γ (Lown own P L) H (L2.wipe σ own) (wipD env own) := by
  obtain ⟨⟨h1, h2⟩, h3, h4⟩ := h
  refine ⟨⟨by rw [wipe_length, wipD_length, h1], by rw [wipD_length, h2]⟩, fun i a z => ?_, fun i d hd => ?_⟩
  · unfold Lown at z
    split at z
    · exact hP a z
    · exact h3 i a z
  · obtain ⟨e, n⟩ := wipD_some hd
    obtain ⟨v, t, q1, q2, q3⟩ := h4 i d e
    refine ⟨v, t, by rw [wipe_out n]; exact q1, q2, q3.mono (Same.refl _) fun a z => ?_⟩
    unfold Lown
    rw [if_neg n]
    exact z
theorem ER.put {own : List Nat} {P : Addr → Prop} {i : Nat} {t : T} {x : V} {d : D} (hi : i ∈ own) (ft : t.flat = true) (h : ER K cls Γ (Lown own P L) H σ env) (r : RepB K cls P H t x d) : ER K cls (Γ.set i t) (Lown own P L) H (σ.set i (some x)) (env.set i (some d)) := by
  obtain ⟨⟨h1, h2⟩, h3, h4⟩ := h
  refine ⟨⟨by simp [h1], by simp [h2]⟩, h3, fun j d' hd => ?_⟩
  by_cases e : i = j
  · subst e
    have hl : i < env.length := by
      have := (List.getElem?_eq_some_iff.mp hd).1
      simpa using this
    rw [List.getElem?_set_self hl] at hd
    cases hd
    refine ⟨x, t, by rw [List.getElem?_set_self (by omega)], by rw [List.getElem?_set_self (by omega)], ?_⟩
    rw [bor_flat t ft]
    refine r.mono (Same.refl _) fun a z => ?_
    unfold Lown
    rw [if_pos hi]
    exact z
  · rw [List.getElem?_set_ne e] at hd
    obtain ⟨v, u, q1, q2, q3⟩ := h4 j d' hd
    exact ⟨v, u, by rw [List.getElem?_set_ne e]; exact q1, by rw [List.getElem?_set_ne e]; exact q2, q3⟩
theorem ER.puts {own : List Nat} {P : Addr → Prop} {t : T} (ft : t.flat = true) : ∀ {is : List Nat} {vs : List V} {ds : List D} {Γ : List T} {σ : St} {env : Env}, (∀ i ∈ is, i ∈ own) → ER K cls Γ (Lown own P L) H σ env → Paired (RepB K cls P H t) vs ds → ds.length = is.length →
    ∀ {Q : St → Hp → Prop}, (∀ σ', L2.wipe σ' own = L2.wipe σ own → ER K cls (is.foldl (fun g i => g.set i t) Γ) (Lown own P L) H σ' (stor is ds env) → Q σ' H) → gNms is vs σ H Q
  | [], _, _, _, _, _, _, h, .nil, _, Q, k => ⟨rfl, k _ rfl h⟩
  | i :: is, _, _, _, _, _, hi, h, .cons a r, hl, Q, k => by
    refine ⟨_, _, rfl, ?_⟩
    refine ER.puts ft (fun j z => hi j (by simp [z])) (h.put (hi i (by simp)) ft a) r (by simpa using hl) fun σ' e => k σ' (e.trans (wipe_set (hi i (by simp))))
  | [], _, _, _, _, _, _, _, .cons _ _, hl, _, _ => by simp at hl
  | _ :: _, _, _, _, _, _, _, _, .nil, hl, _, _ => by simp at hl
theorem ER.tgt {own : List Nat} {P : Addr → Prop} {t : T} (ft : t.flat = true) {g : TG0} (hi : tgIn g own = true) (h : ER K cls Γ (Lown own P L) H σ env) {x : V} {d : D} (r : RepB K cls P H t x d) {Qe : Env → Prop} (hG : G0 g d env Qe)
    {Q : St → Hp → Prop} (k : ∀ σ' env', L2.wipe σ' own = L2.wipe σ own → ER K cls (tgT g t Γ) (Lown own P L) H σ' env' → Qe env' → Q σ' H) : tgG K g x σ H Q := by
  cases g with
  | nm i =>
    have hi' : i ∈ own := by simpa [tgIn] using hi
    exact k _ _ (wipe_set hi') (h.put hi' ft r) hG
  | tp is =>
    have hi' : ∀ i ∈ is, i ∈ own := by simpa [tgIn] using hi
    cases d <;> try exact hG.elim
    obtain ⟨a, vs, rfl, q, p⟩ := repB_tup ft r
    refine ⟨a, vs, rfl, q, by rw [pair_len p]; exact hG.1, ?_⟩
    exact ER.puts (el_flat0 ft) hi' h p hG.1 fun σ' e er => k σ' _ e er hG.2
theorem ReTs.app {N : Addr → Prop} {t : T} : ∀ {vs : List V} {ds : List D} {F : List Addr} {v : V} {d : D} {G : List Addr}, ReTs K cls N H t vs ds F → ReT K cls N H t v d G → ReTs K cls N H t (vs ++ [v]) (ds ++ [d]) (F ++ G)
  | _, _, _, _, _, G, .nil, h => by
    have := ReTs.cons h (ReTs.nil (H := H) (t := t) (N := N) (K := K) (cls := cls))
    simpa using this
  | _, _, _, _, _, G, .cons (F := F1) (G := G1) a r, h => by
    rw [List.append_assoc]
    exact .cons a (ReTs.app r h)
theorem ReTs.len {N : Addr → Prop} {t : T} : ∀ {vs : List V} {ds : List D} {F : List Addr}, ReTs K cls N H t vs ds F → vs.length = ds.length
  | _, _, _, .nil => rfl
  | _, _, _, .cons a r => by simp [ReTs.len r]
end
section
variable {G : Glob} {C : CallW} {Γ : List T} {L : Nat → Addr → Prop}
def tSx (G : Glob) (C : CallW) (Γ : List T) (c : CE) (t : T) (A : List Nat) : TE := fun σ H R => ∃ L : Nat → Addr → Prop, tS G C Γ L c t A σ H R
def tSTx (G : Glob) (C : CallW) (Γ : List T) (c : CE) : TT := fun σ H R => ∃ L : Nat → Addr → Prop, tST G C Γ L c σ H R
theorem comp_lc {own : List Nat} {g : TG0} {elt it c : CE} {ti te : T} {Ai Ae : List Nat} (ft : ti.flat = true) (hin : tgIn g own = true) {σ : St} {H : Hp} {R : VK}
    (h : tS G C Γ L (.comp own g elt it c) (.ow te) (ownA own te Ae Ai) σ H R) : tLc (tI G C Γ L it ti Ai) (tgG G.K g) (tSTx G C (tgT g ti Γ) c) (tSx G C (tgT g ti Γ) elt te Ae) own σ H R := by
  obtain ⟨env, Q, er, hE, kk⟩ := h
  unfold E at hE
  refine ⟨env, _, er, hE, fun J H1 ds s1 wk hc D hD => ?_⟩
  obtain ⟨Gp, Y, w, wg, wy⟩ := wk H1 fun b u e _ => e
  let step : Pv.D → (Option Pv.D → Prop) → Prop := fun d R => G0 g d (wipD env own) fun env2 => E C c env2 fun b => onB b (E C elt env2 fun y => R (some y)) (R none)
  let fin : List Pv.D → Prop := fun ys => Q (.lst ys)
  have hc' : cmpW step fin ds [] := hc
  refine lc_it w (fun i Hc => ∃ acc accd F, Hc D = some (.lst acc) ∧ D ∉ F ∧ F.Nodup ∧ (∀ a ∈ F, H1 a = none) ∧ ReTs G.K G.cls (fun a => NA L H (ownA own te Ae Ai) a ∧ a ∉ D :: F) Hc te acc accd F ∧ Same H1 Hc ∧ cmpW step fin (ds.drop i) accd) ?_ ?_ ?_ ?_
  · exact ⟨[], [], [], upd_same, by simp, .nil, fun _ z => absurd z (by simp), .nil, same_new hD, hc'⟩
  · intro i Hc _ ⟨_, _, _, _, _, _, _, _, sm, _⟩
    exact wg Hc sm
  · intro i x Hc H' hi ⟨acc, accd, F, hA, dF, nd, fF, rA, sm, hW⟩ y
    obtain ⟨d, hd, s2, rx⟩ := wy i Hc x H' hi sm y
    have hdr : ds.drop i = d :: ds.drop (i + 1) := by
      have hi' : i < ds.length := hi
      rw [List.drop_eq_getElem_cons hi']
      have : ds[i]? = some ds[i] := by simp [hi']
      rw [this] at hd
      cases hd
      rfl
    rw [hdr] at hW
    have sH : Same H Hc := s1.trans sm
    let P : Addr → Prop := fun a => ((NA L H Ai a ∧ H1 a ≠ none) ∨ Hc a = none) ∧ H' a ≠ none
    have er1 : ER G.K G.cls Γ (Lown own P L) H' (L2.wipe σ own) (wipD env own) := (er.mono (sH.trans s2)).wipe fun a z => z.2
    have rx' : RepB G.K G.cls P H' ti x d := rx.dom
    refine er1.tgt ft hin rx' hW fun σ2 env2 ew er2 hE2 => ⟨?_, ?_⟩
    · rw [ew, wipe_idem]
    refine ⟨Lown own P L, env2, _, _, er2, hE2, fun H3 s3 hP => iteT ?_, fun H3 s3 hP => iteF ?_⟩
    · refine ⟨Lown own P L, env2, _, er2.mono s3, hP, fun yv H4 dy s4 rs hK => ?_⟩
      obtain ⟨hlen, hK⟩ := hK
      obtain ⟨F1, nd1, fr1, r1⟩ := rs
      have s14 : Same Hc H4 := (s2.trans s3).trans s4
      have hD4 : H4 D = some (.lst acc) := s14 _ _ hA
      refine ⟨acc, hD4, by rw [rA.len]; exact hlen, acc ++ [yv], accd ++ [dy], F ++ F1, upd_same, ?_, ?_, ?_, ?_, ?_, hK⟩
      · intro z
        rcases List.mem_append.mp z with z | z
        · exact dF z
        · have := fr1 D z
          rw [(s2.trans s3) _ _ hA] at this
          cases this
      · refine List.nodup_append.mpr ⟨nd, nd1, fun a ha b hb e => ?_⟩
        subst e
        have b1 := box_ne (rA.box a ha)
        exact b1 ((s2.trans s3).free (fr1 a hb))
      · intro a z
        rcases List.mem_append.mp z with z | z
        · exact fF a z
        · exact ((sm.trans s2).trans s3).free (fr1 a z)
      · have cg : Chg [D] H4 (upd H4 D (.lst (acc ++ [yv]))) := by
          refine ⟨fun b u hb e => ?_, fun b hb => ?_⟩
          · rw [upd_ne (by simpa using hb)]
            exact e
          · rw [List.mem_singleton.mp hb, hD4]
            trivial
        have nF1 : ∀ a ∈ F1, a ≠ D := fun a z e => by
          subst e
          have := fr1 _ z
          rw [(s2.trans s3) _ _ hA] at this
          cases this
        refine ReTs.app ?_ ?_
        · refine ReTs.chg cg (fun a z q => ?_) (fun a z => ?_) (fun a z q => ?_) (rA.dom.mono s14 fun _ z => z)
          · exact z.1.2 (by rw [List.mem_singleton.mp q]; simp)
          · refine ⟨z.1.1, fun q => ?_⟩
            rcases List.mem_cons.mp q with q | q
            · exact z.1.2 (by simp [q])
            · rcases List.mem_append.mp q with q | q
              · exact z.1.2 (by simp [q])
              · exact z.2 ((s2.trans s3).free (fr1 a q))
          · exact dF (by rw [← List.mem_singleton.mp q]; exact z)
        · have key : ReT G.K G.cls (fun a => NA L H (ownA own te Ae Ai) a ∧ a ∉ D :: (F ++ F1)) H4 te yv dy F1 := by
            by_cases hl : te.leaf = true
            · exact leaf_N hl r1
            · refine r1.mono (Same.refl _) fun a z => ?_
              have dead : ∀ {Hx : Hp}, Same Hc Hx → Hx a = none → H a = none ∧ a ≠ D ∧ a ∉ F := fun {Hx} sx q => by
                have q1 : Hc a = none := sx.free q
                refine ⟨sH.free q1, fun e => ?_, fun e => ?_⟩
                · rw [e, hA] at q1; cases q1
                · exact box_ne (rA.box a e) q1
              have alive : H1 a ≠ none → a ≠ D ∧ a ∉ F := fun q => ⟨fun e => q (by rw [e]; exact hD), fun e => q (fF a e)⟩
              have oA : ownA own te Ae Ai = (Ae.filter fun i => i ∉ own) ++ (if Ae.any (fun i => i ∈ own) then Ai else []) := by
                unfold ownA
                rw [if_neg hl]
              have fin2 : NA L H (ownA own te Ae Ai) a ∧ a ≠ D ∧ a ∉ F := by
                rcases z.1 with ⟨i, hiA, q⟩ | q
                · unfold Lown at q
                  split at q
                  · rename_i ho
                    have hany : Ae.any (fun i => i ∈ own) = true := List.any_eq_true.mpr ⟨i, hiA, by simpa using ho⟩
                    rcases q.1 with ⟨q1, q2⟩ | q1
                    · refine ⟨?_, alive q2⟩
                      rw [oA, hany]
                      rcases q1 with ⟨j, hj, qj⟩ | qn
                      · exact .inl ⟨j, by simp [hj], qj⟩
                      · exact .inr qn
                    · obtain ⟨d1, d2, d3⟩ := dead (Same.refl _) q1
                      exact ⟨.inr d1, d2, d3⟩
                  · rename_i ho
                    refine ⟨?_, alive fun e => er.2.1 i a q (s1.free e)⟩
                    rw [oA]
                    exact .inl ⟨i, by simp [hiA, ho], q⟩
                · obtain ⟨d1, d2, d3⟩ := dead (s2.trans s3) q
                  exact ⟨.inr d1, d2, d3⟩
              refine ⟨fin2.1, fun q => ?_⟩
              rcases List.mem_cons.mp q with q | q
              · exact fin2.2.1 q
              · rcases List.mem_append.mp q with q | q
                · exact fin2.2.2 q
                · exact z.2 q
          refine ReT.chg cg (fun a z q => z.2 (by rw [List.mem_singleton.mp q]; simp)) (fun a z => z) (fun a z q => nF1 a z (List.mem_singleton.mp q)) key
      · intro b u e
        rw [upd_ne (fun q => by rw [q, hD] at e; cases e)]
        exact ((sm.trans s14) b u e)
    · refine ⟨acc, accd, F, (s2.trans s3) _ _ hA, dF, nd, fF, rA.mono (s2.trans s3) fun _ z => z, (sm.trans s2).trans s3, hP⟩
  · intro Hc ⟨acc, accd, F, hA, dF, nd, fF, rA, sm, hW⟩
    rw [List.drop_length] at hW
    refine kk _ _ _ (s1.trans sm) ⟨D :: F, List.nodup_cons.mpr ⟨dF, nd⟩, fun a z => ?_, .owl hA rA⟩ hW
    rcases List.mem_cons.mp z with rfl | z
    · exact s1.free hD
    · exact s1.free (fF a z)
where
  wipe_idem {σ : St} {vs : List Nat} : L2.wipe (L2.wipe σ vs) vs = L2.wipe σ vs := by
    apply List.ext_getElem?
    intro j
    by_cases hj : j ∈ vs
    · by_cases hl : j < σ.length
      · rw [wipe_in hj hl, wipe_in hj (by rw [wipe_length]; exact hl)]
      · rw [List.getElem?_eq_none (by rw [wipe_length, wipe_length]; simpa using hl), List.getElem?_eq_none (by rw [wipe_length]; simpa using hl)]
    · rw [wipe_out hj]
  box_ne {H : Hp} {a : Addr} (h : Box (H a)) : H a ≠ none := fun z => by rw [z] at h; exact h
end
end Pv

set_option maxRecDepth 100000
set_option maxHeartbeats 1000000
namespace Pv
open PySem PySem.Spec PyProof.Rows L2
/-- {k: v} with a tuple as key -/
def tDispT (tk tv : TE) : TE := fun σ H Q => ∀ p, H p = none → tk σ (upd H p (.dT [])) fun x H1 => tv σ H1 fun y H2 => H2 p = some (.dT []) ∧ ∃ (ks : List Key) (b : Addr), x = .ref b ∧ H2 b = some (.tup (ks.map kV)) ∧ Q (.ref p) (upd H2 p (.dT [(ks, y)]))
theorem pe_dispT {X : Cx} {pos : Pos} {k v : Expr} {tk tv : TE} (hk : PE X k tk) (hv : PE X v tv) (hu : X.A.units + 1 < cLine) : PE X (.Dict [some k] [v] pos) (tDispT tk tv) := by
  refine ⟨fun pins s σ H Q I q => ?_⟩
  have hn := I.hok.fresh (Nat.le_refl s.heap.objs.size)
  have I1 := I.laid (a := s.heap.objs.size) (o := .dT []) (h' := s.heap.push { cls := .type "dict", data := .dict #[] }) (t' := s.toks) (fun _ _ q => Heap.get?_push_of_some _ q) (Nat.le_refl _) (dt_empty s.heap I.big)
  have hlen : (pairTrees [some k] [v] X.env pos).length = 1 := pairTrees_length [some k] [v] X.env pos rfl rfl
  have h0 : pairTrees [some k] [v] X.env pos ≠ [] := fun e => by rw [e] at hlen; cases hlen
  have hs := zip_pairTrees [some k] [v] X.env pos rfl rfl
  rw [arm_eval_Dict, hs, dictDisplay_pairs _ h0 (by rw [hlen]; decide)]
  refine wpAny_bind (wpAny_standAt (wpAny_bind (wpAny_subDictH (knd := tupleKind (mixKind X.prog X.w)) (by show X.A.units < cLine; omega) (by rw [hlen]; decide) ?_)))
  refine pairTrees_cons_walk (thn (hk.run pins _ σ _ _ I1 (q _ hn)) fun u s1 ⟨x, H1, I1, rx, q1⟩ => thn (hv.run pins s1 σ H1 _ I1 q1) fun w2 s2 ⟨y, H2, I2, ry, q2⟩ => pairTrees_nil_walk ?_)
  obtain ⟨e, ks, b, ex, eb, q3⟩ := q2
  subst ex
  obtain rfl : u = Value.ref b := rx
  obtain ⟨z, hd, xs, rel, dd⟩ := dt_of I2.hok e
  cases rel
  refine ⟨[(ks, b, w2)], ⟨rfl, rfl, key_of I2.hok eb, trivial⟩, dd, fun h' tk dd' hs => wpAny_pure ⟨.ref s.heap.objs.size, _, ?_, rfl, q3⟩⟩
  obtain ⟨qo, es, ep, hq, h2, h3, h4, _, h5⟩ := dd'
  refine d_write I2 (by rw [e]; exact True.intro) hs ⟨qo, hq⟩ ⟨by simp [sizeLine_eq], hd, _, (KT.keeps (H := H2) (.cons ⟨rfl, eb, ry⟩ .nil) fun c ys ec => ?_), qo, es, ep, hq, h2, h3, h4, h5⟩
  rw [upd_ne (ne_of ec e (fun z => nomatch z))]
  exact ec
end Pv

set_option maxRecDepth 100000
set_option maxHeartbeats 1000000
namespace Pv
open PySem L2
theorem asBool_of {op : BoolOp} {e x y : Expr} (h : asBool op e = some (x, y)) : (∃ pos, e = .BoolOp op [x, y] pos) ∨ ∃ a b r pos, y = .BoolOp op (a :: b :: r) pos ∧ e = .BoolOp op (x :: a :: b :: r) pos := by
  unfold asBool at h
  split at h
  · split at h
    · rename_i z; subst z; cases h; exact .inl ⟨_, rfl⟩
    · cases h
  · split at h
    · rename_i z; subst z; cases h; exact .inr ⟨_, _, _, _, rfl, rfl⟩
    · cases h
  · cases h
theorem onB_imp {d : D} {p q p' q' : Prop} (h : onB d p q) (h1 : p → p') (h2 : q → q') : onB d p' q' := by
  unfold onB at h ⊢
  split <;> simp_all
theorem rep_onB {K cls N H} {v : V} {d : D} {p q : Prop} (r : Rep K cls N H v d) (h : onB d p q) : ∃ b, v = .bl b ∧ d = .bl b ∧ (b = true → p) ∧ (b = false → q) := by
  unfold onB at h
  split at h
  · exact ⟨true, rep_bl r, rfl, fun _ => h, fun z => by cases z⟩
  · exact ⟨false, rep_bl r, rfl, (fun z => by cases z), fun _ => h⟩
  · exact h.elim
theorem tup_flat {ts : List T} (h : (tupT ts).flat = true) : tupT ts = .im ∨ tupT ts = .sh ∨ ∃ t, tupT ts = .s t := by
  cases e : tupT ts with
  | im => exact .inl rfl
  | sh => exact .inr (.inl rfl)
  | s t => exact .inr (.inr ⟨t, rfl⟩)
  | ow t => rw [e] at h; cases h
theorem star_any {env : PySem.Env} {pos : Pos} : ∀ {xs : List Expr}, (∀ x ∈ xs, plainB x = true) → (backTo pos (starEach xs env)).any (·.1) = false
  | [], _ => rfl
  | x :: xs, h => by
    rw [plain_star (h x (by simp))]
    have ih := star_any (env := env) (pos := pos) (xs := xs) fun y hy => h y (by simp [hy])
    show (false || (backTo pos (starEach xs env)).any (·.1)) = false
    rw [ih]
    rfl
theorem mEs_plain {N : List Str} {fns : Nm} : ∀ (es : CE) {sc : Scope} {xs : List Expr}, mEs N fns es sc xs = true → ∀ x ∈ xs, plainB x = true
  | .cons a b, sc, xs, h => by
    unfold mEs at h
    split at h
    · simp only [Bool.and_eq_true] at h
      intro x hx
      rcases List.mem_cons.mp hx with rfl | hx
      · exact h.1.1
      · exact mEs_plain b h.2 x hx
    · cases h
  | .nil, sc, xs, h => by
    unfold mEs at h
    split at h
    · intro x hx; simp at hx
    · cases h
  | .chn _ _ _ _ _, _, _, h | .irr _, _, _, h | .ikd _, _, _, h | .isc _ _ _ _, _, _, h | .fld _ _ _ _, _, _, h | .meth _ _ _ _, _, _, h | .make _ _ _ _, _, _, h | .b2 _ _ _, _, _, h | .m0 _ _, _, _, h | .m1 _ _ _, _, _, h | .slc _ _ _ _ _ _, _, _, h | .gs _ _, _, _, h | .fit _ _, _, _, h | .dic0 _, _, _, h | .dic1 _ _, _, _, h | .lrng _, _, _, h | .comp _ _ _ _ _, _, _, h | .rng1 _, _, _, h | .rng2 _ _, _, _, h | .rng3 _ _ _, _, _, h | .ien _, _, _, h | .izp _ _, _, _, h | .irv _, _, _, h | .var _, _, _, h | .int _, _, _, h | .str _, _, _, h | .bl _, _, _, h | .non, _, _, h | .o1 _ _, _, _, h | .o2 _ _ _, _, _, h | .and _ _, _, _, h | .or _ _, _, _, h | .not _, _, _, h | .ifx _ _ _, _, _, h | .lst _, _, _, h | .tup _, _, _, h | .call _ _, _, _, h | .calp _ _ _, _, _, h | .tupo _, _, _, h => by unfold mEs at h; cases h
/-! ### objects -/
theorem spG_F {G : Glob} {k f : Nat} {i : FnI} (hi : G.fns[f]? = some i) (h : i.fn.ini = none) (ho : i.fn.io = false) : spG G k f = spF G k f := by
  unfold spG
  rw [hi]
  show (if i.fn.ini.isSome = true then _ else if i.fn.io = true then _ else _) = _
  rw [h, ho]
  rfl
theorem spG_O {G : Glob} {k f : Nat} {i : FnI} (hi : G.fns[f]? = some i) (h : i.fn.ini = none) (ho : i.fn.io = true) : spG G k f = spO G k f := by
  unfold spG
  rw [hi]
  show (if i.fn.ini.isSome = true then _ else if i.fn.io = true then _ else _) = _
  rw [h, ho]
  rfl
theorem spG_I {G : Glob} {k f : Nat} {i : FnI} (hi : G.fns[f]? = some i) {p : Nat × CE} (h : i.fn.ini = some p) : spG G k f = spI G k f := by
  unfold spG
  rw [hi]
  show (if i.fn.ini.isSome = true then _ else if i.fn.io = true then _ else _) = _
  rw [h]
  rfl
theorem fld_flat (t : T) : (fldT t).flat = true := by cases t <;> rfl
theorem repB_obj {K : PySem.W.Frag} {cls : Nat → Addr × List Str} {N : Addr → Prop} {H : Hp} {t : T} (f : t.flat = true) {v : V} {c : Nat} {ds : List D} (h : RepB K cls N H t v (.obj c ds)) : ∃ a dx fs, v = .ref a ∧ H a = some (.ins (cls c).1 dx fs) ∧ fs.map (·.1) = (cls c).2 ∧ Paired (RepB K cls N H (fldT t)) (fs.map (·.2)) ds := by
  cases t with
  | im => cases h with | obj e z r => exact ⟨_, _, _, rfl, e, z, r.paired⟩
  | sh => cases h with | obj e z r => exact ⟨_, _, _, rfl, e, z, r.paired⟩
  | s t => cases h with | im h => cases h with | obj e z r => exact ⟨_, _, _, rfl, e, z, r.paired⟩
  | ow t => cases f
theorem lookup_ix {f : Str} {w : V} : ∀ {fs : List (Str × V)} {i : Nat}, (fs.map (·.1)).Nodup → (fs.map (·.1))[i]? = some f → (fs.map (·.2))[i]? = some w → fs.lookup f = some w
  | [], _, _, h, _ => by simp at h
  | (g, x) :: r, 0, _, h1, h2 => by
    have e1 : g = f := by simpa using h1
    have e2 : x = w := by simpa using h2
    subst e1 e2
    simp [List.lookup]
  | (g, x) :: r, i + 1, nd, h1, h2 => by
    have h1 : (r.map (·.1))[i]? = some f := by simpa using h1
    have nd := List.nodup_cons.mp (show (g :: r.map (·.1)).Nodup from nd)
    have ne : (f == g) = false := beq_eq_false_iff_ne.mpr fun e => nd.1 (e ▸ List.mem_of_getElem? h1)
    rw [List.lookup_cons, ne]
    exact lookup_ix nd.2 h1 (by simpa using h2)
theorem no_lookup {m : Str} : ∀ {fs : List (Str × V)}, m ∉ fs.map (·.1) → fs.lookup m = none
  | [], _ => rfl
  | (g, x) :: r, h => by
    have h := not_or.mp (fun z => h (List.mem_cons.mpr z))
    rw [List.lookup_cons, beq_eq_false_iff_ne.mpr h.1]
    exact no_lookup h.2
theorem lookup_in {c f : Nat} : ∀ {tb : List (Nat × Nat)}, tb.lookup c = some f → (c, f) ∈ tb
  | [], h => by cases h
  | (b, u) :: r, h => by
    rw [List.lookup_cons] at h
    split at h
    · rename_i q
      cases h
      rw [eq_of_beq q]
      exact List.mem_cons_self
    · exact List.mem_cons_of_mem _ (lookup_in h)
theorem methT_of {fns : List FnI} {ts : List T} {tb : List (Nat × Nat)} {u : T} (h : methT fns ts tb = some u) {c f : Nat} (hl : tb.lookup c = some f) : ∃ i, fns[f]? = some i ∧ (i.fn.ini = none ∧ i.fn.io = false) ∧ lesB ts i.sg = true ∧ i.rt = u := by
  have hin := lookup_in hl
  cases tb with
  | nil => cases h
  | cons p tb =>
    simp only [methT] at h
    split at h
    · rename_i i hi
      split at h
      · rename_i hc
        cases h
        simp only [Bool.and_eq_true, Option.isNone_iff_eq_none, Bool.not_eq_true'] at hc
        obtain ⟨⟨c1, c2⟩, c3⟩ := hc
        rcases List.mem_cons.mp hin with e | e
        · subst e
          exact ⟨i, hi, c2, c1, rfl⟩
        · have := List.all_eq_true.mp c3 _ e
          split at this
          · rename_i j hj
            simp only [Bool.and_eq_true, Option.isNone_iff_eq_none, decide_eq_true_eq, Bool.not_eq_true'] at this
            exact ⟨j, hj, this.1.2, this.1.1, this.2⟩
          · cases this
      · cases h
    · cases h
theorem ArgsB.same {K : PySem.W.Frag} {cls : Nat → Addr × List Str} {N : Addr → Prop} {H H' : Hp} (e : Same H H') : ∀ {ts : List T} {vs : List V} {ds : List D}, ArgsB K cls N H ts vs ds → ArgsB K cls N H' ts vs ds
  | _, _, _, .nil => .nil
  | _, _, _, .cons h r => .cons (h.mono e fun _ z => z) (ArgsB.same e r)
/-- o.m(..): the class is known by the instance -/
def tMethD (G : Glob) (k : Nat) (tb : List (Nat × Nat)) (m : Str) (ta : TE) (t : TA) : TE := fun σ H Q => ta σ H fun x H1 => ∃ q : Nat × Nat, tb.lookup q.1 = some q.2 ∧ ∃ a dx fs, x = .ref a ∧ H1 a = some (.ins (G.cls q.1).1 dx fs) ∧ fs.lookup m = none ∧ t σ H1 fun vs H2 => spF G k q.2 (x :: vs) H2 Q E0
theorem star_all {env : PySem.Env} {pos : Pos} : ∀ {xs : List Expr}, (∀ x ∈ xs, plainB x = true) → (backTo pos (starEach xs env)).all (!·.1) = true
  | [], _ => rfl
  | x :: xs, h => by
    rw [plain_star (h x (by simp))]
    have ih := star_all (env := env) (pos := pos) (xs := xs) fun y hy => h y (by simp [hy])
    show (!false && (backTo pos (starEach xs env)).all (!·.1)) = true
    rw [ih]
    rfl
theorem meth_form {o : Expr} {m : Str} {apos pos : Pos} {xs : List Expr} {env : PySem.Env} (hb : attributeBase o m env (eval o env) = eval o env) (hl : (apos.endLine == pos.line) = true) (hp : (backTo pos (starEach xs env)).all (!·.1) = true) (hn : xs.length < 30) :
    eval (.Call (.Attribute o m apos) xs [] pos) env = (do
      let ov ← eval o env
      standAt apos.atName
      let (f, first) ← holding [ov] (getMethod ov m (do return (← importBound o env).getD true))
      callWith pos f first (backTo pos (starEach xs env)) (backToKw pos (keywordEach [] env))) := by
  have hform : methodCallForm (xs.length + ([] : List Keyword).length) (backTo pos (starEach xs env)) (backToKw pos (keywordEach [] env)) = true := by
    unfold methodCallForm
    rw [hp]
    show (true && true && decide (xs.length + 0 + 0 < 30)) = true
    simpa using hn
  have hpos : methodCallPos true o env apos pos = pure pos := by
    unfold methodCallPos
    rw [hl]
    rfl
  rw [arm_eval_Call, hb]
  unfold methodCall
  rw [hform, hpos]
  rfl
theorem pe_methD {G : Glob} {k : Nat} {X : Cx} {o : Expr} {xs : List Expr} {ta : TE} {t : TA} {tb : List (Nat × Nat)} {m : Str} {apos pos : Pos} (he : PE X o ta) (ha : xs ≠ [] → PA X xs t) (hn : xs = [] → ∀ σ H R, t σ H R → R [] H) (ho : recvB o = true) (hline : (apos.endLine == pos.line) = true) (hlen : xs.length < 30) (hx : ∀ x ∈ xs, plainB x = true) (hr : Room (2 * k) X.A)
    (hF : ∀ q : Nat × Nat, tb.lookup q.1 = some q.2 → Cls X.K (G.cls q.1).1 ∧ Meth X.K (G.cls q.1).1 m (G.fa q.2) ∧ ∃ ps, Binds X.K (G.fd q.2) ps [] ∧ FnOk X.prog X.w X.K X.mg X.base (L2.CX X.prog X.w) (2 * k) (G.fa q.2) (G.fd q.2) ps (spF G k q.2)) : PE X (.Call (.Attribute o m apos) xs [] pos) (tMethD G k tb m ta t) := by
  refine ⟨fun pins s σ H Q I h => ?_⟩
  have ht := meth_form (m := m) (env := X.env) (recv_of ho) hline (star_all hx) hlen
  refine PySem.W.methodCall_KW (pl := do return (← importBound o X.env).getD true) (thn (he.run pins s σ H _ I h) fun u s1 ⟨x, H1, I1, rx, q, hq, a, dx, fs, ex, ea, l, z⟩ => ?_) ht
  obtain ⟨c, hm, ps, hb, F⟩ := hF q hq
  subst ex
  obtain rfl : u = Value.ref a := rx
  refine getmeth_ok I1 ea c hm l ?_
  cases xs with
  | nil => exact PySem.W.callWith_K0 (first := [.ref a]) I1.kIn hm.kp (run_fn (us := [.ref a]) (vs := [.ref a]) (dvs := []) F hr hb .nil passL I1 (.cons rfl .nil) (hn rfl _ _ _ z))
  | cons e es =>
    refine PySem.W.callWith_K (first := [.ref a]) (h₀ := X.base) I.ok.mod.kin hm.kp (thn ((ha (by simp)).run pos pins s1 σ H1 _ I1 z) fun us s2 ⟨vs, H2, I2, r, q2⟩ => ⟨I2.kIn, ?_⟩) (plain_star (hx e (by simp))) (star_any fun z hz => hx z (by simp [hz]))
    exact run_fn (us := .ref a :: us) (vs := .ref a :: vs) (dvs := []) F hr hb .nil passL I2 (.cons rfl r) (by rw [List.append_nil]; exact q2)
section
variable {G : Glob} {k : Nat} {N : List Str} {Γ : List T} {L : Nat → Addr → Prop} {sc : Scope} {X : Cx}
theorem pt_ifx {X : Cx} {c a b : Expr} {pos : Pos} {tc ta tb : TT} (hc : PT X c tc) (ha : PT X a ta) (hb : PT X b tb) : PT X (.IfExp c a b pos) (fun σ H R => tc σ H fun d H1 => if d = true then ta σ H1 R else tb σ H1 R) := by
  refine ⟨fun pins s σ H R I h => ?_⟩
  show wpAny _ _ (isTrue c X.env (eval c X.env) >>= fun d => if d = true then isTrue a X.env (eval a X.env) else isTrue b X.env (eval b X.env)) _ _ _
  refine wpAny_bind (thn (hc.run pins s σ H _ I h) fun d s1 ⟨H1, I1, q1⟩ => ?_)
  cases d with
  | true => exact ha.run pins s1 σ H1 R I1 q1
  | false => exact hb.run pins s1 σ H1 R I1 q1
/-- a test that is a value -/
theorem _root_.L2.PW.sub {X : Cx} {e : Expr} {t t' : TT} (h : PW X e t) (i : ∀ σ H R, t' σ H R → t σ H R) : PW X e t' := ⟨fun wh pins s σ H R I q => h.run wh pins s σ H R I (i σ H R q)⟩
theorem test_val {c : CE} {e : Expr} {t : T} {A : List Nat} (h : PE X e (tS G (Cw (FTof G.fns) k) Γ L c t A)) (hv : valTest e = true) : PT X e (tST G (Cw (FTof G.fns) k) Γ L c) := by
  refine (pt_val h (val_test hv)).sub fun σ H R ⟨env, P1, P2, er, hE, k1, k2⟩ => ⟨env, _, er, hE, fun v H' d s' rs hd => ?_⟩
  obtain ⟨b, rfl, -, h1, h2⟩ := rep_onB (rs.bor (Same.refl _)).rep hd
  refine ⟨b, rfl, ?_⟩
  cases b with
  | true => exact k1 _ s' (h1 rfl)
  | false => exact k2 _ s' (h2 rfl)
theorem ord_cmp {p : P2} {op : CmpOp} (h : ordOp p = some op) : cmpOf p = some op := by cases p <;> first | exact h | cases h
theorem ord_T {p : P2} {op : CmpOp} (h : ordOp p = some op) (t u : T) : p2T p t u = some .im := by cases p <;> first | rfl | cases h
theorem ord_int {p : P2} {op : CmpOp} (h : ordOp p = some op) {x y : D} {Q : D → Prop} (hp : p2 p x y Q) : ∃ i j, x = .int i ∧ y = .int j := by
  cases p <;> first | (simp [ordOp] at h; done) | (cases x <;> cases y <;> first | exact ⟨_, _, rfl, rfl⟩ | exact hp.elim)
theorem it_fold {N : List Str} {fns : Nm} {c : CE} {sc : Scope} {e : Expr} {env : PySem.Env} (h : (isIt c || plainB e) = true) (hm : mE N fns true c sc e = true) : ∀ x, foldedSetIterable e env x = pure x := by
  cases hib : isIt c with
  | false =>
    rw [hib] at h
    exact plain_fold (by simpa using h)
  | true =>
    cases c with
    | rng1 a =>
      unfold mE at hm
      split at hm
      · rename_i sh
        obtain ⟨_, _, rfl, _⟩ := asB1_of sh
        exact fun _ => rfl
      · cases hm
    | rng2 a b =>
      unfold mE at hm
      split at hm
      · rename_i sh
        obtain ⟨_, _, rfl, _⟩ := asB2_of sh
        exact fun _ => rfl
      · cases hm
    | rng3 a b c =>
      unfold mE at hm
      split at hm
      · rename_i sh
        obtain ⟨_, _, rfl, _⟩ := asB3_of sh
        exact fun _ => rfl
      · cases hm
    | ien a =>
      unfold mE at hm
      split at hm
      · rename_i sh
        obtain ⟨_, _, rfl, _⟩ := asB1_of sh
        exact fun _ => rfl
      · cases hm
    | izp a b =>
      unfold mE at hm
      split at hm
      · rename_i sh
        obtain ⟨_, _, rfl, _⟩ := asB2_of sh
        exact fun _ => rfl
      · cases hm
    | irv a =>
      unfold mE at hm
      split at hm
      · rename_i sh
        obtain ⟨_, _, rfl, _⟩ := asB1_of sh
        exact fun _ => rfl
      · cases hm
    | ikd a =>
      unfold mE at hm
      rw [Bool.and_eq_true] at hm
      exact plain_fold hm.1
    | irr a =>
      unfold mE at hm
      split at hm
      · rename_i sh
        obtain ⟨_, _, rfl, _⟩ := asB1_of sh
        exact fun _ => rfl
      · cases hm
    | _ => cases hib
theorem po_sub {X : Cx} {o : Option Expr} {t t' : TO} (h : PO X o t) (i : ∀ σ H R, t' σ H R → t σ H R) : PO X o t' := ⟨fun pins s σ H R I q => h.run pins s σ H R I (i σ H R q)⟩
theorem good_blk (g : Good G k N sc X) (s : Shared) (H : Hp) (scope : Scope) (C : Addr) (cl : List (Str × Addr)) (fp : List Addr) : Good G k N (relS scope sc) (X.blk s H scope (compEnvC scope cl C X.env) fp) :=
  ⟨g.hP, g.hw, g.hK, g.hm, g.hb, g.hN, g.nd, by rw [← g.hsc]; rfl, g.calm, g.room, PassesOwn.never, g.G⟩
theorem locP_blk (s : Shared) (H : Hp) (scope : Scope) (C : Addr) (cl : List (Str × Addr)) (fp : List Addr) : LocP scope (X.blk s H scope (compEnvC scope cl C X.env) fp) := fun x h => by
  have key : ∀ kd, kd ≠ NameKind.free → scope.names.lookup x = some kd → (relS scope X.env.scope).names.lookup x = some kd := fun kd hk e => lookup_relS_keep hk e
  rcases loc_of h with l | l
  · have := key _ (by decide) l
    exact ⟨.inl this, .inr this⟩
  · have := key _ (by decide) l
    refine ⟨.inr this, .inl ?_⟩
    show (scope.names.lookup x == some NameKind.cell) = true
    rw [l]
    rfl
theorem ownS_map (N : List Str) (own : List Nat) : (ownS N own).map (·.2) = own := by
  unfold ownS
  rw [List.map_map]
  exact List.map_id _
/-- locked, where a dict in a slot is walked -/
theorem pe_frz {X : Cx} {own : List Nat} {g0 : TG0} {elt it c : CE} {e : Expr} {t : T} {A : List Nat} {tl : TE} (h : PE X e tl) (hl : ∀ σ H R, FrzC it σ H → tS G (Cw (FTof G.fns) k) Γ L (.comp own g0 elt it c) t A σ H R → tl σ H R) :
    PE X e (tS G (Cw (FTof G.fns) k) Γ L (.comp own g0 elt it c) t A) := by
  by_cases hv : ∃ x, it = .ikd (.var x)
  · obtain ⟨x, rfl⟩ := hv
    refine ⟨fun pins s σ H R I q => ?_⟩
    obtain ⟨env, Q, er, hE, kk⟩ := id q
    unfold E at hE
    rcases er_dic er hE with hz | ⟨d, u, hσ, hd, du⟩
    · exact h.run pins s σ H R I (hl σ H R hz q)
    · refine (pe_lock h).run pins s σ H R I ⟨d, u, hd, by rcases du with ⟨_, rfl⟩ | ⟨_, rfl⟩ <;> trivial, fun od => hl σ _ _ ⟨d, od, u, hσ, upd_same, du⟩ (tS_lock q hd du od)⟩
  · refine h.sub fun σ H R q => hl σ H R ?_ q
    unfold FrzC
    split
    · exact absurd ⟨_, rfl⟩ hv
    · trivial
theorem comp_pe (g : Good G k N sc X) {own : List Nat} {g0 : TG0} {elt it c : CE} {e : Expr} {t : T} {A : List Nat} (hit : SE G k N it) (hkd : Kids G k N it) (helt : SE G k N elt)
    (hcond : ∀ {sc : Scope} {X : Cx}, Good G k N sc X → ∀ {Γ : List T} {L : Nat → Addr → Prop} {e : Expr} {r : T × List Nat}, mE N (names G) false c sc e = true → cE G.fns false Γ c = some r → PT X e (tST G (Cw (FTof G.fns) k) Γ L c))
    (hm : mE N (names G) false (.comp own g0 elt it c) sc e = true) (hc : cE G.fns false Γ (.comp own g0 elt it c) = some (t, A)) :
    ∃ (el tg iter : Expr) (ifs : List Expr) (scope : Scope) (pos : Pos), ∃ (wi : TI) (gg : TG) (tt : TT) (te : TE), e = .ListComp el [⟨tg, iter, ifs, 0⟩] scope pos ∧ PI X tg iter wi ∧ BlkOk X.N X.env.scope scope (ownS N own) ∧
      (∀ (s : Shared) (H : Hp) (C : Addr) (cl : List (Str × Addr)) (fp : List Addr), PG (X.blk s H scope (compEnvC scope cl C X.env) fp) tg gg) ∧ (∀ (s : Shared) (H : Hp) (C : Addr) (cl : List (Str × Addr)) (fp : List Addr), PTs (X.blk s H scope (compEnvC scope cl C X.env) fp) ifs tt) ∧
      (∀ (s : Shared) (H : Hp) (C : Addr) (cl : List (Str × Addr)) (fp : List Addr), PE (X.blk s H scope (compEnvC scope cl C X.env) fp) el te) ∧ (∀ x, foldedSetIterable iter X.env x = pure x) ∧
      ∀ σ H R, FrzC it σ H → tS G (Cw (FTof G.fns) k) Γ L (.comp own g0 elt it c) t A σ H R → tLc wi gg tt te ((ownS N own).map (·.2)) σ H R := by
  unfold mE at hm
  split at hm
  · rename_i el tg iter ifs scope pos
    simp only [Bool.and_eq_true] at hm
    obtain ⟨⟨⟨⟨⟨⟨⟨m1, m2⟩, m3⟩, m4⟩, m5⟩, m6⟩, m7⟩, m8⟩ := hm
    unfold cE at hc
    split at hc
    · rename_i ti Ai hi
      split at hc
      · rename_i te Ae rc h1 h2
        split at hc
        · rename_i hf
          cases hc
          have hp : pairIt it = true → ∃ es k p, tg = .Tuple es k p := fun z => by
            rw [z] at m5
            exact tg_tuple m3 (by simpa using m5)
          refine ⟨el, tg, iter, ifs, scope, pos, fun σ H R => FrzC it σ H ∧ tI G (Cw (FTof G.fns) k) Γ L it (itT it ti) Ai σ H R, tgG G.K g0, tSTx G (Cw (FTof G.fns) k) (tgT g0 (itT it ti) Γ) c, tSx G (Cw (FTof G.fns) k) (tgT g0 (itT it ti) Γ) elt te Ae, rfl, sI_of g hit hkd m4 hp m6 hi, ?_, ?_, ?_, ?_, ?_, ?_⟩
          · rw [g.hN, g.hsc]
            exact blkOk_by m1
          · intro s H C cl fp
            have := pg_tg (X := X.blk s H scope (compEnvC scope cl C X.env) fp) (N := N) g.hN g.nd g.calm (locP_blk s H scope C cl fp) m3
            rw [← g.hK]
            exact this
          · intro s H C cl fp
            split at m8
            · split at m8
              · exact pts_nil.sub fun σ H R ⟨L', env, P1, P2, er, hE, k1, k2⟩ => by
                  unfold E at hE
                  exact k1 _ (Same.refl _) hE
              · cases m8
            · exact pts_one (PT.some fun L' => hcond (good_blk g s H scope C cl fp) m8 h2)
            · cases m8
          · intro s H C cl fp
            exact PE.some fun L' => helt (good_blk g s H scope C cl fp) m7 h1
          · exact it_fold m4 m6
          · intro σ H R hz h
            rw [ownS_map]
            exact ⟨hz, comp_lc hf m2 h⟩
        · cases hc
      · cases hc
    · cases hc
  · cases hm
mutual
theorem sE : ∀ (c : CE) {sc : Scope} {X : Cx} (g : Good G k N sc X) {Γ : List T} {L : Nat → Addr → Prop} {e : Expr} {t : T} {A : List Nat}, mE N (names G) false c sc e = true → cE G.fns false Γ c = some (t, A) → PE X e (tS G (Cw (FTof G.fns) k) Γ L c t A)
  | .var i, sc, X, g, Γ, L, e, t, A, hm, hc => by
    unfold mE at hm
    split at hm
    · simp only [Bool.and_eq_true, decide_eq_true_eq] at hm
      obtain ⟨⟨hN, hv⟩, hn⟩ := hm
      unfold cE at hc
      split at hc
      · rename_i t' ht
        cases hc
        refine (pe_var (by rw [g.hN]; exact hN) (by rw [g.hsc]; exact vis_of hv) (nm_of hn).1 (nm_of hn).2.1).sub fun σ H R ⟨env, Q, er, hE, kk⟩ => ?_
        unfold E at hE
        split at hE
        · rename_i d hd
          obtain ⟨v, t2, h1, h2, h3⟩ := er.2.2 i d hd
          rw [ht] at h2
          cases h2
          refine ⟨v, h1, kk v H d (Same.refl _) (.bo (flat_bor t') ?_) hE⟩
          split
          · rename_i z
            subst z
            exact RepB.of_im h3
          · exact h3.mono (Same.refl _) fun a z => .inl ⟨i, by simp, z⟩
        · exact hE.elim
      · cases hc
    · cases hm
  | .int i, sc, X, g, Γ, L, e, t, A, hm, hc => by
    unfold mE at hm
    split at hm
    · cases of_decide_eq_true hm
      unfold cE at hc
      cases hc
      refine pe_int.sub fun σ H R ⟨env, Q, er, hE, kk⟩ => ?_
      unfold E at hE
      exact kk _ _ _ (Same.refl _) (.im (.int _)) hE
    · cases hm
  | .str i, sc, X, g, Γ, L, e, t, A, hm, hc => by
    unfold mE at hm
    split at hm
    · cases of_decide_eq_true hm
      unfold cE at hc
      cases hc
      refine pe_str.sub fun σ H R ⟨env, Q, er, hE, kk⟩ => ?_
      unfold E at hE
      exact kk _ _ _ (Same.refl _) (.im (.str _)) hE
    · cases hm
  | .bl i, sc, X, g, Γ, L, e, t, A, hm, hc => by
    unfold mE at hm
    split at hm
    · cases of_decide_eq_true hm
      unfold cE at hc
      cases hc
      refine pe_bl.sub fun σ H R ⟨env, Q, er, hE, kk⟩ => ?_
      unfold E at hE
      exact kk _ _ _ (Same.refl _) (.im (.bl _)) hE
    · cases hm
  | .non, sc, X, g, Γ, L, e, t, A, hm, hc => by
    unfold mE at hm
    split at hm
    · unfold cE at hc
      cases hc
      refine pe_non.sub fun σ H R ⟨env, Q, er, hE, kk⟩ => ?_
      unfold E at hE
      exact kk _ _ _ (Same.refl _) (.im .non) hE
    · cases hm
  | .o1 p a, sc, X, g, Γ, L, e, t, A, hm, hc => by
    unfold mE at hm
    split at hm
    · rename_i x sh
      unfold cE at hc
      split at hc
      · rename_i ta Aa ha
        split at hc
        · rename_i t' ht
          cases hc
          refine (p1_ok g tS_mon (sE a g (Γ := Γ) (L := L) hm ha) (flat_bor ta) sh ht).sub fun σ H R ⟨env, Q, er, hE, kk⟩ => ?_
          unfold E at hE
          exact ⟨env, _, er, hE, fun v H' d s' rs hp => ⟨NA L H Aa, d, Q, rs.bor (Same.refl _), hp, fun v' H'' d' s'' r' q' => kk v' H'' d' (s'.trans s'') (rs_of s' r') q'⟩⟩
        · cases hc
      · cases hc
    · cases hm
  | .o2 p a b, sc, X, g, Γ, L, e, t, A, hm, hc => by
    unfold mE at hm
    split at hm
    · rename_i x y sh
      rw [Bool.and_eq_true] at hm
      unfold cE at hc
      split at hc
      · rename_i ta Aa tb Ab ha hb
        split at hc
        · rename_i t' ht
          cases hc
          refine (p2_ok g tS_mon tS_mon (sE a g (Γ := Γ) (L := L) hm.1 ha) (sE b g (Γ := Γ) (L := L) hm.2 hb) (flat_bor ta) (flat_bor tb) sh ht).sub fun σ H R ⟨env, Q, er, hE, kk⟩ => ?_
          unfold E at hE
          refine ⟨env, _, er, hE, fun v H' d s' rs hE2 => ⟨env, _, er.mono s', hE2, fun w H2 d2 s2 rs2 hp => ?_⟩⟩
          refine ⟨NA L H (Aa ++ Ab), d, d2, Q, (rs.bor s2).mono (Same.refl _) (NA.mono fun i z => by simp [z]), (rs2.bor (Same.refl _)).mono (Same.refl _) (fun a z => NA.mono (fun i z => by simp [z]) a (NA.old s' a z)), hp, fun v' H'' d' s'' r' q' => ?_⟩
          exact kk v' H'' d' ((s'.trans s2).trans s'') (rs_of (s'.trans s2) r') q'
        · cases hc
      · cases hc
    · cases hm
  | .and a b, sc, X, g, Γ, L, e, t, A, hm, hc => by
    unfold mE at hm
    split at hm
    · rename_i x y sh
      rw [Bool.and_eq_true] at hm
      unfold cE at hc
      split at hc
      · rename_i ra tb Ab ha hb
        obtain ⟨ta, Aa⟩ := ra
        cases hc
        have p1 := sE a g (Γ := Γ) (L := L) hm.1 ha
        have p2 := sE b g (Γ := Γ) (L := L) hm.2 hb
        have key : PE X e (tAndV (tS G (Cw (FTof G.fns) k) Γ L a ta Aa) (tS G (Cw (FTof G.fns) k) Γ L b tb A)) := by
          rcases asBool_of sh with ⟨pos, rfl⟩ | ⟨_, _, _, pos, rfl, rfl⟩
          · exact pe_and p1 (pe_one p2)
          · exact pe_and p1 p2
        refine key.sub fun σ H R ⟨env, Q, er, hE, kk⟩ => ?_
        unfold E at hE
        refine ⟨env, _, er, hE, fun v H' d s' rs hd => ?_⟩
        obtain ⟨bb, rfl, -, h1, h2⟩ := rep_onB (rs.bor (Same.refl _)).rep hd
        refine ⟨bb, rfl, ?_⟩
        cases bb with
        | true => exact iteT ⟨env, Q, er.mono s', h1 rfl, fun v' H'' d' s'' rs' q' => kk v' H'' d' (s'.trans s'') (rs'.flatten s' (Same.refl _)) q'⟩
        | false => exact iteF (kk _ _ _ s' (.bo (flat_bor _) (RepB.of_im (.bl _))) (h2 rfl))
      · cases hc
    · cases hm
  | .or a b, sc, X, g, Γ, L, e, t, A, hm, hc => by
    unfold mE at hm
    split at hm
    · rename_i x y sh
      rw [Bool.and_eq_true] at hm
      unfold cE at hc
      split at hc
      · rename_i ra tb Ab ha hb
        obtain ⟨ta, Aa⟩ := ra
        cases hc
        have p1 := sE a g (Γ := Γ) (L := L) hm.1 ha
        have p2 := sE b g (Γ := Γ) (L := L) hm.2 hb
        have key : PE X e (tOrV (tS G (Cw (FTof G.fns) k) Γ L a ta Aa) (tS G (Cw (FTof G.fns) k) Γ L b tb A)) := by
          rcases asBool_of sh with ⟨pos, rfl⟩ | ⟨_, _, _, pos, rfl, rfl⟩
          · exact pe_or p1 (pe_one p2)
          · exact pe_or p1 p2
        refine key.sub fun σ H R ⟨env, Q, er, hE, kk⟩ => ?_
        unfold E at hE
        refine ⟨env, _, er, hE, fun v H' d s' rs hd => ?_⟩
        obtain ⟨bb, rfl, -, h1, h2⟩ := rep_onB (rs.bor (Same.refl _)).rep hd
        refine ⟨bb, rfl, ?_⟩
        cases bb with
        | false => exact iteF ⟨env, Q, er.mono s', h2 rfl, fun v' H'' d' s'' rs' q' => kk v' H'' d' (s'.trans s'') (rs'.flatten s' (Same.refl _)) q'⟩
        | true => exact iteT (kk _ _ _ s' (.bo (flat_bor _) (RepB.of_im (.bl _))) (h1 rfl))
      · cases hc
    · cases hm
  | .not a, sc, X, g, Γ, L, e, t, A, hm, hc => by
    unfold mE at hm
    split at hm
    · rename_i x sh
      unfold cE at hc
      split at hc
      · rename_i ra ha
        obtain ⟨ta, Aa⟩ := ra
        cases hc
        obtain ⟨pos, rfl⟩ := asUn_of sh
        refine (pe_not (sE a g (Γ := Γ) (L := L) hm ha)).sub fun σ H R ⟨env, Q, er, hE, kk⟩ => ?_
        unfold E at hE
        refine ⟨env, _, er, hE, fun v H' d s' rs hd => ?_⟩
        obtain ⟨bb, rfl, -, h1, h2⟩ := rep_onB (rs.bor (Same.refl _)).rep hd
        refine ⟨bb, rfl, ?_⟩
        cases bb with
        | true => exact kk _ _ _ s' (.im (.bl _)) (h1 rfl)
        | false => exact kk _ _ _ s' (.im (.bl _)) (h2 rfl)
      · cases hc
    · cases hm
  | .ifx c a b, sc, X, g, Γ, L, e, t, A, hm, hc => by
    unfold mE at hm
    split at hm
    · simp only [Bool.and_eq_true] at hm
      unfold cE at hc
      split at hc
      · rename_i rc ta Aa tb Ab h0 ha hb
        simp only at hc
        split at hc
        · rename_i hl
          rw [Bool.and_eq_true] at hl
          cases hc
          refine (pe_ifExp (sT c g (Γ := Γ) (L := L) hm.1.1 h0).1 (sE a g (Γ := Γ) (L := L) hm.1.2 ha) (sE b g (Γ := Γ) (L := L) hm.2 hb)).sub fun σ H R ⟨env, Q, er, hE, kk⟩ => ?_
          unfold E at hE
          have fin : ∀ {u : T} {B : List Nat} {H' H'' : Hp} {v : V} {d : D}, T.le u.bor (T.join ta.bor tb.bor) = true → (∀ i ∈ B, i ∈ Aa ++ Ab) → Same H H' → Same H' H'' → RS G.K G.cls L H' H'' u B v d → RS G.K G.cls L H H'' (T.join ta.bor tb.bor) (Aa ++ Ab) v d := by
            intro u B H' H'' v d hu hB s1 s2 rs
            obtain ⟨F, nd, fr, r⟩ := (rs.flatten (H2 := H) s1 (Same.refl _)).wk hB
            exact ⟨F, nd, fr, r.le hu⟩
          exact ⟨env, _, _, er, hE, fun H' s' h1 => iteT ⟨env, Q, er.mono s', h1, fun v' H'' d' s'' rs' q' => kk v' H'' d' (s'.trans s'') (fin hl.1 (fun i z => by simp [z]) s' s'' rs') q'⟩,
            fun H' s' h1 => iteF ⟨env, Q, er.mono s', h1, fun v' H'' d' s'' rs' q' => kk v' H'' d' (s'.trans s'') (fin hl.2 (fun i z => by simp [z]) s' s'' rs') q'⟩⟩
        · cases hc
      · cases hc
    · cases hm
  | .lst es, sc, X, g, Γ, L, e, t, A, hm, hc => by
    unfold mE at hm
    split at hm
    · unfold cE at hc
      split at hc
      · rename_i ts Aa ha
        refine (pe_lst (sEs es g (Γ := Γ) (L := L) hm ha)).sub fun σ H R ⟨env, Q, er, hE, kk⟩ => ?_
        unfold E at hE
        refine ⟨env, _, er, hE, fun vs H' ds s' rs hd => ⟨?_, fun p hp => ?_⟩⟩
        · obtain ⟨F, nd, fr, r⟩ := rs
          rw [r.length.1, ← r.length.2]
          exact hd.1
        · refine kk _ _ _ (s'.trans (same_new hp)) ?_ hd.2
          split at hc
          · rename_i hl
            cases hc
            exact rs_lst1 s' hp hl rs
          · split at hc
            · rename_i hl
              cases hc
              exact rs_lst2 s' hp rfl hl rs
            · cases hc
      · cases hc
    · cases hm
  | .tup es, sc, X, g, Γ, L, e, t, A, hm, hc => by
    unfold mE at hm
    split at hm
    · unfold cE at hc
      split at hc
      · rename_i ts Aa ha
        split at hc
        · rename_i hl
          rw [Bool.and_eq_true] at hl
          cases hc
          refine (pe_tup (sEs es g (Γ := Γ) (L := L) hm ha)).sub fun σ H R ⟨env, Q, er, hE, kk⟩ => ?_
          unfold E at hE
          refine ⟨env, _, er, hE, fun vs H' ds s' rs hd => ⟨?_, fun p hp => ?_⟩⟩
          · obtain ⟨F, nd, fr, r⟩ := rs
            rw [r.length.1, ← r.length.2]
            exact hd.1
          · exact kk _ _ _ (s'.trans (same_new hp)) (rs_tup s' hp hl.2 hl.1 (tup_flat hl.2) rs) hd.2
        · cases hc
      · cases hc
    · cases hm
  | .tupo es, sc, X, g, Γ, L, e, t, A, hm, hc => by
    unfold mE at hm
    split at hm
    · unfold cE at hc
      split at hc
      · rename_i ts Aa ha
        split at hc
        · rename_i hl
          cases hc
          refine (pe_tup (sEs es g (Γ := Γ) (L := L) hm ha)).sub fun σ H R ⟨env, Q, er, hE, kk⟩ => ?_
          unfold E at hE
          refine ⟨env, _, er, hE, fun vs H' ds s' rs hd => ⟨?_, fun p hp => ?_⟩⟩
          · obtain ⟨F, nd, fr, r⟩ := rs
            rw [r.length.1, ← r.length.2]
            exact hd.1
          · exact kk _ _ _ (s'.trans (same_new hp)) (rs_tupo s' hp hl rs) hd.2
        · cases hc
      · cases hc
    · cases hm
  | .call f es, sc, X, g, Γ, L, e, t, A, hm, hc => by
    unfold mE at hm
    split at hm
    · rename_i x p0 xs pos
      simp only [Bool.and_eq_true, decide_eq_true_eq] at hm
      obtain ⟨⟨⟨hf, gl⟩, nm⟩, hm⟩ := hm
      unfold cE at hc
      split at hc
      · rename_i ts Aa i ha hi
        split at hc
        · rename_i hl
          simp only [Bool.and_eq_true, Option.isNone_iff_eq_none, Bool.not_eq_true'] at hl
          obtain ⟨⟨hl, htop⟩, hini, hio⟩ := hl
          obtain ⟨hmg, hk, hb⟩ := g.G.mgf f i hi
          have hmg := hmg htop
          have hx : x = i.name := by
            have hf : (G.fns.map (·.name))[f]? = some x := hf
            rw [List.getElem?_map, hi] at hf
            exact (Option.some.inj hf).symm
          subst hx
          have F : FnOk X.prog X.w X.K X.mg X.base (L2.CX X.prog X.w) (2 * k) (G.fa f) (G.fd f) i.ps (spF G k f) := by
            rw [g.hP, g.hw, g.hK, g.hm, g.hb, ← spG_F hi hini hio]
            exact g.G.ok f i hi
          have room := g.room.mono (show 2 * k ≤ 2 * k + 1 by omega)
          have pa := sEs es g (Γ := Γ) (L := L) hm ha
          have key : PE X (.Call (.Name i.name p0) xs [] pos) (tCall (spF G k f) [] E0 (tSL G (Cw (FTof G.fns) k) Γ L es ts Aa)) := by
            cases xs with
            | cons y ys =>
              have pl := mEs_plain es hm
              exact pe_call F room (g.gl gl) (by rw [g.hm]; exact hmg) (by rw [g.hK]; exact hk) (by rw [g.hK]; exact hb) .nil passL pa (nm_of nm).1 (plain_star (pl y (by simp))) (star_any fun z hz => pl z (by simp [hz]))
            | nil =>
              refine (pe_call0 F room (g.gl gl) (by rw [g.hm]; exact hmg) (by rw [g.hK]; exact hk) (by rw [g.hK]; exact hb) .nil passL (nm_of nm).1).sub fun σ H R ⟨env, Q, er, hE, kk⟩ => ?_
              cases es with
              | nil =>
                unfold Es at hE
                exact kk [] H [] (Same.refl _) ⟨[], .nil, (fun _ z => absurd z (by simp)), by unfold cL at ha; cases ha; exact .nil⟩ hE
              | cons a b => unfold mEs at hm; simp at hm
              | _ => unfold mEs at hm; cases hm
          refine key.sub fun σ H R ⟨env, Q, er, hE, kk⟩ => ?_
          unfold E at hE
          refine ⟨env, _, er, hE, fun vs H' ds s' rs hd => ?_⟩
          obtain ⟨F1, nd, fr, r⟩ := rs
          have ar := ReTL.args hl r
          refine ⟨i, ds, NA L H Aa, Q, hi, ?_, ?_, CwX.none hd, fun v H'' d s'' r' q' => ?_⟩
          · rw [List.append_nil, ar.length.1]
            exact g.G.len f i hi
          · rw [List.append_nil]
            refine ReTL.args.args_mono (fun a z => ?_) ar
            rcases z with z | z
            · exact z.1
            · exact .inr (fr a z)
          · cases hc
            refine kk v H'' d (s'.trans s'') ?_ q'
            have r2 := rs_of s' r'
            split
            · rename_i lf
              obtain ⟨F2, nd2, fr2, r2⟩ := r2
              exact ⟨F2, nd2, fr2, leaf_N lf r2⟩
            · exact r2.wk fun i z => by
                unfold als at z
                split at z
                · simp at z
                · exact z
        · cases hc
      · cases hc
    · cases hm
  | .calp f es df, sc, X, g, Γ, L, e, t, A, hm, hc => by
    unfold mE at hm
    split at hm
    · rename_i x p0 xs pos
      simp only [Bool.and_eq_true, decide_eq_true_eq] at hm
      obtain ⟨⟨⟨hf, gl⟩, nm⟩, hm⟩ := hm
      unfold cE at hc
      split at hc
      · rename_i ts Aa i ha hi
        split at hc
        · rename_i hl
          simp only [Bool.and_eq_true, Option.isNone_iff_eq_none, Bool.not_eq_true'] at hl
          obtain ⟨⟨⟨hl, hdf⟩, htop⟩, hini, hio⟩ := hl
          obtain ⟨dus, hdu, hb2⟩ := g.G.dfs f i hi df (of_decide_eq_true hdf)
          obtain ⟨hmg, hk, hb⟩ := g.G.mgf f i hi
          have hmg := hmg htop
          have hx : x = i.name := by
            have hf : (G.fns.map (·.name))[f]? = some x := hf
            rw [List.getElem?_map, hi] at hf
            exact (Option.some.inj hf).symm
          subst hx
          have F : FnOk X.prog X.w X.K X.mg X.base (L2.CX X.prog X.w) (2 * k) (G.fa f) (G.fd f) i.ps (spF G k f) := by
            rw [g.hP, g.hw, g.hK, g.hm, g.hb, ← spG_F hi hini hio]
            exact g.G.ok f i hi
          have room := g.room.mono (show 2 * k ≤ 2 * k + 1 by omega)
          have pa := sEs es g (Γ := Γ) (L := L) hm ha
          have key : PE X (.Call (.Name i.name p0) xs [] pos) (tCall (spF G k f) (df.map V.int) E0 (tSL G (Cw (FTof G.fns) k) Γ L es ts Aa)) := by
            cases xs with
            | cons y ys =>
              have pl := mEs_plain es hm
              exact pe_call F room (g.gl gl) (by rw [g.hm]; exact hmg) (by rw [g.hK]; exact hk) (by rw [g.hK]; exact hb2) hdu passL pa (nm_of nm).1 (plain_star (pl y (by simp))) (star_any fun z hz => pl z (by simp [hz]))
            | nil =>
              refine (pe_call0 F room (g.gl gl) (by rw [g.hm]; exact hmg) (by rw [g.hK]; exact hk) (by rw [g.hK]; exact hb2) hdu passL (nm_of nm).1).sub fun σ H R ⟨env, Q, er, hE, kk⟩ => ?_
              cases es with
              | nil =>
                unfold Es at hE
                exact kk [] H [] (Same.refl _) ⟨[], .nil, (fun _ z => absurd z (by simp)), by unfold cL at ha; cases ha; exact .nil⟩ hE
              | cons a b => unfold mEs at hm; simp at hm
              | _ => unfold mEs at hm; cases hm
          refine key.sub fun σ H R ⟨env, Q, er, hE, kk⟩ => ?_
          unfold E at hE
          refine ⟨env, _, er, hE, fun vs H' ds s' rs hd => ?_⟩
          obtain ⟨F1, nd, fr, r⟩ := rs
          have ar := ReTL.args hl (reTL_ints df r)
          refine ⟨i, ds ++ df.map D.int, NA L H Aa, Q, hi, ?_, ?_, CwX.none hd, fun v H'' d s'' r' q' => ?_⟩
          · rw [ar.length.1]
            exact g.G.len f i hi
          · refine ReTL.args.args_mono (fun a z => ?_) ar
            rcases z with z | z
            · exact z.1
            · exact .inr (fr a z)
          · cases hc
            refine kk v H'' d (s'.trans s'') ?_ q'
            have r2 := rs_of s' r'
            split
            · rename_i lf
              obtain ⟨F2, nd2, fr2, r2⟩ := r2
              exact ⟨F2, nd2, fr2, leaf_N lf r2⟩
            · exact r2.wk fun i z => by
                unfold als at z
                split at z
                · simp at z
                · exact z
        · cases hc
      · cases hc
    · cases hm
  | .ikd a, sc, X, g, Γ, L, e, t, A, hm, hc => by unfold mE at hm; cases hm
  | .irr a, sc, X, g, Γ, L, e, t, A, hm, hc => by unfold mE at hm; cases hm
  | .chn p q a b c, sc, X, g, Γ, L, e, t, A, hm, hc => by
    unfold mE at hm
    split at hm
    · rename_i op op' ho ho'
      split at hm
      · rename_i x y z sh
        simp only [Bool.and_eq_true] at hm
        obtain ⟨pos, rfl, py, pz⟩ := asChn_of sh
        unfold cE at hc
        split at hc
        · rename_i ra rb rc ha hb hcc
          obtain ⟨ta, Aa⟩ := ra
          obtain ⟨tb, Ab⟩ := rb
          obtain ⟨tc, Ac⟩ := rc
          cases hc
          obtain ⟨r, hr, i⟩ := p2_cmp g (ord_cmp ho) (flat_bor ta) (flat_bor tb) (ord_T ho _ _)
          obtain ⟨r', hr', i'⟩ := p2_cmp g (ord_cmp ho') (t := .im) rfl (flat_bor tc) (ord_T ho' _ _)
          refine (pe_chain hr hr' (sE a g (Γ := Γ) (L := L) hm.1.1 ha) (sE b g (Γ := Γ) (L := L) hm.1.2 hb) (sE c g (Γ := Γ) (L := L) hm.2 hcc) (plain_mark pz)).sub fun σ H R ⟨env, Q, er, hE, kk⟩ => ?_
          unfold E at hE
          refine ⟨env, _, er, hE, fun v H' d s' rs hE2 => ⟨env, _, er.mono s', hE2, fun w H2 d2 s2 rs2 hp => i _ _ _ _ ?_⟩⟩
          obtain ⟨iA, iB, rfl, rfl⟩ := ord_int ho hp
          obtain rfl := rep_int (rs2.bor (Same.refl _)).rep
          refine ⟨NA L H (Aa ++ Ab), _, _, _, (rs.bor s2).mono (Same.refl _) (NA.mono fun i z => by simp [z]), RepB.of_im (.int _), hp, fun v' H'' d' s'' r1 q' => ?_⟩
          obtain ⟨bb, rfl, -, h1, h2⟩ := rep_onB ((rs_of (s'.trans s2) r1).bor (Same.refl _)).rep q'
          refine ⟨bb, rfl, ?_⟩
          have s3' := (s'.trans s2).trans s''
          cases bb with
          | true => exact iteT ⟨env, _, er.mono s3', h1 rfl, fun w3 H3 d3 s3 rs3 hp3 => i' _ _ _ _ ⟨NA L H Ac, .int iB, d3, Q, RepB.of_im (.int _), (rs3.bor (Same.refl _)).mono (Same.refl _) (fun a z => NA.old s3' a z), hp3, fun v4 H4 d4 s4 r4 q4 => kk _ _ _ ((s3'.trans s3).trans s4) (rs_of (s3'.trans s3) r4) q4⟩⟩
          | false => exact iteF (kk _ _ _ s3' (.bo rfl (RepB.of_im (.bl _))) (h2 rfl))
        · cases hc
      · cases hm
    · cases hm
  | .isc c x cs a, sc, X, g, Γ, L, e, t, A, hm, hc => by
    unfold mE at hm
    split at hm
    · rename_i y sh
      simp only [Bool.and_eq_true] at hm
      obtain ⟨⟨hN, hm⟩, hsub⟩ := hm
      unfold cE at hc
      split at hc
      · rename_i ra ha
        cases hc
        obtain ⟨ta, Aa⟩ := ra
        unfold hasN at hN
        split at hN
        · rename_i q hq
          have hN := of_decide_eq_true hN
          subst hN
          obtain ⟨_, _, _, _, _, b6⟩ := g.G.cl.cn c q hq
          obtain ⟨p, q', pos, rfl, g1, pl, g2, nb⟩ := asIsi_of sh
          have hq' : PE X (.Name q.1 q') (tC (.ref (G.cls c).1)) := pe_glob (v := .ref (G.cls c).1) (g.gl g2) (by rw [g.hm]; exact b6) rfl (nm_of nb).1
          refine (pe_callB call_isi (g.gl g1) (g.nob (by decide +kernel)) (by decide +kernel) (pa_cons (sE a g (Γ := Γ) (L := L) hm ha) (pa_cons hq' pa_nil rfl) (plain_star pl)) (by decide +kernel) (by decide +kernel) (plain_star pl)).sub fun σ H R ⟨env, Q, er, hE, kk⟩ => ?_
          unfold E at hE
          refine ⟨env, _, er, hE, fun v H' d s' rs hd => ?_⟩
          cases d with
          | obj c' ds =>
            obtain ⟨ec, q⟩ := hd
            have kit : PySem.W.kitOne X.K (.ref (G.cls c').1) (.ref (G.cls c).1) = some true ∧ ∃ p', G.ct.cn[c']? = some p' := by
              rw [g.hK]
              rcases List.mem_cons.mp ec with ec | ec
              · subst ec
                refine ⟨?_, _, hq⟩
                unfold PySem.W.kitOne
                rw [if_pos (beq_self_eq_true _)]
              · have := of_decide_eq_true (List.all_eq_true.mp hsub c' ec)
                obtain ⟨k1, k2⟩ := g.G.cl.sub _ this
                exact ⟨k1, _, List.getElem?_eq_getElem k2⟩
            obtain ⟨kit, p', hp'⟩ := kit
            obtain ⟨b1, _⟩ := g.G.cl.cn c' p' hp'
            obtain ⟨i1, i2, i3, i4⟩ := g.G.cl.ic c' p' hp'
            have hr := (rs.bor (Same.refl _)).rep
            cases hr with
            | obj e z r =>
              refine ⟨_, .ref (G.cls c).1, .ref (G.cls c').1, .ref (G.cls c).1, true, rfl, .own _, ?_, kit, kk _ _ _ s' (.im (.bl true)) q⟩
              rw [g.hK]
              exact .base (.ins e b1 i1 i2 i3 i4)
          | _ => exact hd.elim
        · cases hN
      · cases hc
    · cases hm
  | .fld f i cs a, sc, X, g, Γ, L, e, t, A, hm, hc => by
    unfold mE at hm
    split at hm
    · rename_i o f' pos
      simp only [Bool.and_eq_true, decide_eq_true_eq] at hm
      obtain ⟨⟨⟨rfl, hb⟩, ho⟩, hcs⟩ := hm
      unfold cE at hc
      split at hc
      · rename_i ta Aa ha
        cases hc
        refine (pe_fld (f := f') (sE a g (Γ := Γ) (L := L) ho ha) (recv_of hb)).sub fun σ H R ⟨env, Q, er, hE, kk⟩ => ?_
        unfold E at hE
        refine ⟨env, _, er, hE, fun v H' d s' rs hd => ?_⟩
        cases d with
        | obj c ds =>
          obtain ⟨hcm, d', hi, q⟩ := hd
          have hF := List.all_eq_true.mp hcs c hcm
          unfold hasF at hF
          split at hF
          · rename_i p hp
            have hF := of_decide_eq_true hF
            obtain ⟨b1, b2, b3, b4, b5, b6⟩ := g.G.cl.cn c p hp
            obtain ⟨x, dx, fs, rfl, hx, hn, pp⟩ := repB_obj (flat_bor ta) (rs.bor (Same.refl _))
            obtain ⟨w, hw, rw'⟩ := pair_get pp hi
            rw [b2] at hn
            refine ⟨x, _, dx, fs, w, rfl, hx, by rw [g.hK]; exact b1, by rw [g.hK]; exact b5 _ (List.mem_of_getElem? hF), lookup_ix (by rw [hn]; exact b3) (by rw [hn]; exact hF) hw, ?_⟩
            refine kk w H' d' s' (RS.bo (fld_flat _) ?_) q
            cases hf : fldT ta.bor with
            | im => rw [hf] at rw'; exact rw'.mono (Same.refl _) fun a z => z
            | sh => 
              rw [hf] at rw'
              exact rw'.mono (Same.refl _) fun a z => z
            | _ => exact absurd hf (by unfold fldT; split <;> simp)
          · cases hF
        | _ => exact hd.elim
      · cases hc
    · cases hm
  | .meth m tb a es, sc, X, g, Γ, L, e, t, A, hm, hc => by
    unfold mE at hm
    split at hm
    · rename_i o m' apos xs pos
      simp only [Bool.and_eq_true, decide_eq_true_eq] at hm
      obtain ⟨⟨⟨⟨⟨⟨rfl, hb⟩, hline⟩, hlen⟩, ho⟩, hes⟩, htb⟩ := hm
      unfold cE at hc
      split at hc
      · rename_i ta Aa ts Ab ha hts
        split at hc
        · rename_i u hu
          obtain ⟨rfl, rfl⟩ : u = t ∧ (if u.leaf = true then [] else Aa ++ Ab) = A := by cases hc; exact ⟨rfl, rfl⟩
          have pa := sEs es g (Γ := Γ) (L := L) hes hts
          have pt := sE a g (Γ := Γ) (L := L) ho ha
          have room := g.room.mono (show 2 * k ≤ 2 * k + 1 by omega)
          have hF : ∀ c f, tb.lookup c = some f → ∃ i, G.fns[f]? = some i ∧ (i.fn.ini = none ∧ i.fn.io = false) ∧ lesB (ta :: ts) i.sg = true ∧ i.rt = u ∧ Cls X.K (G.cls c).1 ∧ Meth X.K (G.cls c).1 m' (G.fa f) ∧ m' ∉ (G.cls c).2 ∧ Binds X.K (G.fd f) i.ps [] ∧ FnOk X.prog X.w X.K X.mg X.base (L2.CX X.prog X.w) (2 * k) (G.fa f) (G.fd f) i.ps (spF G k f) := by
            intro c f hl
            obtain ⟨i, hi, h1, h2, h3⟩ := methT_of hu hl
            obtain ⟨n1, n2⟩ := g.G.cl.ms _ (of_decide_eq_true (List.all_eq_true.mp htb _ (lookup_in hl)))
            obtain ⟨p, hp, n3⟩ := n2
            obtain ⟨b1, b2, _⟩ := g.G.cl.cn c p hp
            refine ⟨i, hi, h1, h2, h3, by rw [g.hK]; exact b1, by rw [g.hK]; exact n1, by rw [b2]; exact n3, by rw [g.hK]; exact (g.G.mgf f i hi).2.2, ?_⟩
            rw [g.hP, g.hw, g.hK, g.hm, g.hb, ← spG_F hi h1.1 h1.2]
            exact g.G.ok f i hi
          have pl := mEs_plain es hes
          have nil' : xs = [] → ∀ σ H R, tSL G (Cw (FTof G.fns) k) Γ L es ts Ab σ H R → R [] H := by
            intro hx σ H R ⟨env, Q, er, hE, kk⟩
            subst hx
            cases es with
            | nil =>
              unfold Es at hE
              exact kk [] H [] (Same.refl _) ⟨[], .nil, (fun _ z => absurd z (by simp)), by unfold cL at hts; cases hts; exact .nil⟩ hE
            | cons a b => unfold mEs at hes; simp at hes
            | _ => unfold mEs at hes; cases hes
          refine (pe_methD (G := G) (k := k) pt (fun _ => pa) nil' hb hline hlen pl room (fun q h => by
              obtain ⟨i, _, _, _, _, h5, h6, _, h8, h9⟩ := hF q.1 q.2 h
              exact ⟨h5, h6, i.ps, h8, h9⟩) (tb := tb) (m := m')).sub fun σ H R ⟨env, Q, er, hE, kk⟩ => ?_
          unfold E at hE
          refine ⟨env, _, er, hE, fun v H' d s' rs hd => ?_⟩
          cases d with
          | obj c ds =>
            obtain ⟨f, hl, hEs⟩ := hd
            obtain ⟨i, hi, h1, h2, h3, h5, h6, h7, h8, h9⟩ := hF c f hl
            have bo := rs.bor (Same.refl _)
            obtain ⟨x, dx, fs, rfl, hx, hn, pp⟩ := repB_obj (flat_bor ta) bo
            refine ⟨(c, f), hl, x, dx, fs, rfl, hx, no_lookup (by rw [hn]; exact h7), env, _, er.mono s', hEs, fun vs H2 xs s2 rs2 hq => ?_⟩
            cases hsg : i.sg with
            | nil => rw [hsg] at h2; cases h2
            | cons t0 sg =>
              rw [hsg] at h2
              have h2 := Bool.and_eq_true_iff.mp (show (T.le ta.bor t0 && lesB ts sg) = true from h2)
              obtain ⟨F1, nd, fr, r⟩ := rs2
              have ar := ReTL.args h2.2 r
              refine ⟨i, .obj c ds :: xs, NA L H (Aa ++ Ab), Q, hi, ?_, ?_, CwX.none hq, fun v H'' d s'' r' q' => ?_⟩
              · have l1 := g.G.len f i hi
                rw [hsg] at l1
                rw [List.length_cons, ar.length.1, ← l1]
                rfl
              · rw [hsg]
                refine .cons ((bo.mono s2 (NA.mono fun i z => by simp [z])).le h2.1) (ReTL.args.args_mono (fun a z => ?_) ar)
                rcases z with z | z
                · exact NA.mono (fun i z => by simp [z]) a (NA.old s' a z.1)
                · exact .inr (s'.free (fr a z))
              · subst h3
                refine kk v H'' d ((s'.trans s2).trans s'') ?_ q'
                have r2 := rs_of (s'.trans s2) r'
                split
                · rename_i lf
                  obtain ⟨F2, nd2, fr2, r2⟩ := r2
                  exact ⟨F2, nd2, fr2, leaf_N lf r2⟩
                · exact r2.wk fun i z => by
                    unfold als at z
                    split at z
                    · simp at z
                    · exact z
          | _ => exact hd.elim
        · cases hc
      · cases hc
    · cases hm
  | .make c f nd es, sc, X, g, Γ, L, e, t, A, hm, hc => by
    unfold mE at hm
    split at hm
    · rename_i x p0 y ys pos
      simp only [Bool.and_eq_true, decide_eq_true_eq] at hm
      obtain ⟨⟨⟨⟨hN, gl⟩, nm⟩, hes⟩, hmk⟩ := hm
      unfold cE at hc
      cases hts : cL G.fns Γ es with
      | none => rw [hts] at hc; cases hc
      | some q0 =>
      obtain ⟨ts, Aa⟩ := q0
      cases hi : G.fns[f]? with
      | none => rw [hts, hi] at hc; cases hc
      | some i =>
        rw [hts, hi] at hc
        dsimp only at hc
        by_cases hl : (iniB c i && (lesB (if nd = true then ts ++ [.im] else ts) (i.sg.drop 1) && (!nd || i.dn))) = true
        case neg => rw [if_neg hl] at hc; cases hc
        rw [if_pos hl] at hc
        cases hc
        rw [Bool.and_eq_true, Bool.and_eq_true] at hl
        obtain ⟨hini, hl, hdn⟩ := hl
        unfold hasN at hN
        split at hN
        · rename_i p hp
          have hN := of_decide_eq_true hN
          unfold iniB at hini
          split at hini
          · rename_i ce hce
            have hini := of_decide_eq_true hini
            obtain ⟨c', fe⟩ := ce
            change c' = c at hini
            subst hini
            obtain ⟨b1, b2, b3, b4, b5, b6⟩ := g.G.cl.cn c' p hp
            have M := g.G.cl.mks _ hmk
            have F : FnOk X.prog X.w X.K X.mg X.base (L2.CX X.prog X.w) (2 * k) (G.fa f) (G.fd f) i.ps (spI G k f) := by
              rw [g.hP, g.hw, g.hK, g.hm, g.hb, ← spG_I hi hce]
              exact g.G.ok f i hi
            have pl := mEs_plain es hes
            have fin : ∀ (dvs : List V) (dd : List Pv.D) (us : List T), (∀ N H us', lesB us us' = true → ArgsB G.K G.cls N H us' dvs dd) → lesB (ts ++ us) (i.sg.drop 1) = true → ∀ σ H R (env : Env) (Q : Pv.D → Prop), ER G.K G.cls Γ L H σ env → Es (Cw (FTof G.fns) k) es env (fun xs => Cw (FTof G.fns) k f (xs ++ dd) Q) →
                (∀ v H' d, Same H H' → RS G.K G.cls L H H' .im [] v d → Q d → R v H') → tMake (G.cls c').1 (spI G k f) dvs E0 (tSL G (Cw (FTof G.fns) k) Γ L es ts Aa) σ H R := fun dvs dd us hdd hl σ H R env Q er hE kk => by
              refine ⟨env, _, er, hE, fun vs H1 xs s1 rs hq x dx nx ndx nex => ?_⟩
              obtain ⟨F1, nd, fr, r⟩ := rs
              have ar := ReTL.argsA hdd hl r
              have sm : Same H1 (upd (upd H1 dx (.own x)) x (.ins (G.cls c').1 dx [])) := fun b o e => by
                rw [upd_ne (ne_of_none e nx), upd_ne (ne_of_none e ndx)]
                exact e
              refine ⟨i, c', fe, c', p, x, dx, vs ++ dvs, xs ++ dd, NA L H Aa, Q, hi, hce, rfl, ?_, hp, by rw [b2]; exact List.prefix_rfl, upd_same, ?_, ⟨_, hq, fun _ _ _ _ z => z.elim⟩, fun H' fs es' off hx hf rp q => ⟨rfl, ?_⟩⟩
              · have l1 := g.G.len f i hi
                have l2 := ar.length.1
                rw [List.length_drop] at l2
                have l4 := g.G.sg0 f i hi (by rw [hce]; rfl)
                have l3 : 0 < i.ps.length := by rw [← l1]; exact Nat.pos_of_ne_zero l4
                rw [List.length_cons]
                omega
              · refine ReTL.args.args_mono (fun a z => ?_) (ArgsB.same sm ar)
                rcases z with z | z
                · exact z.1
                · exact .inr (fr a z)
              · refine kk _ _ _ (fun b o e => s1 b o e |> fun e1 => off b o (ne_of_none e1 nx) (sm b o e1)) (RS.im (.obj hx hf rp)) q
            cases nd with
            | false =>
              refine (pe_make (by rw [g.hK]; exact M) F g.room (g.gl gl) (by rw [g.hm, ← hN]; exact b6) (by rw [g.hK]; exact (g.G.mgf f i hi).2.2) .nil passL (sEs es g (Γ := Γ) (L := L) hes hts) (nm_of nm).1 (plain_star (pl y (by simp))) (star_any fun z hz => pl z (by simp [hz]))).sub fun σ H R ⟨env, Q, er, hE, kk⟩ => ?_
              unfold E at hE
              exact fin [] [] [] (fun _ _ us' h => by cases us' with | nil => exact .nil | cons _ _ => cases h) (by rw [List.append_nil]; exact hl) σ H R env Q er (by simpa only [List.append_nil] using hE) kk
            | true =>
              obtain ⟨ds, hv, hb⟩ := g.G.dn f i hi (by simpa using hdn)
              refine (pe_make (by rw [g.hK]; exact M) F g.room (g.gl gl) (by rw [g.hm, ← hN]; exact b6) (by rw [g.hK]; exact hb) hv passL (sEs es g (Γ := Γ) (L := L) hes hts) (nm_of nm).1 (plain_star (pl y (by simp))) (star_any fun z hz => pl z (by simp [hz]))).sub fun σ H R ⟨env, Q, er, hE, kk⟩ => ?_
              unfold E at hE
              exact fin [.non] [.non] [.im] (fun _ _ us' h => by
                cases us' with
                | nil => cases h
                | cons u r =>
                  cases r with
                  | nil => exact .cons (.of_im .non) .nil
                  | cons _ _ => exact absurd (Bool.and_eq_true_iff.mp h).2 (by intro z; cases z)) hl σ H R env Q er hE kk
          · cases hini
        · cases hN
    · cases hm
  | .nil, sc, X, g, Γ, L, e, t, A, hm, hc => by unfold mE at hm; cases hm
  | .cons a b, sc, X, g, Γ, L, e, t, A, hm, hc => by unfold mE at hm; cases hm
  | .b2 f a b, sc, X, g, Γ, L, e, t, A, hm, hc => by
    unfold mE at hm
    split at hm
    · rename_i x y sh
      rw [Bool.and_eq_true] at hm
      unfold cE at hc
      split at hc
      · rename_i r1 r2 ha hb
        obtain ⟨ta, Aa⟩ := r1
        obtain ⟨tb, Ab⟩ := r2
        cases hc
        refine (b2_ok g tS_mon tS_mon (sE a g (Γ := Γ) (L := L) hm.1 ha) (sE b g (Γ := Γ) (L := L) hm.2 hb) (t := ta.bor) (u := tb.bor) sh).sub fun σ H R ⟨env, Q, er, hE, kk⟩ => ?_
        unfold E at hE
        refine ⟨env, _, er, hE, fun v H' d s' rs hE2 => ⟨env, _, er.mono s', hE2, fun w H2 d2 s2 rs2 hp => ?_⟩⟩
        refine ⟨NA L H (Aa ++ Ab), d, d2, Q, (rs.bor s2).mono (Same.refl _) (NA.mono fun i z => by simp [z]), (rs2.bor (Same.refl _)).mono (Same.refl _) (fun a z => NA.mono (fun i z => by simp [z]) a (NA.old s' a z)), hp, fun v' H'' d' s'' r' q' => ?_⟩
        exact kk v' H'' d' ((s'.trans s2).trans s'') (rs_of (s'.trans s2) r') q'
      · cases hc
    · cases hm
  | .m0 m a, sc, X, g, Γ, L, e, t, A, hm, hc => by
    unfold mE at hm
    split at hm
    · rename_i x sh
      unfold cE at hc
      split at hc
      · rename_i r1 ha
        obtain ⟨ta, Aa⟩ := r1
        cases hc
        refine (m0_ok g tS_mon (sE a g (Γ := Γ) (L := L) hm ha) (t := ta.bor) sh).sub fun σ H R ⟨env, Q, er, hE, kk⟩ => ?_
        unfold E at hE
        refine ⟨env, _, er, hE, fun v H' d s' rs hp => ⟨NA L H Aa, d, Q, rs.bor (Same.refl _), hp, fun v' H'' d' s'' r' q' => ?_⟩⟩
        exact kk v' H'' d' (s'.trans s'') (rs_of s' r') q'
      · cases hc
    · cases hm
  | .m1 m a b, sc, X, g, Γ, L, e, t, A, hm, hc => by
    unfold mE at hm
    split at hm
    · rename_i x y sh
      rw [Bool.and_eq_true] at hm
      unfold cE at hc
      split at hc
      · rename_i ta Aa tb Ab ha hb
        cases hc
        refine (m1_ok g tS_mon tS_mon (sE a g (Γ := Γ) (L := L) hm.1 ha) (sE b g (Γ := Γ) (L := L) hm.2 hb) (flat_bor ta) (flat_bor tb) sh).sub fun σ H R ⟨env, Q, er, hE, kk⟩ => ?_
        unfold E at hE
        refine ⟨env, _, er, hE, fun v H' d s' rs hE2 => ⟨?_, env, _, er.mono s', hE2.2, fun w H2 d2 s2 rs2 hp => ?_⟩⟩
        · have h2 := hE2.1
          have rb := rs.bor (Same.refl _)
          have fb := flat_bor ta
          cases m
          case lcnt => cases d <;> try exact h2.elim
                       obtain ⟨a, vs, e, _, r, _⟩ := repB_lst fb rb
                       exact ⟨a, vs, e, r⟩
          case lidx => cases d <;> try exact h2.elim
                       obtain ⟨a, vs, e, _, r, _⟩ := repB_lst fb rb
                       exact ⟨a, vs, e, r⟩
          case dget => cases d <;> try exact h2.elim
                       · obtain ⟨a, kvs, ds, e, _, r, _, _⟩ := repB_dK fb rb
                         exact ⟨a, e, .inl ⟨kvs, r⟩⟩
                       · obtain ⟨a, kvs, ds, e, _, r, _, _⟩ := repB_dT fb rb
                         exact ⟨a, e, .inr ⟨kvs, r⟩⟩
          all_goals
            cases d <;> try exact h2.elim
            exact ⟨_, rep_str rb.rep⟩
        refine ⟨NA L H (Aa ++ Ab), d, d2, Q, (rs.bor s2).mono (Same.refl _) (NA.mono fun i z => by simp [z]), (rs2.bor (Same.refl _)).mono (Same.refl _) (fun a z => NA.mono (fun i z => by simp [z]) a (NA.old s' a z)), hp, fun v' H'' d' s'' r' q' => ?_⟩
        exact kk v' H'' d' ((s'.trans s2).trans s'') (rs_of (s'.trans s2) r') q'
      · cases hc
    · cases hm
  | .gs x v, sc, X, g, Γ, L, e, t, A, hm, hc => by
    unfold mE at hm
    split at hm
    · simp only [Bool.and_eq_true, decide_eq_true_eq] at hm
      obtain ⟨⟨⟨rfl, gl⟩, nb⟩, hin⟩ := hm
      unfold cE at hc
      cases hc
      obtain ⟨u, hu, r⟩ := g.G.gcs _ hin
      refine (pe_glob (v := .str v) (g.gl gl) (by rw [g.hm]; exact hu) r (nm_of nb).1).sub fun σ H R ⟨env, Q, er, hE, kk⟩ => ?_
      unfold E at hE
      exact kk _ _ _ (Same.refl _) (.im (.str _)) hE
    · cases hm
  | .fit t0 a, sc, X, g, Γ, L, e, t, A, hm, hc => by
    unfold mE at hm
    rw [Bool.and_eq_true] at hm
    unfold cE at hc
    split at hc
    · rename_i ra Aa ha
      split at hc
      · rename_i ft
        cases hc
        refine (sE a g (Γ := Γ) (L := L) hm.2 ha).sub fun σ H R ⟨env, Q, er, hE, kk⟩ => ?_
        unfold E at hE
        refine ⟨env, _, er, hE, fun v H' d s' rs ⟨hf, hq⟩ => ?_⟩
        have rb := fit_rep (flat_bor ra) ft (rs.bor (Same.refl _)) hf
        refine kk v H' d s' ⟨[], .nil, fun _ z => absurd z (by simp), .bo ft ?_⟩ hq
        unfold als
        split
        · rename_i lf
          cases t0 with
          | im => exact rb
          | ow _ => cases ft
          | _ => cases lf
        · exact rb.mono (Same.refl _) fun a z => ⟨z, by simp⟩
      · cases hc
    · cases hc
  | .dic0 b, sc, X, g, Γ, L, e, t, A, hm, hc => by
    unfold mE at hm
    split at hm
    · unfold cE at hc
      cases hc
      cases b with
      | false =>
        refine pe_dnewK.sub fun σ H R ⟨env, Q, er, hE, kk⟩ p hp => ?_
        unfold E at hE
        exact kk (.ref p) _ (.dicK []) (same_new hp) ⟨[p], by simp, fun a z => by rw [List.mem_singleton.mp z]; exact hp, .owK (kvs := []) (ds := []) (F := []) ⟨upd_same, .nil⟩ .nil⟩ hE
      | true =>
        refine pe_dnewT.sub fun σ H R ⟨env, Q, er, hE, kk⟩ p hp => ?_
        unfold E at hE
        exact kk (.ref p) _ (.dicT []) (same_new hp) ⟨[p], by simp, fun a z => by rw [List.mem_singleton.mp z]; exact hp, .owT (kvs := []) (ds := []) (F := []) ⟨upd_same, .nil⟩ .nil⟩ hE
    · cases hm
  | .dic1 a b, sc, X, g, Γ, L, e, t, A, hm, hc => by
    unfold mE at hm
    split at hm
    · rw [Bool.and_eq_true] at hm
      unfold cE at hc
      split at hc
      · rename_i ra B ha hb
        obtain ⟨ta, Aa⟩ := ra
        cases hc
        cases hT : isTup a with
        | false =>
          refine (pe_disp (pps_cons (sE a g (Γ := Γ) (L := L) hm.1 ha) (sE b g (Γ := Γ) (L := L) hm.2 hb) pps_nil) rfl rfl (by simp) (by simp)).sub fun σ H R ⟨env, Q, er, hE, kk⟩ p hp => ?_
          unfold E at hE
          rw [hT] at hE
          refine ⟨env, _, er.mono (same_new hp), hE, fun x H1 dx s1 rsx hE2 => ⟨env, _, er.mono ((same_new hp).trans s1), hE2, fun y H2 dy s2 rsy ⟨k, ek, q⟩ => ?_⟩⟩
          have hp2 : H2 p = some (.dK []) := s2 _ _ (s1 _ _ upd_same)
          obtain rfl := key_rep (rsx.bor (Same.refl _)).rep ek
          refine ⟨hp2, [(k, y)], rfl, by simp, ?_⟩
          have cg : Chg [p] H2 (upd H2 p (.dK [(k, y)])) := by
            refine ⟨fun b u hb e => ?_, fun b hb => ?_⟩
            · rw [upd_ne (by simpa using hb)]
              exact e
            · rw [List.mem_singleton.mp hb, hp2]
              trivial
          refine kk (.ref p) (upd H2 p (.dK [(k, y)])) (.dicK [(k, dy)]) (fun b u e => ?_) ⟨[p], by simp, fun a z => by rw [List.mem_singleton.mp z]; exact hp, .owK (kvs := [(k, y)]) (ds := [dy]) (F := []) ⟨upd_same, by simp⟩ (.cons (F := []) (G := []) (.bo rfl (Rep.chg cg (fun _ z => z.elim) (fun _ z => z) (rsy.bor (Same.refl _)))) .nil)⟩ q
          rw [upd_ne (ne_of_none e hp)]
          exact s2 _ _ (s1 _ _ (by rw [upd_ne (ne_of_none e hp)]; exact e))
        | true =>
          refine (pe_dispT (sE a g (Γ := Γ) (L := L) hm.1 ha) (sE b g (Γ := Γ) (L := L) hm.2 hb) (by have := g.u; omega)).sub fun σ H R ⟨env, Q, er, hE, kk⟩ p hp => ?_
          unfold E at hE
          rw [hT] at hE
          refine ⟨env, _, er.mono (same_new hp), hE, fun x H1 dx s1 rsx hE2 => ⟨env, _, er.mono ((same_new hp).trans s1), hE2, fun y H2 dy s2 rsy ⟨k, ek, q⟩ => ?_⟩⟩
          have hp2 : H2 p = some (.dT []) := s2 _ _ (s1 _ _ upd_same)
          obtain ⟨b, rfl, hb2⟩ := keyT_rep (rsx.bor (Same.refl _)).rep ek
          refine ⟨hp2, k, b, rfl, s2 _ _ hb2, ?_⟩
          have cg : Chg [p] H2 (upd H2 p (.dT [(k, y)])) := by
            refine ⟨fun b u hb e => ?_, fun b hb => ?_⟩
            · rw [upd_ne (by simpa using hb)]
              exact e
            · rw [List.mem_singleton.mp hb, hp2]
              trivial
          refine kk (.ref p) (upd H2 p (.dT [(k, y)])) (.dicT [(k, dy)]) (fun b u e => ?_) ⟨[p], by simp, fun a z => by rw [List.mem_singleton.mp z]; exact hp, .owT (kvs := [(k, y)]) (ds := [dy]) (F := []) ⟨upd_same, by simp⟩ (.cons (F := []) (G := []) (.bo rfl (Rep.chg cg (fun _ z => z.elim) (fun _ z => z) (rsy.bor (Same.refl _)))) .nil)⟩ q
          rw [upd_ne (ne_of_none e hp)]
          exact s2 _ _ (s1 _ _ (by rw [upd_ne (ne_of_none e hp)]; exact e))
      · cases hc
    · cases hm
  | .lrng a, sc, X, g, Γ, L, e, t, A, hm, hc => by
    unfold mE at hm
    split at hm
    · rename_i x sh
      split at hm
      · rename_i y sh2
        obtain ⟨p, pos, rfl, gl, pl⟩ := asB1_of sh
        obtain ⟨p', pos', rfl, gl', pl'⟩ := asB1_of sh2
        unfold cE at hc
        split at hc
        · rename_i r1 ha
          obtain ⟨ta, Aa⟩ := r1
          cases hc
          refine (pe_listRg g.calm (g.gl gl) (g.nob (by decide +kernel)) (prg_1 (g.gl gl') (g.nob (by decide +kernel)) (sE a g (Γ := Γ) (L := L) hm ha) (plain_star pl')) (plain_star pl)).sub fun σ H R ⟨env, Q, er, hE, kk⟩ => ?_
          unfold E at hE
          refine ⟨env, _, er, hE, fun v H' d s' rs hp => ?_⟩
          cases d <;> try exact hp.elim
          rename_i n
          obtain rfl := rep_int (rs.bor (Same.refl _)).rep
          refine ⟨n, rfl, hp.1, fun q hq => kk _ _ _ (s'.trans (same_new hq)) ?_ hp.2⟩
          have hr : Paired (RepB G.K G.cls N0 H' .im) (rgV 0 n) (rngL 0 1 n.toNat) := by
            unfold rgV rngL
            rw [Int.sub_zero]
            have : ∀ l : List Nat, Paired (RepB G.K G.cls N0 H' .im) (l.map fun i => V.int (0 + (i : Nat))) (l.map fun i => D.int (0 + (i : Nat) * 1)) := fun l => by
              induction l with
              | nil => exact .nil
              | cons i l ih =>
                refine .cons ?_ ih
                show RepB G.K G.cls N0 H' .im (V.int (0 + (i : Nat))) (D.int (0 + (i : Nat) * 1))
                rw [Int.mul_one]
                exact .int _
            exact this _
          have r0 := rs_new (N := N0) hq rfl hr
          obtain ⟨F, nd, fr, r⟩ := r0
          exact ⟨F, nd, fun a z => s'.free (fr a z), leaf_N rfl r⟩
        · cases hc
      · cases hm
    · cases hm
  | .slc kd bl bh a lo hi, sc, X, g, Γ, L, e, t, A, hm, hc => by
    unfold mE at hm
    split at hm
    · rename_i x l h p pos
      simp only [Bool.and_eq_true] at hm
      obtain ⟨⟨h1, h2⟩, h3⟩ := hm
      unfold cE at hc
      split at hc
      · rename_i ta Aa ha
        split at hc
        · rename_i hsome
          cases hc
          obtain ⟨r, hr, i⟩ := sl_ok (X := X) (G := G) g.hK (b := kd) (flat_bor ta)
          have pa := sE a g (Γ := Γ) (L := L) h1 ha
          have part : ∀ (b : Bool) (c : CE) (o : Option Expr), (∀ {e : Expr} {t : T} {A : List Nat}, mE N (names G) false c sc e = true → cE G.fns false Γ c = some (t, A) → PE X e (tS G (Cw (FTof G.fns) k) Γ L c t A)) → (match o with | some y => b && mE N (names G) false c sc y | none => !b) = true → (b = true → (cE G.fns false Γ c).isSome = true) →
              PO X o (fun σ H R => ∃ env, ER G.K G.cls Γ L H σ env ∧ ∃ Q, (if b = true then fun R => E (Cw (FTof G.fns) k) c env fun d => onI d R else fun R => R none) Q ∧ ∀ i H', Same H H' → Q i → R i H') := by
            intro b c o pe hmo hco
            cases o with
            | none =>
              have hb : b = false := by simpa using hmo
              subst hb
              exact po_sub po_none fun σ H R ⟨env, er, Q, hq, kk⟩ => kk none H (Same.refl _) hq
            | some y =>
              simp only [Bool.and_eq_true] at hmo
              obtain ⟨hb, hmo⟩ := hmo
              subst hb
              cases hcc : cE G.fns false Γ c with
              | none => have := hco rfl; rw [hcc] at this; cases this
              | some r =>
                obtain ⟨u, B⟩ := r
                refine po_sub (po_some (pe hmo hcc)) fun σ H R ⟨env, er, Q, hq, kk⟩ => ⟨env, _, er, hq, fun v H' d s' rs hd => ?_⟩
                cases d <;> try exact hd.elim
                rename_i n
                obtain rfl := rep_int (rs.bor (Same.refl _)).rep
                exact ⟨n, rfl, kk (some n) H' s' hd⟩
          refine (pe_slice hr pa (part bl lo l (fun h1 h2 => sE lo g h1 h2) h2 hsome.1) (part bh hi h (fun h1 h2 => sE hi g h1 h2) h3 hsome.2)).sub fun σ H R ⟨env, Q, er, hE, kk⟩ => ?_
          unfold E at hE
          refine ⟨env, _, er, hE, fun v H' d s' rs hE2 => ⟨env, er.mono s', _, hE2, fun il H2 s2 hE3 => ⟨env, (er.mono s').mono s2, _, hE3, fun ih H3 s3 hp => i _ _ _ _ _ ?_⟩⟩⟩
          refine ⟨NA L H Aa, d, Q, rs.bor (s2.trans s3), hp, fun v' H'' d' s'' r' q' => ?_⟩
          exact kk v' H'' d' (((s'.trans s2).trans s3).trans s'') (rs_of ((s'.trans s2).trans s3) r') q'
        · cases hc
      · cases hc
    · cases hm
  | .comp own g0 elt it c, sc, X, g, Γ, L, e, t, A, hm, hc => by
    have pc := comp_pe g (fun g => sE it g) (sK it) (fun g => sE elt g) (fun {_ _} g {_ _ _ _} h1 h2 => (sT c g h1 h2).1) hm hc (L := L)
    obtain ⟨el, tg, iter, ifs, scope, pos, wi, gg, tt, te, rfl, hi, ok, hg, ht, he, hs, hlc⟩ := pc
    exact pe_frz (pe_lc g.calm (by rw [g.hN]; exact g.nd) hi ok hg ht he hs) hlc
  | .rng1 a, sc, X, g, Γ, L, e, t, A, hm, hc => by unfold mE at hm; cases hm
  | .rng2 a b, sc, X, g, Γ, L, e, t, A, hm, hc => by unfold mE at hm; cases hm
  | .rng3 a b c, sc, X, g, Γ, L, e, t, A, hm, hc => by unfold mE at hm; cases hm
  | .ien a, sc, X, g, Γ, L, e, t, A, hm, hc => by unfold mE at hm; cases hm
  | .izp a b, sc, X, g, Γ, L, e, t, A, hm, hc => by unfold mE at hm; cases hm
  | .irv a, sc, X, g, Γ, L, e, t, A, hm, hc => by unfold mE at hm; cases hm
/-- the parts of what is walked -/
theorem sK : ∀ (c : CE), Kids G k N c
  | .rng1 a => fun g => sE a g
  | .rng2 a b => ⟨fun g => sE a g, fun g => sE b g⟩
  | .rng3 a b c => ⟨fun g => sE a g, fun g => sE b g, fun g => sE c g⟩
  | .ien a => fun g => sE a g
  | .izp a b => ⟨fun g => sE a g, fun g => sE b g⟩
  | .irv a => fun g => sE a g
  | .ikd a => fun g => sE a g
  | .irr a => fun g => sE a g
  | .chn _ _ _ _ _ => trivial
  | .b2 _ _ _ => trivial
  | .m0 _ _ => trivial
  | .m1 _ _ _ => trivial
  | .slc _ _ _ _ _ _ => trivial
  | .gs _ _ => trivial
  | .fit _ _ => trivial
  | .dic0 _ => trivial
  | .dic1 _ _ => trivial
  | .lrng _ => trivial
  | .comp _ _ _ _ _ => trivial
  | .var _ => trivial
  | .int _ => trivial
  | .str _ => trivial
  | .bl _ => trivial
  | .non => trivial
  | .o1 _ _ => trivial
  | .o2 _ _ _ => trivial
  | .and _ _ => trivial
  | .or _ _ => trivial
  | .not _ => trivial
  | .ifx _ _ _ => trivial
  | .lst _ => trivial
  | .tup _ => trivial
  | .tupo _ => trivial
  | .call _ _ => trivial
  | .calp _ _ _ => trivial
  | .fld _ _ _ _ => trivial
  | .isc _ _ _ _ => trivial
  | .meth _ _ _ _ => trivial
  | .make _ _ _ _ => trivial
  | .nil => trivial
  | .cons _ _ => trivial
/-- tests -/
theorem sT : ∀ (c : CE) {sc : Scope} {X : Cx} (g : Good G k N sc X) {Γ : List T} {L : Nat → Addr → Prop} {e : Expr} {r : T × List Nat}, mE N (names G) false c sc e = true → cE G.fns false Γ c = some r → PT X e (tST G (Cw (FTof G.fns) k) Γ L c) ∧ (boolB e = true → PW X e (tST G (Cw (FTof G.fns) k) Γ L c))
  | .and a b, sc, X, g, Γ, L, e, r, hm, hc => by
    unfold mE at hm
    split at hm
    · rename_i x y sh
      rw [Bool.and_eq_true] at hm
      unfold cE at hc
      split at hc
      · rename_i ra tb Ab ha hb
        have p1 := (sT a g (Γ := Γ) (L := L) hm.1 ha).1
        have p2 := sT b g (Γ := Γ) (L := L) hm.2 hb
        have key : PW X e (tAnd (tST G (Cw (FTof G.fns) k) Γ L a) (tST G (Cw (FTof G.fns) k) Γ L b)) := by
          rcases asBool_of sh with ⟨pos, rfl⟩ | ⟨_, _, _, pos, rfl, rfl⟩
          · exact pw_and p1 (pw_and1 p2.1)
          · exact pw_and p1 (p2.2 rfl)
        have key2 : PW X e (tST G (Cw (FTof G.fns) k) Γ L (.and a b)) := key.sub fun σ H R ⟨env, P1, P2, er, hE, k1, k2⟩ => by
          unfold E at hE
          exact ⟨env, _, _, er, hE, fun H' s' h => iteT ⟨env, P1, P2, er.mono s', h, fun H'' s'' => k1 H'' (s'.trans s''), fun H'' s'' => k2 H'' (s'.trans s'')⟩, fun H' s' h => iteF (k2 H' s' h)⟩
        exact ⟨key2.pt, fun _ => key2⟩
      · cases hc
    · cases hm
  | .or a b, sc, X, g, Γ, L, e, r, hm, hc => by
    unfold mE at hm
    split at hm
    · rename_i x y sh
      rw [Bool.and_eq_true] at hm
      unfold cE at hc
      split at hc
      · rename_i ra tb Ab ha hb
        have p1 := (sT a g (Γ := Γ) (L := L) hm.1 ha).1
        have p2 := sT b g (Γ := Γ) (L := L) hm.2 hb
        have key : PW X e (tOr (tST G (Cw (FTof G.fns) k) Γ L a) (tST G (Cw (FTof G.fns) k) Γ L b)) := by
          rcases asBool_of sh with ⟨pos, rfl⟩ | ⟨_, _, _, pos, rfl, rfl⟩
          · exact pw_or p1 (pw_or1 p2.1)
          · exact pw_or p1 (p2.2 rfl)
        have key2 : PW X e (tST G (Cw (FTof G.fns) k) Γ L (.or a b)) := key.sub fun σ H R ⟨env, P1, P2, er, hE, k1, k2⟩ => by
          unfold E at hE
          exact ⟨env, _, _, er, hE, fun H' s' h => iteT (k1 H' s' h), fun H' s' h => iteF ⟨env, P1, P2, er.mono s', h, fun H'' s'' => k1 H'' (s'.trans s''), fun H'' s'' => k2 H'' (s'.trans s'')⟩⟩
        exact ⟨key2.pt, fun _ => key2⟩
      · cases hc
    · cases hm
  | .not a, sc, X, g, Γ, L, e, r, hm, hc => by
    unfold mE at hm
    split at hm
    · rename_i x sh
      unfold cE at hc
      split at hc
      · rename_i ra ha
        obtain ⟨pos, rfl⟩ := asUn_of sh
        refine ⟨(pt_not (sT a g (Γ := Γ) (L := L) hm ha).1).sub fun σ H R ⟨env, P1, P2, er, hE, k1, k2⟩ => ?_, fun z => by cases z⟩
        unfold E at hE
        exact ⟨env, _, _, er, hE, fun H' s' h => k2 H' s' h, fun H' s' h => k1 H' s' h⟩
      · cases hc
    · cases hm
  | .o1 p a, sc, X, g, Γ, L, e, r, hm, hc => by
    obtain ⟨t, A⟩ := r
    have p0 := sE (.o1 p a) g (Γ := Γ) (L := L) hm hc
    by_cases hB : (p = .isT ∨ p = .isF)
    · unfold mE at hm
      split at hm
      · rename_i x sh
        unfold cE at hc
        split at hc
        · rename_i ta Aa ha
          split at hc
          · rename_i t' ht
            have pa := sE a g (Γ := Γ) (L := L) hm ha
            have fin : ∀ {op : CmpOp} {r : R2} {y : V}, (∀ v H R, A1 G p ta.bor t' R v H → r v y H R) → ∀ σ H (R : Bool → Hp → Prop), tST G (Cw (FTof G.fns) k) Γ L (.o1 p a) σ H R → tTest (tOp r (tS G (Cw (FTof G.fns) k) Γ L a ta Aa) (tC y)) σ H R := by
              intro op r y i σ H R ⟨env, P1, P2, er, hE, k1, k2⟩
              unfold E at hE
              refine ⟨env, _, er, hE, fun v H' d s' rs hp => i _ _ _ ⟨NA L H Aa, d, _, rs.bor (Same.refl _), hp, fun v' H'' d' s'' r' q' => ?_⟩⟩
              obtain ⟨b, rfl, -, h1, h2⟩ := rep_onB ((rs_of s' r').bor (Same.refl _)).rep q'
              refine ⟨b, rfl, ?_⟩
              cases b with
              | true => exact k1 _ (s'.trans s'') (h1 rfl)
              | false => exact k2 _ (s'.trans s'') (h2 rfl)
            rcases hB with rfl | rfl
            · obtain ⟨pos, j, p, rfl⟩ := asCmpB_of (b := true) sh
              exact ⟨(pt_cmpR op_isB pa pe_bl (nomark _)).sub (fin (op := .Is) (p1_B (.inl ⟨rfl, rfl⟩) ht)), fun z => by cases z⟩
            · obtain ⟨pos, j, p, rfl⟩ := asCmpB_of (b := false) sh
              exact ⟨(pt_cmpR op_isB pa pe_bl (nomark _)).sub (fin (op := .Is) (p1_B (.inr ⟨rfl, rfl⟩) ht)), fun z => by cases z⟩
          · cases hc
        · cases hc
      · cases hm
    by_cases hN : (p = .isN ∨ p = .notN)
    · unfold mE at hm
      split at hm
      · rename_i x sh
        unfold cE at hc
        split at hc
        · rename_i ta Aa ha
          split at hc
          · rename_i t' ht
            have pa := sE a g (Γ := Γ) (L := L) hm ha
            have fin : ∀ {op : CmpOp} {r : R2}, (∀ v H R, A1 G p ta.bor t' R v H → r v .non H R) → ∀ σ H (R : Bool → Hp → Prop), tST G (Cw (FTof G.fns) k) Γ L (.o1 p a) σ H R → tTest (tOp r (tS G (Cw (FTof G.fns) k) Γ L a ta Aa) (tC .non)) σ H R := by
              intro op r i σ H R ⟨env, P1, P2, er, hE, k1, k2⟩
              unfold E at hE
              refine ⟨env, _, er, hE, fun v H' d s' rs hp => i _ _ _ ⟨NA L H Aa, d, _, rs.bor (Same.refl _), hp, fun v' H'' d' s'' r' q' => ?_⟩⟩
              obtain ⟨b, rfl, -, h1, h2⟩ := rep_onB ((rs_of s' r').bor (Same.refl _)).rep q'
              refine ⟨b, rfl, ?_⟩
              cases b with
              | true => exact k1 _ (s'.trans s'') (h1 rfl)
              | false => exact k2 _ (s'.trans s'') (h2 rfl)
            rcases hN with rfl | rfl
            · obtain ⟨r, hr, i⟩ := p1_N (X := X) (G := G) (.inl ⟨rfl, rfl⟩) ht
              obtain ⟨pos, j, p, rfl⟩ := asCmpN_of sh
              exact ⟨(pt_cmpR hr pa pe_non (nomark _)).sub (fin (op := .Is) i), fun z => by cases z⟩
            · obtain ⟨r, hr, i⟩ := p1_N (X := X) (G := G) (.inr ⟨rfl, rfl⟩) ht
              obtain ⟨pos, j, p, rfl⟩ := asCmpN_of sh
              exact ⟨(pt_cmpR hr pa pe_non (nomark _)).sub (fin (op := .Is) i), fun z => by cases z⟩
          · cases hc
        · cases hc
      · cases hm
    · have hv : valTest e = true ∧ boolB e = false := by
        unfold mE at hm
        split at hm
        · rename_i x sh
          cases p with
          | isN => exact absurd (.inl rfl) hN
          | notN => exact absurd (.inr rfl) hN
          | isT => exact absurd (.inl rfl) hB
          | isF => exact absurd (.inr rfl) hB
          | lset =>
            have sh : (match asB1 "len" sc e with | some y => asB1 "set" sc y | none => none) = some x := sh
            cases hy : asB1 "len" sc e with
            | none => rw [hy] at sh; cases sh
            | some y => obtain ⟨_, pos, rfl, _⟩ := asB1_of hy; exact ⟨rfl, rfl⟩
          | neg => obtain ⟨pos, rfl⟩ := asUn_of sh; exact ⟨rfl, rfl⟩
          | abs => obtain ⟨_, pos, rfl, _⟩ := asB1_of sh; exact ⟨rfl, rfl⟩
          | len => obtain ⟨_, pos, rfl, _⟩ := asB1_of sh; exact ⟨rfl, rfl⟩
          | isi ty =>
            have sh' : (if ty ∈ tys then asIsi (strOf ty) sc e else none) = some x := sh
            split at sh'
            · obtain ⟨_, _, pos, rfl, _⟩ := asIsi_of sh'; exact ⟨rfl, rfl⟩
            · cases sh'
          | _ => obtain ⟨_, pos, rfl, _⟩ := asB1_of sh; exact ⟨rfl, rfl⟩
        · cases hm
      exact ⟨test_val p0 hv.1, fun z => by rw [hv.2] at z; cases z⟩
  | .o2 p a b, sc, X, g, Γ, L, e, r, hm, hc => by
    obtain ⟨t, A⟩ := r
    have p0 := sE (.o2 p a b) g (Γ := Γ) (L := L) hm hc
    cases hop : cmpOf p with
    | some op =>
      unfold mE at hm
      split at hm
      · rename_i x y sh
        rw [Bool.and_eq_true] at hm
        unfold cE at hc
        split at hc
        · rename_i ta Aa tb Ab ha hb
          split at hc
          · rename_i t' ht
            rw [sh2_cmp hop] at sh
            obtain ⟨pos, rfl, pl⟩ := asCmp_of sh
            obtain ⟨r, hr, i⟩ := p2_cmp g hop (flat_bor ta) (flat_bor tb) ht
            refine ⟨(pt_cmpR hr (sE a g (Γ := Γ) (L := L) hm.1 ha) (sE b g (Γ := Γ) (L := L) hm.2 hb) (plain_mark pl)).sub fun σ H R ⟨env, P1, P2, er, hE, k1, k2⟩ => ?_, fun z => by cases z⟩
            unfold E at hE
            refine ⟨env, _, er, hE, fun v H' d s' rs hE2 => ⟨env, _, er.mono s', hE2, fun w H2 d2 s2 rs2 hp => i _ _ _ _ ?_⟩⟩
            refine ⟨NA L H (Aa ++ Ab), d, d2, _, (rs.bor s2).mono (Same.refl _) (NA.mono fun i z => by simp [z]), (rs2.bor (Same.refl _)).mono (Same.refl _) (fun a z => NA.mono (fun i z => by simp [z]) a (NA.old s' a z)), hp, fun v' H'' d' s'' r' q' => ?_⟩
            obtain ⟨b, rfl, -, h1, h2⟩ := rep_onB ((rs_of (s'.trans s2) r').bor (Same.refl _)).rep q'
            refine ⟨b, rfl, ?_⟩
            cases b with
            | true => exact k1 _ ((s'.trans s2).trans s'') (h1 rfl)
            | false => exact k2 _ ((s'.trans s2).trans s'') (h2 rfl)
          · cases hc
        · cases hc
      · cases hm
    | none =>
      have hv : valTest e = true ∧ boolB e = false := by
        unfold mE at hm
        split at hm
        · rename_i x y sh
          cases hb : binOf p with
          | some op =>
            rw [sh2_bin hb] at sh
            obtain ⟨pos, rfl⟩ := asBin_of sh
            exact ⟨rfl, rfl⟩
          | none =>
            obtain rfl : p = .idx := by cases p <;> simp_all [binOf, cmpOf]
            obtain ⟨pos, rfl, _⟩ := asSub_of sh
            exact ⟨rfl, rfl⟩
        · cases hm
      exact ⟨test_val p0 hv.1, fun z => by rw [hv.2] at z; cases z⟩
  | .var i, sc, X, g, Γ, L, e, r, hm, hc => by
    obtain ⟨t, A⟩ := r
    have p0 := sE (.var i) g (Γ := Γ) (L := L) hm hc
    unfold mE at hm
    split at hm
    · exact ⟨test_val p0 rfl, fun z => by cases z⟩
    · cases hm
  | .bl i, sc, X, g, Γ, L, e, r, hm, hc => by
    obtain ⟨t, A⟩ := r
    have p0 := sE (.bl i) g (Γ := Γ) (L := L) hm hc
    unfold mE at hm
    split at hm
    · exact ⟨test_val p0 rfl, fun z => by cases z⟩
    · cases hm
  | .call f es, sc, X, g, Γ, L, e, r, hm, hc => by
    obtain ⟨t, A⟩ := r
    have p0 := sE (.call f es) g (Γ := Γ) (L := L) hm hc
    unfold mE at hm
    split at hm
    · exact ⟨test_val p0 rfl, fun z => by cases z⟩
    · cases hm
  | .calp f es df, sc, X, g, Γ, L, e, r, hm, hc => by
    obtain ⟨t, A⟩ := r
    have p0 := sE (.calp f es df) g (Γ := Γ) (L := L) hm hc
    unfold mE at hm
    split at hm
    · exact ⟨test_val p0 rfl, fun z => by cases z⟩
    · cases hm
  | .ikd a, sc, X, g, Γ, L, e, r, hm, hc => by unfold mE at hm; cases hm
  | .irr a, sc, X, g, Γ, L, e, r, hm, hc => by unfold mE at hm; cases hm
  | .chn p q a b c, sc, X, g, Γ, L, e, r, hm, hc => by
    unfold mE at hm
    split at hm
    · rename_i op op' ho ho'
      split at hm
      · rename_i x y z sh
        simp only [Bool.and_eq_true] at hm
        obtain ⟨pos, rfl, py, pz⟩ := asChn_of sh
        unfold cE at hc
        split at hc
        · rename_i ra rb rc ha hb hcc
          obtain ⟨ta, Aa⟩ := ra
          obtain ⟨tb, Ab⟩ := rb
          obtain ⟨tc, Ac⟩ := rc
          cases hc
          obtain ⟨r, hr, i⟩ := p2_cmp g (ord_cmp ho) (flat_bor ta) (flat_bor tb) (ord_T ho _ _)
          obtain ⟨r', hr', i'⟩ := p2_cmp g (ord_cmp ho') (t := .im) rfl (flat_bor tc) (ord_T ho' _ _)
          refine ⟨(pt_chain hr hr' (sE a g (Γ := Γ) (L := L) hm.1.1 ha) (sE b g (Γ := Γ) (L := L) hm.1.2 hb) (sE c g (Γ := Γ) (L := L) hm.2 hcc) (plain_mark pz)).sub fun σ H R ⟨env, P1, P2, er, hE, k1, k2⟩ => ?_, fun z => by cases z⟩
          unfold E at hE
          refine ⟨env, _, er, hE, fun v H' d s' rs hE2 => ⟨env, _, er.mono s', hE2, fun w H2 d2 s2 rs2 hp => i _ _ _ _ ?_⟩⟩
          obtain ⟨iA, iB, rfl, rfl⟩ := ord_int ho hp
          obtain rfl := rep_int (rs2.bor (Same.refl _)).rep
          refine ⟨NA L H (Aa ++ Ab), _, _, _, (rs.bor s2).mono (Same.refl _) (NA.mono fun i z => by simp [z]), RepB.of_im (.int _), hp, fun v' H'' d' s'' r1 q' => ?_⟩
          obtain ⟨bb, rfl, -, h1, h2⟩ := rep_onB ((rs_of (s'.trans s2) r1).bor (Same.refl _)).rep q'
          refine ⟨bb, rfl, ?_⟩
          have s3' := (s'.trans s2).trans s''
          cases bb with
          | true =>
            refine iteT ⟨env, _, er.mono s3', h1 rfl, fun w3 H3 d3 s3 rs3 hp3 => i' _ _ _ _ ⟨NA L H Ac, .int iB, d3, _, RepB.of_im (.int _), (rs3.bor (Same.refl _)).mono (Same.refl _) (fun a z => NA.old s3' a z), hp3, fun v4 H4 d4 s4 r4 q4 => ?_⟩⟩
            obtain ⟨b4, rfl, -, h3, h4⟩ := rep_onB ((rs_of (s3'.trans s3) r4).bor (Same.refl _)).rep q4
            refine ⟨b4, rfl, ?_⟩
            cases b4 with
            | true => exact k1 _ ((s3'.trans s3).trans s4) (h3 rfl)
            | false => exact k2 _ ((s3'.trans s3).trans s4) (h4 rfl)
          | false => exact iteF ⟨false, rfl, k2 _ s3' (h2 rfl)⟩
        · cases hc
      · cases hm
    · cases hm
  | .isc c x cs a, sc, X, g, Γ, L, e, r, hm, hc => by
    obtain ⟨t, A⟩ := r
    have p0 := sE (.isc c x cs a) g (Γ := Γ) (L := L) hm hc
    unfold mE at hm
    split at hm
    · rename_i y sh
      obtain ⟨_, _, _, rfl, _⟩ := asIsi_of sh
      exact ⟨test_val p0 rfl, fun z => by cases z⟩
    · cases hm
  | .fld f i cs a, sc, X, g, Γ, L, e, r, hm, hc => by
    obtain ⟨t, A⟩ := r
    have p0 := sE (.fld f i cs a) g (Γ := Γ) (L := L) hm hc
    unfold mE at hm
    split at hm
    · exact ⟨test_val p0 rfl, fun z => by cases z⟩
    · cases hm
  | .meth m tb a es, sc, X, g, Γ, L, e, r, hm, hc => by
    obtain ⟨t, A⟩ := r
    have p0 := sE (.meth m tb a es) g (Γ := Γ) (L := L) hm hc
    unfold mE at hm
    split at hm
    · exact ⟨test_val p0 rfl, fun z => by cases z⟩
    · cases hm
  | .make c f nd es, sc, X, g, Γ, L, e, r, hm, hc => by
    obtain ⟨t, A⟩ := r
    have p0 := sE (.make c f nd es) g (Γ := Γ) (L := L) hm hc
    unfold mE at hm
    split at hm
    · exact ⟨test_val p0 rfl, fun z => by cases z⟩
    · cases hm
  | .int i, sc, X, g, Γ, L, e, r, hm, hc => by
    obtain ⟨t, A⟩ := r
    have p0 := sE (.int i) g (Γ := Γ) (L := L) hm hc
    unfold mE at hm
    split at hm
    · exact ⟨test_val p0 rfl, fun z => by cases z⟩
    · cases hm
  | .str i, sc, X, g, Γ, L, e, r, hm, hc => by
    obtain ⟨t, A⟩ := r
    have p0 := sE (.str i) g (Γ := Γ) (L := L) hm hc
    unfold mE at hm
    split at hm
    · exact ⟨test_val p0 rfl, fun z => by cases z⟩
    · cases hm
  | .non, sc, X, g, Γ, L, e, r, hm, hc => by
    obtain ⟨t, A⟩ := r
    have p0 := sE .non g (Γ := Γ) (L := L) hm hc
    unfold mE at hm
    split at hm
    · exact ⟨test_val p0 rfl, fun z => by cases z⟩
    · cases hm
  | .lst es, sc, X, g, Γ, L, e, r, hm, hc => by
    obtain ⟨t, A⟩ := r
    have p0 := sE (.lst es) g (Γ := Γ) (L := L) hm hc
    unfold mE at hm
    split at hm
    · exact ⟨test_val p0 rfl, fun z => by cases z⟩
    · cases hm
  | .tup es, sc, X, g, Γ, L, e, r, hm, hc => by
    obtain ⟨t, A⟩ := r
    have p0 := sE (.tup es) g (Γ := Γ) (L := L) hm hc
    unfold mE at hm
    split at hm
    · exact ⟨test_val p0 rfl, fun z => by cases z⟩
    · cases hm
  | .tupo es, sc, X, g, Γ, L, e, r, hm, hc => by
    obtain ⟨t, A⟩ := r
    have p0 := sE (.tupo es) g (Γ := Γ) (L := L) hm hc
    unfold mE at hm
    split at hm
    · exact ⟨test_val p0 rfl, fun z => by cases z⟩
    · cases hm
  | .ifx c a b, sc, X, g, Γ, L, e, r, hm, hc => by
    unfold mE at hm
    split at hm
    · simp only [Bool.and_eq_true] at hm
      unfold cE at hc
      split at hc
      · rename_i rc ta Aa tb Ab h0 ha hb
        have p0 := (sT c g (Γ := Γ) (L := L) hm.1.1 h0).1
        have p1 := (sT a g (Γ := Γ) (L := L) hm.1.2 ha).1
        have p2 := (sT b g (Γ := Γ) (L := L) hm.2 hb).1
        refine ⟨(pt_ifx p0 p1 p2).sub fun σ H R ⟨env, P1, P2, er, hE, k1, k2⟩ => ?_, fun z => by cases z⟩
        unfold E at hE
        exact ⟨env, _, _, er, hE, fun H' s' h => iteT ⟨env, P1, P2, er.mono s', h, fun H'' s'' => k1 H'' (s'.trans s''), fun H'' s'' => k2 H'' (s'.trans s'')⟩, fun H' s' h => iteF ⟨env, P1, P2, er.mono s', h, fun H'' s'' => k1 H'' (s'.trans s''), fun H'' s'' => k2 H'' (s'.trans s'')⟩⟩
      · cases hc
    · cases hm
  | .nil, sc, X, g, Γ, L, e, r, hm, hc => by unfold mE at hm; cases hm
  | .cons a b, sc, X, g, Γ, L, e, r, hm, hc => by unfold mE at hm; cases hm
  | .rng1 a, sc, X, g, Γ, L, e, r, hm, hc => by unfold mE at hm; cases hm
  | .rng2 a b, sc, X, g, Γ, L, e, r, hm, hc => by unfold mE at hm; cases hm
  | .rng3 a b c, sc, X, g, Γ, L, e, r, hm, hc => by unfold mE at hm; cases hm
  | .b2 f a b, sc, X, g, Γ, L, e, r, hm, hc => by
    obtain ⟨t, A⟩ := r
    have p0 := sE (.b2 f a b) g (Γ := Γ) (L := L) hm hc
    have hv : valTest e = true ∧ boolB e = false := by
      unfold mE at hm
      split at hm
      · rename_i sh
        cases f <;> (obtain ⟨_, _, rfl, _⟩ := asB2_of sh; exact ⟨rfl, rfl⟩)
      · cases hm
    exact ⟨test_val p0 hv.1, fun z => by rw [hv.2] at z; cases z⟩
  | .m0 m a, sc, X, g, Γ, L, e, r, hm, hc => by
    obtain ⟨t, A⟩ := r
    have p0 := sE (.m0 m a) g (Γ := Γ) (L := L) hm hc
    have hv : valTest e = true ∧ boolB e = false := by
      unfold mE at hm
      split at hm
      · rename_i sh
        obtain ⟨_, _, rfl, _⟩ := asM0_of sh; exact ⟨rfl, rfl⟩
      · cases hm
    exact ⟨test_val p0 hv.1, fun z => by rw [hv.2] at z; cases z⟩
  | .m1 m a b, sc, X, g, Γ, L, e, r, hm, hc => by
    obtain ⟨t, A⟩ := r
    have p0 := sE (.m1 m a b) g (Γ := Γ) (L := L) hm hc
    have hv : valTest e = true ∧ boolB e = false := by
      unfold mE at hm
      split at hm
      · rename_i sh
        obtain ⟨_, _, rfl, _⟩ := asM1_of sh; exact ⟨rfl, rfl⟩
      · cases hm
    exact ⟨test_val p0 hv.1, fun z => by rw [hv.2] at z; cases z⟩
  | .gs x v, sc, X, g, Γ, L, e, r, hm, hc => by
    obtain ⟨t, A⟩ := r
    have p0 := sE (.gs x v) g (Γ := Γ) (L := L) hm hc
    have hv : valTest e = true ∧ boolB e = false := by
      unfold mE at hm
      split at hm
      · exact ⟨rfl, rfl⟩
      · cases hm
    exact ⟨test_val p0 hv.1, fun z => by rw [hv.2] at z; cases z⟩
  | .fit t0 a, sc, X, g, Γ, L, e, r, hm, hc => by
    obtain ⟨t, A⟩ := r
    have p0 := sE (.fit t0 a) g (Γ := Γ) (L := L) hm hc
    have hv : valTest e = true ∧ boolB e = false := by
      unfold mE at hm
      simp only [Bool.and_eq_true, Bool.not_eq_true'] at hm
      exact hm.1.1
    exact ⟨test_val p0 hv.1, fun z => by rw [hv.2] at z; cases z⟩
  | .dic0 b, sc, X, g, Γ, L, e, r, hm, hc => by
    obtain ⟨t, A⟩ := r
    have p0 := sE (.dic0 b) g (Γ := Γ) (L := L) hm hc
    have hv : valTest e = true ∧ boolB e = false := by
      unfold mE at hm
      split at hm
      · exact ⟨rfl, rfl⟩
      · cases hm
    exact ⟨test_val p0 hv.1, fun z => by rw [hv.2] at z; cases z⟩
  | .dic1 a b, sc, X, g, Γ, L, e, r, hm, hc => by
    obtain ⟨t, A⟩ := r
    have p0 := sE (.dic1 a b) g (Γ := Γ) (L := L) hm hc
    have hv : valTest e = true ∧ boolB e = false := by
      unfold mE at hm
      split at hm
      · exact ⟨rfl, rfl⟩
      · cases hm
    exact ⟨test_val p0 hv.1, fun z => by rw [hv.2] at z; cases z⟩
  | .lrng a, sc, X, g, Γ, L, e, r, hm, hc => by
    obtain ⟨t, A⟩ := r
    have p0 := sE (.lrng a) g (Γ := Γ) (L := L) hm hc
    have hv : valTest e = true ∧ boolB e = false := by
      unfold mE at hm
      split at hm
      · rename_i sh
        obtain ⟨_, _, rfl, _⟩ := asB1_of sh
        exact ⟨rfl, rfl⟩
      · cases hm
    exact ⟨test_val p0 hv.1, fun z => by rw [hv.2] at z; cases z⟩
  | .slc kd bl bh a lo hi, sc, X, g, Γ, L, e, r, hm, hc => by
    obtain ⟨t, A⟩ := r
    have p0 := sE (.slc kd bl bh a lo hi) g (Γ := Γ) (L := L) hm hc
    have hv : valTest e = true ∧ boolB e = false := by
      unfold mE at hm
      split at hm
      · exact ⟨rfl, rfl⟩
      · cases hm
    exact ⟨test_val p0 hv.1, fun z => by rw [hv.2] at z; cases z⟩
  | .comp own g0 elt it c, sc, X, g, Γ, L, e, r, hm, hc => by
    obtain ⟨t, A⟩ := r
    have p0 := sE (.comp own g0 elt it c) g (Γ := Γ) (L := L) hm hc
    have hv : valTest e = true ∧ boolB e = false := by
      unfold mE at hm
      split at hm
      · exact ⟨rfl, rfl⟩
      · cases hm
    exact ⟨test_val p0 hv.1, fun z => by rw [hv.2] at z; cases z⟩
  | .ien a, sc, X, g, Γ, L, e, r, hm, hc => by unfold mE at hm; cases hm
  | .izp a b, sc, X, g, Γ, L, e, r, hm, hc => by unfold mE at hm; cases hm
  | .irv a, sc, X, g, Γ, L, e, r, hm, hc => by unfold mE at hm; cases hm
theorem sEs : ∀ (c : CE) {sc : Scope} {X : Cx} (g : Good G k N sc X) {Γ : List T} {L : Nat → Addr → Prop} {e : List Expr} {ts : List T} {A : List Nat}, mEs N (names G) c sc e = true → cL G.fns Γ c = some (ts, A) → PA X e (tSL G (Cw (FTof G.fns) k) Γ L c ts A)
  | .nil, sc, X, g, Γ, L, e, ts, A, hm, hc => by
    unfold mEs at hm
    split at hm
    · unfold cL at hc
      cases hc
      refine pa_nil.sub fun σ H R ⟨env, Q, er, hE, kk⟩ => ?_
      unfold Es at hE
      exact kk [] H [] (Same.refl _) ⟨[], .nil, (fun _ z => absurd z (by simp)), .nil⟩ hE
    · cases hm
  | .cons a b, sc, X, g, Γ, L, e, ts, A, hm, hc => by
    unfold mEs at hm
    split at hm
    · rename_i x xs
      simp only [Bool.and_eq_true] at hm
      unfold cL at hc
      split at hc
      · rename_i t Aa ts Ab ha hb
        cases hc
        refine (pa_cons (sE a g (Γ := Γ) (L := L) hm.1.2 ha) (sEs b g (Γ := Γ) (L := L) hm.2 hb) (plain_star hm.1.1)).sub fun σ H R ⟨env, Q, er, hE, kk⟩ => ?_
        unfold Es at hE
        refine ⟨env, _, er, hE, fun v H' d s' rs hE2 => ⟨env, _, er.mono s', hE2, fun vs H2 ds s2 rs2 hq => ?_⟩⟩
        refine kk _ _ _ (s'.trans s2) ?_ hq
        obtain ⟨F, nd, fr, r⟩ := rs
        obtain ⟨F2, nd2, fr2, r2⟩ := rs2
        have bx := r.box
        have dj : ∀ a ∈ F, a ∉ F2 := fun a z z2 => by
          have := bx a z
          rw [fr2 a z2] at this
          exact this
        refine ⟨F ++ F2, List.nodup_append.mpr ⟨nd, nd2, fun a z b z2 e => dj a z (e ▸ z2)⟩, fun a z => ?_, .cons (r.dom.mono s2 fun a z => ⟨NA.mono (fun i z => by simp [z]) a z.1.1, fun q => ?_⟩) (r2.mono (Same.refl _) fun a z => ⟨NA.mono (fun i z => by simp [z]) a (NA.old s' a z.1), fun q => ?_⟩)⟩
        · rcases List.mem_append.mp z with z | z
          · exact fr a z
          · exact s'.free (fr2 a z)
        · rcases List.mem_append.mp q with q | q
          · exact z.1.2 q
          · exact z.2 (fr2 a q)
        · rcases List.mem_append.mp q with q | q
          · rcases z.1 with ⟨i, _, z⟩ | z
            · exact er.2.1 i a z (fr a q)
            · have := bx a q
              rw [z] at this
              exact this
          · exact z.2 q
      · cases hc
    · cases hm
  | .chn _ _ _ _ _, _, _, _, _, _, _, _, _, h, _ | .irr _, _, _, _, _, _, _, _, _, h, _ | .ikd _, _, _, _, _, _, _, _, _, h, _ | .isc _ _ _ _, _, _, _, _, _, _, _, _, h, _ | .fld _ _ _ _, _, _, _, _, _, _, _, _, h, _ | .meth _ _ _ _, _, _, _, _, _, _, _, _, h, _ | .make _ _ _ _, _, _, _, _, _, _, _, _, h, _ | .b2 _ _ _, _, _, _, _, _, _, _, _, h, _ | .m0 _ _, _, _, _, _, _, _, _, _, h, _ | .m1 _ _ _, _, _, _, _, _, _, _, _, h, _ | .slc _ _ _ _ _ _, _, _, _, _, _, _, _, _, h, _ | .gs _ _, _, _, _, _, _, _, _, _, h, _ | .fit _ _, _, _, _, _, _, _, _, _, h, _ | .dic0 _, _, _, _, _, _, _, _, _, h, _ | .dic1 _ _, _, _, _, _, _, _, _, _, h, _ | .lrng _, _, _, _, _, _, _, _, _, h, _ | .comp _ _ _ _ _, _, _, _, _, _, _, _, _, h, _ | .rng1 _, _, _, _, _, _, _, _, _, h, _ | .rng2 _ _, _, _, _, _, _, _, _, _, h, _ | .rng3 _ _ _, _, _, _, _, _, _, _, _, h, _ | .ien _, _, _, _, _, _, _, _, _, h, _ | .izp _ _, _, _, _, _, _, _, _, _, h, _ | .irv _, _, _, _, _, _, _, _, _, h, _ | .var _, _, _, _, _, _, _, _, _, h, _ | .int _, _, _, _, _, _, _, _, _, h, _ | .str _, _, _, _, _, _, _, _, _, h, _ | .bl _, _, _, _, _, _, _, _, _, h, _ | .non, _, _, _, _, _, _, _, _, h, _ | .o1 _ _, _, _, _, _, _, _, _, _, h, _ | .o2 _ _ _, _, _, _, _, _, _, _, _, h, _ | .and _ _, _, _, _, _, _, _, _, _, h, _ | .or _ _, _, _, _, _, _, _, _, _, h, _ | .not _, _, _, _, _, _, _, _, _, h, _ | .ifx _ _ _, _, _, _, _, _, _, _, _, h, _ | .lst _, _, _, _, _, _, _, _, _, h, _ | .tup _, _, _, _, _, _, _, _, _, h, _ | .call _ _, _, _, _, _, _, _, _, _, h, _ | .calp _ _ _, _, _, _, _, _, _, _, _, h, _ | .tupo _, _, _, _, _, _, _, _, _, h, _ => by unfold mEs at h; cases h
end
end
end Pv

set_option maxRecDepth 100000
set_option maxHeartbeats 1000000
namespace Pv
open PySem L2
/-! ### a call that may raise -/
/-- w: what is wished of an exception -/
def tX (G : Glob) (w : WX) (C : CallW) (Γ : List T) (L : Nat → Addr → Prop) (c : CE) (t : T) (A : List Nat) : TE := fun σ H1 R => ∃ env Q, ∃ Xp : Ex → Prop, ER G.K G.cls Γ L H1 σ env ∧ EX C Xp c env Q ∧ (∀ v H' d, Same H1 H' → RS G.K G.cls L H1 H' t A v d → Q d → R v H') ∧
  ∀ x H', x < G.ct.xs.length → Same H1 H' → Xp x → w (.ref (G.ec x)) none σ H'
theorem pe_callS0 {X : Cx} {CX : CXT} {k : Nat} {f : Addr} {fd : FuncData} {ps : List Str} {sp : Sp} {E : St → XK} {x : Str} {p pos : Pos} (F : FnOk X.prog X.w X.K X.mg X.base CX k f fd ps sp) (hr : Room k X.A) (hg : Gl X x) (hm : X.mg x = some (.ref f)) (hk : PySem.W.keepIn X.K (.ref f) = true) (hb : Binds X.K fd ps []) (hx : ∀ σ, PassesAt CX X σ (E σ))
    (hdb : (x == ("__debug__" : Str)) = false := by decide) : PE X (.Call (.Name x p) [] [] pos) (tCallS sp E tNil) := by
  refine ⟨fun pins s σ H Q I h => ?_⟩
  refine wpAny_Call_Name_kw (ld_glob I hg hm ?_ hdb)
  exact PySem.W.callWith_K0 I.kIn hk (run_fnS (us := []) F hr hb (hx σ) I .nil h)
def tMethS (G : Glob) (k : Nat) (tb : List (Nat × Nat)) (m : Str) (E : St → XK) (ta : TE) (t : TA) : TE := fun σ H Q => ta σ H fun x H1 => ∃ q : Nat × Nat, tb.lookup q.1 = some q.2 ∧ ∃ a dx fs, x = .ref a ∧ H1 a = some (.ins (G.cls q.1).1 dx fs) ∧ fs.lookup m = none ∧ t σ H1 fun vs H2 => spF G k q.2 (x :: vs) H2 Q (E σ)
theorem pe_methS {G : Glob} {k : Nat} {X : Cx} {o : Expr} {xs : List Expr} {ta : TE} {t : TA} {tb : List (Nat × Nat)} {m : Str} {apos pos : Pos} {E : St → XK} (he : PE X o ta) (ha : xs ≠ [] → PA X xs t) (hn : xs = [] → ∀ σ H R, t σ H R → R [] H) (ho : recvB o = true) (hline : (apos.endLine == pos.line) = true) (hlen : xs.length < 30) (hx : ∀ x ∈ xs, plainB x = true) (hr : Room (2 * k) X.A) (hps : ∀ σ, PassesAt (L2.CX X.prog X.w) X σ (E σ))
    (hF : ∀ q : Nat × Nat, tb.lookup q.1 = some q.2 → Cls X.K (G.cls q.1).1 ∧ Meth X.K (G.cls q.1).1 m (G.fa q.2) ∧ ∃ ps, Binds X.K (G.fd q.2) ps [] ∧ FnOk X.prog X.w X.K X.mg X.base (L2.CX X.prog X.w) (2 * k) (G.fa q.2) (G.fd q.2) ps (spF G k q.2)) : PE X (.Call (.Attribute o m apos) xs [] pos) (tMethS G k tb m E ta t) := by
  refine ⟨fun pins s σ H Q I h => ?_⟩
  have ht := meth_form (m := m) (env := X.env) (recv_of ho) hline (star_all hx) hlen
  refine PySem.W.methodCall_KW (pl := do return (← importBound o X.env).getD true) (thn (he.run pins s σ H _ I h) fun u s1 ⟨x, H1, I1, rx, q, hq, a, dx, fs, ex, ea, l, z⟩ => ?_) ht
  obtain ⟨c, hm, ps, hb, F⟩ := hF q hq
  subst ex
  obtain rfl : u = Value.ref a := rx
  refine getmeth_ok I1 ea c hm l ?_
  cases xs with
  | nil => exact PySem.W.callWith_K0 (first := [.ref a]) I1.kIn hm.kp (run_fnS (us := [.ref a]) (vs := [.ref a]) F hr hb (hps σ) I1 (.cons rfl .nil) (hn rfl _ _ _ z))
  | cons e es =>
    refine PySem.W.callWith_K (first := [.ref a]) (h₀ := X.base) I.ok.mod.kin hm.kp (thn ((ha (by simp)).run pos pins s1 σ H1 _ I1 z) fun us s2 ⟨vs, H2, I2, r, q2⟩ => ⟨I2.kIn, ?_⟩) (plain_star (hx e (by simp))) (star_any fun z hz => hx z (by simp [hz]))
    exact run_fnS (us := .ref a :: us) (vs := .ref a :: vs) F hr hb (hps σ) I2 (.cons rfl r) q2
section
variable {G : Glob} {k : Nat} {N : List Str} {sc : Scope} {X : Cx} {w : WX}
theorem sX (g : Good G k N sc X) (tk : Takes X w) : ∀ (c : CE) {Γ : List T} {L : Nat → Addr → Prop} {e : Expr} {t : T} {A : List Nat}, isRC c = true → mE N (names G) false c sc e = true → cE G.fns false Γ c = some (t, A) → PE X e (tX G w (Cw (FTof G.fns) k) Γ L c t A)
  | .call f es, Γ, L, e, t, A, _, hm, hc => by
    unfold mE at hm
    split at hm
    · rename_i x p0 xs pos
      simp only [Bool.and_eq_true, decide_eq_true_eq] at hm
      obtain ⟨⟨⟨hf, gl⟩, nm⟩, hm⟩ := hm
      unfold cE at hc
      split at hc
      · rename_i ts Aa i ha hi
        split at hc
        · rename_i hl
          simp only [Bool.and_eq_true, Option.isNone_iff_eq_none, Bool.not_eq_true'] at hl
          obtain ⟨⟨hl, htop⟩, hini, hio⟩ := hl
          obtain ⟨hmg, hk, hb⟩ := g.G.mgf f i hi
          have hmg := hmg htop
          have hx : x = i.name := by
            have hf : (G.fns.map (·.name))[f]? = some x := hf
            rw [List.getElem?_map, hi] at hf
            exact (Option.some.inj hf).symm
          subst hx
          have F : FnOk X.prog X.w X.K X.mg X.base (L2.CX X.prog X.w) (2 * k) (G.fa f) (G.fd f) i.ps (spF G k f) := by
            rw [g.hP, g.hw, g.hK, g.hm, g.hb, ← spG_F hi hini hio]
            exact g.G.ok f i hi
          have room := g.room.mono (show 2 * k ≤ 2 * k + 1 by omega)
          have pa := sEs es g (Γ := Γ) (L := L) hm ha
          have key : PE X (.Call (.Name i.name p0) xs [] pos) (tCallS (spF G k f) (WE w) (tSL G (Cw (FTof G.fns) k) Γ L es ts Aa)) := by
            cases xs with
            | cons y ys =>
              have pl := mEs_plain es hm
              exact pe_callS F room (g.gl gl) (by rw [g.hm]; exact hmg) (by rw [g.hK]; exact hk) (by rw [g.hK]; exact hb) (fun σ => passAt tk σ) pa (nm_of nm).1 (plain_star (pl y (by simp))) (star_any fun z hz => pl z (by simp [hz]))
            | nil =>
              refine (pe_callS0 F room (g.gl gl) (by rw [g.hm]; exact hmg) (by rw [g.hK]; exact hk) (by rw [g.hK]; exact hb) (fun σ => passAt tk σ) (nm_of nm).1).sub fun σ H R ⟨env, Q, er, hE, kk⟩ => ?_
              cases es with
              | nil =>
                unfold Es at hE
                exact kk [] H [] (Same.refl _) ⟨[], .nil, (fun _ z => absurd z (by simp)), by unfold cL at ha; cases ha; exact .nil⟩ hE
              | cons a b => unfold mEs at hm; simp at hm
              | _ => unfold mEs at hm; cases hm
          refine key.sub fun σ H R ⟨env, Q, Xp, er, hE, kk, kx⟩ => ?_
          unfold EX at hE
          refine ⟨env, _, er, hE, fun vs H' ds s' rs hd => ?_⟩
          obtain ⟨F1, nd, fr, r⟩ := rs
          have ar := ReTL.args hl r
          refine ⟨i, ds, NA L H Aa, Q, hi, ?_, ?_, ⟨Xp, hd, fun x H'' hx s'' z => kx x H'' hx (s'.trans s'') z⟩, fun v H'' d s'' r' q' => ?_⟩
          · rw [ar.length.1]
            exact g.G.len f i hi
          · refine ReTL.args.args_mono (fun a z => ?_) ar
            rcases z with z | z
            · exact z.1
            · exact .inr (fr a z)
          · cases hc
            refine kk v H'' d (s'.trans s'') ?_ q'
            have r2 := rs_of s' r'
            split
            · rename_i lf
              obtain ⟨F2, nd2, fr2, r2⟩ := r2
              exact ⟨F2, nd2, fr2, leaf_N lf r2⟩
            · exact r2.wk fun i z => by
                unfold als at z
                split at z
                · simp at z
                · exact z
        · cases hc
      · cases hc
    · cases hm
  | .meth m tb a es, Γ, L, e, t, A, _, hm, hc => by
    unfold mE at hm
    split at hm
    · rename_i o m' apos xs pos
      simp only [Bool.and_eq_true, decide_eq_true_eq] at hm
      obtain ⟨⟨⟨⟨⟨⟨rfl, hb⟩, hline⟩, hlen⟩, ho⟩, hes⟩, htb⟩ := hm
      unfold cE at hc
      split at hc
      · rename_i ta Aa ts Ab ha hts
        split at hc
        · rename_i u hu
          obtain ⟨rfl, rfl⟩ : u = t ∧ (if u.leaf = true then [] else Aa ++ Ab) = A := by cases hc; exact ⟨rfl, rfl⟩
          have pa := sEs es g (Γ := Γ) (L := L) hes hts
          have pt := sE a g (Γ := Γ) (L := L) ho ha
          have room := g.room.mono (show 2 * k ≤ 2 * k + 1 by omega)
          have hF : ∀ c f, tb.lookup c = some f → ∃ i, G.fns[f]? = some i ∧ (i.fn.ini = none ∧ i.fn.io = false) ∧ lesB (ta :: ts) i.sg = true ∧ i.rt = u ∧ Cls X.K (G.cls c).1 ∧ Meth X.K (G.cls c).1 m' (G.fa f) ∧ m' ∉ (G.cls c).2 ∧ Binds X.K (G.fd f) i.ps [] ∧ FnOk X.prog X.w X.K X.mg X.base (L2.CX X.prog X.w) (2 * k) (G.fa f) (G.fd f) i.ps (spF G k f) := by
            intro c f hl
            obtain ⟨i, hi, h1, h2, h3⟩ := methT_of hu hl
            obtain ⟨n1, n2⟩ := g.G.cl.ms _ (of_decide_eq_true (List.all_eq_true.mp htb _ (lookup_in hl)))
            obtain ⟨p, hp, n3⟩ := n2
            obtain ⟨b1, b2, _⟩ := g.G.cl.cn c p hp
            refine ⟨i, hi, h1, h2, h3, by rw [g.hK]; exact b1, by rw [g.hK]; exact n1, by rw [b2]; exact n3, by rw [g.hK]; exact (g.G.mgf f i hi).2.2, ?_⟩
            rw [g.hP, g.hw, g.hK, g.hm, g.hb, ← spG_F hi h1.1 h1.2]
            exact g.G.ok f i hi
          have pl := mEs_plain es hes
          have nil' : xs = [] → ∀ σ H R, tSL G (Cw (FTof G.fns) k) Γ L es ts Ab σ H R → R [] H := by
            intro hx σ H R ⟨env, Q, er, hE, kk⟩
            subst hx
            cases es with
            | nil =>
              unfold Es at hE
              exact kk [] H [] (Same.refl _) ⟨[], .nil, (fun _ z => absurd z (by simp)), by unfold cL at hts; cases hts; exact .nil⟩ hE
            | cons a b => unfold mEs at hes; simp at hes
            | _ => unfold mEs at hes; cases hes
          refine (pe_methS (G := G) (k := k) (E := WE w) pt (fun _ => pa) nil' hb hline hlen pl room (fun σ => passAt tk σ) (fun q h => by
              obtain ⟨i, _, _, _, _, h5, h6, _, h8, h9⟩ := hF q.1 q.2 h
              exact ⟨h5, h6, i.ps, h8, h9⟩) (tb := tb) (m := m')).sub fun σ H R ⟨env, Q, Xp, er, hE, kk, kx⟩ => ?_
          unfold EX at hE
          refine ⟨env, _, er, hE, fun v H' d s' rs hd => ?_⟩
          cases d with
          | obj c ds =>
            obtain ⟨f, hl, hEs⟩ := hd
            obtain ⟨i, hi, h1, h2, h3, h5, h6, h7, h8, h9⟩ := hF c f hl
            have bo := rs.bor (Same.refl _)
            obtain ⟨x, dx, fs, rfl, hx, hn, pp⟩ := repB_obj (flat_bor ta) bo
            refine ⟨(c, f), hl, x, dx, fs, rfl, hx, no_lookup (by rw [hn]; exact h7), env, _, er.mono s', hEs, fun vs H2 xs s2 rs2 hq => ?_⟩
            cases hsg : i.sg with
            | nil => rw [hsg] at h2; cases h2
            | cons t0 sg =>
              rw [hsg] at h2
              have h2 := Bool.and_eq_true_iff.mp (show (T.le ta.bor t0 && lesB ts sg) = true from h2)
              obtain ⟨F1, nd, fr, r⟩ := rs2
              have ar := ReTL.args h2.2 r
              refine ⟨i, .obj c ds :: xs, NA L H (Aa ++ Ab), Q, hi, ?_, ?_, ⟨Xp, hq, fun x H'' hx s'' z => kx x H'' hx ((s'.trans s2).trans s'') z⟩, fun v H'' d s'' r' q' => ?_⟩
              · have l1 := g.G.len f i hi
                rw [hsg] at l1
                rw [List.length_cons, ar.length.1, ← l1]
                rfl
              · rw [hsg]
                refine .cons ((bo.mono s2 (NA.mono fun i z => by simp [z])).le h2.1) (ReTL.args.args_mono (fun a z => ?_) ar)
                rcases z with z | z
                · exact NA.mono (fun i z => by simp [z]) a (NA.old s' a z.1)
                · exact .inr (s'.free (fr a z))
              · subst h3
                refine kk v H'' d ((s'.trans s2).trans s'') ?_ q'
                have r2 := rs_of (s'.trans s2) r'
                split
                · rename_i lf
                  obtain ⟨F2, nd2, fr2, r2⟩ := r2
                  exact ⟨F2, nd2, fr2, leaf_N lf r2⟩
                · exact r2.wk fun i z => by
                    unfold als at z
                    split at z
                    · simp at z
                    · exact z
          | _ => exact hd.elim
        · cases hc
      · cases hc
    · cases hm
  | .var _, _, _, _, _, _, h, _, _ | .int _, _, _, _, _, _, h, _, _ | .str _, _, _, _, _, _, h, _, _ | .bl _, _, _, _, _, _, h, _, _ | .non, _, _, _, _, _, h, _, _ | .o1 _ _, _, _, _, _, _, h, _, _ | .o2 _ _ _, _, _, _, _, _, h, _, _ | .and _ _, _, _, _, _, _, h, _, _ | .or _ _, _, _, _, _, _, h, _, _ | .not _, _, _, _, _, _, h, _, _ | .ifx _ _ _, _, _, _, _, _, h, _, _ | .nil, _, _, _, _, _, h, _, _ | .cons _ _, _, _, _, _, _, h, _, _ | .lst _, _, _, _, _, _, h, _, _ | .tup _, _, _, _, _, _, h, _, _
  | .calp _ _ _, _, _, _, _, _, h, _, _ | .tupo _, _, _, _, _, _, h, _, _ | .b2 _ _ _, _, _, _, _, _, h, _, _ | .m0 _ _, _, _, _, _, _, h, _, _ | .m1 _ _ _, _, _, _, _, _, h, _, _ | .slc _ _ _ _ _ _, _, _, _, _, _, h, _, _ | .gs _ _, _, _, _, _, _, h, _, _ | .lrng _, _, _, _, _, _, h, _, _ | .dic0 _, _, _, _, _, _, h, _, _ | .dic1 _ _, _, _, _, _, _, h, _, _ | .fit _ _, _, _, _, _, _, h, _, _ | .isc _ _ _ _, _, _, _, _, _, h, _, _ | .chn _ _ _ _ _, _, _, _, _, _, h, _, _ | .fld _ _ _ _, _, _, _, _, _, h, _, _ | .make _ _ _ _, _, _, _, _, _, h, _, _ | .comp _ _ _ _ _, _, _, _, _, _, h, _, _
  | .rng1 _, _, _, _, _, _, h, _, _ | .rng2 _ _, _, _, _, _, _, h, _, _ | .rng3 _ _ _, _, _, _, _, _, h, _, _ | .ien _, _, _, _, _, _, h, _, _ | .izp _ _, _, _, _, _, _, h, _, _ | .irv _, _, _, _, _, _, h, _, _ | .irr _, _, _, _, _, _, h, _, _ | .ikd _, _, _, _, _, _, h, _, _ => by cases h
end
end Pv

set_option maxRecDepth 100000
set_option maxHeartbeats 1000000
namespace Pv
open PySem L2
section
variable {G : Glob} {k : Nat} {N : List Str} {Γ : List T} {L : Nat → Addr → Prop} {sc st : Scope} {X : Cx} {tg : Expr}
theorem sI (g : Good G k N sc X) (c : CE) {g0 : TG0} (hg : mG N g0 st tg = true) {e : Expr} {t : T} {A : List Nat} (hm : mI N (names G) g0 c sc e = true) (hc : cE G.fns true Γ c = some (t, A)) : PI X tg e (fun σ H R => FrzC c σ H ∧ tI G (Cw (FTof G.fns) k) Γ L c (itT c t) A σ H R) := by
  simp only [mI, Bool.and_eq_true] at hm
  obtain ⟨⟨h1, h2⟩, h3⟩ := hm
  refine sI_of g (fun g => sE c g) (sK c) h1 (fun z => ?_) h3 hc
  rw [z] at h2
  exact tg_tuple hg (by simpa using h2)
theorem mI_fold {N : List Str} {fns : Nm} {g0 : TG0} {c : CE} {sc : Scope} {e : Expr} {env : PySem.Env} (h : mI N fns g0 c sc e = true) : ∀ x, foldedSetIterable e env x = pure x := by
  simp only [mI, Bool.and_eq_true] at h
  exact it_fold h.1.1 h.2
end
end Pv

set_option maxRecDepth 100000
set_option maxHeartbeats 1000000
namespace Pv
open PySem L2
/-! ### statements: who owns what -/
section
variable (K : PySem.W.Frag) (cls : Nat → Addr × List Str)
/-- the slots bear env: H0 the heap at the beginning, Nz what was shared there; Fs what each slot owns -/
structure SRF (Fs : Nat → List Addr) (Nz : Addr → Prop) (Γ : List T) (H0 H : Hp) (σ : St) (env : Env) : Prop where
  nd : ∀ i, (Fs i).Nodup
  dj : ∀ i j, i ≠ j → ∀ a ∈ Fs i, a ∉ Fs j
  own : ∀ i, ∀ a ∈ Fs i, H0 a = none ∧ Box (H a)
  same : Same H0 H
  l1 : σ.length = env.length
  l2 : Γ.length = env.length
  get : ∀ i d, env[i]? = some (some d) → ∃ v t, σ[i]? = some (some v) ∧ Γ[i]? = some t ∧ ReT K cls (fun a => (Nz a ∨ H0 a = none) ∧ ∀ j, a ∉ Fs j) H t v d (Fs i)
def SR (Nz : Addr → Prop) (Γ : List T) (H0 H : Hp) (σ : St) (env : Env) : Prop := ∃ Fs, SRF K cls Fs Nz Γ H0 H σ env
end
/-- weaker: less owned -/
def T.fr : T → T → Bool
  | .ow a, .ow b => T.fr a b
  | t, u => T.le t u || (T.le t.bor u && u.flat)
def wkB (t u : T) : Bool := T.fr t u
def wkL : List T → List T → Bool
  | [], [] => true
  | t :: ts, u :: us => wkB t u && wkL ts us
  | _, _ => false
def frz (Γ : List T) (A : List Nat) : List T := (List.range Γ.length).map fun i => if i ∈ A then (Γ.getD i .im).bor else Γ.getD i .im
theorem frz_len (Γ : List T) (A : List Nat) : (frz Γ A).length = Γ.length := by simp [frz]
theorem frz_get {Γ : List T} {A : List Nat} {i : Nat} {t : T} (h : Γ[i]? = some t) : (frz Γ A)[i]? = some (if i ∈ A then t.bor else t) := by
  obtain ⟨hi, e⟩ := List.getElem?_eq_some_iff.mp h
  subst e
  simp [frz, hi, List.getD_eq_getElem?_getD]
theorem wkL_len : ∀ {ts us : List T}, wkL ts us = true → ts.length = us.length
  | [], [], _ => rfl
  | _ :: ts, _ :: us, h => by simp [wkL_len (Bool.and_eq_true_iff.mp h).2]
theorem wkL_get : ∀ {ts us : List T} {i : Nat} {t : T}, wkL ts us = true → ts[i]? = some t → ∃ u, us[i]? = some u ∧ wkB t u = true
  | [], [], _, _, _, e => by simp at e
  | t :: ts, u :: us, 0, _, h, e => by simp at e; subst e; exact ⟨u, rfl, (Bool.and_eq_true_iff.mp h).1⟩
  | t :: ts, u :: us, i + 1, _, h, e => by
    obtain ⟨w, h1, h2⟩ := wkL_get (i := i) (Bool.and_eq_true_iff.mp h).2 (by simpa using e)
    exact ⟨w, by simpa using h1, h2⟩
section
variable {K : PySem.W.Frag} {cls : Nat → Addr × List Str} {Nz : Addr → Prop} {Γ Γ' : List T} {H0 H H' : Hp} {σ : St} {env : Env}
theorem box_some {H : Hp} {a : Addr} (h : Box (H a)) : H a ≠ none := fun z => by rw [z] at h; exact h
theorem box_same {H H' : Hp} (e : Same H H') {a : Addr} (h : Box (H a)) : Box (H' a) := by
  cases q : H a with
  | none => rw [q] at h; exact h.elim
  | some o => rw [e a o q]; rw [q] at h; exact h
theorem SRF.mono {Fs : Nat → List Addr} (h : SRF K cls Fs Nz Γ H0 H σ env) (e : Same H H') : SRF K cls Fs Nz Γ H0 H' σ env :=
  ⟨h.nd, h.dj, fun i a z => ⟨(h.own i a z).1, box_same e (h.own i a z).2⟩, h.same.trans e, h.l1, h.l2, fun i d q => let ⟨v, t, e1, e2, r⟩ := h.get i d q; ⟨v, t, e1, e2, r.mono e fun _ z => z⟩⟩
/-- less owned: the slots at A are shared from now on -/
theorem SRF.free {Fs : Nat → List Addr} (A : Nat → Prop) (h : SRF K cls Fs Nz Γ H0 H σ env) (hl : Γ'.length = Γ.length)
    (hg : ∀ i t, Γ[i]? = some t → ∃ u, Γ'[i]? = some u ∧ ((¬ A i ∧ T.le t u = true) ∨ (A i ∧ T.le t.bor u = true ∧ u.flat = true))) : ∃ Gs, (∀ i a, a ∈ Gs i → a ∈ Fs i ∧ ¬ A i) ∧ SRF K cls Gs Nz Γ' H0 H σ env := by
  obtain ⟨h1, h2, h3, h4, h5, h6, h7⟩ := h
  classical
  refine ⟨fun i => if A i then [] else Fs i, fun i a ha => ?_, fun i => ?_, fun i j hij a ha => ?_, fun i a ha => ?_, h4, h5, hl.trans h6, fun i d hd => ?_⟩
  · (try dsimp only at ha); split at ha
    · simp at ha
    · exact ⟨ha, ‹_›⟩
  · (try dsimp only); split
    · exact .nil
    · exact h1 i
  · try dsimp only at ha ⊢
    split at ha
    · simp at ha
    · split
      · simp
      · exact h2 i j hij a ha
  · try dsimp only at ha
    split at ha
    · simp at ha
    · exact h3 i a ha
  · obtain ⟨v, t, e1, e2, r⟩ := h7 i d hd
    obtain ⟨u, e3, c⟩ := hg i t e2
    refine ⟨v, u, e1, e3, ?_⟩
    have nn : ∀ a, ((Nz a ∨ H0 a = none) ∧ ∀ j, a ∉ Fs j) → ((Nz a ∨ H0 a = none) ∧ ∀ j, a ∉ (if A j then [] else Fs j)) := fun a z => ⟨z.1, fun j => by
      split
      · simp
      · exact z.2 j⟩
    rcases c with ⟨na, le⟩ | ⟨ya, le, fl⟩
    · try dsimp only
      rw [if_neg na]
      exact (r.mono (Same.refl _) nn).le le
    · try dsimp only
      rw [if_pos ya]
      refine .bo fl ((r.bor.mono (Same.refl _) fun a z => ?_).le le)
      rcases z with z | z
      · exact nn a z
      · refine ⟨.inr (h3 i a z).1, fun j => ?_⟩
        split
        · simp
        · rename_i nj
          exact h2 i j (fun e => nj (e ▸ ya)) a z
theorem le_flat_bor : ∀ {t u : T}, T.le t.bor u = true → T.le t u = true ∨ u.flat = true
  | .im, .im, _ => .inr rfl
  | .im, .sh, _ => .inr rfl
  | .im, .s _, h => .inr h
  | .im, .ow _, _ => .inl rfl
  | .sh, .sh, _ => .inr rfl
  | .s t, .sh, _ => .inr rfl
  | .s t, .s u, h => .inr (Bool.and_eq_true_iff.mp h).1
  | .ow t, .sh, _ => .inr rfl
  | .ow t, .s u, h => .inr (Bool.and_eq_true_iff.mp h).1
theorem fr_cases {t u : T} (h : T.fr t u = true) : (∃ a b, t = .ow a ∧ u = .ow b ∧ T.fr a b = true) ∨ T.le t u = true ∨ (T.le t.bor u = true ∧ u.flat = true) := by
  cases t <;> cases u <;> first | exact .inl ⟨_, _, rfl, rfl, h⟩ | (right; unfold T.fr at h; rw [Bool.or_eq_true, Bool.and_eq_true] at h; exact h)
mutual
/-- less owned: what is let go may be shared -/
theorem ReT.weak {N : Addr → Prop} : ∀ {t u : T} {v : V} {d : D} {F : List Addr}, T.fr t u = true → ReT K cls N H t v d F → F.Nodup → ∃ F', (∀ a ∈ F', a ∈ F) ∧ F'.Nodup ∧ ReT K cls (fun a => N a ∨ (a ∈ F ∧ a ∉ F')) H u v d F'
  | t, u, v, d, _, e, .bo f h, nd => by
    refine ⟨[], by simp, .nil, ?_⟩
    rcases fr_cases e with ⟨a, b, rfl, _, _⟩ | e | ⟨e, f2⟩
    · cases f
    · exact ReT.le e (.bo f (h.mono (Same.refl _) fun a z => .inl z))
    · rw [bor_flat t f] at e
      exact ReT.le e (.bo f (h.mono (Same.refl _) fun a z => .inl z))
  | .ow t, u, v, d, _, e, .owx h, nd => by
    refine ⟨[], by simp, .nil, ?_⟩
    rcases fr_cases e with ⟨a, b, _, rfl, _⟩ | e | ⟨e, f2⟩
    · exact .owx h
    · cases u <;> first | exact .owx h | cases e
    · exact .bo f2 (RepB.of_im h)
  | .ow t, u, _, _, _, e, .owl (p := p) (F := F) q r, nd => by
    rcases fr_cases e with ⟨a, b, ea, rfl, e⟩ | e | ⟨e, f2⟩
    · cases ea
      obtain ⟨np, nd'⟩ := List.nodup_cons.mp nd
      obtain ⟨F', s1, n1, r1⟩ := ReTs.weak e r nd'
      refine ⟨p :: F', fun a z => ?_, List.nodup_cons.mpr ⟨fun z => np (s1 _ z), n1⟩, .owl q (r1.mono (Same.refl _) fun a z => ?_)⟩
      · rcases List.mem_cons.mp z with rfl | z
        · simp
        · simp [s1 a z]
      · rcases z with z | ⟨z1, z2⟩
        · exact .inl z
        · exact .inr ⟨by simp [z1], fun w => by
            rcases List.mem_cons.mp w with rfl | w
            · exact np z1
            · exact z2 w⟩
    · exact ⟨p :: F, fun a z => z, nd, (ReT.owl q r).mono (Same.refl _) (fun a z => .inl z) |>.le e⟩
    · refine ⟨[], by simp, .nil, .bo f2 (((ReT.owl q r).bor.mono (Same.refl _) fun a z => ?_).le e)⟩
      exact z.imp_right fun z => ⟨z, by simp⟩
  | .ow t, u, _, _, _, e, .owK (p := p) (F := F) q r, nd => by
    rcases fr_cases e with ⟨a, b, ea, rfl, e⟩ | e | ⟨e, f2⟩
    · cases ea
      obtain ⟨np, nd'⟩ := List.nodup_cons.mp nd
      obtain ⟨F', s1, n1, r1⟩ := ReTs.weak e r nd'
      refine ⟨p :: F', fun a z => ?_, List.nodup_cons.mpr ⟨fun z => np (s1 _ z), n1⟩, .owK q (r1.mono (Same.refl _) fun a z => ?_)⟩
      · rcases List.mem_cons.mp z with rfl | z
        · simp
        · simp [s1 a z]
      · rcases z with z | ⟨z1, z2⟩
        · exact .inl z
        · exact .inr ⟨by simp [z1], fun w => by
            rcases List.mem_cons.mp w with rfl | w
            · exact np z1
            · exact z2 w⟩
    · exact ⟨p :: F, fun a z => z, nd, (ReT.owK q r).mono (Same.refl _) (fun a z => .inl z) |>.le e⟩
    · refine ⟨[], by simp, .nil, .bo f2 (((ReT.owK q r).bor.mono (Same.refl _) fun a z => ?_).le e)⟩
      exact z.imp_right fun z => ⟨z, by simp⟩
  | .ow t, u, _, _, _, e, .owP (p := p) (F := F) q r, nd => by
    rcases fr_cases e with ⟨a, b, ea, rfl, e⟩ | e | ⟨e, f2⟩
    · cases ea
      obtain ⟨F', s1, n1, r1⟩ := ReTs.weak e r nd
      exact ⟨F', s1, n1, .owP q r1⟩
    · exact ⟨F, fun a z => z, nd, (ReT.owP q r).mono (Same.refl _) (fun a z => .inl z) |>.le e⟩
    · refine ⟨[], by simp, .nil, .bo f2 (((ReT.owP q r).bor.mono (Same.refl _) fun a z => ?_).le e)⟩
      exact z.imp_right fun z => ⟨z, by simp⟩
  | .ow t, u, _, _, _, e, .owT (p := p) (F := F) q r, nd => by
    rcases fr_cases e with ⟨a, b, ea, rfl, e⟩ | e | ⟨e, f2⟩
    · cases ea
      obtain ⟨np, nd'⟩ := List.nodup_cons.mp nd
      obtain ⟨F', s1, n1, r1⟩ := ReTs.weak e r nd'
      refine ⟨p :: F', fun a z => ?_, List.nodup_cons.mpr ⟨fun z => np (s1 _ z), n1⟩, .owT q (r1.mono (Same.refl _) fun a z => ?_)⟩
      · rcases List.mem_cons.mp z with rfl | z
        · simp
        · simp [s1 a z]
      · rcases z with z | ⟨z1, z2⟩
        · exact .inl z
        · exact .inr ⟨by simp [z1], fun w => by
            rcases List.mem_cons.mp w with rfl | w
            · exact np z1
            · exact z2 w⟩
    · exact ⟨p :: F, fun a z => z, nd, (ReT.owT q r).mono (Same.refl _) (fun a z => .inl z) |>.le e⟩
    · refine ⟨[], by simp, .nil, .bo f2 (((ReT.owT q r).bor.mono (Same.refl _) fun a z => ?_).le e)⟩
      exact z.imp_right fun z => ⟨z, by simp⟩
theorem ReTs.weak {N : Addr → Prop} : ∀ {t u : T} {v : List V} {d : List D} {F : List Addr}, T.fr t u = true → ReTs K cls N H t v d F → F.Nodup → ∃ F', (∀ a ∈ F', a ∈ F) ∧ F'.Nodup ∧ ReTs K cls (fun a => N a ∨ (a ∈ F ∧ a ∉ F')) H u v d F'
  | _, _, _, _, _, e, .nil, nd => ⟨[], by simp, .nil, .nil⟩
  | _, _, _, _, _, e, .cons (F := F) (G := G) h r, nd => by
    obtain ⟨n1, n2, dj⟩ := List.nodup_append.mp nd
    obtain ⟨F', s1, m1, r1⟩ := ReT.weak e h n1
    obtain ⟨G', s2, m2, r2⟩ := ReTs.weak e r n2
    refine ⟨F' ++ G', fun a z => ?_, List.nodup_append.mpr ⟨m1, m2, fun a ha b hb q => dj a (s1 a ha) b (s2 b hb) q⟩, .cons (r1.mono (Same.refl _) fun a z => ?_) (r2.mono (Same.refl _) fun a z => ?_)⟩
    · rcases List.mem_append.mp z with z | z
      · simp [s1 a z]
      · simp [s2 a z]
    · rcases z with z | ⟨z1, z2⟩
      · exact .inl z
      · exact .inr ⟨by simp [z1], fun w => by
          rcases List.mem_append.mp w with w | w
          · exact z2 w
          · exact dj a z1 a (s2 a w) rfl⟩
    · rcases z with z | ⟨z1, z2⟩
      · exact .inl z
      · exact .inr ⟨by simp [z1], fun w => by
          rcases List.mem_append.mp w with w | w
          · exact dj a (s1 a w) a z1 rfl
          · exact z2 w⟩
end
theorem SRF.wk {Fs : Nat → List Addr} (h : SRF K cls Fs Nz Γ H0 H σ env) (hw : wkL Γ Γ' = true) : ∃ Gs, (∀ i a, a ∈ Gs i → a ∈ Fs i) ∧ SRF K cls Gs Nz Γ' H0 H σ env := by
  obtain ⟨h1, h2, h3, h4, h5, h6, h7⟩ := h
  have key : ∀ i, ∃ F', (∀ a ∈ F', a ∈ Fs i) ∧ F'.Nodup ∧ ∀ d, env[i]? = some (some d) → ∃ v u, σ[i]? = some (some v) ∧ Γ'[i]? = some u ∧ ReT K cls (fun a => ((Nz a ∨ H0 a = none) ∧ ∀ j, a ∉ Fs j) ∨ (a ∈ Fs i ∧ a ∉ F')) H u v d F' := by
    intro i
    by_cases q : ∃ d, env[i]? = some (some d)
    · obtain ⟨d, hd⟩ := q
      obtain ⟨v, t, e1, e2, r⟩ := h7 i d hd
      obtain ⟨u, e3, w⟩ := wkL_get hw e2
      obtain ⟨F', s1, n1, r1⟩ := ReT.weak w r (h1 i)
      refine ⟨F', s1, n1, fun d' hd' => ?_⟩
      rw [hd] at hd'
      cases hd'
      exact ⟨v, u, e1, e3, r1⟩
    · exact ⟨[], by simp, .nil, fun d hd => absurd ⟨d, hd⟩ q⟩
  classical
  let Gs : Nat → List Addr := fun i => (key i).choose
  have g1 : ∀ i, ∀ a ∈ Gs i, a ∈ Fs i := fun i => (key i).choose_spec.1
  refine ⟨Gs, g1, fun i => (key i).choose_spec.2.1, fun i j hij a ha z => h2 i j hij a (g1 i a ha) (g1 j a z), fun i a ha => h3 i a (g1 i a ha), h4, h5, (wkL_len hw).symm.trans h6, fun i d hd => ?_⟩
  obtain ⟨v, u, e1, e2, r⟩ := (key i).choose_spec.2.2 d hd
  refine ⟨v, u, e1, e2, r.mono (Same.refl _) fun a z => ?_⟩
  rcases z with z | ⟨z1, z2⟩
  · exact ⟨z.1, fun j w => z.2 j (g1 j a w)⟩
  · refine ⟨.inr (h3 i a z1).1, fun j w => ?_⟩
    by_cases e : i = j
    · subst e
      exact z2 w
    · exact h2 i j e a z1 (g1 j a w)
theorem SR.wk (h : SR K cls Nz Γ H0 H σ env) (hw : wkL Γ Γ' = true) : SR K cls Nz Γ' H0 H σ env := let ⟨_, h⟩ := h; let ⟨Gs, _, g⟩ := h.wk hw; ⟨Gs, g⟩
theorem le_refl_flat : ∀ t : T, T.le t t = true ∨ t.flat = false
  | .im => .inl rfl
  | .sh => .inl rfl
  | .s t => by
    cases h : t.flat with
    | false => exact .inr h
    | true =>
      rcases le_refl_flat t with z | z
      · exact .inl (by show (t.flat && T.le t t) = true; rw [h, z]; rfl)
      · rw [h] at z; cases z
  | .ow t => by
    rcases le_refl_flat t with z | z
    · exact .inl z
    · exact .inr rfl
theorem le_bor_refl (t : T) : T.le t.bor t.bor = true := by
  rcases le_refl_flat t.bor with z | z
  · exact z
  · rw [flat_bor] at z; cases z
/-- the slots as an expression reads them -/
def Lof (Nz : Addr → Prop) (H0 H : Hp) (Fs : Nat → List Addr) : Nat → Addr → Prop := fun i a => (a ∈ Fs i ∨ ((Nz a ∨ H0 a = none) ∧ ∀ j, a ∉ Fs j)) ∧ H a ≠ none
theorem SRF.er {Fs : Nat → List Addr} (h : SRF K cls Fs Nz Γ H0 H σ env) : ER K cls Γ (Lof Nz H0 H Fs) H σ env :=
  ⟨⟨h.l1, h.l2⟩, fun i a z => z.2, fun i d q => let ⟨v, t, e1, e2, r⟩ := h.get i d q; ⟨v, t, e1, e2, r.bor.dom.mono (Same.refl _) fun a z => ⟨z.1.elim (fun z => .inr z) fun z => .inl z, z.2⟩⟩⟩
theorem SRF.frzA {Fs : Nat → List Addr} (h : SRF K cls Fs Nz Γ H0 H σ env) (hf : ∀ t ∈ Γ, T.le t t = true) (A : List Nat) : ∃ Gs, (∀ i a, a ∈ Gs i → a ∈ Fs i ∧ i ∉ A) ∧ SRF K cls Gs Nz (Pv.frz Γ A) H0 H σ env :=
  h.free (fun i => i ∈ A) (frz_len Γ A) fun i t ht => by
    refine ⟨_, frz_get ht, ?_⟩
    by_cases q : i ∈ A
    · rw [if_pos q]
      exact .inr ⟨q, le_bor_refl t, flat_bor t⟩
    · rw [if_neg q]
      exact .inl ⟨q, hf t (List.mem_of_getElem? ht)⟩
/-- a value is stored at x; the slots at A are shared from now on -/
theorem SRF.store {Fs : Nat → List Addr} (h : SRF K cls Fs Nz Γ H0 H σ env) {x : Nat} {t : T} {A : List Nat} {v : V} {d : D} {F : List Addr} {N : Addr → Prop} (s : Same H H') (nd : F.Nodup) (fr : ∀ a ∈ F, H a = none) (r : ReT K cls N H' t v d F)
    (hN : ∀ a, N a → (NA (Lof Nz H0 H Fs) H A a ∨ ((Nz a ∨ H0 a = none) ∧ ∀ j, a ∉ Fs j)) ∧ a ∉ F) : SRF K cls (fun j => if j = x then F else if j ∈ A then [] else Fs j) Nz ((frz Γ A).set x t) H0 H' (σ.set x (some v)) (env.set x (some d)) := by
  obtain ⟨h1, h2, h3, h4, h5, h6, h7⟩ := h
  have fA : ∀ i a, a ∈ Fs i → a ∉ F := fun i a z q => box_some (h3 i a z).2 (fr a q)
  refine ⟨fun j => ?_, fun i j hij a ha => ?_, fun i a ha => ?_, h4.trans s, by simp [h5], by simp [frz_len, h6], fun i d' hd => ?_⟩
  · (try dsimp only); split
    · exact nd
    · split
      · exact .nil
      · exact h1 j
  · try dsimp only at ha ⊢
    split at ha
    · rename_i e
      rw [if_neg (fun q => hij (e.trans q.symm))]
      split
      · simp
      · exact fun q => fA j a q ha
    · split at ha
      · simp at ha
      · split
        · exact fA i a ha
        · split
          · simp
          · exact h2 i j hij a ha
  · try dsimp only at ha
    split at ha
    · exact ⟨h4.free (fr a ha), r.box a ha⟩
    · split at ha
      · simp at ha
      · exact ⟨(h3 i a ha).1, box_same s (h3 i a ha).2⟩
  · have hlx : x = i → x < env.length := fun e => by
      subst e
      have := (List.getElem?_eq_some_iff.mp hd).1
      simpa using this
    by_cases e : x = i
    · subst e
      have hx := hlx rfl
      rw [List.getElem?_set_self hx] at hd
      cases hd
      refine ⟨v, t, by rw [List.getElem?_set_self (by omega)], by rw [List.getElem?_set_self (by rw [frz_len]; omega)], ?_⟩
      try dsimp only
      rw [if_pos rfl]
      refine r.mono (Same.refl _) fun a z => ⟨?_, fun j => ?_⟩
      · rcases (hN a z).1 with (⟨i, hi, q, _⟩ | q) | q
        · rcases q with q | q
          · exact .inr (h3 i a q).1
          · exact q.1
        · exact .inr (h4.free q)
        · exact q.1
      · split
        · exact (hN a z).2
        · split
          · simp
          · rename_i nx nA
            rcases (hN a z).1 with (⟨i, hi, q, _⟩ | q) | q
            · rcases q with q | q
              · exact h2 i j (fun e => nA (e ▸ hi)) a q
              · exact q.2 j
            · exact fun w => box_some (h3 j a w).2 q
            · exact q.2 j
    · rw [List.getElem?_set_ne e] at hd
      obtain ⟨v', t', e1, e2, r'⟩ := h7 i d' hd
      refine ⟨v', if i ∈ A then t'.bor else t', by rw [List.getElem?_set_ne e]; exact e1, by rw [List.getElem?_set_ne e]; exact frz_get e2, ?_⟩
      have e' : ¬ i = x := fun q => e q.symm
      try dsimp only
      rw [if_neg e']
      have nn : ∀ a, (((Nz a ∨ H0 a = none) ∧ ∀ j, a ∉ Fs j) ∧ H a ≠ none) → ((Nz a ∨ H0 a = none) ∧ ∀ j, a ∉ (if j = x then F else if j ∈ A then [] else Fs j)) := fun a z => ⟨z.1.1, fun j => by
        split
        · exact fun w => z.2 (fr a w)
        · split
          · simp
          · exact z.1.2 j⟩
      by_cases hA : i ∈ A
      · rw [if_pos hA, if_pos hA]
        refine .bo (flat_bor _) (r'.bor.dom.mono s fun a z => ?_)
        rcases z.1 with w | w
        · exact nn a ⟨w, z.2⟩
        · refine ⟨.inr (h3 i a w).1, fun j => ?_⟩
          split
          · exact fA i a w
          · split
            · simp
            · rename_i nx nA
              exact h2 i j (fun e => nA (e ▸ hA)) a w
      · rw [if_neg hA, if_neg hA]
        exact r'.dom.mono s fun a z => nn a z
theorem SRF.storeR {Fs : Nat → List Addr} (h : SRF K cls Fs Nz Γ H0 H σ env) {x : Nat} {t : T} {A : List Nat} {v : V} {d : D} (s : Same H H') (rs : RS K cls (Lof Nz H0 H Fs) H H' t A v d) : SR K cls Nz ((frz Γ A).set x t) H0 H' (σ.set x (some v)) (env.set x (some d)) := by
  obtain ⟨F, nd, fr, r⟩ := rs
  exact ⟨_, h.store s nd fr r fun a z => ⟨.inl z.1, z.2⟩⟩
/-- the beginning is set anew: what is not owned now -/
noncomputable def base' (Fs : Nat → List Addr) (H : Hp) : Hp := fun b => open Classical in if ∃ i, b ∈ Fs i then none else H b
theorem base_same (Fs : Nat → List Addr) (H : Hp) : Same (base' Fs H) H := fun b u e => by
  unfold base' at e
  split at e
  · cases e
  · exact e
theorem base_out {Fs : Nat → List Addr} {H : Hp} {b : Addr} (h : ∀ i, b ∉ Fs i) : base' Fs H b = H b := by
  unfold base'
  rw [if_neg (fun ⟨i, z⟩ => h i z)]
theorem base_in {Fs : Nat → List Addr} {H : Hp} {i : Nat} {b : Addr} (h : b ∈ Fs i) : base' Fs H b = none := by
  unfold base'
  rw [if_pos ⟨i, h⟩]
theorem SRF.rebase {Fs : Nat → List Addr} (h : SRF K cls Fs Nz Γ H0 H σ env) : SR K cls (fun a => Nz a ∨ H0 a = none) Γ (base' Fs H) H σ env :=
  ⟨Fs, h.nd, h.dj, fun i a z => ⟨base_in z, (h.own i a z).2⟩, base_same Fs H, h.l1, h.l2, fun i d q => let ⟨v, t, e1, e2, r⟩ := h.get i d q; ⟨v, t, e1, e2, r.mono (Same.refl _) fun a z => ⟨.inl z.1, z.2⟩⟩⟩
theorem SR.unbase {Fs : Nat → List Addr} (h3 : ∀ i, ∀ a ∈ Fs i, H0 a = none ∧ Box (H a)) (h4 : Same H0 H) (h : SR K cls (fun a => Nz a ∨ H0 a = none) Γ (base' Fs H) H' σ env) : SR K cls Nz Γ H0 H' σ env := by
  have e0 : Same H0 (base' Fs H) := fun b u e => by
    rw [base_out fun i z => by have := (h3 i b z).1; rw [e] at this; cases this]
    exact h4 b u e
  obtain ⟨G, g1, g2, g3, g4, g5, g6, g7⟩ := h
  refine ⟨G, g1, g2, fun i a z => ⟨e0.free (g3 i a z).1, (g3 i a z).2⟩, e0.trans g4, g5, g6, fun i d q => ?_⟩
  obtain ⟨v, t, e1, e2, r⟩ := g7 i d q
  refine ⟨v, t, e1, e2, r.mono (Same.refl _) fun a z => ⟨?_, z.2⟩⟩
  rcases z.1 with z | z
  · exact z
  · exact .inr (e0.free z)
theorem RSp.unbase {Fs : Nat → List Addr} {t : T} {v : V} {d : D} (h3 : ∀ i, ∀ a ∈ Fs i, H0 a = none ∧ Box (H a)) (h4 : Same H0 H) (h : RSp K cls (fun a => Nz a ∨ H0 a = none) (base' Fs H) H' t v d) : RSp K cls Nz H0 H' t v d := by
  have e0 : Same H0 (base' Fs H) := fun b u e => by
    rw [base_out fun i z => by have := (h3 i b z).1; rw [e] at this; cases this]
    exact h4 b u e
  obtain ⟨F, nd, fr, r⟩ := h
  refine ⟨F, nd, fun a z => e0.free (fr a z), r.mono (Same.refl _) fun a z => ⟨?_, z.2⟩⟩
  rcases z.1 with z | z
  · exact z
  · exact .inr (e0.free z)
end
end Pv

set_option maxRecDepth 100000
set_option maxHeartbeats 1000000
namespace Pv
open PySem L2
/-! ### what changes in its place -/
def plT : Nat → T → Option T
  | 0, .ow t => some t
  | n + 1, .ow t => plT n t
  | _, _ => none
def plSet : Nat → T → T → T
  | 0, _, j => .ow j
  | n + 1, .ow t, j => .ow (plSet n t j)
  | _, t, _ => t
theorem plSet_le : ∀ {n : Nat} {t te te' : T}, plT n t = some te → T.le te te' = true → T.le t (plSet n t te') = true
  | 0, .ow t, _, _, h, e => by cases h; exact e
  | n + 1, .ow t, _, _, h, e => plSet_le (n := n) (t := t) h e
/-- a way down through lists -/
def Nav (H : Hp) : V → List Int → V → Prop
  | v, [], w => v = w
  | v, i :: is, w => ∃ a xs v1, v = .ref a ∧ (H a = some (.lst xs) ∨ H a = some (.tup xs)) ∧ atI xs i = some v1 ∧ Nav H v1 is w
section
variable {K : PySem.W.Frag} {cls : Nat → Addr × List Str} {N N' : Addr → Prop} {H H'' : Hp}
theorem ReT.lst {t : T} {v : V} {ds : List D} {F : List Addr} (h : ReT K cls N H (.ow t) v (.lst ds) F) : ∃ p vs G, v = .ref p ∧ F = p :: G ∧ H p = some (.lst vs) ∧ ReTs K cls N H t vs ds G := by
  cases h with
  | bo f _ => cases f
  | owx h => obtain ⟨_, _, _, n, _⟩ := rep_lst h; exact n.elim
  | owl e r => exact ⟨_, _, _, rfl, rfl, e, r⟩
theorem reTs_owx {t : T} : ∀ {vs : List V} {ds : List D}, Reps K cls N0 H vs ds → ReTs K cls N H (.ow t) vs ds []
  | _, _, .nil => .nil
  | _, _, .cons h r => .cons (F := []) (G := []) (.owx h) (reTs_owx r)
theorem ReT.tup {t : T} {v : V} {ds : List D} {F : List Addr} (h : ReT K cls N H (.ow (.ow t)) v (.tup ds) F) : ∃ p vs, v = .ref p ∧ H p = some (.tup vs) ∧ ReTs K cls N H (.ow t) vs ds F := by
  cases h with
  | bo f _ => cases f
  | owx h => cases h with | tup e r => exact ⟨_, _, rfl, e, reTs_owx r⟩
  | owP e r => exact ⟨_, _, rfl, e, r⟩
theorem ReTs.at {t : T} : ∀ {vs : List V} {ds : List D} {F : List Addr} {i : Nat} {d : D}, ReTs K cls N H t vs ds F → ds[i]? = some d →
    ∃ v F1 F2 F3, vs[i]? = some v ∧ F = F1 ++ (F2 ++ F3) ∧ ReT K cls N H t v d F2 ∧ ∀ {N' : Addr → Prop} {H' : Hp} {t' : T}, (∀ {v d F}, ReT K cls N H t v d F → (∀ a ∈ F, a ∈ F1 ∨ a ∈ F3) → ReT K cls N' H' t' v d F) → ∀ {w d' F2'}, ReT K cls N' H' t' w d' F2' → ReTs K cls N' H' t' (vs.set i w) (ds.set i d') (F1 ++ (F2' ++ F3))
  | _, _, _, _, _, .nil, e => by simp at e
  | _, _, _, 0, _, .cons (v := v) (vs := vs) (F := F) (G := G) h r, e => by
    simp at e
    subst e
    refine ⟨v, [], F, G, rfl, rfl, h, fun {N' H' t'} cv {w d' F2'} h' => ?_⟩
    have := ReTs.cons h' (ReTs.conv (fun r hF => cv r fun a z => .inr (hF a z)) r)
    simpa using this
  | _, _, _, i + 1, _, .cons (v := v) (F := F) (G := G) h r, e => by
    obtain ⟨v1, F1, F2, F3, e1, e2, h2, k⟩ := ReTs.at (i := i) r (by simpa using e)
    subst e2
    refine ⟨v1, F ++ F1, F2, F3, by simpa using e1, by simp, h2, fun {N' H' t'} cv {w d' F2'} h' => ?_⟩
    have := ReTs.cons (cv h fun a z => .inl (List.mem_append_left _ z)) (k (fun r hF => cv r fun a z => (hF a z).imp_left fun z => List.mem_append_right _ z) h')
    simpa using this
where
  ReTs.conv {N' : Addr → Prop} {H' : Hp} {t t' : T} : ∀ {vs : List V} {ds : List D} {F : List Addr}, (∀ {v d G}, ReT K cls N H t v d G → (∀ a ∈ G, a ∈ F) → ReT K cls N' H' t' v d G) → ReTs K cls N H t vs ds F → ReTs K cls N' H' t' vs ds F
  | _, _, _, _, .nil => .nil
  | _, _, _, cv, .cons h r => .cons (cv h fun a z => List.mem_append_left _ z) (ReTs.conv (fun r hF => cv r fun a z => List.mem_append_right _ (hF a z)) r)
theorem box_some' {H : Hp} {a : Addr} (h : Box (H a)) : H a ≠ none := fun z => by rw [z] at h; exact h
theorem set_same {vs : List V} {i : Nat} {v : V} (h : vs[i]? = some v) : vs.set i v = vs := by
  apply List.ext_getElem?
  intro j
  by_cases e : i = j
  · subst e
    rw [List.getElem?_set_self (List.getElem?_eq_some_iff.mp h).1, h]
  · rw [List.getElem?_set_ne e]
theorem foc {f : D → (D → Prop) → Prop} (hf : ∀ d Q, f d Q → ∃ ds, d = .lst ds) : ∀ (is : List Int) {N : Addr → Prop} {H : Hp} {t te : T} {v : V} {d : D} {F : List Addr} {Q : D → Prop}, ReT K cls N H t v d F → F.Nodup → plT is.length t = some te → updP is d f Q →
    ∃ p vs ds G, ∃ Q' : D → Prop, H p = some (.lst vs) ∧ ReTs K cls N H te vs ds G ∧ p ∈ F ∧ p ∉ G ∧ G.Nodup ∧ (∀ a ∈ G, a ∈ F) ∧ Nav H v is (.ref p) ∧ f (.lst ds) Q' ∧
      ∀ {N' : Addr → Prop} {H'' : Hp} {te' : T} {vs' : List V} {ds' : List D} {G' : List Addr}, Chg [p] H H'' → (∀ a, N a → a ≠ p) → (∀ a, N a → N' a) → H'' p = some (.lst vs') → ReTs K cls N' H'' te' vs' ds' G' → G'.Nodup → (∀ a ∈ G', a ∈ G ∨ a ∉ F) → p ∉ G' → T.le te te' = true → Q' (.lst ds') →
        ∃ d' F', ReT K cls N' H'' (plSet is.length t te') v d' F' ∧ F'.Nodup ∧ (∀ a ∈ F', a ∈ F ∨ a ∈ G') ∧ Q d'
  | [], N, H, t, te, v, d, F, Q, r, nd, ht, hu => by
    obtain ⟨ds, rfl⟩ := hf _ _ hu
    cases t with
    | ow t =>
      cases ht
      obtain ⟨p, vs, G, rfl, rfl, e, rs⟩ := r.lst
      have nd' := List.nodup_cons.mp nd
      refine ⟨p, vs, ds, G, Q, e, rs, by simp, nd'.1, nd'.2, fun a z => by simp [z], rfl, hu, fun c hN n e' rs' ndG hG hp le q => ?_⟩
      refine ⟨_, _, .owl e' rs', List.nodup_cons.mpr ⟨hp, ndG⟩, fun a z => ?_, q⟩
      rcases List.mem_cons.mp z with rfl | z
      · exact .inl (by simp)
      · exact .inr z
    | _ => cases ht
  | i :: is, N, H, t, te, v, d, F, Q, r, nd, ht, hu => by
    cases d <;> try exact hu.elim
    case tup xs =>
      obtain ⟨j, d0, hj, hd, hu⟩ := hu
      cases t with
      | ow t =>
        have ht' : plT is.length t = some te := ht
        cases t with
        | ow t =>
          obtain ⟨p0, vs0, rfl, e0, rs0⟩ := r.tup
          obtain ⟨v0, F1, F2, F3, hv, rfl, r0, k0⟩ := rs0.at hd
          obtain ⟨n1, n23, n1_23⟩ := List.nodup_append.mp nd
          obtain ⟨n2, n3, n2_3⟩ := List.nodup_append.mp n23
          obtain ⟨p, vs, ds, G, Q', h1, h2, h3, h4, h5, h6, h7, h8, h9⟩ := foc hf is r0 n2 ht' hu
          refine ⟨p, vs, ds, G, Q', h1, h2, by simp [h3], h4, h5, fun a z => by simp [h6 a z], ?_, h8, fun {N' H'' te' vs' ds' G'} c hN n e' rs' ndG hG hp le q => ?_⟩
          · refine ⟨p0, vs0, v0, rfl, .inr e0, ?_, h7⟩
            unfold atI
            rw [rs0.len, hj]
            exact hv
          · have hG2 : ∀ a ∈ G', a ∈ G ∨ a ∉ F2 := fun a z => (hG a z).imp_right fun w z2 => w (by simp [z2])
            obtain ⟨d', F2', r', nd2, hF2, q'⟩ := h9 c hN n e' rs' ndG hG2 hp le q
            have fresh : ∀ a, a ∈ F1 ++ (F2 ++ F3) → a ∉ F2 → a ∉ F2' := fun a b1 b2 z => by
              rcases hF2 a z with z | z
              · exact b2 z
              · rcases hG a z with z | z
                · exact b2 (h6 a z)
                · exact z b1
            have conv : ∀ {v : V} {d : D} {F : List Addr}, ReT K cls N H (.ow t) v d F → (∀ a ∈ F, a ∈ F1 ∨ a ∈ F3) → ReT K cls N' H'' (plSet is.length (.ow t) te') v d F := fun {v d F} r hF => by
              refine (ReT.chg c (fun a z w => hN a z (List.mem_singleton.mp w)) n (fun a z w => ?_) r).le (plSet_le ht' le)
              have e := List.mem_singleton.mp w
              subst e
              rcases hF _ z with z | z
              · exact n1_23 _ z _ (by simp [h3]) rfl
              · exact n2_3 _ h3 _ z rfl
            have k := k0 conv r'
            rw [set_same hv] at k
            refine ⟨_, _, .owP (c.tup e0) k, List.nodup_append.mpr ⟨n1, List.nodup_append.mpr ⟨nd2, n3, fun a ha b hb e => ?_⟩, fun a ha b hb e => ?_⟩, fun a z => ?_, q'⟩
            · subst e
              exact fresh a (by simp [hb]) (fun w => n2_3 a w a hb rfl) ha
            · subst e
              rcases List.mem_append.mp hb with z | z
              · exact fresh a (by simp [ha]) (fun w => n1_23 a ha a (by simp [w]) rfl) z
              · exact n1_23 a ha a (by simp [z]) rfl
            · rcases List.mem_append.mp z with z | z
              · exact .inl (by simp [z])
              · rcases List.mem_append.mp z with z | z
                · exact (hF2 a z).imp_left fun z => by simp [z]
                · exact .inl (by simp [z])
        | _ => cases is <;> cases ht'
      | _ => cases ht
    rename_i xs
    obtain ⟨j, d0, hj, hd, hu⟩ := hu
    cases t with
    | ow t =>
      have ht' : plT is.length t = some te := ht
      obtain ⟨p0, vs0, G0, rfl, rfl, e0, rs0⟩ := r.lst
      have nd' := List.nodup_cons.mp nd
      obtain ⟨v0, F1, F2, F3, hv, rfl, r0, k0⟩ := rs0.at hd
      obtain ⟨n1, n23, n1_23⟩ := List.nodup_append.mp nd'.2
      obtain ⟨n2, n3, n2_3⟩ := List.nodup_append.mp n23
      obtain ⟨p, vs, ds, G, Q', h1, h2, h3, h4, h5, h6, h7, h8, h9⟩ := foc hf is r0 n2 ht' hu
      have hp0 : p ≠ p0 := fun e => nd'.1 (by rw [← e]; simp [h3])
      have bx := rs0.box
      refine ⟨p, vs, ds, G, Q', h1, h2, by simp [h3], h4, h5, fun a z => by simp [h6 a z], ?_, h8, fun {N' H'' te' vs' ds' G'} c hN n e' rs' ndG hG hp le q => ?_⟩
      · refine ⟨p0, vs0, v0, rfl, .inl e0, ?_, h7⟩
        unfold atI
        rw [rs0.len, hj]
        exact hv
      · have hG2 : ∀ a ∈ G', a ∈ G ∨ a ∉ F2 := fun a z => (hG a z).imp_right fun w z2 => w (by simp [z2])
        obtain ⟨d', F2', r', nd2, hF2, q'⟩ := h9 c hN n e' rs' ndG hG2 hp le q
        have fresh : ∀ a, a ∈ p0 :: (F1 ++ (F2 ++ F3)) → a ∉ F2 → a ∉ F2' := fun a b1 b2 z => by
          rcases hF2 a z with z | z
          · exact b2 z
          · rcases hG a z with z | z
            · exact b2 (h6 a z)
            · exact z b1
        have conv : ∀ {v : V} {d : D} {F : List Addr}, ReT K cls N H t v d F → (∀ a ∈ F, a ∈ F1 ∨ a ∈ F3) → ReT K cls N' H'' (plSet is.length t te') v d F := fun {v d F} r hF => by
          refine (ReT.chg c (fun a z w => hN a z (List.mem_singleton.mp w)) n (fun a z w => ?_) r).le (plSet_le ht' le)
          have e := List.mem_singleton.mp w
          subst e
          rcases hF _ z with z | z
          · exact n1_23 _ z _ (by simp [h3]) rfl
          · exact n2_3 _ h3 _ z rfl
        have k := k0 conv r'
        rw [set_same hv] at k
        refine ⟨_, _, .owl (c.1 p0 _ (by simpa using fun e => hp0 e.symm) e0) k, List.nodup_cons.mpr ⟨fun z => ?_, List.nodup_append.mpr ⟨n1, List.nodup_append.mpr ⟨nd2, n3, fun a ha b hb e => ?_⟩, fun a ha b hb e => ?_⟩⟩, fun a z => ?_, q'⟩
        · rcases List.mem_append.mp z with z | z
          · exact nd'.1 (by simp [z])
          · rcases List.mem_append.mp z with z | z
            · exact fresh p0 (by simp) (fun w => nd'.1 (by simp [w])) z
            · exact nd'.1 (by simp [z])
        · subst e
          exact fresh a (by simp [hb]) (fun w => n2_3 a w a hb rfl) ha
        · subst e
          rcases List.mem_append.mp hb with z | z
          · exact fresh a (by simp [ha]) (fun w => n1_23 a ha a (by simp [w]) rfl) z
          · exact n1_23 a ha a (by simp [z]) rfl
        · rcases List.mem_cons.mp z with rfl | z
          · exact .inl (by simp)
          · rcases List.mem_append.mp z with z | z
            · exact .inl (by simp [z])
            · rcases List.mem_append.mp z with z | z
              · exact (hF2 a z).imp_left fun z => by simp [z]
              · exact .inl (by simp [z])
    | _ => cases ht
end
section
variable {K : PySem.W.Frag} {cls : Nat → Addr × List Str} {Nz : Addr → Prop} {Γ Γ' : List T} {H0 H H' : Hp} {σ : St} {env : Env}
/-- a slot's own box is written: the slots at A are shared from now on -/
theorem SRF.mut {Fs : Nat → List Addr} (h : SRF K cls Fs Nz Γ H0 H σ env) {x : Nat} {vx : V} (hσ : σ[x]? = some (some vx)) (s : Same H H') {p : Addr} {o : HO} (hp : p ∈ Fs x) (A : List Nat) (hA : x ∉ A) (hb : Box (some o)) {F : List Addr} (nd : F.Nodup) (hF : ∀ a ∈ F, a ∈ Fs x ∨ H a = none) {t' : T} {d' : D}
    (r : ReT K cls (fun a => (Nz a ∨ H0 a = none) ∧ ∀ j, a ∉ (if j = x then F else if j ∈ A then [] else Fs j)) (upd H' p o) t' vx d' F) :
    SRF K cls (fun j => if j = x then F else if j ∈ A then [] else Fs j) Nz ((frz Γ A).set x t') H0 (upd H' p o) σ (env.set x (some d')) := by
  obtain ⟨h1, h2, h3, h4, h5, h6, h7⟩ := h
  have fA : ∀ i a, i ≠ x → a ∈ Fs i → a ∉ F := fun i a e z q => by
    rcases hF a q with q | q
    · exact h2 i x e a z q
    · exact box_some (h3 i a z).2 q
  have hp0 : H0 p = none := (h3 x p hp).1
  have hpb : Box (H' p) := box_same s (h3 x p hp).2
  have cg : Chg [p] H' (upd H' p o) := by
    refine ⟨fun b u hb e => ?_, fun b hb => ?_⟩
    · rw [upd_ne (by simpa using hb)]
      exact e
    · rw [List.mem_singleton.mp hb]
      exact hpb
  have same' : Same H0 (upd H' p o) := fun b u e => by
    rw [upd_ne (fun q => by rw [q, hp0] at e; cases e)]
    exact s _ _ (h4 b u e)
  refine ⟨fun j => ?_, fun i j hij a ha => ?_, fun i a ha => ?_, same', by simp [h5], by simp [frz_len, h6], fun i d hd => ?_⟩
  · (try dsimp only); split
    · exact nd
    · split
      · exact .nil
      · exact h1 j
  · try dsimp only at ha ⊢
    split at ha
    · rename_i e
      rw [if_neg (fun q => hij (e.trans q.symm))]
      split
      · simp
      · exact fun q => fA j a (fun e2 => hij (e.trans e2.symm)) q ha
    · split at ha
      · simp at ha
      · split
        · exact fA i a (by assumption) ha
        · split
          · simp
          · exact h2 i j hij a ha
  · try dsimp only at ha
    split at ha
    · refine ⟨?_, r.box a ha⟩
      rcases hF a ha with q | q
      · exact (h3 x a q).1
      · exact h4.free q
    · split at ha
      · simp at ha
      · refine ⟨(h3 i a ha).1, ?_⟩
        by_cases e : a = p
        · subst e
          rw [upd_same]
          exact hb
        · rw [upd_ne e]
          exact box_same s (h3 i a ha).2
  · by_cases e : x = i
    · subst e
      have hx : x < env.length := by
        have := (List.getElem?_eq_some_iff.mp hd).1
        simpa using this
      rw [List.getElem?_set_self hx] at hd
      cases hd
      refine ⟨vx, t', hσ, by rw [List.getElem?_set_self (by rw [frz_len]; omega)], ?_⟩
      try dsimp only
      rw [if_pos rfl]
      exact r
    · rw [List.getElem?_set_ne e] at hd
      obtain ⟨v', t1, e1, e2, r'⟩ := h7 i d hd
      refine ⟨v', if i ∈ A then t1.bor else t1, e1, by rw [List.getElem?_set_ne e]; exact frz_get e2, ?_⟩
      have e' : ¬ i = x := fun q => e q.symm
      try dsimp only
      rw [if_neg e']
      have nn : ∀ a, (((Nz a ∨ H0 a = none) ∧ ∀ j, a ∉ Fs j) ∧ H a ≠ none) → ((Nz a ∨ H0 a = none) ∧ ∀ j, a ∉ (if j = x then F else if j ∈ A then [] else Fs j)) := fun a z => ⟨z.1.1, fun j => by
        split
        · intro w
          rcases hF a w with w | w
          · exact z.1.2 x w
          · exact z.2 w
        · split
          · simp
          · exact z.1.2 j⟩
      have pi : p ∉ Fs i := fun q => h2 i x e' p q hp
      by_cases hA' : i ∈ A
      · rw [if_pos hA', if_pos hA']
        refine .bo (flat_bor _) (RepB.chg cg (fun a z w => ?_) (fun a z => ?_) (r'.bor.dom.mono s fun a z => z))
        · have e2 := List.mem_singleton.mp w
          subst e2
          rcases z.1 with z | z
          · exact z.2 x hp
          · exact pi z
        · rcases z.1 with w | w
          · exact nn a ⟨w, z.2⟩
          · refine ⟨.inr (h3 i a w).1, fun j => ?_⟩
            split
            · exact fA i a e' w
            · split
              · simp
              · rename_i nx nA
                exact h2 i j (fun e3 => nA (e3 ▸ hA')) a w
      · rw [if_neg hA', if_neg hA']
        refine ReT.chg cg (fun a z w => ?_) nn (fun a z w => ?_) (r'.dom.mono s fun a z => z)
        · have e2 := List.mem_singleton.mp w
          subst e2
          exact z.1.2 x hp
        · have e2 := List.mem_singleton.mp w
          subst e2
          exact pi z
end
section
variable {K : PySem.W.Frag} {cls : Nat → Addr × List Str} {Nz : Addr → Prop} {Γ Γ' : List T} {H0 H H' : Hp} {σ σ' : St} {env env' : Env}
/-- a box is written, what the slots own is set anew: a slot is as it was, or told -/
theorem SRF.gen {Fs : Nat → List Addr} (h : SRF K cls Fs Nz Γ H0 H σ env) (s : Same H H') {p : Addr} {o : HO} {x : Nat} (hp : p ∈ Fs x) (hb : Box (some o)) (Gs : Nat → List Addr) (nd : ∀ i, (Gs i).Nodup) (dj : ∀ i j, i ≠ j → ∀ a ∈ Gs i, a ∉ Gs j)
    (sub : ∀ j a, a ∈ Gs j → (∃ i, a ∈ Fs i) ∨ (H a = none ∧ Box (upd H' p o a))) (l1 : σ'.length = env'.length) (l2 : Γ'.length = env'.length)
    (get : ∀ i d, env'[i]? = some (some d) → (i ≠ x ∧ σ'[i]? = σ[i]? ∧ env[i]? = some (some d) ∧ Γ'[i]? = Γ[i]? ∧ Gs i = Fs i) ∨ ∃ v t, σ'[i]? = some (some v) ∧ Γ'[i]? = some t ∧ ReT K cls (fun a => (Nz a ∨ H0 a = none) ∧ ∀ j, a ∉ Gs j) (upd H' p o) t v d (Gs i)) :
    SRF K cls Gs Nz Γ' H0 (upd H' p o) σ' env' := by
  obtain ⟨h1, h2, h3, h4, h5, h6, h7⟩ := h
  have hp0 : H0 p = none := (h3 x p hp).1
  have hpb : Box (H' p) := box_same s (h3 x p hp).2
  have cg : Chg [p] H' (upd H' p o) := by
    refine ⟨fun b u hb e => ?_, fun b hb => ?_⟩
    · rw [upd_ne (by simpa using hb)]
      exact e
    · rw [List.mem_singleton.mp hb]
      exact hpb
  have same' : Same H0 (upd H' p o) := fun b u e => by
    rw [upd_ne (fun q => by rw [q, hp0] at e; cases e)]
    exact s _ _ (h4 b u e)
  refine ⟨nd, dj, fun i a ha => ?_, same', l1, l2, fun i d hd => ?_⟩
  · rcases sub i a ha with ⟨j, q⟩ | ⟨q, q2⟩
    · refine ⟨(h3 j a q).1, ?_⟩
      by_cases e : a = p
      · subst e
        rw [upd_same]
        exact hb
      · rw [upd_ne e]
        exact box_same s (h3 j a q).2
    · exact ⟨h4.free q, q2⟩
  · rcases get i d hd with ⟨nx, e1, e2, e3, e4⟩ | q
    · obtain ⟨v, t, q1, q2, r⟩ := h7 i d e2
      refine ⟨v, t, by rw [e1]; exact q1, by rw [e3]; exact q2, ?_⟩
      rw [e4]
      refine ReT.chg cg (fun a z w => ?_) (fun a z => ⟨z.1.1, fun j w => ?_⟩) (fun a z w => ?_) (r.dom.mono s fun a z => z)
      · have e2 := List.mem_singleton.mp w
        subst e2
        exact z.1.2 x hp
      · have e2 := List.mem_singleton.mp w
        subst e2
        exact h2 i x nx _ z hp
      · rcases sub j a w with ⟨k, w⟩ | ⟨w, _⟩
        · exact z.1.2 k w
        · exact z.2 w
    · exact q
end
open PySem.Spec PyProof.Rows in
theorem get_list {X : Cx} : PGet X (rIxL X.K) := by
  intro pins s σ H x y v u Q I rx ry h
  obtain ⟨p, xs, i, z, rfl, rfl, hq, he, q⟩ := h
  cases rx
  obtain ⟨t, rfl⟩ := ry
  obtain ⟨its, r, pl, hz⟩ := I.list hq
  obtain ⟨j, h1, h2, h3, h4, h5⟩ := atI_get he
  obtain ⟨w, ew, rw'⟩ := r.get h2
  have hl := r.length
  have hn := line63
  have fin : EP X pins σ Q w s := ⟨z, H, I, rw', q⟩
  by_cases h0 : 0 ≤ i
  · have hj : i.toNat = j := by
      rw [seqIndex_of h0 h5] at h1
      exact Option.some.inj h1
    exact wpAny_mono (wpAny_getItem_list (Q := fun r s' => r = w ∧ EP X pins σ Q r s') pl.isList h0 (by omega) (by rw [hj]; simpa using ew) ⟨rfl, fin⟩) (fun _ _ z => z.2) fun _ _ z => z
  · have hj : (i + (its.toArray.size : Int)).toNat = j := by
      rw [seqIndex_neg (by omega) h4] at h1
      rw [List.size_toArray, ← hl]
      exact Option.some.inj h1
    exact wpAny_mono (wpAny_getItem_list_neg (Q := fun r s' => r = w ∧ EP X pins σ Q r s') pl.isList (by omega) (by rw [List.size_toArray] <;> omega) (by omega) (by rw [hj]; simpa using ew) ⟨rfl, fin⟩) (fun _ _ z => z.2) fun _ _ z => z
/-- l.extend(m), m read -/
def rExtA : V → List V → Hp → VK → Prop := fun x vs H Q => ∃ l b xs zs, x = .ref l ∧ vs = [.ref b] ∧ H l = some (.lst xs) ∧ Rd H b (.lst zs) ∧ xs.length + zs.length ≤ sizeLine ∧ Q .non (upd H l (.lst (xs ++ zs)))
open PySem.Spec PyProof.Rows in
theorem mt_extA {X : Cx} : MtR X "list.extend" rExtA := by
  intro pins s σ H x vs v us Q I rx rv h
  obtain ⟨l, b, xs, zs, rfl, rfl, hH, hB, hz, q⟩ := h
  cases rx
  obtain ⟨u, rfl, ru⟩ := rv.one
  cases ru
  obtain ⟨z, its, n, r, hl, e⟩ := I.lstM hH
  obtain ⟨_, its2, n2, r2, e2⟩ := hB.ok I.hok
  have hl2 := r2.length
  have hsz : its.toArray.size + its2.toArray.size ≤ sizeLine := by rw [List.size_toArray, List.size_toArray]; omega
  have hlong : ¬ (!its.toArray.isEmpty && Builtin.List.listTooLong (its.toArray.size + its2.toArray.size)) = true := by
    rw [notLongL hsz, Bool.and_false]
    exact Bool.false_ne_true
  refine call_meets F.slot_list_extend ⟨_, e, rfl⟩ F.entry_list_extend (F.args_list_extend_2 _ _)
    (AutoSeq1.list_extend_list_list_0 l its.toArray n b its2.toArray n2 hlong (by rw [List.size_toArray]; omega) (by omega)) ⟨e, e2, ?_⟩
  refine ⟨.non, _, I.lset (its' := its ++ its2) hH e (by simp) (r.append r2) ?_, rfl, q⟩
  rw [List.length_append]
  omega
section
variable {K : PySem.W.Frag} {cls : Nat → Addr × List Str} {Nz : Addr → Prop} {Γ : List T} {H0 H : Hp} {σ : St} {env : Env}
/-- what is not owned behind a write; F1: what is new -/
def Nw (Nz : Addr → Prop) (H0 : Hp) (Fs : Nat → List Addr) (A : List Nat) (F1 : List Addr) : Addr → Prop := fun a => (Nz a ∨ H0 a = none) ∧ (∀ j, j ∉ A → a ∉ Fs j) ∧ a ∉ F1
theorem SRF.write {Fs : Nat → List Addr} (h : SRF K cls Fs Nz Γ H0 H σ env) {f : D → (D → Prop) → Prop} (hf : ∀ d Q, f d Q → ∃ ds, d = .lst ds) {x : Nat} {tx te : T} {d : D} {is : List Int} {Q : D → Prop} (hx : Γ[x]? = some tx) (hd : env[x]? = some (some d)) (hpl : plT is.length tx = some te) (hu : updP is d f Q) :
    ∃ v p vs ds G, ∃ Q' : D → Prop, σ[x]? = some (some v) ∧ Nav H v is (.ref p) ∧ H p = some (.lst vs) ∧ ReTs K cls (fun a => ((Nz a ∨ H0 a = none) ∧ ∀ j, a ∉ Fs j) ∧ H a ≠ none) H te vs ds G ∧ G.Nodup ∧ p ∈ Fs x ∧ p ∉ G ∧ (∀ a ∈ G, a ∈ Fs x) ∧ f (.lst ds) Q' ∧
      ∀ {H3 : Hp} {A : List Nat} {F1 : List Addr} {te' : T} {vs' : List V} {ds' : List D} {G' : List Addr}, Same H H3 → x ∉ A → (∀ a ∈ F1, H a = none) → T.le te te' = true → ReTs K cls (Nw Nz H0 Fs A F1) (upd H3 p (.lst vs')) te' vs' ds' G' → G'.Nodup → (∀ a ∈ G', a ∈ G ∨ a ∈ F1) → p ∉ G' → Q' (.lst ds') →
        ∃ d', SR K cls Nz ((frz Γ A).set x (plSet is.length tx te')) H0 (upd H3 p (.lst vs')) σ (env.set x (some d')) ∧ Q d' := by
  obtain ⟨v, tx', e1, e2, r⟩ := h.get x d hd
  rw [hx] at e2
  cases e2
  obtain ⟨p, vs, ds, G, Q', h1, h2, h3, h4, h5, h6, h7, h8, h9⟩ := foc hf is r.dom (h.nd x) hpl hu
  refine ⟨v, p, vs, ds, G, Q', e1, h7, h1, h2, h5, h3, h4, h6, h8, fun {H3 A F1 te' vs' ds' G'} s hA hF le rs nd hG hp q => ?_⟩
  have hpb : Box (H p) := (h.own x p h3).2
  have cg : Chg [p] H (upd H3 p (.lst vs')) := by
    refine ⟨fun b u hb e => ?_, fun b hb => ?_⟩
    · rw [upd_ne (by simpa using hb)]
      exact s _ _ e
    · rw [List.mem_singleton.mp hb]
      exact hpb
  obtain ⟨d', F', r', nd', hF', q'⟩ := h9 (N' := Nw Nz H0 Fs A F1) cg (fun a z e => z.1.2 x (by rw [e]; exact h3)) (fun a z => ⟨z.1.1, fun j _ => z.1.2 j, fun w => z.2 (hF a w)⟩) upd_same rs nd (fun a z => (hG a z).imp_right fun w w2 => box_some' (h.own x a w2).2 (hF a w)) hp le q
  refine ⟨d', ⟨_, h.mut (A := A) e1 s h3 hA (show Box (some (HO.lst vs')) from trivial) nd' (fun a z => ?_) (r'.mono (Same.refl _) fun a z => ⟨z.1, fun j => ?_⟩)⟩, q'⟩
  · rcases hF' a z with w | w
    · exact .inl w
    · rcases hG a w with w | w
      · exact .inl (h6 a w)
      · exact .inr (hF a w)
  · split
    · intro w
      rcases hF' a w with w | w
      · exact z.2.1 x hA w
      · rcases hG a w with w | w
        · exact z.2.1 x hA (h6 a w)
        · exact z.2.2 w
    · split
      · simp
      · exact z.2.1 j ‹_›
/-- old parts behind the write -/
theorem SRF.oldEl {Fs : Nat → List Addr} (h : SRF K cls Fs Nz Γ H0 H σ env) {x : Nat} {p : Addr} {o : HO} {H3 : Hp} {A : List Nat} {F1 : List Addr} {te te' : T} {v : V} {d : D} {F : List Addr} (hp : p ∈ Fs x) (s : Same H H3) (hF : ∀ a ∈ F1, H a = none) (le : T.le te te' = true) (hpF : p ∉ F)
    (r : ReT K cls (fun a => ((Nz a ∨ H0 a = none) ∧ ∀ j, a ∉ Fs j) ∧ H a ≠ none) H te v d F) : ReT K cls (Nw Nz H0 Fs A F1) (upd H3 p o) te' v d F := by
  have hpb : Box (H p) := (h.own x p hp).2
  have cg : Chg [p] H (upd H3 p o) := by
    refine ⟨fun b u hb e => ?_, fun b hb => ?_⟩
    · rw [upd_ne (by simpa using hb)]
      exact s _ _ e
    · rw [List.mem_singleton.mp hb]
      exact hpb
  exact (ReT.chg cg (fun a z e => z.1.2 x (by rw [List.mem_singleton.mp e]; exact hp)) (fun a z => ⟨z.1.1, fun j _ => z.1.2 j, fun w => z.2 (hF a w)⟩) (fun a z e => hpF (by rw [← List.mem_singleton.mp e]; exact z)) r).le le
/-- a new part behind the write -/
theorem SRF.newEl {Fs : Nat → List Addr} (h : SRF K cls Fs Nz Γ H0 H σ env) {x : Nat} {p : Addr} {o : HO} {H2 H3 : Hp} {A : List Nat} {u : T} {v : V} {d : D} (hp : p ∈ Fs x) (hA : x ∉ A) (s : Same H H2) (s3 : Same H2 H3) {F1 : List Addr} (fr : ∀ a ∈ F1, H2 a = none)
    (r : ReT K cls (fun a => NA (Lof Nz H0 H Fs) H2 A a ∧ a ∉ F1) H3 u v d F1) : ReT K cls (Nw Nz H0 Fs A F1) (upd H3 p o) u v d F1 := by
  have hpb : Box (H p) := (h.own x p hp).2
  have hp3 : Box (H3 p) := box_same (s.trans s3) hpb
  have cg : Chg [p] H3 (upd H3 p o) := by
    refine ⟨fun b u hb e => ?_, fun b hb => ?_⟩
    · rw [upd_ne (by simpa using hb)]
      exact e
    · rw [List.mem_singleton.mp hb]
      exact hp3
  have key : ∀ a, NA (Lof Nz H0 H Fs) H2 A a → (Nz a ∨ H0 a = none) ∧ ∀ j, j ∉ A → a ∉ Fs j := by
    rintro a (⟨i, hi, q, _⟩ | q)
    · rcases q with q | q
      · exact ⟨.inr (h.own i a q).1, fun j hj => h.dj i j (fun e => hj (e ▸ hi)) a q⟩
      · exact ⟨q.1, fun j _ => q.2 j⟩
    · have := s.free q
      exact ⟨.inr (h.same.free this), fun j _ w => box_some' (h.own j a w).2 this⟩
  refine ReT.chg cg (fun a z e => ?_) (fun a z => ⟨(key a z.1).1, (key a z.1).2, z.2⟩) (fun a z e => ?_) r
  · have := List.mem_singleton.mp e
    subst this
    exact (key _ z.1).2 x hA hp
  · have := List.mem_singleton.mp e
    subst this
    exact box_some' (box_same s hpb) (fr _ z)
theorem ReTs.conv' {N N' : Addr → Prop} {H H' : Hp} {t t' : T} : ∀ {vs : List V} {ds : List D} {F : List Addr}, (∀ {v d G}, ReT K cls N H t v d G → (∀ a ∈ G, a ∈ F) → ReT K cls N' H' t' v d G) → ReTs K cls N H t vs ds F → ReTs K cls N' H' t' vs ds F
  | _, _, _, _, .nil => .nil
  | _, _, _, cv, .cons h r => .cons (cv h fun a z => List.mem_append_left _ z) (ReTs.conv' (fun r hF => cv r fun a z => List.mem_append_right _ (hF a z)) r)
theorem ReTs.append {N : Addr → Prop} {H : Hp} {t : T} : ∀ {vs ws : List V} {ds es : List D} {F F2 : List Addr}, ReTs K cls N H t vs ds F → ReTs K cls N H t ws es F2 → ReTs K cls N H t (vs ++ ws) (ds ++ es) (F ++ F2)
  | _, _, _, _, _, _, .nil, h => h
  | _, _, _, _, _, _, .cons a r, h => by
    rw [List.append_assoc]
    exact .cons a (ReTs.append r h)
theorem ReTs.rev {N : Addr → Prop} {H : Hp} {t : T} : ∀ {vs : List V} {ds : List D} {F : List Addr}, ReTs K cls N H t vs ds F → ∃ F', ReTs K cls N H t vs.reverse ds.reverse F' ∧ F'.Perm F
  | _, _, _, .nil => ⟨[], .nil, .refl _⟩
  | _, _, _, .cons (F := F) a r => by
    obtain ⟨F', h, p⟩ := ReTs.rev r
    refine ⟨F' ++ (F ++ []), ?_, ?_⟩
    · rw [List.reverse_cons, List.reverse_cons]
      exact ReTs.append h (.cons a .nil)
    · rw [List.append_nil]
      exact (p.append_right F).trans List.perm_append_comm
/-- the last one, and what is ahead of it -/
theorem ReTs.last {N : Addr → Prop} {H : Hp} {t : T} : ∀ {vs : List V} {ds : List D} {F : List Addr} {d : D}, ReTs K cls N H t vs ds F → ds[ds.length - 1]? = some d → ∃ v F1 F2, vs[vs.length - 1]? = some v ∧ F = F1 ++ F2 ∧ ReTs K cls N H t vs.dropLast ds.dropLast F1 ∧ ReT K cls N H t v d F2
  | _, _, _, _, .nil, e => by simp at e
  | _, _, _, _, .cons (F := F) a .nil, e => by
    simp at e
    subst e
    exact ⟨_, [], F, rfl, by simp, .nil, a⟩
  | _, _, _, d, .cons (v := v) (F := F) a (.cons (v := v2) (vs := vs) (d := d2) (ds := ds) b r), e => by
    have e' : (d2 :: ds)[(d2 :: ds).length - 1]? = some d := by simpa using e
    obtain ⟨w, F1, F2, h1, h2, h3, h4⟩ := ReTs.last (.cons b r) e'
    refine ⟨w, F ++ F1, F2, by simpa using h1, by rw [h2, List.append_assoc], ?_, h4⟩
    have := ReTs.cons a h3
    simpa using this
theorem ReTs.erase {N : Addr → Prop} {H : Hp} {t : T} : ∀ {vs : List V} {ds : List D} {F : List Addr} {i : Nat} {d : D}, ReTs K cls N H t vs ds F → ds[i]? = some d → ∃ v F1 F2, vs[i]? = some v ∧ F.Perm (F2 ++ F1) ∧ ReTs K cls N H t (vs.eraseIdx i) (ds.eraseIdx i) F1 ∧ ReT K cls N H t v d F2
  | _, _, _, _, _, .nil, e => by simp at e
  | _, _, _, 0, _, .cons (F := F) (G := G) a r, e => by
    simp at e
    subst e
    exact ⟨_, G, F, rfl, .refl _, r, a⟩
  | _, _, _, i + 1, _, .cons (F := F) a r, e => by
    obtain ⟨w, F1, F2, h1, h2, h3, h4⟩ := ReTs.erase (i := i) r (by simpa using e)
    refine ⟨w, F ++ F1, F2, by simpa using h1, ?_, .cons a h3, h4⟩
    refine (h2.append_left F).trans ?_
    rw [← List.append_assoc, ← List.append_assoc]
    exact List.perm_append_comm.append_right _
theorem ReTs.ofB {N : Addr → Prop} {H : Hp} {t j : T} (f : t.flat = true) (le : T.le t j = true) : ∀ {vs : List V} {ds : List D}, Paired (RepB K cls N H t) vs ds → ReTs K cls N H j vs ds []
  | _, _, .nil => .nil
  | _, _, .cons a r => ReTs.cons (F := []) (G := []) (ReT.le le (.bo f a)) (ReTs.ofB f le r)
end
theorem Nav.mono {H H' : Hp} (s : Same H H') : ∀ {is : List Int} {v w : V}, Nav H v is w → Nav H' v is w
  | [], _, _, h => h
  | _ :: _, _, _, ⟨a, xs, v1, e1, e2, e3, h⟩ => ⟨a, xs, v1, e1, e2.imp (s _ _) (s _ _), e3, Nav.mono s h⟩
section
variable {K : PySem.W.Frag} {cls : Nat → Addr × List Str} {Nz : Addr → Prop} {Γ : List T} {H0 H : Hp} {σ : St} {env : Env}
/-- the thing of slot y is put into that of slot x -/
theorem SRF.writeM {Fs : Nat → List Addr} (h : SRF K cls Fs Nz Γ H0 H σ env) {f : D → (D → Prop) → Prop} (hf : ∀ d Q, f d Q → ∃ ds, d = .lst ds) {x y : Nat} (xy : x ≠ y) {tx te u : T} {d z : D} {is : List Int} {Q : D → Prop} (hx : Γ[x]? = some tx) (hy : Γ[y]? = some u) (hd : env[x]? = some (some d)) (hz : env[y]? = some (some z)) (hpl : plT is.length tx = some te) (hu : updP is d f Q) :
    ∃ v w p vs ds G, ∃ Q' : D → Prop, σ[x]? = some (some v) ∧ σ[y]? = some (some w) ∧ Nav H v is (.ref p) ∧ H p = some (.lst vs) ∧ ReTs K cls (fun a => ((Nz a ∨ H0 a = none) ∧ ∀ j, a ∉ Fs j)) H te vs ds G ∧ G.Nodup ∧ p ∈ Fs x ∧ p ∉ G ∧ (∀ a ∈ G, a ∈ Fs x) ∧ f (.lst ds) Q' ∧
      ∀ {H3 : Hp} {te' : T} {vs' : List V} {ds' : List D}, Same H H3 → T.le te te' = true → T.le u te' = true → (∀ {N' : Addr → Prop} {H' : Hp}, ReTs K cls N' H' te' vs ds G → ReT K cls N' H' te' w z (Fs y) → ∃ G', ReTs K cls N' H' te' vs' ds' G' ∧ G'.Perm (G ++ Fs y)) → Q' (.lst ds') →
        ∃ d', SR K cls Nz (Γ.set x (plSet is.length tx te')) H0 (upd H3 p (.lst vs')) σ ((env.set y none).set x (some d')) ∧ Q d' := by
  obtain ⟨v, tx', e1, e2, r⟩ := h.get x d hd
  rw [hx] at e2
  cases e2
  obtain ⟨w, u', e3, e4, ry⟩ := h.get y z hz
  rw [hy] at e4
  cases e4
  obtain ⟨p, vs, ds, G, Q', h1, h2, h3, h4, h5, h6, h7, h8, h9⟩ := foc hf is r (h.nd x) hpl hu
  refine ⟨v, w, p, vs, ds, G, Q', e1, e3, h7, h1, h2, h5, h3, h4, h6, h8, fun {H3 te' vs' ds'} s le lu mk q => ?_⟩
  have hpb : Box (H p) := (h.own x p h3).2
  have cg : Chg [p] H (upd H3 p (.lst vs')) := by
    refine ⟨fun b u hb e => ?_, fun b hb => ?_⟩
    · rw [upd_ne (by simpa using hb)]
      exact s _ _ e
    · rw [List.mem_singleton.mp hb]
      exact hpb
  have cv : ∀ {t t' : T} {v : V} {d : D} {F : List Addr}, T.le t t' = true → p ∉ F → ReT K cls (fun a => ((Nz a ∨ H0 a = none) ∧ ∀ j, a ∉ Fs j)) H t v d F → ReT K cls (fun a => ((Nz a ∨ H0 a = none) ∧ ∀ j, a ∉ Fs j)) (upd H3 p (.lst vs')) t' v d F := fun le hp r =>
    (ReT.chg cg (fun a z e => z.2 x (by rw [List.mem_singleton.mp e]; exact h3)) (fun a z => z) (fun a z e => hp (by rw [← List.mem_singleton.mp e]; exact z)) r).le le
  have py : p ∉ Fs y := h.dj x y xy p h3
  obtain ⟨G', rs', pm⟩ := mk (ReTs.conv' (fun r hs => cv le (fun z => h4 (hs _ z)) r) h2) (cv lu py ry)
  have gy : ∀ a ∈ G', a ∈ G ∨ a ∈ Fs y := fun a z => List.mem_append.mp (pm.mem_iff.mp z)
  have nd' : G'.Nodup := pm.nodup_iff.mpr (List.nodup_append.mpr ⟨h5, h.nd y, fun a ha b hb e => h.dj x y xy a (h6 a ha) (e ▸ hb)⟩)
  obtain ⟨d', F', r', ndF, hF', q'⟩ := h9 cg (fun a z e => z.2 x (by rw [e]; exact h3)) (fun a z => z) upd_same rs' nd' (fun a z => (gy a z).imp_right fun w w2 => h.dj x y xy a w2 w) (fun z => (gy p z).elim h4 py) le q
  have sub : ∀ a ∈ F', a ∈ Fs x ∨ a ∈ Fs y := fun a z => by
    rcases hF' a z with z | z
    · exact .inl z
    · rcases gy a z with z | z
      · exact .inl (h6 a z)
      · exact .inr z
  refine ⟨d', ⟨_, h.gen s h3 (show Box (some (HO.lst vs')) from trivial) (fun j => if j = x then F' else if j = y then [] else Fs j) (fun i => ?_) (fun i j hij a ha => ?_) (fun j a ha => ?_) (by simp [h.l1]) (by simp [h.l2]) (fun i di hdi => ?_)⟩, q'⟩
  · (try dsimp only); split
    · exact ndF
    · split
      · exact .nil
      · exact h.nd i
  · try dsimp only at ha ⊢
    split at ha
    · rename_i e
      rw [if_neg (fun q => hij (e.trans q.symm))]
      split
      · simp
      · rename_i ny
        rcases sub a ha with z | z
        · exact h.dj x j (fun q => hij (e.trans q)) a z
        · exact h.dj y j (fun q => ny q.symm) a z
    · split at ha
      · simp at ha
      · rename_i nx ny
        split
        · intro z
          rcases sub a z with z | z
          · exact h.dj i x nx a ha z
          · exact h.dj i y ny a ha z
        · split
          · simp
          · exact h.dj i j hij a ha
  · try dsimp only at ha
    split at ha
    · rcases sub a ha with z | z
      · exact .inl ⟨x, z⟩
      · exact .inl ⟨y, z⟩
    · split at ha
      · simp at ha
      · exact .inl ⟨j, ha⟩
  · by_cases e : x = i
    · subst e
      have hxl : x < env.length := by
        have := (List.getElem?_eq_some_iff.mp hdi).1
        simpa using this
      rw [List.getElem?_set_self (by simpa using hxl)] at hdi
      cases hdi
      have l2 := h.l2
      refine .inr ⟨v, plSet is.length tx te', e1, by rw [List.getElem?_set_self (by omega)], ?_⟩
      try dsimp only
      rw [if_pos rfl]
      refine r'.mono (Same.refl _) fun a z => ⟨z.1, fun j => ?_⟩
      split
      · exact fun w => (sub a w).elim (z.2 x) (z.2 y)
      · split
        · simp
        · exact z.2 j
    · rw [List.getElem?_set_ne e] at hdi
      by_cases ey : y = i
      · subst ey
        by_cases hl : y < env.length
        · rw [List.getElem?_set_self hl] at hdi; cases hdi
        · rw [List.getElem?_eq_none (by simpa using hl)] at hdi; cases hdi
      · rw [List.getElem?_set_ne ey] at hdi
        refine .inl ⟨fun q => e q.symm, rfl, hdi, by rw [List.getElem?_set_ne e], ?_⟩
        try dsimp only
        rw [if_neg (fun q => e q.symm), if_neg (fun q => ey q.symm)]
/-- an item of slot x's list goes to slot y -/
theorem SRF.take {Fs : Nat → List Addr} (h : SRF K cls Fs Nz Γ H0 H σ env) {x y : Nat} (xy : x ≠ y) {t : T} {ds : List D} (hx : Γ[x]? = some (.ow t)) (hd : env[x]? = some (some (.lst ds))) :
    ∃ v p vs G, σ[x]? = some (some v) ∧ v = .ref p ∧ H p = some (.lst vs) ∧ ReTs K cls (fun a => ((Nz a ∨ H0 a = none) ∧ ∀ j, a ∉ Fs j)) H t vs ds G ∧
      ∀ {H3 : Hp} {vs' : List V} {ds' : List D} {w : V} {z : D}, Same H H3 → (∀ {N' : Addr → Prop} {H' : Hp}, ReTs K cls N' H' t vs ds G → ∃ G1 G2, ReTs K cls N' H' t vs' ds' G1 ∧ ReT K cls N' H' t w z G2 ∧ (G1 ++ G2).Perm G) →
        SR K cls Nz (Γ.set y t) H0 (upd H3 p (.lst vs')) (σ.set y (some w)) ((env.set x (some (.lst ds'))).set y (some z)) := by
  obtain ⟨v, tx', e1, e2, r⟩ := h.get x _ hd
  rw [hx] at e2
  cases e2
  obtain ⟨p, vs, G, rfl, eF, hp, rs⟩ := r.lst
  refine ⟨_, p, vs, G, e1, rfl, hp, rs, fun {H3 vs' ds' w z} s mk => ?_⟩
  have h3 : p ∈ Fs x := by rw [eF]; simp
  have ndx := h.nd x
  rw [eF] at ndx
  obtain ⟨hpG, ndG⟩ := List.nodup_cons.mp ndx
  have hpb : Box (H p) := (h.own x p h3).2
  have cg : Chg [p] H (upd H3 p (.lst vs')) := by
    refine ⟨fun b u hb e => ?_, fun b hb => ?_⟩
    · rw [upd_ne (by simpa using hb)]
      exact s _ _ e
    · rw [List.mem_singleton.mp hb]
      exact hpb
  have hGx : ∀ a ∈ G, a ∈ Fs x := fun a z => by rw [eF]; simp [z]
  obtain ⟨G1, G2, r1, r2, pm⟩ := mk (ReTs.chg cg (fun a z e => z.2 x (by rw [List.mem_singleton.mp e]; exact h3)) (fun a z => z) (fun a z e => hpG (by rw [← List.mem_singleton.mp e]; exact z)) rs)
  have nd12 := List.nodup_append.mp (pm.nodup_iff.mpr ndG)
  have s1 : ∀ a ∈ G1, a ∈ G := fun a z => pm.mem_iff.mp (List.mem_append_left _ z)
  have s2 : ∀ a ∈ G2, a ∈ G := fun a z => pm.mem_iff.mp (List.mem_append_right _ z)
  refine ⟨_, h.gen s h3 (show Box (some (HO.lst vs')) from trivial) (fun j => if j = x then p :: G1 else if j = y then G2 else Fs j) (fun i => ?_) (fun i j hij a ha => ?_) (fun j a ha => ?_) (by simp [h.l1]) (by simp [h.l2]) (fun i di hdi => ?_)⟩
  · (try dsimp only); split
    · exact List.nodup_cons.mpr ⟨fun z => hpG (s1 p z), nd12.1⟩
    · split
      · exact nd12.2.1
      · exact h.nd i
  · have inx : ∀ a, a ∈ p :: G1 → a ∈ Fs x := fun a z => by
      rcases List.mem_cons.mp z with rfl | z
      · exact h3
      · exact hGx a (s1 a z)
    try dsimp only at ha ⊢
    split at ha
    · rename_i e
      rw [if_neg (fun q => hij (e.trans q.symm))]
      split
      · intro z
        rcases List.mem_cons.mp ha with rfl | w
        · exact hpG (s2 _ z)
        · exact nd12.2.2 a w a z rfl
      · exact h.dj x j (fun q => hij (e.trans q)) a (inx a ha)
    · split at ha
      · rename_i nx ey
        split
        · intro w
          rcases List.mem_cons.mp w with rfl | w
          · exact hpG (s2 _ ha)
          · exact nd12.2.2 a w a ha rfl
        · split
          · rename_i ej
            exact absurd (ey.trans ej.symm) hij
          · rename_i njx _
            exact h.dj x j (fun q => njx q.symm) a (hGx a (s2 a ha))
      · rename_i nx ny
        split
        · exact fun w => h.dj i x nx a ha (inx a w)
        · split
          · exact fun w => h.dj i x nx a ha (hGx a (s2 a w))
          · exact h.dj i j hij a ha
  · try dsimp only at ha
    split at ha
    · refine .inl ⟨x, ?_⟩
      rcases List.mem_cons.mp ha with rfl | w
      · exact h3
      · exact hGx a (s1 a w)
    · split at ha
      · exact .inl ⟨x, hGx a (s2 a ha)⟩
      · exact .inl ⟨j, ha⟩
  · have l1 := h.l1
    have l2 := h.l2
    have nn : ∀ a, ((Nz a ∨ H0 a = none) ∧ ∀ j, a ∉ Fs j) → ((Nz a ∨ H0 a = none) ∧ ∀ j, a ∉ (if j = x then p :: G1 else if j = y then G2 else Fs j)) := fun a z => ⟨z.1, fun j => by
      split
      · intro w
        rcases List.mem_cons.mp w with rfl | w
        · exact z.2 x h3
        · exact z.2 x (hGx a (s1 a w))
      · split
        · exact fun w => z.2 x (hGx a (s2 a w))
        · exact z.2 j⟩
    by_cases ey : y = i
    · subst ey
      have hyl : y < env.length := by
        have := (List.getElem?_eq_some_iff.mp hdi).1
        simpa using this
      rw [List.getElem?_set_self (by simpa using hyl)] at hdi
      cases hdi
      refine .inr ⟨w, t, by rw [List.getElem?_set_self (by omega)], by rw [List.getElem?_set_self (by omega)], ?_⟩
      try dsimp only
      rw [if_neg (fun q => xy q.symm), if_pos rfl]
      exact r2.mono (Same.refl _) nn
    · rw [List.getElem?_set_ne ey] at hdi
      by_cases e : x = i
      · subst e
        have hxl : x < env.length := by
          have := (List.getElem?_eq_some_iff.mp hdi).1
          simpa using this
        rw [List.getElem?_set_self hxl] at hdi
        cases hdi
        refine .inr ⟨_, .ow t, by rw [List.getElem?_set_ne ey]; exact e1, by rw [List.getElem?_set_ne ey]; exact hx, ?_⟩
        try dsimp only
        rw [if_pos rfl]
        exact (ReT.owl upd_same r1).mono (Same.refl _) nn
      · rw [List.getElem?_set_ne e] at hdi
        refine .inl ⟨fun q => e q.symm, by rw [List.getElem?_set_ne ey], hdi, by rw [List.getElem?_set_ne ey], ?_⟩
        try dsimp only
        rw [if_neg (fun q => e q.symm), if_neg (fun q => ey q.symm)]
end
theorem ReTs.ins {K : PySem.W.Frag} {cls : Nat → Addr × List Str} {N : Addr → Prop} {H : Hp} {t : T} : ∀ {vs : List V} {ds : List D} {F : List Addr} (i : Nat) {v : V} {d : D} {G : List Addr}, ReTs K cls N H t vs ds F → ReT K cls N H t v d G → ∃ F', ReTs K cls N H t (vs.take i ++ [v] ++ vs.drop i) (ds.take i ++ [d] ++ ds.drop i) F' ∧ F'.Perm (F ++ G)
  | _, _, F, 0, _, _, G, h, r => ⟨G ++ F, by simpa using ReTs.cons r h, List.perm_append_comm⟩
  | _, _, _, i + 1, _, _, G, .nil, r => ⟨G ++ [], by simpa using ReTs.cons r .nil, by simp⟩
  | _, _, _, i + 1, _, _, G, .cons (F := F) (G := F2) a h, r => by
    obtain ⟨F', h', pm⟩ := ReTs.ins i h r
    refine ⟨F ++ F', by simpa using ReTs.cons a h', ?_⟩
    rw [List.append_assoc]
    exact pm.append_left F
end Pv

set_option maxRecDepth 100000
set_option maxHeartbeats 1000000
namespace Pv
open PySem L2
/-! ### dicts changed in place -/
section
variable {K : PySem.W.Frag} {cls : Nat → Addr × List Str} {N : Addr → Prop} {H : Hp} {t : T} {κ : Type} [DecidableEq κ]
theorem any_zip {k : κ} : ∀ {kvs : List (κ × V)} {ds : List D}, kvs.length = ds.length → (((kvs.map (·.1)).zip ds).any fun kv => decide (kv.1 = k)) = kvs.any fun kv => decide (kv.1 = k)
  | [], [], _ => rfl
  | (k', v) :: kvs, d :: ds, h => by
    have := any_zip (k := k) (kvs := kvs) (ds := ds) (by simpa using h)
    simp only [List.map_cons, List.zip_cons_cons, List.any_cons, this]
theorem ReTs.len2 : ∀ {vs : List V} {ds : List D} {F : List Addr}, ReTs K cls N H t vs ds F → vs.length = ds.length
  | _, _, _, .nil => rfl
  | _, _, _, .cons _ r => by rw [List.length_cons, List.length_cons, ReTs.len2 r]
theorem keys_repl {α : Type} (k : κ) (y : α) (kvs : List (κ × α)) : (kvs.map fun kv => if kv.1 = k then (kv.1, y) else kv).map (·.1) = kvs.map (·.1) := by
  rw [List.map_map]
  refine List.map_congr_left fun kv _ => ?_
  simp only [Function.comp]
  split <;> rfl
theorem repl_none {α : Type} {k : κ} {y : α} : ∀ {kvs : List (κ × α)}, k ∉ kvs.map (·.1) → (kvs.map fun kv => if kv.1 = k then (kv.1, y) else kv) = kvs
  | [], _ => rfl
  | kv :: kvs, h => by
    rw [List.map_cons, repl_none (kvs := kvs) fun z => h (by simp [z]), if_neg fun e => h (by simp [e])]
theorem ReTs.repl {k : κ} {y : V} {dy : D} {F2 : List Addr} : ∀ {kvs : List (κ × V)} {ds : List D} {F : List Addr}, (kvs.map (·.1)).Nodup → ReTs K cls N H t (kvs.map (·.2)) ds F → k ∈ kvs.map (·.1) → ReT K cls N H t y dy F2 →
    ∃ ds' F', (((kvs.map (·.1)).zip ds).map fun kv => if kv.1 = k then (kv.1, dy) else kv) = (kvs.map (·.1)).zip ds' ∧ ReTs K cls N H t ((kvs.map fun kv => if kv.1 = k then (kv.1, y) else kv).map (·.2)) ds' F' ∧ (∀ a ∈ F', a ∈ F ∨ a ∈ F2) ∧ (F.Nodup → F2.Nodup → (∀ a ∈ F, a ∉ F2) → F'.Nodup)
  | (k', v) :: kvs, _, _, nd, .cons (d := d') (ds := ds) (F := Fa) (G := Fb) h r, hk, ry => by
    obtain ⟨n1, n2⟩ := List.nodup_cons.mp nd
    by_cases e : k' = k
    · subst e
      have hz : k' ∉ ((kvs.map (·.1)).zip ds).map (·.1) := fun z => by
        rw [List.map_fst_zip (by rw [← r.len2]; simp)] at z
        exact n1 z
      refine ⟨dy :: ds, F2 ++ Fb, ?_, ?_, fun a z => ?_, fun f1 f2 dj => ?_⟩
      · rw [List.map_cons, List.zip_cons_cons, List.map_cons, if_pos rfl, repl_none hz, List.zip_cons_cons]
      · rw [List.map_cons, if_pos rfl, repl_none n1, List.map_cons]
        exact .cons ry r
      · rcases List.mem_append.mp z with z | z
        · exact .inr z
        · exact .inl (by simp [z])
      · obtain ⟨_, f3, _⟩ := List.nodup_append.mp f1
        exact List.nodup_append.mpr ⟨f2, f3, fun a ha b hb e => dj b (by simp [hb]) (e ▸ ha)⟩
    · have hk' : k ∈ kvs.map (·.1) := by
        rcases List.mem_cons.mp hk with z | z
        · exact absurd z.symm e
        · exact z
      obtain ⟨ds', F', h1, h2, h3, h4⟩ := ReTs.repl n2 r hk' ry
      refine ⟨d' :: ds', Fa ++ F', ?_, ?_, fun a z => ?_, fun f1 f2 dj => ?_⟩
      · rw [List.map_cons, List.zip_cons_cons, List.map_cons, if_neg e, h1, List.zip_cons_cons]
      · rw [List.map_cons, if_neg e, List.map_cons]
        exact .cons h h2
      · rcases List.mem_append.mp z with z | z
        · exact .inl (by simp [z])
        · exact (h3 a z).imp_left fun z => by simp [z]
      · obtain ⟨f3, f4, f5⟩ := List.nodup_append.mp f1
        refine List.nodup_append.mpr ⟨f3, h4 f4 f2 fun a z => dj a (by simp [z]), fun a ha b hb e => ?_⟩
        subst e
        rcases h3 a hb with z | z
        · exact f5 a ha a z rfl
        · exact dj a (by simp [ha]) z
/-- an item is put into a dict -/
theorem ReTs.dput {k : κ} {y : V} {dy : D} {F2 : List Addr} {kvs : List (κ × V)} {ds : List D} {F : List Addr} (nd : (kvs.map (·.1)).Nodup) (r : ReTs K cls N H t (kvs.map (·.2)) ds F) (ry : ReT K cls N H t y dy F2) :
    ∃ ds' F', Pv.dput ((kvs.map (·.1)).zip ds) k dy = ((putK kvs k y).map (·.1)).zip ds' ∧ ReTs K cls N H t ((putK kvs k y).map (·.2)) ds' F' ∧ (∀ a ∈ F', a ∈ F ∨ a ∈ F2) ∧ (F.Nodup → F2.Nodup → (∀ a ∈ F, a ∉ F2) → F'.Nodup) ∧ ((putK kvs k y).map (·.1)).Nodup := by
  have hl : kvs.length = ds.length := by have := r.len2; rwa [List.length_map] at this
  unfold Pv.dput putK
  rw [any_zip hl]
  by_cases q : (kvs.any fun kv => decide (kv.1 = k)) = true
  · rw [if_pos q, if_pos q]
    have hk : k ∈ kvs.map (·.1) := by
      obtain ⟨kv, h1, h2⟩ := List.any_eq_true.mp q
      exact List.mem_map.mpr ⟨kv, h1, of_decide_eq_true h2⟩
    obtain ⟨ds', F', h1, h2, h3, h4⟩ := ReTs.repl nd r hk ry
    exact ⟨ds', F', by rw [keys_repl]; exact h1, h2, h3, h4, by rw [keys_repl]; exact nd⟩
  · rw [if_neg q, if_neg q]
    have hk : k ∉ kvs.map (·.1) := fun z => by
      obtain ⟨kv, h1, h2⟩ := List.mem_map.mp z
      exact q (List.any_eq_true.mpr ⟨kv, h1, decide_eq_true h2⟩)
    refine ⟨ds ++ [dy], F ++ (F2 ++ []), ?_, ?_, fun a z => ?_, fun f1 f2 dj => ?_, ?_⟩
    · rw [List.map_append, List.zip_append (by rw [List.length_map]; exact hl)]
      rfl
    · rw [List.map_append]
      exact r.append (.cons ry .nil)
    · rw [List.append_nil] at z
      exact List.mem_append.mp z
    · rw [List.append_nil]
      exact List.nodup_append.mpr ⟨f1, f2, fun a ha b hb e => dj a ha (e ▸ hb)⟩
    · rw [List.map_append]
      exact List.nodup_append.mpr ⟨nd, by simp, fun a ha b hb e => by
        have hb : b = k := by simpa using hb
        exact hk (hb ▸ e ▸ ha)⟩
end
section
variable {K : PySem.W.Frag} {cls : Nat → Addr × List Str} {Nz : Addr → Prop} {Γ : List T} {H0 H : Hp} {σ : St} {env : Env}
theorem SRF.dicK_at {Fs : Nat → List Addr} (h : SRF K cls Fs Nz Γ H0 H σ env) {x : Nat} {t : T} {ks : List (Key × D)} (hx : Γ[x]? = some (.ow t)) (hd : env[x]? = some (some (.dicK ks))) :
    ∃ p kvs ds F, σ[x]? = some (some (.ref p)) ∧ (H p = some (.dK kvs) ∧ (kvs.map (·.1)).Nodup) ∧ ks = (kvs.map (·.1)).zip ds ∧ ReTs K cls (fun a => ((Nz a ∨ H0 a = none) ∧ ∀ j, a ∉ Fs j) ∧ H a ≠ none) H t (kvs.map (·.2)) ds F ∧ Fs x = p :: F := by
  obtain ⟨v, t', e1, e2, r⟩ := h.get x _ hd
  rw [hx] at e2
  cases e2
  have r' := r.dom
  clear r
  generalize e : Fs x = Fx at r'
  cases r' with
  | bo f _ => cases f
  | owx r => cases r with | dK n _ _ => exact n.elim
  | owK q r => exact ⟨_, _, _, _, e1, q, rfl, r, rfl⟩
theorem SRF.dicT_at {Fs : Nat → List Addr} (h : SRF K cls Fs Nz Γ H0 H σ env) {x : Nat} {t : T} {ks : List (List Key × D)} (hx : Γ[x]? = some (.ow t)) (hd : env[x]? = some (some (.dicT ks))) :
    ∃ p kvs ds F, σ[x]? = some (some (.ref p)) ∧ (H p = some (.dT kvs) ∧ (kvs.map (·.1)).Nodup) ∧ ks = (kvs.map (·.1)).zip ds ∧ ReTs K cls (fun a => ((Nz a ∨ H0 a = none) ∧ ∀ j, a ∉ Fs j) ∧ H a ≠ none) H t (kvs.map (·.2)) ds F ∧ Fs x = p :: F := by
  obtain ⟨v, t', e1, e2, r⟩ := h.get x _ hd
  rw [hx] at e2
  cases e2
  have r' := r.dom
  clear r
  generalize e : Fs x = Fx at r'
  cases r' with
  | bo f _ => cases f
  | owx r => cases r with | dT n _ _ => exact n.elim
  | owT q r => exact ⟨_, _, _, _, e1, q, rfl, r, rfl⟩
/-- a slot's dict behind a store -/
theorem SRF.dset {Fs : Nat → List Addr} (h : SRF K cls Fs Nz Γ H0 H σ env) {κ : Type} [DecidableEq κ] {O : List (κ × V) → HO} {mk : List (κ × D) → D} (hO : ∀ kvs, Box (some (O kvs)))
    (hmk : ∀ {N : Addr → Prop} {H : Hp} {t : T} {p : Addr} {kvs : List (κ × V)} {ds : List D} {F : List Addr}, (H p = some (O kvs) ∧ (kvs.map (·.1)).Nodup) → ReTs K cls N H t (kvs.map (·.2)) ds F → ReT K cls N H (.ow t) (.ref p) (mk ((kvs.map (·.1)).zip ds)) (p :: F))
    {x : Nat} {t j : T} {p : Addr} {kvs : List (κ × V)} {ds : List D} {F : List Addr} {H3 : Hp} {A : List Nat} {F1 : List Addr} {k : κ} {y : V} {dy : D}
    (e1 : σ[x]? = some (some (.ref p))) (hp : H p = some (O kvs)) (nd : (kvs.map (·.1)).Nodup) (r : ReTs K cls (fun a => ((Nz a ∨ H0 a = none) ∧ ∀ j, a ∉ Fs j) ∧ H a ≠ none) H t (kvs.map (·.2)) ds F) (eF : Fs x = p :: F)
    (s : Same H H3) (hA : x ∉ A) (le : T.le t j = true) (nd1 : F1.Nodup) (fr1 : ∀ a ∈ F1, H a = none) (ry : ∀ o, ReT K cls (Nw Nz H0 Fs A F1) (upd H3 p o) j y dy F1) :
    SR K cls Nz ((frz Γ A).set x (.ow j)) H0 (upd H3 p (O (putK kvs k y))) σ (env.set x (some (mk (Pv.dput ((kvs.map (·.1)).zip ds) k dy)))) := by
  have hpx : p ∈ Fs x := by rw [eF]; simp
  have hFx : ∀ a ∈ F, a ∈ Fs x := fun a z => by rw [eF]; simp [z]
  have ndx := h.nd x
  rw [eF] at ndx
  obtain ⟨hpF, ndF⟩ := List.nodup_cons.mp ndx
  have r2 : ReTs K cls (Nw Nz H0 Fs A F1) (upd H3 p (O (putK kvs k y))) j (kvs.map (·.2)) ds F :=
    ReTs.conv' (fun r hs => h.oldEl hpx s fr1 le (fun z => hpF (hs _ z)) r) r
  obtain ⟨ds', F', h1, h2, h3, h4, h5⟩ := ReTs.dput (k := k) nd r2 (ry _)
  have dj : ∀ a ∈ F, a ∉ F1 := fun a z w => by
    have := (h.own x a (hFx a z)).2
    rw [fr1 a w] at this
    exact this
  have hpF' : p ∉ F' := fun z => by
    rcases h3 p z with z | z
    · exact hpF z
    · have := fr1 p z
      rw [hp] at this
      cases this
  rw [h1]
  refine ⟨_, h.mut (A := A) e1 s hpx hA (hO _) (F := p :: F') (List.nodup_cons.mpr ⟨hpF', h4 ndF nd1 dj⟩) (fun a z => ?_) ((hmk ⟨upd_same, h5⟩ h2).mono (Same.refl _) fun a z => ⟨z.1, fun j' => ?_⟩)⟩
  · rcases List.mem_cons.mp z with rfl | z
    · exact .inl hpx
    · rcases h3 a z with z | z
      · exact .inl (hFx a z)
      · exact .inr (fr1 a z)
  · split
    · intro w
      rcases List.mem_cons.mp w with rfl | w
      · exact z.2.1 x hA hpx
      · rcases h3 a w with w | w
        · exact z.2.1 x hA (hFx a w)
        · exact z.2.2 w
    · split
      · simp
      · exact z.2.1 j' ‹_›
end
end Pv

set_option maxRecDepth 100000
set_option maxHeartbeats 1000000
namespace Pv
open PySem L2
def ovr : List T → List (Nat × T) → List T
  | Γ, [] => Γ
  | Γ, (i, t) :: r => ovr (Γ.set i t) r
def jn : T → T → T
  | .ow a, .ow b => .ow (jn a b)
  | t, u => if T.le t (T.join t u) && T.le u (T.join t u) then T.join t u else if T.le t.bor (T.join t.bor u.bor) && T.le u.bor (T.join t.bor u.bor) && (T.join t.bor u.bor).flat then T.join t.bor u.bor else .sh
def jnL : List T → List T → List T
  | t :: ts, u :: us => jn t u :: jnL ts us
  | _, _ => []
def reflB (Γ : List T) : Bool := Γ.all fun t => T.le t t
/-- what a slot's own thing is, handed on whole -/
def ownT (Γ : List T) : CE → Option (Nat × T)
  | .var i => match Γ[i]? with
    | some (.ow t) => some (i, .ow t)
    | _ => none
  | _ => none
def mer (x y : Option (List T)) : Option (Option (List T)) := match x, y with
  | none, r => some r
  | r, none => some r
  | some a, some b => if wkL a (jnL a b) && wkL b (jnL a b) then some (some (jnL a b)) else none
/-- a value of kind u is put into a thing of kind t -/
def insT (t u : T) : Option (T × Bool) := if T.le t (T.join t u) && T.le u (T.join t u) then some (T.join t u, true) else if T.le t (T.join t u.bor) && T.le u.bor (T.join t u.bor) then some (T.join t u.bor, false) else none
def okS (fns : List FnI) (Γ : List T) (cs : List CE) : Bool := cs.all fun c => (cE fns false Γ c).isSome
def muT (m : Mu) (t u : T) : Option T := match m with
  | .app => (insT t u).map (·.1)
  | .ext => if T.le t (T.join t u.bor.el) && T.le u.bor.el (T.join t u.bor.el) then some (T.join t u.bor.el) else none
  | _ => if T.le t t then some t else none
/-! ### which slots a statement may name anew -/
def tgs : TG0 → List Nat
  | .nm i => [i]
  | .tp is => is
def wr : CS → List Nat
  | .seq a b => wr a ++ wr b
  | .asg i _ => [i]
  | .rcl o _ => o.toList
  | .mov i _ => [i]
  | .ite _ a b => wr a ++ wr b
  | .whl _ _ b => wr b
  | .for _ g _ b => tgs g ++ wr b
  | .fol _ g _ b => tgs g ++ wr b
  | .unp is _ => is
  | .popTo y _ _ => [y]
  | .augn i _ _ => [i]
  | .dup _ y _ => [y]
  | .fom _ y _ _ => [y]
  | .fomP _ _ y => [y]
  | .fop _ g _ _ b => tgs g ++ wr b
  | _ => []
/-- all slots but ws are as they were -/
def Fr (ws : List Nat) (σ σ' : St) : Prop := ∀ i, i ∉ ws → σ'[i]? = σ[i]?
theorem Fr.refl (ws : List Nat) (σ : St) : Fr ws σ σ := fun _ _ => rfl
theorem Fr.set {ws : List Nat} {σ : St} {i : Nat} {v : Option V} (h : i ∈ ws) : Fr ws σ (σ.set i v) := fun j hj => List.getElem?_set_ne (fun e : i = j => hj (by rw [← e]; exact h))
theorem Fr.trans {ws : List Nat} {σ σ1 σ2 : St} (a : Fr ws σ σ1) (b : Fr ws σ1 σ2) : Fr ws σ σ2 := fun i hi => (b i hi).trans (a i hi)
theorem Fr.sub {ws us : List Nat} {σ σ' : St} (a : Fr ws σ σ') (h : ∀ i ∈ ws, i ∈ us) : Fr us σ σ' := fun i hi => a i fun z => hi (h i z)
/-- the kind that is told, and what the slots must be where an exception goes up -/
structure RT where
  t : T
  gx : Option (List T) := none
def okX (rt : RT) (Γ : List T) : Bool := match rt.gx with
  | none => true
  | some g => decide (Γ = g) || wkL Γ g
/-- a constant and an own thing that is let go, in a tuple -/
def ownP (Γ : List T) : CE → Option (CE × Nat × T)
  | .tupo (.cons c (.cons (.var y) .nil)) => match Γ[y]? with
    | some (.ow u) => if isC c then some (c, y, u) else none
    | _ => none
  | _ => none
theorem ownP_of {Γ : List T} {e c : CE} {y : Nat} {u : T} (h : ownP Γ e = some (c, y, u)) : e = .tupo (.cons c (.cons (.var y) .nil)) ∧ isC c = true ∧ Γ[y]? = some (.ow u) := by
  unfold ownP at h
  split at h
  · split at h
    · split at h
      · cases h
        exact ⟨rfl, by assumption, by assumption⟩
      · cases h
    · cases h
  · cases h
/-- a dict in a slot is walked by its owner alone -/
def dicB (Γ : List T) : CE → Bool
  | .ikd (.var x) => match Γ[x]? with
    | some (.ow _) => true
    | _ => false
  | _ => true
/-- the kinds behind a statement (none within: it isn't left at its end) -/
def cS (fns : List FnI) (rt : RT) : Option (List T) → List T → CS → Option (Option (List T))
  | _, Γ, .nil => some (some Γ)
  | _, Γ, .pas => some (some Γ)
  | ΓL, Γ, .seq a b => match cS fns rt ΓL Γ a with
    | some (some Γ1) => cS fns rt ΓL Γ1 b
    | some none => some none
    | none => none
  | _, Γ, .asg x e => match cE fns false Γ e with
    | some (t, A) => if reflB Γ then some (some ((frz Γ A).set x t)) else none
    | none => none
  | _, Γ, .mov x y => match Γ[y]? with
    | some t => if x ≠ y then some (some (Γ.set x t)) else none
    | none => none
  | _, Γ, .ex e => match cE fns false Γ e with
    | some _ => some (some Γ)
    | none => none
  | _, Γ, .ret e => match ownT Γ e with
    | some (y, t) => if T.le t rt.t then some none else none
    | none => match ownP Γ e with
    | some (c, y, u) => if T.le (.ow (.ow u)) rt.t then some none else none
    | none => match cE fns false Γ e with
      | some (t, A) => if T.le t rt.t then some none else if T.le t.bor rt.t && rt.t.flat then some none else none
      | none => none
  | _, Γ, .rcl o e => if okX rt Γ then match cE fns false Γ e with
    | some (t, A) => match o with
      | some x => if reflB Γ then some (some ((frz Γ A).set x t)) else none
      | none => some (some Γ)
    | none => none
    else none
  | _, Γ, .rrt e => if okX rt Γ then match cE fns false Γ e with
    | some (t, A) => if T.le t rt.t then some none else if T.le t.bor rt.t && rt.t.flat then some none else none
    | none => none
    else none
  | _, _, .tryx .. => none
  | ΓL, Γ, .ite c a b => match cE fns false Γ c, cS fns rt ΓL Γ a, cS fns rt ΓL Γ b with
    | some _, some x, some y => mer x y
    | _, _, _ => none
  | _, Γ, .whl inv c b => let Γi := ovr Γ inv
    if wkL Γ Γi then match cE fns false Γi c, cS fns rt (some Γi) Γi b with
      | some _, some none => some (some Γi)
      | some _, some (some Γb) => if wkL Γb Γi then some (some Γi) else none
      | _, _ => none
    else none
  | _, Γ, .for inv g it b => match cE fns true Γ it with
    | some (t, A) => let Γi := ovr (frz Γ A) inv
      if reflB Γ && reflB Γi && wkL (frz Γ A) Γi && ((itT it t).flat && dicB Γ it) then match cS fns rt (some Γi) (tgT g (itT it t) Γi) b with
        | some none => some (some Γi)
        | some (some Γb) => if wkL Γb Γi then some (some Γi) else none
        | none => none
      else none
    | none => none
  | _, Γ, .wkn x t => if wkL Γ (Γ.set x t) then some (some (Γ.set x t)) else none
  | _, Γ, .augn i _ e => match cE fns false Γ e with
    | some _ => some (some (Γ.set i .im))
    | none => none
  | _, Γ, .unp is e => match cE fns false Γ e with
    | some (t, A) => if reflB Γ then some (some (tgT (.tp is) t.bor (frz Γ A))) else none
    | none => none
  | _, Γ, .mut x p m e => match Γ[x]?, cE fns false Γ e with
    | some tx, some (u, A) => match plT p.length tx with
      | some t => match muT m t u with
        | some j => if reflB Γ && decide (x ∉ A) && okS fns Γ p then some (some ((frz Γ A).set x (plSet p.length tx j))) else none
        | none => none
      | none => none
    | _, _ => none
  | _, Γ, .appm x p y => match Γ[x]?, Γ[y]? with
    | some tx, some u => match plT p.length tx with
      | some t => if T.le t (T.join t u) && T.le u (T.join t u) && decide (x ≠ y) && okS fns Γ p then some (some (Γ.set x (plSet p.length tx (T.join t u)))) else none
      | none => none
    | _, _ => none
  | _, Γ, .sto x p i e => match Γ[x]?, cE fns false Γ e with
    | some tx, some (u, A) => match plT p.length tx with
      | some t => match insT t u with
        | some (j, _) => if reflB Γ && decide (x ∉ A) && okS fns Γ (i :: p) then some (some ((frz Γ A).set x (plSet p.length tx j))) else none
        | none => none
      | none => none
    | _, _ => none
  | _, Γ, .aug x p i o e => match Γ[x]?, cE fns false Γ e with
    | some tx, some _ => match plT p.length tx with
      | some t => if reflB Γ && T.le t t && T.le .im t && okS fns Γ (i :: p) then some (some (Γ.set x (plSet p.length tx t))) else none
      | none => none
    | _, _ => none
  | _, Γ, .popTo y x i => match Γ[x]? with
    | some (.ow t) => if decide (x ≠ y) && okS fns Γ i.toList then some (some (Γ.set y t)) else none
    | _ => none
  | _, Γ, .insm x i y => match Γ[x]?, Γ[y]? with
    | some (.ow t), some u => if T.le t (T.join t u) && T.le u (T.join t u) && decide (x ≠ y) && okS fns Γ [i] then some (some (Γ.set x (.ow (T.join t u)))) else none
    | _, _ => none
  | _, Γ, .fol inv g x b => let Γi := ovr Γ inv
    if wkL Γ Γi && reflB Γi && decide (Γi[x]? = some (.ow .im)) && decide (x ∉ tgs g ++ wr b) then match cS fns rt (some Γi) (tgT g .im Γi) b with
      | some none => some (some Γi)
      | some (some Γb) => if wkL Γb Γi then some (some Γi) else none
      | none => none
    else none
  | _, Γ, .fom x y m e => match Γ[x]?, cE fns false Γ e with
    | some (.ow (.ow t)), some (u, A) => if A = [] ∧ x ≠ y then match muT m t u with
        | some j => if t = j ∧ reflB Γ = true then some (some Γ) else none
        | none => none
      else none
    | _, _ => none
  | _, Γ, .fomP x _ y => match Γ[x]? with
    | some (.ow (.ow (.ow t))) => if x ≠ y ∧ reflB Γ = true ∧ T.le t t = true then some (some Γ) else none
    | _ => none
  | _, Γ, .fop inv g x a b => match Γ[x]?, cE fns false Γ a with
    | some (.ow .im), some (.im, []) => let Γi := ovr (frz Γ []) inv
      if reflB Γ && reflB Γi && wkL (frz Γ []) Γi then match cS fns rt (some Γi) (tgT g .im Γi) b with
        | some none => some (some Γi)
        | some (some Γb) => if wkL Γb Γi then some (some Γi) else none
        | none => none
      else none
    | _, _ => none
  | _, Γ, .dst x i e => match Γ[x]?, cE fns false Γ e with
    | some (.ow t), some (u, A) => match insT t u with
      | some (j, _) => if reflB Γ && decide (x ∉ A) && okS fns Γ [i] then some (some ((frz Γ A).set x (.ow j))) else none
      | none => none
    | _, _ => none
  | _, Γ, .dup x y e => match Γ[x]?, Γ[y]?, cE fns false Γ e with
    | some (.ow t), some u, some (te, []) => if T.le t (T.join t u) && T.le u (T.join t u) && decide (x ≠ y) then some (some ((Γ.set x (.ow (T.join t u))).set y te)) else none
    | _, _, _ => none
  | _, _, .ded => some none
  | _, Γ, .rse .. => if okX rt Γ then some none else none
  | _, Γ, .cio x f es => match Γ[x]?, fns[f]?, cL fns Γ es with
    | some (.ow t), some i, some (ts, A) => match i.sg with
      | u :: sg => if decide (u = .ow t) && t.leaf && T.le t t && lesB ts sg && decide (x ∉ A) && i.top && i.fn.io && i.fn.ini.isNone then some (some Γ) else none
      | [] => none
    | _, _, _ => none
  | ΓL, Γ, .brk => match ΓL with
    | some g => if wkL Γ g then some none else none
    | none => none
  | ΓL, Γ, .cnt => match ΓL with
    | some g => if wkL Γ g then some none else none
    | none => none
section
variable (G : Glob) (w : WX) (C : CallW) (rt : RT) (ΓL : Option (List T)) (Γ : List T) (r : Option (List T))
/-- the reading of a statement -/
def tSS (c : CS) : TS := fun D σ H => ∃ Nz H0 env k, SR G.K G.cls Nz Γ H0 H σ env ∧ W C c k env ∧
  (∀ Γ' σ' H' env', (r = some Γ' ∧ Fr (wr c) σ σ') → SR G.K G.cls Nz Γ' H0 H' σ' env' → k.nx env' → D.nx σ' H') ∧
  (∀ Γ' σ' H' env', (ΓL = some Γ' ∧ Fr (wr c) σ σ') → SR G.K G.cls Nz Γ' H0 H' σ' env' → k.bk env' → D.bk σ' H') ∧
  (∀ Γ' σ' H' env', (ΓL = some Γ' ∧ Fr (wr c) σ σ') → SR G.K G.cls Nz Γ' H0 H' σ' env' → k.ct env' → D.ct σ' H') ∧
  (∀ v H' d, Same H0 H' → RSp G.K G.cls Nz H0 H' rt.t v d → k.rt d → D.rt v H') ∧
  ∀ Γ' σ' H' env' x, (rt.gx = none ∨ rt.gx = some Γ') → x < G.ct.xs.length → SR G.K G.cls Nz Γ' H0 H' σ' env' → k.ex x env' → w (.ref (G.ec x)) none σ' H'
end
section
variable {K : PySem.W.Frag} {cls : Nat → Addr × List Str} {Nz : Addr → Prop} {Γ Γ' : List T} {H0 H H' : Hp} {σ : St} {env : Env}
theorem refl_of (h : reflB Γ = true) : ∀ t ∈ Γ, T.le t t = true := List.all_eq_true.mp h
theorem SRF.rs {Fs : Nat → List Addr} (h : SRF K cls Fs Nz Γ H0 H σ env) {t : T} {A : List Nat} {v : V} {d : D} (rs : RS K cls (Lof Nz H0 H Fs) H H' t A v d) : RSp K cls Nz H0 H' t v d := by
  obtain ⟨F, nd, fr, r⟩ := rs
  refine ⟨F, nd, fun a z => h.same.free (fr a z), r.mono (Same.refl _) fun a z => ⟨?_, z.2⟩⟩
  rcases z.1 with ⟨i, hi, q, _⟩ | q
  · rcases q with q | q
    · exact .inr (h.own i a q).1
    · exact q.1
  · exact .inr (h.same.free q)
theorem RSp.le {N : Addr → Prop} {t u : T} {v : V} {d : D} (e : T.le t u = true) (h : RSp K cls N H H' t v d) : RSp K cls N H H' u v d := by
  obtain ⟨F, nd, fr, r⟩ := h
  exact ⟨F, nd, fr, r.le e⟩
theorem RSp.bor {N : Addr → Prop} {t u : T} {v : V} {d : D} (e : T.le t.bor u = true) (f : u.flat = true) (h : RSp K cls N H H' t v d) : RSp K cls N H H' u v d := by
  obtain ⟨F, nd, fr, r⟩ := h
  refine ⟨[], .nil, fun _ z => absurd z (by simp), .bo f ((r.bor.mono (Same.refl _) fun a z => ⟨?_, by simp⟩).le e)⟩
  rcases z with z | z
  · exact z.1
  · exact .inr (fr a z)
/-- the thing that a slot owns -/
theorem SRF.own1 {Fs : Nat → List Addr} (h : SRF K cls Fs Nz Γ H0 H σ env) {y : Nat} {t : T} (ht : Γ[y]? = some t) {d : D} (hd : env[y]? = some (some d)) : ∃ v, σ[y]? = some (some v) ∧ RSp K cls Nz H0 H t v d := by
  obtain ⟨v, t', e1, e2, r⟩ := h.get y d hd
  rw [ht] at e2
  cases e2
  exact ⟨v, e1, Fs y, h.nd y, fun a z => (h.own y a z).1, r.mono (Same.refl _) fun a z => ⟨z.1, z.2 y⟩⟩
theorem SRF.move {Fs : Nat → List Addr} (h : SRF K cls Fs Nz Γ H0 H σ env) {x y : Nat} (xy : x ≠ y) {t : T} (ht : Γ[y]? = some t) {d : D} (hd : env[y]? = some (some d)) :
    ∃ v, σ[y]? = some (some v) ∧ SR K cls Nz (Γ.set x t) H0 H (σ.set x (some v)) ((env.set y none).set x (some d)) := by
  obtain ⟨v, t', e1, e2, r⟩ := h.get y d hd
  rw [ht] at e2
  cases e2
  refine ⟨v, e1, fun j => if j = x then Fs y else if j = y then [] else Fs j, fun j => ?_, fun i j hij a ha => ?_, fun i a ha => ?_, h.same, by simp [h.l1], by simp [h.l2], fun i d' hd' => ?_⟩
  · (try dsimp only); split
    · exact h.nd y
    · split
      · exact .nil
      · exact h.nd j
  · try dsimp only at ha ⊢
    split at ha
    · rename_i e
      rw [if_neg (fun q => hij (e.trans q.symm))]
      split
      · simp
      · rename_i q
        exact h.dj y j (fun e => q e.symm) a ha
    · split at ha
      · simp at ha
      · rename_i q
        split
        · exact h.dj i y q a ha
        · split
          · simp
          · exact h.dj i j hij a ha
  · try dsimp only at ha
    split at ha
    · exact h.own y a ha
    · split at ha
      · simp at ha
      · exact h.own i a ha
  · have nn : ∀ a, ((Nz a ∨ H0 a = none) ∧ ∀ j, a ∉ Fs j) → ((Nz a ∨ H0 a = none) ∧ ∀ j, a ∉ (if j = x then Fs y else if j = y then [] else Fs j)) := fun a z => ⟨z.1, fun j => by
      split
      · exact z.2 y
      · split
        · simp
        · exact z.2 j⟩
    by_cases e : x = i
    · subst e
      have hx : x < env.length := by
        have := (List.getElem?_eq_some_iff.mp hd').1
        simpa using this
      rw [List.getElem?_set_self (by simpa using hx)] at hd'
      cases hd'
      have l1 := h.l1
      have l2 := h.l2
      refine ⟨v, t, by rw [List.getElem?_set_self (by omega)], by rw [List.getElem?_set_self (by omega)], ?_⟩
      try dsimp only
      rw [if_pos rfl]
      exact r.mono (Same.refl _) nn
    · rw [List.getElem?_set_ne e] at hd'
      by_cases hy : y = i
      · subst hy
        by_cases hl : y < env.length
        · rw [List.getElem?_set_self hl] at hd'; cases hd'
        · rw [List.getElem?_eq_none (by simpa using hl)] at hd'; cases hd'
      · rw [List.getElem?_set_ne hy] at hd'
        obtain ⟨v', t', e1, e2, r'⟩ := h.get i d' hd'
        refine ⟨v', t', by rw [List.getElem?_set_ne e]; exact e1, by rw [List.getElem?_set_ne e]; exact e2, ?_⟩
        have e' : ¬ i = x := fun q => e q.symm
        have hy' : ¬ i = y := fun q => hy q.symm
        try dsimp only
        rw [if_neg e', if_neg hy']
        exact r'.mono (Same.refl _) nn
end
end Pv

set_option maxRecDepth 100000
set_option maxHeartbeats 1000000
namespace Pv
open PySem L2
theorem mer_l {x y r : Option (List T)} (h : mer x y = some r) : ∀ Γ', x = some Γ' → ∃ Γm, r = some Γm ∧ (Γ' = Γm ∨ wkL Γ' Γm = true) := by
  rintro Γ' rfl
  cases y with
  | none => cases h; exact ⟨Γ', rfl, .inl rfl⟩
  | some b =>
    simp only [mer] at h
    split at h
    · rename_i c
      rw [Bool.and_eq_true] at c
      cases h
      exact ⟨_, rfl, .inr c.1⟩
    · cases h
theorem mer_r {x y r : Option (List T)} (h : mer x y = some r) : ∀ Γ', y = some Γ' → ∃ Γm, r = some Γm ∧ (Γ' = Γm ∨ wkL Γ' Γm = true) := by
  rintro Γ' rfl
  cases x with
  | none => cases h; exact ⟨Γ', rfl, .inl rfl⟩
  | some b =>
    simp only [mer] at h
    split at h
    · rename_i c
      rw [Bool.and_eq_true] at c
      cases h
      exact ⟨_, rfl, .inr c.2⟩
    · cases h
section
variable {K : PySem.W.Frag} {cls : Nat → Addr × List Str} {Nz : Addr → Prop} {Γ Γ' : List T} {H0 H H' : Hp} {σ : St} {env : Env}
theorem SR.mono (h : SR K cls Nz Γ H0 H σ env) (e : Same H H') : SR K cls Nz Γ H0 H' σ env := let ⟨Fs, h⟩ := h; ⟨Fs, h.mono e⟩
theorem SR.wk' (h : SR K cls Nz Γ H0 H σ env) (hw : Γ = Γ' ∨ wkL Γ Γ' = true) : SR K cls Nz Γ' H0 H σ env := by
  rcases hw with rfl | hw
  · exact h
  · exact h.wk hw
theorem SR.okX {rt : RT} (ho : Pv.okX rt Γ = true) (h : SR K cls Nz Γ H0 H σ env) : ∃ Γ', (rt.gx = none ∨ rt.gx = some Γ') ∧ SR K cls Nz Γ' H0 H σ env := by
  unfold Pv.okX at ho
  split at ho
  · rename_i e
    exact ⟨Γ, .inl e, h⟩
  · rename_i g' e
    rw [Bool.or_eq_true, decide_eq_true_eq] at ho
    exact ⟨g', .inr e, h.wk' ho⟩
theorem frz_nil (Γ : List T) : frz Γ [] = Γ := by
  apply List.ext_getElem?
  intro i
  cases h : Γ[i]? with
  | none => rw [List.getElem?_eq_none (by rw [frz_len]; exact List.getElem?_eq_none_iff.mp h)]
  | some t => rw [frz_get h, if_neg (by simp)]
end
theorem var_pe {G : Glob} {k : Nat} {N : List Str} {sc : Scope} {X : Cx} (g : Good G k N sc X) {i : Nat} {fns : Nm} {e : Expr} (hm : mE N fns false (.var i) sc e = true) : PE X e (tVar i) := by
  unfold mE at hm
  split at hm
  · simp only [Bool.and_eq_true, decide_eq_true_eq] at hm
    obtain ⟨⟨hN, hv⟩, hn⟩ := hm
    exact pe_var (by rw [g.hN]; exact hN) (by rw [g.hsc]; exact vis_of hv) (nm_of hn).1 (nm_of hn).2.1
  · cases hm
theorem itN_own {K : PySem.W.Frag} {cls : Nat → Addr × List Str} {Nz : Addr → Prop} {Γ : List T} {H0 H : Hp} {σ : St} {env : Env} {Fs : Nat → List Addr} (h : SRF K cls Fs Nz Γ H0 H σ env) : ∀ a, ((Nz a ∨ H0 a = none) ∧ H0 a ≠ none) ∨ H a = none → (Nz a ∨ H0 a = none) ∧ ∀ j, a ∉ Fs j := fun a z => by
  rcases z with z | z
  · exact ⟨z.1, fun j w => z.2 (h.own j a w).1⟩
  · exact ⟨.inr (h.same.free z), fun j w => box_some (h.own j a w).2 z⟩
/-- a walked item, its addresses not owned now -/
def ItN (K : PySem.W.Frag) (cls : Nat → Addr × List Str) (Nz : Addr → Prop) (H0 H H' : Hp) (t : T) (x : V) (d : D) : Prop := RepB K cls (fun a => ((Nz a ∨ H0 a = none) ∧ H0 a ≠ none) ∨ H a = none) H' t x d
section
variable {K : PySem.W.Frag} {cls : Nat → Addr × List Str} {Nz : Addr → Prop} {Γ : List T} {H0 H H' : Hp} {σ : St} {env : Env}
theorem SRF.item {Fs : Nat → List Addr} {N : Addr → Prop} {t : T} {x : V} {d : D} {i : Nat} (h : SRF K cls Fs Nz Γ H0 H σ env) (s : Same H H') (ft : t.flat = true) (r : RepB K cls N H' t x d) (hN : ∀ a, N a → (Nz a ∨ H0 a = none) ∧ ∀ j, a ∉ Fs j) :
    ∃ Gs, (∀ i a, a ∈ Gs i → a ∈ Fs i) ∧ SRF K cls Gs Nz (Γ.set i t) H0 H' (σ.set i (some x)) (env.set i (some d)) := by
  have := h.store (x := i) (A := []) s .nil (fun _ z => absurd z (by simp)) (.bo ft r) fun a z => ⟨.inr (hN a z), by simp⟩
  rw [frz_nil] at this
  refine ⟨_, fun j a z => ?_, this⟩
  try dsimp only at z
  split at z
  · simp at z
  · simpa using z
theorem SRF.items {N : Addr → Prop} {t : T} : ∀ {is : List Nat} {vs : List V} {ds : List D} {Fs : Nat → List Addr} {Γ : List T} {σ : St} {env : Env}, SRF K cls Fs Nz Γ H0 H σ env → t.flat = true → Paired (RepB K cls N H t) vs ds → (∀ a, N a → (Nz a ∨ H0 a = none) ∧ ∀ j, a ∉ Fs j) → ds.length = is.length →
    ∀ {Q : St → Hp → Prop}, (∀ σ', Fr is σ σ' → SR K cls Nz (is.foldl (fun g i => g.set i t) Γ) H0 H σ' (stor is ds env) → Q σ' H) → gNms is vs σ H Q
  | [], _, _, _, _, _, _, h, _, .nil, _, _, Q, k => ⟨rfl, k _ (.refl _ _) ⟨_, h⟩⟩
  | i :: is, _, _, _, _, _, _, h, ft, .cons (a := v) (b := d) a r, hN, hl, Q, k => by
    refine ⟨_, _, rfl, ?_⟩
    obtain ⟨Gs, g1, g⟩ := h.item (i := i) (Same.refl _) ft a hN
    exact SRF.items g ft r (fun a z => ⟨(hN a z).1, fun j w => (hN a z).2 j (g1 j a w)⟩) (by simpa using hl) fun σ' f z => k σ' ((Fr.set (by simp)).trans (f.sub fun i z => by simp [z])) z
  | [], _, _, _, _, _, _, _, _, .cons _ _, _, hl, _, _ => by simp at hl
  | _ :: _, _, _, _, _, _, _, _, _, .nil, _, hl, _, _ => by simp at hl
end
section
variable {G : Glob} {k : Nat} {N : List Str} {sc : Scope} {X : Cx} {rt : RT} {wx : WX}
theorem no_swapS {e t : Expr} {l : Nat} {env : PySem.Env} (h : noComp e = true) : swapsWithSole [t] e l env = pure false := by
  unfold swapsWithSole
  exact no_swap h
def PlR (G : Glob) (C : CallW) (Γ : List T) (L : Nat → Addr → Prop) : List CE → St → Hp → V → VK → Prop
  | [], _, H, v, R => R v H
  | [c], σ, H, v, R => ∃ t A, cE G.fns false Γ c = some (t, A) ∧ tS G C Γ L c t A σ H fun y H2 => rIx G.K v y H2 R
  | [c, c2], σ, H, v, R => ∃ t A t2 A2, cE G.fns false Γ c = some (t, A) ∧ cE G.fns false Γ c2 = some (t2, A2) ∧ tS G C Γ L c t A σ H fun y H2 => rIx G.K v y H2 fun w H3 => tS G C Γ L c2 t2 A2 σ H3 fun y2 H4 => rIx G.K w y2 H4 R
  | _, _, _, _, _ => False
theorem mPl_pe (g : Good G k N sc X) {x : Nat} {p : List CE} {e : Expr} {Γ : List T} {L : Nat → Addr → Prop} (hm : mPl N (names G) x p sc e = true) (ok : okS G.fns Γ p = true) : PE X e (fun σ H R => ∃ v, σ[x]? = some (some v) ∧ PlR G (Cw (FTof G.fns) k) Γ L p σ H v R) := by
  cases p with
  | nil =>
    have hm' : mE N (names G) false (.var x) sc e = true := hm
    exact (var_pe g hm').sub fun σ H R ⟨v, h1, h2⟩ => ⟨v, h1, h2⟩
  | cons c cs =>
    cases cs with
    | nil =>
      have hm0 : (match asSub e with | some (o, i) => mE N (names G) false (.var x) sc o && mE N (names G) false c sc i | none => false) = true := hm
      clear hm
      split at hm0
      · rename_i o i sh
        obtain ⟨pos, rfl, pl⟩ := asSub_of sh
        rw [Bool.and_eq_true] at hm0
        cases hc : cE G.fns false Γ c with
        | none => simp [okS, hc] at ok
        | some r =>
          obtain ⟨t, A⟩ := r
          refine (pe_ix ix_seq (var_pe g hm0.1) (sE c g (Γ := Γ) (L := L) hm0.2 hc) (plain_ix pl)).sub fun σ H R ⟨v, h1, t', A', h2, h3⟩ => ⟨v, h1, ?_⟩
          rw [hc] at h2
          cases h2
          rw [g.hK]
          exact h3
      · cases hm0
    | cons c2 cs2 =>
      cases cs2 with
      | cons _ _ => unfold mPl at hm; cases hm
      | nil =>
        have hm0 : (match asSub e with
          | some (o, i) => (match asSub o with
            | some (o2, i2) => mE N (names G) false (.var x) sc o2 && mE N (names G) false c sc i2
            | none => false) && mE N (names G) false c2 sc i && (isC c && isC c2)
          | none => false) = true := hm
        clear hm
        split at hm0
        · rename_i o i sh
          obtain ⟨pos, rfl, pl⟩ := asSub_of sh
          rw [Bool.and_eq_true, Bool.and_eq_true] at hm0
          obtain ⟨⟨hm1, hm2⟩, _⟩ := hm0
          split at hm1
          · rename_i o2 i2 sh2
            obtain ⟨pos2, rfl, pl2⟩ := asSub_of sh2
            rw [Bool.and_eq_true] at hm1
            cases hc : cE G.fns false Γ c with
            | none => simp [okS, hc] at ok
            | some r =>
              obtain ⟨t, A⟩ := r
              cases hc2 : cE G.fns false Γ c2 with
              | none => simp [okS, hc2] at ok
              | some r2 =>
                obtain ⟨t2, A2⟩ := r2
                refine (pe_ix ix_seq (pe_ix ix_seq (var_pe g hm1.1) (sE c g (Γ := Γ) (L := L) hm1.2 hc) (plain_ix pl2)) (sE c2 g (Γ := Γ) (L := L) hm2 hc2) (plain_ix pl)).sub fun σ H R ⟨v, h1, t', A', t2', A2', h2, h3, h4⟩ => ⟨v, h1, ?_⟩
                rw [hc] at h2
                cases h2
                rw [hc2] at h3
                cases h3
                rw [g.hK]
                exact h4
          · cases hm1
        · cases hm0
theorem nav_ix {K : PySem.W.Frag} {H H2 : Hp} {v v1 : V} {i : Int} {R : VK} (h : ∃ a xs, v = .ref a ∧ (H a = some (.lst xs) ∨ H a = some (.tup xs)) ∧ atI xs i = some v1) (s : Same H H2) (q : R v1 H2) : rIx K v (.int i) H2 R := by
  obtain ⟨a, xs, e1, e2, e3⟩ := h
  rcases e2 with e2 | e2
  · exact .inl ⟨a, xs, i, _, e1, rfl, .inl (.inl (s _ _ e2)), e3, q⟩
  · exact .inr (.inl ⟨a, xs, i, _, e1, rfl, .inl (.inl (s _ _ e2)), e3, q⟩)
theorem pl_run {Γ : List T} {L : Nat → Addr → Prop} {p : List CE} (ok : okS G.fns Γ p = true) (hl : p.length ≤ 1 ∨ ∃ c c2, p = [c, c2] ∧ isC c = true ∧ isC c2 = true) {σ : St} {H : Hp} {env : Env} {v : V} {K : List Int → Prop} {R : VK} (er : ER G.K G.cls Γ L H σ env) (hE : Ep (Cw (FTof G.fns) k) p env K)
    (hn : ∀ is, K is → is.length = p.length → ∃ w, Nav H v is w ∧ ∀ H2, Same H H2 → R w H2) : PlR G (Cw (FTof G.fns) k) Γ L p σ H v R := by
  cases p with
  | nil =>
    obtain ⟨w, e, h⟩ := hn [] hE rfl
    cases e
    exact h H (Same.refl _)
  | cons c cs =>
    cases cs with
    | nil =>
      cases hc : cE G.fns false Γ c with
      | none => simp [okS, hc] at ok
      | some r =>
        obtain ⟨t, A⟩ := r
        refine ⟨t, A, hc, env, _, er, hE, fun y H2 d s rs hd => ?_⟩
        cases d <;> try exact hd.elim
        rename_i i
        obtain rfl := rep_int (rs.bor (Same.refl _)).rep
        obtain ⟨w, ⟨a, xs, v1, e1, e2, e3, e4⟩, h⟩ := hn [i] hd rfl
        cases e4
        exact nav_ix ⟨a, xs, e1, e2, e3⟩ s (h H2 s)
    | cons c2 cs2 =>
      cases cs2 with
      | cons _ _ =>
        rcases hl with hl | ⟨_, _, hl, _⟩
        · simp at hl
        · simp at hl
      | nil =>
        rcases hl with hl | ⟨c', c2', hl, h1, h2⟩
        · simp at hl
        cases hl
        cases hc : cE G.fns false Γ c with
        | none => simp [okS, hc] at ok
        | some r =>
          obtain ⟨t, A⟩ := r
          cases hc2 : cE G.fns false Γ c2 with
          | none => simp [okS, hc2] at ok
          | some r2 =>
            obtain ⟨t2, A2⟩ := r2
            unfold Ep at hE
            cases c <;> first | (cases h1; done) | (unfold E at hE; exact (show False from hE).elim) | skip
            rename_i i
            simp only [E] at hE
            unfold Ep at hE
            cases c2 <;> first | (cases h2; done) | (unfold E at hE; exact (show False from hE).elim) | skip
            rename_i j
            simp only [E, Ep] at hE
            obtain ⟨w, ⟨a, xs, v1, e1, e2, e3, b, ys, v2, f1, f2, f3, f4⟩, h⟩ := hn [i, j] hE rfl
            cases f4
            refine ⟨t, A, t2, A2, hc, hc2, env, fun d => d = .int i, er, by simp only [E], fun y H2 d s rs hd => ?_⟩
            subst hd
            obtain rfl := rep_int (rs.bor (Same.refl _)).rep
            refine nav_ix ⟨a, xs, e1, e2, e3⟩ s ⟨env, fun d => d = .int j, er.mono s, by simp only [E], fun y2 H4 d2 s2 rs2 hd => ?_⟩
            subst hd
            obtain rfl := rep_int (rs2.bor (Same.refl _)).rep
            exact nav_ix ⟨b, ys, f1, f2, f3⟩ (s.trans s2) (h H4 (s.trans s2))
theorem rIx_mono {K : PySem.W.Frag} {x y : V} {H : Hp} {Q Q' : VK} (i : ∀ w H', Q w H' → Q' w H') (h : rIx K x y H Q) : rIx K x y H Q' := by
  rcases h with ⟨p, xs, j, v, h1, h2, h3, h4, h5⟩ | ⟨p, xs, j, v, h1, h2, h3, h4, h5⟩ | ⟨z, j, c, h1, h2, h3, h4, h5⟩
  · exact .inl ⟨p, xs, j, v, h1, h2, h3, h4, i _ _ h5⟩
  · exact .inr (.inl ⟨p, xs, j, v, h1, h2, h3, h4, i _ _ h5⟩)
  · exact .inr (.inr ⟨z, j, c, h1, h2, h3, h4, i _ _ h5⟩)
theorem plR_mono {Γ : List T} {L : Nat → Addr → Prop} {p : List CE} {σ : St} {H : Hp} {v : V} {R R' : VK} (h : PlR G (Cw (FTof G.fns) k) Γ L p σ H v R) (i : ∀ w H', R w H' → R' w H') : PlR G (Cw (FTof G.fns) k) Γ L p σ H v R' := by
  cases p with
  | nil => exact i _ _ h
  | cons c cs =>
    cases cs with
    | nil =>
      obtain ⟨t, A, e, q⟩ := h
      exact ⟨t, A, e, tS_mon _ _ _ _ (fun y H2 z => rIx_mono i z) q⟩
    | cons c2 cs2 =>
      cases cs2 with
      | nil =>
        obtain ⟨t, A, t2, A2, e, e2, q⟩ := h
        exact ⟨t, A, t2, A2, e, e2, tS_mon _ _ _ _ (fun y H2 z => rIx_mono (fun w H3 z => tS_mon _ _ _ _ (fun y H2 z => rIx_mono i z) z) z) q⟩
      | cons _ _ => exact h
theorem mPl_len {x : Nat} {p : List CE} {e : Expr} (hm : mPl N (names G) x p sc e = true) : p.length ≤ 1 ∨ ∃ c c2, p = [c, c2] ∧ isC c = true ∧ isC c2 = true := by
  cases p with
  | nil => simp
  | cons c cs =>
    cases cs with
    | nil => simp
    | cons c2 cs2 =>
      cases cs2 with
      | nil =>
        have hm0 : (match asSub e with
          | some (o, i) => (match asSub o with
            | some (o2, i2) => mE N (names G) false (.var x) sc o2 && mE N (names G) false c sc i2
            | none => false) && mE N (names G) false c2 sc i && (isC c && isC c2)
          | none => false) = true := hm
        clear hm
        split at hm0
        · rw [Bool.and_eq_true, Bool.and_eq_true (isC c)] at hm0
          exact .inr ⟨c, c2, rfl, hm0.2⟩
        · cases hm0
      | cons _ _ => unfold mPl at hm; cases hm
theorem ixN_lt {n j : Nat} {i : Int} (h : L2.ixN n i = some j) : j < n := by
  unfold L2.ixN at h
  split at h
  · split at h
    · cases h; omega
    · cases h
  · split at h
    · cases h; omega
    · cases h
theorem at_some {env : Env} {x : Nat} {Q : D → Prop} (h : atV env x Q) : ∃ d, env[x]? = some (some d) ∧ Q d := by
  unfold atV at h
  split at h
  · exact ⟨_, ‹_›, h⟩
  · exact h.elim
theorem isL_some {d : D} (h : isL d) : ∃ ds, d = .lst ds := by
  cases d <;> first | exact ⟨_, rfl⟩ | exact h.elim
/-- what a method that changes a list asks -/
def muR (m : Mu) (w y : V) (H : Hp) (Q : Hp → Prop) : Prop := match m with
  | .app => ∃ l xs, w = .ref l ∧ H l = some (.lst xs) ∧ xs.length < sizeLine ∧ Q (upd H l (.lst (xs ++ [y])))
  | .ext => ∃ l b xs zs, w = .ref l ∧ y = .ref b ∧ H l = some (.lst xs) ∧ Rd H b (.lst zs) ∧ xs.length + zs.length ≤ sizeLine ∧ Q (upd H l (.lst (xs ++ zs)))
  | .rev => ∃ l xs, w = .ref l ∧ H l = some (.lst xs) ∧ Q (upd H l (.lst xs.reverse))
  | .clr => ∃ l xs, w = .ref l ∧ H l = some (.lst xs) ∧ Q (upd H l (.lst []))
  | .popD => ∃ l xs z, w = .ref l ∧ H l = some (.lst xs) ∧ xs[xs.length - 1]? = some z ∧ Q (upd H l (.lst xs.dropLast))
theorem insT_ok {K : PySem.W.Frag} {cls : Nat → Addr × List Str} {Nn : Addr → Prop} {H : Hp} {t u j : T} {b : Bool} {v : V} {d : D} {F : List Addr} (h : insT t u = some (j, b)) (r : ReT K cls Nn H u v d F) : T.le t j = true ∧ ((ReT K cls Nn H j v d F) ∨ (ReT K cls (fun a => Nn a ∨ a ∈ F) H j v d [])) := by
  unfold insT at h
  split at h
  · rename_i c
    rw [Bool.and_eq_true] at c
    cases h
    exact ⟨c.1, .inl (r.le c.2)⟩
  · split at h
    · rename_i c
      rw [Bool.and_eq_true] at c
      cases h
      exact ⟨c.1, .inr (ReT.le c.2 (.bo (flat_bor _) r.bor))⟩
    · cases h
section
variable {K : PySem.W.Frag} {cls : Nat → Addr × List Str} {Nz : Addr → Prop} {Γ : List T} {H0 H : Hp} {σ : St} {env : Env}
/-- a value, to be put into a thing: what is new of it, and it behind the write -/
theorem SRF.put {Fs : Nat → List Addr} (h : SRF K cls Fs Nz Γ H0 H σ env) {x : Nat} {p : Addr} {H2 H3 : Hp} {A : List Nat} {t u j : T} {b : Bool} {v : V} {d : D} (hi : insT t u = some (j, b)) (hp : p ∈ Fs x) (hA : x ∉ A) (s : Same H H2) (s3 : Same H2 H3)
    (rs : RS K cls (Lof Nz H0 H Fs) H2 H3 u A v d) : T.le t j = true ∧ ∃ F1, F1.Nodup ∧ (∀ a ∈ F1, H a = none) ∧ (∀ a ∈ F1, Box (H3 a)) ∧ ∀ o, ReT K cls (Nw Nz H0 Fs A F1) (upd H3 p o) j v d F1 := by
  obtain ⟨F1, nd, fr, r⟩ := rs
  have le : T.le t j = true := (insT_ok hi r).1
  refine ⟨le, ?_⟩
  rcases (insT_ok hi r).2 with q | q
  · exact ⟨F1, nd, fun a z => s.free (fr a z), q.box, fun o => h.newEl hp hA s s3 fr q⟩
  · refine ⟨[], .nil, fun _ z => absurd z (by simp), fun _ z => absurd z (by simp), fun o => h.newEl (F1 := []) hp hA s s3 (fun _ z => absurd z (by simp)) (q.mono (Same.refl _) fun a z => ⟨?_, by simp⟩)⟩
    rcases z with z | z
    · exact z.1
    · exact .inr (fr a z)
end
theorem mut_core (g : Good G k N sc X) {x : Nat} {m : Mu} {e : CE} {Γ : List T} {tx t u j : T} {A : List Nat} (hx : Γ[x]? = some tx) {is : List Int} (hpl : plT is.length tx = some t) (hmu : muT m t u = some j) (hA : x ∉ A)
    {Nz : Addr → Prop} {H0 : Hp} {Fs : Nat → List Addr} {σ : St} {H : Hp} {env : Env} {L : Nat → Addr → Prop} {envE : Env} {d : D} {Qf : D → Prop} {R : Hp → Prop} (h : SRF G.K G.cls Fs Nz Γ H0 H σ env) (hL : L = Lof Nz H0 H Fs) (er : ∀ H', Same H H' → ER G.K G.cls Γ L H' σ envE) (hd : env[x]? = some (some d))
    (hu : updP is d (fun d0 Q => isL d0 ∧ E (Cw (FTof G.fns) k) e envE fun y => muW m d0 y Q) Qf) (k1 : ∀ H' d', (∃ v p0 H3 o, σ[x]? = some (some v) ∧ Nav H v is (.ref p0) ∧ Same H H3 ∧ H' = upd H3 p0 o) → SR G.K G.cls Nz ((frz Γ A).set x (plSet is.length tx j)) H0 H' σ (env.set x (some d')) → Qf d' → R H') :
    ∃ v, σ[x]? = some (some v) ∧ ∃ w, Nav H v is w ∧ ∀ H2, Same H H2 → tyV G.K "list" w H2 ∧ tS G (Cw (FTof G.fns) k) Γ L e u A σ H2 fun y H3 => muR m w y H3 R := by
  subst hL
  obtain ⟨v, p0, vs, ds, Gd, Q', e1, nav, hp0, rs, nd, hpx, hpG, hG, ⟨_, hE⟩, reb⟩ := h.write (fun d Q z => isL_some z.1) hx hd hpl hu
  refine ⟨v, e1, _, nav, fun H2 s2 => ⟨.inl ⟨rfl, vs, .inl (.inl (s2 _ _ hp0))⟩, envE, _, er _ s2, hE, fun y H3 dy s3 rsv hq => ?_⟩⟩
  have s23 := s2.trans s3
  have hp3 : H3 p0 = some (.lst vs) := s23 _ _ hp0
  have old : ∀ {F1 : List Addr} {o : HO} {te' : T} {v : V} {d : Pv.D} {F : List Addr}, (∀ a ∈ F1, H a = none) → T.le t te' = true → (∀ a ∈ F, a ∈ Gd) → ReT G.K G.cls (fun a => ((Nz a ∨ H0 a = none) ∧ ∀ j, a ∉ Fs j) ∧ H a ≠ none) H t v d F → ReT G.K G.cls (Nw Nz H0 Fs A F1) (upd H3 p0 o) te' v d F :=
    fun hF le hs r => h.oldEl hpx s23 hF le (fun z => hpG (hs _ z)) r
  have bxG : ∀ a ∈ Gd, H a ≠ none := fun a z => box_some (rs.box a z)
  have fin : ∀ {F1 : List Addr} {te' : T} {vs' : List V} {ds' : List Pv.D} {G' : List Addr}, te' = j → (∀ a ∈ F1, H a = none) → T.le t te' = true → ReTs G.K G.cls (Nw Nz H0 Fs A F1) (upd H3 p0 (.lst vs')) te' vs' ds' G' → G'.Nodup → (∀ a ∈ G', a ∈ Gd ∨ a ∈ F1) → Q' (.lst ds') → R (upd H3 p0 (.lst vs')) := by
    intro F1 te' vs' ds' G' ej hF le r nd' hG' q
    subst ej
    have hpn : p0 ∉ G' := fun z => by
      rcases hG' _ z with z | z
      · exact hpG z
      · have := hF _ z
        rw [hp0] at this
        cases this
    obtain ⟨d', sr, q'⟩ := reb s23 hA hF le r nd' hG' hpn q
    exact k1 _ _ ⟨v, p0, H3, _, e1, nav, s23, rfl⟩ sr q'
  cases m with
  | app =>
    cases hi : insT t u with
    | none => simp [muT, hi] at hmu
    | some jb =>
      obtain ⟨j', b⟩ := jb
      obtain rfl : j' = j := by simpa [muT, hi] using hmu
      obtain ⟨le, F1, nd1, fr1, bx1, rv⟩ := h.put hi hpx hA s2 s3 rsv
      refine ⟨p0, vs, rfl, hp3, by rw [rs.len]; exact hq.1, fin (F1 := F1) (ds' := ds ++ [dy]) (G' := Gd ++ F1) rfl fr1 le ?_ ?_ (fun a z => List.mem_append.mp z) hq.2⟩
      · exact ReTs.app (ReTs.conv' (fun r hs => old fr1 le hs r) rs) (rv _)
      · exact List.nodup_append.mpr ⟨nd, nd1, fun a ha b hb e => bxG a ha (by rw [e]; exact fr1 b hb)⟩
  | ext =>
    have hmu' : (if T.le t (T.join t u.bor.el) && T.le u.bor.el (T.join t u.bor.el) then some (T.join t u.bor.el) else none) = some j := hmu
    split at hmu'
    · rename_i c
      rw [Bool.and_eq_true] at c
      obtain rfl := Option.some.inj hmu'
      cases dy <;> try exact hq.elim
      rename_i es
      obtain ⟨b, ws, rfl, _, hb, pp⟩ := repB_lst (flat_bor u) (rsv.bor (Same.refl _))
      refine ⟨p0, b, vs, ws, rfl, rfl, hp3, hb, by rw [rs.len, pair_len pp]; exact hq.1, fin (F1 := []) (ds' := ds ++ es) (G' := Gd ++ []) rfl (fun _ z => absurd z (by simp)) c.1 ?_ ?_ (fun a z => by simpa using z) hq.2⟩
      · refine ReTs.append (ReTs.conv' (fun r hs => old (fun _ z => absurd z (by simp)) c.1 hs r) rs) ?_
        have q := ReTs.ofB (K := G.K) (cls := G.cls) (N := NA (Lof Nz H0 H Fs) H2 A) (H := H3) (t := u.bor.el) (j := T.join t u.bor.el) (el_flat0 (flat_bor u)) c.2 pp
        exact ReTs.conv' (fun r hs => by
          have e : _ = ([] : List Addr) := List.eq_nil_iff_forall_not_mem.mpr fun a z => absurd (hs a z) (by simp)
          subst e
          exact h.newEl (F1 := []) hpx hA s2 s3 (fun _ z => absurd z (by simp)) (r.mono (Same.refl _) fun a z => ⟨z, by simp⟩)) q
      · simpa using nd
    · cases hmu'
  | rev =>
    have hmu' : (if T.le t t then some t else none) = some j := hmu
    split at hmu'
    · rename_i c
      obtain rfl := Option.some.inj hmu'
      cases dy <;> try exact hq.elim
      have r0 := ReTs.conv' (fun r hs => old (F1 := []) (o := .lst vs.reverse) (fun _ z => absurd z (by simp)) c hs r) rs
      obtain ⟨G', r1, pm⟩ := r0.rev
      exact ⟨p0, vs, rfl, hp3, fin (F1 := []) (G' := G') rfl (fun _ z => absurd z (by simp)) c r1 (pm.nodup_iff.mpr nd) (fun a z => .inl (pm.mem_iff.mp z)) hq⟩
    · cases hmu'
  | clr =>
    have hmu' : (if T.le t t then some t else none) = some j := hmu
    split at hmu'
    · rename_i c
      obtain rfl := Option.some.inj hmu'
      cases dy <;> try exact hq.elim
      exact ⟨p0, vs, rfl, hp3, fin (F1 := []) (G' := []) rfl (fun _ z => absurd z (by simp)) c .nil .nil (fun a z => absurd z (by simp)) hq⟩
    · cases hmu'
  | popD =>
    have hmu' : (if T.le t t then some t else none) = some j := hmu
    split at hmu'
    · rename_i c
      obtain rfl := Option.some.inj hmu'
      cases dy <;> try exact hq.elim
      have hne : 0 < ds.length := List.length_pos_iff.mpr hq.1
      have r0 := ReTs.conv' (fun r hs => old (F1 := []) (o := .lst vs.dropLast) (fun _ z => absurd z (by simp)) c hs r) rs
      obtain ⟨w, F1, F2, h1, h2, h3, h4⟩ := r0.last (d := ds[ds.length - 1]'(by omega)) (List.getElem?_eq_getElem (by omega))
      subst h2
      exact ⟨p0, vs, w, rfl, hp3, h1, fin (F1 := []) (G' := F1) rfl (fun _ z => absurd z (by simp)) c h3 (List.nodup_append.mp nd).1 (fun a z => .inl (by simp [z])) hq.2⟩
    · cases hmu'
theorem mut_ok (g : Good G k N sc X) {x : Nat} {p : List CE} {m : Mu} {e : CE} {ΓL : Option (List T)} {Γ : List T} {tx t u j : T} {A : List Nat} (hx : Γ[x]? = some tx) (hE0 : cE G.fns false Γ e = some (u, A)) (hpl : plT p.length tx = some t) (hmu : muT m t u = some j) (hA : x ∉ A) (hok : okS G.fns Γ p = true) (hl : p.length ≤ 1 ∨ ∃ c c2, p = [c, c2] ∧ isC c = true ∧ isC c2 = true)
    {D : Ends} {σ : St} {H : Hp} (hW : tSS G wx (Cw (FTof G.fns) k) rt ΓL Γ (some ((frz Γ A).set x (plSet p.length tx j))) (.mut x p m e) D σ H) :
    ∃ L : Nat → Addr → Prop, ∃ v, σ[x]? = some (some v) ∧ PlR G (Cw (FTof G.fns) k) Γ L p σ H v fun w H1 => tyV G.K "list" w H1 ∧ tS G (Cw (FTof G.fns) k) Γ L e u A σ H1 fun y H2 => muR m w y H2 (D.nx σ) := by
  obtain ⟨Nz, H0, env, k', ⟨Fs, h⟩, hW, k1, _⟩ := hW
  unfold W at hW
  obtain ⟨d, hd, hW⟩ := at_some hW
  obtain ⟨v, _, hσ, _, _⟩ := h.get x d hd
  refine ⟨Lof Nz H0 H Fs, v, hσ, pl_run hok hl h.er hW fun is hu his => ?_⟩
  rw [← his] at hpl k1
  obtain ⟨v', e1, w, nav, q⟩ := mut_core g hx hpl hmu hA h rfl (fun H' s => h.er.mono s) hd hu (R := D.nx σ) (fun H' d' _ sr q => k1 _ _ _ _ ⟨rfl, .refl _ _⟩ sr q)
  rw [hσ] at e1
  cases e1
  exact ⟨w, nav, q⟩
theorem SRF.gone {K : PySem.W.Frag} {cls : Nat → Addr × List Str} {Nz : Addr → Prop} {Γ : List T} {H0 H : Hp} {σ : St} {env : Env} {Fs : Nat → List Addr} (h : SRF K cls Fs Nz Γ H0 H σ env) (y : Nat) : SRF K cls Fs Nz Γ H0 H σ (env.set y none) :=
  ⟨h.nd, h.dj, h.own, h.same, by simp [h.l1], by simp [h.l2], fun i d q => h.get i d (by
    by_cases e : y = i
    · subst e
      by_cases hl : y < env.length
      · rw [List.getElem?_set_self hl] at q; cases q
      · rw [List.getElem?_eq_none (by simpa using hl)] at q; cases q
    · rwa [List.getElem?_set_ne e] at q)⟩
theorem SRF.dead {K : PySem.W.Frag} {cls : Nat → Addr × List Str} {Nz : Addr → Prop} {Γ : List T} {H0 H : Hp} {σ : St} {env : Env} {Fs : Nat → List Addr} (h : SRF K cls Fs Nz Γ H0 H σ env) {y : Nat} (v : Option V) (hy : ∀ d, env[y]? ≠ some (some d)) : SRF K cls Fs Nz Γ H0 H (σ.set y v) env :=
  ⟨h.nd, h.dj, h.own, h.same, by simp [h.l1], h.l2, fun i d q => by
    have e : y ≠ i := fun e => by subst e; exact hy d q
    rw [List.getElem?_set_ne e]
    exact h.get i d q⟩
theorem dup_inv {fns : List FnI} {rt : RT} {ΓL : Option (List T)} {Γ : List T} {x y : Nat} {e : CE} {r : Option (List T)} (h : cS fns rt ΓL Γ (.dup x y e) = some r) :
    ∃ t u te, Γ[x]? = some (.ow t) ∧ Γ[y]? = some u ∧ cE fns false Γ e = some (te, []) ∧ T.le t (T.join t u) = true ∧ T.le u (T.join t u) = true ∧ x ≠ y ∧ r = some ((Γ.set x (.ow (T.join t u))).set y te) := by
  unfold cS at h
  split at h
  · split at h
    · rename_i hc
      simp only [Bool.and_eq_true, decide_eq_true_eq] at hc
      obtain ⟨⟨h1, h2⟩, h3⟩ := hc
      cases h
      exact ⟨_, _, _, ‹_›, ‹_›, ‹_›, h1, h2, h3, rfl⟩
    · cases h
  · cases h
theorem dup_ok {G : Glob} {k : Nat} {N : List Str} {sc : Scope} {X : Cx} (g : Good G k N sc X) (fc : FnC sc X) {x y : Nat} {e : CE} {s1 s2 : Stmt} {ss : List Stmt} {Γ : List T} {t u te : T} {tR : TS} (hm1 : mApm N (names G) x y sc s1 = true) (hm2 : mAsg N (names G) y e sc s2 = true) (hx : Γ[x]? = some (.ow t)) (hy : Γ[y]? = some u) (hcE : cE G.fns false Γ e = some (te, [])) (le : T.le t (T.join t u) = true) (lu : T.le u (T.join t u) = true) (xy : x ≠ y) (hR : PSs X ss tR) :
    PSs X (s1 :: s2 :: ss) (fun D σ H => ∃ Nz H0 env k', SR G.K G.cls Nz Γ H0 H σ env ∧ W (Cw (FTof G.fns) k) (.dup x y e) k' env ∧ ∀ σ' H' env', Fr [y] σ σ' → SR G.K G.cls Nz ((Γ.set x (.ow (T.join t u))).set y te) H0 H' σ' env' → k'.nx env' → tR D σ' H') := by
  have h2 : PS X s2 (fun D σ H => ∃ L, tS G (Cw (FTof G.fns) k) Γ L e te [] σ H (fun v H1 => gName y v σ H1 D.nx)) := by
    unfold mAsg at hm2
    split at hm2
    · rename_i nx xp v sp
      simp only [Bool.and_eq_true, decide_eq_true_eq] at hm2
      obtain ⟨⟨⟨hN, hl⟩, hn⟩, he⟩ := hm2
      obtain ⟨l, f⟩ := g.locP fc _ hl
      constructor
      intro pins s σ H D I ⟨L, fin⟩
      exact (ps_set (by rw [g.hN]; exact g.nd) (by rw [g.hN]; exact hN) l (sE e g (Γ := Γ) (L := L) he hcE) (no_swap hn) f).run pins s σ H D I fin
    · cases hm2
  have h1 : PS X s1 (fun D σ H => ∃ Nz H0 env Fs xs z, SRF G.K G.cls Fs Nz Γ H0 H σ env ∧ env[x]? = some (some (.lst xs)) ∧ env[y]? = some (some z) ∧ xs.length < sizeLine ∧ ∀ H1, SR G.K G.cls Nz (Γ.set x (.ow (T.join t u))) H0 H1 σ ((env.set y none).set x (some (.lst (xs ++ [z])))) → ER G.K G.cls Γ (Lof Nz H0 H Fs) H1 σ (env.set x none) → D.nx σ H1) := by
    unfold mApm at hm1
    split at hm1
    · rename_i v pos
      split at hm1
      · rename_i o z sh
        rw [Bool.and_eq_true] at hm1
        obtain ⟨ho, hz⟩ := hm1
        obtain ⟨ap, pos', rfl, rb, ln, pl⟩ := asM1_of sh
        have hok : okS G.fns Γ [] = true := rfl
        constructor
        intro pins s σ H D I ⟨Nz, H0, env, Fs, xs, dz, h, hd, hdz, hlen, k1⟩
        obtain ⟨v, _, hσ, _, _⟩ := h.get x _ hd
        refine (ps_expr (pe_bm PySem.F.plainAttrs_list PySem.F.slot_list_append PySem.F.type_list_append mt_append (mPl_pe g (L := Lof Nz H0 H Fs) ho hok) (pa_cons (var_pe g hz) pa_nil (plain_star pl)) (recv_of rb) (by rw [plain_star pl] <;> rfl) ln (plain_star pl)) rfl).run pins s σ H D I ?_
        refine ⟨v, hσ, pl_run hok (mPl_len ho) h.er (K := fun is => is = []) (by unfold Ep; rfl) fun is hu his => ?_⟩
        subst hu
        obtain ⟨v', w, p0, vs, ds, Gd, Q', e1, e2, nav, hp0, rs, nd, hpx, hpG, hG, ⟨_, hq⟩, reb⟩ := h.writeM (f := fun d0 Q => isL d0 ∧ muW .app d0 dz Q) (is := []) (Q := fun d' => d' = .lst (xs ++ [dz])) (fun d Q z => isL_some z.1) xy hx hy hd hdz rfl (by unfold updP; exact ⟨trivial, hlen, rfl⟩)
        rw [hσ] at e1
        cases e1
        refine ⟨_, nav, fun H2 s2 => ⟨.inl ⟨rfl, vs, .inl (.inl (s2 _ _ hp0))⟩, w, e2, p0, vs, w, rfl, rfl, s2 _ _ hp0, by rw [rs.len]; exact hq.1, ?_⟩⟩
        obtain ⟨d', sr, rfl⟩ := reb s2 le lu (fun a b => ⟨_, ReTs.app a b, .refl _⟩) hq.2
        refine k1 _ sr ?_
        have er := h.er
        have cg : Chg [p0] H (upd H2 p0 (.lst (vs ++ [w]))) := by
          refine ⟨fun b u hb e => ?_, fun b hb => ?_⟩
          · rw [upd_ne (by simpa using hb)]
            exact s2 _ _ e
          · rw [List.mem_singleton.mp hb]
            exact (h.own x p0 hpx).2
        refine ⟨⟨by simpa using er.1.1, by simpa using er.1.2⟩, fun i a z => ?_, fun i d hi => ?_⟩
        · by_cases e : a = p0
          · subst e; rw [upd_same]; simp
          · rw [upd_ne e]; exact some_same s2 (er.2.1 i a z)
        · have ix : x ≠ i := fun e => by
            subst e
            by_cases hl : x < env.length
            · rw [List.getElem?_set_self hl] at hi; cases hi
            · rw [List.getElem?_eq_none (by simpa using hl)] at hi; cases hi
          rw [List.getElem?_set_ne ix] at hi
          obtain ⟨v, t, q1, q2, q3⟩ := er.2.2 i d hi
          refine ⟨v, t, q1, q2, q3.chg cg (fun a z w => ?_) fun _ z => z⟩
          rw [List.mem_singleton.mp w] at z
          rcases z.1 with z | z
          · exact h.dj x i ix p0 hpx z
          · exact z.2 x hpx
      · cases hm1
    · cases hm1
  refine (pss_cons h1 (pss_cons h2 hR)).sub fun D σ H ⟨Nz, H0, env, k', ⟨Fs, h⟩, hW, k1⟩ => ?_
  unfold W at hW
  obtain ⟨d, hd, hW⟩ := at_some hW
  obtain ⟨z, hz, hW⟩ := at_some hW
  obtain ⟨xs, rfl, hlen, hE⟩ := hW
  refine ⟨Nz, H0, env, Fs, xs, z, h, hd, hz, hlen, fun H1 sr er => ⟨_, _, _, er, hE, fun v H' d s' rs q => ?_⟩⟩
  obtain ⟨Gs, g1⟩ := sr
  have rs1 : RS G.K G.cls (Lof Nz H0 H1 Gs) H1 H' te [] v d := by
    obtain ⟨F, nd, fr, r⟩ := rs
    exact ⟨F, nd, fr, r.mono (Same.refl _) fun a z => ⟨.inr (z.1.elim (fun ⟨i, hi, _⟩ => absurd hi (by simp)) id), z.2⟩⟩
  have sr2 := g1.storeR (x := y) s' rs1
  rw [frz_nil] at sr2
  refine k1 _ _ _ (.set (by simp)) sr2 ?_
  have e : ((env.set y none).set x (some (Pv.D.lst (xs ++ [z])))).set y (some d) = (env.set x (some (Pv.D.lst (xs ++ [z])))).set y (some d) := by
    rw [List.set_comm _ _ xy, List.set_set, List.set_comm _ _ xy.symm]
  rw [e]
  exact q
/-- lists within lists lie apart -/
theorem SRF.apart {K : PySem.W.Frag} {cls : Nat → Addr × List Str} {Nz : Addr → Prop} {Γ : List T} {H0 H : Hp} {σ : St} {env : Env} {Fs : Nat → List Addr} (h : SRF K cls Fs Nz Γ H0 H σ env) {x : Nat} {t : T} {d : D} {c i : Int} {f : D → (D → Prop) → Prop} {Q : D → Prop} (hx : Γ[x]? = some (.ow (.ow (.ow t)))) (hd : env[x]? = some (some d)) (hf : ∀ d Q, f d Q → ∃ ds, d = .lst ds) (hu : updP [c, i] d f Q) {v : V} {p0 : Addr} (hv : σ[x]? = some (some v)) (nav : Nav H v [c, i] (.ref p0)) (hqq : ∃ q0 vs p1 ws, v = .ref q0 ∧ H q0 = some (.lst vs) ∧ atI vs c = some (.ref p1) ∧ H p1 = some (.lst ws)) :
    ∃ q0 vs p1 ws, v = .ref q0 ∧ H q0 = some (.lst vs) ∧ atI vs c = some (.ref p1) ∧ H p1 = some (.lst ws) ∧ atI ws i = some (.ref p0) ∧ p0 ≠ q0 ∧ p0 ≠ p1 := by
  obtain ⟨v', t', e1, e2, r⟩ := h.get x d hd
  rw [hx] at e2
  cases e2
  rw [hv] at e1
  cases e1
  cases d <;> try exact hu.elim
  case tup xs =>
    obtain ⟨q, vs, e, hq, _⟩ := r.tup
    obtain ⟨q0, vs0, p1, ws, e0, hq0, _⟩ := hqq
    cases e.symm.trans e0
    rw [hq] at hq0
    cases hq0
  rename_i xs
  obtain ⟨j, d1, hj, hd1, hu⟩ := hu
  cases d1 <;> try exact hu.elim
  case tup ys =>
    obtain ⟨q, vs, G, e, eF, hq, rs⟩ := r.lst
    obtain ⟨v1, F1, F2, F3, hv1, eG, r1, _⟩ := rs.at hd1
    obtain ⟨p1, ws, e1, hp1, _⟩ := r1.tup
    obtain ⟨q0, vs0, p2, ws0, e0, hq0, a0, hp2⟩ := hqq
    cases e.symm.trans e0
    rw [hq] at hq0
    cases hq0
    have a1 : atI vs c = some v1 := by
      unfold atI
      rw [rs.len, hj]
      exact hv1
    rw [a1, e1] at a0
    cases a0
    rw [hp1] at hp2
    cases hp2
  rename_i ys
  obtain ⟨j2, d2, hj2, hd2, hu⟩ := hu
  obtain ⟨zs, rfl⟩ := hf _ _ hu
  obtain ⟨q0, vs, G, rfl, eF, hq, rs⟩ := r.lst
  obtain ⟨v1, F1, F2, F3, hv1, eG, r1, _⟩ := rs.at hd1
  obtain ⟨p1, ws, G1, rfl, eF2, hp1, rs1⟩ := r1.lst
  obtain ⟨v2, E1, E2, E3, hv2, eG1, r2, _⟩ := rs1.at hd2
  obtain ⟨p2, us, G2, rfl, eE2, hp2, _⟩ := r2.lst
  have a1 : atI vs c = some (.ref p1) := by
    unfold atI
    rw [rs.len, hj]
    exact hv1
  have a2 : atI ws i = some (.ref p2) := by
    unfold atI
    rw [rs1.len, hj2]
    exact hv2
  obtain ⟨a, xs', w1, n1, n2, n3, b, xs2, w2, n4, n5, n6, n7⟩ := nav
  cases n1
  rw [hq] at n2
  replace n2 := n2.resolve_right (by intro z; cases z)
  cases n2
  rw [a1] at n3
  cases n3
  cases n4
  rw [hp1] at n5
  replace n5 := n5.resolve_right (by intro z; cases z)
  cases n5
  rw [a2] at n6
  cases n6
  cases n7
  have nd := h.nd x
  rw [eF, eG, eF2, eG1, eE2] at nd
  refine ⟨q0, vs, p1, ws, rfl, hq, a1, hp1, a2, fun e => ?_, fun e => ?_⟩
  · subst e
    exact (List.nodup_cons.mp nd).1 (by simp)
  · subst e
    have nd2 := (List.nodup_append.mp (List.nodup_append.mp (List.nodup_cons.mp nd).2).2.1).1
    exact (List.nodup_cons.mp nd2).1 (by simp)
/-- a loop, from what its head has left -/
theorem for_loop {tg : TG0} {b : CS} {Γ Γi : List T} {rb : Option (List T)} {t : T} {A : List Nat} (hf : reflB Γ = true) (hwi : wkL (frz Γ A) Γi = true) (hwb : ∀ Γb, rb = some Γb → wkL Γb Γi = true) {D : Ends} {σ : St} {H : Hp} {Nz : Addr → Prop} {H0 : Hp} {env : Env} {k' : Ks} {Fs : Nat → List Addr} (h : SRF G.K G.cls Fs Nz Γ H0 H σ env)
    (k1 : ∀ Γ' σ' H' env', (some Γi = some Γ' ∧ Fr (tgs tg ++ wr b) σ σ') → SR G.K G.cls Nz Γ' H0 H' σ' env' → k'.nx env' → D.nx σ' H') (k4 : (∀ v H' d, Same H0 H' → RSp G.K G.cls Nz H0 H' rt.t v d → k'.rt d → D.rt v H') ∧ ∀ Γ' σ' H' env' x, (rt.gx = none ∨ rt.gx = some Γ') → x < G.ct.xs.length → SR G.K G.cls Nz Γ' H0 H' σ' env' → k'.ex x env' → wx (.ref (G.ec x)) none σ' H')
    {J : L2.It} {H' : Hp} {ds : List Pv.D} (s' : Same H H') (hwk : ∀ Hb, Keep (NA (Lof Nz H0 H Fs) H A) H' Hb → Wk G.K G.cls J Hb (fun a => NA (Lof Nz H0 H Fs) H A a ∧ Hb a ≠ none) t ds)
    (hq : forW (fun d env' nx => G0 tg d env' fun env2 => W (Cw (FTof G.fns) k) b { nx := nx, ct := nx, bk := k'.nx, rt := k'.rt, ex := k'.ex } env2) k'.nx ds env) (gg : TG)
    (hgg : ∀ v (d : Pv.D) σ (Hx H1 : Hp) env' (Q : Env → Prop) (Hb : Hp) (R : St → Hp → Prop), SR G.K G.cls (fun a => Nz a ∨ H0 a = none) Γi Hb Hx σ env' → Same Hx H1 → ItN G.K G.cls (fun a => Nz a ∨ H0 a = none) Hb Hx H1 t v d → Pv.G0 tg d env' Q → (∀ σ' env'', Fr (tgs tg) σ σ' → SR G.K G.cls (fun a => Nz a ∨ H0 a = none) (tgT tg t Γi) Hb H1 σ' env'' → Q env'' → R σ' H1) → gg v σ H1 R) :
    ∃ W' : Nat → Nat → St → Hp → Prop, (∃ m, W' 0 m σ H') ∧ ∀ i m σ H, W' i m σ H →
      (J.stop i H ∧ D.nx σ H) ∨ (J.go i H ∧ ∃ N' : St → Hp → Prop, (∀ σ' H', N' σ' H' → ∃ m', m' < m ∧ W' (i + 1) m' σ' H') ∧ ∀ x H', J.yld i H x H' → gg x σ H' fun σ2 H2 => tSS G wx (Cw (FTof G.fns) k) rt (some Γi) (tgT tg t Γi) rb b { D with nx := N', ct := N', bk := D.nx } σ2 H2) := by
  obtain ⟨G1, g1, h1⟩ := (h.mono s').frzA (refl_of hf) A
  obtain ⟨G2, g2, h2⟩ := h1.wk hwi
  have hk : Keep (NA (Lof Nz H0 H Fs) H A) H' (base' G2 H') := by
    intro b u e hb
    rw [base_out fun i z => ?_]
    · exact e
    · obtain ⟨z1, z2⟩ := g1 i b (g2 i b z)
      have hbx := (h.own i b z1).2
      rcases hb (box_same s' hbx) with ⟨j, hj, w, _⟩ | w
      · rcases w with w | w
        · exact h.dj j i (fun e => z2 (e ▸ hj)) b w z1
        · exact w.2 i z1
      · exact box_some hbx w
  obtain ⟨Gp, Y, wk, hGp, hY⟩ := hwk _ hk
  have fin : ∀ σ' H'' env', SR G.K G.cls (fun a => Nz a ∨ H0 a = none) Γi (base' G2 H') H'' σ' env' → SR G.K G.cls Nz Γi H0 H'' σ' env' := fun σ' H'' env' q => q.unbase h2.own h2.same
  refine for_it wk (fun i σ' H'' => ∃ env', Fr (tgs tg ++ wr b) σ σ' ∧ SR G.K G.cls (fun a => Nz a ∨ H0 a = none) Γi (base' G2 H') H'' σ' env' ∧ forW (fun d env' nx => G0 tg d env' fun env2 => W (Cw (FTof G.fns) k) b { nx := nx, ct := nx, bk := k'.nx, rt := k'.rt, ex := k'.ex } env2) k'.nx (ds.drop i) env')
    ⟨env, .refl _ _, h2.rebase, hq⟩ (fun i σ' H'' _ ⟨env', _, ⟨F, q⟩, _⟩ => hGp _ q.same) ?_ (fun σ' H'' ⟨env', fr0, q, w⟩ => ?_)
  · rintro i x σ' Hx H1 hi ⟨env', fr0, q, w⟩ y
    obtain ⟨F, qF⟩ := id q
    obtain ⟨d, hd, s1, rb1⟩ := hY i Hx x H1 hi qF.same y
    rw [List.drop_eq_getElem_cons hi] at w
    rw [List.getElem?_eq_getElem hi] at hd
    cases hd
    simp only [forW] at w
    refine hgg x _ σ' Hx H1 env' _ (base' G2 H') _ q s1 (rb1.mono (Same.refl _) fun a z => ?_) w fun σ2 env2 fr2 sr2 hw2 => ?_
    · rcases z with z | z
      · refine .inl ⟨.inl ?_, z.2⟩
        rcases z.1 with ⟨j, hj, w, _⟩ | w
        · rcases w with w | w
          · exact .inr (h.own j a w).1
          · exact w.1
        · exact .inr (h.same.free w)
      · exact .inr z
    · have fr2' : Fr (tgs tg ++ wr b) σ σ2 := fr0.trans (fr2.sub fun i z => by simp [z])
      refine ⟨_, _, env2, _, sr2, hw2, fun Γ' σ3 H3 env3 e sr3 q3 => ⟨env3, fr2'.trans (e.2.sub fun i z => by simp [z]), sr3.wk (hwb Γ' e.1), q3⟩, fun Γ' σ3 H3 env3 e sr3 q3 => ?_, fun Γ' σ3 H3 env3 e sr3 q3 => ?_, fun v H3 d s3 rs3 q3 => ?_, fun Γ' σ3 H3 env3 y e hy sr3 q3 => k4.2 Γ' σ3 H3 env3 y e hy (sr3.unbase h2.own h2.same) q3⟩
      · obtain ⟨e, fe⟩ := e
        cases e
        exact k1 _ _ _ _ ⟨rfl, fr2'.trans (fe.sub fun i z => by simp [z])⟩ (fin _ _ _ sr3) q3
      · obtain ⟨e, fe⟩ := e
        cases e
        exact ⟨env3, fr2'.trans (fe.sub fun i z => by simp [z]), sr3, q3⟩
      · refine k4.1 v H3 d ?_ (rs3.unbase h2.own h2.same) q3
        intro b u e
        refine s3 b u ?_
        rw [base_out fun i z => by have := (h2.own i b z).1; rw [e] at this; cases this]
        exact h2.same b u e
  · rw [List.drop_eq_nil_of_le (Nat.le_refl _)] at w
    exact k1 _ _ _ _ ⟨rfl, fr0⟩ (fin _ _ _ q) w
theorem bor_bor : ∀ t : T, t.bor.bor = t.bor := fun t => bor_flat _ (flat_bor t)
theorem frz_frz (Γ : List T) (A : List Nat) : frz (frz Γ A) A = frz Γ A := by
  apply List.ext_getElem?
  intro i
  cases h : Γ[i]? with
  | none => rw [List.getElem?_eq_none (by rw [frz_len, frz_len]; exact List.getElem?_eq_none_iff.mp h), List.getElem?_eq_none (by rw [frz_len]; exact List.getElem?_eq_none_iff.mp h)]
  | some t =>
    rw [frz_get (frz_get h), frz_get h]
    split
    · rw [bor_bor]
    · rfl
theorem refl_frz {Γ : List T} (h : reflB Γ = true) (A : List Nat) : reflB (frz Γ A) = true := by
  refine List.all_eq_true.mpr fun t ht => ?_
  obtain ⟨i, hi⟩ := List.mem_iff_getElem?.mp ht
  cases e : Γ[i]? with
  | none => rw [List.getElem?_eq_none (by rw [frz_len]; exact List.getElem?_eq_none_iff.mp e)] at hi; cases hi
  | some u =>
    rw [frz_get e] at hi
    cases hi
    split
    · exact le_bor_refl u
    · exact refl_of h u (List.mem_of_getElem? e)
/-- kinds alike as borrowed -/
theorem ER.bors {K : PySem.W.Frag} {cls : Nat → Addr × List Str} {Γ Γ' : List T} {L : Nat → Addr → Prop} {H : Hp} {σ : St} {env : Env} (h : ER K cls Γ L H σ env) (hl : Γ'.length = Γ.length) (hb : ∀ (i : Nat) (t : T), Γ[i]? = some t → ∃ t' : T, Γ'[i]? = some t' ∧ t'.bor = t.bor) : ER K cls Γ' L H σ env :=
  ⟨⟨h.1.1, hl.trans h.1.2⟩, h.2.1, fun i d q => let ⟨v, t, e1, e2, r⟩ := h.2.2 i d q; let ⟨t', e3, e4⟩ := hb i t e2; ⟨v, t', e1, e3, by rw [e4]; exact r⟩⟩
theorem SRF.lk {K : PySem.W.Frag} {cls : Nat → Addr × List Str} {Nz : Addr → Prop} {Γ : List T} {H0 H H' : Hp} {σ : St} {env : Env} {Fs : Nat → List Addr} {d : Addr} (h : SRF K cls Fs Nz Γ H0 H σ env) (k : Lk d H H') (h0 : H0 d = none) (hF : ∀ i, d ∉ Fs i) : SRF K cls Fs Nz Γ H0 H' σ env := by
  refine ⟨h.nd, h.dj, fun i a z => ⟨(h.own i a z).1, ?_⟩, fun b u e => ?_, h.l1, h.l2, fun i x q => ?_⟩
  · rw [k.ne a (fun e => hF i (e ▸ z))]
    exact (h.own i a z).2
  · rw [k.ne b (fun q => by rw [q, h0] at e; cases e)]
    exact h.same b u e
  · obtain ⟨v, t, e1, e2, r⟩ := h.get i x q
    exact ⟨v, t, e1, e2, r.lk k (hF i)⟩
/-- for k in a dict of one's own -/
theorem for_dic (g : Good G k N sc X) (fc : FnC sc X) {x : Nat} {tg : TG0} {b : CS} {inv : List (Nat × T)} {tgE itE : Expr} {bod : List Stmt} {pos : Pos} {ΓL : Option (List T)} {Γ Γi : List T} {rb : Option (List T)} {tx : T} (hx : Γ[x]? = some (.ow tx)) (hf : reflB Γ = true) (hwi : wkL (frz Γ [x]) Γi = true) (hwb : ∀ Γb, rb = some Γb → wkL Γb Γi = true)
    (hg : mG N tg sc tgE = true) (hI : mI N (names G) tg (.ikd (.var x)) sc itE = true) (hcI : cE G.fns true Γ (.ikd (.var x)) = some (.im, [x]))
    (body : PSs X bod (tSS G wx (Cw (FTof G.fns) k) rt (some Γi) (tgT tg .im Γi) rb b)) : PS X (.For tgE itE bod [] pos) (tSS G wx (Cw (FTof G.fns) k) rt ΓL Γ (some Γi) (.for inv tg (.ikd (.var x)) b)) := by
  have hs : ∀ x, foldedSetIterable itE X.env x = pure x := mI_fold hI
  constructor
  intro pins s σ H D I ⟨Nz, H0, env, k', ⟨Fs, h⟩, hW, k1, k2, k3, k4⟩
  simp only [W] at hW
  -- the dict
  obtain ⟨p, u, hσ, hp, du, pF⟩ : ∃ p u, σ[x]? = some (some (.ref p)) ∧ H p = some u ∧ DicO u ∧ p ∈ Fs x := by
    have hW' := hW
    unfold It E E at hW'
    split at hW'
    · rename_i d hd
      obtain ⟨v, t, e1, e2, r⟩ := h.get x d hd
      rw [hx] at e2
      cases e2
      cases d <;> try exact hW'.elim
      · generalize Fs x = FF at *
        cases r with
        | bo f _ => cases f
        | owx h => cases h with | dK n _ _ => exact n.elim
        | owK e rr => exact ⟨_, _, e1, e.1, .inl ⟨_, rfl⟩, by simp⟩
      · generalize Fs x = FF at *
        cases r with
        | bo f _ => cases f
        | owx h => cases h with | dT n _ _ => exact n.elim
        | owT e rr => exact ⟨_, _, e1, e.1, .inr ⟨_, rfl⟩, by simp⟩
    · exact hW'.elim
  have hmut : Mut (some u) := by rcases du with ⟨_, rfl⟩ | ⟨_, rfl⟩ <;> trivial
  have p0 : H0 p = none := (h.own x p pF).1
  obtain ⟨od, I1⟩ := I.lock hp hmut
  obtain ⟨G1, g1, h1⟩ := h.frzA (refl_of hf) [x]
  have pG : ∀ i, p ∉ G1 i := fun i z => by
    obtain ⟨z1, z2⟩ := g1 i p z
    exact h.dj x i (fun e => z2 (by simp [e])) p pF z1
  have h2 := h1.lk (lk_upd hp du od) p0 pG
  have er2 : ER G.K G.cls Γ (Lof Nz H0 (upd H p (.frz od u)) G1) (upd H p (.frz od u)) σ env := h2.er.bors (frz_len Γ [x]).symm fun i t e => by
    by_cases q : i < Γ.length
    · have e' : Γ[i]? = some Γ[i] := List.getElem?_eq_getElem q
      rw [frz_get e'] at e
      refine ⟨_, e', ?_⟩
      cases e
      split
      · rw [bor_bor]
      · rfl
    · rw [List.getElem?_eq_none (by rw [frz_len]; omega)] at e
      cases e
  have pi : PI X tgE itE _ := sI (L := Lof Nz H0 (upd H p (.frz od u)) G1) g (.ikd (.var x)) hg hI hcI
  have hz : FrzC (.ikd (.var x)) σ (upd H p (.frz od u)) := ⟨p, od, u, hσ, upd_same, du⟩
  have ef : frz (frz Γ [x]) [x] = frz Γ [x] := frz_frz Γ [x]
  cases tg with
  | nm i =>
    cases tgE with
    | Name nx np =>
      have hg : (decide (N[i]? = some nx) && locB sc nx) = true := hg
      simp only [Bool.and_eq_true, decide_eq_true_eq] at hg
      obtain ⟨l, f⟩ := g.locP fc _ hg.2
      refine (ps_for g.nv g.calm pi (pg_name (by rw [g.hN]; exact g.nd) (by rw [g.hN]; exact hg.1) l f) body hs).run pins s σ _ D I1 ⟨hz, env, _, er2, hW, fun J H' ds s' hwk hq => ?_⟩
      refine for_loop (A := [x]) (refl_frz hf [x]) (by rw [ef]; exact hwi) hwb h2 k1 k4 s' hwk hq (gName i) fun v d σ Hx H1 env' Q Hb R sr s1 it hG hk => ?_
      obtain ⟨F, f⟩ := sr
      obtain ⟨Gs, _, g'⟩ := f.item (i := i) s1 rfl it (itN_own f)
      exact hk _ _ (.set (by simp [tgs])) ⟨Gs, g'⟩ hG
    | _ => cases hg
  | tp is =>
    cases tgE with
    | Tuple nxs nk np =>
      have hg : mG.go N is sc nxs = true := hg
      obtain ⟨pg, pl, pf⟩ := pg_names g.hN g.nd (g.locP fc) hg
      refine (ps_for g.nv g.calm pi (pg_tup g.calm pg pl pf) body hs).run pins s σ _ D I1 ⟨hz, env, _, er2, hW, fun J H' ds s' hwk hq => ?_⟩
      refine for_loop (A := [x]) (refl_frz hf [x]) (by rw [ef]; exact hwi) hwb h2 k1 k4 s' hwk hq _ fun v d σ Hx H1 env' Q Hb R sr s1 it hG hk => ?_
      cases d <;> try exact hG.elim
      rename_i ds
      obtain ⟨a, vs, rfl, hq, pp⟩ := repB_tup rfl it
      refine ⟨a, vs, rfl, by rw [g.hK]; exact hq, by rw [pair_len pp]; exact hG.1, ?_⟩
      obtain ⟨F, f⟩ := sr
      exact SRF.items (f.mono s1) (t := .im) rfl pp (itN_own f) hG.1 fun σ' f' sr' => hk _ _ f' sr' hG.2
    | _ => cases hg
mutual
theorem sS (g : Good G k N sc X) (fc : FnC sc X) (tk : Takes X wx) : ∀ (c : CS) {st : Stmt} {ΓL : Option (List T)} {Γ : List T} {r : Option (List T)}, mS N (names G) c sc st = true → cS G.fns rt ΓL Γ c = some r → PS X st (tSS G wx (Cw (FTof G.fns) k) rt ΓL Γ r c)
  | .pas, st, ΓL, Γ, r, hm, hc => by
    simp only [cS] at hc
    cases hc
    have go : ∀ D σ H, tSS G wx (Cw (FTof G.fns) k) rt ΓL Γ (some Γ) .pas D σ H → tNext D σ H := fun D σ H ⟨Nz, H0, env, k, sr, hW, k1, _⟩ => k1 Γ σ H env ⟨rfl, .refl _ _⟩ sr hW
    unfold mS at hm
    split at hm
    · exact ps_pass.sub go
    · exact ps_doc.sub go
    · cases hm
  | .asg i e, st, ΓL, Γ, r, hm, hc => by
    unfold mS at hm
    split at hm
    · rename_i x xp v sp
      simp only [Bool.and_eq_true, decide_eq_true_eq] at hm
      obtain ⟨⟨⟨hN, hl⟩, hn⟩, he⟩ := hm
      obtain ⟨l, f⟩ := g.locP fc _ hl
      simp only [cS] at hc
      split at hc
      · rename_i t A hcE
        split at hc
        · rename_i hf
          cases hc
          constructor
          intro pins s σ H D I ⟨Nz, H0, env, k', ⟨Fs, h⟩, hW, k1, _⟩
          have fin : tS G (Cw (FTof G.fns) k) Γ (Lof Nz H0 H Fs) e t A σ H (fun x H1 => gName i x σ H1 D.nx) := ⟨env, _, h.er, hW, fun v H' d s' rs q => k1 _ _ _ _ ⟨rfl, .set (by simp [wr])⟩ (h.storeR s' rs) q⟩
          cases hnc : noSw sc x v with
          | true => exact (ps_set (by rw [g.hN]; exact g.nd) (by rw [g.hN]; exact hN) l (sE e g (Γ := Γ) (L := Lof Nz H0 H Fs) he hcE) (no_swapC g.hsc hnc) f).run pins s σ H D I fin
          | false =>
            rw [hnc] at hn
            obtain ⟨hic, hlc⟩ : isCmp e = true ∧ lcOk sc x xp sp v = true := by simpa using hn
            unfold lcOk at hlc
            split at hlc
            · rename_i el gs scope pos
              simp only [Bool.and_eq_true, decide_eq_true_eq, Bool.not_eq_true'] at hlc
              obtain ⟨⟨⟨c1, c2⟩, c3⟩, c4⟩ := hlc
              cases e with
              | comp own g0 elt it c =>
                obtain ⟨el', tg, iter, ifs, scope', pos', wi, gg, tt, te, ev, hi, ok, hg, ht, he', hs, hlc⟩ := comp_pe g (Γ := Γ) (L := Lof Nz H0 H Fs) (fun g => sE it g) (sK it) (fun g => sE elt g) (fun {_ _} g {_ _ _ _} h1 h2 => (sT c g h1 h2).1) he hcE
                cases ev
                have key := ps_setLc (X := X) (i := i) (py := xp) (spos := sp) (pos := pos) (elt := el) g.calm (by rw [g.hN]; exact g.nd) (by rw [g.hN]; exact hN) (by rw [g.hsc]; exact c2) (sw_true (by rw [g.hsc]; exact c1) (by rw [g.hsc]; exact c2) c3 c4) hi ok hg ht he' hs
                by_cases hv : ∃ y, it = .ikd (.var y)
                · obtain ⟨y, rfl⟩ := hv
                  have hW' := hW
                  unfold E at hW'
                  rcases er_dic (C := Cw (FTof G.fns) k) h.er hW' with hz | ⟨d, u, hσ, hd, du⟩
                  · exact key.run pins s σ H D I (hlc σ H _ hz fin)
                  · exact (ps_lock key).run pins s σ H D I ⟨d, u, hd, by rcases du with ⟨_, rfl⟩ | ⟨_, rfl⟩ <;> trivial, fun od => hlc σ _ _ ⟨d, od, u, hσ, upd_same, du⟩ (tS_lock fin hd du od)⟩
                · exact key.run pins s σ H D I (hlc σ H _ (by unfold FrzC; split; exact absurd ⟨_, rfl⟩ hv; trivial) fin)
              | _ => cases hic
            · cases hlc
        · cases hc
      · cases hc
    · cases hm
  | .cio x f es, st, ΓL, Γ, r, hm, hc => by
    unfold mS at hm
    split at hm
    · rename_i nm p0 y ys pos pos'
      simp only [Bool.and_eq_true, decide_eq_true_eq] at hm
      obtain ⟨⟨⟨⟨⟨hf, gl⟩, nb⟩, hy⟩, py⟩, hes⟩ := hm
      unfold cS at hc
      split at hc
      · rename_i t i ts A hx hi ha
        split at hc
        · rename_i u sg hsg
          split at hc
          · rename_i hcc
            cases hc
            simp only [Bool.and_eq_true, decide_eq_true_eq, Option.isNone_iff_eq_none] at hcc
            obtain ⟨⟨⟨⟨⟨⟨⟨eu, lf⟩, lt⟩, hl⟩, hA⟩, htop⟩, hio⟩, hini⟩ := hcc
            subst eu
            obtain ⟨hmg, hk, hb⟩ := g.G.mgf f i hi
            have hmg := hmg htop
            have hx0 : nm = i.name := by
              have hf : (G.fns.map (·.name))[f]? = some nm := hf
              rw [List.getElem?_map, hi] at hf
              exact (Option.some.inj hf).symm
            subst hx0
            have F : FnOk X.prog X.w X.K X.mg X.base (L2.CX X.prog X.w) (2 * k) (G.fa f) (G.fd f) i.ps (spO G k f) := by
              rw [g.hP, g.hw, g.hK, g.hm, g.hb, ← spG_O hi hini hio]
              exact g.G.ok f i hi
            have room := g.room.mono (show 2 * k ≤ 2 * k + 1 by omega)
            constructor
            intro pins s σ H D I ⟨Nz, H0, env, k', ⟨Fs, h⟩, hW, k1, _⟩
            have pa := sEs es g (Γ := Γ) (L := Lof Nz H0 H Fs) hes ha
            have pl := mEs_plain es hes
            have key : PE X (.Call (.Name i.name p0) (y :: ys) [] pos) (tCall (spO G k f) [] E0 (tCons (tVar x) (tSL G (Cw (FTof G.fns) k) Γ (Lof Nz H0 H Fs) es ts A))) :=
              pe_call F room (g.gl gl) (by rw [g.hm]; exact hmg) (by rw [g.hK]; exact hk) (by rw [g.hK]; exact hb) .nil passL (pa_cons (var_pe g hy) pa (plain_star py)) (nm_of nb).1 (plain_star py) (star_any fun z hz => pl z hz)
            obtain ⟨d, hd, hE⟩ := at_some (show atV env x (fun d => Es (Cw (FTof G.fns) k) es env fun ds => Cw (FTof G.fns) k f (d :: ds) fun d' => k'.nx (env.set x (some d'))) from hW)
            obtain ⟨v, t2, hσ, ht2, r0⟩ := h.get x d hd
            rw [hx] at ht2
            cases ht2
            refine (ps_expr key rfl).run pins s σ H D I ⟨v, hσ, env, _, h.er, hE, fun us H2 ds s2 rsl hC => ?_⟩
            obtain ⟨F1, nd1, fr1, rl⟩ := rsl
            have ar := ReTL.args hl rl
            have h2 := h.mono s2
            have liveN : ∀ a, NA (Lof Nz H0 H Fs) H A a → (Nz a ∨ H0 a = none) ∧ a ∉ Fs x := by
              intro a z
              rcases z with ⟨j, hj, z, _⟩ | z
              · rcases z with z | z
                · exact ⟨.inr (h.own j a z).1, h.dj j x (fun e => hA (e ▸ hj)) a z⟩
                · exact ⟨z.1, z.2 x⟩
              · exact ⟨.inr (h.same.free z), fun w => box_some (h.own x a w).2 z⟩
            refine ⟨i, t, v, d, Fs x, us, ds, fun a => (Nz a ∨ H0 a = none) ∧ a ∉ Fs x, _, hi, hini, hio, List.append_nil _, ?_, by rw [hsg]; rfl, h.nd x, fun a z => z.2, (r0.mono s2 fun a z => ⟨z.1, z.2 x⟩), ?_, hC, fun H' d' s3 rs q => ?_⟩
            · have l1 := ar.length.1
              have l2 := g.G.len f i hi
              rw [hsg] at l2
              simp only [List.append_nil, List.length_cons] at l2 ⊢
              omega
            · rw [hsg]
              exact ReTL.args.args_mono (fun a z => z.elim (fun z => liveN a z.1) fun z => liveN a (.inr (fr1 a z))) ar
            · obtain ⟨F2, nd2, fr2, r2⟩ := rs
              have out : ∀ b, b ∉ Fs x → ∀ u, H2 b = some u → H' b = some u := fun b nb u e => s3 b u (by unfold hid; rw [if_neg nb]; exact e)
              have fr2' : ∀ a ∈ F2, a ∈ Fs x ∨ H2 a = none := fun a z => by
                have := fr2 a z
                unfold hid at this
                split at this
                · exact .inl ‹_›
                · exact .inr this
              have cg : Chg (Fs x) H2 H' := ⟨fun b u nb e => out b nb u e, fun b hb => (h2.own x b hb).2⟩
              have lv : ∀ j, j ≠ x → ∀ a ∈ Fs j, a ∉ F2 := fun j hj a z w => by
                rcases fr2' a w with w | w
                · exact h.dj j x hj a z w
                · exact box_some (h2.own j a z).2 w
              refine k1 Γ σ H' (env.set x (some d')) ⟨rfl, .refl _ _⟩ ⟨fun j => if j = x then F2 else Fs j, fun j => ?_, fun i j hij a z => ?_, fun j a z => ?_, fun b u e => ?_, by simp [h.l1], by simp [h.l2], fun j dj hdj => ?_⟩ q
              · (try dsimp only)
                split
                · exact nd2
                · exact h.nd j
              · (try dsimp only at z ⊢)
                split at z
                · rename_i e
                  rw [if_neg (fun q => hij (e.trans q.symm))]
                  exact fun w => lv j (fun q => hij (e.trans q.symm)) a w z
                · rename_i e
                  split
                  · exact lv i e a z
                  · exact h.dj i j hij a z
              · (try dsimp only at z)
                split at z
                · rename_i e
                  refine ⟨?_, r2.box a z⟩
                  rcases fr2' a z with w | w
                  · exact (h.own x a w).1
                  · exact h2.same.free w
                · rename_i e
                  obtain ⟨o1, o2⟩ := h2.own j a z
                  refine ⟨o1, ?_⟩
                  cases q' : H2 a with
                  | none => rw [q'] at o2; exact o2.elim
                  | some o => rw [out a (fun w => h.dj j x e a z w) o q']; rw [q'] at o2; exact o2
              · have nb : b ∉ Fs x := fun w => by
                  have := (h.own x b w).1
                  rw [e] at this
                  cases this
                exact out b nb u (h2.same b u e)
              · by_cases e : x = j
                · subst e
                  have hxl : x < env.length := by
                    have := (List.getElem?_eq_some_iff.mp hdj).1
                    simpa using this
                  rw [List.getElem?_set_self hxl] at hdj
                  cases hdj
                  refine ⟨v, .ow t, hσ, hx, ?_⟩
                  (try dsimp only)
                  rw [if_pos rfl]
                  exact leaf_N (t := .ow t) lf r2
                · rw [List.getElem?_set_ne e] at hdj
                  obtain ⟨v', t', e1, e2, r'⟩ := h2.get j dj hdj
                  have e' : ¬ j = x := fun q => e q.symm
                  refine ⟨v', t', e1, e2, ?_⟩
                  (try dsimp only)
                  rw [if_neg e']
                  refine ReT.chg cg (fun a z => z.1.2 x) (fun a z => ⟨z.1.1, fun j2 => ?_⟩) (fun a z w => h.dj j x e' a z w) r'.dom
                  (try dsimp only)
                  split
                  · exact fun w => (fr2' a w).elim (fun w => z.1.2 x w) fun w => z.2 w
                  · exact z.1.2 j2
          · cases hc
        · cases hc
      · cases hc
    · cases hm
  | .ded, st, ΓL, Γ, r, hm, hc => ⟨fun pins s σ H D I ⟨_, _, _, _, _, hW, _⟩ => (show False from hW).elim⟩
  | .rse c x m, st, ΓL, Γ, r, hm, hc => by
    unfold mS at hm
    split at hm
    · simp only [Bool.and_eq_true, decide_eq_true_eq] at hm
      obtain ⟨⟨⟨⟨rfl, rfl⟩, gl⟩, nm⟩, hx⟩ := hm
      split at hx
      · rename_i p hp
        have hx : p.1 = _ := of_decide_eq_true hx
        simp only [cS] at hc
        split at hc
        · rename_i ho
          have e1 := g.G.xo.one c p hp
          rw [hx] at e1
          have hc' : c < G.ct.xs.length := (List.getElem?_eq_some_iff.mp hp).1
          exact (ps_raise g.calm tk (pmk_own PySem.F.excBase_ValueError (by rw [g.hK]; exact e1.xP) (by rw [g.hm]; exact e1.gC) (by rw [g.hK]; exact e1.kP) (raises_own (by rw [g.hK]; exact e1.ec.hs) (by rw [g.hK]; exact e1.tP)) (g.gl gl) (nm_of nm).1)).sub fun D σ H ⟨Nz, H0, env, k', sr, hW, _, _, _, k4⟩ => by
            simp only [W] at hW
            obtain ⟨Γ', e, sr'⟩ := SR.okX ho sr
            exact k4.2 Γ' σ H env c e hc' sr' hW
        · cases hc
      · cases hx
    · cases hm
  | .rcl o e, st, ΓL, Γ, r, hm, hc => by
    cases o with
    | none =>
      have hm : (match (generalizing := false) st with | .Expr v _ => noComp v && isRC e && mE N (names G) false e sc v | _ => false) = true := hm
      split at hm
      · simp only [Bool.and_eq_true] at hm
        simp only [cS] at hc
        split at hc
        · rename_i ho
          split at hc
          · rename_i t A hcE
            cases hc
            constructor
            intro pins s σ H D I ⟨Nz, H0, env, k', ⟨Fs, h⟩, hW, k1, _, _, k4⟩
            simp only [W] at hW
            refine (ps_expr (sX g tk e (Γ := Γ) (L := Lof Nz H0 H Fs) hm.1.2 hm.2 hcE) (no_swap hm.1.1)).run pins s σ H D I ⟨env, _, _, h.er, hW, fun v H' d s' rs q => k1 _ _ _ _ ⟨rfl, .refl _ _⟩ ⟨Fs, h.mono s'⟩ q, fun x H' hx s' z => ?_⟩
            obtain ⟨Γ', e, sr'⟩ := SR.okX ho ⟨Fs, h.mono s'⟩
            exact k4.2 Γ' σ H' env x e hx sr' z
          · cases hc
        · cases hc
      · cases hm
    | some i =>
      have hm : (match (generalizing := false) st with | .Assign [.Name x _] v _ => decide (N[i]? = some x) && locB sc x && noComp v && isRC e && mE N (names G) false e sc v | _ => false) = true := hm
      split at hm
      · simp only [Bool.and_eq_true, decide_eq_true_eq] at hm
        obtain ⟨⟨⟨⟨hN, hl⟩, hn⟩, hrc⟩, he⟩ := hm
        obtain ⟨l, f⟩ := g.locP fc _ hl
        simp only [cS] at hc
        split at hc
        · rename_i ho
          split at hc
          · rename_i t A hcE
            split at hc
            · rename_i hf
              cases hc
              constructor
              intro pins s σ H D I ⟨Nz, H0, env, k', ⟨Fs, h⟩, hW, k1, _, _, k4⟩
              simp only [W] at hW
              refine (ps_set (by rw [g.hN]; exact g.nd) (by rw [g.hN]; exact hN) l (sX g tk e (Γ := Γ) (L := Lof Nz H0 H Fs) hrc he hcE) (no_swap hn) f).run pins s σ H D I ⟨env, _, _, h.er, hW, fun v H' d s' rs q => ?_, fun x H' hx s' z => ?_⟩
              · exact k1 _ _ _ _ ⟨rfl, .set (by simp [wr])⟩ (h.storeR s' rs) q
              · obtain ⟨Γ', e, sr'⟩ := SR.okX ho ⟨Fs, h.mono s'⟩
                exact k4.2 Γ' σ H' env x e hx sr' z
            · cases hc
          · cases hc
        · cases hc
      · cases hm
  | .rrt e, st, ΓL, Γ, r, hm, hc => by
    unfold mS at hm
    split at hm
    · rw [Bool.and_eq_true] at hm
      simp only [cS] at hc
      split at hc
      · rename_i ho
        split at hc
        · rename_i t A hcE
          have key : (∀ {K cls N H H' v d}, RSp K cls N H H' t v d → RSp K cls N H H' rt.t v d) ∧ r = none := by
            split at hc
            · rename_i hl
              cases hc
              exact ⟨fun z => z.le hl, rfl⟩
            · split at hc
              · rename_i hl
                rw [Bool.and_eq_true] at hl
                cases hc
                exact ⟨fun z => z.bor hl.1 hl.2, rfl⟩
              · cases hc
          obtain ⟨key, rfl⟩ := key
          constructor
          intro pins s σ H D I ⟨Nz, H0, env, k', ⟨Fs, h⟩, hW, _, _, _, k4⟩
          simp only [W] at hW
          refine (ps_ret (sX g tk e (Γ := Γ) (L := Lof Nz H0 H Fs) hm.1 hm.2 hcE)).run pins s σ H D I ⟨env, _, _, h.er, hW, fun v H' d s' rs q => k4.1 v H' d (h.same.trans s') (key (h.rs rs)) q, fun x H' hx s' z => ?_⟩
          obtain ⟨Γ', e, sr'⟩ := SR.okX ho ⟨Fs, h.mono s'⟩
          exact k4.2 Γ' σ H' env x e hx sr' z
        · cases hc
      · cases hc
    · cases hm
  | .tryx .., st, ΓL, Γ, r, hm, hc => by unfold mS at hm; cases hm
  | .mov i j, st, ΓL, Γ, r, hm, hc => by
    unfold mS at hm
    split at hm
    · simp only [Bool.and_eq_true, decide_eq_true_eq] at hm
      obtain ⟨⟨⟨hN, hl⟩, hn⟩, he⟩ := hm
      obtain ⟨l, f⟩ := g.locP fc _ hl
      simp only [cS] at hc
      split at hc
      · rename_i t ht
        split at hc
        · rename_i xy
          cases hc
          constructor
          intro pins s σ H D I ⟨Nz, H0, env, k', ⟨Fs, h⟩, hW, k1, _⟩
          simp only [W] at hW
          split at hW
          · rename_i d hd
            obtain ⟨v, hv, sr⟩ := h.move xy ht hd
            exact (ps_set (by rw [g.hN]; exact g.nd) (by rw [g.hN]; exact hN) l (var_pe g he) (no_swap hn) f).run pins s σ H D I ⟨v, hv, k1 _ _ _ _ ⟨rfl, .set (by simp [wr])⟩ sr hW⟩
          · exact hW.elim
        · cases hc
      · cases hc
    · cases hm
  | .ex e, st, ΓL, Γ, r, hm, hc => by
    unfold mS at hm
    split at hm
    · rw [Bool.and_eq_true] at hm
      simp only [cS] at hc
      split at hc
      · rename_i rr hcE
        obtain ⟨t, A⟩ := rr
        cases hc
        constructor
        intro pins s σ H D I ⟨Nz, H0, env, k', ⟨Fs, h⟩, hW, k1, _⟩
        exact (ps_expr (sE e g (Γ := Γ) (L := Lof Nz H0 H Fs) hm.2 hcE) (no_swap hm.1)).run pins s σ H D I ⟨env, _, h.er, hW, fun v H' d s' rs q => k1 _ _ _ _ ⟨rfl, .refl _ _⟩ ⟨Fs, h.mono s'⟩ q⟩
      · cases hc
    · cases hm
  | .ret e, st, ΓL, Γ, r, hm, hc => by
    unfold mS at hm
    split at hm
    · simp only [cS] at hc
      split at hc
      · rename_i y t ho
        split at hc
        · rename_i hl
          cases hc
          have he : e = .var y ∧ Γ[y]? = some t := by
            unfold ownT at ho
            split at ho
            · split at ho
              · rename_i q; cases ho; exact ⟨rfl, q⟩
              · cases ho
            · cases ho
          obtain ⟨rfl, ht⟩ := he
          constructor
          intro pins s σ H D I ⟨Nz, H0, env, k', ⟨Fs, h⟩, hW, _, _, _, k4⟩
          simp only [W] at hW
          unfold E at hW
          split at hW
          · rename_i d hd
            obtain ⟨v, hv, rs⟩ := h.own1 ht hd
            exact (ps_ret (var_pe g hm)).run pins s σ H D I ⟨v, hv, k4.1 v H d h.same (rs.le hl) hW⟩
          · exact hW.elim
        · cases hc
      · split at hc
        · rename_i c y u ho
          split at hc
          · rename_i hl
            cases hc
            obtain ⟨rfl, ic, ht⟩ := ownP_of ho
            unfold mE at hm
            split at hm
            · rename_i xs p1 p2
              cases xs with
              | nil => unfold mEs at hm; cases hm
              | cons x1 xs =>
                unfold mEs at hm
                simp only [Bool.and_eq_true] at hm
                obtain ⟨⟨q1, m1⟩, hm⟩ := hm
                cases xs with
                | nil => unfold mEs at hm; cases hm
                | cons x2 xs =>
                  unfold mEs at hm
                  simp only [Bool.and_eq_true] at hm
                  obtain ⟨⟨q2, m2⟩, hm⟩ := hm
                  cases xs with
                  | cons _ _ => unfold mEs at hm; cases hm
                  | nil =>
                    have hcE : cE G.fns false Γ c = some (.im, []) := by cases c <;> first | rfl | cases ic
                    constructor
                    intro pins s σ H D I ⟨Nz, H0, env, k', ⟨Fs, h⟩, hW, _, _, _, k4⟩
                    simp only [W] at hW
                    unfold E at hW
                    unfold Es at hW
                    refine (ps_ret (pe_tup (pa_cons (sE c g (Γ := Γ) (L := Lof Nz H0 H Fs) m1 hcE) (pa_cons (var_pe g m2) pa_nil (plain_star q2)) (plain_star q1)))).run pins s σ H D I ⟨env, _, h.er, hW, fun vc H' dc s' rs hW2 => ?_⟩
                    unfold Es at hW2
                    unfold E at hW2
                    split at hW2
                    · rename_i d hd
                      obtain ⟨v, hv, F, nd, fr, r⟩ := h.own1 ht hd
                      unfold Es at hW2
                      refine ⟨v, hv, show (2 : Nat) ≤ sizeLine by decide, fun p hp => k4.1 (.ref p) (upd H' p (.tup [vc, v])) (.tup [dc, d]) (h.same.trans (s'.trans (same_new hp))) (RSp.le hl ⟨F, nd, fr, ?_⟩) hW2.2⟩
                      have rc : Rep G.K G.cls N0 H' vc dc := rs.bor (Same.refl _)
                      have q := ReT.owP (t := .ow u) (p := p) (upd_same (H := H')) (ReTs.cons (F := []) (.owx (rc.mono (same_new hp) fun _ z => z)) (ReTs.cons (r.mono (s'.trans (same_new hp)) fun a z => z) .nil))
                      rw [List.nil_append, List.append_nil] at q
                      exact q
                    · exact hW2.elim
            · cases hm
          · cases hc
        · split at hc
          · rename_i t A hcE
            have key : (∀ {K cls N H H' v d}, RSp K cls N H H' t v d → RSp K cls N H H' rt.t v d) ∧ r = none := by
              split at hc
              · rename_i hl
                cases hc
                exact ⟨fun z => z.le hl, rfl⟩
              · split at hc
                · rename_i hl
                  rw [Bool.and_eq_true] at hl
                  cases hc
                  exact ⟨fun z => z.bor hl.1 hl.2, rfl⟩
                · cases hc
            obtain ⟨key, rfl⟩ := key
            constructor
            intro pins s σ H D I ⟨Nz, H0, env, k', ⟨Fs, h⟩, hW, _, _, _, k4⟩
            exact (ps_ret (sE e g (Γ := Γ) (L := Lof Nz H0 H Fs) hm hcE)).run pins s σ H D I ⟨env, _, h.er, hW, fun v H' d s' rs q => k4.1 v H' d (h.same.trans s') (key (h.rs rs)) q⟩
          · cases hc
    · cases hm
  | .ite c a b, st, ΓL, Γ, r, hm, hc => by
    unfold mS at hm
    split at hm
    · simp only [Bool.and_eq_true] at hm
      simp only [cS] at hc
      split at hc
      · rename_i rr x y h0 ha hb
        constructor
        intro pins s σ H D I ⟨Nz, H0, env, k', ⟨Fs, h⟩, hW, k1, k2, k3, k4⟩
        refine (ps_if (sT c g (Γ := Γ) (L := Lof Nz H0 H Fs) hm.1.1 h0).1 (sSs g fc tk a hm.1.2 ha) (sSs g fc tk b hm.2 hb)).run pins s σ H D I ⟨env, _, _, h.er, hW, fun H' s' hw => iteT ?_, fun H' s' hw => iteF ?_⟩
        · refine ⟨Nz, H0, env, k', ⟨Fs, h.mono s'⟩, hw, fun Γ' σ' H2 env' e sr q => ?_, fun _ _ _ _ e => k2 _ _ _ _ ⟨e.1, e.2.sub fun i z => by simp [wr, z]⟩, fun _ _ _ _ e => k3 _ _ _ _ ⟨e.1, e.2.sub fun i z => by simp [wr, z]⟩, k4⟩
          obtain ⟨Γm, rfl, w⟩ := mer_l hc Γ' e.1
          exact k1 Γm σ' H2 env' ⟨rfl, e.2.sub fun i z => by simp [wr, z]⟩ (sr.wk' w) q
        · refine ⟨Nz, H0, env, k', ⟨Fs, h.mono s'⟩, hw, fun Γ' σ' H2 env' e sr q => ?_, fun _ _ _ _ e => k2 _ _ _ _ ⟨e.1, e.2.sub fun i z => by simp [wr, z]⟩, fun _ _ _ _ e => k3 _ _ _ _ ⟨e.1, e.2.sub fun i z => by simp [wr, z]⟩, k4⟩
          obtain ⟨Γm, rfl, w⟩ := mer_r hc Γ' e.1
          exact k1 Γm σ' H2 env' ⟨rfl, e.2.sub fun i z => by simp [wr, z]⟩ (sr.wk' w) q
      · cases hc
    · cases hm
  | .whl inv c b, st, ΓL, Γ, r, hm, hc => by
    unfold mS at hm
    split at hm
    · rw [Bool.and_eq_true] at hm
      simp only [cS] at hc
      split at hc
      · rename_i hw0
        obtain ⟨rr, rb, h0, hb, rfl, hwb⟩ : ∃ rr rb, cE G.fns false (ovr Γ inv) c = some rr ∧ cS G.fns rt (some (ovr Γ inv)) (ovr Γ inv) b = some rb ∧ r = some (ovr Γ inv) ∧ ∀ Γb, rb = some Γb → wkL Γb (ovr Γ inv) = true := by
          split at hc
          · rename_i h1 h2; cases hc; exact ⟨_, _, h1, h2, rfl, fun _ z => by cases z⟩
          · rename_i h1 h2
            split at hc
            · rename_i h3; cases hc; exact ⟨_, _, h1, h2, rfl, fun _ z => by cases z; exact h3⟩
            · cases hc
          · cases hc
        constructor
        intro pins s σ H D I ⟨Nz, H0, env, k', sr, hW, k1, k2, k3, k4⟩
        simp only [W] at hW
        obtain ⟨n0, hW⟩ := hW
        refine (ps_while g.nv (PT.some fun L => (sT c g (Γ := ovr Γ inv) (L := L) hm.1 h0).1) (sSs g fc tk b hm.2 hb)).run pins s σ H D I ⟨fun n σ' H' => ∃ env', Fr (wr b) σ σ' ∧ SR G.K G.cls Nz (ovr Γ inv) H0 H' σ' env' ∧ whlW _ n env', ⟨n0, env, .refl _ _, sr.wk hw0, hW⟩, ?_⟩
        rintro n σ1 H1 ⟨env1, fr1, sr1, hw⟩
        cases n with
        | zero => exact hw.elim
        | succ n =>
          simp only [whlW] at hw
          obtain ⟨Fs1, f1⟩ := id sr1
          refine ⟨Lof Nz H0 H1 Fs1, env1, _, _, f1.er, hw, fun H' s' h1 => iteT ⟨fun σ' H' => ∃ env', Fr (wr b) σ σ' ∧ SR G.K G.cls Nz (ovr Γ inv) H0 H' σ' env' ∧ whlW _ n env', fun σ' H' q => ⟨n, Nat.lt_succ_self n, q⟩, ?_⟩, fun H' s' h1 => iteF (k1 _ _ _ _ ⟨rfl, fr1⟩ (sr1.mono s') h1)⟩
          refine ⟨Nz, H0, env1, _, sr1.mono s', h1, fun Γ' σ' H2 env' e sr q => ⟨env', fr1.trans e.2, sr.wk (hwb Γ' e.1), q⟩, fun Γ' σ' H2 env' e sr q => k1 Γ' σ' H2 env' ⟨e.1, fr1.trans e.2⟩ sr q, fun Γ' σ' H2 env' e sr q => ?_, k4⟩
          obtain ⟨e, fe⟩ := e
          cases e
          exact ⟨env', fr1.trans fe, sr, q⟩
      · cases hc
    · cases hm
  | .for inv tg it b, st, ΓL, Γ, r, hm, hc => by
    unfold mS at hm
    split at hm
    · rename_i tgE itE bod pos
      simp only [Bool.and_eq_true] at hm
      simp only [cS] at hc
      split at hc
      · rename_i t0 A hcI
        split at hc
        · rename_i hw0
          simp only [Bool.and_eq_true] at hw0
          obtain ⟨⟨⟨hf, hfi⟩, hwi⟩, ft, hdic⟩ := hw0
          obtain ⟨rb, hb, rfl, hwb⟩ : ∃ rb, cS G.fns rt (some (ovr (frz Γ A) inv)) (tgT tg (itT it t0) (ovr (frz Γ A) inv)) b = some rb ∧ r = some (ovr (frz Γ A) inv) ∧ ∀ Γb, rb = some Γb → wkL Γb (ovr (frz Γ A) inv) = true := by
            split at hc
            · rename_i h2; cases hc; exact ⟨_, h2, rfl, fun _ z => by cases z⟩
            · rename_i h2
              split at hc
              · rename_i h3; cases hc; exact ⟨_, h2, rfl, fun _ z => by cases z; exact h3⟩
              · cases hc
            · cases hc
          generalize hΓi : ovr (frz Γ A) inv = Γi at *
          by_cases hv : ∃ y, it = .ikd (.var y)
          · obtain ⟨y, rfl⟩ := hv
            have hdic : (match Γ[y]? with | some (.ow _) => true | _ => false) = true := hdic
            split at hdic
            · rename_i tx hx
              obtain ⟨rfl, rfl⟩ : t0 = .im ∧ A = [y] := by
                have hc' := hcI
                unfold cE cE at hc'
                rw [hx] at hc'
                simp only [reduceCtorEq, ↓reduceIte] at hc'
                cases tx <;> (simp only [T.bor] at hc'; rw [if_pos (show isV (.var y) = true from rfl)] at hc'; cases hc'; exact ⟨rfl, rfl⟩)
              exact for_dic g fc hx hf hwi hwb hm.1.1 hm.1.2 hcI (sSs g fc tk b (ΓL := some Γi) (Γ := tgT tg .im Γi) hm.2 hb)
            · cases hdic
          have hfz : ∀ σ H, FrzC it σ H := fun σ H => by unfold FrzC; split; exact absurd ⟨_, rfl⟩ hv; trivial
          have pi : ∀ L, PI X tgE itE (tI G (Cw (FTof G.fns) k) Γ L it (itT it t0) A) := fun L => (sI g it hm.1.1 hm.1.2 hcI).sub fun σ H R h => ⟨hfz σ H, h⟩
          have hs : ∀ x, foldedSetIterable itE X.env x = pure x := mI_fold hm.1.2
          generalize hit : itT it t0 = t at *
          constructor
          intro pins s σ H D I ⟨Nz, H0, env, k', ⟨Fs, h⟩, hW, k1, k2, k3, k4⟩
          simp only [W] at hW
          have body := sSs g fc tk b (ΓL := some Γi) (Γ := tgT tg t Γi) hm.2 hb
          -- the loop, from what its head has left
          have loop : ∀ J H' ds, Same H H' → (∀ Hb, Keep (NA (Lof Nz H0 H Fs) H A) H' Hb → Wk G.K G.cls J Hb (fun a => NA (Lof Nz H0 H Fs) H A a ∧ Hb a ≠ none) t ds) →
              forW (fun d env' nx => G0 tg d env' fun env2 => W (Cw (FTof G.fns) k) b { nx := nx, ct := nx, bk := k'.nx, rt := k'.rt, ex := k'.ex } env2) k'.nx ds env →
              ∀ (gg : TG), (∀ v (d : Pv.D) σ (Hx H1 : Hp) env' (Q : Env → Prop) (Hb : Hp) (R : St → Hp → Prop), SR G.K G.cls (fun a => Nz a ∨ H0 a = none) Γi Hb Hx σ env' → Same Hx H1 → ItN G.K G.cls (fun a => Nz a ∨ H0 a = none) Hb Hx H1 t v d → Pv.G0 tg d env' Q → (∀ σ' env'', Fr (tgs tg) σ σ' → SR G.K G.cls (fun a => Nz a ∨ H0 a = none) (tgT tg t Γi) Hb H1 σ' env'' → Q env'' → R σ' H1) → gg v σ H1 R) →
              ∃ W' : Nat → Nat → St → Hp → Prop, (∃ m, W' 0 m σ H') ∧ ∀ i m σ H, W' i m σ H →
                (J.stop i H ∧ D.nx σ H) ∨ (J.go i H ∧ ∃ N' : St → Hp → Prop, (∀ σ' H', N' σ' H' → ∃ m', m' < m ∧ W' (i + 1) m' σ' H') ∧ ∀ x H', J.yld i H x H' → gg x σ H' fun σ2 H2 => tSS G wx (Cw (FTof G.fns) k) rt (some Γi) (tgT tg t Γi) rb b { D with nx := N', ct := N', bk := D.nx } σ2 H2) := by
            intro J H' ds s' hwk hq gg hgg
            obtain ⟨G1, g1, h1⟩ := (h.mono s').frzA (refl_of hf) A
            obtain ⟨G2, g2, h2⟩ := h1.wk hwi
            have hk : Keep (NA (Lof Nz H0 H Fs) H A) H' (base' G2 H') := by
              intro b u e hb
              rw [base_out fun i z => ?_]
              · exact e
              · obtain ⟨z1, z2⟩ := g1 i b (g2 i b z)
                have hbx := (h.own i b z1).2
                rcases hb (box_same s' hbx) with ⟨j, hj, w, _⟩ | w
                · rcases w with w | w
                  · exact h.dj j i (fun e => z2 (e ▸ hj)) b w z1
                  · exact w.2 i z1
                · exact box_some hbx w
            obtain ⟨Gp, Y, wk, hGp, hY⟩ := hwk _ hk
            have fin : ∀ σ' H'' env', SR G.K G.cls (fun a => Nz a ∨ H0 a = none) Γi (base' G2 H') H'' σ' env' → SR G.K G.cls Nz Γi H0 H'' σ' env' := fun σ' H'' env' q => q.unbase h2.own h2.same
            refine for_it wk (fun i σ' H'' => ∃ env', Fr (tgs tg ++ wr b) σ σ' ∧ SR G.K G.cls (fun a => Nz a ∨ H0 a = none) Γi (base' G2 H') H'' σ' env' ∧ forW (fun d env' nx => G0 tg d env' fun env2 => W (Cw (FTof G.fns) k) b { nx := nx, ct := nx, bk := k'.nx, rt := k'.rt, ex := k'.ex } env2) k'.nx (ds.drop i) env')
              ⟨env, .refl _ _, h2.rebase, hq⟩ (fun i σ' H'' _ ⟨env', _, ⟨F, q⟩, _⟩ => hGp _ q.same) ?_ (fun σ' H'' ⟨env', fr0, q, w⟩ => ?_)
            · rintro i x σ' Hx H1 hi ⟨env', fr0, q, w⟩ y
              obtain ⟨F, qF⟩ := id q
              obtain ⟨d, hd, s1, rb1⟩ := hY i Hx x H1 hi qF.same y
              rw [List.drop_eq_getElem_cons hi] at w
              rw [List.getElem?_eq_getElem hi] at hd
              cases hd
              simp only [forW] at w
              refine hgg x _ σ' Hx H1 env' _ (base' G2 H') _ q s1 (rb1.mono (Same.refl _) fun a z => ?_) w fun σ2 env2 fr2 sr2 hw2 => ?_
              · rcases z with z | z
                · refine .inl ⟨.inl ?_, z.2⟩
                  rcases z.1 with ⟨j, hj, w, _⟩ | w
                  · rcases w with w | w
                    · exact .inr (h.own j a w).1
                    · exact w.1
                  · exact .inr (h.same.free w)
                · exact .inr z
              · have fr2' : Fr (tgs tg ++ wr b) σ σ2 := fr0.trans (fr2.sub fun i z => by simp [z])
                refine ⟨_, _, env2, _, sr2, hw2, fun Γ' σ3 H3 env3 e sr3 q3 => ⟨env3, fr2'.trans (e.2.sub fun i z => by simp [z]), sr3.wk (hwb Γ' e.1), q3⟩, fun Γ' σ3 H3 env3 e sr3 q3 => ?_, fun Γ' σ3 H3 env3 e sr3 q3 => ?_, fun v H3 d s3 rs3 q3 => ?_, fun Γ' σ3 H3 env3 y e hy sr3 q3 => k4.2 Γ' σ3 H3 env3 y e hy (sr3.unbase h2.own h2.same) q3⟩
                · obtain ⟨e, fe⟩ := e
                  cases e
                  exact k1 _ _ _ _ ⟨rfl, fr2'.trans (fe.sub fun i z => by simp [z])⟩ (fin _ _ _ sr3) q3
                · obtain ⟨e, fe⟩ := e
                  cases e
                  exact ⟨env3, fr2'.trans (fe.sub fun i z => by simp [z]), sr3, q3⟩
                · refine k4.1 v H3 d ?_ (rs3.unbase h2.own h2.same) q3
                  intro b u e
                  refine s3 b u ?_
                  rw [base_out fun i z => by have := (h2.own i b z).1; rw [e] at this; cases this]
                  exact h2.same b u e
            · rw [List.drop_eq_nil_of_le (Nat.le_refl _)] at w
              exact k1 _ _ _ _ ⟨rfl, fr0⟩ (fin _ _ _ q) w
          have pi := pi (Lof Nz H0 H Fs)
          cases tg with
          | nm i =>
            have hg := hm.1.1
            cases tgE with
            | Name nx np =>
              have hg : (decide (N[i]? = some nx) && locB sc nx) = true := hg
              simp only [Bool.and_eq_true, decide_eq_true_eq] at hg
              obtain ⟨l, f⟩ := g.locP fc _ hg.2
              refine (ps_for g.nv g.calm pi (pg_name (by rw [g.hN]; exact g.nd) (by rw [g.hN]; exact hg.1) l f) body hs).run pins s σ H D I ⟨env, _, h.er, hW, fun J H' ds s' hwk hq => ?_⟩
              refine loop J H' ds s' hwk hq (gName i) fun v d σ Hx H1 env' Q Hb R sr s1 it hG hk => ?_
              obtain ⟨F, f⟩ := sr
              obtain ⟨Gs, _, g'⟩ := f.item (i := i) s1 ft it (itN_own f)
              exact hk _ _ (.set (by simp [tgs])) ⟨Gs, g'⟩ hG
            | _ => cases hg
          | tp is =>
            have hg := hm.1.1
            cases tgE with
            | Tuple nxs nk np =>
              have hg : mG.go N is sc nxs = true := hg
              obtain ⟨pg, pl, pf⟩ := pg_names g.hN g.nd (g.locP fc) hg
              refine (ps_for g.nv g.calm pi (pg_tup g.calm pg pl pf) body hs).run pins s σ H D I ⟨env, _, h.er, hW, fun J H' ds s' hwk hq => ?_⟩
              refine loop J H' ds s' hwk hq _ fun v d σ Hx H1 env' Q Hb R sr s1 it hG hk => ?_
              cases d <;> try exact hG.elim
              rename_i ds
              obtain ⟨a, vs, rfl, hq, pp⟩ := repB_tup ft it
              refine ⟨a, vs, rfl, by rw [g.hK]; exact hq, by rw [pair_len pp]; exact hG.1, ?_⟩
              obtain ⟨F, f⟩ := sr
              exact SRF.items (f.mono s1) (el_flat0 ft) pp (itN_own f) hG.1 fun σ' f' sr' => hk _ _ f' sr' hG.2
            | _ => cases hg
        · cases hc
      · cases hc
    · cases hm
  | .brk, st, ΓL, Γ, r, hm, hc => by
    unfold mS at hm
    split at hm
    · simp only [cS] at hc
      split at hc
      · rename_i gg
        split at hc
        · rename_i hw
          cases hc
          exact ps_break.sub fun D σ H ⟨Nz, H0, env, k, sr, hW, k1, k2, _⟩ => k2 gg σ H env ⟨rfl, .refl _ _⟩ (sr.wk hw) hW
        · cases hc
      · cases hc
    · cases hm
  | .cnt, st, ΓL, Γ, r, hm, hc => by
    unfold mS at hm
    split at hm
    · simp only [cS] at hc
      split at hc
      · rename_i gg
        split at hc
        · rename_i hw
          cases hc
          exact ps_continue.sub fun D σ H ⟨Nz, H0, env, k, sr, hW, k1, k2, k3, _⟩ => k3 gg σ H env ⟨rfl, .refl _ _⟩ (sr.wk hw) hW
        · cases hc
      · cases hc
    · cases hm
  | .mut x p m e, st, ΓL, Γ, r, hm, hc => by
    unfold mS at hm
    split at hm
    · rename_i v pos
      simp only [cS] at hc
      split at hc
      · rename_i tx u A hx hE0
        split at hc
        · rename_i t hpl
          split at hc
          · rename_i j hmu
            split at hc
            · rename_i hcond
              simp only [Bool.and_eq_true, decide_eq_true_eq] at hcond
              obtain ⟨⟨hf, hA⟩, hok⟩ := hcond
              cases hc
              constructor
              intro pins s σ H D I hW
              have key := fun hl => mut_ok (rt := rt) g (D := D) (σ := σ) (H := H) hx hE0 hpl hmu hA hok hl hW
              have k1 : ∀ {id : String} {nm : Str} {rr : V → List V → Hp → VK → Prop} {o y : Expr}, nm = nmMu m → asM1 nm v = some (o, y) → mPl N (names G) x p sc o = true → mE N (names G) false e sc y = true → Slot "list" nm id → typeOf (.builtin id) = pure (.type "method_descriptor") → MtR X id rr → (∀ w y H Q, muR m w y H Q → rr w [y] H fun _ H => Q H) →
                  wpAny (model X.prog X.w) X.A (exec (.Expr v pos) X.env) (SP X pins D) X.xe s := by
                intro id nm rr o y _ sh ho hy hs ht hr i
                obtain ⟨ap, pos', rfl, rb, ln, pl⟩ := asM1_of sh
                obtain ⟨L, v0, hσ, hP⟩ := key (mPl_len ho)
                refine (ps_expr (pe_bm PySem.F.plainAttrs_list hs ht hr (mPl_pe g (L := L) ho hok) (pa_cons (sE e g (Γ := Γ) (L := L) hy hE0) pa_nil (plain_star pl)) (recv_of rb) (by rw [plain_star pl] <;> rfl) ln (plain_star pl)) rfl).run pins s σ H D I ?_
                refine ⟨v0, hσ, plR_mono hP fun w H1 ⟨q1, q2⟩ => ⟨by rw [g.hK]; exact q1, tS_mon _ _ _ _ (fun y H2 z => i _ _ _ _ z) q2⟩⟩
              have k0 : ∀ {id : String} {nm : Str} {rr : V → List V → Hp → VK → Prop} {o : Expr}, asM0 nm v = some o → mPl N (names G) x p sc o = true → e = .non → Slot "list" nm id → typeOf (.builtin id) = pure (.type "method_descriptor") → MtR X id rr → (∀ w H Q, muR m w .non H Q → rr w [] H fun _ H => Q H) →
                  wpAny (model X.prog X.w) X.A (exec (.Expr v pos) X.env) (SP X pins D) X.xe s := by
                intro id nm rr o sh ho he hs ht hr i
                obtain ⟨ap, pos', rfl, rb, ln⟩ := asM0_of sh
                obtain ⟨L, v0, hσ, hP⟩ := key (mPl_len ho)
                subst he
                refine (ps_expr (pe_bm0 PySem.F.plainAttrs_list hs ht hr (mPl_pe g (L := L) ho hok) (recv_of rb) ln) rfl).run pins s σ H D I ?_
                refine ⟨v0, hσ, plR_mono hP fun w H1 ⟨q1, q2⟩ => ⟨by rw [g.hK]; exact q1, i _ _ _ ?_⟩⟩
                obtain ⟨env, Q, er, hE, kk⟩ := q2
                unfold E at hE
                exact kk _ _ _ (Same.refl _) ⟨[], .nil, fun _ z => absurd z (by simp), ReT.le (t := .im) (by unfold cE at hE0; cases hE0; rfl) (.bo rfl .non)⟩ hE
              cases m with
              | app =>
                dsimp only at hm
                split at hm
                · rename_i o y sh
                  rw [Bool.and_eq_true] at hm
                  exact k1 rfl sh hm.1 hm.2 PySem.F.slot_list_append PySem.F.type_list_append mt_append fun w y H Q ⟨l, xs, e1, e2, e3, q⟩ => ⟨l, xs, y, e1, rfl, e2, e3, q⟩
                · cases hm
              | ext =>
                dsimp only at hm
                split at hm
                · rename_i o y sh
                  rw [Bool.and_eq_true] at hm
                  exact k1 rfl sh hm.1 hm.2 PySem.F.slot_list_extend PySem.F.type_list_extend mt_extA fun w y H Q ⟨l, b, xs, zs, e1, e2, e3, e4, e5, q⟩ => ⟨l, b, xs, zs, e1, by rw [e2], e3, e4, e5, q⟩
                · cases hm
              | rev =>
                dsimp only at hm
                split at hm
                · rename_i o sh
                  exact k0 sh hm rfl PySem.F.slot_list_reverse PySem.F.type_list_reverse mt_reverse fun w H Q ⟨l, xs, e1, e2, q⟩ => ⟨l, xs, e1, rfl, e2, q⟩
                · cases hm
              | clr =>
                dsimp only at hm
                split at hm
                · rename_i o sh
                  exact k0 sh hm rfl PySem.F.slot_list_clear PySem.F.type_list_clear mt_clear fun w H Q ⟨l, xs, e1, e2, q⟩ => ⟨l, xs, e1, rfl, e2, q⟩
                · cases hm
              | popD =>
                dsimp only at hm
                split at hm
                · rename_i o sh
                  exact k0 sh hm rfl PySem.F.slot_list_pop PySem.F.type_list_pop mt_pop fun w H Q ⟨l, xs, z, e1, e2, e3, q⟩ => ⟨l, xs, z, e1, rfl, e2, e3, q⟩
                · cases hm
            · cases hc
          · cases hc
        · cases hc
      · cases hc
    · cases hm
  | .unp is e, st, ΓL, Γ, r, hm, hc => by
    unfold mS at hm
    split at hm
    · rename_i t v pos
      simp only [Bool.and_eq_true] at hm
      obtain ⟨⟨⟨h1, h2⟩, h3⟩, h4⟩ := hm
      simp only [cS] at hc
      split at hc
      · rename_i t0 A hcE
        split at hc
        · rename_i hf
          cases hc
          cases t with
          | Tuple nxs nk np =>
            have hg : mG.go N is sc nxs = true := h1
            obtain ⟨pg, pl, pf⟩ := pg_names g.hN g.nd (g.locP fc) hg
            constructor
            intro pins s σ H D I ⟨Nz, H0, env, k', ⟨Fs, h⟩, hW, k1, _⟩
            have hsw : swappedStores [.Tuple nxs nk np] v X.env = pure none := by cases v <;> first | rfl | cases h3
            refine (ps_asg (sE e g (Γ := Γ) (L := Lof Nz H0 H Fs) h4 hcE) (pg_tup g.calm pg pl pf) (no_swapS h2) hsw rfl).run pins s σ H D I ⟨env, _, h.er, hW, fun v' H' d s' rs q => ?_⟩
            cases d <;> try exact q.elim
            rename_i ds
            have rb := rs.bor (Same.refl _)
            obtain ⟨a, vs, rfl, hq, pp⟩ := repB_tup (flat_bor t0) rb
            obtain ⟨Gs, g1, hs⟩ := (h.mono s').frzA (refl_of hf) A
            refine ⟨a, vs, rfl, by rw [g.hK]; exact hq, by rw [pair_len pp]; exact q.1, ?_⟩
            refine SRF.items hs (el_flat0 (flat_bor t0)) pp (fun b z => ?_) q.1 fun σ' f' sr' => k1 _ _ _ _ ⟨rfl, f'⟩ sr' q.2
            rcases z with ⟨i, hi, w, _⟩ | w
            · rcases w with w | w
              · exact ⟨.inr (h.own i b w).1, fun j z => by
                  obtain ⟨z1, z2⟩ := g1 j b z
                  exact h.dj i j (fun e => z2 (e ▸ hi)) b w z1⟩
              · exact ⟨w.1, fun j z => w.2 j (g1 j b z).1⟩
            · exact ⟨.inr (h.same.free w), fun j z => box_some (h.own j b (g1 j b z).1).2 w⟩
          | _ => cases h1
        · cases hc
      · cases hc
    · cases hm
  | .augn i p e, st, ΓL, Γ, r, hm, hc => by
    unfold mS at hm
    split at hm
    · rename_i x xp op v pos
      simp only [Bool.and_eq_true, decide_eq_true_eq] at hm
      obtain ⟨⟨⟨⟨hN, hl⟩, hop⟩, hp⟩, he⟩ := hm
      obtain ⟨l, f⟩ := g.locP fc _ hl
      simp only [cS] at hc
      split at hc
      · rename_i rr hcE
        obtain ⟨t0, A⟩ := rr
        cases hc
        constructor
        intro pins s σ H D I ⟨Nz, H0, env, k', ⟨Fs, h⟩, hW, k1, _⟩
        unfold W at hW
        obtain ⟨d, hd, hW⟩ := at_some hW
        obtain ⟨w, tw, hσ, hΓ, rw0⟩ := h.get i d hd
        have hwb := rw0.bor.rep
        have hip : ∃ r : R2, PIp X op r ∧ ∀ d2 w y H (Q : VK) (Qd : Pv.D → Prop) (Nn : Addr → Prop), Rep G.K G.cls Nn H w d → Rep G.K G.cls Nn H y d2 → augW p d d2 Qd → (∀ v' d', Rep G.K G.cls N0 H v' d' → Qd d' → Q v' H) → r w y H Q := by
          rcases hp with rfl | rfl
          · cases hop
            refine ⟨_, iop_add.or iop_add_str, fun d2 w y H Q Qd Nn h1 h2 ha kk => ?_⟩
            cases d <;> cases d2 <;> try exact ha.elim
            · obtain rfl := rep_int h1
              obtain rfl := rep_int h2
              exact .inl ⟨_, _, rfl, rfl, kk _ _ (.int _) ha⟩
            · obtain rfl := rep_str h1
              obtain rfl := rep_str h2
              exact .inr ⟨_, _, rfl, rfl, ha.1, kk _ _ (.str _) ha.2⟩
          · cases hop
            refine ⟨_, iop_sub, fun d2 w y H Q Qd Nn h1 h2 ha kk => ?_⟩
            cases d <;> cases d2 <;> try exact ha.elim
            obtain rfl := rep_int h1
            obtain rfl := rep_int h2
            exact ⟨_, _, rfl, rfl, kk _ _ (.int _) ha⟩
        obtain ⟨rr, hr, i2⟩ := hip
        refine (ps_aug (by rw [g.hN]; exact g.nd) (by rw [g.hN]; exact hN) l (sE e g (Γ := Γ) (L := Lof Nz H0 H Fs) he hcE) hr f).run pins s σ H D I ⟨w, hσ, env, _, h.er, hW, fun y H1 d2 s1 rs ha => ?_⟩
        refine i2 d2 w y H1 _ _ (fun _ => True) ((hwb.mono s1 fun _ _ => trivial)) ((rs.bor (Same.refl _)).rep.mono (Same.refl _) fun _ _ => trivial) ha fun v' d' r' q => ?_
        have := h.storeR (x := i) (t := .im) (A := []) s1 (RS.im r')
        rw [frz_nil] at this
        exact k1 _ _ _ _ ⟨rfl, .set (by simp [wr])⟩ this q
      · cases hc
    · cases hm
  | .appm x p y, st, ΓL, Γ, r, hm, hc => by
    unfold mS at hm
    split at hm
    · rename_i v pos
      split at hm
      · rename_i o z sh
        rw [Bool.and_eq_true] at hm
        obtain ⟨ho, hz⟩ := hm
        obtain ⟨ap, pos', rfl, rb, ln, pl⟩ := asM1_of sh
        simp only [cS] at hc
        split at hc
        · rename_i tx u hx hy
          split at hc
          · rename_i t hpl
            split at hc
            · rename_i hcond
              simp only [Bool.and_eq_true, decide_eq_true_eq] at hcond
              obtain ⟨⟨⟨le, lu⟩, xy⟩, hok⟩ := hcond
              cases hc
              constructor
              intro pins s σ H D I ⟨Nz, H0, env, k', ⟨Fs, h⟩, hW, k1, _⟩
              unfold W at hW
              obtain ⟨d, hd, hW⟩ := at_some hW
              obtain ⟨dz, hdz, hW⟩ := at_some hW
              obtain ⟨v, _, hσ, _, _⟩ := h.get x d hd
              refine (ps_expr (pe_bm PySem.F.plainAttrs_list PySem.F.slot_list_append PySem.F.type_list_append mt_append (mPl_pe g (L := Lof Nz H0 H Fs) ho hok) (pa_cons (var_pe g hz) pa_nil (plain_star pl)) (recv_of rb) (by rw [plain_star pl] <;> rfl) ln (plain_star pl)) rfl).run pins s σ H D I ?_
              refine ⟨v, hσ, pl_run hok (mPl_len ho) h.er hW fun is hu his => ?_⟩
              rw [← his] at hpl k1
              obtain ⟨v', w, p0, vs, ds, Gd, Q', e1, e2, nav, hp0, rs, nd, hpx, hpG, hG, ⟨_, hq⟩, reb⟩ := h.writeM (fun d Q z => isL_some z.1) xy hx hy hd hdz hpl hu
              rw [hσ] at e1
              cases e1
              refine ⟨_, nav, fun H2 s2 => ⟨.inl ⟨rfl, vs, .inl (.inl (s2 _ _ hp0))⟩, w, e2, p0, vs, w, rfl, rfl, s2 _ _ hp0, by rw [rs.len]; exact hq.1, ?_⟩⟩
              obtain ⟨d', sr, q'⟩ := reb s2 le lu (fun a b => ⟨_, ReTs.app a b, .refl _⟩) hq.2
              exact k1 _ _ _ _ ⟨rfl, .refl _ _⟩ sr q'
            · cases hc
          · cases hc
        · cases hc
      · cases hm
    · cases hm
  | .insm x i y, st, ΓL, Γ, r, hm, hc => by
    unfold mS at hm
    split at hm
    · rename_i v pos
      split at hm
      · rename_i o j z sh
        simp only [Bool.and_eq_true] at hm
        obtain ⟨⟨ho, hj⟩, hz⟩ := hm
        obtain ⟨ap, pos', rfl, rb, ln, pl, pl2⟩ := asM2_of sh
        simp only [cS] at hc
        split at hc
        · rename_i t u hx hy
          split at hc
          · rename_i hcond
            simp only [Bool.and_eq_true, decide_eq_true_eq] at hcond
            obtain ⟨⟨⟨le, lu⟩, xy⟩, hok⟩ := hcond
            cases hc
            cases hci : cE G.fns false Γ i with
            | none => simp [okS, hci] at hok
            | some ri =>
              obtain ⟨ti, Ai⟩ := ri
              constructor
              intro pins s σ H D I ⟨Nz, H0, env, k', ⟨Fs, h⟩, hW, k1, _⟩
              unfold W at hW
              obtain ⟨d, hd, hW⟩ := at_some hW
              obtain ⟨dz, hdz, hW⟩ := at_some hW
              obtain ⟨v, w, p0, vs, ds, Gd, Q', e1, e2, nav, hp0, rs, nd, hpx, hpG, hG, ⟨_, hE⟩, reb⟩ := h.writeM (f := fun d0 Q => isL d0 ∧ E (Cw (FTof G.fns) k) i env fun j => insW d0 j dz Q) (is := []) (fun d Q z => isL_some z.1) xy hx hy hd hdz (show plT 0 (.ow t) = some t from rfl) hW
              cases nav
              refine (ps_expr (pe_bm PySem.F.plainAttrs_list PySem.F.slot_list_insert PySem.F.type_list_insert mt_insert (var_pe g ho) (pa_cons (sE i g (Γ := Γ) (L := Lof Nz H0 H Fs) hj hci) (pa_cons (var_pe g hz) pa_nil (plain_star pl2)) (plain_star pl)) (recv_of rb) (by rw [plain_star pl, plain_star pl2] <;> rfl) ln (plain_star pl) (by rw [plain_star pl2] <;> rfl)) rfl).run pins s σ H D I ?_
              refine ⟨_, e1, .inl ⟨rfl, vs, .inl (.inl hp0)⟩, env, _, h.er, hE, fun jv H2 dj s2 rsj hq => ⟨w, e2, ?_⟩⟩
              cases dj <;> try exact hq.elim
              rename_i n
              obtain rfl := rep_int (rsj.bor (Same.refl _)).rep
              obtain ⟨q1, q2, q3, q4⟩ := hq
              refine ⟨p0, vs, n, w, rfl, rfl, s2 _ _ hp0, by rw [rs.len]; exact q1, q2, q3, ?_⟩
              obtain ⟨d', sr, q'⟩ := reb s2 le lu (fun a b => ReTs.ins n.toNat a b) q4
              exact k1 _ _ _ _ ⟨rfl, .refl _ _⟩ sr q'
          · cases hc
        · cases hc
      · cases hm
    · cases hm
  | .popTo y x i, st, ΓL, Γ, r, hm, hc => by
    unfold mS at hm
    split at hm
    · rename_i nz zp v sp
      simp only [Bool.and_eq_true, decide_eq_true_eq] at hm
      obtain ⟨⟨hN, hl⟩, hm⟩ := hm
      obtain ⟨l, f⟩ := g.locP fc _ hl
      simp only [cS] at hc
      split at hc
      · rename_i t hx
        split at hc
        · rename_i hcond
          simp only [Bool.and_eq_true, decide_eq_true_eq] at hcond
          obtain ⟨xy, hok⟩ := hcond
          cases hc
          cases i with
          | none =>
            dsimp only at hm
            split at hm
            · rename_i o sh
              obtain ⟨ap, pos', rfl, rb, ln⟩ := asM0_of sh
              constructor
              intro pins s σ H D I ⟨Nz, H0, env, k', ⟨Fs, h⟩, hW, k1, _⟩
              unfold W at hW
              obtain ⟨d, hd, hW⟩ := at_some hW
              cases d <;> try exact hW.elim
              rename_i ds
              obtain ⟨v, p, vs, Gd, e1, rfl, hp0, rs, reb⟩ := h.take xy hx hd
              obtain ⟨z, hz, hk⟩ := hW
              obtain ⟨w, _, _, hw, _⟩ := rs.last hz
              refine (ps_set (by rw [g.hN]; exact g.nd) (by rw [g.hN]; exact hN) l (pe_bm0 PySem.F.plainAttrs_list PySem.F.slot_list_pop PySem.F.type_list_pop mt_pop (var_pe g hm) (recv_of rb) ln) rfl f).run pins s σ H D I ?_
              refine ⟨_, e1, .inl ⟨rfl, vs, .inl (.inl hp0)⟩, p, vs, w, rfl, rfl, hp0, hw, ?_⟩
              refine k1 _ _ _ _ ⟨rfl, .set (by simp [wr])⟩ (reb (Same.refl _) fun {N' H'} a => ?_) hk
              obtain ⟨w', F1, F2, h1, h2, h3, h4⟩ := a.last hz
              rw [hw] at h1
              cases h1
              exact ⟨F1, F2, h3, h4, by rw [h2]⟩
            · cases hm
          | some i =>
            dsimp only at hm
            split at hm
            · rename_i o j sh
              rw [Bool.and_eq_true] at hm
              obtain ⟨ap, pos', rfl, rb, ln, pl⟩ := asM1_of sh
              cases hci : cE G.fns false Γ i with
              | none => simp [okS, hci] at hok
              | some ri =>
                obtain ⟨ti, Ai⟩ := ri
                constructor
                intro pins s σ H D I ⟨Nz, H0, env, k', ⟨Fs, h⟩, hW, k1, _⟩
                unfold W at hW
                obtain ⟨d, hd, hL, hW⟩ := at_some hW
                obtain ⟨ds, rfl⟩ := isL_some hL
                obtain ⟨v, p, vs, Gd, e1, rfl, hp0, rs, reb⟩ := h.take xy hx hd
                refine (ps_set (by rw [g.hN]; exact g.nd) (by rw [g.hN]; exact hN) l (pe_bm PySem.F.plainAttrs_list PySem.F.slot_list_pop PySem.F.type_list_pop mt_popAt (var_pe g hm.1) (pa_cons (sE i g (Γ := Γ) (L := Lof Nz H0 H Fs) hm.2 hci) pa_nil (plain_star pl)) (recv_of rb) (by rw [plain_star pl] <;> rfl) ln (plain_star pl)) rfl f).run pins s σ H D I ?_
                refine ⟨_, e1, .inl ⟨rfl, vs, .inl (.inl hp0)⟩, env, _, h.er, hW, fun jv H2 dj s2 rsj hq => ?_⟩
                cases dj <;> try exact hq.elim
                rename_i n
                obtain rfl := rep_int (rsj.bor (Same.refl _)).rep
                obtain ⟨q1, q2, jn, z, hj, hz, hk⟩ := hq
                obtain ⟨w, _, _, hw, _⟩ := rs.erase hz
                refine ⟨p, vs, n, jn, w, rfl, rfl, s2 _ _ hp0, q1, q2, by rw [rs.len]; exact hj, hw, ?_⟩
                refine k1 _ _ _ _ ⟨rfl, .set (by simp [wr])⟩ (reb s2 fun {N' H'} a => ?_) hk
                obtain ⟨w', F1, F2, h1, h2, h3, h4⟩ := a.erase hz
                rw [hw] at h1
                cases h1
                exact ⟨F1, F2, h3, h4, (List.perm_append_comm.trans h2.symm)⟩
            · cases hm
        · cases hc
      · cases hc
    · cases hm
  | .sto x p i e, st, ΓL, Γ, r, hm, hc => by
    unfold mS at hm
    split at hm
    · rename_i o ij sp v pos
      simp only [Bool.and_eq_true] at hm
      obtain ⟨⟨⟨⟨hn, hpj⟩, ho⟩, hi⟩, hev⟩ := hm
      simp only [cS] at hc
      split at hc
      · rename_i tx u A hx hE0
        split at hc
        · rename_i t hpl
          split at hc
          · rename_i j b hins
            split at hc
            · rename_i hcond
              simp only [Bool.and_eq_true, decide_eq_true_eq] at hcond
              obtain ⟨⟨hf, hA⟩, hok2⟩ := hcond
              have hok : okS G.fns Γ p = true := by simp only [okS, List.all_cons, Bool.and_eq_true] at hok2; exact hok2.2
              cases hci : cE G.fns false Γ i with
              | none => simp [okS, hci] at hok2
              | some ri =>
                obtain ⟨ti, Ai⟩ := ri
                cases hc
                constructor
                intro pins s σ H D I ⟨Nz, H0, env, k', ⟨Fs, h⟩, hW, k1, _⟩
                unfold W at hW
                have hpg := pg_sub (pos := sp) (mPl_pe g (Γ := Γ) (L := Lof Nz H0 H Fs) ho hok) (sE i g (Γ := Γ) (L := Lof Nz H0 H Fs) hi hci) set_list (by intro _; cases ij <;> first | rfl | cases hpj)
                refine (ps_asg (sE e g (Γ := Γ) (L := Lof Nz H0 H Fs) hev hE0) hpg no_swapSub (by cases v <;> rfl) rfl).run pins s σ H D I ⟨env, _, h.er, hW, fun yv H1 dy s1 rsv hW1 => ?_⟩
                obtain ⟨d, hd, hW2⟩ := at_some hW1
                obtain ⟨v0, _, hσ, _, _⟩ := h.get x d hd
                refine ⟨v0, hσ, pl_run hok (mPl_len ho) (h.er.mono s1) hW2 fun is hu his => ?_⟩
                rw [← his] at hpl k1
                obtain ⟨v', p0, vs, ds, Gd, Q', e1, nav, hp0, rs, nd, hpx, hpG, hG, ⟨_, hEi⟩, reb⟩ := h.write (fun d Q z => isL_some z.1) hx hd hpl hu
                rw [hσ] at e1
                cases e1
                refine ⟨_, nav.mono s1, fun H2 s2 => ⟨env, _, h.er.mono (s1.trans s2), hEi, fun jv H3 dj s3 rsj hq => ?_⟩⟩
                cases dj <;> try exact hq.elim
                rename_i n
                obtain rfl := rep_int (rsj.bor (Same.refl _)).rep
                obtain ⟨jn, hjn, hq⟩ := hq
                have sH3 : Same H H3 := (s1.trans s2).trans s3
                have s13 : Same H1 H3 := s2.trans s3
                have rsv' : RS G.K G.cls (Lof Nz H0 H Fs) H H3 u A yv dy := by
                  obtain ⟨F, nd, fr, r⟩ := rsv
                  exact ⟨F, nd, fr, r.mono s13 fun _ z => z⟩
                obtain ⟨le, F1, nd1, fr1, bx1, rv⟩ := h.put (p := p0) hins hpx hA (Same.refl _) sH3 rsv'
                have hjl : jn < ds.length := ixN_lt hjn
                refine ⟨p0, vs, n, jn, rfl, rfl, sH3 _ _ hp0, by rw [rs.len]; exact hjn, ?_⟩
                have conv : ∀ {v : V} {d : Pv.D} {F : List Addr}, ReT G.K G.cls (fun a => ((Nz a ∨ H0 a = none) ∧ ∀ j, a ∉ Fs j) ∧ H a ≠ none) H t v d F → (∀ a ∈ F, a ∈ Gd) → ReT G.K G.cls (Nw Nz H0 Fs A F1) (upd H3 p0 (.lst (vs.set jn yv))) j v d F := fun r hs =>
                  h.oldEl hpx sH3 fr1 le (fun z => hpG (hs _ z)) r
                obtain ⟨w, F1a, F2a, F3a, e2, eG, r2, kk⟩ := rs.at (i := jn) (d := ds[jn]) (by simp [hjl])
                have rnew := kk (fun r hs => conv r fun a z => by rw [eG]; rcases hs a z with q | q <;> simp [q]) (rv (.lst (vs.set jn yv)))
                have hG' : ∀ a ∈ F1a ++ (F1 ++ F3a), a ∈ Gd ∨ a ∈ F1 := fun a z => by
                  rw [eG]
                  rcases List.mem_append.mp z with z | z
                  · exact .inl (by simp [z])
                  · rcases List.mem_append.mp z with z | z
                    · exact .inr z
                    · exact .inl (by simp [z])
                have nd' : (F1a ++ (F1 ++ F3a)).Nodup := by
                  rw [eG] at nd
                  obtain ⟨n1, n23, n1_23⟩ := List.nodup_append.mp nd
                  obtain ⟨n2, n3, n2_3⟩ := List.nodup_append.mp n23
                  have bxG : ∀ a ∈ Gd, H a ≠ none := fun a z => box_some (rs.box a z)
                  refine List.nodup_append.mpr ⟨n1, List.nodup_append.mpr ⟨nd1, n3, fun a ha b hb e => ?_⟩, fun a ha b hb e => ?_⟩
                  · subst e
                    exact bxG a (by rw [eG]; simp [hb]) (fr1 a ha)
                  · subst e
                    rcases List.mem_append.mp hb with z | z
                    · exact bxG a (by rw [eG]; simp [ha]) (fr1 a z)
                    · exact n1_23 a ha a (by simp [z]) rfl
                have hpn : p0 ∉ F1a ++ (F1 ++ F3a) := fun z => by
                  rcases hG' _ z with z | z
                  · exact hpG z
                  · have := fr1 _ z
                    rw [hp0] at this
                    cases this
                obtain ⟨d', sr, q'⟩ := reb sH3 hA fr1 le rnew nd' hG' hpn hq
                exact k1 _ _ _ _ ⟨rfl, .refl _ _⟩ sr q'
            · cases hc
          · cases hc
        · cases hc
      · cases hc
    · cases hm
  | .aug x p i o e, st, ΓL, Γ, r, hm, hc => by
    unfold mS at hm
    split at hm
    · rename_i ob ij sp op v pos
      simp only [Bool.and_eq_true, decide_eq_true_eq] at hm
      obtain ⟨⟨⟨⟨⟨hpj, ho⟩, hi⟩, hev⟩, hop⟩, hoo⟩ := hm
      simp only [cS] at hc
      split at hc
      · rename_i tx re hx hE0
        obtain ⟨u, A⟩ := re
        split at hc
        · rename_i t hpl
          split at hc
          · rename_i hcond
            simp only [Bool.and_eq_true] at hcond
            obtain ⟨⟨⟨hf, let0⟩, leim⟩, hok2⟩ := hcond
            have hok : okS G.fns Γ p = true := by simp only [okS, List.all_cons, Bool.and_eq_true] at hok2; exact hok2.2
            cases hci : cE G.fns false Γ i with
            | none => simp [okS, hci] at hok2
            | some ri =>
              obtain ⟨ti, Ai⟩ := ri
              cases hc
              constructor
              intro pins s σ H D I ⟨Nz, H0, env, k', ⟨Fs, h⟩, hW, k1, _⟩
              unfold W at hW
              obtain ⟨d, hd, hW⟩ := at_some hW
              obtain ⟨v0, _, hσ, _, _⟩ := h.get x d hd
              have hip : ∃ r : R2, PIp X op r ∧ ∀ d d2 w y H (Q : VK) (Qd : Pv.D → Prop) (Nn : Addr → Prop), Rep G.K G.cls Nn H w d → Rep G.K G.cls Nn H y d2 → augW o d d2 Qd → (∀ v' d', Rep G.K G.cls N0 H v' d' → Qd d' → Q v' H) → r w y H Q := by
                rcases hoo with rfl | rfl
                · cases hop
                  refine ⟨_, iop_add.or iop_add_str, fun d d2 w y H Q Qd Nn h1 h2 ha kk => ?_⟩
                  cases d <;> cases d2 <;> try exact ha.elim
                  · obtain rfl := rep_int h1
                    obtain rfl := rep_int h2
                    exact .inl ⟨_, _, rfl, rfl, kk _ _ (.int _) ha⟩
                  · obtain rfl := rep_str h1
                    obtain rfl := rep_str h2
                    exact .inr ⟨_, _, rfl, rfl, ha.1, kk _ _ (.str _) ha.2⟩
                · cases hop
                  refine ⟨_, iop_sub, fun d d2 w y H Q Qd Nn h1 h2 ha kk => ?_⟩
                  cases d <;> cases d2 <;> try exact ha.elim
                  obtain rfl := rep_int h1
                  obtain rfl := rep_int h2
                  exact ⟨_, _, rfl, rfl, kk _ _ (.int _) ha⟩
              obtain ⟨rr, hr, i2⟩ := hip
              refine (ps_augS (tpos := sp) (mPl_pe g (Γ := Γ) (L := Lof Nz H0 H Fs) ho hok) (sE i g (Γ := Γ) (L := Lof Nz H0 H Fs) hi hci) get_list (sE e g (Γ := Γ) (L := Lof Nz H0 H Fs) hev hE0) hr set_list (by intro _ _ _; cases ij <;> first | rfl | cases hpj)).run pins s σ H D I ?_
              refine ⟨v0, hσ, pl_run hok (mPl_len ho) h.er hW fun is hu his => ?_⟩
              rw [← his] at hpl k1
              obtain ⟨v', p0, vs, ds, Gd, Q', e1, nav, hp0, rs, nd, hpx, hpG, hG, ⟨_, hEi⟩, reb⟩ := h.write (fun d Q z => isL_some z.1) hx hd hpl hu
              rw [hσ] at e1
              cases e1
              refine ⟨_, nav, fun H2 s2 => ⟨env, _, h.er.mono s2, hEi, fun jv H3 dj s3 rsj hq => ?_⟩⟩
              have s23 := s2.trans s3
              cases dj <;> try exact hq.elim
              rename_i n
              obtain rfl := rep_int (rsj.bor (Same.refl _)).rep
              obtain ⟨da, hda, hq⟩ := hq
              obtain ⟨jn, hjn, hdj⟩ : ∃ jn, ixN ds.length n = some jn ∧ ds[jn]? = some da := by
                unfold atI at hda
                cases hq0 : ixN ds.length n with
                | none => rw [hq0] at hda; cases hda
                | some jn => rw [hq0] at hda; exact ⟨jn, rfl, hda⟩
              obtain ⟨w, F1a, F2a, F3a, e2, eG, r2, kk⟩ := rs.at hdj
              refine ⟨p0, vs, n, w, rfl, rfl, by rw [g.hK]; exact .inl (.inl (s23 _ _ hp0)), by unfold atI; rw [rs.len, hjn]; exact e2, env, _, h.er.mono s23, hq, fun yv H4 dy s4 rsv ha => ?_⟩
              have s24 := s23.trans s4
              refine i2 da dy w yv H4 _ _ (fun _ => True) ((r2.bor.rep.mono s24 fun _ _ => trivial)) ((rsv.bor (Same.refl _)).rep.mono (Same.refl _) fun _ _ => trivial) ha fun v' d' r' q => ?_
              obtain ⟨j2, hj2, q⟩ : ∃ j2, ixN ds.length n = some j2 ∧ Q' (.lst (ds.set j2 d')) := q
              rw [hjn] at hj2
              cases hj2
              refine ⟨p0, vs, n, jn, rfl, rfl, s24 _ _ hp0, by rw [rs.len]; exact hjn, ?_⟩
              have hpb : Box (H4 p0) := box_same s24 (h.own x p0 hpx).2
              have cg : Chg [p0] H4 (upd H4 p0 (.lst (vs.set jn v'))) := by
                refine ⟨fun b u hb e => ?_, fun b hb => ?_⟩
                · rw [upd_ne (by simpa using hb)]
                  exact e
                · rw [List.mem_singleton.mp hb]
                  exact hpb
              have conv : ∀ {v : V} {d : Pv.D} {F : List Addr}, ReT G.K G.cls (fun a => ((Nz a ∨ H0 a = none) ∧ ∀ j, a ∉ Fs j) ∧ H a ≠ none) H t v d F → (∀ a ∈ F, a ∈ Gd) → ReT G.K G.cls (Nw Nz H0 Fs [] []) (upd H4 p0 (.lst (vs.set jn v'))) t v d F := fun r hs =>
                h.oldEl hpx s24 (fun _ z => absurd z (by simp)) let0 (fun z => hpG (hs _ z)) r
              have rnew := kk (fun r hs => conv r fun a z => by rw [eG]; rcases hs a z with q | q <;> simp [q]) (F2' := []) (w := v') (d' := d') (ReT.le leim (.bo rfl (Rep.chg cg (fun _ z => z.elim) (fun _ z => z) r')))
              have hG' : ∀ a ∈ F1a ++ ([] ++ F3a), a ∈ Gd := fun a z => by
                rw [eG]
                rcases List.mem_append.mp z with z | z
                · simp [z]
                · have z : a ∈ F3a := by simpa using z
                  simp [z]
              have nd' : (F1a ++ ([] ++ F3a)).Nodup := by
                rw [eG] at nd
                obtain ⟨n1, n23, n1_23⟩ := List.nodup_append.mp nd
                obtain ⟨n2, n3, n2_3⟩ := List.nodup_append.mp n23
                exact List.nodup_append.mpr ⟨n1, by simpa using n3, fun a ha b hb e => n1_23 a ha b (by simp only [List.nil_append] at hb; simp [hb]) e⟩
              obtain ⟨d'', sr, q'⟩ := reb (A := []) s24 (by simp) (fun _ z => absurd z (by simp)) let0 rnew nd' (fun a z => .inl (hG' a z)) (fun z => hpG (hG' _ z)) q
              rw [frz_nil] at sr
              exact k1 _ _ _ _ ⟨rfl, .refl _ _⟩ sr q'
          · cases hc
        · cases hc
      · cases hc
    · cases hm
  | .wkn x t, st, ΓL, Γ, r, hm, hc => by unfold mS at hm; cases hm
  | .dup _ _ _, st, ΓL, Γ, r, hm, hc => by unfold mS at hm; cases hm
  | .fol inv tg x b, st, ΓL, Γ, r, hm, hc => by
    unfold mS at hm
    split at hm
    · rename_i tgE itE bod pos
      simp only [Bool.and_eq_true] at hm
      simp only [cS] at hc
      split at hc
      · rename_i hw0
        simp only [Bool.and_eq_true, decide_eq_true_eq] at hw0
        obtain ⟨⟨⟨hwi, hfi⟩, hx⟩, hxw⟩ := hw0
        obtain ⟨rb, hb, rfl, hwb⟩ : ∃ rb, cS G.fns rt (some (ovr Γ inv)) (tgT tg .im (ovr Γ inv)) b = some rb ∧ r = some (ovr Γ inv) ∧ ∀ Γb, rb = some Γb → wkL Γb (ovr Γ inv) = true := by
          split at hc
          · rename_i h2; cases hc; exact ⟨_, h2, rfl, fun _ z => by cases z⟩
          · rename_i h2
            split at hc
            · rename_i h3; cases hc; exact ⟨_, h2, rfl, fun _ z => by cases z; exact h3⟩
            · cases hc
          · cases hc
        have hpl : plainB itE = true := by
          have h := hm.1.2
          unfold mE at h
          split at h
          · rfl
          · cases h
        generalize hΓi : ovr Γ inv = Γi at *
        constructor
        intro pins s σ H D I ⟨Nz, H0, env, k', sr, hW, k1, k2, k3, k4⟩
        simp only [W] at hW
        obtain ⟨n0, hW⟩ := hW
        have sr0 := sr.wk hwi
        have body := sSs g fc tk b (ΓL := some Γi) (Γ := tgT tg .im Γi) hm.2 hb
        have lst : ∀ {H' : Hp} {σ' : St} {env' : Env} {ds : List Pv.D}, SR G.K G.cls Nz Γi H0 H' σ' env' → env'[x]? = some (some (.lst ds)) → ∃ p vs, σ'[x]? = some (some (.ref p)) ∧ H' p = some (.lst vs) ∧ Paired (RepB G.K G.cls N0 H' .im) vs ds := by
          rintro H' σ' env' ds ⟨Fs, h⟩ hd
          obtain ⟨v1, t1, q1, q2, r1⟩ := h.get x _ hd
          rw [hx] at q2
          cases q2
          obtain ⟨p', vs', G', rfl, _, hp', rs'⟩ := r1.lst
          exact ⟨p', vs', q1, hp', pimp rs'.bor fun _ _ z => z⟩
        have loop : ∀ p, σ[x]? = some (some (.ref p)) → ∀ (gg : TG), (∀ v (d : Pv.D) σ (H1 : Hp) env' (Q : Env → Prop) (R : St → Hp → Prop), SR G.K G.cls Nz Γi H0 H1 σ env' → RepB G.K G.cls N0 H1 .im v d → Pv.G0 tg d env' Q → (∀ σ' env'', Fr (tgs tg) σ σ' → SR G.K G.cls Nz (tgT tg .im Γi) H0 H1 σ' env'' → Q env'' → R σ' H1) → gg v σ H1 R) →
            ∃ W' : Nat → Nat → St → Hp → Prop, (∃ m, W' 0 m σ H) ∧ ∀ i m σ H, W' i m σ H →
              ((Itl X.K p).stop i H ∧ D.nx σ H) ∨ ((Itl X.K p).go i H ∧ ∃ N' : St → Hp → Prop, (∀ σ' H', N' σ' H' → ∃ m', m' < m ∧ W' (i + 1) m' σ' H') ∧ ∀ v H', (Itl X.K p).yld i H v H' → gg v σ H' fun σ2 H2 => tSS G wx (Cw (FTof G.fns) k) rt (some Γi) (tgT tg .im Γi) rb b { D with nx := N', ct := N', bk := D.nx } σ2 H2) := by
          intro p hp gg hgg
          refine ⟨fun i m σ' H' => Fr (tgs tg ++ wr b) σ σ' ∧ ∃ env', SR G.K G.cls Nz Γi H0 H' σ' env' ∧ folW x (fun d env' nx => Pv.G0 tg d env' fun env2 => W (Cw (FTof G.fns) k) b { nx := nx, ct := nx, bk := k'.nx, rt := k'.rt, ex := k'.ex } env2) k'.nx m i env', ⟨n0, .refl _ _, env, sr0, hW⟩, ?_⟩
          rintro i m σ' H' ⟨fr0, env', sr', hq⟩
          cases m with
          | zero => exact hq.elim
          | succ m =>
            simp only [folW] at hq
            obtain ⟨d, hd, ds, rfl, hq⟩ := at_some hq
            obtain ⟨p', vs, q1, hp', pp⟩ := lst sr' hd
            rw [fr0 x hxw, hp] at q1
            cases q1
            have hlen := pair_len pp
            cases q : ds[i]? with
            | none =>
              rw [q] at hq
              have : ds.length ≤ i := by simpa using q
              exact .inl ⟨⟨vs, .inl (.inl hp'), by omega⟩, k1 _ _ _ _ ⟨rfl, fr0⟩ sr' hq⟩
            | some y =>
              rw [q] at hq
              have hi : i < ds.length := (List.getElem?_eq_some_iff.mp q).1
              refine .inr ⟨⟨vs, vs[i]'(by omega), .inl (.inl hp'), List.getElem?_eq_getElem _⟩, fun σ2 H2 => Fr (tgs tg ++ wr b) σ σ2 ∧ ∃ env', SR G.K G.cls Nz Γi H0 H2 σ2 env' ∧ folW x (fun d env' nx => Pv.G0 tg d env' fun env2 => W (Cw (FTof G.fns) k) b { nx := nx, ct := nx, bk := k'.nx, rt := k'.rt, ex := k'.ex } env2) k'.nx m (i + 1) env', fun σ2 H2 z => ⟨m, Nat.lt_succ_self m, z⟩, ?_⟩
              rintro w H2 ⟨rfl, hw⟩
              have hw := hw _ (.inl (.inl hp'))
              obtain ⟨w', e1, rw'⟩ := pair_get pp q
              rw [hw] at e1
              cases e1
              refine hgg w y σ' H2 env' _ _ sr' rw' hq fun σ2 env2 fr2 sr2 hw2 => ?_
              have fr2' : Fr (tgs tg ++ wr b) σ σ2 := fr0.trans (fr2.sub fun i z => by simp [z])
              refine ⟨_, _, env2, _, sr2, hw2, fun Γ' σ3 H3 env3 e sr3 q3 => ⟨fr2'.trans (e.2.sub fun i z => by simp [z]), env3, sr3.wk (hwb Γ' e.1), q3⟩, fun Γ' σ3 H3 env3 e sr3 q3 => ?_, fun Γ' σ3 H3 env3 e sr3 q3 => ?_, k4⟩
              · obtain ⟨e, fe⟩ := e
                cases e
                exact k1 _ _ _ _ ⟨rfl, fr2'.trans (fe.sub fun i z => by simp [z])⟩ sr3 q3
              · obtain ⟨e, fe⟩ := e
                cases e
                exact ⟨fr2'.trans (fe.sub fun i z => by simp [z]), env3, sr3, q3⟩
        obtain ⟨p, vs, q1, hp, _⟩ : ∃ p vs, σ[x]? = some (some (.ref p)) ∧ H p = some (.lst vs) ∧ True := by
          cases n0 with
          | zero => exact hW.elim
          | succ n =>
            simp only [folW] at hW
            obtain ⟨d, hd, ds, rfl, _⟩ := at_some hW
            obtain ⟨p, vs, q1, q2, _⟩ := lst sr0 hd
            exact ⟨p, vs, q1, q2, trivial⟩
        have nN : ∀ {Fs : Nat → List Addr}, ∀ a, N0 a → (Nz a ∨ H0 a = none) ∧ ∀ j, a ∉ Fs j := fun a z => z.elim
        cases tg with
        | nm i =>
          have hg := hm.1.1
          cases tgE with
          | Name nx np =>
            have hg : (decide (N[i]? = some nx) && locB sc nx) = true := hg
            simp only [Bool.and_eq_true, decide_eq_true_eq] at hg
            obtain ⟨l, f⟩ := g.locP fc _ hg.2
            refine (ps_for g.nv g.calm (pi_any (var_pe g hm.1.2)) (pg_name (by rw [g.hN]; exact g.nd) (by rw [g.hN]; exact hg.1) l f) body (plain_fold hpl)).run pins s σ H D I ⟨.ref p, q1, .inl ⟨p, vs, rfl, .inl (.inl hp), ?_⟩⟩
            refine loop p q1 (gName i) fun v d σ H1 env' Q R sr it hG hk => ?_
            obtain ⟨F, f⟩ := sr
            obtain ⟨Gs, _, g'⟩ := f.item (i := i) (Same.refl _) rfl it nN
            exact hk _ _ (.set (by simp [tgs])) ⟨Gs, g'⟩ hG
          | _ => cases hg
        | tp is =>
          have hg := hm.1.1
          cases tgE with
          | Tuple nxs nk np =>
            have hg : mG.go N is sc nxs = true := hg
            obtain ⟨pg, pl, pf⟩ := pg_names g.hN g.nd (g.locP fc) hg
            refine (ps_for g.nv g.calm (pi_any (var_pe g hm.1.2)) (pg_tup g.calm pg pl pf) body (plain_fold hpl)).run pins s σ H D I ⟨.ref p, q1, .inl ⟨p, vs, rfl, .inl (.inl hp), ?_⟩⟩
            refine loop p q1 _ fun v d σ H1 env' Q R sr it hG hk => ?_
            cases d <;> try exact hG.elim
            rename_i ds
            obtain ⟨a, vs, rfl, hq, pp⟩ := repB_tup (t := .im) rfl it
            refine ⟨a, vs, rfl, by rw [g.hK]; exact hq, by rw [pair_len pp]; exact hG.1, ?_⟩
            obtain ⟨F, f⟩ := sr
            exact SRF.items f rfl pp nN hG.1 fun σ' f' sr' => hk _ _ f' sr' hG.2
          | _ => cases hg
      · cases hc
    · cases hm
  | .fom x y m e, st, ΓL, Γ, r, hm, hc => by
    unfold mS at hm
    split at hm
    · rename_i nx np o v ep pos
      simp only [Bool.and_eq_true, decide_eq_true_eq] at hm
      obtain ⟨⟨⟨hN, hl⟩, hx0⟩, hmm⟩ := hm
      obtain ⟨l, f⟩ := g.locP fc _ hl
      have hpl : plainB o = true := by
        unfold mE at hx0
        split at hx0
        · rfl
        · cases hx0
      simp only [cS] at hc
      split at hc
      · rename_i t u A hx hE0
        split at hc
        · rename_i hA
          obtain ⟨rfl, xy⟩ := hA
          split at hc
          · rename_i j hmu
            split at hc
            · rename_i hj
              obtain ⟨rfl, hrf⟩ := hj
              cases hc
              have body : PS X (.Expr v ep) (fun D σ H => ∃ L w, σ[y]? = some (some w) ∧ tyV G.K "list" w H ∧ tS G (Cw (FTof G.fns) k) Γ L e u [] σ H fun z H3 => muR m w z H3 (D.nx σ)) := by
                constructor
                intro pins s σ H D I ⟨L, w, hw, ty, q2⟩
                cases m with
                | app =>
                  dsimp only at hmm
                  split at hmm
                  · rename_i o2 z sh
                    rw [Bool.and_eq_true] at hmm
                    obtain ⟨ap, pos', rfl, rb, ln, pl⟩ := asM1_of sh
                    refine (ps_expr (pe_bm PySem.F.plainAttrs_list PySem.F.slot_list_append PySem.F.type_list_append mt_append (var_pe g hmm.1) (pa_cons (sE e g (L := L) hmm.2 hE0) pa_nil (plain_star pl)) (recv_of rb) (by rw [plain_star pl] <;> rfl) ln (plain_star pl)) rfl).run pins s σ H D I ?_
                    exact ⟨w, hw, by rw [g.hK]; exact ty, tS_mon _ _ _ _ (fun y H2 ⟨l, xs, e1, e2, e3, q⟩ => ⟨l, xs, y, e1, rfl, e2, e3, q⟩) q2⟩
                  · cases hmm
                | clr =>
                  dsimp only at hmm
                  split at hmm
                  · rename_i o2 sh
                    obtain ⟨ap, pos', rfl, rb, ln⟩ := asM0_of sh
                    refine (ps_expr (pe_bm0 PySem.F.plainAttrs_list PySem.F.slot_list_clear PySem.F.type_list_clear mt_clear (var_pe g hmm) (recv_of rb) ln) rfl).run pins s σ H D I ?_
                    refine ⟨w, hw, by rw [g.hK]; exact ty, ?_⟩
                    obtain ⟨env, Q, er, hE, kk⟩ := q2
                    unfold E at hE
                    obtain ⟨l, xs, e1, e2, q⟩ := kk _ _ _ (Same.refl _) ⟨[], .nil, fun _ z => absurd z (by simp), ReT.le (t := .im) (by unfold cE at hE0; cases hE0; rfl) (.bo rfl .non)⟩ hE
                    exact ⟨l, xs, e1, rfl, e2, q⟩
                  · cases hmm
                | _ => cases hmm
              constructor
              intro pins s σ H D I ⟨Nz, H0, env, k', ⟨Fs, h⟩, hW, k1, _⟩
              unfold W at hW
              obtain ⟨d, hd, ds, rfl, hW⟩ := at_some hW
              obtain ⟨v0, t', e1, e2, r0⟩ := h.get x _ hd
              rw [hx] at e2
              cases e2
              obtain ⟨p, vs, G1, rfl, eF, hp, rs⟩ := r0.lst
              have hxl : x < env.length := by
                have := (List.getElem?_eq_some_iff.mp hd).1
                simpa using this
              have h0 : SRF G.K G.cls Fs Nz Γ H0 H σ ((env.set y none).set x (some (.lst ds))) := by
                have e0 : (env.set y none).set x (some (.lst ds)) = env.set y none := by
                  apply List.ext_getElem?
                  intro i
                  by_cases e : x = i
                  · subst e
                    rw [List.getElem?_set_self (by simpa using hxl), List.getElem?_set_ne (fun q => xy q.symm), hd]
                  · rw [List.getElem?_set_ne e]
                rw [e0]
                exact h.gone y
              have gx : ∀ d : Pv.D, ((env.set y none).set x (some d))[x]? = some (some d) := fun d => List.getElem?_set_self (by simpa using hxl)
              have gy : ∀ (d : Pv.D) (d' : Pv.D), ((env.set y none).set x (some d))[y]? ≠ some (some d') := fun d d' q => by
                rw [List.getElem?_set_ne xy] at q
                by_cases hl : y < env.length
                · rw [List.getElem?_set_self hl] at q; cases q
                · rw [List.getElem?_eq_none (by simpa using hl)] at q; cases q
              have Γe : (frz Γ []).set x (plSet ([0] : List Int).length (.ow (.ow t)) t) = Γ := by
                rw [frz_nil]
                apply List.ext_getElem?
                intro i
                by_cases e : x = i
                · subst e
                  rw [List.getElem?_set_self (by have := h.l2; omega), hx]
                  rfl
                · rw [List.getElem?_set_ne e]
              refine (ps_for g.nv g.calm (pi_any (var_pe g hx0)) (pg_name (by rw [g.hN]; exact g.nd) (by rw [g.hN]; exact hN) l f) (pss_cons body pss_nil) (plain_fold hpl)).run pins s σ H D I ⟨.ref p, e1, .inl ⟨p, vs, rfl, .inl (.inl hp), ?_⟩⟩
              have lenO : ∀ {H' : Hp} {σ' : St} {ds' : List Pv.D}, σ'[x]? = some (some (.ref p)) → SR G.K G.cls Nz Γ H0 H' σ' ((env.set y none).set x (some (.lst ds'))) → ∃ vs', H' p = some (.lst vs') ∧ vs'.length = ds'.length := by
                rintro H' σ' ds' hs ⟨Fs', h'⟩
                obtain ⟨v1, t1, q1, q2, r1⟩ := h'.get x _ (gx _)
                rw [hx] at q2
                cases q2
                obtain ⟨p', vs', G', rfl, _, hp', rs'⟩ := r1.lst
                rw [hs] at q1
                cases q1
                exact ⟨vs', hp', rs'.len⟩
              refine ⟨fun i m0 σ' H' => m0 = ds.length - i ∧ i ≤ ds.length ∧ Fr [y] σ σ' ∧ σ'[x]? = some (some (.ref p)) ∧ ∃ ds', ds'.length = ds.length ∧ SR G.K G.cls Nz Γ H0 H' σ' ((env.set y none).set x (some (.lst ds'))) ∧ fomW (fun i d Q => updP [(i : Int)] d (fun d0 Q => isL d0 ∧ E (Cw (FTof G.fns) k) e ((env.set y none).set x (some d)) fun z => muW m d0 z Q) Q) (ds.length - i) i (.lst ds') fun d' => k'.nx ((env.set y none).set x (some d')), ⟨_, rfl, Nat.zero_le _, .refl _ _, e1, ds, rfl, ⟨Fs, h0⟩, hW⟩, ?_⟩
              rintro i mm σ' H' ⟨rfl, hi, fr0, hs, ds', hl', sr, hq⟩
              obtain ⟨vs', hp', hlv⟩ := lenO hs sr
              by_cases hlt : i < ds.length
              · refine .inr ⟨⟨vs', vs'[i]'(by omega), .inl (.inl hp'), List.getElem?_eq_getElem _⟩, fun σ2 H2 => Fr [y] σ σ2 ∧ σ2[x]? = some (some (.ref p)) ∧ ∃ ds', ds'.length = ds.length ∧ SR G.K G.cls Nz Γ H0 H2 σ2 ((env.set y none).set x (some (.lst ds'))) ∧ fomW (fun i d Q => updP [(i : Int)] d (fun d0 Q => isL d0 ∧ E (Cw (FTof G.fns) k) e ((env.set y none).set x (some d)) fun z => muW m d0 z Q) Q) (ds.length - (i + 1)) (i + 1) (.lst ds') fun d' => k'.nx ((env.set y none).set x (some d')), fun σ2 H2 ⟨z0, z1, z2⟩ => ⟨ds.length - (i + 1), by omega, rfl, hlt, z0, z1, z2⟩, ?_⟩
                rintro w H2 ⟨rfl, hw⟩
                have hw := hw _ (.inl (.inl hp'))
                rw [show ds.length - i = (ds.length - (i + 1)) + 1 by omega] at hq
                obtain ⟨Fs', h'⟩ := sr
                have hyl : y < σ'.length := by
                  have hyN : y < N.length := (List.getElem?_eq_some_iff.mp hN).1
                  have e0 := I.len
                  rw [g.hN] at e0
                  have l1 := h'.l1
                  have l0 := h.l1
                  simp only [List.length_set] at l1
                  omega
                have h2 := h'.dead (y := y) (some w) (gy _)
                have hq' : updP [(i : Int)] (.lst ds') (fun d0 Q => isL d0 ∧ E (Cw (FTof G.fns) k) e ((env.set y none).set x (some (.lst ds'))) fun z => muW m d0 z Q) (fun d' => (∃ es, d' = .lst es ∧ es.length = ds.length) ∧ fomW (fun i d Q => updP [(i : Int)] d (fun d0 Q => isL d0 ∧ E (Cw (FTof G.fns) k) e ((env.set y none).set x (some d)) fun z => muW m d0 z Q) Q) (ds.length - (i + 1)) (i + 1) d' fun d' => k'.nx ((env.set y none).set x (some d'))) := by
                  obtain ⟨j1, d1, z1, z2, z3⟩ := hq
                  refine ⟨j1, d1, z1, z2, ?_⟩
                  refine cast ?_ z3
                  show updP _ _ _ _ = updP _ _ _ _
                  refine congrArg (updP _ _ _) ?_
                  funext d'
                  exact (propext (and_iff_right ⟨_, rfl, by rw [List.length_set]; exact hl'⟩)).symm
                obtain ⟨v1, q1, w1, nav, q⟩ := mut_core g (A := []) (is := [(i : Int)]) hx rfl hmu (by simp) h2 rfl (fun H' s => h2.er.mono s) (gx _) hq' (R := fun H3 => Fr [y] σ (σ'.set y (some w)) ∧ (σ'.set y (some w))[x]? = some (some (.ref p)) ∧ ∃ ds', ds'.length = ds.length ∧ SR G.K G.cls Nz Γ H0 H3 (σ'.set y (some w)) ((env.set y none).set x (some (.lst ds'))) ∧ fomW (fun i d Q => updP [(i : Int)] d (fun d0 Q => isL d0 ∧ E (Cw (FTof G.fns) k) e ((env.set y none).set x (some d)) fun z => muW m d0 z Q) Q) (ds.length - (i + 1)) (i + 1) (.lst ds') fun d' => k'.nx ((env.set y none).set x (some d')))
                  (fun H3 d' _ sr3 ⟨⟨es, e3, e4⟩, q3⟩ => by
                    subst e3
                    refine ⟨fr0.trans (.set (by simp)), by rw [List.getElem?_set_ne (fun q => xy q.symm)]; exact hs, es, e4, ?_, q3⟩
                    have sr3 := sr3
                    rw [List.set_set] at sr3
                    rw [← Γe]
                    exact sr3)
                have hsx : (σ'.set y (some w))[x]? = some (some (.ref p)) := by rw [List.getElem?_set_ne (fun q => xy q.symm)]; exact hs
                rw [hsx] at q1
                cases q1
                obtain ⟨a, xs, v2, n1, n2, n3, n4⟩ := nav
                cases n1
                rw [hp'] at n2
                replace n2 := n2.resolve_right (by intro z; cases z)
                cases n2
                cases n4
                have ew : w1 = w := by
                  rw [atI_nat hw] at n3
                  exact (Option.some.inj n3).symm
                subst ew
                obtain ⟨ty, q⟩ := q H2 (Same.refl _)
                exact ⟨_, w1, List.getElem?_set_self hyl, ty, q⟩
              · refine .inl ⟨⟨vs', .inl (.inl hp'), by omega⟩, ?_⟩
                rw [show ds.length - i = 0 by omega] at hq
                exact k1 _ _ _ _ ⟨rfl, fr0⟩ sr hq
            · cases hc
          · cases hc
        · cases hc
      · cases hc
    · cases hm
  | .fomP x c y, st, ΓL, Γ, r, hm, hc => by
    unfold mS at hm
    split at hm
    · rename_i nx np o j j1 j2 sp v ep pos
      simp only [Bool.and_eq_true, decide_eq_true_eq] at hm
      obtain ⟨⟨⟨⟨hN, hl⟩, hj⟩, hx0⟩, hmm⟩ := hm
      obtain ⟨l, f⟩ := g.locP fc _ hl
      simp only [cS] at hc
      split at hc
      · rename_i t hx
        split at hc
        · rename_i hA
          obtain ⟨xy, hrf, hle⟩ := hA
          cases hc
          have hE0 : cE G.fns false Γ .non = some (.im, []) := by unfold cE; rfl
          have hmu : muT .clr t .im = some t := by show (if T.le t t = true then some t else none) = _; rw [if_pos hle]
          have okc : okS G.fns Γ [.int (c : Int)] = true := by unfold okS; rw [List.all_cons]; unfold cE; rfl
          split at hmm
          · rename_i o2 sh
            obtain ⟨ap, pos', rfl, rb, ln⟩ := asM0_of sh
            have body : PS X (.Expr (.Call (.Attribute o2 (nmMu .clr) ap) [] [] pos') ep) (fun D σ H => ∃ L w, σ[y]? = some (some w) ∧ tyV G.K "list" w H ∧ tS G (Cw (FTof G.fns) k) Γ L .non .im [] σ H fun z H3 => muR .clr w z H3 (D.nx σ)) := by
              constructor
              intro pins s σ H D I ⟨L, w, hw, ty, q2⟩
              refine (ps_expr (pe_bm0 PySem.F.plainAttrs_list PySem.F.slot_list_clear PySem.F.type_list_clear mt_clear (var_pe g hmm) (recv_of rb) ln) rfl).run pins s σ H D I ?_
              refine ⟨w, hw, by rw [g.hK]; exact ty, ?_⟩
              obtain ⟨env, Q, er, hE, kk⟩ := q2
              unfold E at hE
              obtain ⟨l, xs, e1, e2, q⟩ := kk _ _ _ (Same.refl _) ⟨[], .nil, fun _ z => absurd z (by simp), .bo rfl .non⟩ hE
              exact ⟨l, xs, e1, rfl, e2, q⟩
            constructor
            intro pins s σ H D I ⟨Nz, H0, env, k', ⟨Fs, h⟩, hW, k1, _⟩
            unfold W at hW
            obtain ⟨d, hd, xs, ys, rfl, hcy, hW⟩ := at_some hW
            obtain ⟨v0, t', e1, e2, r0⟩ := h.get x _ hd
            rw [hx] at e2
            cases e2
            obtain ⟨q0, vs, G1, rfl, eF, hq0, rs⟩ := r0.lst
            obtain ⟨v1, F1, F2, F3, hv1, eG, r1, _⟩ := rs.at hcy
            obtain ⟨p1, ws, G2, rfl, eF2, hp1, rs1⟩ := r1.lst
            have lws := rs1.len
            have a1 : atI vs (c : Int) = some (.ref p1) := atI_nat hv1
            have hxl : x < env.length := by
              have := (List.getElem?_eq_some_iff.mp hd).1
              simpa using this
            have h0 : SRF G.K G.cls Fs Nz Γ H0 H σ ((env.set y none).set x (some (.lst xs))) := by
              have e0 : (env.set y none).set x (some (.lst xs)) = env.set y none := by
                apply List.ext_getElem?
                intro i
                by_cases e : x = i
                · subst e
                  rw [List.getElem?_set_self (by simpa using hxl), List.getElem?_set_ne (fun q => xy q.symm), hd]
                · rw [List.getElem?_set_ne e]
              rw [e0]
              exact h.gone y
            have gx : ∀ d : Pv.D, ((env.set y none).set x (some d))[x]? = some (some d) := fun d => List.getElem?_set_self (by simpa using hxl)
            have gy : ∀ (d : Pv.D) (d' : Pv.D), ((env.set y none).set x (some d))[y]? ≠ some (some d') := fun d d' q => by
              rw [List.getElem?_set_ne xy] at q
              by_cases hl : y < env.length
              · rw [List.getElem?_set_self hl] at q; cases q
              · rw [List.getElem?_eq_none (by simpa using hl)] at q; cases q
            have Γe : (frz Γ []).set x (plSet ([0, 0] : List Int).length (.ow (.ow (.ow t))) t) = Γ := by
              rw [frz_nil]
              apply List.ext_getElem?
              intro i
              by_cases e : x = i
              · subst e
                rw [List.getElem?_set_self (by have := h.l2; omega), hx]
                rfl
              · rw [List.getElem?_set_ne e]
            refine (ps_for g.nv g.calm (pi_any (mPl_pe g (Γ := Γ) (L := Lof Nz H0 H Fs) hx0 okc)) (pg_name (by rw [g.hN]; exact g.nd) (by rw [g.hN]; exact hN) l f) (pss_cons body pss_nil) (fun _ => rfl)).run pins s σ H D I ⟨.ref q0, e1, pl_run okc (.inl (by simp)) h.er (K := fun is => is = [(c : Int)]) (by simp [Ep, E]) fun is hu his => ?_⟩
            subst hu
            refine ⟨.ref p1, ⟨q0, vs, .ref p1, rfl, .inl hq0, a1, rfl⟩, fun H2 s2 => .inl ⟨p1, ws, rfl, .inl (.inl (s2 _ _ hp1)), ?_⟩⟩
            let step : Nat → Pv.D → (Pv.D → Prop) → Prop := fun i d Q => updP [(c : Int), (i : Int)] d (fun d0 Q => isL d0 ∧ E (Cw (FTof G.fns) k) .non ((env.set y none).set x (some d)) fun z => muW .clr d0 z Q) Q
            have hstep : fomW step ys.length 0 (.lst xs) fun d' => k'.nx ((env.set y none).set x (some d')) := hW
            refine ⟨fun i m0 σ' H' => m0 = ys.length - i ∧ i ≤ ys.length ∧ Fr [y] σ σ' ∧ σ'[x]? = some (some (.ref q0)) ∧ H' q0 = some (.lst vs) ∧ H' p1 = some (.lst ws) ∧ ∃ d', SR G.K G.cls Nz Γ H0 H' σ' ((env.set y none).set x (some d')) ∧ fomW step (ys.length - i) i d' fun d' => k'.nx ((env.set y none).set x (some d')), ⟨_, rfl, Nat.zero_le _, .refl _ _, e1, s2 _ _ hq0, s2 _ _ hp1, _, ⟨Fs, h0.mono s2⟩, hstep⟩, ?_⟩
            rintro i mm σ' H' ⟨rfl, hi, fr0, hs, hq', hp', d', sr, hq⟩
            by_cases hlt : i < ys.length
            · refine .inr ⟨⟨ws, ws[i]'(by omega), .inl (.inl hp'), List.getElem?_eq_getElem _⟩, fun σ2 H2 => Fr [y] σ σ2 ∧ σ2[x]? = some (some (.ref q0)) ∧ H2 q0 = some (.lst vs) ∧ H2 p1 = some (.lst ws) ∧ ∃ d', SR G.K G.cls Nz Γ H0 H2 σ2 ((env.set y none).set x (some d')) ∧ fomW step (ys.length - (i + 1)) (i + 1) d' fun d' => k'.nx ((env.set y none).set x (some d')), fun σ2 H2 ⟨z0, z1, z2, z3, z4⟩ => ⟨ys.length - (i + 1), by omega, rfl, hlt, z0, z1, z2, z3, z4⟩, ?_⟩
              rintro w H2' ⟨rfl, hw⟩
              have hw := hw _ (.inl (.inl hp'))
              rw [show ys.length - i = (ys.length - (i + 1)) + 1 by omega] at hq
              have hq : step i d' fun d' => fomW step (ys.length - (i + 1)) (i + 1) d' fun d' => k'.nx ((env.set y none).set x (some d')) := hq
              obtain ⟨Fs', h'⟩ := sr
              have hyl : y < σ'.length := by
                have hyN : y < N.length := (List.getElem?_eq_some_iff.mp hN).1
                have e0 := I.len
                rw [g.hN] at e0
                have l1 := h'.l1
                have l0 := h.l1
                simp only [List.length_set] at l1
                omega
              have h2 := h'.dead (y := y) (some w) (gy _)
              have hsx : (σ'.set y (some w))[x]? = some (some (.ref q0)) := by rw [List.getElem?_set_ne (fun q => xy q.symm)]; exact hs
              obtain ⟨v1', q1, w1, nav, q⟩ := mut_core g (A := []) (is := [(c : Int), (i : Int)]) hx rfl hmu (by simp) h2 rfl (fun H' s => h2.er.mono s) (gx _) hq (R := fun H3 => Fr [y] σ (σ'.set y (some w)) ∧ (σ'.set y (some w))[x]? = some (some (.ref q0)) ∧ H3 q0 = some (.lst vs) ∧ H3 p1 = some (.lst ws) ∧ ∃ d', SR G.K G.cls Nz Γ H0 H3 (σ'.set y (some w)) ((env.set y none).set x (some d')) ∧ fomW step (ys.length - (i + 1)) (i + 1) d' fun d' => k'.nx ((env.set y none).set x (some d')))
                (fun H3 d2 ⟨v2, p0, H4, ob, m1, m2, m3, m4⟩ sr3 q3 => by
                  obtain ⟨q0', vs', p1', ws', g1, g2, g3, g4, g5, g6, g7⟩ := h2.apart hx (gx _) (fun d Q z => isL_some z.1) hq m1 m2 ⟨q0, vs, p1, ws, by rw [hsx] at m1; exact (Option.some.inj (Option.some.inj m1)).symm, hq', a1, hp'⟩
                  rw [hsx] at m1
                  cases m1
                  cases g1
                  rw [hq'] at g2
                  cases g2
                  rw [a1] at g3
                  cases g3
                  subst m4
                  refine ⟨fr0.trans (.set (by simp)), hsx, by rw [upd_ne g6.symm]; exact m3 _ _ hq', by rw [upd_ne g7.symm]; exact m3 _ _ hp', d2, ?_, q3⟩
                  have sr3 := sr3
                  rw [List.set_set] at sr3
                  rw [← Γe]
                  exact sr3)
              rw [hsx] at q1
              cases q1
              obtain ⟨a, xs', w2, n1, n2, n3, b2, xs2, w3, n4, n5, n6, n7⟩ := nav
              cases n1
              rw [hq'] at n2
              replace n2 := n2.resolve_right (by intro z; cases z)
              cases n2
              rw [a1] at n3
              cases n3
              cases n4
              rw [hp'] at n5
              replace n5 := n5.resolve_right (by intro z; cases z)
              cases n5
              cases n7
              have ew : w1 = w := by
                rw [atI_nat hw] at n6
                exact (Option.some.inj n6).symm
              subst ew
              obtain ⟨ty, q⟩ := q H2' (Same.refl _)
              exact ⟨_, w1, List.getElem?_set_self hyl, ty, q⟩
            · refine .inl ⟨⟨ws, .inl (.inl hp'), by omega⟩, ?_⟩
              rw [show ys.length - i = 0 by omega] at hq
              exact k1 _ _ _ _ ⟨rfl, fr0⟩ sr hq
          · cases hmm
        · cases hc
      · cases hc
    · cases hm
  | .fop inv tg x a b, st, ΓL, Γ, r, hm, hc => by
    unfold mS at hm
    split at hm
    · rename_i tgE o v sp bod pos
      simp only [Bool.and_eq_true] at hm
      obtain ⟨⟨⟨⟨hg, hpv⟩, ho⟩, hpop⟩, hb0⟩ := hm
      split at hpop
      · rename_i rr sh
        obtain ⟨ap, pos', rfl, rb0, ln⟩ := asM0_of sh
        simp only [cS] at hc
        split at hc
        · rename_i hx hca
          split at hc
          · rename_i hw0
            simp only [Bool.and_eq_true] at hw0
            obtain ⟨⟨hf, hfi⟩, hwi⟩ := hw0
            obtain ⟨rb, hb, rfl, hwb⟩ : ∃ rb, cS G.fns rt (some (ovr (frz Γ []) inv)) (tgT tg .im (ovr (frz Γ []) inv)) b = some rb ∧ r = some (ovr (frz Γ []) inv) ∧ ∀ Γb, rb = some Γb → wkL Γb (ovr (frz Γ []) inv) = true := by
              split at hc
              · rename_i h2; cases hc; exact ⟨_, h2, rfl, fun _ z => by cases z⟩
              · rename_i h2
                split at hc
                · rename_i h3; cases hc; exact ⟨_, h2, rfl, fun _ z => by cases z; exact h3⟩
                · cases hc
              · cases hc
            generalize hΓi : ovr (frz Γ []) inv = Γi at *
            constructor
            intro pins s σ H D I ⟨Nz, H0, env, k', ⟨Fs, h⟩, hW, k1, k2, k3, k4⟩
            simp only [W] at hW
            obtain ⟨d, hd, hW⟩ := at_some hW
            have body := sSs g fc tk b (ΓL := some Γi) (Γ := tgT tg .im Γi) hb0 hb
            have pi : PI X tgE (.Subscript o (.Call (.Attribute rr "pop" ap) [] [] pos') sp) _ := pi_any (pe_ix (ix_seq.or (ix_dic (by have := g.u; omega))) (sE a g (Γ := Γ) (L := Lof Nz H0 H Fs) ho hca) (pe_bm0 PySem.F.plainAttrs_list PySem.F.slot_list_pop PySem.F.type_list_pop mt_pop (var_pe g hpop) (recv_of rb0) ln) (plain_ix hpv))
            have hs : ∀ y, foldedSetIterable (.Subscript o (.Call (.Attribute rr "pop" ap) [] [] pos') sp) X.env y = pure y := fun _ => rfl
            -- what the head reads, for any target
            let R0 : TG → L2.It → Hp → Prop := fun gg J H' => ∃ W' : Nat → Nat → St → Hp → Prop, (∃ m, W' 0 m σ H') ∧ ∀ i m σ H, W' i m σ H →
                  (J.stop i H ∧ D.nx σ H) ∨ (J.go i H ∧ ∃ N' : St → Hp → Prop, (∀ σ' H', N' σ' H' → ∃ m', m' < m ∧ W' (i + 1) m' σ' H') ∧ ∀ x H', J.yld i H x H' → gg x σ H' fun σ2 H2 => tSS G wx (Cw (FTof G.fns) k) rt (some Γi) (tgT tg .im Γi) rb b { D with nx := N', ct := N', bk := D.nx } σ2 H2)
            let KK : TG → VK := fun gg xv H1 => (∃ a xs, xv = .ref a ∧ SqL X.K H1 a xs ∧ R0 gg (Itl X.K a) H1) ∨ (∃ a xs, xv = .ref a ∧ SqT X.K H1 a xs ∧ R0 gg (Itt X.K a) H1) ∨ ∃ z, xv = .str z ∧ R0 gg (Its z) H1
            have head : ∀ gg : TG, (∀ v (d : Pv.D) σ (Hx H1 : Hp) env' (Q : Env → Prop) (Hb : Hp) (R : St → Hp → Prop), SR G.K G.cls (fun a => Nz a ∨ H0 a = none) Γi Hb Hx σ env' → Same Hx H1 → ItN G.K G.cls (fun a => Nz a ∨ H0 a = none) Hb Hx H1 .im v d → Pv.G0 tg d env' Q → (∀ σ' env'', Fr (tgs tg) σ σ' → SR G.K G.cls (fun a => Nz a ∨ H0 a = none) (tgT tg .im Γi) Hb H1 σ' env'' → Q env'' → R σ' H1) → gg v σ H1 R) →
                iAny X.K (fun σ H Q => tS G (Cw (FTof G.fns) k) Γ (Lof Nz H0 H Fs) a .im [] σ H fun v H1 => (∃ v0, σ[x]? = some (some v0) ∧ tyV X.K "list" v0 H1 ∧ rPop v0 [] H1 fun w H2 => rIx X.K v w H2 Q ∨ rIxDD v w H2 Q)) σ H (R0 gg) := by
              intro gg hgg
              refine ⟨env, _, h.er, hW, fun vv H1 dv s1 rs1 hp => ?_⟩
              cases d <;> try exact hp.elim
              rename_i ds
              obtain ⟨z, hz, hp⟩ := hp
              have h1 := h.mono s1
              obtain ⟨v0, t', e1, e2, r0⟩ := h1.get x _ hd
              rw [hx] at e2
              cases e2
              obtain ⟨p, vs, G1, rfl, eF, hp0, rs⟩ := r0.lst
              obtain ⟨w, F1, F2, hw, eG, rw1, rz⟩ := rs.last hz
              have rz0 : Rep G.K G.cls N0 H1 w z := by
                cases rz with
                | bo _ q => exact q
              have rv0 : Rep G.K G.cls N0 H1 vv dv := by
                obtain ⟨F, _, _, q⟩ := rs1
                cases q with
                | bo _ q => exact q
              have hne : ds ≠ [] := fun e => by subst e; simp at hz
              have Γe : (frz Γ []).set x (plSet ([] : List Int).length (.ow .im) .im) = Γ := by
                rw [frz_nil]
                apply List.ext_getElem?
                intro i
                by_cases e : x = i
                · subst e
                  rw [List.getElem?_set_self (by have := (List.getElem?_eq_some_iff.mp hx).1; omega), hx]
                  rfl
                · rw [List.getElem?_set_ne e]
              obtain ⟨v1, q1, w1, nav, q⟩ := mut_core g (m := .popD) (e := .non) (u := .im) (j := .im) (A := []) (is := []) (envE := env) hx rfl rfl (by simp) h1 rfl (fun H' s => h1.er.mono s) hd (Qf := fun d' => p2 .idx dv z fun v => itD v fun ds => forW (fun d env' nx => G0 tg d env' fun env2 => W (Cw (FTof G.fns) k) b { nx := nx, ct := nx, bk := k'.nx, rt := k'.rt, ex := k'.ex } env2) k'.nx ds (env.set x (some d'))) (by
                  show isL (.lst ds) ∧ E _ .non env _
                  unfold E
                  exact ⟨trivial, hne, hp⟩) (R := fun H3 => rIx X.K vv w H3 (KK gg) ∨ rIxDD vv w H3 (KK gg)) (fun H3 d2 ⟨v2, p0, H4, ob, m1, m2, m3, m4⟩ sr3 q3 => by
                  rw [e1] at m1
                  cases m1
                  cases m2
                  subst m4
                  have cg : Chg [p] H1 (upd H4 p ob) := by
                    refine ⟨fun b u hb e => ?_, fun b hb => ?_⟩
                    · rw [upd_ne (by simpa using hb)]
                      exact m3 _ _ e
                    · rw [List.mem_singleton.mp hb, hp0]
                      trivial
                  refine p2_ix g (t := .im) (u := .im) (t' := .im) rfl rfl rfl _ _ _ _ ⟨N0, dv, z, _, Rep.chg cg (fun _ z => z.elim) (fun _ z => z) rv0, Rep.chg cg (fun _ z => z.elim) (fun _ z => z) rz0, q3, fun v5 H5 d5 s5 r5 q5 => ?_⟩
                  rw [Γe] at sr3
                  obtain ⟨Fs2, h3⟩ := sr3
                  have rd5 : Rep G.K G.cls N0 H5 v5 d5 := by
                    obtain ⟨F, _, _, q⟩ := r5
                    cases q with
                    | bo _ q => exact q
                  cases d5 <;> try exact q5.elim
                  case str zz =>
                    obtain rfl := rep_str rd5
                    exact Or.inr (Or.inr ⟨zz, rfl, for_loop (A := []) hf hwi hwb h3 k1 k4 s5 (fun Hb _ => wk_str) q5 gg hgg⟩)
                  case tup es =>
                    obtain ⟨a5, us, rfl, q6, pp⟩ := rep_tupR rd5
                    refine Or.inr (Or.inl ⟨a5, us, rfl, .inl (.inl q6), ?_⟩)
                    rw [g.hK]
                    exact for_loop (A := []) hf hwi hwb h3 k1 k4 s5 (fun Hb e => wk_tup (t := .im) (.inl (.inl (e.tup q6))) (pimp pp.paired fun _ _ z => z.keep e fun _ z => z.elim)) q5 gg hgg
                  case lst es =>
                    obtain ⟨_, _, _, n, _⟩ := rep_lst rd5
                    exact n.elim)
              rw [e1] at q1
              cases q1
              cases nav
              obtain ⟨ty, q⟩ := q H1 (Same.refl _)
              refine ⟨_, e1, by rw [g.hK]; exact ty, ?_⟩
              obtain ⟨env2, Q2, er2, hE2, kk⟩ := q
              unfold E at hE2
              obtain ⟨l, xs, z5, n1, n2, n3, q⟩ := kk _ _ _ (Same.refl _) ⟨[], .nil, fun _ z => absurd z (by simp), .bo rfl .non⟩ hE2
              cases n1
              rw [hp0] at n2
              cases n2
              rw [hw] at n3
              cases n3
              exact ⟨p, vs, w, rfl, rfl, hp0, hw, q⟩
            cases tg with
            | nm i =>
              cases tgE with
              | Name nx np =>
                have hg : (decide (N[i]? = some nx) && locB sc nx) = true := hg
                simp only [Bool.and_eq_true, decide_eq_true_eq] at hg
                obtain ⟨l, f⟩ := g.locP fc _ hg.2
                refine (ps_for g.nv g.calm pi (pg_name (by rw [g.hN]; exact g.nd) (by rw [g.hN]; exact hg.1) l f) body hs).run pins s σ H D I (head (gName i) fun v d σ Hx H1 env' Q Hb R sr s1 it hG hk => ?_)
                obtain ⟨F, f⟩ := sr
                obtain ⟨Gs, _, g'⟩ := f.item (i := i) s1 rfl it (itN_own f)
                exact hk _ _ (.set (by simp [tgs])) ⟨Gs, g'⟩ hG
              | _ => cases hg
            | tp is =>
              cases tgE with
              | Tuple nxs nk np =>
                have hg : mG.go N is sc nxs = true := hg
                obtain ⟨pg, pl, pf⟩ := pg_names g.hN g.nd (g.locP fc) hg
                refine (ps_for g.nv g.calm pi (pg_tup g.calm pg pl pf) body hs).run pins s σ H D I (head _ fun v d σ Hx H1 env' Q Hb R sr s1 it hG hk => ?_)
                cases d <;> try exact hG.elim
                rename_i ds
                obtain ⟨a, vs, rfl, hq, pp⟩ := repB_tup (t := .im) rfl it
                refine ⟨a, vs, rfl, by rw [g.hK]; exact hq, by rw [pair_len pp]; exact hG.1, ?_⟩
                obtain ⟨F, f⟩ := sr
                exact SRF.items (f.mono s1) rfl pp (itN_own f) hG.1 fun σ' f' sr' => hk _ _ f' sr' hG.2
              | _ => cases hg
          · cases hc
        · cases hc
      · cases hpop
    · cases hm
  | .dst x i e, st, ΓL, Γ, r, hm, hc => by
    unfold mS at hm
    split at hm
    · rename_i ob ij sp v pos
      simp only [Bool.and_eq_true] at hm
      obtain ⟨⟨⟨⟨hn, hpj⟩, ho⟩, hi⟩, hev⟩ := hm
      simp only [cS] at hc
      split at hc
      · rename_i t u A hx hE0
        split at hc
        · rename_i j b hins
          split at hc
          · rename_i hcond
            simp only [Bool.and_eq_true, decide_eq_true_eq] at hcond
            obtain ⟨⟨hf, hA⟩, hok2⟩ := hcond
            cases hci : cE G.fns false Γ i with
            | none => simp [okS, hci] at hok2
            | some ri =>
              obtain ⟨ti, Ai⟩ := ri
              cases hc
              constructor
              intro pins s σ H D I ⟨Nz, H0, env, k', ⟨Fs, h⟩, hW, k1, _⟩
              unfold W at hW
              have hpg := pg_sub (pos := sp) (mPl_pe g (Γ := Γ) (L := Lof Nz H0 H Fs) ho rfl) (sE i g (Γ := Γ) (L := Lof Nz H0 H Fs) hi hci) (set_dict (by have := g.u; omega)) (by intro _; cases ij <;> first | rfl | cases hpj)
              refine (ps_asg (sE e g (Γ := Γ) (L := Lof Nz H0 H Fs) hev hE0) hpg no_swapSub (by cases v <;> rfl) rfl).run pins s σ H D I ⟨env, _, h.er, hW, fun yv H1 dy s1 rsv hW1 => ?_⟩
              obtain ⟨d, hd, hW2⟩ := at_some hW1
              obtain ⟨v0, _, hσ, _, _⟩ := h.get x d hd
              refine ⟨v0, hσ, pl_run rfl (mPl_len ho) (h.er.mono s1) (K := fun is => is = []) (by unfold Ep; rfl) fun is hu his => ?_⟩
              subst hu
              refine ⟨v0, rfl, fun H2 s2 => ⟨env, _, h.er.mono (s1.trans s2), hW2, fun jv H3 dj s3 rsj hq => ?_⟩⟩
              have sH3 : Same H H3 := (s1.trans s2).trans s3
              have rsv' : RS G.K G.cls (Lof Nz H0 H Fs) H H3 u A yv dy := by
                obtain ⟨F, nd, fr, r⟩ := rsv
                exact ⟨F, nd, fr, r.mono (s2.trans s3) fun _ z => z⟩
              cases d <;> try exact hq.elim
              case dicK ks =>
                obtain ⟨kk, ek, hlen, q⟩ := hq
                obtain ⟨p, kvs, ds, F, e1, ⟨hp, nd⟩, rfl, rr, eF⟩ := h.dicK_at hx hd
                rw [hσ] at e1
                cases e1
                obtain ⟨le, F1, nd1, fr1, bx1, rv⟩ := h.put (p := p) hins (by rw [eF]; simp) hA (Same.refl _) sH3 rsv'
                have hl : kvs.length = ds.length := by have := rr.len2; rwa [List.length_map] at this
                rw [List.length_zip, List.length_map, ← hl, Nat.min_self] at hlen
                refine ⟨p, _, rfl, .inl ⟨kvs, kk, sH3 _ _ hp, key_rep (rsj.bor (Same.refl _)).rep ek, hlen, rfl⟩, k1 _ _ _ _ ⟨rfl, .refl _ _⟩ ?_ q⟩
                exact h.dset (O := fun kvs => .dK kvs) (mk := Pv.D.dicK) (fun _ => trivial) (fun q r => .owK q r) hσ hp nd rr eF sH3 hA le nd1 fr1 rv
              case dicT ks =>
                obtain ⟨kk, ek, hlen, q⟩ := hq
                obtain ⟨p, kvs, ds, F, e1, ⟨hp, nd⟩, rfl, rr, eF⟩ := h.dicT_at hx hd
                rw [hσ] at e1
                cases e1
                obtain ⟨le, F1, nd1, fr1, bx1, rv⟩ := h.put (p := p) hins (by rw [eF]; simp) hA (Same.refl _) sH3 rsv'
                have hl : kvs.length = ds.length := by have := rr.len2; rwa [List.length_map] at this
                rw [List.length_zip, List.length_map, ← hl, Nat.min_self] at hlen
                obtain ⟨b', rfl, hb⟩ := keyT_rep (rsj.bor (Same.refl _)).rep ek
                refine ⟨p, _, rfl, .inr ⟨kvs, kk, b', sH3 _ _ hp, rfl, hb, hlen, rfl⟩, k1 _ _ _ _ ⟨rfl, .refl _ _⟩ ?_ q⟩
                exact h.dset (O := fun kvs => .dT kvs) (mk := Pv.D.dicT) (fun _ => trivial) (fun q r => .owT q r) hσ hp nd rr eF sH3 hA le nd1 fr1 rv
          · cases hc
        · cases hc
      · cases hc
    · cases hm
  | .nil, st, ΓL, Γ, r, hm, hc => by unfold mS at hm; cases hm
  | .seq a b, st, ΓL, Γ, r, hm, hc => by unfold mS at hm; cases hm
theorem sSs (g : Good G k N sc X) (fc : FnC sc X) (tk : Takes X wx) : ∀ (c : CS) {st : List Stmt} {ΓL : Option (List T)} {Γ : List T} {r : Option (List T)}, mSs N (names G) c sc st = true → cS G.fns rt ΓL Γ c = some r → PSs X st (tSS G wx (Cw (FTof G.fns) k) rt ΓL Γ r c)
  | .nil, st, ΓL, Γ, r, hm, hc => by
    unfold mSs at hm
    split at hm
    · simp only [cS] at hc
      cases hc
      exact pss_nil.sub fun D σ H ⟨Nz, H0, env, k, sr, hW, k1, _⟩ => k1 Γ σ H env ⟨rfl, .refl _ _⟩ sr hW
    · cases hm
  | .seq a b, st, ΓL, Γ, r, hm, hc => by
    by_cases hwk : ∃ x t, a = .wkn x t
    · obtain ⟨x, t, rfl⟩ := hwk
      have hm : mSs N (names G) b sc st = true := hm
      simp only [cS] at hc
      split at hc
      · rename_i Γ1 ha
        split at ha
        · rename_i hw
          cases ha
          refine (sSs g fc tk b hm hc).sub fun D σ H ⟨Nz, H0, env, k, sr, hW, k1, k2, k3, k4⟩ => ?_
          simp only [W] at hW
          exact ⟨Nz, H0, env, k, sr.wk hw, hW, fun _ _ _ _ e => k1 _ _ _ _ ⟨e.1, e.2.sub fun i z => by simp [wr, z]⟩, fun _ _ _ _ e => k2 _ _ _ _ ⟨e.1, e.2.sub fun i z => by simp [wr, z]⟩, fun _ _ _ _ e => k3 _ _ _ _ ⟨e.1, e.2.sub fun i z => by simp [wr, z]⟩, k4⟩
        · cases ha
      · rename_i ha
        split at ha <;> cases ha
      · cases hc
    · by_cases hdu : ∃ x y e, a = .dup x y e
      · obtain ⟨x, y, e, rfl⟩ := hdu
        have hm : (match (generalizing := false) st with | s1 :: s2 :: xs => mApm N (names G) x y sc s1 && mAsg N (names G) y e sc s2 && mSs N (names G) b sc xs | _ => false) = true := hm
        split at hm
        · rename_i s1 s2 ss
          rw [Bool.and_eq_true, Bool.and_eq_true] at hm
          simp only [cS] at hc
          split at hc
          · rename_i Γ1 ha
            obtain ⟨t, u, te, hx, hy, he, le, lu, xy, e1⟩ := dup_inv (rt := rt) (ΓL := ΓL) ha
            cases e1
            refine (dup_ok g fc hm.1.1 hm.1.2 hx hy he le lu xy (sSs g fc tk b hm.2 hc)).sub fun D σ H ⟨Nz, H0, env, k, sr, hW, k1, k2, k3, k4⟩ => ?_
            simp only [W] at hW
            exact ⟨Nz, H0, env, { k with nx := W (Cw (FTof G.fns) _) b k }, sr, (by simp only [W]; exact hW), fun σ' H' env' f' sr' q => ⟨Nz, H0, env', k, sr', q, fun _ _ _ _ e => k1 _ _ _ _ ⟨e.1, (f'.sub fun i z => by simp [wr] at z ⊢; simp [z]).trans (e.2.sub fun i z => by simp [wr, z])⟩, fun _ _ _ _ e => k2 _ _ _ _ ⟨e.1, (f'.sub fun i z => by simp [wr] at z ⊢; simp [z]).trans (e.2.sub fun i z => by simp [wr, z])⟩, fun _ _ _ _ e => k3 _ _ _ _ ⟨e.1, (f'.sub fun i z => by simp [wr] at z ⊢; simp [z]).trans (e.2.sub fun i z => by simp [wr, z])⟩, k4⟩⟩
          · rename_i ha
            obtain ⟨t, u, te, hx, hy, he, le, lu, xy, e1⟩ := dup_inv (rt := rt) (ΓL := ΓL) ha
            cases e1
          · cases hc
        · cases hm
      · have hm : (match (generalizing := false) st with | x :: xs => mS N (names G) a sc x && mSs N (names G) b sc xs | [] => false) = true := by
          cases a; all_goals (try (exact absurd ⟨_, _, rfl⟩ hwk)); all_goals (try (exact absurd ⟨_, _, _, rfl⟩ hdu)); all_goals (unfold mSs at hm; exact hm)
        split at hm
        · rw [Bool.and_eq_true] at hm
          simp only [cS] at hc
          split at hc
          · rename_i Γ1 ha
            refine (pss_cons (sS g fc tk a hm.1 ha) (sSs g fc tk b hm.2 hc)).sub fun D σ H ⟨Nz, H0, env, k, sr, hW, k1, k2, k3, k4⟩ => ?_
            simp only [W] at hW
            refine ⟨Nz, H0, env, _, sr, hW, fun Γ' σ' H' env' e sr' q => ?_, fun _ _ _ _ e => k2 _ _ _ _ ⟨e.1, e.2.sub fun i z => by simp [wr, z]⟩, fun _ _ _ _ e => k3 _ _ _ _ ⟨e.1, e.2.sub fun i z => by simp [wr, z]⟩, k4⟩
            obtain ⟨e, fe⟩ := e
            cases e
            have fe' : Fr (wr (.seq a b)) σ σ' := fe.sub fun i z => by simp [wr, z]
            exact ⟨Nz, H0, env', k, sr', q, fun _ _ _ _ e => k1 _ _ _ _ ⟨e.1, fe'.trans (e.2.sub fun i z => by simp [wr, z])⟩, fun _ _ _ _ e => k2 _ _ _ _ ⟨e.1, fe'.trans (e.2.sub fun i z => by simp [wr, z])⟩, fun _ _ _ _ e => k3 _ _ _ _ ⟨e.1, fe'.trans (e.2.sub fun i z => by simp [wr, z])⟩, k4⟩
          · rename_i ha
            cases hc
            refine (pss_cons (sS g fc tk a hm.1 ha) pss_never).sub fun D σ H ⟨Nz, H0, env, k, sr, hW, k1, k2, k3, k4⟩ => ?_
            simp only [W] at hW
            exact ⟨Nz, H0, env, _, sr, hW, fun Γ' σ' H' env' e => (by cases e.1), fun _ _ _ _ e => k2 _ _ _ _ ⟨e.1, e.2.sub fun i z => by simp [wr, z]⟩, fun _ _ _ _ e => k3 _ _ _ _ ⟨e.1, e.2.sub fun i z => by simp [wr, z]⟩, k4⟩
          · cases hc
        · cases hm
  | .fomP _ _ _, _, _, _, _, h, _ | .fop _ _ _ _ _, _, _, _, _, h, _ | .cio _ _ _, _, _, _, _, h, _ | .rse _ _ _, _, _, _, _, h, _ | .ded, _, _, _, _, h, _ | .rcl _ _, _, _, _, _, h, _ | .rrt _, _, _, _, _, h, _ | .tryx _ _ _ _ _, _, _, _, _, h, _ | .pas, _, _, _, _, h, _ | .asg _ _, _, _, _, _, h, _ | .mov _ _, _, _, _, _, h, _ | .ex _, _, _, _, _, h, _ | .ret _, _, _, _, _, h, _ | .ite _ _ _, _, _, _, _, h, _ | .whl _ _ _, _, _, _, _, h, _ | .for _ _ _ _, _, _, _, _, h, _ | .brk, _, _, _, _, h, _ | .cnt, _, _, _, _, h, _ | .unp _ _, _, _, _, _, h, _ | .mut _ _ _ _, _, _, _, _, h, _ | .appm _ _ _, _, _, _, _, h, _ | .sto _ _ _ _, _, _, _, _, h, _ | .aug _ _ _ _ _, _, _, _, _, h, _ | .popTo _ _ _, _, _, _, _, h, _ | .insm _ _ _, _, _, _, _, h, _ | .augn _ _ _, _, _, _, _, h, _ | .wkn _ _, _, _, _, _, h, _ | .dup _ _ _, _, _, _, _, h, _ | .dst _ _ _, _, _, _, _, h, _ | .fom _ _ _ _, _, _, _, _, h, _ | .fol _ _ _ _, _, _, _, _, h, _ => by unfold mSs at h; cases h
end
end
end Pv

set_option maxRecDepth 100000
set_option maxHeartbeats 1000000
namespace Pv
open PySem L2
/-! ### an instance that is being made -/
def OffB (cls : Nat → Addr × List Str) (H H' : Hp) (x : Addr) : Prop := (∀ b u, b ≠ x → H b = some u → H' b = some u) ∧ ∃ C dx fs, H x = some (.ins C dx fs) ∧ ∀ c, (cls c).1 = C → fs.map (·.1) ≠ (cls c).2
section
variable {K : PySem.W.Frag} {cls : Nat → Addr × List Str} {N N' : Addr → Prop} {H H' : Hp} {x : Addr}
theorem OffB.get (o : OffB cls H H' x) {a : Addr} {u : HO} (h : H a = some u) (n : ∀ C dx fs, u ≠ .ins C dx fs) : H' a = some u := by
  obtain ⟨h1, C, dx, fs, h2, _⟩ := o
  refine h1 a u (fun e => ?_) h
  subst e
  rw [h2] at h
  cases h
  exact n _ _ _ rfl
theorem OffB.rd (o : OffB cls H H' x) {a : Addr} {u : HO} (h : Rd H a u) (n : ∀ C dx fs, u ≠ .ins C dx fs) : Rd H' a u := by
  rcases h with h | ⟨t, h⟩
  · exact .inl (o.get h n)
  · exact .inr ⟨t, o.get h fun _ _ _ z => by cases z⟩
theorem OffB.ins (o : OffB cls H H' x) {a dx : Addr} {c : Nat} {fs : List (Str × V)} (h : H a = some (.ins (cls c).1 dx fs)) (z : fs.map (·.1) = (cls c).2) : H' a = some (.ins (cls c).1 dx fs) := by
  obtain ⟨h1, C, dy, gs, h2, h3⟩ := o
  refine h1 a _ (fun e => ?_) h
  subst e
  rw [h2] at h
  cases h
  exact h3 c rfl z
mutual
theorem Rep.off (o : OffB cls H H' x) : ∀ {v : V} {d : D}, Rep K cls N H v d → Rep K cls N H' v d
  | _, _, .non => .non
  | _, _, .bl b => .bl b
  | _, _, .int i => .int i
  | _, _, .str x => .str x
  | _, _, .tup h r => .tup (o.get h fun _ _ _ z => by cases z) (Reps.off o r)
  | _, _, .lst a h r => .lst a (o.rd h fun _ _ _ z => by cases z) (Reps.off o r)
  | _, _, .dK a h r => .dK a (o.rd h fun _ _ _ z => by cases z) (Reps.off o r)
  | _, _, .dT a h r => .dT a (o.rd h fun _ _ _ z => by cases z) (Reps.off o r)
  | _, _, .obj h z r => .obj (o.ins h z) z (Reps.off o r)
theorem Reps.off (o : OffB cls H H' x) : ∀ {vs : List V} {ds : List D}, Reps K cls N H vs ds → Reps K cls N H' vs ds
  | _, _, .nil => .nil
  | _, _, .cons h r => .cons (Rep.off o h) (Reps.off o r)
end
theorem BS.off (o : OffB cls H H' x) {P P' : V → D → Prop} (hp : ∀ v d, P v d → P' v d) {v : V} {d : D} (h : BS K cls N H P v d) : BS K cls N H' P' v d := by
  cases h with
  | im h => exact .im (h.off o)
  | tup h r => exact .tup (o.get h fun _ _ _ z => by cases z) (pimp r hp)
  | lst na h r => exact .lst na (o.rd h fun _ _ _ z => by cases z) (pimp r hp)
  | dK na h r => exact .dK na (o.rd h fun _ _ _ z => by cases z) (pimp r hp)
  | dT na h r => exact .dT na (o.rd h fun _ _ _ z => by cases z) (pimp r hp)
theorem RepB.off (o : OffB cls H H' x) : ∀ {t : T} {v : V} {d : D}, RepB K cls N H t v d → RepB K cls N H' t v d
  | .im, _, _, h => Rep.off o h
  | .sh, _, _, h => Rep.off o h
  | .s t, _, _, h => BS.off o (fun _ _ z => RepB.off (t := t) o z) h
  | .ow t, _, _, h => BS.off o (fun _ _ z => RepB.off (t := t) o z) h
mutual
theorem ReT.off (o : OffB cls H H' x) : ∀ {t : T} {v : V} {d : D} {F : List Addr}, ReT K cls N H t v d F → ReT K cls N H' t v d F
  | _, _, _, _, .bo f h => .bo f (h.off o)
  | _, _, _, _, .owx h => .owx (h.off o)
  | _, _, _, _, .owl e r => .owl (o.get e fun _ _ _ z => by cases z) (ReTs.off o r)
  | _, _, _, _, .owK e r => .owK ⟨o.get e.1 (fun _ _ _ z => by cases z), e.2⟩ (ReTs.off o r)
  | _, _, _, _, .owT e r => .owT ⟨o.get e.1 (fun _ _ _ z => by cases z), e.2⟩ (ReTs.off o r)
  | _, _, _, _, .owP e r => .owP (o.get e fun _ _ _ z => by cases z) (ReTs.off o r)
theorem ReTs.off (o : OffB cls H H' x) : ∀ {t : T} {v : List V} {d : List D} {F : List Addr}, ReTs K cls N H t v d F → ReTs K cls N H' t v d F
  | _, _, _, _, .nil => .nil
  | _, _, _, _, .cons e r => .cons (ReT.off o e) (ReTs.off o r)
end
theorem SR.off {Nz : Addr → Prop} {Γ : List T} {H0 H : Hp} {σ : St} {env : Env} {C dx : Addr} {fs fs' : List (Str × V)} (h : SR K cls Nz Γ H0 H σ env) (h0 : H0 x = some (.ins C dx fs)) (hn : ∀ c, (cls c).1 = C → fs.map (·.1) ≠ (cls c).2) :
    SR K cls Nz Γ (upd H0 x (.ins C dx fs')) (upd H x (.ins C dx fs')) σ env := by
  obtain ⟨Fs, h1, h2, h3, h4, h5, h6, h7⟩ := h
  have hx := h4 _ _ h0
  have o : OffB cls H (upd H x (.ins C dx fs')) x := ⟨fun b u n e => by rw [upd_ne n]; exact e, C, dx, fs, hx, hn⟩
  have ne : ∀ a, H0 a = none → a ≠ x := fun a e z => by rw [z, h0] at e; cases e
  have up : ∀ a, upd H0 x (.ins C dx fs') a = none ↔ H0 a = none := fun a => by
    by_cases e : a = x
    · subst e
      rw [upd_same, h0]
      simp
    · rw [upd_ne e]
  refine ⟨Fs, h1, h2, fun i a z => ⟨(up a).mpr (h3 i a z).1, ?_⟩, fun b u e => ?_, h5, h6, fun i d hd => ?_⟩
  · rw [upd_ne (ne a (h3 i a z).1)]
    exact (h3 i a z).2
  · by_cases q : b = x
    · subst q
      rw [upd_same] at e ⊢
      exact e
    · rw [upd_ne q] at e ⊢
      exact h4 _ _ e
  · obtain ⟨v, t, e1, e2, r⟩ := h7 i d hd
    exact ⟨v, t, e1, e2, (r.off o).mono (Same.refl _) fun a z => ⟨z.1.imp_right (up a).mpr, z.2⟩⟩
end
theorem putF_new {f : Str} {v : V} : ∀ {fs : List (Str × V)}, f ∉ fs.map (·.1) → putF f v fs = fs ++ [(f, v)]
  | [], _ => rfl
  | (g, y) :: r, h => by
    have h := not_or.mp (fun z => h (List.mem_cons.mpr z))
    show (if g = f then _ else (g, y) :: putF f v r) = _
    rw [if_neg fun e => h.1 e.symm, putF_new h.2]
    rfl
theorem Reps.snoc {K : PySem.W.Frag} {cls : Nat → Addr × List Str} {N : Addr → Prop} {H : Hp} {v : V} {d : D} (h : Rep K cls N H v d) : ∀ {vs : List V} {ds : List D}, Reps K cls N H vs ds → Reps K cls N H (vs ++ [v]) (ds ++ [d])
  | _, _, .nil => .cons h .nil
  | _, _, .cons a r => .cons a (Reps.snoc h r)
/-- self.f = e, one behind the other -/
theorem SR.offB {K : PySem.W.Frag} {cls : Nat → Addr × List Str} {H0 H H' : Hp} {x : Addr} {Nz : Addr → Prop} {Γ : List T} {σ : St} {env : Env} {C dx : Addr} {fs fs' : List (Str × V)} (h : SR K cls Nz Γ H0 H σ env) (h0 : H0 x = some (.ins C dx fs)) (hn : ∀ c, (cls c).1 = C → fs.map (·.1) ≠ (cls c).2)
    (off : ∀ b u, b ≠ x → H b = some u → H' b = some u) (hx : H' x = some (.ins C dx fs')) : SR K cls Nz Γ (upd H0 x (.ins C dx fs')) H' σ env := by
  obtain ⟨Fs, h1⟩ := SR.off (fs' := fs') h h0 hn
  refine ⟨Fs, h1.mono fun b u e => ?_⟩
  by_cases z : b = x
  · subst z
    rw [upd_same] at e
    cases e
    exact hx
  · rw [upd_ne z] at e
    exact off b u z e
def mFl (N : List Str) (fns : Nm) : CE → List Str → Scope → List Stmt → Bool
  | .nil, [], _, [] => true
  | .cons e es, f :: fs, sc, .Assign [.Attribute o g _] v _ :: ss => mE N fns false (.var 0) sc o && decide (g = f) && mE N fns false e sc v && mFl N fns es fs sc ss
  | _, _, _, _ => false
def cFl (fns : List FnI) (Γ : List T) : CE → Bool
  | .nil => true
  | .cons e es => (match cE fns false Γ e with
    | some (.im, _) => true
    | _ => false) && cFl fns Γ es
  | _ => false
def tFl1 (G : Glob) (C : CallW) (Γ : List T) (c : Nat) (x dx : Addr) (e : CE) (f : Str) : TS := fun En σ H => ∃ Nz H0 env done, SR G.K G.cls Nz Γ H0 H σ env ∧ σ[0]? = some (some (.ref x)) ∧ H0 x = some (.ins (G.cls c).1 dx done) ∧ done.length < 1000 ∧
  ∃ Q : Pv.D → Prop, E C e env Q ∧ ∀ d v H1, Q d → Same H H1 → Rep G.K G.cls N0 H1 v d → En.nx σ (upd H1 x (.ins (G.cls c).1 dx (putF f v done)))
def tFl (G : Glob) (C : CallW) (Γ : List T) (c c2 : Nat) (x dx : Addr) (es : CE) (fs : List Str) : TS := fun En σ H => ∃ Nz H0 env done ds0, ∃ Q : List Pv.D → Prop, SR G.K G.cls Nz Γ H0 H σ env ∧ σ[0]? = some (some (.ref x)) ∧ H0 x = some (.ins (G.cls c2).1 dx done) ∧ Reps G.K G.cls N0 H (done.map (·.2)) ds0 ∧ done.map (·.1) ++ fs = (G.cls c).2 ∧
  Es C es env Q ∧ ∀ H' done' ds', H' x = some (.ins (G.cls c2).1 dx done') → done'.map (·.1) = (G.cls c).2 → Reps G.K G.cls N0 H' (done'.map (·.2)) (ds0 ++ ds') → (∀ b u, b ≠ x → H0 b = some u → H' b = some u) → Q ds' → En.nx σ H'
section
variable {G : Glob} {k : Nat} {N : List Str} {sc : Scope} {X : Cx} {Γ : List T} {c c2 : Nat} {x dx : Addr}
theorem no_swapAttr {o : Expr} {f : Str} {p : Pos} {e : Expr} {l : Nat} {env : PySem.Env} : swapsWith e (some (.Attribute o f p)) l env = pure false := by
  cases e <;> rfl
theorem sFl1 (g : Good G k N sc X) {e : CE} {f : Str} {o v : Expr} {p pos : Pos} {A : List Nat} (ho : mE N (names G) false (.var 0) sc o = true) (hv : mE N (names G) false e sc v = true) (hc : cE G.fns false Γ e = some (.im, A)) (c1 : Cls X.K (G.cls c).1) (c2 : NoAttr X.K (G.cls c).1 f) :
    PS X (.Assign [.Attribute o f p] v pos) (tFl1 G (Cw (FTof G.fns) k) Γ c x dx e f) := by
  constructor
  intro pins s σ H D I ⟨Nz, H0, env, done, ⟨Fs, h⟩, h0, hx, hl, Q, hE, kk⟩
  refine (ps_fld (var_pe g ho) (sE e g (Γ := Γ) (L := Lof Nz H0 H Fs) hv hc) no_swapAttr).run pins s σ H D I ⟨env, _, h.er, hE, fun y H1 d s1 rs q => ?_⟩
  obtain ⟨F, nd, fr, r⟩ := rs
  have rp : Rep G.K G.cls N0 H1 y d := by cases r with | bo _ r => exact r
  exact ⟨_, h0, x, (G.cls c).1, dx, done, rfl, s1 _ _ (h.same _ _ hx), c1, c2, hl, kk d y H1 q s1 rp⟩
theorem sFl (g : Good G k N sc X) {p p2 : Str × List Str} (hp : G.ct.cn[c]? = some p) (hp2 : G.ct.cn[c2]? = some p2) (pf : p.2 <+: p2.2) : ∀ (es : CE) (fs : List Str) (ss : List Stmt), mFl N (names G) es fs sc ss = true → cFl G.fns Γ es = true → (∃ pre, pre ++ fs = p.2) → PSs X ss (tFl G (Cw (FTof G.fns) k) Γ c c2 x dx es fs)
  | .nil, [], [], _, _, _ => by
    refine pss_nil.sub fun D σ H ⟨Nz, H0, env, done, ds0, Q, ⟨Fs, h⟩, h0, hx, rp, hn, hE, kk⟩ => ?_
    unfold Es at hE
    rw [List.append_nil] at hn
    exact kk H done [] (h.same _ _ hx) hn (by rw [List.append_nil]; exact rp) (fun b u _ e => h.same _ _ e) hE
  | .nil, _ :: _, _, hm, _, _ => by simp [mFl] at hm
  | .nil, [], _ :: _, hm, _, _ => by simp [mFl] at hm
  | .cons e es, fs, ss, hm, hc, hpre => by
    have again := fun fs ss a b c => sFl g hp hp2 pf es fs ss a b c
    unfold mFl at hm
    split at hm
    · rename_i heq; cases heq
    · rename_i e' es' f fs o f' pp v pos ss heq
      cases heq
      simp only [Bool.and_eq_true, decide_eq_true_eq] at hm
      obtain ⟨⟨⟨ho, rfl⟩, hv⟩, hm⟩ := hm
      unfold cFl at hc
      rw [Bool.and_eq_true] at hc
      obtain ⟨hc, hcs⟩ := hc
      split at hc
      · rename_i A hcE
        obtain ⟨_, b2, b3, b4, _, _⟩ := g.G.cl.cn c p hp
        obtain ⟨b1, _, _, b42, b5, _⟩ := g.G.cl.cn c2 p2 hp2
        obtain ⟨pre, hpre⟩ := hpre
        have fm : f' ∈ p.2 := by rw [← hpre]; simp
        have ih := again fs ss hm hcs ⟨pre ++ [f'], by rw [List.append_assoc]; exact hpre⟩
        refine (pss_cons (sFl1 (x := x) (dx := dx) g ho hv hcE (by rw [g.hK]; exact b1) (by rw [g.hK]; exact b5 f' (pf.subset fm))) ih).sub fun D σ H ⟨Nz, H0, env, done, ds0, Q, h, h0, hx, rp, hn, hE, kk⟩ => ?_
        rw [b2] at hn
        have hlen : done.length < p.2.length := by
          have := congrArg List.length hn
          simp only [List.length_append, List.length_map, List.length_cons] at this
          omega
        have nf : f' ∉ done.map (·.1) := by
          intro z
          rw [← hn] at b3
          exact (List.nodup_append.mp b3).2.2 _ z _ (by simp) rfl
        have part : ∀ c', (G.cls c').1 = (G.cls c2).1 → done.map (·.1) ≠ (G.cls c').2 := fun c' e => by
          obtain ⟨r, er⟩ := pf
          have := g.G.cl.pre c2 p2 done.length c' hp2 (by rw [← er, List.length_append]; omega) e
          rw [← er, ← hn, List.append_assoc, List.take_left' (by simp)] at this
          exact this
        unfold Es at hE
        refine ⟨Nz, H0, env, done, h, h0, hx, by omega, _, hE, fun d v H1 q s1 rv => ?_⟩
        have h' : SR G.K G.cls Nz Γ H0 H1 σ env := by obtain ⟨Fs, h⟩ := h; exact ⟨Fs, h.mono s1⟩
        have hx1 : H1 x = some (.ins (G.cls c2).1 dx done) := by obtain ⟨Fs, h⟩ := h'; exact h.same _ _ hx
        have off : OffB G.cls H1 (upd H1 x (.ins (G.cls c2).1 dx (putF f' v done))) x := ⟨fun b u n e => by rw [upd_ne n]; exact e, _, dx, done, hx1, part⟩
        refine ⟨Nz, _, env, putF f' v done, ds0 ++ [d], _, SR.off (fs' := putF f' v done) h' hx part, h0, upd_same, ?_, ?_, q, fun H' done' ds' a1 a2 a3 a4 a5 => kk H' done' (d :: ds') a1 a2 (by rw [List.append_assoc] at a3; exact a3) (fun b u n e => a4 b u n (by rw [upd_ne n]; exact e)) a5⟩
        · rw [putF_new nf, List.map_append]
          exact Reps.snoc ((putF_new nf (v := v)) ▸ rv.off off) ((putF_new nf (v := v)) ▸ (rp.mono s1 fun _ z => z).off off)
        · rw [putF_new nf, List.map_append, List.append_assoc, b2]
          exact hn
      · cases hc
    · cases hm
  | .var _, _, _, h, _, _ | .int _, _, _, h, _, _ => by cases h
end
end Pv

set_option maxRecDepth 100000
set_option maxHeartbeats 1000000
namespace Pv
open PySem L2
/-! ### except suites -/
def xeT : XE → T
  | .bs _ => .ow .im
  | _ => .im
def suG : List (Nat × XE) → List T → List T
  | [], Γ => Γ
  | (y, e) :: r, Γ => suG r (Γ.set y (xeT e))
def suB (su : List (Nat × XE)) : Bool := su.all fun p => match p.2 with
  | .bs l => decide (l.length ≤ sizeLine)
  | .b _ => true
  | .c _ => false
section
variable {G : Glob} {k : Nat} {N : List Str} {sc : Scope} {X : Cx} {a : Addr} {oe : Obj} {pn : List (Addr × Obj)} {c n : Nat}
def tXB (b : XB) (n : Nat) (a : Addr) (c : Nat) : TE := fun σ H Q => σ[n]? = some (some (.ref a)) ∧ Q (.bl (XBv b c)) H
theorem xb_ok (g : Good G k N sc X) (hc : c < G.ct.xs.length) (hz : Zc (.ref (G.ec c)) none oe) (hf : ∃ vs, oe.data = .fields vs) {b : XB} {e : Expr} (hm : mXB N (names G) n b sc e = true) : PE (X.suite a ((a, oe) :: pn)) e (tXB b n a c) := by
  cases b with
  | isi cs x =>
    have hm : (match (generalizing := false) asB2 "isinstance" sc e with
      | some (o, .Name f _) => decide (f = x) && glB sc x && nmB x && mE N (names G) false (.var n) sc o && ((decide (x = ("ValueError" : Str)) && decide (cs = List.range (names G).ct.xs.length)) || decide ((x, cs) ∈ (names G).ct.xs))
      | _ => false) = true := hm
    split at hm
    · rename_i o f p sh
      simp only [Bool.and_eq_true, Bool.or_eq_true, decide_eq_true_eq] at hm
      obtain ⟨⟨⟨⟨rfl, gl⟩, nm⟩, ho⟩, hx⟩ := hm
      obtain ⟨p', pos, rfl, g1, pl1, pl2⟩ := asB2_of sh
      obtain ⟨pC, hpC⟩ : ∃ pC, G.ct.xs[c]? = some pC := ⟨_, List.getElem?_eq_getElem hc⟩
      have ec := (g.G.xo.one c pC hpC).ec
      have key : ∃ u uv, PE (X.suite a ((a, oe) :: pn)) (.Name f p) (tC u) ∧ (∀ u', RelV u u' → u' = uv) ∧ PySem.W.kitOne G.K (.ref (G.ec c)) uv = some (decide (c ∈ cs)) := by
        rcases hx with ⟨rfl, rfl⟩ | hx
        · refine ⟨.ty "ValueError", .type "ValueError", pe_bltn (g.gl gl) (g.nob (by decide +kernel)) (by decide +kernel) rfl (by decide +kernel) (by decide +kernel), fun u' r => r, ?_⟩
          rw [(g.G.xo.one c pC hpC).ve]
          have : c ∈ List.range (names G).ct.xs.length := List.mem_range.mpr hc
          simp [this]
        · obtain ⟨d, hd⟩ := List.mem_iff_getElem?.mp hx
          have hd : G.ct.xs[d]? = some (_, cs) := hd
          refine ⟨.ref (G.ec d), .ref (G.ec d), pe_glob (g.gl gl) (by show X.mg _ = _; rw [g.hm]; exact (g.G.xo.one d _ hd).gC) rfl (nm_of nm).1, fun u' r => r, (g.G.xo.sub c d _ hc hd).2⟩
      obtain ⟨u, uv, hu, hv, hk⟩ := key
      have hvar : PE (X.suite a ((a, oe) :: pn)) o (tVar n) := by
        unfold mE at ho
        split at ho
        · simp only [Bool.and_eq_true, decide_eq_true_eq] at ho
          obtain ⟨⟨hN, hv⟩, hn⟩ := ho
          exact pe_var (by show X.N[n]? = _; rw [g.hN]; exact hN) (by show Vis X.env.scope _; rw [g.hsc]; exact vis_of hv) (nm_of hn).1 (nm_of hn).2.1
        · cases ho
      refine (pe_callB (call_isE (D := G.ec c) (by rw [g.hK]; exact ec) hz hf) (g.gl g1) (g.nob (by decide +kernel)) (by decide +kernel) (pa_cons hvar (pa_cons hu pa_nil rfl) (plain_star pl1)) (by decide +kernel) (by decide +kernel) (plain_star pl1)).sub fun σ H R h => ?_
      refine ⟨_, h.1, u, uv, decide (c ∈ cs), rfl, hv, by rw [g.hK]; exact hk, h.2⟩
    · cases hm
  | and _ _ => simp [mXB] at hm
  | not _ => simp [mXB] at hm
def tXBs (l : List XB) (n : Nat) (a : Addr) (c : Nat) : TA := fun σ H Q => σ[n]? = some (some (.ref a)) ∧ Q (l.map fun b => .bl (XBv b c)) H
theorem asB2_star {nm : Str} {sc : Scope} {e x y : Expr} (h : asB2 nm sc e = some (x, y)) {env : PySem.Env} {es : List Expr} : starEach (e :: es) env = (false, eval e env) :: starEach es env := by
  obtain ⟨_, _, rfl, _⟩ := asB2_of h
  rfl
theorem xb_star {fns : Nm} {b : XB} {e : Expr} (hm : mXB N fns n b sc e = true) {env : PySem.Env} {es : List Expr} : starEach (e :: es) env = (false, eval e env) :: starEach es env := by
  cases b with
  | isi cs x =>
    have hm : (match (generalizing := false) asB2 "isinstance" sc e with
      | some (o, .Name f _) => decide (f = x) && glB sc x && nmB x && mE N (fns) false (.var n) sc o && ((decide (x = ("ValueError" : Str)) && decide (cs = List.range (fns).ct.xs.length)) || decide ((x, cs) ∈ (fns).ct.xs))
      | _ => false) = true := hm
    split at hm
    · rename_i o f p sh
      exact asB2_star sh
    · cases hm
  | and _ _ => simp [mXB] at hm
  | not _ => simp [mXB] at hm
theorem xbs_ok (g : Good G k N sc X) (hc : c < G.ct.xs.length) (hz : Zc (.ref (G.ec c)) none oe) (hf : ∃ vs, oe.data = .fields vs) : ∀ {l : List XB} {es : List Expr}, mXBs N (names G) n l sc es = true → PA (X.suite a ((a, oe) :: pn)) es (tXBs l n a c)
  | [], [], _ => pa_nil.sub fun σ H R h => h.2
  | b :: l, e :: es, hm => by
    unfold mXBs at hm
    rw [Bool.and_eq_true] at hm
    exact (pa_cons (xb_ok g hc hz hf hm.1) (xbs_ok g hc hz hf hm.2) (xb_star hm.1)).sub fun σ H R h => ⟨h.1, h.1, h.2⟩
  | [], _ :: _, hm => by simp [mXBs] at hm
  | _ :: _, [], hm => by simp [mXBs] at hm
def tXE (G : Glob) (xe : XE) (n : Nat) (a : Addr) (c : Nat) : TE := fun σ H Q => σ[n]? = some (some (.ref a)) ∧ ∀ v H', Same H H' → RSp G.K G.cls N0 H H' (xeT xe) v (XEv xe c) → Q v H'
theorem xe_ok (g : Good G k N sc X) (hc : c < G.ct.xs.length) (hz : Zc (.ref (G.ec c)) none oe) (hf : ∃ vs, oe.data = .fields vs) {y : Nat} {xe : XE} {e : Expr} (hb : suB [(y, xe)] = true) (hm : mXE N (names G) n xe sc e = true) : PE (X.suite a ((a, oe) :: pn)) e (tXE G xe n a c) := by
  cases xe with
  | bs l =>
    have hm : (match (generalizing := false) e with
      | .List es _ => mXBs N (names G) n l sc es
      | _ => false) = true := hm
    split at hm
    · simp only [suB, List.all_cons, List.all_nil, Bool.and_true, decide_eq_true_eq] at hb
      refine (pe_lst (xbs_ok g hc hz hf hm)).sub fun σ H R h => ⟨h.1, by simpa using hb, fun p hp => h.2 _ _ (same_new hp) ?_⟩
      refine rs_new hp rfl ?_
      generalize l = l
      induction l with
      | nil => exact .nil
      | cons b l ih => exact .cons (.bl _) ih
    · cases hm
  | b x =>
    have hm : mXB N (names G) n x sc e = true := hm
    exact (xb_ok g hc hz hf hm).sub fun σ H R h => ⟨h.1, h.2 _ _ (Same.refl _) (rs_im (.bl _))⟩
  | c x => simp [suB] at hb
theorem rs_of0 {K : PySem.W.Frag} {cls : Nat → Addr × List Str} {L : Nat → Addr → Prop} {H H' : Hp} {t : T} {v : V} {d : D} (h : RSp K cls N0 H H' t v d) : RS K cls L H H' t [] v d := by
  obtain ⟨F, nd, fr, r⟩ := h
  exact ⟨F, nd, fr, r.mono (Same.refl _) fun a z => ⟨.inr (z.1.resolve_left fun q => q), z.2⟩⟩
def tSU (G : Glob) (su : List (Nat × XE)) (n : Nat) (a : Addr) (c : Nat) : TS := fun D σ H => ∃ Nz H0 Γ env, SR G.K G.cls Nz Γ H0 H σ env ∧ σ[n]? = some (some (.ref a)) ∧
  ∀ σ' H', SR G.K G.cls Nz (suG su Γ) H0 H' σ' (SUw su c env) → D.nx σ' H'
theorem su_ok (g : Good G k N sc X) (fc : FnC sc X) (hc : c < G.ct.xs.length) (hz : Zc (.ref (G.ec c)) none oe) (hf : ∃ vs, oe.data = .fields vs) : ∀ {su : List (Nat × XE)} {ss : List Stmt}, suB su = true → mSu N (names G) n su sc ss = true → PSs (X.suite a ((a, oe) :: pn)) ss (tSU G su n a c)
  | [], [], _, _ => pss_nil.sub fun D σ H ⟨Nz, H0, Γ, env, sr, hn, kk⟩ => kk σ H sr
  | (y, xe) :: su, s :: ss, hb, hm => by
    have again := fun ss a b => su_ok g fc hc hz hf (su := su) (ss := ss) a b
    unfold mSu at hm
    split at hm
    · rename_i heq; cases heq
    · rename_i y' xe' r z p v pos ss' heq1 heq2
      cases heq1
      cases heq2
      simp only [Bool.and_eq_true, decide_eq_true_eq] at hm
      obtain ⟨⟨⟨⟨⟨hN, hl⟩, hn⟩, yn⟩, he⟩, hs⟩ := hm
      have hb1 : suB [(y, xe)] = true := by
        simp only [suB, List.all_cons, List.all_nil, Bool.and_eq_true] at hb ⊢
        exact ⟨hb.1, trivial⟩
      have hb2 : suB su = true := by
        simp only [suB, List.all_cons, Bool.and_eq_true] at hb ⊢
        exact hb.2
      obtain ⟨l, f⟩ := g.locP fc _ hl
      refine (pss_cons (ps_set (X := X.suite a ((a, oe) :: pn)) (by show X.N.Nodup; rw [g.hN]; exact g.nd) (by show X.N[y]? = _; rw [g.hN]; exact hN) l (xe_ok g hc hz hf hb1 he) (no_swap hn) f) (again _ hb2 hs)).sub fun D σ H ⟨Nz, H0, Γ, env, ⟨Fs, h⟩, hn, kk⟩ => ?_
      refine ⟨hn, fun v H' s rs => ?_⟩
      have sr := h.storeR (x := y) s (rs_of0 (L := Lof Nz H0 H Fs) rs)
      rw [frz_nil] at sr
      exact ⟨Nz, H0, _, _, sr, by rw [List.getElem?_set_ne yn]; exact hn, kk⟩
    · cases hm
  | [], _ :: _, _, hm => by simp [mSu] at hm
  | _ :: _, [], _, hm => by simp [mSu] at hm
end
/-! ### try, at a def's own level -/
def asTry : CS → Option (CS × List Nat × Str × Nat × List (Nat × XE))
  | .tryx b cs x n su => some (b, cs, x, n, su)
  | _ => none
theorem asTry_of {a b : CS} {cs : List Nat} {x : Str} {n : Nat} {su : List (Nat × XE)} (h : asTry a = some (b, cs, x, n, su)) : a = .tryx b cs x n su := by
  unfold asTry at h
  split at h
  · cases h; rfl
  · cases h
def isWk : CS → Bool
  | .wkn .. => true
  | _ => false
def hasTry : CS → Bool
  | .seq a c => (asTry a).isSome || hasTry c
  | _ => false
def mBody (N : List Str) (fns : Nm) : CS → Scope → List Stmt → Bool
  | .nil, _, ss => ss.isEmpty
  | .seq a c, sc, ss => if isWk a then mBody N fns c sc ss else match ss with
    | s :: xs => (match asTry a with
      | some (b, cs, x, n, su) => mTry N fns b cs x n su sc s && suB su
      | none => mS N fns a sc s) && mBody N fns c sc xs
    | [] => false
  | _, _, _ => false
def cB (fns : List FnI) (t : T) : CS → List T → Option (Option (List T))
  | .nil, Γ => some (some Γ)
  | .seq a c, Γ => match asTry a with
    | some (b, _, _, n, su) => match cS fns ⟨t, some Γ⟩ none Γ b with
      | some r1 => if n < Γ.length then match mer r1 (some (suG su Γ)) with
          | some (some Γ2) => cB fns t c Γ2
          | _ => none
        else none
      | none => none
    | none => match cS fns ⟨t, none⟩ none Γ a with
      | some (some Γ1) => cB fns t c Γ1
      | some none => some none
      | none => none
  | _, _ => none
def tSB (G : Glob) (w : WX) (C : CallW) (t : T) (Γ : List T) (r : Option (List T)) (c : CS) : TS := fun D σ H => ∃ Nz H0 env k, SR G.K G.cls Nz Γ H0 H σ env ∧ W C c k env ∧
  (∀ Γ' σ' H' env', r = some Γ' → SR G.K G.cls Nz Γ' H0 H' σ' env' → k.nx env' → D.nx σ' H') ∧
  (∀ v H' d, Same H0 H' → RSp G.K G.cls Nz H0 H' t v d → k.rt d → D.rt v H') ∧
  ∀ Γ' σ' H' env' x, x < G.ct.xs.length → SR G.K G.cls Nz Γ' H0 H' σ' env' → k.ex x env' → w (.ref (G.ec x)) none σ' H'
section
variable {G : Glob} {k : Nat} {N : List Str} {sc : Scope} {X : Cx} {wx : WX} {t : T}
theorem Good.tr (g : Good G k N sc X) {pn : List (Addr × Obj)} {xe : Value → Shared → Prop} (h : PassesOwn (model X.prog X.w) X.A X.env xe) : Good G k N sc (X.tr pn xe) :=
  ⟨g.hP, g.hw, g.hK, g.hm, g.hb, g.hN, g.nd, g.hsc, g.calm, g.room, h, g.G⟩
theorem tryx_ok (g : Good G k N sc X) (fc : FnC sc X) (tk : Takes X wx) (hs : X.stack = X.env :: X.outer) (hf : X.env.frame = some X.env.locals) {b : CS} {cs : List Nat} {x : Str} {n : Nat} {su : List (Nat × XE)} {st : Stmt} {Γ Γ2 : List T} {r1 : Option (List T)}
    (hm : mTry N (names G) b cs x n su sc st = true) (hb : suB su = true) (hc : cS G.fns ⟨t, some Γ⟩ none Γ b = some r1) (hn : n < Γ.length) (hmer : mer r1 (some (suG su Γ)) = some (some Γ2)) : PS X st (tSB G wx (Cw (FTof G.fns) k) t Γ (some Γ2) (.tryx b cs x n su)) := by
  unfold mTry at hm
  split at hm
  · simp only [Bool.and_eq_true, decide_eq_true_eq] at hm
    obtain ⟨⟨⟨⟨⟨⟨⟨⟨m1, rfl⟩, gl⟩, nm⟩, hN⟩, hl⟩, hx⟩, hne⟩, hsu⟩ := hm
    obtain ⟨d, hd⟩ := List.mem_iff_getElem?.mp hx
    have hd : G.ct.xs[d]? = some (_, cs) := hd
    have e1 := g.G.xo.one d _ hd
    refine (ps_try_as (c := .ref (G.ec d)) (i := n) (Wout := wx) (tb := fun W => tSS G W (Cw (FTof G.fns) k) ⟨t, some Γ⟩ none Γ r1 b)
      (ts := fun a cls dd D σ H => ∃ c, c < G.ct.xs.length ∧ cls = .ref (G.ec c) ∧ dd = none ∧ tSU G su n a c D σ H)
      hs hf (by rw [g.hN]; exact g.nd) (by rw [g.hN]; exact hN) (by show X.env.scope.names.lookup _ = _; rw [g.hsc]; exact hl) ⟨g.gl gl, (nm_of nm).1, .inl (by rw [g.hm]; exact e1.gC)⟩ tk ?_ ?_).sub ?_
    · intro W pn xe tkW hp
      exact sSs (g.tr hp) fc tkW b m1 hc
    · intro a oe cls dd pn hz hfl
      refine ⟨fun pins s σ H D I h => ?_⟩
      obtain ⟨c, hcl, rfl, rfl, h⟩ := h
      exact (su_ok g fc hcl hz hfl hb hsu).run pins s σ H D I h
    · intro D σ H ⟨Nz, H0, env, kk, sr, hW, k1, k2, k3⟩
      simp only [W] at hW
      obtain ⟨Γm, e2, hw1⟩ := mer_r hmer _ rfl
      cases e2
      refine ⟨Nz, H0, env, _, sr, hW, fun Γ' σ' H' env' e sr' q => ?_, fun _ _ _ _ e => (by cases e.1), fun _ _ _ _ e => (by cases e.1), fun v H' d' s rs q => k2 v H' d' s rs q, fun Γ' σ' H' env' x' hg hx' sr' q => ?_⟩
      · obtain ⟨Γm, e2, hw2⟩ := mer_l hmer _ e.1
        cases e2
        exact k1 _ _ _ _ rfl (sr'.wk' hw2) q
      · have hg : Γ = Γ' := by
          rcases hg with hg | hg
          · cases hg
          · exact Option.some.inj hg
        subst hg
        refine ⟨decide (x' ∈ cs), PySem.W.exm_ref (by rw [g.hK]; exact e1.ec.hs) (by rw [g.hK]; exact e1.ec.hd) (by rw [g.hK]; exact e1.tP) (by rw [g.hK]; exact (g.G.xo.sub x' d _ hx' hd).1), fun hy a ha => ?_, fun hno => ?_⟩
        · have hy := of_decide_eq_true hy
          have q : (if x' ∈ cs then kk.nx (List.set (SUw su x' (List.set env' n none)) n none) else kk.ex x' env') := q
          rw [if_pos hy] at q
          refine ⟨x', hx', rfl, rfl, Nz, H0, Γ, env'.set n none, ?_, ?_, fun σ2 H2 sr2 => ?_⟩
          · obtain ⟨Fs, h⟩ := sr'
            exact ⟨Fs, (h.gone n).dead _ fun d e => by
              by_cases hl : n < env'.length
              · rw [List.getElem?_set_self hl] at e; cases e
              · rw [List.getElem?_eq_none (by simpa using hl)] at e; cases e⟩
          · obtain ⟨Fs, h⟩ := sr'
            have l1 := h.l1
            have l2 := h.l2
            rw [List.getElem?_set_self (by omega)]
          · refine k1 _ _ _ _ rfl ?_ q
            refine SR.wk' ?_ hw1
            obtain ⟨Fs, h⟩ := sr2
            exact ⟨Fs, (h.gone n).dead _ fun d e => by
              by_cases hl : n < (SUw su x' (env'.set n none)).length
              · rw [List.getElem?_set_self hl] at e; cases e
              · rw [List.getElem?_eq_none (by simpa using hl)] at e; cases e⟩
        · have hno := of_decide_eq_false hno
          have q : (if x' ∈ cs then kk.nx (List.set (SUw su x' (List.set env' n none)) n none) else kk.ex x' env') := q
          rw [if_neg hno] at q
          exact k3 _ _ _ _ _ hx' sr' q
  · cases hm
theorem sBody (g : Good G k N sc X) (fc : FnC sc X) (tk : Takes X wx) (hs : X.stack = X.env :: X.outer) (hf : X.env.frame = some X.env.locals) : ∀ (c : CS) {st : List Stmt} {Γ : List T} {r : Option (List T)}, mBody N (names G) c sc st = true → cB G.fns t c Γ = some r → PSs X st (tSB G wx (Cw (FTof G.fns) k) t Γ r c)
  | .nil, st, Γ, r, hm, hc => by
    unfold mBody at hm
    obtain rfl := List.isEmpty_iff.mp hm
    simp only [cB] at hc
    cases hc
    exact pss_nil.sub fun D σ H ⟨Nz, H0, env, k, sr, hW, k1, _⟩ => k1 Γ σ H env rfl sr hW
  | .seq a c, st, Γ, r, hm, hc => by
    unfold mBody at hm
    unfold cB at hc
    split at hm
    · rename_i hwk
      cases a with
      | wkn x u =>
        simp only [asTry, cS] at hc
        split at hc
        · rename_i Γ1 ha
          split at ha
          · rename_i hw
            cases ha
            refine (sBody g fc tk hs hf c hm hc).sub fun D σ H ⟨Nz, H0, env, k, sr, hW, k1, k2, k3⟩ => ?_
            simp only [W] at hW
            exact ⟨Nz, H0, env, k, sr.wk hw, hW, k1, k2, k3⟩
          · cases ha
        · rename_i ha
          split at ha <;> cases ha
        · cases hc
      | _ => cases hwk
    · split at hm
      · rename_i s xs
        rw [Bool.and_eq_true] at hm
        obtain ⟨hm1, hm2⟩ := hm
        split at hc
        · rename_i b cs x n su ht
          rw [ht] at hm1
          simp only [Bool.and_eq_true] at hm1
          obtain rfl := asTry_of ht
          split at hc
          · rename_i r1 hr1
            split at hc
            · rename_i hn
              split at hc
              · rename_i Γ2 hmer
                refine (pss_cons (tryx_ok g fc tk hs hf hm1.1 hm1.2 hr1 hn hmer) (sBody g fc tk hs hf c hm2 hc)).sub fun D σ H ⟨Nz, H0, env, k, sr, hW, k1, k2, k3⟩ => ?_
                rw [W] at hW
                exact ⟨Nz, H0, env, _, sr, hW, fun Γ' σ' H' env' e sr' q => by cases e; exact ⟨Nz, H0, env', k, sr', q, k1, k2, k3⟩, k2, k3⟩
              · cases hc
            · cases hc
          · cases hc
        · rename_i ht
          rw [ht] at hm1
          split at hc
          · rename_i Γ1 ha
            refine (pss_cons (sS g fc tk a hm1 ha) (sBody g fc tk hs hf c hm2 hc)).sub fun D σ H ⟨Nz, H0, env, k, sr, hW, k1, k2, k3⟩ => ?_
            rw [W] at hW
            exact ⟨Nz, H0, env, _, sr, hW, fun Γ' σ' H' env' e sr' q => by cases e.1; exact ⟨Nz, H0, env', k, sr', q, k1, k2, k3⟩, fun _ _ _ _ e => (by cases e.1), fun _ _ _ _ e => (by cases e.1), fun v H' d s rs q => k2 v H' d s rs q, fun Γ' σ' H' env' x _ hx sr' q => k3 _ _ _ _ _ hx sr' q⟩
          · rename_i ha
            cases hc
            refine (pss_cons (sS g fc tk a hm1 ha) pss_never).sub fun D σ H ⟨Nz, H0, env, k, sr, hW, k1, k2, k3⟩ => ?_
            rw [W] at hW
            exact ⟨Nz, H0, env, _, sr, hW, fun Γ' σ' H' env' e => (by cases e.1), fun _ _ _ _ e => (by cases e.1), fun _ _ _ _ e => (by cases e.1), fun v H' d s rs q => k2 v H' d s rs q, fun Γ' σ' H' env' x _ hx sr' q => k3 _ _ _ _ _ hx sr' q⟩
          · cases hc
      · cases hm
end
end Pv

set_option maxRecDepth 100000
set_option maxHeartbeats 1000000
namespace Pv
open PySem L2
/-! ### defs -/
def scopeB (N ps : List Str) (sc : Scope) : Bool := decide (sc.kind = .function) && !sc.isCoroutine && !sc.isGenerator && decide N.Nodup && decide (N.take ps.length = ps) && ps.all (fun x => locB sc x) && sc.names.all (fun y => !decide (y.2 = .free))
theorem scopeB_of {N ps : List Str} {sc : Scope} (h : scopeB N ps sc = true) : FnScope N ps sc := by
  unfold scopeB at h
  simp only [Bool.and_eq_true, decide_eq_true_eq, Bool.not_eq_true', List.all_eq_true, decide_eq_false_iff_not] at h
  obtain ⟨⟨⟨⟨⟨⟨h1, h2⟩, h3⟩, h4⟩, h5⟩, h6⟩, h7⟩ := h
  exact ⟨h1, h2, h3, h4, h5, fun x hx => loc_of (h6 x hx), h7⟩
def gam0 (i : FnI) : List T := i.sg ++ List.replicate (i.fn.ns - i.fn.np) .im
/-- the rest of an __init__: checks, then fields -/
def chkB (N : List Str) (nm : Nm) (sc : Scope) (fns : List FnI) (es : CE) (fs : List Str) : CS → List T → List Stmt → Bool
  | .nil, Γ, ss => mFl N nm es fs sc ss && cFl fns Γ es
  | .seq a b, Γ, st :: ss => mS N nm a sc st && decide (0 ∉ wr a) && (match cS fns ⟨.im, none⟩ none Γ a with
    | some (some Γ') => chkB N nm sc fns es fs b Γ' ss
    | _ => false)
  | _, _, _ => false
def chkI (fns : List FnI) (gcs : List (Str × Str)) (ct : CT) (i : FnI) (st : Stmt) (c : Nat) (es : CE) : Bool :=
  decide (1 ≤ i.fn.np) && !i.top && (match ct.cn[c]? with
  | some p => decide (0 < p.2.length) && (match i.fn.bas with
    | none => chkB i.N ⟨fns.map (·.name), gcs, ct⟩ (defScope st) fns es p.2 i.fn.body (gam0 i) (defBody st)
    | some (fb, us) => match defBody st with
      | .Expr (.Call (.Attribute (.Name B _) m ap) (se :: as) [] pos) _ :: ss => decide (m = ("__init__" : Str)) && (ap.endLine == pos.line) && decide ((se :: as).length < 30) && glB (defScope st) B && nmB B && mEs i.N ⟨fns.map (·.name), gcs, ct⟩ (.cons (.var 0) us) (defScope st) (se :: as) &&
        (match fns[fb]?, cL fns (gam0 i) us with
        | some ib, some (ts, _) => (match ib.fn.ini with
          | some (cb, _) => hasN ct B cb && decide ((cb, fb) ∈ ct.bas) && lesB ts (ib.sg.drop 1) && (match ct.cn[cb]? with
            | some pb => decide (pb.2 ++ p.2.drop pb.2.length = p.2) && chkB i.N ⟨fns.map (·.name), gcs, ct⟩ (defScope st) fns es (p.2.drop pb.2.length) i.fn.body (gam0 i) ss
            | none => false)
          | none => false)
        | _, _ => false)
      | _ => false)
  | none => false)
def chkF (fns : List FnI) (gcs : List (Str × Str)) (i : FnI) (st : Stmt) (ct : CT := {}) : Bool :=
  scopeB i.N i.ps (defScope st) && decide (i.fn.np = i.ps.length) && decide (i.fn.ns = i.N.length) && decide (i.sg.length = i.ps.length) && decide (i.fn.np ≤ i.fn.ns) && (if i.fn.io = true then (i.sg.drop 1).all T.flat else i.sg.all T.flat) &&
    match i.fn.ini with
    | some (c, es) => !i.fn.io && chkI fns gcs ct i st c es
    | none => if hasTry i.fn.body = true then !i.fn.io && mBody i.N ⟨fns.map (·.name), gcs, ct⟩ i.fn.body (defScope st) (defBody st) && (match cB fns i.rt i.fn.body (gam0 i) with
        | some none => true
        | some (some _) => T.le .im i.rt
        | none => false)
      else mSs i.N ⟨fns.map (·.name), gcs, ct⟩ i.fn.body (defScope st) (defBody st) &&
      match i.fn.io, cS fns ⟨i.rt, none⟩ none (gam0 i) i.fn.body with
      | false, some none => true
      | false, some (some _) => T.le .im i.rt
      | true, some (some Γ') => decide (0 ∉ wr i.fn.body) && (match (i.sg[0]? : Option T), (Γ'[0]? : Option T) with
        | some (T.ow t), some t' => T.le t' (.ow t)
        | _, _ => false)
      | _, _ => false
/-- a def as it stands behind the top, its defaults whatever they are -/
structure FunW (K : PySem.W.Frag) (x qual : Str) (st : Stmt) (f : Addr) (fd : FuncData) : Prop where
  ex : ∃ (oc : Value) (od : Option Addr) (dV kV doc pm : Value) (an : Option Addr) (cdv ct : Value) (osl : Array (Option Value)),
    fd = PySem.W.fnOf x qual (defArgs st) (defBody st) (defScope st) dV kV doc pm an cdv ct ∧ K.lookup f = some ⟨oc, od, .func fd, osl⟩ ∧ PySem.W.codeIn K cdv qual = true
theorem FunW.okX {P : Program} {w : World} {K : PySem.W.Frag} {mg : Str → Option Value} {base : Heap} {x qual : Str} {st : Stmt} {f : Addr} {fd : FuncData} {N ps : List Str} {k : Nat} {sp : Sp} (F : FunW K x qual st f fd) (S : FnScope N ps (defScope st)) (len : ∀ vs H Q E, sp vs H Q E → vs.length = ps.length)
    (hbody : ∀ (cdv : Value) (A : Around) (outer : List PySem.Env) (s : Shared) (H : Hp) (vs : List V) (Q : VK) (E : XK), Room k (A.deeper (PyProof.Rows.envOfC qual (defScope st) s.heap.objs.size f cdv)) → sp vs H Q E →
      ∃ t, PSs (cxOf (L2.CX P w) P w K mg base N qual (defScope st) f cdv A outer s H E) (defBody st) t ∧ t { nx := fun _ H' => Q .non H', rt := Q } (start N vs) H) : FnOk P w K mg base (L2.CX P w) (k + 1) f fd ps sp := by
  obtain ⟨oc, od, dV, kV, doc, pm, an, cdv, ct, osl, rfl, lk, hcd⟩ := F.ex
  exact fn_of lk hcd S len fun A outer s H vs Q E hr hsp => hbody cdv A outer s H vs Q E hr hsp
structure Gst (G : Glob) (qs : Nat → Str) (sts : Nat → Stmt) : Prop where
  nob : ∀ x ∈ bltNames, G.mg x = none
  gcs : ∀ p ∈ G.gcs, ∃ u, G.mg p.1 = some u ∧ RelV (.str p.2) u
  mgf : ∀ f i, G.fns[f]? = some i → (i.top = true → G.mg i.name = some (.ref (G.fa f))) ∧ PySem.W.keepIn G.K (.ref (G.fa f)) = true ∧ Binds G.K (G.fd f) i.ps []
  dfs : ∀ f i, G.fns[f]? = some i → ∀ l ∈ i.dfs, ∃ ds, Vals (l.map V.int) ds ∧ Binds G.K (G.fd f) i.ps ds
  dn : ∀ f i, G.fns[f]? = some i → i.dn = true → ∃ ds, Vals [V.non] ds ∧ Binds G.K (G.fd f) i.ps ds
  cl : ClsOk G
  xo : ExOk G
  fn : ∀ (f : Nat) (i : FnI), G.fns[f]? = some i → FunW G.K i.name (qs f) (sts f) (G.fa f) (G.fd f)
  chk : ∀ (f : Nat) (i : FnI), G.fns[f]? = some i → chkF G.fns G.gcs i (sts f) G.ct = true
theorem start_get {N : List Str} {vs : List V} {i : Nat} {v : V} (h : vs[i]? = some v) : (start N vs)[i]? = some (some v) := by
  have hi : i < vs.length := (List.getElem?_eq_some_iff.mp h).1
  unfold L2.start
  rw [List.getElem?_append_left (by simpa using hi), List.getElem?_map, h]
  rfl
theorem args_get {K cls N H} : ∀ {ts : List T} {vs : List V} {ds : List D} {i : Nat} {d : D}, ArgsB K cls N H ts vs ds → ds[i]? = some d → ∃ v t, vs[i]? = some v ∧ ts[i]? = some t ∧ RepB K cls N H t v d
  | _, _, _, _, _, .nil, e => by simp at e
  | _, _, _, 0, _, .cons h _, e => by simp at e; subst e; exact ⟨_, _, rfl, rfl, h⟩
  | _, _, _, i + 1, _, .cons _ r, e => by
    obtain ⟨v, t, h1, h2, h3⟩ := args_get (i := i) r (by simpa using e)
    exact ⟨v, t, by simpa using h1, by simpa using h2, h3⟩
theorem sr_start {K : PySem.W.Frag} {cls : Nat → Addr × List Str} {Nn : Addr → Prop} {H : Hp} {i : FnI} {vs : List V} {ds : List D} (h : ArgsB K cls Nn H i.sg vs ds) (h1 : i.sg.length = i.fn.np) (h2 : i.fn.np ≤ i.fn.ns) (h3 : i.fn.ns = i.N.length) (hf : i.sg.all T.flat = true) :
    SR K cls Nn (gam0 i) H H (start i.N vs) (ds.map some ++ List.replicate (i.fn.ns - i.fn.np) none) := by
  have l := h.length
  refine ⟨fun _ => [], fun _ => .nil, fun _ _ _ a z => absurd z (by simp), fun _ a z => absurd z (by simp), Same.refl _, ?_, ?_, fun j d hd => ?_⟩
  · simp only [L2.start, List.length_append, List.length_map, List.length_replicate]; omega
  · simp only [gam0, List.length_append, List.length_map, List.length_replicate]; omega
  · have hj : j < ds.length := by
      by_cases hj : j < ds.length
      · exact hj
      · rw [List.getElem?_append_right (by simpa using hj), List.getElem?_replicate] at hd
        split at hd <;> cases hd
    rw [List.getElem?_append_left (by simpa using hj), List.getElem?_map] at hd
    cases e : ds[j]? with
    | none => rw [e] at hd; cases hd
    | some d' =>
      rw [e] at hd
      cases hd
      obtain ⟨v, t, e1, e2, r⟩ := args_get h e
      refine ⟨v, t, start_get e1, ?_, .bo (List.all_eq_true.mp hf t (List.mem_of_getElem? e2)) (r.mono (Same.refl _) fun a z => ⟨.inl z, fun j => by simp⟩)⟩
      unfold gam0
      rw [List.getElem?_append_left (by omega)]
      exact e2
theorem sr_startI {K : PySem.W.Frag} {cls : Nat → Addr × List Str} {Nn : Addr → Prop} {H : Hp} {i : FnI} {vs : List V} {ds : List D} {x : V} (h : ArgsB K cls Nn H (i.sg.drop 1) vs ds) (h0 : 1 ≤ i.fn.np) (h1 : i.sg.length = i.fn.np) (h2 : i.fn.np ≤ i.fn.ns) (h3 : i.fn.ns = i.N.length) (hf : i.sg.all T.flat = true) :
    SR K cls Nn (gam0 i) H H (start i.N (x :: vs)) (none :: (ds.map some ++ List.replicate (i.fn.ns - i.fn.np) none)) := by
  have l := h.length
  rw [List.length_drop] at l
  refine ⟨fun _ => [], fun _ => .nil, fun _ _ _ a z => absurd z (by simp), fun _ a z => absurd z (by simp), Same.refl _, ?_, ?_, fun j d hd => ?_⟩
  · simp only [L2.start, List.length_append, List.length_map, List.length_replicate, List.length_cons]; omega
  · simp only [gam0, List.length_append, List.length_map, List.length_replicate, List.length_cons]; omega
  · cases j with
    | zero => cases hd
    | succ j =>
      have hd : (ds.map some ++ List.replicate (i.fn.ns - i.fn.np) none)[j]? = some (some d) := by simpa using hd
      have hj : j < ds.length := by
        by_cases hj : j < ds.length
        · exact hj
        · rw [List.getElem?_append_right (by simpa using hj), List.getElem?_replicate] at hd
          split at hd <;> cases hd
      rw [List.getElem?_append_left (by simpa using hj), List.getElem?_map] at hd
      cases e : ds[j]? with
      | none => rw [e] at hd; cases hd
      | some d' =>
        rw [e] at hd
        cases hd
        obtain ⟨v, t, e1, e2, r⟩ := args_get h e
        rw [List.getElem?_drop, Nat.add_comm] at e2
        refine ⟨v, t, start_get (i := j + 1) (by simpa using e1), ?_, .bo (List.all_eq_true.mp hf t (List.mem_of_getElem? e2)) (r.mono (Same.refl _) fun a z => ⟨.inl z, fun j => by simp⟩)⟩
        unfold gam0
        rw [List.getElem?_append_left (by omega)]
        exact e2
theorem hid_same (F : List Addr) (H : Hp) : Same (hid F H) H := fun b u e => by
  unfold hid at e
  split at e
  · cases e
  · exact e
theorem hid_in {F : List Addr} {H : Hp} {a : Addr} (h : a ∈ F) : hid F H a = none := by
  unfold hid
  rw [if_pos h]
theorem sr_startO {K : PySem.W.Frag} {cls : Nat → Addr × List Str} {Nn : Addr → Prop} {H : Hp} {i : FnI} {t : T} {v0 : V} {d0 : D} {F0 : List Addr} {us : List V} {ds : List D} (r0 : ReT K cls Nn H (.ow t) v0 d0 F0) (nd : F0.Nodup) (nF : ∀ a, Nn a → a ∉ F0) (h0 : i.sg[0]? = some (.ow t)) (h : ArgsB K cls Nn H (i.sg.drop 1) us ds) (h1 : i.sg.length = i.fn.np) (h2 : i.fn.np ≤ i.fn.ns) (h3 : i.fn.ns = i.N.length) (hf : (i.sg.drop 1).all T.flat = true) :
    SR K cls Nn (gam0 i) (hid F0 H) H (start i.N (v0 :: us)) ((d0 :: ds).map some ++ List.replicate (i.fn.ns - i.fn.np) none) := by
  have l := h.length
  have l0 : 0 < i.sg.length := (List.getElem?_eq_some_iff.mp h0).1
  rw [List.length_drop] at l
  refine ⟨fun j => if j = 0 then F0 else [], fun j => ?_, fun i j hij a z => ?_, fun j a z => ?_, hid_same _ _, ?_, ?_, fun j d hd => ?_⟩
  · (try dsimp only); split
    · exact nd
    · exact .nil
  · (try dsimp only at z ⊢); split at z
    · rename_i e
      rw [if_neg (fun q => hij (e.trans q.symm))]
      simp
    · simp at z
  · (try dsimp only at z); split at z
    · exact ⟨hid_in z, r0.box a z⟩
    · simp at z
  · simp only [L2.start, List.length_append, List.length_map, List.length_replicate, List.length_cons]; omega
  · simp only [gam0, List.length_append, List.length_map, List.length_replicate, List.length_cons]; omega
  · have hj : j < (d0 :: ds).length := by
      by_cases hj : j < (d0 :: ds).length
      · exact hj
      · rw [List.getElem?_append_right (by simpa using hj), List.getElem?_replicate] at hd
        split at hd <;> cases hd
    rw [List.getElem?_append_left (by simpa using hj), List.getElem?_map] at hd
    cases j with
    | zero =>
      have hd : some d0 = some d := by simpa using hd
      cases hd
      refine ⟨v0, .ow t, start_get (i := 0) rfl, ?_, ?_⟩
      · unfold gam0
        rw [List.getElem?_append_left l0]
        exact h0
      · refine r0.mono (Same.refl _) fun a z => ⟨.inl z, fun j => ?_⟩
        (try dsimp only)
        split
        · exact nF a z
        · simp
    | succ j =>
      cases e : ds[j]? with
      | none =>
        have : (d0 :: ds)[j + 1]? = none := e
        rw [this] at hd
        cases hd
      | some d' =>
        have : (d0 :: ds)[j + 1]? = some d' := e
        rw [this] at hd
        cases hd
        obtain ⟨v, t', e1, e2, r⟩ := args_get h e
        have hfl := List.all_eq_true.mp hf t' (List.mem_of_getElem? e2)
        rw [List.getElem?_drop, Nat.add_comm] at e2
        refine ⟨v, t', start_get (i := j + 1) (by simpa using e1), ?_, .bo hfl (r.mono (Same.refl _) fun a z => ⟨.inl z, fun j => ?_⟩)⟩
        · unfold gam0
          rw [List.getElem?_append_left (by have := (List.getElem?_eq_some_iff.mp e2).1; omega)]
          exact e2
        · (try dsimp only)
          split
          · exact nF a z
          · simp
def tIn (G : Glob) (C : CallW) (w : WX) (Γ : List T) (c c2 : Nat) (x dx : Addr) (b : CS) (es : CE) (fs : List Str) : TS := fun En σ H => ∃ Nz H0 env done ds0, ∃ Q : List Pv.D → Prop, ∃ Xp : Ex → Prop, SR G.K G.cls Nz Γ H0 H σ env ∧ σ[0]? = some (some (.ref x)) ∧ H0 x = some (.ins (G.cls c2).1 dx done) ∧ Reps G.K G.cls N0 H0 (done.map (·.2)) ds0 ∧ done.map (·.1) ++ fs = (G.cls c).2 ∧
  W C b { nx := fun env => Es C es env Q, rt := fun _ => False, ex := fun x _ => Xp x } env ∧ (∀ y σ' H', y < G.ct.xs.length → (∀ b u, b ≠ x → H0 b = some u → H' b = some u) → Xp y → w (.ref (G.ec y)) none σ' H') ∧
  ∀ H' done' ds', H' x = some (.ins (G.cls c2).1 dx done') → done'.map (·.1) = (G.cls c).2 → Reps G.K G.cls N0 H' (done'.map (·.2)) (ds0 ++ ds') → (∀ b u, b ≠ x → H0 b = some u → H' b = some u) → Q ds' → ∀ σ', En.nx σ' H'
theorem sIn {G : Glob} {k : Nat} {N : List Str} {sc : Scope} {X : Cx} {w : WX} {c c2 : Nat} {x dx : Addr} (g : Good G k N sc X) (fc : FnC sc X) (tk : Takes X w) {p p2 : Str × List Str} (hp : G.ct.cn[c]? = some p) (hp2 : G.ct.cn[c2]? = some p2) (pf : p.2 <+: p2.2) {es : CE} {fs : List Str} (hpre : ∃ pre, pre ++ fs = p.2) :
    ∀ (b : CS) {Γ : List T} {ss : List Stmt}, chkB N (names G) sc G.fns es fs b Γ ss = true → PSs X ss (tIn G (Cw (FTof G.fns) k) w Γ c c2 x dx b es fs)
  | .nil, Γ, ss, hm => by
    unfold chkB at hm
    rw [Bool.and_eq_true] at hm
    refine (sFl (x := x) (dx := dx) g hp hp2 pf es fs ss hm.1 hm.2 hpre).sub fun D σ H ⟨Nz, H0, env, done, ds0, Q, Xp, sr, h0, hx, rp, hn, hW, kx, kk⟩ => ?_
    obtain ⟨Fs, sr'⟩ := sr
    exact ⟨Nz, H0, env, done, ds0, Q, ⟨Fs, sr'⟩, h0, hx, rp.mono sr'.same fun _ z => z, hn, hW, fun H' done' ds' a1 a2 a3 a4 a5 => kk H' done' ds' a1 a2 a3 a4 a5 σ⟩
  | .seq a b, Γ, [], hm => by cases hm
  | .seq a b, Γ, st :: ss, hm => by
    unfold chkB at hm
    simp only [Bool.and_eq_true, decide_eq_true_eq] at hm
    obtain ⟨⟨hm, h0a⟩, hm2⟩ := hm
    split at hm2
    · rename_i Γ' hc
      refine (pss_cons (sS g fc tk a hm hc) (sIn (x := x) (dx := dx) g fc tk hp hp2 pf hpre b hm2)).sub fun D σ H ⟨Nz, H0, env, done, ds0, Q, Xp, sr, h0, hx, rp, hn, hW, kx, kk⟩ => ?_
      simp only [W] at hW
      refine ⟨Nz, H0, env, _, sr, hW, fun Γ2 σ' H' env' e sr' q => ?_, fun _ _ _ _ e => (by cases e.1), fun _ _ _ _ e => (by cases e.1), fun v H' d s' rs q => q.elim, fun Γ2 σ' H' env' y _ hy sr' q => ?_⟩
      · obtain ⟨e, fr⟩ := e
        cases e
        exact ⟨Nz, H0, env', done, ds0, Q, Xp, sr', by rw [fr 0 h0a]; exact h0, hx, rp, hn, q, kx, kk⟩
      · obtain ⟨Fs, sr'⟩ := sr'
        exact kx y σ' H' hy (fun b u _ e => sr'.same _ _ e) q
    · cases hm2
theorem ArgsB.off {K : PySem.W.Frag} {cls : Nat → Addr × List Str} {N : Addr → Prop} {H H' : Hp} {x : Addr} (o : OffB cls H H' x) : ∀ {ts : List T} {vs : List V} {ds : List D}, ArgsB K cls N H ts vs ds → ArgsB K cls N H' ts vs ds
  | _, _, _, .nil => .nil
  | _, _, _, .cons h r => .cons (h.off o) (ArgsB.off o r)
theorem fn_step {G : Glob} {qs : Nat → Str} {sts : Nat → Stmt} (S : Gst G qs sts) {k : Nat} (g : Gok G k) {f : Nat} {i : FnI} (hi : G.fns[f]? = some i) : FnOk G.P G.w G.K G.mg G.base (L2.CX G.P G.w) (2 * (k + 1)) (G.fa f) (G.fd f) i.ps (spG G (k + 1) f) := by
  have hc := S.chk f i hi
  unfold chkF at hc
  simp only [Bool.and_eq_true, decide_eq_true_eq] at hc
  obtain ⟨⟨⟨⟨⟨⟨c1, c2⟩, c3⟩, c4⟩, c5⟩, c6⟩, c7⟩ := hc
  have sc := scopeB_of c1
  have hF : (FTof G.fns)[f]? = some i.fn := by
    unfold FTof
    rw [List.getElem?_map, hi]
    rfl
  cases hini : i.fn.ini with
  | none =>
    rw [hini] at c7
    dsimp only at c7
    by_cases hty : hasTry i.fn.body = true
    · rw [if_pos hty] at c7
      simp only [Bool.and_eq_true, Bool.not_eq_true'] at c7
      obtain ⟨⟨hio, c7⟩, c8⟩ := c7
      rw [spG_F hi hini hio]
      rw [hio] at c6
      have c6 : i.sg.all T.flat = true := c6
      refine (S.fn f i hi).okX sc (fun vs H Q E h => ?_) fun cdv A outer s H vs Q E hr h => ?_
      · obtain ⟨i', ds, Nn, R, hi', hl, _⟩ := h
        rw [hi] at hi'
        cases hi'
        exact hl
      · obtain ⟨i', ds, Nn, R, hi', hl, ar, ⟨Xp, hC, kx⟩, kk⟩ := h
        rw [hi] at hi'
        cases hi'
        simp only [Cw, Cr, hF, hini, hio] at hC
        have gd : Good G k i.N (defScope (sts f)) (cxOf (L2.CX G.P G.w) G.P G.w G.K G.mg G.base i.N (qs f) (defScope (sts f)) (G.fa f) cdv A outer s H E) :=
          ⟨rfl, rfl, rfl, rfl, rfl, rfl, sc.nd, rfl, rfl, hr, passes_of rfl, g⟩
        have sr := sr_start ar (by omega) c5 c3 c6
        cases hr2 : cB G.fns i.rt i.fn.body (gam0 i) with
        | none => rw [hr2] at c8; cases c8
        | some r =>
          refine ⟨_, sBody gd (fun _ _ => rfl) (takes_of rfl rfl rfl rfl) rfl rfl i.fn.body c7 hr2, ?_⟩
          refine ⟨Nn, H, _, _, sr, hC.2, fun Γ' σ' H' env' e sr' q => ?_, fun v H' d s' rs q => kk v H' d s' rs q, fun Γ' σ' H' env' x hx sr' q => ?_⟩
          · subst e
            rw [hr2] at c8
            obtain ⟨Fs, sr'⟩ := sr'
            exact kk .non H' .non sr'.same ((rs_im .non).le c8) q
          · obtain ⟨Fs, sr'⟩ := sr'
            exact kx x H' hx sr'.same q
    rw [if_neg hty] at c7
    simp only [Bool.and_eq_true] at c7
    obtain ⟨c7, c8⟩ := c7
    cases hio : i.fn.io with
    | true =>
      rw [spG_O hi hini hio]
      rw [hio, if_pos rfl] at c6
      rw [hio] at c8
      refine (S.fn f i hi).okX sc (fun vs H Q E h => ?_) fun cdv A outer s H vs Q E hr h => ?_
      · obtain ⟨i', t, v0, d0, F0, us, ds, Nn, R, hi', _, _, _, hl, _⟩ := h
        rw [hi] at hi'
        cases hi'
        exact hl
      · obtain ⟨i', t, v0, d0, F0, us, ds, Nn, R, hi', _, _, rfl, hl, hsg, nd, nF, r0, ar, hC, kk⟩ := h
        rw [hi] at hi'
        cases hi'
        simp only [Cw, Cr, hF, hini, hio] at hC
        have gd : Good G k i.N (defScope (sts f)) (cxOf (L2.CX G.P G.w) G.P G.w G.K G.mg G.base i.N (qs f) (defScope (sts f)) (G.fa f) cdv A outer s H E) :=
          ⟨rfl, rfl, rfl, rfl, rfl, rfl, sc.nd, rfl, rfl, hr, passes_of rfl, g⟩
        have sr := sr_startO r0 nd nF hsg ar (by omega) c5 c3 c6
        cases hr2 : cS G.fns ⟨i.rt, none⟩ none (gam0 i) i.fn.body with
        | none => rw [hr2] at c8; cases c8
        | some r =>
          rw [hr2] at c8
          cases r with
          | none => cases c8
          | some Γe =>
            rw [hsg] at c8
            simp only [Bool.and_eq_true, decide_eq_true_eq] at c8
            obtain ⟨c8, c9⟩ := c8
            split at c9
            · rename_i t1 t' ht1 ht'
              cases ht1
              refine ⟨_, sSs gd (fun _ _ => rfl) (takes_of rfl rfl rfl rfl) i.fn.body c7 hr2, ?_⟩
              refine ⟨Nn, _, _, _, sr, hC.2, fun Γ' σ' H' env' e sr' q => ?_, fun _ _ _ _ e => (by cases e.1), fun _ _ _ _ e => (by cases e.1), fun v H' d s' rs q => q.elim, fun Γ' σ' H' env' x _ hx sr' q => q.elim⟩
              obtain ⟨e, fr⟩ := e
              cases e
              obtain ⟨Fs, sr'⟩ := sr'
              obtain ⟨d', hd', q⟩ := at_some q
              obtain ⟨v, e1, rs⟩ := sr'.own1 ht' hd'
              rw [fr 0 c8] at e1
              have e0 : (start i.N (v0 :: us))[0]? = some (some v0) := start_get (i := 0) rfl
              rw [e0] at e1
              cases e1
              exact kk H' d' sr'.same (rs.le c9) q
            · cases c9
    | false =>
    rw [spG_F hi hini hio]
    rw [hio] at c6 c8
    have c6 : i.sg.all T.flat = true := c6
    refine (S.fn f i hi).okX sc (fun vs H Q E h => ?_) fun cdv A outer s H vs Q E hr h => ?_
    · obtain ⟨i', ds, Nn, R, hi', hl, _⟩ := h
      rw [hi] at hi'
      cases hi'
      exact hl
    · obtain ⟨i', ds, Nn, R, hi', hl, ar, ⟨Xp, hC, kx⟩, kk⟩ := h
      rw [hi] at hi'
      cases hi'
      simp only [Cw, Cr, hF, hini, hio] at hC
      have gd : Good G k i.N (defScope (sts f)) (cxOf (L2.CX G.P G.w) G.P G.w G.K G.mg G.base i.N (qs f) (defScope (sts f)) (G.fa f) cdv A outer s H E) :=
        ⟨rfl, rfl, rfl, rfl, rfl, rfl, sc.nd, rfl, rfl, hr, passes_of rfl, g⟩
      have sr := sr_start ar (by omega) c5 c3 c6
      cases hr2 : cS G.fns ⟨i.rt, none⟩ none (gam0 i) i.fn.body with
      | none => rw [hr2] at c8; cases c8
      | some r =>
        refine ⟨_, sSs gd (fun _ _ => rfl) (takes_of rfl rfl rfl rfl) i.fn.body c7 hr2, ?_⟩
        refine ⟨Nn, H, _, _, sr, hC.2, fun Γ' σ' H' env' e sr' q => ?_, fun _ _ _ _ e => (by cases e.1), fun _ _ _ _ e => (by cases e.1), fun v H' d s' rs q => kk v H' d s' rs q, fun Γ' σ' H' env' x _ hx sr' q => ?_⟩
        rotate_left
        · obtain ⟨Fs, sr'⟩ := sr'
          exact kx x H' hx sr'.same q
        obtain ⟨e, _⟩ := e
        subst e
        rw [hr2] at c8
        obtain ⟨Fs, sr'⟩ := sr'
        exact kk .non H' .non sr'.same ((rs_im .non).le c8) q
  | some ce =>
    obtain ⟨c, es⟩ := ce
    rw [hini] at c7
    simp only [chkI, Bool.and_eq_true, decide_eq_true_eq, Bool.not_eq_true'] at c7
    obtain ⟨dio, ⟨d2, d3⟩, d4⟩ := c7
    rw [dio] at c6
    have c6 : i.sg.all T.flat = true := c6
    rw [spG_I hi hini]
    refine (S.fn f i hi).okX sc (fun vs H Q E h => ?_) fun cdv A outer s H vs Q E hr h => ?_
    · obtain ⟨i', c', es', c2, p2, x, dx, us, ds, Nn, R, hi', hini', rfl, hl, _⟩ := h
      rw [hi] at hi'
      cases hi'
      exact hl
    · obtain ⟨i', c', es', c2, p2, x, dx, us, ds, Nn, R, hi', hini', rfl, hl, hp2, pf, hx, ar, ⟨Xp, hC, kx⟩, kk⟩ := h
      rw [hi] at hi'
      cases hi'
      rw [hini] at hini'
      cases hini'
      simp only [Cw, Cr, hF, hini] at hC
      obtain ⟨hC1, hC⟩ := hC
      have gd : Good G k i.N (defScope (sts f)) (cxOf (L2.CX G.P G.w) G.P G.w G.K G.mg G.base i.N (qs f) (defScope (sts f)) (G.fa f) cdv A outer s H E) :=
        ⟨rfl, rfl, rfl, rfl, rfl, rfl, sc.nd, rfl, rfl, hr, passes_of rfl, g⟩
      have tk : Takes (cxOf (L2.CX G.P G.w) G.P G.w G.K G.mg G.base i.N (qs f) (defScope (sts f)) (G.fa f) cdv A outer s H E) (fun cls d _ H => E cls d H) := takes_of rfl rfl rfl rfl
      have sr := sr_startI (x := .ref x) ar d2 (by omega) c5 c3 c6
      have σ0 : (start i.N (V.ref x :: us))[0]? = some (some (.ref x)) := by
        unfold L2.start
        rfl
      split at d4
      case h_2 => cases d4
      rename_i p hp
      rw [Bool.and_eq_true, decide_eq_true_eq] at d4
      obtain ⟨d0, d4⟩ := d4
      have ec := (g.cl.cn c p hp).2.1
      have pf' : p.2 <+: p2.2 := by rw [← ec]; exact pf
      have part : ∀ c', (G.cls c').1 = (G.cls c2).1 → ([] : List (Str × V)).map (·.1) ≠ (G.cls c').2 := fun c' e z => by
        have := g.cl.pre c2 p2 0 c' hp2 (Nat.lt_of_lt_of_le d0 pf'.length_le) e
        rw [List.take_zero] at this
        exact this z
      cases hb : i.fn.bas with
      | none =>
        rw [hb] at d4 hC
        refine ⟨_, sIn (x := x) (dx := dx) (c := c) (c2 := c2) gd (fun _ _ => rfl) tk hp hp2 pf' ⟨[], rfl⟩ i.fn.body d4, Nn, H, _, [], [], _, Xp, sr, σ0, hx, .nil, ?_, hC, fun y σ' H' hy off z => kx y H' hy off z, fun H' done' ds' a1 a2 a3 a4 a5 _ => ?_⟩
        · rw [ec]
          rfl
        · exact kk H' done' ds' a4 a1 a2 a3 a5
      | some q =>
        obtain ⟨fb, us0⟩ := q
        rw [hb] at d4 hC
        dsimp only at d4 hC
        split at d4
        case h_2 => cases d4
        rename_i B bp m ap se as pos epos ss hbody
        simp only [Bool.and_eq_true, decide_eq_true_eq] at d4
        obtain ⟨⟨⟨⟨⟨⟨rfl, hline⟩, hlen⟩, hgl⟩, hnm⟩, hes⟩, d4⟩ := d4
        split at d4
        case h_2 => cases d4
        rename_i ib ts Aa hib hts
        split at d4
        case h_2 => cases d4
        rename_i cb esb hinib
        simp only [Bool.and_eq_true, decide_eq_true_eq] at d4
        obtain ⟨⟨⟨hN, hbas⟩, hles⟩, d4⟩ := d4
        split at d4
        case h_2 => cases d4
        rename_i pb hpb
        rw [Bool.and_eq_true, decide_eq_true_eq] at d4
        obtain ⟨epf, d4⟩ := d4
        have ecb := (g.cl.cn cb pb hpb).2.1
        unfold hasN at hN
        rw [hpb] at hN
        have hN := of_decide_eq_true hN
        have hplain := mEs_plain _ hes
        unfold mEs at hes
        simp only [Bool.and_eq_true] at hes
        obtain ⟨⟨hpl0, hse⟩, hes⟩ := hes
        have F : FnOk G.P G.w G.K G.mg G.base (L2.CX G.P G.w) (2 * k) (G.fa fb) (G.fd fb) ib.ps (spI G k fb) := by
          rw [← spG_I hib hinib]
          exact g.ok fb ib hib
        obtain ⟨Fs, sr'⟩ := sr
        have pa := pa_cons (var_pe gd hse) (sEs us0 gd (Γ := gam0 i) (L := Lof Nn H H Fs) hes hts) (plain_star (hplain se (by simp)))
        have call := pe_clsfn (m := "__init__") (pl := do return (← importBound (.Name B bp) _).getD true) (pe_glob (v := .ref (G.cls cb).1) (gd.gl hgl) (by show G.mg B = _; rw [← hN]; exact (g.cl.cn cb pb hpb).2.2.2.2.2) rfl (nm_of hnm).1) (g.cl.bas _ hbas) F (g.mgf fb ib hib).2.2 (gd.room.mono (show 2 * k ≤ 2 * k + 1 by omega)) (passes_call tk fun _ _ _ _ h => h) pa
          (plain_star (hplain se (by simp))) (star_any fun z hz => hplain z (by simp [hz])) (meth_form (recv_of rfl) hline (star_all hplain) hlen)
        rw [hbody]
        refine ⟨_, pss_cons (ps_expr call (no_swap rfl)) (sIn (x := x) (dx := dx) (c := c) (c2 := c2) gd (fun _ _ => rfl) tk hp hp2 pf' ⟨pb.2, epf⟩ i.fn.body d4), ?_⟩
        refine ⟨rfl, .ref x, σ0, _, _, sr'.er, hC, fun vs H1 xs s1 rs hq => ?_⟩
        obtain ⟨F1, nd, fr, r⟩ := rs
        have ar1 := ReTL.args hles r
        have pfb : pb.2 <+: p.2 := ⟨_, epf⟩
        refine ⟨ib, cb, esb, c2, p2, x, dx, vs, xs, _, _, hib, hinib, rfl, ?_, hp2, by rw [ecb]; exact pfb.trans pf', s1 _ _ hx, ar1, ⟨Xp, hq, fun y H' hy off z => kx y H' hy (fun b u n e => off b u n (s1 _ _ e)) z⟩, fun H' fs es' off hx' hf rp q => ?_⟩
        · have l1 := g.len fb ib hib
          have l2 := ar1.length.1
          rw [List.length_drop] at l2
          have l4 := g.sg0 fb ib hib (by rw [hinib]; rfl)
          have l3 : 0 < ib.ps.length := by rw [← l1]; exact Nat.pos_of_ne_zero l4
          rw [List.length_cons]
          omega
        · obtain ⟨cb', ds0, e, hW⟩ := q
          cases e
          have o : OffB G.cls H1 H' x := ⟨off, _, dx, [], s1 _ _ hx, part⟩
          have ar2 : ArgsB G.K G.cls Nn H' (i.sg.drop 1) us ds := (ArgsB.same s1 ar).off o
          have sr2 := sr_startI (x := .ref x) ar2 d2 (by omega) c5 c3 c6
          refine ⟨Nn, H', _, fs, es', _, Xp, sr2, σ0, hx', rp, ?_, hW, fun y σ' H'' hy off' z => kx y H'' hy (fun b u n e => off' b u n (off b u n (s1 _ _ e))) z, fun H'' done' ds' a1 a2 a3 a4 a5 _ => ?_⟩
          · rw [hf, ecb, ec]
            exact epf
          · exact kk H'' done' _ (fun b u n e => a4 b u n (off b u n (s1 _ _ e))) a1 a2 a3 a5
theorem gok {G : Glob} {qs : Nat → Str} {sts : Nat → Stmt} (S : Gst G qs sts) : ∀ k, Gok G k := by
  have len : ∀ (f : Nat) (i : FnI), G.fns[f]? = some i → i.sg.length = i.ps.length := fun f i hi => by
    have hc := S.chk f i hi
    unfold chkF at hc
    simp only [Bool.and_eq_true, decide_eq_true_eq] at hc
    exact hc.1.1.1.2
  have sg0 : ∀ (f : Nat) (i : FnI), G.fns[f]? = some i → i.fn.ini.isSome = true → i.sg.length ≠ 0 := fun f i hi hs => by
    have hc := S.chk f i hi
    unfold chkF at hc
    simp only [Bool.and_eq_true, decide_eq_true_eq] at hc
    obtain ⟨⟨⟨⟨⟨⟨c1, c2⟩, c3⟩, c4⟩, c5⟩, c6⟩, c7⟩ := hc
    cases h : i.fn.ini with
    | none => rw [h] at hs; cases hs
    | some ce =>
      rw [h] at c7
      simp only [chkI, Bool.and_eq_true, decide_eq_true_eq] at c7
      have := c7.2.1.1
      omega
  intro k
  induction k with
  | zero =>
    refine ⟨S.nob, S.gcs, S.mgf, S.dfs, S.dn, len, S.cl, S.xo, sg0, fun f i hi => ?_⟩
    cases hini : i.fn.ini with
    | none =>
      cases hio : i.fn.io with
      | true =>
        rw [spG_O hi hini hio]
        refine ⟨fun vs H Q E h => ?_, fun A outer s H args us vs Q E _ _ _ _ h => ?_⟩
        · obtain ⟨i', t, v0, d0, F0, us, ds, Nn, R, hi', _, _, _, hl, _⟩ := h
          rw [hi] at hi'
          cases hi'
          exact hl
        · obtain ⟨i', t, v0, d0, F0, us, ds, Nn, R, hi', _, _, _, hl, _, _, _, _, _, hC, _⟩ := h
          exact hC.elim
      | false =>
      rw [spG_F hi hini hio]
      refine ⟨fun vs H Q E h => ?_, fun A outer s H args us vs Q E _ _ _ _ h => ?_⟩
      · obtain ⟨i', ds, Nn, R, hi', hl, _⟩ := h
        rw [hi] at hi'
        cases hi'
        exact hl
      · obtain ⟨i', ds, Nn, R, hi', hl, ar, ⟨Xp, hC, kx⟩, kk⟩ := h
        exact hC.elim
    | some ce =>
      rw [spG_I hi hini]
      refine ⟨fun vs H Q E h => ?_, fun A outer s H args us vs Q E _ _ _ _ h => ?_⟩
      · obtain ⟨i', c', es', c2, p2, x, dx, us, ds, Nn, R, hi', hini', rfl, hl, _⟩ := h
        rw [hi] at hi'
        cases hi'
        exact hl
      · obtain ⟨i', c', es', c2, p2, x, dx, us, ds, Nn, R, hi', hini', rfl, hl, hp2, pf, hx, ar, ⟨Xp, hC, kx⟩, kk⟩ := h
        exact hC.elim
  | succ k ih => exact ⟨S.nob, S.gcs, S.mgf, S.dfs, S.dn, len, S.cl, S.xo, sg0, fun f i hi => fn_step S ih hi⟩
/-! ### the law -/
def noLst (K : PySem.W.Frag) : Bool := K.all fun p => match p.2.cls with
  | .type n => n != "list"
  | _ => true
theorem look_mem {α : Type} : ∀ {l : List (Addr × α)} {a : Addr} {o : α}, l.lookup a = some o → (a, o) ∈ l
  | [], _, _, e => by cases e
  | (b, u) :: r, a, o, e => by
    rw [List.lookup_cons] at e
    split at e
    · rename_i q
      cases e
      have := eq_of_beq q
      subst this
      exact List.mem_cons_self
    · exact List.mem_cons_of_mem _ (look_mem e)
theorem noLst_rd {K : PySem.W.Frag} (h : noLst K = true) {H : Hp} {a : Addr} {xs : List V} (s : SqL K H a xs) : Rd H a (.lst xs) := by
  rcases s with s | ⟨o, its, n, hk, hc, _⟩
  · exact s
  · have := List.all_eq_true.mp h _ (look_mem hk)
    simp only [hc] at this
    simp at this
/-- the script -/
def scr (ns : List Int) : D := .lst (ns.map D.int)
theorem ints_pair {K cls N H} : ∀ ns : List Int, Paired (RepB K cls N H .im) (ns.map V.int) (ns.map D.int)
  | [] => .nil
  | n :: ns => .cons (.int n) (ints_pair ns)
theorem law_sp {G : Glob} {k f : Nat} {i : FnI} (hi : G.fns[f]? = some i) (hs : i.sg = [.s .im]) (hp : i.ps.length = 1) {H : Hp} {a : Addr} {ns : List Int} (hL : Rd H a (.lst (ns.map V.int))) (h : Cw (FTof G.fns) k f [scr ns] fun d => d = .bl true) : spF G k f [.ref a] H (fun v _ => v = .bl true) fun _ _ _ => False := by
  refine ⟨i, [scr ns], fun _ => True, _, hi, by rw [hp]; rfl, ?_, .none h, fun v H' d _ rs e => ?_⟩
  · rw [hs]
    exact .cons (.lst trivial hL (ints_pair ns)) .nil
  · subst e
    obtain ⟨F, _, _, r⟩ := rs
    exact rep_bl r.bor.rep
end Pv

set_option maxRecDepth 100000
set_option maxHeartbeats 1000000
namespace Pv
open PySem L2
/-! ### what the top has left -/
structure Ent where
  i : FnI
  st : Stmt
  f : Addr
  fd : FuncData
  qn : Str
def EntOk (K : PySem.W.Frag) (mg : Str → Option Value) (e : Ent) : Prop := (e.i.top = true → mg e.i.name = some (.ref e.f)) ∧ PySem.W.keepIn K (.ref e.f) = true ∧ (Binds K e.fd e.i.ps [] ∧ (∀ l ∈ e.i.dfs, ∃ ds, Vals (l.map V.int) ds ∧ Binds K e.fd e.i.ps ds) ∧ (e.i.dn = true → ∃ ds, Vals [V.non] ds ∧ Binds K e.fd e.i.ps ds)) ∧ FunW K e.i.name e.qn e.st e.f e.fd
def allE {α : Type} (P : α → Prop) : List α → Prop
  | [] => True
  | e :: r => P e ∧ allE P r
theorem allE_get {α : Type} {P : α → Prop} : ∀ {L : List α} {j : Nat} {e : α}, allE P L → L[j]? = some e → P e
  | [], _, _, _, h => by simp at h
  | _ :: _, 0, _, a, h => by simp at h; subst h; exact a.1
  | _ :: r, j + 1, _, a, h => allE_get (j := j) a.2 (by simpa using h)
theorem allE_mem {α : Type} {P : α → Prop} {L : List α} {e : α} (h : allE P L) (m : e ∈ L) : P e := by
  obtain ⟨j, hj⟩ := List.getElem?_of_mem m
  exact allE_get h hj
structure CEnt where
  C : Addr
  p : Str × List Str
def IcOk (K : PySem.W.Frag) (C : Addr) : Prop := PySem.W.findIn K (.ref C) "__class__" = some (some (.builtin "object.__class__")) ∧ PySem.W.specialIn K (.builtin "object.__class__") "__get__" = some (some (.builtin "getset_descriptor.__get__")) ∧ PySem.W.takesIn K (.builtin "object.__class__") = some true ∧ PySem.W.mroIn K C (.type "object") = some true
def CEntOk (K : PySem.W.Frag) (mg : Str → Option Value) (e : CEnt) : Prop := Cls K e.C ∧ allE (NoAttr K e.C) e.p.2 ∧ mg e.p.1 = some (.ref e.C) ∧ IcOk K e.C
def noSt : Stmt := .Pass ⟨0, 0, 0, 0⟩
def clsOf (CL : List CEnt) (c : Nat) : Addr × List Str := (CL[c]?.map fun e => (e.C, e.p.2)).getD (0, ["", ""])
/-- an exception class -/
structure XEnt where
  C : Addr
  p : Str × List Nat
def XEntOk (K : PySem.W.Frag) (mg : Str → Option Value) (e : XEnt) : Prop := Exc1 K mg e.p.1 e.C
theorem kit_ve {K : PySem.W.Frag} {C : Addr} (h : PySem.W.subIn K (.ref C) (.type "ValueError") = some true) : PySem.W.kitOne K (.ref C) (.type "ValueError") = some true := by
  unfold PySem.W.kitOne
  rw [if_neg (by simp)]
  show (if PySem.W.kitMeta "ValueError" = true then PySem.W.subIn K (.ref C) (.type "ValueError") else none) = _
  rw [if_pos (by decide +kernel)]
  exact h
theorem kit_x {K : PySem.W.Frag} {C D : Addr} {b : Bool} (hd : PySem.W.hasDictIn K D = true) (ht : PySem.W.typeIn K (.ref D) = some (.type "type")) (hs : PySem.W.subIn K (.ref C) (.ref D) = some b) (hc : PySem.W.subIn K (.ref C) (.ref C) = some true) : PySem.W.kitOne K (.ref C) (.ref D) = some b := by
  unfold PySem.W.kitOne
  by_cases e : C = D
  · subst e
    rw [hs] at hc
    rw [if_pos (by simp)]
    exact hc.symm
  · rw [if_neg (by simpa using e)]
    obtain ⟨cd, hC, _⟩ := PySem.W.any_some hd
    show (if ((PySem.W.clsIn K D).isSome && PySem.W.typeIn K (.ref D) == some (.type "type")) = true then PySem.W.subIn K (.ref C) (.ref D) else none) = _
    rw [if_pos (by rw [hC, ht]; rfl)]
    exact hs
def XAll (K : PySem.W.Frag) (XL : List XEnt) : Nat → List XEnt → Prop
  | _, [] => True
  | c, e :: r => allE (fun q : XEnt => PySem.W.subIn K (.ref e.C) (.ref q.C) = some (decide (c ∈ q.p.2))) XL ∧ XAll K XL (c + 1) r
theorem XAll.get {K : PySem.W.Frag} {XL : List XEnt} : ∀ {l : List XEnt} {n c : Nat} {e : XEnt}, XAll K XL n l → l[c]? = some e → allE (fun q : XEnt => PySem.W.subIn K (.ref e.C) (.ref q.C) = some (decide (n + c ∈ q.p.2))) XL
  | [], _, _, _, _, h => by simp at h
  | _ :: _, n, 0, _, a, h => by simp at h; subst h; exact a.1
  | _ :: r, n, c + 1, _, a, h => by
    have := XAll.get (c := c) a.2 (by simpa using h)
    rw [show n + (c + 1) = n + 1 + c by omega]
    exact this
def globOf (P : Program) (w : World) (K : PySem.W.Frag) (mg : Str → Option Value) (base : Heap) (fd0 : FuncData) (gcs : List (Str × Str)) (L : List Ent) (ct : CT) (CL : List CEnt) (XL : List XEnt) : Glob :=
  ⟨P, w, K, mg, base, clsOf CL, L.map (·.i), gcs, ct, fun j => (L[j]?.map (·.f)).getD 0, fun j => (L[j]?.map (·.fd)).getD fd0, fun c => (XL[c]?.map (·.C)).getD 0⟩
theorem exc_ok {P : Program} {w : World} {K : PySem.W.Frag} {mg : Str → Option Value} {base : Heap} {fd0 : FuncData} {gcs : List (Str × Str)} {L : List Ent} {ct : CT} {CL : List CEnt} {XL : List XEnt} (h : allE (XEntOk K mg) XL) (hp : XL.map (·.p) = ct.xs) (hx : XAll K XL 0 XL) (hb : (ct.xs.zipIdx.all fun q => decide (q.2 ∈ q.1.2)) = true) : ExOk (globOf P w K mg base fd0 gcs L ct CL XL) := by
  have get : ∀ (c : Nat) (p : Str × List Nat), ct.xs[c]? = some p → ∃ C, XL[c]? = some ⟨C, p⟩ := fun c p hp' => by
    rw [← hp, List.getElem?_map] at hp'
    cases e : XL[c]? with
    | none => rw [e] at hp'; cases hp'
    | some x =>
      rw [e] at hp'
      have hp' : x.p = p := Option.some.inj hp'
      subst hp'
      exact ⟨x.C, rfl⟩
  refine ⟨fun c p hp' => ?_, fun c d q hc hd => ?_⟩
  · obtain ⟨C, h1⟩ := get c p hp'
    have := allE_get h h1
    simp only [globOf, h1, Option.map_some, Option.getD_some]
    exact this
  · obtain ⟨D, h2⟩ := get d q hd
    obtain ⟨C, h1⟩ := get c _ (List.getElem?_eq_getElem hc)
    have h3 := allE_get (hx.get h1) h2
    have h4 := allE_get (hx.get h1) h1
    have h5 := allE_get h h2
    have h6 : c ∈ (ct.xs[c]).2 := by
      have := List.all_eq_true.mp hb (ct.xs[c], c) (List.mk_mem_zipIdx_iff_getElem?.mpr (List.getElem?_eq_getElem hc))
      simpa using this
    rw [Nat.zero_add] at h3 h4
    simp only [globOf, h1, h2, Option.map_some, Option.getD_some]
    refine ⟨h3, kit_x h5.ec.hd h5.tP h3 (h4.trans ?_)⟩
    show some (decide (c ∈ (ct.xs[c]).2)) = _
    rw [decide_eq_true h6]
/-- an instance of C is one of D -/
def SubF (K : PySem.W.Frag) (C D : Addr) : Prop := PySem.W.hasDictIn K D = true ∧ PySem.W.typeIn K (.ref D) = some (.type "type") ∧ PySem.W.subIn K (.ref C) (.ref D) = some true ∧ PySem.W.subIn K (.ref C) (.ref C) = some true
/-- C is not D -/
def NeF (K : PySem.W.Frag) (C D : Addr) : Prop := PySem.W.subIn K (.ref C) (.ref D) = some false ∧ PySem.W.subIn K (.ref D) (.ref D) = some true
/-- what is looked at of the classes' table -/
def ctB (ct : CT) : Bool := (ct.cn.zipIdx.all fun p => decide p.1.2.Nodup && decide (p.1.2.length < 1000) && ct.cn.zipIdx.all fun q => (List.range p.1.2.length).all fun n => !decide (p.1.2.take n = q.1.2) || decide ((q.2, p.2) ∈ ct.ne)) &&
  (ct.ms.all fun q => match ct.cn[q.1]? with
  | some p => !decide (q.2.1 ∈ p.2)
  | none => false) && ct.sub.all fun q => decide (q.1 < ct.cn.length)
theorem cls_ok {P : Program} {w : World} {K : PySem.W.Frag} {mg : Str → Option Value} {base : Heap} {fd0 : FuncData} {gcs : List (Str × Str)} {L : List Ent} {ct : CT} {CL : List CEnt} {XL : List XEnt} (h : allE (CEntOk K mg) CL) (hcn : CL.map (·.p) = ct.cn) (hB : ctB ct = true)
    (hms : allE (fun q : Nat × Str × Nat => Meth K (clsOf CL q.1).1 q.2.1 ((L[q.2.2]?.map (·.f)).getD 0)) ct.ms) (hmk : allE (fun q : Nat × Nat => Mk K (clsOf CL q.1).1 ((L[q.2]?.map (·.f)).getD 0)) ct.mks) (hsub : allE (fun q : Nat × Nat => SubF K (clsOf CL q.1).1 (clsOf CL q.2).1) ct.sub) (hbas : allE (fun q : Nat × Nat => ClsFn K (clsOf CL q.1).1 "__init__" ((L[q.2]?.map (·.f)).getD 0)) ct.bas) (hne : allE (fun q : Nat × Nat => NeF K (clsOf CL q.1).1 (clsOf CL q.2).1) ct.ne) : ClsOk (globOf P w K mg base fd0 gcs L ct CL XL) := by
  unfold ctB at hB
  simp only [Bool.and_eq_true, List.all_eq_true, decide_eq_true_eq, Bool.not_eq_true', Bool.or_eq_true, decide_eq_false_iff_not] at hB
  obtain ⟨⟨hB1, hB2⟩, hB3⟩ := hB
  have get : ∀ c p, ct.cn[c]? = some p → ∃ C, CL[c]? = some ⟨C, p⟩ ∧ clsOf CL c = (C, p.2) := fun c p hp => by
    rw [← hcn, List.getElem?_map] at hp
    cases e : CL[c]? with
    | none => rw [e] at hp; cases hp
    | some x =>
      rw [e] at hp
      have hp : x.p = p := Option.some.inj hp
      subst hp
      refine ⟨x.C, rfl, ?_⟩
      unfold clsOf
      rw [e]
      rfl
  refine ⟨fun c p hp => ?_, fun c p n c' hp hn e => ?_, fun q hq => ⟨(allE_mem hms hq :), ?_⟩, fun q hq => (allE_mem hmk hq :), fun q hq => ?_, fun q hq => (allE_mem hbas hq :), fun c p hp => ?_⟩
  · obtain ⟨C, h1, h2⟩ := get c p hp
    obtain ⟨o1, o2, o3, _⟩ := allE_get h h1
    obtain ⟨⟨n1, n2⟩, n3⟩ := hB1 (p, c) (List.mk_mem_zipIdx_iff_getElem?.mpr hp)
    show Cls K (clsOf CL c).1 ∧ (clsOf CL c).2 = p.2 ∧ _ ∧ _ ∧ (∀ f ∈ p.2, NoAttr K (clsOf CL c).1 f) ∧ mg p.1 = some (.ref (clsOf CL c).1)
    rw [h2]
    exact ⟨o1, rfl, n1, n2, fun f hf => allE_mem o2 hf, o3⟩
  · obtain ⟨⟨n1, n2⟩, n3⟩ := hB1 (p, c) (List.mk_mem_zipIdx_iff_getElem?.mpr hp)
    have n1 : p.2.Nodup := n1
    show p.2.take n ≠ (clsOf CL c').2
    unfold clsOf
    cases z : CL[c']? with
    | none =>
      intro q
      have q : p.2.take n = [("" : Str), ("" : Str)] := q
      have nd : (p.2.take n).Nodup := n1.sublist (List.take_sublist _ _)
      rw [q] at nd
      simp at nd
    | some x =>
      have hx : ct.cn[c']? = some x.p := by rw [← hcn, List.getElem?_map, z]; rfl
      rcases n3 (x.p, c') (List.mk_mem_zipIdx_iff_getElem?.mpr hx) n (List.mem_range.mpr hn) with r | r
      · exact r
      · obtain ⟨r1, r2⟩ : NeF K (clsOf CL c').1 (clsOf CL c).1 := (allE_mem (P := fun q : Nat × Nat => NeF K (clsOf CL q.1).1 (clsOf CL q.2).1) hne r :)
        have e : (clsOf CL c').1 = (clsOf CL c).1 := e
        rw [e, r2] at r1
        cases r1
  · have := hB2 q hq
    split at this
    · rename_i p hp
      exact ⟨p, hp, by simpa using this⟩
    · cases this
  · obtain ⟨s1, s2, s3, s4⟩ : SubF K (clsOf CL q.1).1 (clsOf CL q.2).1 := (allE_mem (P := fun q : Nat × Nat => SubF K (clsOf CL q.1).1 (clsOf CL q.2).1) hsub hq :)
    exact ⟨kit_x s1 s2 s3 s4, hB3 q hq⟩
  · obtain ⟨C, h1, h2⟩ := get c p hp
    have q := (allE_get h h1).2.2.2
    show IcOk K (clsOf CL c).1
    rw [h2]
    exact q
theorem gst_of {P : Program} {w : World} {K : PySem.W.Frag} {mg : Str → Option Value} {base : Heap} {fd0 : FuncData} {L : List Ent} {gcs : List (Str × Str)} {ct : CT} {CL : List CEnt} {XL : List XEnt} (nob : ∀ x ∈ bltNames, mg x = none) (hgc : ∀ p ∈ gcs, ∃ u, mg p.1 = some u ∧ RelV (.str p.2) u) (h : allE (EntOk K mg) L) (hcl : ClsOk (globOf P w K mg base fd0 gcs L ct CL XL)) (hxo : ExOk (globOf P w K mg base fd0 gcs L ct CL XL)) {fs : List (FnI × Stmt)} (hfs : L.map (fun e => (e.i, e.st)) = fs)
    (chk : (fs.all fun p => chkF (fs.map (·.1)) gcs p.1 p.2 ct) = true) : Gst (globOf P w K mg base fd0 gcs L ct CL XL) (fun j => (L[j]?.map (·.qn)).getD Str.empty) (fun j => (L[j]?.map (·.st)).getD noSt) := by
  have key : ∀ (j : Nat) (i : FnI), (L.map (·.i))[j]? = some i → ∃ e, L[j]? = some e ∧ e.i = i := fun j i q => by
    rw [List.getElem?_map] at q
    cases r : L[j]? with
    | none => rw [r] at q; cases q
    | some e => rw [r] at q; exact ⟨e, rfl, Option.some.inj q⟩
  have hm : fs.map (·.1) = L.map (·.i) := by rw [← hfs, List.map_map]; rfl
  refine ⟨nob, hgc, fun j i q => ?_, fun j i q => ?_, fun j i q => ?_, hcl, hxo, fun j i q => ?_, fun j i q => ?_⟩ <;> obtain ⟨e, he, rfl⟩ := key j i q <;> have ok := allE_get h he
  · simp only [globOf, he, Option.map_some, Option.getD_some]
    exact ⟨ok.1, ok.2.1, ok.2.2.1.1⟩
  · simp only [globOf, he, Option.map_some, Option.getD_some]
    exact ok.2.2.1.2.1
  · simp only [globOf, he, Option.map_some, Option.getD_some]
    exact ok.2.2.1.2.2
  · simp only [globOf, he, Option.map_some, Option.getD_some]
    exact ok.2.2.2
  · have hin : (e.i, e.st) ∈ fs := by
      rw [← hfs]
      exact List.mem_map.mpr ⟨e, List.mem_of_getElem? he, rfl⟩
    have := List.all_eq_true.mp chk _ hin
    simp only [globOf, he, Option.map_some, Option.getD_some]
    rw [hm] at this
    exact this
/-- one def, from what k_is finds -/
theorem ent_ok {K : PySem.W.Frag} {h : Heap} {mg : Str → Option Value} {i : FnI} {st : Stmt} {f : Addr} {oc : Value} {od an : Option Addr} {osl : Array (Option Value)} {kV doc pm cdv ct : Value} (X : K.In h) (G : h.Ns mainGlobals mg)
    (hb : ∀ (kV doc pm : Value) (an : Option Addr) (cdv ct : Value) (us : List Value), us.length = i.ps.length → bindArgs (PySem.W.fnOf i.name i.name (defArgs st) (defBody st) (defScope st) .none kV doc pm an cdv ct) ⟨us, []⟩ = pure (i.ps.zip us))
    (a : PySem.W.nsIn K mainGlobals i.name = some (some (.ref f))) (l : K.lookup f = some ⟨oc, od, .func (PySem.W.fnOf i.name i.name (defArgs st) (defBody st) (defScope st) .none kV doc pm an cdv ct), osl⟩)
    (c : PySem.W.codeIn K cdv i.name = true) (k : PySem.W.keepIn K (.ref f) = true) (hd : i.dfs = [] := by rfl) (hdn : i.dn = false := by rfl) : EntOk K mg ⟨i, st, f, PySem.W.fnOf i.name i.name (defArgs st) (defBody st) (defScope st) .none kV doc pm an cdv ct, i.name⟩ := by
  have F := fun_mk (st := st) l c k
  exact ⟨fun _ => PySem.W.mg_of X G a, k, ⟨F.binds hb, (fun l z => by have z : l ∈ i.dfs := z; rw [hd] at z; cases z), fun z => by have z : i.dn = true := z; rw [hdn] at z; cases z⟩, ⟨_, _, _, _, _, _, _, _, _, _, rfl, l, c⟩⟩
/-- a def with defaults, all its arguments given -/
theorem ent_okD {K : PySem.W.Frag} {h : Heap} {mg : Str → Option Value} {i : FnI} {st : Stmt} {f T : Addr} {oc tc : Value} {od an td : Option Addr} {osl tsl : Array (Option Value)} {kV doc pm cdv ct : Value} {its : List Value} {tn : Nat} (X : K.In h) (G : h.Ns mainGlobals mg)
    (hb : ∀ (T : Addr) (kV doc pm : Value) (an : Option Addr) (cdv ct : Value) (us js : List Value), us.length = i.ps.length → js.length = its.length → ∃ k, bindArgs (PySem.W.fnOf i.name i.name (defArgs st) (defBody st) (defScope st) (.ref T) kV doc pm an cdv ct) ⟨us, []⟩ = seqItems? (.ref T) >>= k ∧ k (some js.toArray) = pure (i.ps.zip us))
    (a : PySem.W.nsIn K mainGlobals i.name = some (some (.ref f))) (l : K.lookup f = some ⟨oc, od, .func (PySem.W.fnOf i.name i.name (defArgs st) (defBody st) (defScope st) (.ref T) kV doc pm an cdv ct), osl⟩) (t : K.lookup T = some ⟨tc, td, .seq its.toArray tn, tsl⟩)
    (c : PySem.W.codeIn K cdv i.name = true) (k : PySem.W.keepIn K (.ref f) = true)
    (hd : ∀ l ∈ i.dfs, Vals (l.map V.int) its ∧ ∀ (T : Addr) (kV doc pm : Value) (an : Option Addr) (cdv ct : Value) (us js : List Value), us.length + its.length = i.ps.length → js.length = its.length → ∃ k, bindArgs (PySem.W.fnOf i.name i.name (defArgs st) (defBody st) (defScope st) (.ref T) kV doc pm an cdv ct) ⟨us, []⟩ = seqItems? (.ref T) >>= k ∧ k (some js.toArray) = pure (i.ps.zip (us ++ js)) := by intro l z; cases z) (hdn : i.dn = false := by rfl) : EntOk K mg ⟨i, st, f, PySem.W.fnOf i.name i.name (defArgs st) (defBody st) (defScope st) (.ref T) kV doc pm an cdv ct, i.name⟩ := by
  refine ⟨fun _ => PySem.W.mg_of X G a, k, ⟨fun s us X hlen => ?_, fun w z => ?_, fun z => by have z : i.dn = true := z; rw [hdn] at z; cases z⟩, ⟨_, _, _, _, _, _, _, _, _, _, rfl, l, c⟩⟩
  · rw [List.append_nil] at hlen
    obtain ⟨k, e1, e2⟩ := hb T kV doc pm an cdv ct us its hlen rfl
    refine BindsTo.of_looks fun M => ?_
    rw [e1, List.append_nil]
    exact looks_items X t rfl (.of_pure e2)
  · obtain ⟨h1, h2⟩ := hd w z
    refine ⟨its, h1, fun s us X hlen => ?_⟩
    rw [List.length_append] at hlen
    obtain ⟨k, e1, e2⟩ := h2 T kV doc pm an cdv ct us its hlen rfl
    refine BindsTo.of_looks fun M => ?_
    rw [e1]
    exact looks_items X t rfl (.of_pure e2)
/-- a method -/
theorem ent_okM {K : PySem.W.Frag} {mg : Str → Option Value} {i : FnI} {st : Stmt} {f : Addr} {q : Str} {oc : Value} {od an : Option Addr} {osl : Array (Option Value)} {kV doc pm cdv ct : Value} (ht : i.top = false)
    (hb : ∀ (kV doc pm : Value) (an : Option Addr) (cdv ct : Value) (us : List Value), us.length = i.ps.length → bindArgs (PySem.W.fnOf i.name q (defArgs st) (defBody st) (defScope st) .none kV doc pm an cdv ct) ⟨us, []⟩ = pure (i.ps.zip us))
    (l : K.lookup f = some ⟨oc, od, .func (PySem.W.fnOf i.name q (defArgs st) (defBody st) (defScope st) .none kV doc pm an cdv ct), osl⟩)
    (c : PySem.W.codeIn K cdv q = true) (k : PySem.W.keepIn K (.ref f) = true) (hd : i.dfs = [] := by rfl) (hdn : i.dn = false := by rfl) : EntOk K mg ⟨i, st, f, PySem.W.fnOf i.name q (defArgs st) (defBody st) (defScope st) .none kV doc pm an cdv ct, q⟩ := by
  have F := fun_mk (st := st) l c k
  exact ⟨fun z => (by rw [ht] at z; cases z), k, ⟨F.binds hb, (fun l z => by have z : l ∈ i.dfs := z; rw [hd] at z; cases z), fun z => by have z : i.dn = true := z; rw [hdn] at z; cases z⟩, ⟨_, _, _, _, _, _, _, _, _, _, rfl, l, c⟩⟩
/-- a method whose last argument may be left out, which is none then -/
theorem ent_okMN {K : PySem.W.Frag} {mg : Str → Option Value} {i : FnI} {st : Stmt} {f T : Addr} {q : Str} {oc tc : Value} {od an td : Option Addr} {osl tsl : Array (Option Value)} {kV doc pm cdv ct : Value} {tn : Nat} (ht : i.top = false)
    (hb : ∀ (T : Addr) (kV doc pm : Value) (an : Option Addr) (cdv ct : Value) (us js : List Value), us.length = i.ps.length → js.length = 1 → ∃ k, bindArgs (PySem.W.fnOf i.name q (defArgs st) (defBody st) (defScope st) (.ref T) kV doc pm an cdv ct) ⟨us, []⟩ = seqItems? (.ref T) >>= k ∧ k (some js.toArray) = pure (i.ps.zip us))
    (hn : ∀ (T : Addr) (kV doc pm : Value) (an : Option Addr) (cdv ct : Value) (us js : List Value), us.length + 1 = i.ps.length → js.length = 1 → ∃ k, bindArgs (PySem.W.fnOf i.name q (defArgs st) (defBody st) (defScope st) (.ref T) kV doc pm an cdv ct) ⟨us, []⟩ = seqItems? (.ref T) >>= k ∧ k (some js.toArray) = pure (i.ps.zip (us ++ js)))
    (l : K.lookup f = some ⟨oc, od, .func (PySem.W.fnOf i.name q (defArgs st) (defBody st) (defScope st) (.ref T) kV doc pm an cdv ct), osl⟩) (t : K.lookup T = some ⟨tc, td, .seq #[.none] tn, tsl⟩)
    (c : PySem.W.codeIn K cdv q = true) (k : PySem.W.keepIn K (.ref f) = true) (hd : i.dfs = [] := by rfl) : EntOk K mg ⟨i, st, f, PySem.W.fnOf i.name q (defArgs st) (defBody st) (defScope st) (.ref T) kV doc pm an cdv ct, q⟩ := by
  refine ⟨fun z => (by rw [ht] at z; cases z), k, ⟨fun s us X hlen => ?_, (fun l z => by have z : l ∈ i.dfs := z; rw [hd] at z; cases z), fun _ => ⟨[.none], .cons rfl .nil, fun s us X hlen => ?_⟩⟩, ⟨_, _, _, _, _, _, _, _, _, _, rfl, l, c⟩⟩
  · rw [List.append_nil] at hlen
    obtain ⟨k, e1, e2⟩ := hb T kV doc pm an cdv ct us [.none] hlen rfl
    refine BindsTo.of_looks fun M => ?_
    rw [e1, List.append_nil]
    exact looks_items X t rfl (.of_pure e2)
  · rw [List.length_append] at hlen
    obtain ⟨k, e1, e2⟩ := hn T kV doc pm an cdv ct us [.none] hlen rfl
    refine BindsTo.of_looks fun M => ?_
    rw [e1]
    exact looks_items X t rfl (.of_pure e2)
def spLaw (K : PySem.W.Frag) : Sp := fun vs H Q _ => ∃ (a : Addr) (ns : List Int), vs = [.ref a] ∧ SqL K H a (ns.map V.int) ∧ ns.length ≤ 63 ∧ ∀ H', Q (.bl true) H'
theorem law_ok {P : Program} {w : World} {K : PySem.W.Frag} {mg : Str → Option Value} {base : Heap} {fd0 : FuncData} {L : List Ent} {gcs : List (Str × Str)} (ct : CT) (CL : List CEnt) (nob : ∀ x ∈ bltNames, mg x = none) (hgc : ∀ p ∈ gcs, ∃ u, mg p.1 = some u ∧ RelV (.str p.2) u) (h : allE (EntOk K mg) L)
    (hc : allE (CEntOk K mg) CL) (hcn : CL.map (·.p) = ct.cn) (hB : ctB ct = true) (hms : allE (fun q : Nat × Str × Nat => Meth K (clsOf CL q.1).1 q.2.1 ((L[q.2.2]?.map (·.f)).getD 0)) ct.ms) (hmk : allE (fun q : Nat × Nat => Mk K (clsOf CL q.1).1 ((L[q.2]?.map (·.f)).getD 0)) ct.mks)
    {fs : List (FnI × Stmt)} (hfs : L.map (fun e => (e.i, e.st)) = fs)
    (chk : (fs.all fun p => chkF (fs.map (·.1)) gcs p.1 p.2 ct) = true) (nl : noLst K = true) {j k : Nat} {e : Ent} (he : L[j]? = some e) (h1 : e.i.sg = [.s .im]) (h2 : e.i.ps = [("script" : Str)]) (h3 : e.i.fn.ini = none ∧ e.i.fn.io = false)
    (pure : ∀ ns : List Int, ns.length ≤ 63 → Cw (fs.map (·.1.fn)) k j [scr ns] fun d => d = .bl true) (XL : List XEnt := []) (hxe : allE (XEntOk K mg) XL := by trivial) (hxp : XL.map (·.p) = ct.xs := by rfl) (hxs : XAll K XL 0 XL := by trivial) (hxb : (ct.xs.zipIdx.all fun q => decide (q.2 ∈ q.1.2)) = true := by rfl) (hsub : allE (fun q : Nat × Nat => SubF K (clsOf CL q.1).1 (clsOf CL q.2).1) ct.sub := by trivial) (hbas : allE (fun q : Nat × Nat => ClsFn K (clsOf CL q.1).1 "__init__" ((L[q.2]?.map (·.f)).getD 0)) ct.bas := by trivial) (hne : allE (fun q : Nat × Nat => NeF K (clsOf CL q.1).1 (clsOf CL q.2).1) ct.ne := by trivial) : FnOk P w K mg base (L2.CX P w) (2 * k) e.f e.fd ["script"] (spLaw K) := by
  have S := gst_of (P := P) (w := w) (base := base) (fd0 := fd0) nob hgc h (cls_ok hc hcn hB hms hmk hsub hbas hne) (exc_ok hxe hxp hxs hxb) hfs chk
  have g := gok S k
  have hi : (globOf P w K mg base fd0 gcs L ct CL XL).fns[j]? = some e.i := by
    show (L.map (·.i))[j]? = some e.i
    rw [List.getElem?_map, he]
    rfl
  have F := g.ok j e.i hi
  rw [spG_F hi h3.1 h3.2] at F
  have ef : (globOf P w K mg base fd0 gcs L ct CL XL).fa j = e.f := by simp only [globOf, he, Option.map_some, Option.getD_some]
  have ed : (globOf P w K mg base fd0 gcs L ct CL XL).fd j = e.fd := by simp only [globOf, he, Option.map_some, Option.getD_some]
  rw [ef, ed, h2] at F
  refine F.imp fun vs H Q E ⟨a, ns, e1, hS, hl, kk⟩ => ?_
  subst e1
  have hT : FTof (globOf P w K mg base fd0 gcs L ct CL XL).fns = fs.map (·.1.fn) := by
    rw [← hfs, List.map_map]
    show (L.map (·.i)).map (·.fn) = _
    rw [List.map_map]
    rfl
  have := law_sp (G := globOf P w K mg base fd0 gcs L ct CL XL) (k := k) hi h1 (by rw [h2]; rfl) (noLst_rd nl hS) (by rw [hT]; exact pure ns hl)
  obtain ⟨i, ds, Nn, R, a1, a2, a3, ⟨Xp, a4, a6⟩, a5⟩ := this
  refine ⟨i, ds, Nn, R, a1, a2, a3, ⟨Xp, a4, fun x H' hx s z => (a6 x H' hx s z).elim⟩, fun v H' d s rs q => ?_⟩
  have := a5 v H' d s rs q
  rw [this]
  exact kk H'
theorem walk {l : PySem.W.OpenLaw} {q : Program} {loose : List Str} {XP : (Str → Option Value) → Heap → Prop} {YP : World → Heap → Prop} {d : DefRec} {K : Params → PySem.W.Frag} {k : Nat} (hn : l.most = some 63) (hdf : d.params.defaults = []) (hr : Room k callerA)
    (hY : ∀ (w : World) (h : Heap), YP w h → (K w.params).In h)
    (F : ∀ (w : World) (mg : Str → Option Value) (fa : Addr) (h : Heap), (K w.params).In h → h.Ns mainGlobals mg → mg d.name = some (.ref fa) →
      ∃ fd : FuncData, (∀ (s : Shared) (u : Value), BindsTo s fd ⟨[u], []⟩ [("script", u)]) ∧ ∀ base : Heap, (K w.params).In base → base.Ns mainGlobals mg → FnOk l.prog w (K w.params) mg base (L2.CX l.prog w) k fa fd ["script"] (spLaw (K w.params))) :
    PySem.W.WalkO q loose XP YP l.row.toRowW d [] (fun f vs => PySem.call f vs) :=
  L2.walk_of (n := 63) (k := k) (x := "script") (CX := fun w => L2.CX l.prog w) (sp := fun w => spLaw (K w.params)) hn (by decide) hdf hr hY F (fun _ _ a ns hl _ hS => ⟨a, ns, rfl, hS, hl, fun _ => rfl⟩) fun _ _ _ _ _ z => by
    obtain ⟨_, _, _, _, _, _, _, _, _, _, _, _, z⟩ := z
    exact z.elim
end Pv

set_option maxRecDepth 100000
set_option maxHeartbeats 1000000
namespace Pv
open PySem L2
/-! ### the meaning grows with what is wanted -/
def MonC (C : CallW) : Prop := ∀ (X X' : Ex → Prop) f ds (Q Q' : D → Prop), (∀ x, X x → X' x) → (∀ d, Q d → Q' d) → C.run X f ds Q → C.run X' f ds Q'
theorem onB_mono {d : D} {p q p' q' : Prop} (h1 : p → p') (h2 : q → q') (h : onB d p q) : onB d p' q' := onB_imp h h1 h2
theorem p1_mono {p : P1} {x : D} {Q Q' : D → Prop} (i : ∀ d, Q d → Q' d) (h : p1 p x Q) : p1 p x Q' := by
  cases p with
  | isi ty =>
    have h' : (match isTy ty x with | some b => Q (.bl b) | none => False) := by cases x <;> exact h
    have g : (match isTy ty x with | some b => Q' (.bl b) | none => False) := by
      split at h'
      · exact i _ h'
      · exact h'
    cases x <;> exact g
  | _ => cases x <;> first | exact i _ h | exact ⟨h.1, i _ h.2⟩ | exact h | (obtain ⟨n, h1, h2⟩ := h; exact ⟨n, h1, i _ h2⟩) | (obtain ⟨n, h1, h2, h3⟩ := h; exact ⟨n, h1, h2, i _ h3⟩) | (obtain ⟨n, h1, h2, h3⟩ := h; exact ⟨n, h1, h2, fun m a b => i _ (h3 m a b)⟩) | (obtain ⟨n, h1, h3⟩ := h; exact ⟨n, h1, fun m a b => i _ (h3 m a b)⟩)
theorem p2_mono {p : P2} {x y : D} {Q Q' : D → Prop} (i : ∀ d, Q d → Q' d) (h : p2 p x y Q) : p2 p x y Q' := by
  cases p <;> cases x <;> cases y <;> first | exact i _ h | exact ⟨h.1, i _ h.2⟩ | (obtain ⟨d, h1, h2⟩ := h; exact ⟨d, h1, i _ h2⟩) | (obtain ⟨h0, d, h1, h2⟩ := h; exact ⟨h0, d, h1, i _ h2⟩) | (obtain ⟨k, d, h1, h2, h3⟩ := h; exact ⟨k, d, h1, h2, i _ h3⟩) | exact h
theorem b2_mono {f : B2} {x y : D} {Q Q' : D → Prop} (i : ∀ d, Q d → Q' d) (h : b2W f x y Q) : b2W f x y Q' := by
  cases f <;> cases x <;> cases y <;> first | exact i _ h | exact ⟨h.1, i _ h.2⟩ | exact h
theorem m0_mono {f : M0} {x : D} {Q Q' : D → Prop} (i : ∀ d, Q d → Q' d) (h : m0W f x Q) : m0W f x Q' := by
  cases f <;> cases x <;> first | exact ⟨h.1, i _ h.2⟩ | exact h
theorem m1_mono {f : M1} {x y : D} {Q Q' : D → Prop} (i : ∀ d, Q d → Q' d) (h : m1W f x y Q) : m1W f x y Q' := by
  cases f <;> cases x <;> cases y <;> first | exact i _ h | exact ⟨h.1, h.2.1, i _ h.2.2⟩ | exact ⟨h.1, i _ h.2⟩ | (obtain ⟨ys, h1, h2, h3⟩ := h; exact ⟨ys, h1, h2, i _ h3⟩) | (obtain ⟨o, j, z, e1, e2, e3, q⟩ := h; exact ⟨o, j, z, e1, e2, e3, i _ q⟩) | exact h
theorem sl_mono {k : Bool} {x : D} {l h' : Option Int} {Q Q' : D → Prop} (i : ∀ d, Q d → Q' d) (h : slW k x l h' Q) : slW k x l h' Q' := by
  cases k <;> cases x <;> first | exact i _ h | exact ⟨h.1, i _ h.2⟩ | exact h
theorem it_mono {x : D} {Q Q' : List D → Prop} (i : ∀ d, Q d → Q' d) (h : itD x Q) : itD x Q' := by
  cases x <;> first | exact i _ h | exact h
theorem onI_mono {d : D} {Q Q' : Option Int → Prop} (i : ∀ d, Q d → Q' d) (h : onI d Q) : onI d Q' := by
  cases d <;> first | exact i _ h | exact h
theorem cmpW_mono {s s' : D → (Option D → Prop) → Prop} {f f' : List D → Prop} (hs : ∀ d Q Q', (∀ o, Q o → Q' o) → s d Q → s' d Q') (hf : ∀ d, f d → f' d) : ∀ {ds acc : List D}, cmpW s f ds acc → cmpW s' f' ds acc
  | [], acc, h => hf _ h
  | d :: ds, acc, h => by
    refine hs d _ _ (fun o z => ?_) h
    cases o with
    | none => exact cmpW_mono hs hf z
    | some y => exact ⟨z.1, cmpW_mono hs hf z.2⟩
theorem G0_mono {g : TG0} {d : D} {env : Env} {Q Q' : Env → Prop} (m : ∀ e, Q e → Q' e) (h : G0 g d env Q) : G0 g d env Q' := by
  cases g with
  | nm i => exact m _ h
  | tp is => cases d <;> first | exact ⟨h.1, m _ h.2⟩ | exact h
section
variable {C : CallW} (hC : MonC C)
include hC
mutual
theorem E_mono : ∀ (c : CE) {env : Env} {Q Q' : D → Prop}, (∀ d, Q d → Q' d) → E C c env Q → E C c env Q'
  | .var i, env, Q, Q', m, h => by
    unfold E at h ⊢
    split at h
    · exact m _ h
    · exact h
  | .int _, env, Q, Q', m, h => by unfold E at h ⊢; exact m _ h
  | .str _, env, Q, Q', m, h => by unfold E at h ⊢; exact m _ h
  | .bl _, env, Q, Q', m, h => by unfold E at h ⊢; exact m _ h
  | .non, env, Q, Q', m, h => by unfold E at h ⊢; exact m _ h
  | .o1 p a, env, Q, Q', m, h => by unfold E at h ⊢; exact E_mono a (fun _ z => p1_mono m z) h
  | .o2 p a b, env, Q, Q', m, h => by unfold E at h ⊢; exact E_mono a (fun _ z => E_mono b (fun _ z => p2_mono m z) z) h
  | .and a b, env, Q, Q', m, h => by unfold E at h ⊢; exact E_mono a (fun _ z => onB_mono (E_mono b m) (m _) z) h
  | .or a b, env, Q, Q', m, h => by unfold E at h ⊢; exact E_mono a (fun _ z => onB_mono (m _) (E_mono b m) z) h
  | .not a, env, Q, Q', m, h => by unfold E at h ⊢; exact E_mono a (fun _ z => onB_mono (m _) (m _) z) h
  | .ifx c a b, env, Q, Q', m, h => by unfold E at h ⊢; exact E_mono c (fun _ z => onB_mono (E_mono a m) (E_mono b m) z) h
  | .lst es, env, Q, Q', m, h => by unfold E at h ⊢; exact Es_mono es (fun _ z => ⟨z.1, m _ z.2⟩) h
  | .tup es, env, Q, Q', m, h => by unfold E at h ⊢; exact Es_mono es (fun _ z => ⟨z.1, m _ z.2⟩) h
  | .call f es, env, Q, Q', m, h => by unfold E at h ⊢; exact Es_mono es (fun _ z => hC _ _ _ _ _ _ (fun _ z => z) m z) h
  | .tupo es, env, Q, Q', m, h => by unfold E at h ⊢; exact Es_mono es (fun _ z => ⟨z.1, m _ z.2⟩) h
  | .calp f es df, env, Q, Q', m, h => by unfold E at h ⊢; exact Es_mono es (fun _ z => hC _ _ _ _ _ _ (fun _ z => z) m z) h
  | .b2 f a b, env, Q, Q', m, h => by unfold E at h ⊢; exact E_mono a (fun _ z => E_mono b (fun _ z => b2_mono m z) z) h
  | .m0 f a, env, Q, Q', m, h => by unfold E at h ⊢; exact E_mono a (fun _ z => m0_mono m z) h
  | .m1 f a b, env, Q, Q', m, h => by unfold E at h ⊢; exact E_mono a (fun _ z => ⟨z.1, E_mono b (fun _ z => m1_mono m z) z.2⟩) h
  | .slc k bl bh a lo hi, env, Q, Q', m, h => by
    unfold E at h ⊢
    refine E_mono a (fun _ z => ?_) h
    have step : ∀ {P P' : Option Int → Prop}, (∀ l, P l → P' l) → (if bh = true then fun R => E C hi env fun d => onI d R else fun R : Option Int → Prop => R none) P → (if bh = true then fun R => E C hi env fun d => onI d R else fun R : Option Int → Prop => R none) P' := fun i z => by
      cases bh with
      | true => exact E_mono hi (fun _ z => onI_mono i z) z
      | false => exact i _ z
    cases bl with
    | true => exact E_mono lo (fun _ z => onI_mono (fun l z => step (fun l z => sl_mono m z) z) z) z
    | false => exact step (fun l z => sl_mono m z) z
  | .gs _ _, env, Q, Q', m, h => by unfold E at h ⊢; exact m _ h
  | .fit _ a, env, Q, Q', m, h => by unfold E at h ⊢; exact E_mono a (fun _ z => ⟨z.1, m _ z.2⟩) h
  | .chn p q a b c, env, Q, Q', m, h => by unfold E at h ⊢; exact E_mono a (fun _ z => E_mono b (fun _ z => p2_mono (fun _ z => onB_mono (E_mono c (fun _ z => p2_mono m z)) (m _) z) z) z) h
  | .ikd a, env, Q, Q', m, h => by
    unfold E at h ⊢
    refine E_mono a (fun d z => ?_) h
    split at z
    · exact m _ z
    · exact m _ z
    · exact z
  | .irr a, env, Q, Q', m, h => by
    unfold E at h ⊢
    refine E_mono a (fun d z => ?_) h
    split at z
    · exact ⟨z.1, m _ z.2⟩
    · exact z
  | .isc _ _ _ a, env, Q, Q', m, h => by
    unfold E at h ⊢
    exact E_mono a (fun d z => by
      cases d <;> first | exact z.elim | exact ⟨z.1, m _ z.2⟩) h
  | .dic0 _, env, Q, Q', m, h => by unfold E at h ⊢; exact m _ h
  | .fld _ _ _ a, env, Q, Q', m, h => by
    unfold E at h ⊢
    refine E_mono a (fun d z => ?_) h
    cases d <;> first | exact ⟨z.1, z.2.choose, z.2.choose_spec.1, m _ z.2.choose_spec.2⟩ | exact z
  | .meth _ _ a es, env, Q, Q', m, h => by
    unfold E at h ⊢
    refine E_mono a (fun d z => ?_) h
    cases d <;> first | exact ⟨z.choose, z.choose_spec.1, Es_mono es (fun _ z => hC _ _ _ _ _ _ (fun _ z => z) m z) z.choose_spec.2⟩ | exact z
  | .make _ f nd es, env, Q, Q', m, h => by unfold E at h ⊢; exact Es_mono es (fun _ z => by cases nd <;> exact hC _ _ _ _ _ _ (fun _ z => z) m z) h
  | .dic1 a b, env, Q, Q', m, h => by
    unfold E at h ⊢
    cases hT : isTup a with
    | true => rw [hT] at h; exact E_mono a (fun _ z => E_mono b (fun _ ⟨k, e, z⟩ => ⟨k, e, m _ z⟩) z) h
    | false => rw [hT] at h; exact E_mono a (fun _ z => E_mono b (fun _ ⟨k, e, z⟩ => ⟨k, e, m _ z⟩) z) h
  | .lrng a, env, Q, Q', m, h => by
    unfold E at h ⊢
    refine E_mono a (fun d z => ?_) h
    split at z
    · exact ⟨z.1, m _ z.2⟩
    · exact z
  | .comp own g elt it c, env, Q, Q', m, h => by
    unfold E at h ⊢
    refine E_mono it (fun d z => it_mono (fun ds z => cmpW_mono (fun d R R' i z => ?_) (fun _ z => m _ z) z) z) h
    exact G0_mono (fun e z => E_mono c (fun b z => onB_mono (E_mono elt fun _ z => i _ z) (i _) z) z) z
  | .rng1 a, env, Q, Q', m, h => by
    unfold E at h ⊢
    refine E_mono a (fun d z => ?_) h
    split at z
    · exact ⟨z.1, m _ z.2⟩
    · exact z
  | .rng2 a b, env, Q, Q', m, h => by
    unfold E at h ⊢
    refine E_mono a (fun d z => E_mono b (fun d z => ?_) z) h
    split at z
    · exact ⟨z.1, m _ z.2⟩
    · exact z
  | .rng3 a b c, env, Q, Q', m, h => by
    unfold E at h ⊢
    refine E_mono a (fun d z => E_mono b (fun d z => E_mono c (fun d z => ?_) z) z) h
    split at z
    · obtain ⟨n, r, z⟩ := z; exact ⟨n, r, m _ z⟩
    · exact z
  | .ien a, env, Q, Q', m, h => by
    unfold E at h ⊢
    exact E_mono a (fun d z => it_mono (fun _ z => m _ z) z) h
  | .izp a b, env, Q, Q', m, h => by
    unfold E at h ⊢
    exact E_mono a (fun d z => E_mono b (fun d z => it_mono (fun _ z => it_mono (fun _ z => m _ z) z) z) z) h
  | .irv a, env, Q, Q', m, h => by
    unfold E at h ⊢
    refine E_mono a (fun d z => ?_) h
    split at z <;> first | exact m _ z | exact z
  | .nil, env, Q, Q', m, h => by unfold E at h; exact h.elim
  | .cons _ _, env, Q, Q', m, h => by unfold E at h; exact h.elim
theorem Es_mono : ∀ (c : CE) {env : Env} {Q Q' : List D → Prop}, (∀ d, Q d → Q' d) → Es C c env Q → Es C c env Q'
  | .nil, env, Q, Q', m, h => by unfold Es at h ⊢; exact m _ h
  | .cons a b, env, Q, Q', m, h => by unfold Es at h ⊢; exact E_mono a (fun _ z => Es_mono b (fun _ z => m _ z) z) h
  | .chn _ _ _ _ _, _, _, _, _, h | .calp _ _ _, _, _, _, _, h | .tupo _, _, _, _, _, h | .irr _, _, _, _, _, h | .ikd _, _, _, _, _, h | .isc _ _ _ _, _, _, _, _, h | .fld _ _ _ _, _, _, _, _, h | .meth _ _ _ _, _, _, _, _, h | .make _ _ _ _, _, _, _, _, h | .b2 _ _ _, _, _, _, _, h | .m0 _ _, _, _, _, _, h | .m1 _ _ _, _, _, _, _, h | .slc _ _ _ _ _ _, _, _, _, _, h | .gs _ _, _, _, _, _, h | .fit _ _, _, _, _, _, h | .dic0 _, _, _, _, _, h | .dic1 _ _, _, _, _, _, h | .lrng _, _, _, _, _, h | .comp _ _ _ _ _, _, _, _, _, h | .rng1 _, _, _, _, _, h | .rng2 _ _, _, _, _, _, h | .rng3 _ _ _, _, _, _, _, h | .ien _, _, _, _, _, h | .izp _ _, _, _, _, _, h | .irv _, _, _, _, _, h | .var _, _, _, _, _, h | .int _, _, _, _, _, h | .str _, _, _, _, _, h | .bl _, _, _, _, _, h | .non, _, _, _, _, h | .o1 _ _, _, _, _, _, h | .o2 _ _ _, _, _, _, _, h | .and _ _, _, _, _, _, h | .or _ _, _, _, _, _, h | .not _, _, _, _, _, h | .ifx _ _ _, _, _, _, _, h | .lst _, _, _, _, _, h | .tup _, _, _, _, _, h | .call _ _, _, _, _, _, h => by unfold Es at h; exact h.elim
end
theorem It_mono (c : CE) {env : Env} {Q Q' : List D → Prop} (m : ∀ d, Q d → Q' d) (h : It C c env Q) : It C c env Q' := E_mono hC c (fun _ z => it_mono m z) h
theorem Ep_mono : ∀ (p : List CE) {env : Env} {Q Q' : List Int → Prop}, (∀ d, Q d → Q' d) → Ep C p env Q → Ep C p env Q'
  | [], _, _, _, m, h => m _ h
  | c :: cs, env, Q, Q', m, h => by
    refine E_mono hC c (fun d z => ?_) h
    split at z
    · exact Ep_mono cs (fun _ z => m _ z) z
    · exact z
omit hC in
theorem upd_mono : ∀ {is : List Int} {d : D} {f f' : D → (D → Prop) → Prop} {Q Q' : D → Prop}, (∀ d Q Q', (∀ e, Q e → Q' e) → f d Q → f' d Q') → (∀ e, Q e → Q' e) → updP is d f Q → updP is d f' Q'
  | [], _, _, _, _, _, hf, m, h => hf _ _ _ m h
  | i :: is, d, _, _, _, _, hf, m, h => by
    cases d <;> first | exact h.elim | (obtain ⟨j, d0, h1, h2, h3⟩ := h; exact ⟨j, d0, h1, h2, upd_mono hf (fun _ z => m _ z) h3⟩)
omit hC in
theorem at_mono {env : Env} {x : Nat} {Q Q' : D → Prop} (m : ∀ d, Q d → Q' d) (h : atV env x Q) : atV env x Q' := by
  unfold atV at h ⊢
  split at h
  · exact m _ h
  · exact h
omit hC in
theorem mu_mono {m : Mu} {x y : D} {Q Q' : D → Prop} (i : ∀ d, Q d → Q' d) (h : muW m x y Q) : muW m x y Q' := by
  cases m <;> cases x <;> cases y <;> first | exact i _ h | exact ⟨h.1, i _ h.2⟩ | exact h
omit hC in
theorem ds_mono {i y d : D} {Q Q' : D → Prop} (m : ∀ d, Q d → Q' d) (h : dsW i y d Q) : dsW i y d Q' := by
  cases d <;> first | exact h.elim | (obtain ⟨k, h1, h2, h3⟩ := h; exact ⟨k, h1, h2, m _ h3⟩)
omit hC in
theorem fol_mono {x : Nat} {step step' : D → Env → (Env → Prop) → Prop} (hs : ∀ d e Q Q', (∀ e, Q e → Q' e) → step d e Q → step' d e Q') {fin fin' : Env → Prop} (hf : ∀ e, fin e → fin' e) : ∀ {n i : Nat} {env : Env}, folW x step fin n i env → folW x step' fin' n i env
  | 0, _, _, h => h
  | n + 1, i, env, h => by
    simp only [folW] at h ⊢
    refine at_mono (fun d ⟨ds, e, z⟩ => ⟨ds, e, ?_⟩) h
    cases q : ds[i]? with
    | none => rw [q] at z; exact hf _ z
    | some y => rw [q] at z; exact hs _ _ _ _ (fun e z => fol_mono hs hf z) z
omit hC in
theorem fom_mono {step : Nat → D → (D → Prop) → Prop} (hs : ∀ i d Q Q', (∀ d, Q d → Q' d) → step i d Q → step i d Q') : ∀ {n i : Nat} {d : D} {Q Q' : D → Prop}, (∀ d, Q d → Q' d) → fomW step n i d Q → fomW step n i d Q'
  | 0, i, d, Q, Q', m, h => m _ h
  | n + 1, i, d, Q, Q', m, h => hs i d _ _ (fun d' z => fom_mono hs m z) h
omit hC in
theorem set_mono {i y x : D} {Q Q' : D → Prop} (m : ∀ d, Q d → Q' d) (h : setW i y x Q) : setW i y x Q' := by
  cases x <;> cases i <;> first | exact h | (obtain ⟨j, h1, h2⟩ := h; exact ⟨j, h1, m _ h2⟩)
omit hC in
theorem aug_mono {p : P2} {x y : D} {Q Q' : D → Prop} (m : ∀ d, Q d → Q' d) (h : augW p x y Q) : augW p x y Q' := by
  cases p <;> cases x <;> cases y <;> first | exact m _ h | exact ⟨h.1, m _ h.2⟩ | exact h
omit hC in
theorem pop_mono {x : D} {i : Option D} {Q Q' : D → D → Prop} (m : ∀ d e, Q d e → Q' d e) (h : popW x i Q) : popW x i Q' := by
  cases x <;> try exact h
  cases i with
  | none => obtain ⟨y, h1, h2⟩ := h; exact ⟨y, h1, m _ _ h2⟩
  | some d =>
    cases d <;> try exact h
    obtain ⟨h1, h2, j, y, h3, h4, h5⟩ := h
    exact ⟨h1, h2, j, y, h3, h4, m _ _ h5⟩
omit hC in
theorem ins_mono {x i y : D} {Q Q' : D → Prop} (m : ∀ d, Q d → Q' d) (h : insW x i y Q) : insW x i y Q' := by
  cases x <;> cases i <;> first | exact ⟨h.1, h.2.1, h.2.2.1, m _ h.2.2.2⟩ | exact h
omit hC in
theorem forW_mono {b b' : D → Env → (Env → Prop) → Prop} {f f' : Env → Prop} (hb : ∀ d e Q Q', (∀ e, Q e → Q' e) → b d e Q → b' d e Q') (hf : ∀ e, f e → f' e) : ∀ {ds : List D} {env : Env}, forW b f ds env → forW b' f' ds env
  | [], _, h => hf _ h
  | d :: ds, env, h => hb _ _ _ _ (fun _ z => forW_mono hb hf (ds := ds) z) h
omit hC in
theorem whlW_mono {s s' : Env → (Env → Prop) → Prop} (hs : ∀ e Q Q', (∀ e, Q e → Q' e) → s e Q → s' e Q') : ∀ {n : Nat} {env : Env}, whlW s n env → whlW s' n env
  | 0, _, h => h
  | n + 1, env, h => hs _ _ _ (fun _ z => whlW_mono hs (n := n) z) h
omit hC in
theorem whlW_succ {s : Env → (Env → Prop) → Prop} (hs : ∀ e Q Q', (∀ e, Q e → Q' e) → s e Q → s e Q') : ∀ {n : Nat} {env : Env}, whlW s n env → whlW s (n + 1) env
  | 0, _, h => h.elim
  | n + 1, env, h => hs _ _ _ (fun _ z => whlW_succ hs (n := n) z) h
omit hC in
theorem whlW_le {s : Env → (Env → Prop) → Prop} (hs : ∀ e Q Q', (∀ e, Q e → Q' e) → s e Q → s e Q') {n m : Nat} (h : n ≤ m) {env : Env} (w : whlW s n env) : whlW s m env := by
  induction h with
  | refl => exact w
  | step _ ih => exact whlW_succ hs ih
structure KsLe (k k' : Ks) : Prop where
  nx : ∀ e, k.nx e → k'.nx e
  rt : ∀ d, k.rt d → k'.rt d
  bk : ∀ e, k.bk e → k'.bk e
  ct : ∀ e, k.ct e → k'.ct e
  ex : ∀ x e, k.ex x e → k'.ex x e
theorem EX_mono {X X' : Ex → Prop} (mX : ∀ x, X x → X' x) : ∀ (e : CE) {env : Env} {Q Q' : D → Prop}, (∀ d, Q d → Q' d) → EX C X e env Q → EX C X' e env Q'
  | .call f es, env, Q, Q', m, h => by unfold EX at h ⊢; exact Es_mono hC es (fun _ z => hC _ _ _ _ _ _ mX m z) h
  | .meth _ tb a es, env, Q, Q', m, h => by
    unfold EX at h ⊢
    refine E_mono hC a (fun d z => ?_) h
    cases d <;> first | exact ⟨z.choose, z.choose_spec.1, Es_mono hC es (fun _ z => hC _ _ _ _ _ _ mX m z) z.choose_spec.2⟩ | exact z
  | .tupo _, env, Q, Q', m, h => by unfold EX at h ⊢; exact E_mono hC _ m h
  | .calp _ _ _, env, Q, Q', m, h => by unfold EX at h ⊢; exact E_mono hC _ m h
  | .var _, env, Q, Q', m, h => by unfold EX at h ⊢; exact E_mono hC _ m h
  | .int _, env, Q, Q', m, h => by unfold EX at h ⊢; exact E_mono hC _ m h
  | .str _, env, Q, Q', m, h => by unfold EX at h ⊢; exact E_mono hC _ m h
  | .bl _, env, Q, Q', m, h => by unfold EX at h ⊢; exact E_mono hC _ m h
  | .non, env, Q, Q', m, h => by unfold EX at h ⊢; exact E_mono hC _ m h
  | .o1 _ _, env, Q, Q', m, h => by unfold EX at h ⊢; exact E_mono hC _ m h
  | .o2 _ _ _, env, Q, Q', m, h => by unfold EX at h ⊢; exact E_mono hC _ m h
  | .and _ _, env, Q, Q', m, h => by unfold EX at h ⊢; exact E_mono hC _ m h
  | .or _ _, env, Q, Q', m, h => by unfold EX at h ⊢; exact E_mono hC _ m h
  | .not _, env, Q, Q', m, h => by unfold EX at h ⊢; exact E_mono hC _ m h
  | .ifx _ _ _, env, Q, Q', m, h => by unfold EX at h ⊢; exact E_mono hC _ m h
  | .nil, env, Q, Q', m, h => by unfold EX at h ⊢; exact E_mono hC _ m h
  | .cons _ _, env, Q, Q', m, h => by unfold EX at h ⊢; exact E_mono hC _ m h
  | .lst _, env, Q, Q', m, h => by unfold EX at h ⊢; exact E_mono hC _ m h
  | .tup _, env, Q, Q', m, h => by unfold EX at h ⊢; exact E_mono hC _ m h
  | .b2 _ _ _, env, Q, Q', m, h => by unfold EX at h ⊢; exact E_mono hC _ m h
  | .m0 _ _, env, Q, Q', m, h => by unfold EX at h ⊢; exact E_mono hC _ m h
  | .m1 _ _ _, env, Q, Q', m, h => by unfold EX at h ⊢; exact E_mono hC _ m h
  | .slc _ _ _ _ _ _, env, Q, Q', m, h => by unfold EX at h ⊢; exact E_mono hC _ m h
  | .gs _ _, env, Q, Q', m, h => by unfold EX at h ⊢; exact E_mono hC _ m h
  | .lrng _, env, Q, Q', m, h => by unfold EX at h ⊢; exact E_mono hC _ m h
  | .dic0 _, env, Q, Q', m, h => by unfold EX at h ⊢; exact E_mono hC _ m h
  | .dic1 _ _, env, Q, Q', m, h => by unfold EX at h ⊢; exact E_mono hC _ m h
  | .fit _ _, env, Q, Q', m, h => by unfold EX at h ⊢; exact E_mono hC _ m h
  | .isc _ _ _ _, env, Q, Q', m, h => by unfold EX at h ⊢; exact E_mono hC _ m h
  | .chn _ _ _ _ _, env, Q, Q', m, h => by unfold EX at h ⊢; exact E_mono hC _ m h
  | .fld _ _ _ _, env, Q, Q', m, h => by unfold EX at h ⊢; exact E_mono hC _ m h
  | .make _ _ _ _, env, Q, Q', m, h => by unfold EX at h ⊢; exact E_mono hC _ m h
  | .comp _ _ _ _ _, env, Q, Q', m, h => by unfold EX at h ⊢; exact E_mono hC _ m h
  | .rng1 _, env, Q, Q', m, h => by unfold EX at h ⊢; exact E_mono hC _ m h
  | .rng2 _ _, env, Q, Q', m, h => by unfold EX at h ⊢; exact E_mono hC _ m h
  | .rng3 _ _ _, env, Q, Q', m, h => by unfold EX at h ⊢; exact E_mono hC _ m h
  | .ien _, env, Q, Q', m, h => by unfold EX at h ⊢; exact E_mono hC _ m h
  | .izp _ _, env, Q, Q', m, h => by unfold EX at h ⊢; exact E_mono hC _ m h
  | .irv _, env, Q, Q', m, h => by unfold EX at h ⊢; exact E_mono hC _ m h
  | .ikd _, env, Q, Q', m, h => by unfold EX at h ⊢; exact E_mono hC _ m h
  | .irr _, env, Q, Q', m, h => by unfold EX at h ⊢; exact E_mono hC _ m h
theorem W_mono : ∀ (c : CS) {k k' : Ks} {env : Env}, KsLe k k' → W C c k env → W C c k' env
  | .nil, k, k', env, m, h => m.nx _ h
  | .pas, k, k', env, m, h => m.nx _ h
  | .seq a b, k, k', env, m, h => W_mono a (k := { k with nx := W C b k }) (k' := { k' with nx := W C b k' }) ⟨fun _ z => W_mono b m z, m.rt, m.bk, m.ct, m.ex⟩ h
  | .asg i e, k, k', env, m, h => E_mono hC e (fun _ z => m.nx _ z) h
  | .mov i j, k, k', env, m, h => by
    simp only [W] at h ⊢
    split at h
    · exact m.nx _ h
    · exact h
  | .ex e, k, k', env, m, h => E_mono hC e (fun _ z => m.nx _ z) h
  | .ret e, k, k', env, m, h => E_mono hC e m.rt h
  | .ite c a b, k, k', env, m, h => E_mono hC c (fun _ z => onB_mono (W_mono a m) (W_mono b m) z) h
  | .whl _ c b, k, k', env, m, ⟨n, h⟩ => ⟨n, whlW_mono (fun e Q Q' i z => E_mono hC c (fun _ z => onB_mono (W_mono b (k := { nx := Q, ct := Q, bk := k.nx, rt := k.rt, ex := k.ex }) (k' := { nx := Q', ct := Q', bk := k'.nx, rt := k'.rt, ex := k'.ex }) ⟨i, m.rt, m.nx, i, m.ex⟩) (m.nx _) z) z) h⟩
  | .for _ g it b, k, k', env, m, h => It_mono hC it (fun ds z => forW_mono (fun d e Q Q' i z => G0_mono (fun _ z => W_mono b (k := { nx := Q, ct := Q, bk := k.nx, rt := k.rt, ex := k.ex }) (k' := { nx := Q', ct := Q', bk := k'.nx, rt := k'.rt, ex := k'.ex }) ⟨i, m.rt, m.nx, i, m.ex⟩ z) z) m.nx z) h
  | .wkn _ _, k, k', env, m, h => m.nx _ h
  | .unp is e, k, k', env, m, h => E_mono hC e (fun _ z => G0_mono m.nx z) h
  | .augn i p e, k, k', env, m, h => at_mono (fun _ z => E_mono hC e (fun _ z => aug_mono (fun _ z => m.nx _ z) z) z) h
  | .mut x p mu e, k, k', env, m, h => at_mono (fun _ z => Ep_mono hC p (fun _ z => upd_mono (fun d Q Q' i z => ⟨z.1, E_mono hC e (fun _ z => mu_mono i z) z.2⟩) (fun _ z => m.nx _ z) z) z) h
  | .appm x p y, k, k', env, m, h => at_mono (fun _ z => at_mono (fun _ z => Ep_mono hC p (fun _ z => upd_mono (fun d Q Q' i z => ⟨z.1, mu_mono i z.2⟩) (fun _ z => m.nx _ z) z) z) z) h
  | .sto x p i e, k, k', env, m, h => E_mono hC e (fun _ z => at_mono (fun _ z => Ep_mono hC p (fun _ z => upd_mono (fun d Q Q' i' z => ⟨z.1, E_mono hC i (fun _ z => set_mono i' z) z.2⟩) (fun _ z => m.nx _ z) z) z) z) h
  | .aug x p i o e, k, k', env, m, h => at_mono (fun _ z => Ep_mono hC p (fun _ z => upd_mono (fun d Q Q' i' z => ⟨z.1, E_mono hC i (fun _ z => p2_mono (fun _ z => E_mono hC e (fun _ z => aug_mono (fun _ z => set_mono i' z) z) z) z) z.2⟩) (fun _ z => m.nx _ z) z) z) h
  | .popTo y x none, k, k', env, m, h => at_mono (fun _ z => pop_mono (fun _ _ z => m.nx _ z) z) h
  | .popTo y x (some i), k, k', env, m, h => at_mono (fun _ z => ⟨z.1, E_mono hC i (fun _ z => pop_mono (fun _ _ z => m.nx _ z) z) z.2⟩) h
  | .insm x i y, k, k', env, m, h => at_mono (fun _ z => at_mono (fun _ z => ⟨z.1, E_mono hC i (fun _ z => ins_mono (fun _ z => m.nx _ z) z) z.2⟩) z) h
  | .fol _ g x b, k, k', env, m, ⟨n, h⟩ => ⟨n, fol_mono (fun d e Q Q' i z => G0_mono (fun _ z => W_mono b (k := { nx := Q, ct := Q, bk := k.nx, rt := k.rt, ex := k.ex }) (k' := { nx := Q', ct := Q', bk := k'.nx, rt := k'.rt, ex := k'.ex }) ⟨i, m.rt, m.nx, i, m.ex⟩ z) z) m.nx h⟩
  | .fom x y mu e, k, k', env, m, h => at_mono (fun _ ⟨ds, h1, h2⟩ => ⟨ds, h1, fom_mono (step := fun i d Q => updP [(i : Int)] d (fun d0 Q => isL d0 ∧ E C e ((env.set y none).set x (some d)) fun z => muW mu d0 z Q) Q) (fun i d Q Q' mm z => upd_mono (fun d0 Q Q' i' z => ⟨z.1, E_mono hC e (fun _ z => mu_mono i' z) z.2⟩) mm z) (fun _ z => m.nx _ z) h2⟩) h
  | .dst x i e, k, k', env, m, h => E_mono hC e (fun _ z => at_mono (fun _ z => E_mono hC i (fun _ z => ds_mono (fun _ z => m.nx _ z) z) z) z) h
  | .dup x y e, k, k', env, m, h => at_mono (fun _ z => at_mono (fun _ ⟨xs, h1, h2, h3⟩ => ⟨xs, h1, h2, E_mono hC _ (fun _ z => m.nx _ z) h3⟩) z) h
  | .ded, k, k', env, m, h => h
  | .rse c _ _, k, k', env, m, h => m.ex c _ h
  | .rcl t e, k, k', env, m, h => EX_mono hC (fun x z => m.ex x _ z) e (fun _ z => m.nx _ z) h
  | .rrt e, k, k', env, m, h => EX_mono hC (fun x z => m.ex x _ z) e m.rt h
  | .tryx b cs _ n su, k, k', env, m, h => W_mono b (k := { k with ex := fun x env' => if x ∈ cs then k.nx ((SUw su x (env'.set n none)).set n none) else k.ex x env' }) (k' := { k' with ex := fun x env' => if x ∈ cs then k'.nx ((SUw su x (env'.set n none)).set n none) else k'.ex x env' }) ⟨m.nx, m.rt, m.bk, m.ct, fun x e z => by
      (try dsimp only at z ⊢)
      split at z
      · rename_i hx
        rw [if_pos hx]
        exact m.nx _ z
      · rename_i hx
        rw [if_neg hx]
        exact m.ex x e z⟩ h
  | .fomP x c y, k, k', env, m, h => at_mono (fun _ ⟨xs, ys, h1, h2, h3⟩ => ⟨xs, ys, h1, h2, fom_mono (step := fun i d Q => updP [(c : Int), (i : Int)] d (fun d0 Q => isL d0 ∧ E C .non ((env.set y none).set x (some d)) fun z => muW .clr d0 z Q) Q) (fun i d Q Q' mm z => upd_mono (fun d0 Q Q' i' z => ⟨z.1, E_mono hC .non (fun _ z => mu_mono i' z) z.2⟩) mm z) (fun _ z => m.nx _ z) h3⟩) h
  | .fop _ g x a b, k, k', env, m, h => at_mono (fun _ z => E_mono hC a (fun _ z => pop_mono (fun _ _ z => p2_mono (fun _ z => it_mono (fun ds z => forW_mono (fun d e Q Q' i z => G0_mono (fun _ z => W_mono b (k := { nx := Q, ct := Q, bk := k.nx, rt := k.rt, ex := k.ex }) (k' := { nx := Q', ct := Q', bk := k'.nx, rt := k'.rt, ex := k'.ex }) ⟨i, m.rt, m.nx, i, m.ex⟩ z) z) m.nx z) z) z) z) z) h
  | .cio x f es, k, k', env, m, h => at_mono (fun d z => Es_mono hC es (fun ds z => hC _ _ _ _ _ _ (fun _ z => z) (fun _ z => m.nx _ z) z) z) h
  | .brk, k, k', env, m, h => m.bk _ h
  | .cnt, k, k', env, m, h => m.ct _ h
end
theorem Cw_mono (FT : List Fn) : ∀ k, MonC (Cw FT k)
  | 0, X, X', f, ds, Q, Q', mX, m, h => h
  | k + 1, X, X', f, ds, Q, Q', mX, m, h => by
    simp only [Cw, Cr] at h ⊢
    split at h
    · split at h
      · split at h
        · exact ⟨h.1, W_mono (Cw_mono FT k) _ (k := { nx := fun _ => Q .non, rt := Q, ex := fun x _ => X x }) (k' := { nx := fun _ => Q' .non, rt := Q', ex := fun x _ => X' x }) ⟨fun _ z => m _ z, m, fun _ z => z, fun _ z => z, fun x _ z => mX x z⟩ h.2⟩
        · exact ⟨h.1, W_mono (Cw_mono FT k) _ (k := { nx := fun env => atV env 0 Q, rt := fun _ => False }) (k' := { nx := fun env => atV env 0 Q', rt := fun _ => False }) ⟨fun _ z => at_mono m z, fun _ z => z, fun _ z => z, fun _ z => z, fun _ _ z => z⟩ h.2⟩
      · rename_i c es _
        obtain ⟨h1, h2⟩ := h
        refine ⟨h1, ?_⟩
        split at h2
        · exact W_mono (Cw_mono FT k) _ (k := { nx := fun env => Es (Cw FT k) es env fun ds => Q (.obj c ds), rt := fun _ => False, ex := fun x _ => X x }) (k' := { nx := fun env => Es (Cw FT k) es env fun ds => Q' (.obj c ds), rt := fun _ => False, ex := fun x _ => X' x }) ⟨fun _ z => Es_mono (Cw_mono FT k) es (fun _ z => m _ z) z, fun _ z => z, fun _ z => z, fun _ z => z, fun x _ z => mX x z⟩ h2
        · exact Es_mono (Cw_mono FT k) _ (fun bs z => Cw_mono FT k _ _ _ _ _ _ mX (fun d ⟨cb, ds0, e, z⟩ => ⟨cb, ds0, e, W_mono (Cw_mono FT k) _ (k := { nx := fun env => Es (Cw FT k) es env fun ds => Q (.obj c (ds0 ++ ds)), rt := fun _ => False, ex := fun x _ => X x }) (k' := { nx := fun env => Es (Cw FT k) es env fun ds => Q' (.obj c (ds0 ++ ds)), rt := fun _ => False, ex := fun x _ => X' x }) ⟨fun _ z => Es_mono (Cw_mono FT k) es (fun _ z => m _ z) z, fun _ z => z, fun _ z => z, fun _ z => z, fun x _ z => mX x z⟩ z⟩) z) h2
    · exact h
/-- a while by an invariant and a measure -/
theorem W_whl {FT : List Fn} {n : Nat} {inv : List (Nat × T)} {c : CE} {b : CS} {k : Ks} {env : Env} (I : Nat → Env → Prop) (m : Nat) (h0 : I m env)
    (hs : ∀ m env, I m env → E (Cw FT n) c env fun x => onB x (W (Cw FT n) b { nx := fun e => ∃ m', m' < m ∧ I m' e, ct := fun e => ∃ m', m' < m ∧ I m' e, bk := k.nx, rt := k.rt, ex := k.ex } env) (k.nx env)) : W (Cw FT n) (.whl inv c b) k env := by
  have mono : ∀ (e : Env) (Q Q' : Env → Prop), (∀ e, Q e → Q' e) → (E (Cw FT n) c e fun x => onB x (W (Cw FT n) b { nx := Q, ct := Q, bk := k.nx, rt := k.rt, ex := k.ex } e) (k.nx e)) → E (Cw FT n) c e fun x => onB x (W (Cw FT n) b { nx := Q', ct := Q', bk := k.nx, rt := k.rt, ex := k.ex } e) (k.nx e) :=
    fun e Q Q' i z => E_mono (Cw_mono FT n) c (fun _ z => onB_mono (W_mono (Cw_mono FT n) b (k := { nx := Q, ct := Q, bk := k.nx, rt := k.rt, ex := k.ex }) (k' := { nx := Q', ct := Q', bk := k.nx, rt := k.rt, ex := k.ex }) ⟨i, fun _ z => z, fun _ z => z, i, fun _ _ z => z⟩) (fun z => z) z) z
  have key : ∀ m env, I m env → whlW (fun env' nx => E (Cw FT n) c env' fun x => onB x (W (Cw FT n) b { nx := nx, ct := nx, bk := k.nx, rt := k.rt, ex := k.ex } env') (k.nx env')) (m + 1) env := by
    intro m
    induction m using Nat.strongRecOn with
    | _ m ih =>
      intro env h
      exact mono env _ _ (fun e ⟨m', lt, h'⟩ => whlW_le mono (Nat.succ_le_of_lt lt) (ih m' lt e h')) (hs m env h)
  exact ⟨m + 1, key m env h0⟩
/-- a for by an invariant of the turn -/
theorem forW_inv {body : D → Env → (Env → Prop) → Prop} {fin : Env → Prop} (mono : ∀ d e Q Q', (∀ e, Q e → Q' e) → body d e Q → body d e Q') (I : Nat → Env → Prop) : ∀ (ds : List D) (i : Nat) {env : Env}, I i env →
    (∀ j d env, ds[j]? = some d → I (i + j) env → body d env (I (i + j + 1))) → (∀ env, I (i + ds.length) env → fin env) → forW body fin ds env
  | [], i, env, h0, _, hd => hd env h0
  | d :: ds, i, env, h0, hs, hd => by
    refine mono d env _ _ (fun e z => forW_inv mono I ds (i + 1) z (fun j d' env' q z => ?_) fun env' z => hd env' ?_) (hs 0 d env rfl h0)
    · have := hs (j + 1) d' env' (by simpa using q) (by rw [show i + (j + 1) = i + 1 + j by omega]; exact z)
      rw [show i + (j + 1) + 1 = i + 1 + j + 1 by omega] at this
      exact this
    · rw [List.length_cons, show i + (ds.length + 1) = i + 1 + ds.length by omega]
      exact z
theorem W_for {FT : List Fn} {n : Nat} {inv : List (Nat × T)} {g : TG0} {it : CE} {b : CS} {k : Ks} {env : Env} (ds : List D) (I : Nat → Env → Prop) (hi : ∀ Q : List D → Prop, Q ds → It (Cw FT n) it env Q) (h0 : I 0 env)
    (hs : ∀ j d env, ds[j]? = some d → I j env → G0 g d env fun e => W (Cw FT n) b { nx := I (j + 1), ct := I (j + 1), bk := k.nx, rt := k.rt, ex := k.ex } e) (hd : ∀ env, I ds.length env → k.nx env) : W (Cw FT n) (.for inv g it b) k env := by
  refine hi _ (forW_inv (body := fun d env' nx => G0 g d env' fun env2 => W (Cw FT n) b { nx := nx, ct := nx, bk := k.nx, rt := k.rt, ex := k.ex } env2) (fun d e Q Q' i z => G0_mono (fun _ z => W_mono (Cw_mono FT n) b (k := { nx := Q, ct := Q, bk := k.nx, rt := k.rt, ex := k.ex }) (k' := { nx := Q', ct := Q', bk := k.nx, rt := k.rt, ex := k.ex }) ⟨i, fun _ z => z, fun _ z => z, i, fun _ _ z => z⟩ z) z) I ds 0 h0 (fun j d env q z => ?_) fun env z => ?_)
  · rw [Nat.zero_add] at z ⊢
    exact hs j d env q z
  · rw [Nat.zero_add] at z
    exact hd env z
/-! ### steps -/
section
variable {C : CallW} {k : Ks} {env : Env} {d : D} {r a a2 : CS} {e c : CE} {i j : Nat}
theorem w_nil (h : k.nx env) : W C .nil k env := h
theorem w_pas (h : W C r k env) : W C (.seq .pas r) k env := h
theorem w_asg (h : ∀ Q : D → Prop, Q d → E C e env Q) (w : W C r k (env.set i (some d))) : W C (.seq (.asg i e) r) k env := h _ w
theorem w_mov (h : env[j]? = some (some d)) (w : W C r k ((env.set j none).set i (some d))) : W C (.seq (.mov i j) r) k env := by
  show (match env[j]? with | some (some d) => W C r k ((env.set j none).set i (some d)) | _ => False)
  rw [h]
  exact w
theorem w_ex (h : ∀ Q : D → Prop, Q d → E C e env Q) (w : W C r k env) : W C (.seq (.ex e) r) k env := h (fun _ => W C r k env) w
theorem w_ret (h : ∀ Q : D → Prop, Q d → E C e env Q) (w : k.rt d) : W C (.seq (.ret e) r) k env := h _ w
theorem w_rse {cx : Nat} {x m : Str} (h : k.ex cx env) : W C (.seq (.rse cx x m) r) k env := h
theorem w_rcl (h : EX C (fun x => k.ex x env) e env fun d => W C r k (env.set i (some d))) : W C (.seq (.rcl (some i) e) r) k env := h
theorem w_rcl0 (h : EX C (fun x => k.ex x env) e env fun _ => W C r k env) : W C (.seq (.rcl none e) r) k env := h
theorem w_rrt (h : EX C (fun x => k.ex x env) e env k.rt) : W C (.seq (.rrt e) r) k env := h
theorem w_try {b : CS} {cs : List Nat} {x : Str} {n : Nat} {su : List (Nat × XE)} (h : W C b { k with nx := W C r k, ex := fun x env' => if x ∈ cs then W C r k ((SUw su x (env'.set n none)).set n none) else k.ex x env' } env) : W C (.seq (.tryx b cs x n su) r) k env := h
theorem x_call {X : Ex → Prop} {f : Nat} {es : CE} {ds : List D} {Q : D → Prop} (h : ∀ Q : List D → Prop, Q ds → Es C es env Q) (w : C.run X f ds Q) : EX C X (.call f es) env Q := h _ w
theorem x_meth {X : Ex → Prop} {m : Str} {tb : List (Nat × Nat)} {a es : CE} {c f : Nat} {os ds : List D} {Q : D → Prop} (ha : ∀ Q : D → Prop, Q (.obj c os) → E C a env Q) (hf : tb.lookup c = some f) (h : ∀ Q : List D → Prop, Q ds → Es C es env Q) (w : C.run X f (.obj c os :: ds) Q) : EX C X (.meth m tb a es) env Q := ha _ ⟨f, hf, h _ w⟩
theorem w_wkn {x : Nat} {t : T} (h : W C r k env) : W C (.seq (.wkn x t) r) k env := h
theorem w_brk (h : k.bk env) : W C (.seq .brk r) k env := h
theorem w_cnt (h : k.ct env) : W C (.seq .cnt r) k env := h
theorem w_ite {b : Bool} (h : ∀ Q : D → Prop, Q (.bl b) → E C c env Q) (h1 : b = true → W C a { k with nx := W C r k } env) (h2 : b = false → W C a2 { k with nx := W C r k } env) : W C (.seq (.ite c a a2) r) k env := by
  refine h _ ?_
  cases b with
  | true => exact h1 rfl
  | false => exact h2 rfl
theorem w_yes (h : ∀ Q : D → Prop, Q (.bl true) → E C c env Q) (h1 : W C a { k with nx := W C r k } env) : W C (.seq (.ite c a a2) r) k env := h _ h1
theorem w_no (h : ∀ Q : D → Prop, Q (.bl false) → E C c env Q) (h1 : W C a2 { k with nx := W C r k } env) : W C (.seq (.ite c a a2) r) k env := h _ h1
theorem onB_b {b : Bool} {p q : Prop} (h1 : b = true → p) (h2 : b = false → q) : onB (.bl b) p q := by
  cases b with
  | true => exact h1 rfl
  | false => exact h2 rfl
theorem onB_if {b : Bool} {Q : D → Prop} {x y : D} (h : Q (if b then x else y)) : onB (.bl b) (Q x) (Q y) := by
  cases b <;> exact h
end
theorem w_whl {FT : List Fn} {n : Nat} {inv : List (Nat × T)} {c : CE} {b r : CS} {k : Ks} {env : Env} (I : Nat → Env → Prop) (m : Nat) (h0 : I m env)
    (hs : ∀ m env, I m env → E (Cw FT n) c env fun x => onB x (W (Cw FT n) b { nx := fun e => ∃ m', m' < m ∧ I m' e, ct := fun e => ∃ m', m' < m ∧ I m' e, bk := W (Cw FT n) r k, rt := k.rt, ex := k.ex } env) (W (Cw FT n) r k env)) : W (Cw FT n) (.seq (.whl inv c b) r) k env :=
  W_whl (inv := inv) (k := { k with nx := W (Cw FT n) r k }) I m h0 hs
theorem w_for {FT : List Fn} {n : Nat} {inv : List (Nat × T)} {g : TG0} {it : CE} {b r : CS} {k : Ks} {env : Env} (ds : List D) (I : Nat → Env → Prop) (hi : ∀ Q : List D → Prop, Q ds → It (Cw FT n) it env Q) (h0 : I 0 env)
    (hs : ∀ j d env, ds[j]? = some d → I j env → G0 g d env fun e => W (Cw FT n) b { nx := I (j + 1), ct := I (j + 1), bk := W (Cw FT n) r k, rt := k.rt, ex := k.ex } e) (hd : ∀ env, I ds.length env → W (Cw FT n) r k env) : W (Cw FT n) (.seq (.for inv g it b) r) k env :=
  W_for (inv := inv) (k := { k with nx := W (Cw FT n) r k }) ds I hi h0 hs hd
/-! ### sizes -/
theorem mulOk_l {i j : Int} (h1 : -(2 ^ 64) < i) (h2 : i < 2 ^ 64) : mulOk i j := .inl (.inl ⟨h1, h2⟩)
theorem mulOk_r {i j : Int} (h1 : -(2 ^ 64) < j) (h2 : j < 2 ^ 64) : mulOk i j := .inl (.inr ⟨h1, h2⟩)
theorem mulOk_w {i j : Int} (a b : Nat) (ha : i.natAbs < 2 ^ a) (hb : j.natAbs < 2 ^ b) (h0 : 0 < a) (h1 : 0 < b) (h : a + b ≤ 1000000) : mulOk i j := .inr (wide_mul ha hb h0 h1 h)
theorem divOk_w {i j : Int} (b : Nat) (h : j ≠ 0) (hb : j.natAbs < 2 ^ b) (h0 : 0 < b) (h9 : b ≤ 9000) : divOk i j := ⟨h, Nat.lt_of_lt_of_le (PySem.Flt.log2_lt_of h0 hb) h9⟩
/-! ### equality of data -/
theorem eqv_int (i j : Int) : PyData.eqv (D.int i).py (D.int j).py = decide (i = j) := by
  simp only [D.py, PyData.eqv]
  rw [Bool.beq_eq_decide_eq]
theorem okEq_int (i j : Int) : okEq (.int i) (.int j) := ⟨rfl, rfl, by simp [D.py, SeqAt.shaped, PyData.canLay0, PyData.depth], by simp [D.py, SeqAt.shaped, PyData.canLay0, PyData.depth]⟩
theorem p2_eq_int {i j : Int} {Q : D → Prop} : p2 .eq (.int i) (.int j) Q ↔ Q (.bl (decide (i = j))) := by
  show okEq _ _ ∧ _ ↔ _
  rw [eqv_int]
  exact ⟨fun h => h.2, fun h => ⟨okEq_int i j, h⟩⟩
theorem p2_ne_int {i j : Int} {Q : D → Prop} : p2 .ne (.int i) (.int j) Q ↔ Q (.bl (!decide (i = j))) := by
  show okEq _ _ ∧ _ ↔ _
  rw [eqv_int]
  exact ⟨fun h => h.2, fun h => ⟨okEq_int i j, h⟩⟩
end Pv
namespace Pv
open PySem L2
theorem rgC_up {L : Int} (c : Int) (h0 : 0 ≤ L) (hL : L < 2 ^ 30) (hc : 1 ≤ c) (hc2 : c < 2 ^ 30) : RgC 0 L c ((L + c - 1) / c).toNat := by
  have e := PyProof.Rows.rangeSize_pos (len := L) hc h0
  have g0 : 0 ≤ (L + c - 1) / c := Int.ediv_nonneg (by omega) (by omega)
  have g1 : (L + c - 1) / c * c ≤ L + c - 1 := Int.ediv_mul_le _ (by omega)
  have g2 : (L + c - 1) / c ≤ L + c - 1 := Int.ediv_le_self _ (by omega)
  refine ⟨by omega, by omega, ?_, by rw [e]; omega⟩
  unfold Builtin.Range.small
  rw [e]
  generalize (L + c - 1) / c = g at *
  have g3 : g * c = c * g := Int.mul_comm _ _
  simp only [Builtin.Range.rangeFitsLong, Bool.and_eq_true, Bool.or_eq_true, decide_eq_true_eq, beq_iff_eq]
  have g4 : 0 ≤ g * c := Int.mul_nonneg g0 (by omega)
  rw [if_pos (by omega)]
  simp only [Bool.and_eq_true, decide_eq_true_eq]
  clear e g1 g3 g4
  omega
theorem rngL_at {lo c : Int} {n j : Nat} {d : D} (h : (rngL lo c n)[j]? = some d) : j < n ∧ d = .int (lo + (j : Int) * c) := by
  by_cases q : j < n
  · exact ⟨q, Option.some.inj (h.symm.trans (rngL_get q))⟩
  · rw [List.getElem?_eq_none (by rw [rngL_len]; omega)] at h
    cases h
end Pv

set_option maxRecDepth 100000
namespace Pv
open PySem L2
/-! ### texts by their signs -/
abbrev S (l : List Nat) : Str := ⟨l.toArray⟩
theorem S_len (l : List Nat) : (S l).length = l.length := by simp [Str.length]
theorem S_list (l : List Nat) : (S l).cps.toList = l := rfl
theorem S_app (a b : List Nat) : S a ++ S b = S (a ++ b) := by
  show (⟨a.toArray ++ b.toArray⟩ : Str) = _
  simp
theorem S_inj {a b : List Nat} : S a = S b ↔ a = b := by
  constructor
  · intro h
    have := congrArg (fun s : Str => s.cps.toList) h
    simpa using this
  · intro h; rw [h]
theorem eqv_str (a b : Str) : PyData.eqv (D.str a).py (D.str b).py = decide (a = b) := by
  simp only [D.py, PyData.eqv]
  rw [Bool.beq_eq_decide_eq]
def okL (l : List Nat) : Prop := ∀ c ∈ l, c < 1114112
theorem okEq_S {a b : List Nat} (ha : okL a) (hb : okL b) : okEq (.str (S a)) (.str (S b)) := by
  have h : ∀ l : List Nat, okL l → SeqAt.shaped (D.str (S l)).py = true := fun l hl => by
    have : PyData.strOk (S l) = true := by simpa [PyData.strOk, okL] using hl
    simp [D.py, SeqAt.shaped, PyData.canLay0, PyData.depth, this]
  exact ⟨rfl, rfl, h a ha, h b hb⟩
theorem eqv_S (a b : List Nat) : PyData.eqv (D.str (S a)).py (D.str (S b)).py = decide (a = b) := by
  rw [eqv_str]
  exact decide_eq_decide.mpr S_inj
theorem okEq_int_t (i j : Int) : okEq (.int i) (.int j) = True := eq_true (okEq_int i j)
theorem strIn_one (c : Nat) (l : List Nat) : strIn ⟨#[c]⟩ (S l) = decide (c ∈ l) := PySem.StrLaws.found_one (S l) c
theorem small_len {l : List Nat} (h : l.length ≤ 1000000) : (S l).length ≤ sizeLine := by
  rw [S_len]
  exact Nat.le_trans h (by decide)
theorem fmod_nat (a b : Nat) : ((a : Int)).fmod (b : Int) = ((a % b : Nat) : Int) := by
  rw [Int.fmod_eq_emod_of_nonneg _ (by omega)]
  exact (Int.natCast_emod a b).symm
theorem fdiv_nat (a b : Nat) : ((a : Int)).fdiv (b : Int) = ((a / b : Nat) : Int) := by
  rw [Int.fdiv_eq_ediv_of_nonneg _ (by omega)]
  exact (Int.natCast_ediv a b).symm
theorem divOk_s {i j : Int} (h : j ≠ 0) (hb : j.natAbs < 2 ^ 64) : divOk i j := divOk_w 64 h hb (by decide) (by decide)
/-- n's figures, n below 100 -/
def dg (n : Nat) : List Nat := if n < 10 then [48 + n] else [48 + n / 10, 48 + n % 10]
theorem str_dg : ∀ n, n < 100 → (Str.ofString (toString ((n : Nat) : Int))) = S (dg n) := by decide +kernel
theorem atI_0 {α : Type} {c : α} {r : List α} : atI (c :: r) 0 = some c := by
  unfold atI L2.ixN
  simp
theorem atI_1 {α : Type} {a c : α} {r : List α} : atI (a :: c :: r) 1 = some c := by
  unfold atI L2.ixN
  rw [if_pos (by decide), if_pos (by simp only [List.length_cons]; omega)]
  rfl
theorem le1 : 1 ≤ sizeLine := by decide
theorem le2 : 2 ≤ sizeLine := by decide
theorem le3 : 3 ≤ sizeLine := by decide
theorem le4 : 4 ≤ sizeLine := by decide
/-! ### comprehensions -/
theorem cmp_map {step : D → (Option D → Prop) → Prop} {fin : List D → Prop} (f : D → D) : ∀ {ds acc : List D}, (∀ d ∈ ds, ∀ R : Option D → Prop, R (some (f d)) → step d R) → ds.length + acc.length ≤ sizeLine → fin (acc ++ ds.map f) → cmpW step fin ds acc
  | [], acc, _, _, h => by
    have h' : fin (acc ++ []) := h
    rw [List.append_nil] at h'
    exact h'
  | d :: ds, acc, hs, hl, h => by
    have hl' : ds.length + 1 + acc.length ≤ sizeLine := hl
    refine hs d (by simp) _ ⟨by omega, cmp_map f (fun e he => hs e (by simp [he])) (by rw [List.length_append]; simp only [List.length_cons, List.length_nil]; omega) ?_⟩
    simpa using h
theorem cmp_filter {step : D → (Option D → Prop) → Prop} {fin : List D → Prop} (f : D → Option D) : ∀ {ds acc : List D}, (∀ d ∈ ds, ∀ R : Option D → Prop, R (f d) → step d R) → ds.length + acc.length ≤ sizeLine → fin (acc ++ ds.filterMap f) → cmpW step fin ds acc
  | [], acc, _, _, h => by
    have h' : fin (acc ++ []) := h
    rw [List.append_nil] at h'
    exact h'
  | d :: ds, acc, hs, hl, h => by
    have hl' : ds.length + 1 + acc.length ≤ sizeLine := hl
    refine hs d (by simp) _ ?_
    cases e : f d with
    | none => exact cmp_filter f (fun e he => hs e (by simp [he])) (by omega) (by simpa [e] using h)
    | some y => exact ⟨by omega, cmp_filter f (fun e he => hs e (by simp [he])) (by rw [List.length_append]; simp only [List.length_cons, List.length_nil]; omega) (by simpa [e] using h)⟩
end Pv

set_option maxRecDepth 100000
namespace Pv
open PySem L2
/-! ### split, partition, join of texts by their signs -/
def spl (c : Nat) : List Nat → List (List Nat)
  | [] => [[]]
  | x :: r => if x = c then [] :: spl c r else match spl c r with
    | [] => [[x]]
    | p :: ps => (x :: p) :: ps
theorem spl_ne (c : Nat) : ∀ l, ∃ p ps, spl c l = p :: ps
  | [] => ⟨_, _, rfl⟩
  | x :: r => by
    unfold spl
    split
    · exact ⟨_, _, rfl⟩
    · obtain ⟨p, ps, e⟩ := spl_ne c r
      rw [e]
      exact ⟨_, _, rfl⟩
theorem spl_cons_ne {c x : Nat} {r p : List Nat} {ps : List (List Nat)} (h : x ≠ c) (e : spl c r = p :: ps) : spl c (x :: r) = (x :: p) :: ps := by
  rw [spl, if_neg h, e]
theorem spl_app {c : Nat} : ∀ {w : List Nat} (r : List Nat), c ∉ w → spl c (w ++ c :: r) = w :: spl c r
  | [], r, _ => by rw [List.nil_append, spl, if_pos rfl]
  | x :: w, r, h => by
    have h1 : x ≠ c := fun e => h (by simp [e])
    have h2 : c ∉ w := fun e => h (by simp [e])
    rw [List.cons_append]
    exact spl_cons_ne h1 (spl_app r h2)
theorem spl_one {c : Nat} : ∀ {w : List Nat}, c ∉ w → spl c w = [w]
  | [], _ => rfl
  | x :: w, h => spl_cons_ne (fun e => h (by simp [e])) (spl_one fun e => h (by simp [e]))
/-- pieces without the sign, glued -/
def jn1 (c : Nat) : List (List Nat) → List Nat
  | [] => []
  | [p] => p
  | p :: q :: r => p ++ c :: jn1 c (q :: r)
theorem spl_jn {c : Nat} : ∀ {ps : List (List Nat)}, ps ≠ [] → (∀ p ∈ ps, c ∉ p) → spl c (jn1 c ps) = ps
  | [], h, _ => absurd rfl h
  | [p], _, h => spl_one (h p (by simp))
  | p :: q :: r, _, h => by
    rw [jn1, spl_app _ (h p (by simp)), spl_jn (by simp) fun x hx => h x (by simp [hx])]
theorem join_jn (c : Nat) : ∀ ps : List (List Nat), Str.join (S [c]) (ps.map S) = S (jn1 c ps)
  | [] => rfl
  | [p] => rfl
  | p :: q :: r => by
    have ih := join_jn c (q :: r)
    show S p ++ S [c] ++ Str.join (S [c]) ((q :: r).map S) = _
    rw [ih, S_app, S_app, jn1]
    simp
theorem count_jn (c : Nat) : ∀ {ps : List (List Nat)}, ps ≠ [] → (jn1 c ps).count c + 1 = (ps.map fun p => p.count c).sum + ps.length
  | [], h => absurd rfl h
  | [p], _ => by simp [jn1]
  | p :: q :: r, _ => by
    have ih := count_jn c (ps := q :: r) (by simp)
    rw [jn1, List.count_append, List.count_cons_self, List.map_cons, List.sum_cons, List.length_cons]
    omega
theorem S_back (s : Str) : S s.cps.toList = s := by
  cases s
  simp
theorem split_S (c : Nat) (l : List Nat) : Txt.split (S l) (S [c]) = (spl c l).map S := by
  have h1 := StrLaws.join_split (S l) (S [c])
  have h2 := PySem.StrLaws.split_free (S l) c
  have hne : Txt.split (S l) (S [c]) ≠ [] := fun e => by
    have := PyProof.Rows.split_len (S l) c
    rw [show Txt.split (S l) ⟨#[c]⟩ = Txt.split (S l) (S [c]) from rfl, e] at this
    have h0 : ∀ l : List Nat, 0 ≤ PyProof.Rows.cnt c l := fun l => by
      induction l with
      | nil => rw [PyProof.Rows.cnt_nil]; exact Int.le_refl 0
      | cons x r ih => rw [PyProof.Rows.cnt_cons]; split <;> omega
    have := h0 (S l).cps.toList
    simp at *
    omega
  generalize hT : Txt.split (S l) (S [c]) = T at *
  have e : T = (T.map fun s => s.cps.toList).map S := by
    rw [List.map_map]
    exact (List.map_congr_left (fun s _ => (S_back s).symm) : T.map id = _) ▸ (List.map_id T).symm
  rw [e] at h1 ⊢
  rw [join_jn] at h1
  have h3 := S_inj.mp h1
  rw [← h3, spl_jn]
  · intro q
    rw [List.map_eq_nil_iff] at q
    exact hne q
  · intro p hp
    obtain ⟨s, hs, rfl⟩ := List.mem_map.mp hp
    exact fun hc => h2 s hs hc
theorem part_S (c : Nat) (l : List Nat) : (Txt.partition (S l) (S [c])).1 = S (l.takeWhile (fun x => decide (x ≠ c))) := by
  have at1 : ∀ i, StrLaws.At (S l) (S [c]) (S l).length i ↔ l[i]? = some c := fun i => PySem.StrLaws.subAt_one (S l) c i
  have key : ∀ (l : List Nat), (∀ i : Nat, l[i]? ≠ some c) → l.takeWhile (fun x => decide (x ≠ c)) = l := fun l => by
    induction l with
    | nil => intro _; rfl
    | cons x r ih =>
      intro h
      have hx : x ≠ c := fun e => h 0 (by rw [e]; rfl)
      rw [List.takeWhile_cons, if_pos (decide_eq_true hx), ih fun i => by simpa using h (i + 1)]
  have key2 : ∀ (l : List Nat) (i : Nat), l[i]? = some c → (∀ k, k < i → l[k]? ≠ some c) → l.takeWhile (fun x => decide (x ≠ c)) = l.take i := fun l => by
    induction l with
    | nil => intro i h; simp at h
    | cons x r ih =>
      intro i h hn
      cases i with
      | zero => simp at h; subst h; simp
      | succ i =>
        have hx : x ≠ c := fun e => hn 0 (by omega) (by rw [e]; rfl)
        rw [List.takeWhile_cons, if_pos (decide_eq_true hx), List.take_succ_cons, ih i (by simpa using h) fun k hk => by simpa using hn (k + 1) (by omega)]
  rcases PyProof.Rows.partition_head (S l) (S [c]) with ⟨h1, h2⟩ | ⟨i, h1, h2, h3⟩
  · rw [h1, key l fun i q => h2 i ((at1 i).mpr q)]
  · rw [h1, key2 l i ((at1 i).mp h2) fun k hk q => h3 k hk ((at1 k).mpr q)]
    have := StrLaws.strSub_toList (S l) 0 i
    rw [← S_back (Builtin.Str.strSub (S l) 0 i), this]
    simp
theorem join_S (c : Nat) (ps : List (List Nat)) : Txt.join (S [c]) (ps.map S) = S (jn1 c ps) := by
  unfold Txt.join
  rw [StrLaws.glued_eq_join]
  exact join_jn c ps
theorem join_e (ps : List (List Nat)) : Txt.join (S []) (ps.map S) = S ps.flatten := by
  unfold Txt.join
  rw [StrLaws.glued_eq_join]
  induction ps with
  | nil => rfl
  | cons p r ih =>
    cases r with
    | nil =>
      show S p = _
      simp
    | cons q r =>
      show S p ++ S [] ++ Str.join (S []) ((q :: r).map S) = _
      rw [ih, S_app, S_app]
      simp
/-- the words of a row -/
def wds (l : List Nat) : List (List Nat) := (spl 32 l).filter fun p => decide (p ≠ [])
theorem wds_blank (l : List Nat) : wds (32 :: l) = wds l := by
  unfold wds
  rw [spl, if_pos rfl, List.filter_cons]
  simp
theorem wds_blanks (n : Nat) (l : List Nat) : wds (List.replicate n 32 ++ l) = wds l := by
  induction n with
  | zero => rfl
  | succ n ih => rw [List.replicate_succ, List.cons_append, wds_blank, ih]
theorem wds_word {w : List Nat} (h : w ≠ []) (hw : 32 ∉ w) (l : List Nat) : wds (w ++ 32 :: l) = w :: wds l := by
  unfold wds
  rw [spl_app _ hw, List.filter_cons, if_pos (decide_eq_true h)]
theorem wds_last {w : List Nat} (h : w ≠ []) (hw : 32 ∉ w) : wds w = [w] := by
  unfold wds
  rw [spl_one hw, List.filter_cons, if_pos (decide_eq_true h)]
  rfl
theorem wds_nil : wds [] = [] := by
  unfold wds spl
  rfl
/-- a word, then nothing or a blank -/
theorem wds_next {w : List Nat} (h : w ≠ []) (hw : 32 ∉ w) {r : List Nat} (hr : r = [] ∨ ∃ q, r = 32 :: q) : wds (w ++ r) = w :: wds r := by
  rcases hr with rfl | ⟨q, rfl⟩
  · rw [List.append_nil, wds_last h hw, wds_nil]
  · rw [wds_word h hw, wds_blank]
end Pv

set_option maxRecDepth 100000
namespace Pv
open PySem L2
/-! ### equality of data that has no bools -/
def Sim : Nat → D → Prop
  | _, .non => True
  | _, .int _ => True
  | _, .str s => ∀ c ∈ s.cps.toList, c < 1114112
  | n + 1, .tup xs => ∀ x ∈ xs, Sim n x
  | n + 1, .lst xs => ∀ x ∈ xs, Sim n x
  | _, _ => False
theorem sim_plain : ∀ {n : Nat} {x : D}, Sim n x → x.plain = true
  | _, .non, _ => rfl
  | _, .int _, _ => rfl
  | _, .str _, _ => rfl
  | n + 1, .tup xs, h => by unfold D.plain; exact sims xs h
  | n + 1, .lst xs, h => by unfold D.plain; exact sims xs h
  | 0, .tup _, h => by simp [Sim] at h
  | 0, .lst _, h => by simp [Sim] at h
  | 0, .bl _, h | _ + 1, .bl _, h | 0, .dicK _, h | _ + 1, .dicK _, h | 0, .dicT _, h | _ + 1, .dicT _, h | 0, .obj _ _, h | _ + 1, .obj _ _, h => by simp [Sim] at h
where
  sims {n : Nat} : ∀ xs : List D, (∀ x ∈ xs, Sim n x) → D.plains xs = true
  | [], _ => rfl
  | x :: xs, h => by
    unfold D.plains
    rw [sim_plain (h x (by simp)), sims xs fun y hy => h y (by simp [hy])]
    rfl
theorem sim_lay : ∀ {n : Nat} {x : D}, Sim n x → x.py.canLay0 = true ∧ x.py.depth ≤ n
  | _, .non, _ => by simp [D.py, PyData.canLay0, PyData.depth]
  | _, .int _, _ => by simp [D.py, PyData.canLay0, PyData.depth]
  | _, .str s, h => by
    have h' : ∀ c ∈ s.cps.toList, c < 1114112 := by cases ‹Nat› <;> exact h
    have : PyData.strOk s = true := by
      simp only [PyData.strOk]
      rw [Array.all_eq_true']
      intro c hc
      exact decide_eq_true (h' c (by simpa using hc))
    simp [D.py, PyData.canLay0, PyData.depth, this]
  | n + 1, .tup xs, h => by
    have := sims xs h
    simp only [D.py, PyData.canLay0, PyData.depth]
    exact ⟨this.1, by omega⟩
  | n + 1, .lst xs, h => by
    have := sims xs h
    simp only [D.py, PyData.canLay0, PyData.depth]
    exact ⟨this.1, by omega⟩
  | 0, .tup _, h => by simp [Sim] at h
  | 0, .lst _, h => by simp [Sim] at h
  | 0, .bl _, h | _ + 1, .bl _, h | 0, .dicK _, h | _ + 1, .dicK _, h | 0, .dicT _, h | _ + 1, .dicT _, h | 0, .obj _ _, h | _ + 1, .obj _ _, h => by simp [Sim] at h
where
  sims {n : Nat} : ∀ xs : List D, (∀ x ∈ xs, Sim n x) → PyData.canLayAll0 (D.pys xs) = true ∧ PyData.depthAll (D.pys xs) ≤ n
  | [], _ => by simp [D.pys, PyData.canLayAll0, PyData.depthAll]
  | x :: xs, h => by
    have h1 := sim_lay (h x (by simp))
    have h2 := sims xs fun y hy => h y (by simp [hy])
    simp only [D.pys, PyData.canLayAll0, PyData.depthAll, h1.1, h2.1, Bool.and_self, true_and]
    exact Nat.max_le.mpr ⟨h1.2, h2.2⟩
theorem sim_shaped {n : Nat} {x : D} (hn : n ≤ 64) (h : Sim n x) : SeqAt.shaped x.py = true := by
  obtain ⟨h1, h2⟩ := sim_lay h
  unfold SeqAt.shaped
  rw [h1, decide_eq_true (Nat.le_trans h2 hn)]
  rfl
theorem sim_okEq {n : Nat} {x y : D} (hn : n ≤ 64) (hx : Sim n x) (hy : Sim n y) : okEq x y := ⟨sim_plain hx, sim_plain hy, sim_shaped hn hx, sim_shaped hn hy⟩
theorem sim_eqv : ∀ {n : Nat} {x y : D}, Sim n x → Sim n y → (PyData.eqv x.py y.py = true ↔ x = y) := by
  intro n
  induction n with
  | zero =>
    intro x y hx hy
    cases x <;> cases y <;> simp_all [Sim, D.py, PyData.eqv]
  | succ n ih =>
    have all : ∀ xs ys : List D, (∀ x ∈ xs, Sim n x) → (∀ y ∈ ys, Sim n y) → (PyData.eqvAll (D.pys xs) (D.pys ys) = true ↔ xs = ys) := by
      intro xs
      induction xs with
      | nil => intro ys _ _; cases ys <;> simp [D.pys, PyData.eqvAll]
      | cons x xs ihx =>
        intro ys h1 h2
        cases ys with
        | nil => simp [D.pys, PyData.eqvAll]
        | cons y ys =>
          simp only [D.pys, PyData.eqvAll, Bool.and_eq_true, List.cons.injEq]
          rw [ih (h1 x (by simp)) (h2 y (by simp)), ihx ys (fun z hz => h1 z (by simp [hz])) (fun z hz => h2 z (by simp [hz]))]
    intro x y hx hy
    cases x <;> cases y <;> first
      | (simp only [D.py, PyData.eqv, D.lst.injEq]; exact all _ _ hx hy)
      | (simp only [D.py, PyData.eqv, D.tup.injEq]; exact all _ _ hx hy)
      | (simp_all [Sim, D.py, PyData.eqv])
theorem sim_eq {n : Nat} {x y : D} {b : Bool} {Q : D → Prop} (hn : n ≤ 64) (hx : Sim n x) (hy : Sim n y) (hb : b = true ↔ x = y) (q : Q (.bl b)) : p2 .eq x y Q := by
  have : PyData.eqv x.py y.py = b := by
    rw [Bool.eq_iff_iff, sim_eqv hx hy]
    exact hb.symm
  have h : okEq x y ∧ Q (.bl (PyData.eqv x.py y.py)) := ⟨sim_okEq hn hx hy, by rw [this]; exact q⟩
  cases x <;> cases y <;> exact h
theorem sim_ne {n : Nat} {x y : D} {b : Bool} {Q : D → Prop} (hn : n ≤ 64) (hx : Sim n x) (hy : Sim n y) (hb : b = true ↔ x = y) (q : Q (.bl (!b))) : p2 .ne x y Q := by
  have : PyData.eqv x.py y.py = b := by
    rw [Bool.eq_iff_iff, sim_eqv hx hy]
    exact hb.symm
  have h : okEq x y ∧ Q (.bl (!PyData.eqv x.py y.py)) := ⟨sim_okEq hn hx hy, by rw [this]; exact q⟩
  cases x <;> cases y <;> exact h
/-! ### steps with what is not told in full -/
section
variable {C : CallW} {k : Ks} {env : Env} {r : CS} {e : CE} {i x : Nat}
theorem w_asgP {P : D → Prop} (h : ∀ Q : D → Prop, (∀ d, P d → Q d) → E C e env Q) (w : ∀ d, P d → W C r k (env.set i (some d))) : W C (.seq (.asg i e) r) k env := h _ w
theorem w_app {xs : List D} {y : D} (hx : env[x]? = some (some (.lst xs))) (h : ∀ Q : D → Prop, Q y → E C e env Q) (hl : xs.length < sizeLine) (w : W C r k (env.set x (some (.lst (xs ++ [y]))))) : W C (.seq (.mut x [] .app e) r) k env := by
  show atV env x _
  unfold atV
  rw [hx]
  exact ⟨trivial, h _ ⟨hl, w⟩⟩
theorem w_appP {P : D → Prop} {xs : List D} (hx : env[x]? = some (some (.lst xs))) (h : ∀ Q : D → Prop, (∀ d, P d → Q d) → E C e env Q) (hl : xs.length < sizeLine) (w : ∀ y, P y → W C r k (env.set x (some (.lst (xs ++ [y]))))) : W C (.seq (.mut x [] .app e) r) k env := by
  show atV env x _
  unfold atV
  rw [hx]
  exact ⟨trivial, h _ fun y hy => ⟨hl, w y hy⟩⟩
end
theorem cmp_any {step : D → (Option D → Prop) → Prop} {fin : List D → Prop} (P : D → Prop) : ∀ {ds acc : List D}, (∀ d ∈ ds, ∀ R : Option D → Prop, (∀ y, P y → R (some y)) → step d R) → ds.length + acc.length ≤ sizeLine → (∀ ys, ys.length = ds.length → (∀ y ∈ ys, P y) → fin (acc ++ ys)) → cmpW step fin ds acc
  | [], acc, _, _, h => by
    have h' : fin (acc ++ []) := h [] rfl (by simp)
    rw [List.append_nil] at h'
    exact h'
  | d :: ds, acc, hs, hl, h => by
    have hl' : ds.length + 1 + acc.length ≤ sizeLine := hl
    refine hs d (by simp) _ fun y hy => ⟨by omega, cmp_any P (fun e he => hs e (by simp [he])) (by rw [List.length_append]; simp only [List.length_cons, List.length_nil]; omega) fun ys hys hP => ?_⟩
    rw [List.append_assoc]
    exact h (y :: ys) (by simp [hys]) fun z hz => by
      rcases List.mem_cons.mp hz with rfl | hz
      · exact hy
      · exact hP z hz
/-! ### comprehensions as values -/
section
variable {C : CallW} {env : Env} {i : Nat} {elt it c : CE} {ds : List D} {Q : D → Prop}
theorem e_compP (P : D → Prop) (hi : ∀ Q : List D → Prop, Q ds → Pv.It C it env Q) (hl : ds.length ≤ sizeLine) (hs : ∀ d ∈ ds, ∀ R : D → Prop, (∀ y, P y → R y) → E C elt ((env.set i none).set i (some d)) R)
    (hq : ∀ ys, ys.length = ds.length → (∀ y ∈ ys, P y) → Q (.lst ys)) : E C (.comp [i] (.nm i) elt it (.bl true)) env Q := by
  rw [E]
  refine hi _ ?_
  refine cmp_any P (fun d hd R hR => ?_) (by simpa using hl) fun ys h1 h2 => hq _ (by simpa using h1) (by simpa using h2)
  simp only [G0, wipD]
  rw [E]
  exact hs d hd (fun y => R (some y)) hR
theorem e_compF (f : D → D) (hi : ∀ Q : List D → Prop, Q ds → Pv.It C it env Q) (hl : ds.length ≤ sizeLine) (hs : ∀ d ∈ ds, ∀ R : D → Prop, R (f d) → E C elt ((env.set i none).set i (some d)) R)
    (hq : Q (.lst (ds.map f))) : E C (.comp [i] (.nm i) elt it (.bl true)) env Q := by
  rw [E]
  refine hi _ ?_
  refine cmp_map f (fun d hd R hR => ?_) (by simpa using hl) (by simpa using hq)
  simp only [G0, wipD]
  rw [E]
  exact hs d hd (fun y => R (some y)) hR
theorem e_compC (p : D → Bool) (f : D → D) (hi : ∀ Q : List D → Prop, Q ds → Pv.It C it env Q) (hl : ds.length ≤ sizeLine) (hc : ∀ d ∈ ds, ∀ R : D → Prop, R (.bl (p d)) → E C c ((env.set i none).set i (some d)) R) (hs : ∀ d ∈ ds, p d = true → ∀ R : D → Prop, R (f d) → E C elt ((env.set i none).set i (some d)) R)
    (hq : Q (.lst ((ds.filter p).map f))) : E C (.comp [i] (.nm i) elt it c) env Q := by
  rw [E]
  refine hi _ ?_
  refine cmp_filter (fun d => if p d then some (f d) else none) (fun d hd R hR => ?_) (by simpa using hl) ?_
  · refine hc d hd _ ?_
    cases hp : p d with
    | true => rw [hp] at hR; exact hs d hd hp (fun y => R (some y)) hR
    | false => rw [hp] at hR; exact hR
  · have : ds.filterMap (fun d => if p d then some (f d) else none) = (ds.filter p).map f := by
      clear hi hl hc hs hq
      induction ds with
      | nil => rfl
      | cons d ds ih =>
        rw [List.filterMap_cons, List.filter_cons]
        cases hp : p d with
        | true => simp [ih]
        | false => simp [ih]
    rw [this, List.nil_append]
    exact hq
end
theorem it_rng1 {C : CallW} {a : CE} {env : Env} {n : Int} (h : ∀ Q : D → Prop, Q (.int n) → E C a env Q) (h0 : -(2 ^ 62) ≤ n) (h1 : n < 2 ^ 62) : ∀ Q : List D → Prop, Q (rngL 0 1 n.toNat) → Pv.It C (.rng1 a) env Q := fun Q q => by
  unfold Pv.It
  rw [E]
  exact h _ ⟨⟨h0, h1⟩, q⟩
theorem rngN (n : Nat) : rngL 0 1 n = (List.range n).map fun k => D.int (k : Nat) := by
  unfold rngL
  refine List.map_congr_left fun k _ => ?_
  congr 1
  omega
theorem it_lst {C : CallW} {a : CE} {env : Env} {xs : List D} (h : ∀ Q : D → Prop, Q (.lst xs) → E C a env Q) : ∀ Q : List D → Prop, Q xs → Pv.It C a env Q := fun Q q => h _ q
end Pv

set_option maxRecDepth 100000
namespace Pv
open PySem L2
/-! ### lists of whole numbers, tables -/
abbrev wl (x : List Int) : D := .lst (x.map D.int)
abbrev tb (rs : List (List Int)) : D := .lst (rs.map wl)
theorem wl_at {r : List Int} {j : Nat} (h : j < r.length) : atI (r.map D.int) (j : Int) = some (.int (r.getD j 0)) := by
  refine atI_nat ?_
  rw [List.getElem?_map, List.getElem?_eq_getElem h, List.getD_eq_getElem?_getD, List.getElem?_eq_getElem h]
  rfl
theorem map_at {α : Type} {g : α → D} {r : List α} {j : Nat} {x : α} (h : r[j]? = some x) : atI (r.map g) (j : Int) = some (g x) := by
  refine atI_nat ?_
  rw [List.getElem?_map, h]
  rfl
theorem sim_ints {n : Nat} (x : List Int) : Sim (n + 1) (wl x) := by
  intro d hd
  obtain ⟨i, _, rfl⟩ := List.mem_map.mp hd
  cases n <;> trivial
theorem sim_tb {n : Nat} (x : List (List Int)) : Sim (n + 2) (tb x) := by
  intro d hd
  obtain ⟨i, _, rfl⟩ := List.mem_map.mp hd
  exact sim_ints i
theorem int_inj : Function.Injective D.int := fun _ _ h => by cases h; rfl
theorem wl_inj {x y : List Int} : wl x = wl y ↔ x = y := by
  constructor
  · intro h
    have : x.map D.int = y.map D.int := by injection h
    exact (List.map_inj_right (fun _ _ h => int_inj h)).mp this
  · intro h; rw [h]
theorem tb_inj {x y : List (List Int)} : tb x = tb y ↔ x = y := by
  constructor
  · intro h
    have : x.map wl = y.map wl := by injection h
    exact (List.map_inj_right (fun _ _ h => wl_inj.mp h)).mp this
  · intro h; rw [h]
theorem wl_eq {x y : List Int} {Q : D → Prop} (q : Q (.bl (decide (x = y)))) : p2 .eq (wl x) (wl y) Q :=
  sim_eq (n := 1) (by decide) (sim_ints x) (sim_ints y) (by rw [decide_eq_true_iff, wl_inj]) q
theorem wl_ne {x y : List Int} {Q : D → Prop} (q : Q (.bl (!decide (x = y)))) : p2 .ne (wl x) (wl y) Q :=
  sim_ne (n := 1) (by decide) (sim_ints x) (sim_ints y) (by rw [decide_eq_true_iff, wl_inj]) q
theorem tb_eq {x y : List (List Int)} {Q : D → Prop} (q : Q (.bl (decide (x = y)))) : p2 .eq (tb x) (tb y) Q :=
  sim_eq (n := 2) (by decide) (sim_tb x) (sim_tb y) (by rw [decide_eq_true_iff, tb_inj]) q
theorem tb_ne {x y : List (List Int)} {Q : D → Prop} (q : Q (.bl (!decide (x = y)))) : p2 .ne (tb x) (tb y) Q :=
  sim_ne (n := 2) (by decide) (sim_tb x) (sim_tb y) (by rw [decide_eq_true_iff, tb_inj]) q
theorem bl_ne {x y : Bool} {Q : D → Prop} (q : Q (.bl (!decide (x = y)))) : p2 .ne (.bl x) (.bl y) Q := by
  refine ⟨⟨rfl, rfl, ?_, ?_⟩, ?_⟩
  · cases x <;> decide
  · cases y <;> decide
  · have : PyData.eqv (D.bl x).py (D.bl y).py = decide (x = y) := by cases x <;> cases y <;> decide
    rw [this]
    exact q
theorem okEq_wl_t (x y : List Int) : okEq (wl x) (wl y) = True := eq_true (sim_okEq (n := 1) (by decide) (sim_ints x) (sim_ints y))
theorem eqv_wl (x y : List Int) : PyData.eqv (wl x).py (wl y).py = decide (x = y) := by
  rw [Bool.eq_iff_iff, sim_eqv (n := 1) (sim_ints x) (sim_ints y), decide_eq_true_iff, wl_inj]
theorem okEq_tb_t (x y : List (List Int)) : okEq (tb x) (tb y) = True := eq_true (sim_okEq (n := 2) (by decide) (sim_tb x) (sim_tb y))
theorem eqv_tb (x y : List (List Int)) : PyData.eqv (tb x).py (tb y).py = decide (x = y) := by
  rw [Bool.eq_iff_iff, sim_eqv (n := 2) (sim_tb x) (sim_tb y), decide_eq_true_iff, tb_inj]
theorem okEq_bl_t (x y : Bool) : okEq (.bl x) (.bl y) = True := eq_true ⟨rfl, rfl, by cases x <;> decide, by cases y <;> decide⟩
theorem eqv_bl (x y : Bool) : PyData.eqv (D.bl x).py (D.bl y).py = decide (x = y) := by cases x <;> cases y <;> decide
theorem last_at {α : Type} {g : α → D} {P : List α} {l : α} : atI ((P ++ [l]).map g) (-1) = some (g l) := by
  unfold atI L2.ixN
  rw [if_neg (by omega), List.length_map, List.length_append, List.length_singleton, if_pos (by omega)]
  have : ((-1 : Int) + ((P.length + 1 : Nat) : Int)).toNat = P.length := by omega
  show ((P ++ [l]).map g)[((-1 : Int) + ((P.length + 1 : Nat) : Int)).toNat]? = _
  rw [this, List.getElem?_map]
  simp
/-! ### comprehensions over what is told by a list of any things -/
theorem cmp_mapL {α : Type} {step : D → (Option D → Prop) → Prop} {fin : List D → Prop} (g f : α → D) : ∀ {xs : List α} {acc : List D}, (∀ x ∈ xs, ∀ R : Option D → Prop, R (some (f x)) → step (g x) R) → xs.length + acc.length ≤ sizeLine → fin (acc ++ xs.map f) → cmpW step fin (xs.map g) acc
  | [], acc, _, _, h => by
    have h' : fin (acc ++ []) := h
    rw [List.append_nil] at h'
    exact h'
  | d :: ds, acc, hs, hl, h => by
    have hl' : ds.length + 1 + acc.length ≤ sizeLine := hl
    refine hs d (by simp) _ ⟨by omega, cmp_mapL g f (fun e he => hs e (by simp [he])) (by rw [List.length_append]; simp only [List.length_cons, List.length_nil]; omega) ?_⟩
    simpa using h
theorem cmp_filterL {α : Type} {step : D → (Option D → Prop) → Prop} {fin : List D → Prop} (g f : α → D) (p : α → Bool) : ∀ {xs : List α} {acc : List D}, (∀ x ∈ xs, ∀ R : Option D → Prop, R (if p x then some (f x) else none) → step (g x) R) → xs.length + acc.length ≤ sizeLine → fin (acc ++ (xs.filter p).map f) → cmpW step fin (xs.map g) acc
  | [], acc, _, _, h => by
    have h' : fin (acc ++ []) := h
    rw [List.append_nil] at h'
    exact h'
  | d :: ds, acc, hs, hl, h => by
    have hl' : ds.length + 1 + acc.length ≤ sizeLine := hl
    refine hs d (by simp) _ ?_
    rw [List.filter_cons] at h
    cases e : p d with
    | false =>
      rw [e] at h
      exact cmp_filterL g f p (fun e he => hs e (by simp [he])) (by omega) h
    | true =>
      rw [e] at h
      exact ⟨by omega, cmp_filterL g f p (fun e he => hs e (by simp [he])) (by rw [List.length_append]; simp only [List.length_cons, List.length_nil]; omega) (by simpa using h)⟩
section
variable {C : CallW} {env : Env} {i : Nat} {elt it a c : CE} {Q : D → Prop}
theorem e_lstF {α : Type} (g f : α → D) (xs : List α) (hi : ∀ Q : List D → Prop, Q (xs.map g) → Pv.It C it env Q) (hl : xs.length ≤ sizeLine) (hs : ∀ x ∈ xs, ∀ R : D → Prop, R (f x) → E C elt ((env.set i none).set i (some (g x))) R)
    (hq : Q (.lst (xs.map f))) : E C (.comp [i] (.nm i) elt it (.bl true)) env Q := by
  rw [E]
  refine hi _ (cmp_mapL g f (fun d hd R hR => ?_) (by simpa using hl) (by simpa using hq))
  simp only [G0, wipD]
  rw [E]
  exact hs d hd (fun y => R (some y)) hR
theorem e_lstC {α : Type} (g f : α → D) (p : α → Bool) (xs : List α) (hi : ∀ Q : List D → Prop, Q (xs.map g) → Pv.It C it env Q) (hl : xs.length ≤ sizeLine) (hc : ∀ x ∈ xs, ∀ R : D → Prop, R (.bl (p x)) → E C c ((env.set i none).set i (some (g x))) R) (hs : ∀ x ∈ xs, p x = true → ∀ R : D → Prop, R (f x) → E C elt ((env.set i none).set i (some (g x))) R)
    (hq : Q (.lst ((xs.filter p).map f))) : E C (.comp [i] (.nm i) elt it c) env Q := by
  rw [E]
  refine hi _ (cmp_filterL g f p (fun d hd R hR => ?_) (by simpa using hl) (by simpa using hq))
  simp only [G0, wipD]
  refine hc d hd _ ?_
  cases hp : p d with
  | true => rw [hp] at hR; exact hs d hd hp (fun y => R (some y)) hR
  | false => rw [hp] at hR; exact hR
theorem it_rN {n : Nat} (h : ∀ Q : D → Prop, Q (.int n) → E C a env Q) (hn : n ≤ 1000000) : ∀ Q : List D → Prop, Q ((List.range n).map fun k => D.int (k : Nat)) → Pv.It C (.rng1 a) env Q := fun Q q => by
  refine it_rng1 (n := (n : Int)) h (by omega) (by omega) Q ?_
  rw [Int.toNat_natCast, rngN]
  exact q
theorem szM {n : Nat} (h : n ≤ 1000000) : n ≤ sizeLine := Nat.le_trans h (by decide)
theorem e_rngF (n : Nat) (f : Nat → D) (h : ∀ Q : D → Prop, Q (.int n) → E C a env Q) (hn : n ≤ 1000000) (hs : ∀ k, k < n → ∀ R : D → Prop, R (f k) → E C elt ((env.set i none).set i (some (.int (k : Nat)))) R)
    (hq : Q (.lst ((List.range n).map f))) : E C (.comp [i] (.nm i) elt (.rng1 a) (.bl true)) env Q :=
  e_lstF (fun k : Nat => D.int k) f (List.range n) (it_rN h hn) (by rw [List.length_range]; exact szM hn) (fun x hx => hs x (List.mem_range.mp hx)) hq
theorem e_rngC (n : Nat) (p : Nat → Bool) (f : Nat → D) (h : ∀ Q : D → Prop, Q (.int n) → E C a env Q) (hn : n ≤ 1000000) (hc : ∀ k, k < n → ∀ R : D → Prop, R (.bl (p k)) → E C c ((env.set i none).set i (some (.int (k : Nat)))) R) (hs : ∀ k, k < n → p k = true → ∀ R : D → Prop, R (f k) → E C elt ((env.set i none).set i (some (.int (k : Nat)))) R)
    (hq : Q (.lst (((List.range n).filter p).map f))) : E C (.comp [i] (.nm i) elt (.rng1 a) c) env Q :=
  e_lstC (fun k : Nat => D.int k) f p (List.range n) (it_rN h hn) (by rw [List.length_range]; exact szM hn) (fun x hx => hc x (List.mem_range.mp hx)) (fun x hx => hs x (List.mem_range.mp hx)) hq
end
section
variable {FT : List Fn} {n : Nat} {inv : List (Nat × T)} {g : TG0} {it a : CE} {b r : CS} {k : Ks} {env : Env}
theorem w_forN (m : Nat) (I : Nat → Env → Prop) (hi : ∀ Q : D → Prop, Q (.int m) → E (Cw FT n) a env Q) (hm : m ≤ 1000000) (h0 : I 0 env)
    (hs : ∀ j env, j < m → I j env → G0 g (.int (j : Nat)) env fun e => W (Cw FT n) b { nx := I (j + 1), ct := I (j + 1), bk := W (Cw FT n) r k, rt := k.rt, ex := k.ex } e) (hd : ∀ env, I m env → W (Cw FT n) r k env) : W (Cw FT n) (.seq (.for inv g (.rng1 a) b) r) k env :=
  w_for ((List.range m).map fun k => D.int (k : Nat)) I (it_rN hi hm) h0 (fun j d env hj h => by
    rw [List.getElem?_map] at hj
    by_cases q : j < m
    · rw [List.getElem?_range q] at hj
      cases hj
      exact hs j env q h
    · rw [List.getElem?_eq_none (by simpa using q)] at hj
      cases hj) (fun env h => hd env (by simpa using h))
theorem w_forL {α : Type} (f : α → D) (xs : List α) (I : Nat → Env → Prop) (hi : ∀ Q : D → Prop, Q (.lst (xs.map f)) → E (Cw FT n) it env Q) (h0 : I 0 env)
    (hs : ∀ j x env, xs[j]? = some x → I j env → G0 g (f x) env fun e => W (Cw FT n) b { nx := I (j + 1), ct := I (j + 1), bk := W (Cw FT n) r k, rt := k.rt, ex := k.ex } e) (hd : ∀ env, I xs.length env → W (Cw FT n) r k env) : W (Cw FT n) (.seq (.for inv g it b) r) k env :=
  w_for (xs.map f) I (it_lst hi) h0 (fun j d env hj h => by
    rw [List.getElem?_map] at hj
    cases hx : xs[j]? with
    | none => rw [hx] at hj; cases hj
    | some x =>
      rw [hx] at hj
      cases hj
      exact hs j x env hx h) (fun env h => hd env (by simpa using h))
end
theorem e_o2 {C : CallW} {env : Env} {p : P2} {a b : CE} {Q : D → Prop} (x y : D) (h1 : ∀ Q : D → Prop, Q x → E C a env Q) (h2 : ∀ Q : D → Prop, Q y → E C b env Q) (h : p2 p x y Q) : E C (.o2 p a b) env Q := by
  rw [E]
  exact h1 _ (h2 _ h)
theorem e_o1 {C : CallW} {env : Env} {p : P1} {a : CE} {Q : D → Prop} (x : D) (h1 : ∀ Q : D → Prop, Q x → E C a env Q) (h : p1 p x Q) : E C (.o1 p a) env Q := by
  rw [E]
  exact h1 _ h
theorem e_int {C : CallW} {env : Env} {i : Int} {Q : D → Prop} (h : Q (.int i)) : E C (.int i) env Q := by
  rw [E]
  exact h
theorem max_ex : ∀ {ns : List Int}, 0 < ns.length → ∃ m, m ∈ ns ∧ ∀ y ∈ ns, y ≤ m
  | [x], _ => ⟨x, by simp, by simp⟩
  | x :: y :: r, _ => by
    obtain ⟨m, h1, h2⟩ := max_ex (ns := y :: r) (by simp)
    by_cases q : m ≤ x
    · exact ⟨x, by simp, fun z hz => by
        rcases List.mem_cons.mp hz with rfl | hz
        · exact Int.le_refl _
        · exact Int.le_trans (h2 z hz) q⟩
    · exact ⟨m, List.mem_cons_of_mem _ h1, fun z hz => by
        rcases List.mem_cons.mp hz with rfl | hz
        · omega
        · exact h2 z hz⟩
theorem p1_max {ns : List Int} {m : Int} {Q : D → Prop} (h1 : m ∈ ns) (h2 : ∀ y ∈ ns, y ≤ m) (q : Q (.int m)) : p1 .max1 (wl ns) Q :=
  ⟨ns, rfl, List.length_pos_of_mem h1, fun m' a b => by
    have : m' = m := Int.le_antisymm (h2 m' a) (b m h1)
    rw [this]
    exact q⟩
theorem p1_min {ns : List Int} {m : Int} {Q : D → Prop} (h1 : m ∈ ns) (h2 : ∀ y ∈ ns, m ≤ y) (q : Q (.int m)) : p1 .min1 (wl ns) Q :=
  ⟨ns, rfl, List.length_pos_of_mem h1, fun m' a b => by
    have : m' = m := Int.le_antisymm (b m h1) (h2 m' a)
    rw [this]
    exact q⟩
theorem p1_sum {ns : List Int} {Q : D → Prop} (q : Q (.int ns.sum)) : p1 .sum1 (wl ns) Q := ⟨ns, rfl, q⟩
theorem lsts {α : Type} (f : α → D) : ∀ {ys : List D} (P : α → Prop), (∀ y ∈ ys, ∃ c, P c ∧ y = f c) → ∃ cs : List α, ys = cs.map f ∧ ∀ c ∈ cs, P c
  | [], P, _ => ⟨[], rfl, by simp⟩
  | y :: ys, P, h => by
    obtain ⟨c, hc, rfl⟩ := h y (by simp)
    obtain ⟨cs, rfl, hcs⟩ := lsts f (ys := ys) P fun z hz => h z (by simp [hz])
    exact ⟨c :: cs, rfl, fun z hz => by
      rcases List.mem_cons.mp hz with rfl | hz
      · exact hc
      · exact hcs z hz⟩
/-- whole numbers of some kind, one for each of a range -/
theorem e_rngI {C : CallW} {env : Env} {i : Nat} {elt a : CE} {Q : D → Prop} (n : Nat) (P : Int → Prop) (h : ∀ Q : D → Prop, Q (.int n) → E C a env Q) (hn : n ≤ 1000000) (hs : ∀ k, k < n → ∀ R : D → Prop, (∀ x, P x → R (.int x)) → E C elt ((env.set i none).set i (some (.int (k : Nat)))) R)
    (hq : ∀ xs : List Int, xs.length = n → (∀ x ∈ xs, P x) → Q (wl xs)) : E C (.comp [i] (.nm i) elt (.rng1 a) (.bl true)) env Q := by
  refine e_compP (fun y => ∃ x, P x ∧ y = .int x) (it_rN h hn) (by rw [List.length_map, List.length_range]; exact szM hn) (fun d hd R hR => ?_) fun ys hl hP => ?_
  · obtain ⟨k, hk, rfl⟩ := List.mem_map.mp hd
    exact hs k (List.mem_range.mp hk) R fun x hx => hR _ ⟨x, hx, rfl⟩
  · obtain ⟨xs, rfl, hx⟩ := lsts D.int P hP
    exact hq xs (by simpa using hl) hx
/-! ### dicts -/
section
variable {κ : Type} [DecidableEq κ]
theorem dval_app (kvs : List (κ × D)) (k j : κ) (v : D) (h : (kvs.any fun kv => decide (kv.1 = k)) = false) : dval (kvs ++ [(k, v)]) j = if j = k then some v else dval kvs j := by
  induction kvs with
  | nil =>
    by_cases e : k = j
    · subst e
      simp [dval]
    · rw [if_neg fun z => e z.symm]
      simp [dval, e]
  | cons p kvs ih =>
    rw [List.any_cons, Bool.or_eq_false_iff] at h
    have e1 := of_decide_eq_false h.1
    have ih := ih h.2
    unfold dval at ih ⊢
    rw [List.cons_append, List.find?_cons, List.find?_cons]
    by_cases e : p.1 = j
    · rw [decide_eq_true e]
      rw [if_neg fun z => e1 (e.trans z)]
    · rw [decide_eq_false e]
      exact ih
theorem dval_repl (kvs : List (κ × D)) (k j : κ) (v : D) : dval (kvs.map fun kv => if kv.1 = k then (kv.1, v) else kv) j = (dval kvs j).map fun x => if j = k then v else x := by
  induction kvs with
  | nil => rfl
  | cons p kvs ih =>
    unfold dval at ih ⊢
    rw [List.map_cons, List.find?_cons, List.find?_cons]
    have e0 : (if p.1 = k then (p.1, v) else p).1 = p.1 := by split <;> rfl
    rw [e0]
    by_cases e : p.1 = j
    · rw [decide_eq_true e]
      by_cases q : p.1 = k
      · rw [if_pos q]
        simp [← e, q]
      · rw [if_neg q]
        simp [← e, q]
    · rw [decide_eq_false e]
      exact ih
theorem dval_dput (kvs : List (κ × D)) (k j : κ) (v : D) : dval (dput kvs k v) j = if j = k then some v else dval kvs j := by
  unfold dput
  by_cases q : (kvs.any fun kv => decide (kv.1 = k)) = true
  · rw [if_pos q, dval_repl]
    by_cases e : j = k
    · subst e
      rw [if_pos rfl]
      have : ∃ d, dval kvs j = some d := by
        obtain ⟨p, h1, h2⟩ := List.any_eq_true.mp q
        unfold dval
        cases h : kvs.find? fun kv => decide (kv.1 = j) with
        | none => exact absurd h2 (by simpa using List.find?_eq_none.mp h p h1)
        | some x => exact ⟨_, rfl⟩
      obtain ⟨d, hd⟩ := this
      rw [hd]
      simp
    · rw [if_neg e]
      cases dval kvs j <;> simp [e]
  · rw [if_neg q]
    exact dval_app kvs k j v (Bool.eq_false_iff.mpr q)
theorem length_dput (kvs : List (κ × D)) (k : κ) (v : D) : (dput kvs k v).length ≤ kvs.length + 1 := by
  unfold dput
  split <;> simp
end
/-! ### a comprehension's things, one by one -/
theorem cmp_pair {α : Type} {step : D → (Option D → Prop) → Prop} {fin : List D → Prop} (g : α → D) (P : α → D → Prop) : ∀ {xs : List α} {acc : List D}, (∀ x ∈ xs, ∀ R : Option D → Prop, (∀ y, P x y → R (some y)) → step (g x) R) → xs.length + acc.length ≤ sizeLine → (∀ ys, Paired P xs ys → fin (acc ++ ys)) → cmpW step fin (xs.map g) acc
  | [], acc, _, _, h => by
    have h' : fin (acc ++ []) := h [] .nil
    rw [List.append_nil] at h'
    exact h'
  | d :: ds, acc, hs, hl, h => by
    have hl' : ds.length + 1 + acc.length ≤ sizeLine := hl
    refine hs d (by simp) _ fun y hy => ⟨by omega, cmp_pair g P (fun e he => hs e (by simp [he])) (by rw [List.length_append]; simp only [List.length_cons, List.length_nil]; omega) fun ys hys => ?_⟩
    rw [List.append_assoc]
    exact h (y :: ys) (.cons hy hys)
theorem e_lstP {C : CallW} {env : Env} {i : Nat} {elt it : CE} {Q : D → Prop} {α : Type} (g : α → D) (P : α → D → Prop) (xs : List α) (hi : ∀ Q : List D → Prop, Q (xs.map g) → Pv.It C it env Q) (hl : xs.length ≤ sizeLine) (hs : ∀ x ∈ xs, ∀ R : D → Prop, (∀ y, P x y → R y) → E C elt ((env.set i none).set i (some (g x))) R)
    (hq : ∀ ys, Paired P xs ys → Q (.lst ys)) : E C (.comp [i] (.nm i) elt it (.bl true)) env Q := by
  rw [E]
  refine hi _ (cmp_pair g P (fun d hd R hR => ?_) (by simpa using hl) (fun ys h => by simpa using hq ys h))
  simp only [G0, wipD]
  rw [E]
  exact hs d hd (fun y => R (some y)) hR
/-! ### a slot's own list walked -/
theorem w_fol {FT : List Fn} {n : Nat} {inv : List (Nat × T)} {g : TG0} {x : Nat} {b r : CS} {k : Ks} {env : Env} {α : Type} (f : α → D) (xs : List α) (I : Nat → Env → Prop) (h0 : I 0 env) (hx : ∀ j env, I j env → env[x]? = some (some (.lst (xs.map f))))
    (hs : ∀ j y env, xs[j]? = some y → I j env → G0 g (f y) env fun e => W (Cw FT n) b { nx := I (j + 1), ct := I (j + 1), bk := W (Cw FT n) r k, rt := k.rt, ex := k.ex } e) (hd : ∀ env, I xs.length env → W (Cw FT n) r k env) : W (Cw FT n) (.seq (.fol inv g x b) r) k env := by
  have key : ∀ (m j : Nat) (env : Env), xs.length - j < m → j ≤ xs.length → I j env → folW x (fun d env' nx => G0 g d env' fun env2 => W (Cw FT n) b { nx := nx, ct := nx, bk := W (Cw FT n) r k, rt := k.rt, ex := k.ex } env2) (W (Cw FT n) r k) m j env := by
    intro m
    induction m with
    | zero => intro j env h; omega
    | succ m ih =>
      intro j env h hj hI
      simp only [folW, atV, hx j env hI]
      refine ⟨_, rfl, ?_⟩
      rw [List.getElem?_map]
      by_cases q : j < xs.length
      · rw [List.getElem?_eq_getElem q]
        exact G0_mono (fun _ z => W_mono (Cw_mono FT n) b (k := { nx := I (j + 1), ct := I (j + 1), bk := W (Cw FT n) r k, rt := k.rt, ex := k.ex }) ⟨fun e z => ih (j + 1) e (by omega) (by omega) z, fun _ z => z, fun _ z => z, fun e z => ih (j + 1) e (by omega) (by omega) z, fun _ _ z => z⟩ z) (hs j _ env (List.getElem?_eq_getElem q) hI)
      · have e : j = xs.length := by omega
        subst e
        rw [List.getElem?_eq_none (by omega)]
        exact hd env hI
  rw [W, W]
  exact ⟨xs.length + 1, key _ 0 env (by omega) (Nat.zero_le _) h0⟩
/-! ### within a list -/
theorem okIn_sim {n : Nat} {x : D} {ys : List D} (hn : n + 1 ≤ 64) (hx : Sim n x) (hy : ∀ y ∈ ys, Sim n y) : okIn x ys := by
  have h : Sim (n + 1) (.lst ys) := hy
  have hp := sim_plain h
  have hs := sim_shaped hn h
  exact ⟨sim_plain hx, by unfold D.plain at hp; exact hp, sim_shaped (by omega) hx, by unfold D.py at hs; exact hs⟩
theorem any_sim {n : Nat} {x : D} {ys : List D} (hx : Sim n x) (hy : ∀ y ∈ ys, Sim n y) : (ys.any fun y => PyData.eqv y.py x.py) = true ↔ x ∈ ys := by
  rw [List.any_eq_true]
  constructor
  · rintro ⟨y, h1, h2⟩
    have := (sim_eqv (hy y h1) hx).mp h2
    rw [← this]
    exact h1
  · intro h
    exact ⟨x, h, (sim_eqv hx hx).mpr rfl⟩
theorem okIn_ints {α : Type} {f : α → Int} (x : Int) (xs : List α) : okIn (.int x) (xs.map fun k => D.int (f k)) :=
  okIn_sim (n := 0) (by decide) trivial fun y hy => by
    obtain ⟨k, _, rfl⟩ := List.mem_map.mp hy
    trivial
theorem any_nats (x : Nat) (xs : List Nat) : ((xs.map fun k : Nat => D.int (k : Nat)).any fun y => PyData.eqv y.py (D.int (x : Nat)).py) = decide (x ∈ xs) := by
  have hy : ∀ y ∈ xs.map fun k : Nat => D.int (k : Nat), Sim 0 y := fun y hy => by
    obtain ⟨k, _, rfl⟩ := List.mem_map.mp hy
    trivial
  rw [Bool.eq_iff_iff, any_sim (n := 0) (x := .int (x : Nat)) (show Sim 0 (.int (x : Nat)) from trivial) hy, decide_eq_true_iff, List.mem_map]
  constructor
  · rintro ⟨k, h, e⟩
    injection e with e
    have : k = x := Int.ofNat.inj e
    rwa [← this]
  · intro h
    exact ⟨x, h, rfl⟩
/-- a cell of the script -/
def cell (ns : List Int) (j : Nat) : Int := ns.getD j 0
theorem fmod_range (c m : Int) (hm : 0 < m) : ∃ n : Nat, c.fmod m = (n : Int) ∧ (n : Int) < m := by
  refine ⟨(c.fmod m).toNat, ?_, ?_⟩
  · rw [Int.toNat_of_nonneg (Int.fmod_nonneg_of_pos c hm)]
  · rw [Int.toNat_of_nonneg (Int.fmod_nonneg_of_pos c hm)]
    exact Int.fmod_lt_of_pos c hm
end Pv

set_option maxRecDepth 100000
set_option maxHeartbeats 1000000
namespace Pv
open PySem L2
/-! ### steps of expressions -/
section
variable {C : CallW} {env : Env} {a b c d : CE} {x y z u : D} {Q : D → Prop} {f : Nat}
theorem e_andB (h : E C a env fun x => onB x (E C b env Q) (Q (.bl false))) : E C (.and a b) env Q := by rw [E]; exact h
theorem e_orB (h : E C a env fun x => onB x (Q (.bl true)) (E C b env Q)) : E C (.or a b) env Q := by rw [E]; exact h
theorem e_notB (h : E C a env fun x => onB x (Q (.bl false)) (Q (.bl true))) : E C (.not a) env Q := by rw [E]; exact h
/-- both sides told -/
theorem e_and2 {p q : Bool} (h1 : ∀ Q : D → Prop, Q (.bl p) → E C a env Q) (h2 : p = true → ∀ Q : D → Prop, Q (.bl q) → E C b env Q) (h : Q (.bl (p && q))) : E C (.and a b) env Q := by
  refine e_andB (h1 _ ?_)
  cases p with
  | false => exact h
  | true => exact h2 rfl _ h
theorem e_or2 {p q : Bool} (h1 : ∀ Q : D → Prop, Q (.bl p) → E C a env Q) (h2 : p = false → ∀ Q : D → Prop, Q (.bl q) → E C b env Q) (h : Q (.bl (p || q))) : E C (.or a b) env Q := by
  refine e_orB (h1 _ ?_)
  cases p with
  | true => exact h
  | false => exact h2 rfl _ h
theorem e_not1 {p : Bool} (h1 : ∀ Q : D → Prop, Q (.bl p) → E C a env Q) (h : Q (.bl (!p))) : E C (.not a) env Q := by
  refine e_notB (h1 _ ?_)
  cases p <;> exact h
theorem e_v {j : Nat} (he : env[j]? = some (some x)) (q : Q x) : E C (.var j) env Q := by
  rw [E, he]
  exact q
theorem es0 {Q : List D → Prop} (q : Q []) : Es C .nil env Q := by rw [Es]; exact q
theorem es1 {Q : List D → Prop} {e : CE} (h1 : ∀ Q : D → Prop, Q x → E C a env Q) (q : Es C e env fun xs => Q (x :: xs)) : Es C (.cons a e) env Q := by
  rw [Es]
  exact h1 _ q
theorem e_c1 (h1 : ∀ Q : D → Prop, Q x → E C a env Q) (q : C f [x] Q) : E C (.call f (.cons a .nil)) env Q := by
  rw [E]
  exact es1 h1 (es0 q)
theorem e_c2 (h1 : ∀ Q : D → Prop, Q x → E C a env Q) (h2 : ∀ Q : D → Prop, Q y → E C b env Q) (q : C f [x, y] Q) : E C (.call f (.cons a (.cons b .nil))) env Q := by
  rw [E]
  exact es1 h1 (es1 h2 (es0 q))
theorem e_c3 (h1 : ∀ Q : D → Prop, Q x → E C a env Q) (h2 : ∀ Q : D → Prop, Q y → E C b env Q) (h3 : ∀ Q : D → Prop, Q z → E C c env Q) (q : C f [x, y, z] Q) : E C (.call f (.cons a (.cons b (.cons c .nil)))) env Q := by
  rw [E]
  exact es1 h1 (es1 h2 (es1 h3 (es0 q)))
theorem e_c4 (h1 : ∀ Q : D → Prop, Q x → E C a env Q) (h2 : ∀ Q : D → Prop, Q y → E C b env Q) (h3 : ∀ Q : D → Prop, Q z → E C c env Q) (h4 : ∀ Q : D → Prop, Q u → E C d env Q) (q : C f [x, y, z, u] Q) : E C (.call f (.cons a (.cons b (.cons c (.cons d .nil))))) env Q := by
  rw [E]
  exact es1 h1 (es1 h2 (es1 h3 (es1 h4 (es0 q))))
theorem e_t2 (h1 : ∀ Q : D → Prop, Q x → E C a env Q) (h2 : ∀ Q : D → Prop, Q y → E C b env Q) (q : Q (.tup [x, y])) : E C (.tup (.cons a (.cons b .nil))) env Q := by
  rw [E]
  exact es1 h1 (es1 h2 (es0 ⟨le2, q⟩))
theorem e_t3 (h1 : ∀ Q : D → Prop, Q x → E C a env Q) (h2 : ∀ Q : D → Prop, Q y → E C b env Q) (h3 : ∀ Q : D → Prop, Q z → E C c env Q) (q : Q (.tup [x, y, z])) : E C (.tup (.cons a (.cons b (.cons c .nil)))) env Q := by
  rw [E]
  exact es1 h1 (es1 h2 (es1 h3 (es0 ⟨le3, q⟩)))
theorem e_l0 (q : Q (.lst [])) : E C (.lst .nil) env Q := by
  rw [E]
  exact es0 ⟨Nat.zero_le _, q⟩
theorem e_l1 (h1 : ∀ Q : D → Prop, Q x → E C a env Q) (q : Q (.lst [x])) : E C (.lst (.cons a .nil)) env Q := by
  rw [E]
  exact es1 h1 (es0 ⟨le1, q⟩)
theorem e_l2 (h1 : ∀ Q : D → Prop, Q x → E C a env Q) (h2 : ∀ Q : D → Prop, Q y → E C b env Q) (q : Q (.lst [x, y])) : E C (.lst (.cons a (.cons b .nil))) env Q := by
  rw [E]
  exact es1 h1 (es1 h2 (es0 ⟨le2, q⟩))
theorem e_fld {n : Str} {i c : Nat} {cs : List Nat} {ds : List D} (h1 : ∀ Q : D → Prop, Q (.obj c ds) → E C a env Q) (hc : c ∈ cs) (hd : ds[i]? = some x) (q : Q x) : E C (.fld n i cs a) env Q := by
  rw [E]
  exact h1 _ ⟨hc, x, hd, q⟩
theorem e_m0 {n : Str} {c : Nat} {tb : List (Nat × Nat)} {ds : List D} (h1 : ∀ Q : D → Prop, Q (.obj c ds) → E C a env Q) (hf : tb.lookup c = some f) (q : C f [.obj c ds] Q) : E C (.meth n tb a .nil) env Q := by
  rw [E]
  exact h1 _ ⟨f, hf, es0 q⟩
theorem e_m1 {n : Str} {c : Nat} {tb : List (Nat × Nat)} {ds : List D} (h1 : ∀ Q : D → Prop, Q (.obj c ds) → E C a env Q) (hf : tb.lookup c = some f) (h2 : ∀ Q : D → Prop, Q y → E C b env Q) (q : C f [.obj c ds, y] Q) : E C (.meth n tb a (.cons b .nil)) env Q := by
  rw [E]
  exact h1 _ ⟨f, hf, es1 h2 (es0 q)⟩
theorem e_isc {n : Str} {c : Nat} {ds : List D} (h1 : ∀ Q : D → Prop, Q (.obj c ds) → E C a env Q) (q : Q (.bl true)) {cs : List Nat} : E C (.isc c n cs a) env Q := by
  rw [E]
  exact h1 _ ⟨List.mem_cons_self, q⟩
theorem e_iscS {n : Str} {c c' : Nat} {ds : List D} {cs : List Nat} (h1 : ∀ Q : D → Prop, Q (.obj c' ds) → E C a env Q) (hc : c' ∈ c :: cs) (q : Q (.bl true)) : E C (.isc c n cs a) env Q := by
  rw [E]
  exact h1 _ ⟨hc, q⟩
theorem e_ct {xs : List D} (h1 : ∀ Q : D → Prop, Q (.lst xs) → E C a env Q) (q : Q (.tup xs)) : E C (.o1 .tup1 a) env Q := e_o1 _ h1 q
theorem e_ct2 {xs : List D} (h1 : ∀ Q : D → Prop, Q (.tup xs) → E C a env Q) (q : Q (.tup xs)) : E C (.o1 .tup1 a) env Q := e_o1 _ h1 q
theorem e_cl {xs : List D} (h1 : ∀ Q : D → Prop, Q (.lst xs) → E C a env Q) (q : Q (.lst xs)) : E C (.o1 .list1 a) env Q := e_o1 _ h1 q
theorem e_clt {xs : List D} (h1 : ∀ Q : D → Prop, Q (.tup xs) → E C a env Q) (q : Q (.lst xs)) : E C (.o1 .list1 a) env Q := e_o1 _ h1 q
theorem e_lenL {xs : List D} {n : Nat} (h1 : ∀ Q : D → Prop, Q (.lst xs) → E C a env Q) (hn : xs.length = n) (q : Q (.int n)) : E C (.o1 .len a) env Q := e_o1 (p := .len) _ h1 (by subst hn; exact q)
theorem e_lenT {xs : List D} {n : Nat} (h1 : ∀ Q : D → Prop, Q (.tup xs) → E C a env Q) (hn : xs.length = n) (q : Q (.int n)) : E C (.o1 .len a) env Q := e_o1 (p := .len) _ h1 (by subst hn; exact q)
theorem e_lenK {xs : List (Key × D)} {n : Nat} (h1 : ∀ Q : D → Prop, Q (.dicK xs) → E C a env Q) (hn : xs.length = n) (q : Q (.int n)) : E C (.o1 .len a) env Q := e_o1 (p := .len) _ h1 (by subst hn; exact q)
theorem e_atL {xs : List D} {j : Nat} (h1 : ∀ Q : D → Prop, Q (.lst xs) → E C a env Q) (h2 : ∀ Q : D → Prop, Q (.int (j : Nat)) → E C b env Q) (hd : xs[j]? = some x) (q : Q x) : E C (.o2 .idx a b) env Q := e_o2 _ _ h1 h2 ⟨_, atI_nat hd, q⟩
theorem e_atT {xs : List D} {j : Nat} (h1 : ∀ Q : D → Prop, Q (.tup xs) → E C a env Q) (h2 : ∀ Q : D → Prop, Q (.int (j : Nat)) → E C b env Q) (hd : xs[j]? = some x) (q : Q x) : E C (.o2 .idx a b) env Q := e_o2 _ _ h1 h2 ⟨_, atI_nat hd, q⟩
end
abbrev ni (t : Nat) : D := .int (t : Nat)
abbrev nl (am : List Nat) : D := .lst (am.map ni)
abbrev ntp (am : List Nat) : D := .tup (am.map ni)
theorem nl_snoc (L : List Nat) (x : Nat) : nl (L ++ [x]) = .lst (L.map ni ++ [ni x]) := by rw [nl, List.map_append]; rfl
theorem isin_nl {x : Nat} {am : List Nat} {Q : D → Prop} (q : Q (.bl (decide (x ∈ am)))) : p2 .isin (.int (x : Nat)) (nl am) Q := by
  refine ⟨okIn_ints (f := fun k : Nat => (k : Int)) _ _, ?_⟩
  rw [any_nats]
  exact q
theorem nin_nl {x : Nat} {am : List Nat} {Q : D → Prop} (q : Q (.bl (!decide (x ∈ am)))) : p2 .nin (.int (x : Nat)) (nl am) Q := by
  refine ⟨okIn_ints (f := fun k : Nat => (k : Int)) _ _, ?_⟩
  rw [any_nats]
  exact q
/-- a branch that ends in a thing told -/
theorem w_iteI {FT : List Fn} {n : Nat} {c : CE} {a a2 r : CS} {k : Ks} {env : Env} {b : Bool} (I : Env → Prop) (h : ∀ Q : D → Prop, Q (.bl b) → E (Cw FT n) c env Q) (h1 : b = true → W (Cw FT n) a { k with nx := I } env) (h2 : b = false → W (Cw FT n) a2 { k with nx := I } env) (h3 : ∀ env, I env → W (Cw FT n) r k env) : W (Cw FT n) (.seq (.ite c a a2) r) k env :=
  w_ite h (fun e => W_mono (Cw_mono FT n) a (k := { k with nx := I }) ⟨h3, fun _ z => z, fun _ z => z, fun _ z => z, fun _ _ z => z⟩ (h1 e)) (fun e => W_mono (Cw_mono FT n) a2 (k := { k with nx := I }) ⟨h3, fun _ z => z, fun _ z => z, fun _ z => z, fun _ _ z => z⟩ (h2 e))
theorem sim_nats {n : Nat} (P : List Nat) : Sim (n + 1) (nl P) ∧ Sim (n + 1) (ntp P) := by
  constructor <;>
  · intro x hx
    obtain ⟨k, _, rfl⟩ := List.mem_map.mp hx
    cases n <;> trivial
/-- what is popped tells what is walked -/
theorem w_fop {FT : List Fn} {n : Nat} {inv : List (Nat × T)} {g : TG0} {x : Nat} {a : CE} {b r : CS} {k : Ks} {env : Env} {w z : D} {xs0 ds : List D} (I : Nat → Env → Prop) (hx : env[x]? = some (some (.lst xs0))) (hz : xs0[xs0.length - 1]? = some z) (ha : ∀ Q : D → Prop, Q w → E (Cw FT n) a env Q) (hi : ∀ Q : D → Prop, Q (.tup ds) → p2 .idx w z Q) (h0 : I 0 (env.set x (some (.lst xs0.dropLast))))
    (hs : ∀ j d env, ds[j]? = some d → I j env → G0 g d env fun e => W (Cw FT n) b { nx := I (j + 1), ct := I (j + 1), bk := W (Cw FT n) r k, rt := k.rt, ex := k.ex } e) (hd : ∀ env, I ds.length env → W (Cw FT n) r k env) : W (Cw FT n) (.seq (.fop inv g x a b) r) k env := by
  rw [W, W]
  unfold atV
  rw [hx]
  refine ha _ ⟨z, hz, hi _ ?_⟩
  refine (forW_inv (body := fun d env' nx => G0 g d env' fun env2 => W (Cw FT n) b { nx := nx, ct := nx, bk := W (Cw FT n) r k, rt := k.rt, ex := k.ex } env2) (fun d e Q Q' i z => G0_mono (fun _ z => W_mono (Cw_mono FT n) b (k := { nx := Q, ct := Q, bk := W (Cw FT n) r k, rt := k.rt, ex := k.ex }) (k' := { nx := Q', ct := Q', bk := W (Cw FT n) r k, rt := k.rt, ex := k.ex }) ⟨i, fun _ z => z, fun _ z => z, i, fun _ _ z => z⟩ z) z) I ds 0 h0 (fun j d env q z => ?_) fun env z => ?_)
  · rw [Nat.zero_add] at z ⊢
    exact hs j d env q z
  · rw [Nat.zero_add] at z
    exact hd env z
theorem p1_srtN {P S : List Nat} (hp : S.Perm P) (hs : S.Pairwise (· ≤ ·)) {Q : D → Prop} (q : Q (nl S)) : p1 .srt1 (nl P) Q := by
  refine ⟨P.map fun t : Nat => (t : Int), by rw [List.map_map]; rfl, fun ns' h1 h2 => ?_⟩
  have e : ns' = S.map fun t : Nat => (t : Int) := List.Perm.eq_of_pairwise (le := (· ≤ ·)) (fun a b _ _ h h' => Int.le_antisymm h h') h2 (hs.map _ fun a b h => Int.ofNat_le.mpr h) (h1.trans (hp.symm.map _))
  subst e
  rw [List.map_map]
  exact q
section
variable {C : CallW} {env : Env} {a lo hi : CE} {xs : List D} {Q : D → Prop}
theorem cutD_nn {xs : List D} {i j : Nat} (hi : i ≤ xs.length) (hj : j ≤ xs.length) : cutD xs (some (i : Int)) (some (j : Int)) = (xs.drop i).take (j - i) := by
  unfold cutD
  rw [HT.sIx_nat, HT.sIx_nat, Nat.min_eq_left hi, Nat.min_eq_left hj]
theorem cutD_0n {xs : List D} {j : Nat} : cutD xs none (some (j : Int)) = xs.take j := by
  unfold cutD
  rw [HT.sIx_nat, HT.sIx_none, List.drop_zero, Nat.sub_zero, Nat.min_comm]
  by_cases h : j ≤ xs.length
  · rw [Nat.min_eq_right h]
  · rw [Nat.min_eq_left (by omega), List.take_of_length_le (Nat.le_refl _), List.take_of_length_le (by omega)]
theorem e_cut {i j : Nat} (h1 : ∀ Q : D → Prop, Q (.lst xs) → E C a env Q) (h2 : ∀ Q : D → Prop, Q (.int (i : Nat)) → E C lo env Q) (h3 : ∀ Q : D → Prop, Q (.int (j : Nat)) → E C hi env Q) (hi' : i ≤ xs.length) (hj : j ≤ xs.length) (q : Q (.lst ((xs.drop i).take (j - i)))) : E C (.slc false true true a lo hi) env Q := by
  rw [E]
  refine h1 _ (h2 _ (h3 _ ?_))
  show Q (.lst (cutD xs (some (i : Int)) (some (j : Int))))
  rw [cutD_nn hi' hj]
  exact q
theorem e_cutTo {j : Nat} (h1 : ∀ Q : D → Prop, Q (.lst xs) → E C a env Q) (h3 : ∀ Q : D → Prop, Q (.int (j : Nat)) → E C hi env Q) (q : Q (.lst (xs.take j))) : E C (.slc false false true a lo hi) env Q := by
  rw [E]
  refine h1 _ (h3 _ ?_)
  show Q (.lst (cutD xs none (some (j : Int))))
  rw [cutD_0n]
  exact q
/-- a op1 b op2 c of whole numbers -/
theorem e_chn {p r : P2} {b c : CE} {x y z : Int} {u v : Bool} (h1 : ∀ Q : D → Prop, Q (.int x) → E C a env Q) (h2 : ∀ Q : D → Prop, Q (.int y) → E C b env Q) (h3 : u = true → ∀ Q : D → Prop, Q (.int z) → E C c env Q) (hp : ∀ Q : D → Prop, Q (.bl u) → p2 p (.int x) (.int y) Q) (hr : ∀ Q : D → Prop, Q (.bl v) → p2 r (.int y) (.int z) Q) (q : Q (.bl (u && v))) : E C (.chn p r a b c) env Q := by
  rw [E]
  refine h1 _ (h2 _ (hp _ ?_))
  cases u with
  | false => exact q
  | true => exact h3 rfl _ (hr _ q)
end
theorem p1_maxT {ns : List Int} {m : Int} {Q : D → Prop} (h1 : m ∈ ns) (h2 : ∀ y ∈ ns, y ≤ m) (q : Q (.int m)) : p1 .max1 (.tup (ns.map D.int)) Q :=
  ⟨ns, rfl, List.length_pos_of_mem h1, fun m' a b => by
    have : m' = m := Int.le_antisymm (h2 m' a) (b m h1)
    rw [this]
    exact q⟩
theorem p1_minT {ns : List Int} {m : Int} {Q : D → Prop} (h1 : m ∈ ns) (h2 : ∀ y ∈ ns, m ≤ y) (q : Q (.int m)) : p1 .min1 (.tup (ns.map D.int)) Q :=
  ⟨ns, rfl, List.length_pos_of_mem h1, fun m' a b => by
    have : m' = m := Int.le_antisymm (b m h1) (h2 m' a)
    rw [this]
    exact q⟩
theorem min_ex : ∀ {ns : List Int}, 0 < ns.length → ∃ m, m ∈ ns ∧ ∀ y ∈ ns, m ≤ y := fun {ns} h => by
  obtain ⟨m, h1, h2⟩ := max_ex (ns := ns.map fun x => -x) (by simpa using h)
  obtain ⟨x, hx, rfl⟩ := List.mem_map.mp h1
  exact ⟨x, hx, fun y hy => by have := h2 (-y) (List.mem_map.mpr ⟨y, hy, rfl⟩); omega⟩
theorem perm_sum {a b : List Int} (h : a.Perm b) : a.sum = b.sum := by
  induction h with
  | nil => rfl
  | cons x _ ih => rw [List.sum_cons, List.sum_cons, ih]
  | swap x y l => simp only [List.sum_cons]; omega
  | trans _ _ h1 h2 => rw [h1, h2]
/-! ### comprehensions over pairs -/
section
variable {C : CallW} {env : Env} {i j : Nat} {elt it c : CE} {Q : D → Prop}
theorem e_lstC2 {α : Type} (a b f : α → D) (p : α → Bool) (xs : List α) (hi : ∀ Q : List D → Prop, Q (xs.map fun x => .tup [a x, b x]) → Pv.It C it env Q) (hl : xs.length ≤ sizeLine) (hc : ∀ x ∈ xs, ∀ R : D → Prop, R (.bl (p x)) → E C c ((((env.set j none).set i none).set i (some (a x))).set j (some (b x))) R) (hs : ∀ x ∈ xs, p x = true → ∀ R : D → Prop, R (f x) → E C elt ((((env.set j none).set i none).set i (some (a x))).set j (some (b x))) R)
    (hq : Q (.lst ((xs.filter p).map f))) : E C (.comp [i, j] (.tp [i, j]) elt it c) env Q := by
  rw [E]
  refine hi _ (cmp_filterL (fun x => D.tup [a x, b x]) f p (fun d hd R hR => ?_) (by simpa using hl) (by simpa using hq))
  simp only [G0, wipD, stor]
  refine ⟨rfl, hc d hd _ ?_⟩
  cases hp : p d with
  | true => rw [hp] at hR; exact hs d hd hp (fun y => R (some y)) hR
  | false => rw [hp] at hR; exact hR
end
theorem nodup_lt : ∀ (m : Nat) (l : List Nat), l.Nodup → (∀ x ∈ l, x < m) → l.length ≤ m
  | 0, [], _, _ => Nat.le_refl _
  | 0, x :: _, _, h => absurd (h x (by simp)) (by omega)
  | m + 1, l, hn, h => by
    have h1 := nodup_lt m (l.filter fun x => decide (x ≠ m)) (hn.sublist List.filter_sublist) fun x hx => by
      have := List.mem_filter.mp hx
      have h2 := h x this.1
      have h3 := of_decide_eq_true this.2
      omega
    have h2 : l.length ≤ (l.filter fun x => decide (x ≠ m)).length + 1 := by
      have key : ∀ l : List Nat, l.Nodup → l.length ≤ (l.filter fun x => decide (x ≠ m)).length + 1 := by
        intro l
        induction l with
        | nil => intro _; simp
        | cons a l ih =>
          intro hn
          have hn := List.nodup_cons.mp hn
          by_cases e : a = m
          · subst e
            have : l.filter (fun x => decide (x ≠ a)) = l := List.filter_eq_self.mpr fun x hx => decide_eq_true fun z => hn.1 (z ▸ hx)
            rw [List.filter_cons, if_neg (by simp), this]
            simp
          · rw [List.filter_cons, if_pos (by simpa using e)]
            have := ih hn.2
            simp only [List.length_cons]
            omega
      exact key l hn
    omega
/-! ### the first place of a number -/
theorem lidx_nats {x : Nat} {P : List Nat} (h : x ∈ P) {Q : D → Prop} (q : Q (.int (P.idxOf x : Nat))) : m1W .lidx (nl P) (.int (x : Nat)) Q := by
  have hl := List.idxOf_lt_length_iff.mpr h
  refine ⟨okIn_ints (f := fun k : Nat => (k : Int)) _ _, P.idxOf x, .int (x : Nat), ?_, by simp [D.py, PyData.eqv], fun m z' hm hz => ?_, q⟩
  · rw [List.getElem?_map, List.getElem?_eq_getElem hl, List.getElem_idxOf hl]
    rfl
  · rw [List.getElem?_map] at hz
    have hm2 : m < P.length := by omega
    rw [List.getElem?_eq_getElem hm2] at hz
    cases hz
    have h3 := List.not_of_lt_findIdx (p := (· == x)) (show m < P.findIdx (· == x) from hm)
    have : P[m] ≠ x := by simpa using h3
    simp only [D.py, PyData.eqv]
    simpa [Int.ofNat_inj] using this
end Pv

set_option maxRecDepth 100000
set_option maxHeartbeats 1000000
namespace Pv
open PySem L2
/-- a loop left by its end or by break, both to J -/
theorem w_forJ {FT : List Fn} {n : Nat} {inv : List (Nat × T)} {g : TG0} {it : CE} {b r : CS} {k : Ks} {env : Env} (ds : List D) (I : Nat → Env → Prop) (J : Env → Prop) (hi : ∀ Q : List D → Prop, Q ds → It (Cw FT n) it env Q) (h0 : I 0 env)
    (hs : ∀ j d env, ds[j]? = some d → I j env → G0 g d env fun e => W (Cw FT n) b { nx := I (j + 1), ct := I (j + 1), bk := J, rt := k.rt, ex := k.ex } e) (hd : ∀ env, I ds.length env → J env) (hj : ∀ env, J env → W (Cw FT n) r k env) : W (Cw FT n) (.seq (.for inv g it b) r) k env :=
  w_for ds I hi h0 (fun j d env e i => G0_mono (fun _ z => W_mono (Cw_mono FT n) b (k := { nx := I (j + 1), ct := I (j + 1), bk := J, rt := k.rt, ex := k.ex }) ⟨fun _ z => z, fun _ z => z, hj, fun _ z => z, fun _ _ z => z⟩ z) (hs j d env e i)) fun env i => hj env (hd env i)
section
variable {C : CallW} {env : Env} {e a b : CE} {r : CS} {k : Ks} {x : Nat}
theorem w_augS {p q : List Nat} (hx : env[x]? = some (some (.str (S p)))) (he : ∀ Q : D → Prop, Q (.str (S q)) → E C e env Q) (hl : p.length + q.length ≤ 1000000) (w : W C r k (env.set x (some (.str (S (p ++ q)))))) : W C (.seq (.augn x .add e) r) k env := by
  rw [W, W]
  unfold atV
  rw [hx]
  refine he _ ⟨?_, ?_⟩
  · rw [S_len, S_len]
    exact szM hl
  · rw [S_app]
    exact w
theorem w_augI {p q : Int} (hx : env[x]? = some (some (.int p))) (he : ∀ Q : D → Prop, Q (.int q) → E C e env Q) (w : W C r k (env.set x (some (.int (p + q))))) : W C (.seq (.augn x .add e) r) k env := by
  rw [W, W]
  unfold atV
  rw [hx]
  exact he _ w
theorem w_subI {p q : Int} (hx : env[x]? = some (some (.int p))) (he : ∀ Q : D → Prop, Q (.int q) → E C e env Q) (w : W C r k (env.set x (some (.int (p - q))))) : W C (.seq (.augn x .sub e) r) k env := by
  rw [W, W]
  unfold atV
  rw [hx]
  exact he _ w
theorem rev_rng (n : Nat) : (rngL 0 1 n).reverse = (List.range n).map fun i => D.int ((n - 1 - i : Nat) : Int) := by
  rw [rngN]
  apply List.ext_getElem?
  intro i
  by_cases h : i < n
  · rw [List.getElem?_reverse (by simpa using h), List.getElem?_map, List.getElem?_map, List.length_map, List.length_range, List.getElem?_range (by omega), List.getElem?_range h]
    rfl
  · rw [List.getElem?_eq_none (by simpa using h), List.getElem?_eq_none (by simpa using h)]
theorem it_irr {n : Nat} (h : ∀ Q : D → Prop, Q (.int n) → E C a env Q) (hn : n ≤ 1000000) : ∀ Q : List D → Prop, Q ((List.range n).map fun i => D.int ((n - 1 - i : Nat) : Int)) → Pv.It C (.irr a) env Q := fun Q q => by
  unfold Pv.It
  rw [E]
  refine h _ ⟨⟨by omega, by omega⟩, ?_⟩
  rw [Int.toNat_natCast, rev_rng]
  exact q
theorem enum_map {α : Type} (g : α → D) (z : α) (l : List α) : enumD 0 (l.map g) = (List.range l.length).map fun j => D.tup [.int (j : Nat), g (l.getD j z)] := by
  apply List.ext_getElem?
  intro i
  by_cases h : i < l.length
  · have e1 : (l.map g)[i]? = some (g (l.getD i z)) := by rw [List.getElem?_map, List.getD_eq_getElem?_getD, List.getElem?_eq_getElem h]; rfl
    rw [enum_get e1, List.getElem?_map, List.getElem?_range h, Nat.zero_add]
    rfl
  · rw [List.getElem?_eq_none (by rw [enum_len]; simpa using h), List.getElem?_eq_none (by simpa using h)]
/-- enumerate -/
theorem it_ien {α : Type} (g : α → D) (z : α) (l : List α) {x : D} (h : ∀ Q : D → Prop, Q x → E C a env Q) (hx : ∀ Q : List D → Prop, Q (l.map g) → itD x Q) : ∀ Q : List D → Prop, Q ((List.range l.length).map fun j => D.tup [.int (j : Nat), g (l.getD j z)]) → Pv.It C (.ien a) env Q := fun Q q => by
  unfold Pv.It
  rw [E]
  refine h _ (hx _ ?_)
  show Q (enumD 0 (l.map g))
  rw [enum_map g z]
  exact q
theorem zip_map {α β : Type} (f : α → D) (g : β → D) (y : α) (z : β) : ∀ (l : List α) (m : List β), l.length = m.length → List.zipWith (fun p q => D.tup [p, q]) (l.map f) (m.map g) = (List.range l.length).map fun j => D.tup [f (l.getD j y), g (m.getD j z)] := fun l m hl => by
  apply List.ext_getElem?
  intro i
  rw [List.getElem?_zipWith, List.getElem?_map, List.getElem?_map, List.getElem?_map]
  by_cases h : i < l.length
  · have e1 : l[i]? = some (l.getD i y) := by rw [List.getD_eq_getElem?_getD, List.getElem?_eq_getElem h]; rfl
    have e2 : m[i]? = some (m.getD i z) := by rw [List.getD_eq_getElem?_getD, List.getElem?_eq_getElem (show i < m.length by omega)]; rfl
    rw [List.getElem?_range h, e1, e2]
    rfl
  · rw [List.getElem?_eq_none (show l.length ≤ i by omega), List.getElem?_eq_none (show m.length ≤ i by omega), List.getElem?_eq_none (show (List.range l.length).length ≤ i by simpa using h)]
    rfl
theorem it_izp {α β : Type} (f : α → D) (g : β → D) (y : α) (z : β) (l : List α) (m : List β) {u v : D} (hl : l.length = m.length) (h1 : ∀ Q : D → Prop, Q u → E C a env Q) (h2 : ∀ Q : D → Prop, Q v → E C b env Q) (hu : ∀ Q : List D → Prop, Q (l.map f) → itD u Q) (hv : ∀ Q : List D → Prop, Q (m.map g) → itD v Q) :
    ∀ Q : List D → Prop, Q ((List.range l.length).map fun j => D.tup [f (l.getD j y), g (m.getD j z)]) → Pv.It C (.izp a b) env Q := fun Q q => by
  unfold Pv.It
  rw [E]
  refine h1 _ (h2 _ (hu _ (hv _ ?_)))
  show Q (List.zipWith _ (l.map f) (m.map g))
  rw [zip_map f g y z l m hl]
  exact q
theorem itD_S (l : List Nat) : ∀ Q : List D → Prop, Q (l.map fun c => D.str (S [c])) → itD (.str (S l)) Q := fun Q q => by
  show Q ((S l).cps.toList.map fun c => D.str ⟨#[c]⟩)
  rw [S_list]
  exact q
theorem wi_atL {ws : List Int} {j : Nat} (h : j < ws.length) : (ws.map D.int)[j]? = some (.int (ws.getD j 0)) := by
  rw [List.getElem?_map, List.getD_eq_getElem?_getD, List.getElem?_eq_getElem h]
  rfl
theorem cutD_n {xs : List D} {i : Nat} : cutD xs (some (i : Int)) none = xs.drop i := by
  unfold cutD
  rw [HT.sIx_nat, HT.sIx_none]
  by_cases h : i ≤ xs.length
  · rw [Nat.min_eq_left h, List.take_of_length_le (by rw [List.length_drop]; exact Nat.le_refl _)]
  · rw [Nat.min_eq_right (by omega), List.drop_of_length_le (Nat.le_refl _), List.drop_of_length_le (by omega)]
    simp
theorem e_cutFrom {hi : CE} {xs : List D} {i : Nat} {Q : D → Prop} (h1 : ∀ Q : D → Prop, Q (.lst xs) → E C a env Q) (h2 : ∀ Q : D → Prop, Q (.int (i : Nat)) → E C b env Q) (q : Q (.lst (xs.drop i))) : E C (.slc false true false a b hi) env Q := by
  rw [E]
  refine h1 _ (h2 _ ?_)
  show Q (.lst (cutD xs (some (i : Int)) none))
  rw [cutD_n]
  exact q
theorem fm_congr {α β : Type} {f g : α → List β} : ∀ {l : List α}, (∀ x ∈ l, f x = g x) → l.flatMap f = l.flatMap g
  | [], _ => rfl
  | a :: l, h => by rw [List.flatMap_cons, List.flatMap_cons, h a (by simp), fm_congr fun x hx => h x (by simp [hx])]
theorem at_map {α : Type} {f : Nat → α} {n j : Nat} {d : α} (h : ((List.range n).map f)[j]? = some d) : j < n ∧ d = f j := by
  rw [List.getElem?_map] at h
  by_cases hj : j < n
  · rw [List.getElem?_range hj] at h
    exact ⟨hj, (Option.some.inj h).symm⟩
  · rw [List.getElem?_eq_none (by simpa using hj)] at h
    cases h
theorem e_strS {s : Str} {l : List Nat} (hs : s = S l) {Q : D → Prop} (q : Q (.str (S l))) : E C (.str s) env Q := by
  rw [E, hs]
  exact q
end
end Pv

set_option maxRecDepth 100000
set_option maxHeartbeats 1000000
namespace Pv
open PySem L2
theorem cutS_hi (l : List Nat) (n : Nat) : L2.cutS (S l) none (some (n : Int)) = S (l.take n) := by
  unfold L2.cutS
  rw [S_len]
  simp only [HT.sIx_none, List.drop_zero, Nat.sub_zero]
  rw [HT.sIx_nat]
  have : l.take (min n l.length) = l.take n := by
    rcases Nat.le_total n l.length with q | q
    · rw [Nat.min_eq_left q]
    · rw [Nat.min_eq_right q, List.take_of_length_le q, List.take_of_length_le (Nat.le_refl _)]
  show (⟨((S l).cps.toList.take _).toArray⟩ : Str) = _
  rw [S_list, this]
theorem cutS_lo (l : List Nat) (n : Nat) : L2.cutS (S l) (some (n : Int)) none = S (l.drop n) := by
  unfold L2.cutS
  rw [S_len]
  simp only [HT.sIx_none]
  rw [HT.sIx_nat]
  show (⟨(((S l).cps.toList.drop _).take _).toArray⟩ : Str) = _
  rw [S_list]
  congr 2
  rcases Nat.le_total n l.length with q | q
  · rw [Nat.min_eq_left q, List.take_of_length_le (Nat.le_of_eq (List.length_drop ..))]
  · rw [Nat.min_eq_right q, List.drop_of_length_le (Nat.le_refl _), List.drop_of_length_le q]
    simp
/-- a text's walk -/
theorem it_S {C : CallW} {env : Env} {it : CE} {l : List Nat} (h : ∀ Q : D → Prop, Q (.str (S l)) → E C it env Q) : ∀ Q : List D → Prop, Q (l.map fun c => D.str (S [c])) → Pv.It C it env Q := fun Q q => by
  unfold Pv.It
  refine h _ ?_
  show Q ((S l).cps.toList.map fun c => D.str ⟨#[c]⟩)
  rw [S_list]
  exact q
theorem it_tup {C : CallW} {env : Env} {it : CE} {xs : List D} (h : ∀ Q : D → Prop, Q (.tup xs) → E C it env Q) : ∀ Q : List D → Prop, Q xs → Pv.It C it env Q := fun Q q => by
  unfold Pv.It
  exact h _ q
theorem lit_S0 : (("" : Str)) = S [] := by decide +kernel
/-- an empty text's join of texts -/
theorem e_join0 {C : CallW} {env : Env} {a : CE} {ls : List (List Nat)} {Q : D → Prop} (h : ∀ Q : D → Prop, Q (.lst (ls.map fun l => D.str (S l))) → E C a env Q) (hl : (ls.map List.length).sum ≤ 1000000) (q : Q (.str (S ls.flatten))) : E C (.m1 .join (.str "") a) env Q := by
  rw [E, E]
  refine ⟨trivial, h _ ⟨ls.map S, by rw [List.map_map]; rfl, ?_, ?_⟩⟩
  · rw [List.map_map, lit_S0, S_len]
    have : (List.map ((fun x : Str => x.length) ∘ S) ls) = ls.map List.length := List.map_congr_left fun l _ => S_len l
    rw [this]
    simp only [List.length_nil, Nat.mul_zero, Nat.add_zero]
    omega
  · rw [lit_S0, join_e]
    exact q
theorem flat_ones (cs : List Nat) : (cs.map fun c => [c]).flatten = cs := by
  induction cs with
  | nil => rfl
  | cons c cs ih => rw [List.map_cons, List.flatten_cons, ih]; rfl
/-- .. of signs -/
theorem e_join1 {C : CallW} {env : Env} {a : CE} {cs : List Nat} {Q : D → Prop} (h : ∀ Q : D → Prop, Q (.lst (cs.map fun c => D.str (S [c]))) → E C a env Q) (hl : cs.length ≤ 1000000) (q : Q (.str (S cs))) : E C (.m1 .join (.str "") a) env Q := by
  refine e_join0 (ls := cs.map fun c => [c]) (fun Q q => h Q (by rw [List.map_map] at q; exact q)) ?_ (by rw [flat_ones]; exact q)
  rw [List.map_map]
  have : cs.map (List.length ∘ fun c => [c]) = List.replicate cs.length 1 := by
    rw [List.eq_replicate_iff]
    exact ⟨by simp, fun b hb => by obtain ⟨c, _, rfl⟩ := List.mem_map.mp hb; rfl⟩
  rw [this, List.sum_replicate_nat]
  omega
/-- a text's beginning, rest -/
theorem e_cutToS {C : CallW} {env : Env} {a lo hi : CE} {l : List Nat} {j : Nat} {Q : D → Prop} (h1 : ∀ Q : D → Prop, Q (.str (S l)) → E C a env Q) (h3 : ∀ Q : D → Prop, Q (.int (j : Nat)) → E C hi env Q) (hl : l.length ≤ 1000000) (q : Q (.str (S (l.take j)))) : E C (.slc false false true a lo hi) env Q := by
  rw [E]
  refine h1 _ ?_
  simp only [Bool.false_eq_true, if_false, if_true]
  refine h3 _ ?_
  show slW false (.str (S l)) none (some (j : Int)) Q
  exact ⟨small_len hl, by rw [cutS_hi]; exact q⟩
theorem e_lenS {C : CallW} {env : Env} {a : CE} {l : List Nat} {n : Nat} {Q : D → Prop} (h1 : ∀ Q : D → Prop, Q (.str (S l)) → E C a env Q) (hl : l.length ≤ 1000000) (hn : l.length = n) (q : Q (.int n)) : E C (.o1 .len a) env Q := e_o1 (p := .len) _ h1 ⟨small_len hl, by rw [S_len, hn]; exact q⟩
theorem e_idxS {C : CallW} {env : Env} {a b : CE} {l : List Nat} {j c : Nat} {Q : D → Prop} (h1 : ∀ Q : D → Prop, Q (.str (S l)) → E C a env Q) (h2 : ∀ Q : D → Prop, Q (.int (j : Nat)) → E C b env Q) (hl : l.length ≤ 1000000) (hc : l[j]? = some c) (q : Q (.str (S [c]))) : E C (.o2 .idx a b) env Q :=
  e_o2 _ _ h1 h2 ⟨small_len hl, c, atI_nat (by rw [S_list]; exact hc), q⟩
theorem e_mod {C : CallW} {env : Env} {a b : CE} {i : Int} {n : Nat} {Q : D → Prop} (h1 : ∀ Q : D → Prop, Q (.int i) → E C a env Q) (h2 : ∀ Q : D → Prop, Q (.int (n : Nat)) → E C b env Q) (hn : 0 < n) (q : ∀ j : Nat, j < n → i.fmod n = j → Q (.int (j : Nat))) : E C (.o2 .mod a b) env Q := by
  refine e_o2 _ _ h1 h2 ⟨by omega, ?_⟩
  obtain ⟨j, e, l⟩ := fmod_range i (n : Int) (by omega)
  rw [e]
  exact q j (by omega) e
theorem w_unp {C : CallW} {env : Env} {k : Ks} {r : CS} {is : List Nat} {e : CE} {ds : List D} (h : ∀ Q : D → Prop, Q (.tup ds) → E C e env Q) (hl : ds.length = is.length) (w : W C r k (stor is ds env)) : W C (.seq (.unp is e) r) k env := by
  rw [W, W]
  exact h _ ⟨hl, w⟩
theorem e_fitD {C : CallW} {env : Env} {t : T} {a : CE} {d : D} {Q : D → Prop} (h : ∀ Q : D → Prop, Q d → E C a env Q) (hf : fit t d) (q : Q d) : E C (.fit t a) env Q := by
  rw [E]
  exact h _ ⟨hf, q⟩
theorem cutD_far {xs : List D} {i j : Nat} (hj : xs.length ≤ j) : cutD xs (some (i : Int)) (some (j : Int)) = xs.drop i := by
  unfold cutD
  rw [HT.sIx_nat, HT.sIx_nat, Nat.min_eq_right hj]
  rcases Nat.le_total i xs.length with q | q
  · rw [Nat.min_eq_left q, List.take_of_length_le (by rw [List.length_drop]; omega)]
  · rw [Nat.min_eq_right q, List.drop_of_length_le (Nat.le_refl _), List.drop_of_length_le q]
    simp
theorem e_cutFar {C : CallW} {env : Env} {a b c : CE} {xs : List D} {i j : Nat} {Q : D → Prop} (h1 : ∀ Q : D → Prop, Q (.lst xs) → E C a env Q) (h2 : ∀ Q : D → Prop, Q (.int (i : Nat)) → E C b env Q) (h3 : ∀ Q : D → Prop, Q (.int (j : Nat)) → E C c env Q) (hj : xs.length ≤ j) (q : Q (.lst (xs.drop i))) : E C (.slc false true true a b c) env Q := by
  rw [E]
  refine h1 _ ?_
  simp only [if_true]
  refine h2 _ (h3 _ ?_)
  show slW false (.lst xs) (some (i : Int)) (some (j : Int)) Q
  show Q (.lst (cutD xs (some (i : Int)) (some (j : Int))))
  rw [cutD_far hj]
  exact q
end Pv

set_option maxRecDepth 100000
set_option maxHeartbeats 1000000
namespace Pv
open PySem L2
/-! ### dicts of whole numbers told True; more of texts -/
def kvsN (ks : List Nat) : List (Key × D) := ks.map fun k : Nat => ((.inl (k : Int) : Key), D.bl true)
abbrev dkN (ks : List Nat) : D := .dicK (kvsN ks)
def insN (ks : List Nat) (b : Nat) : List Nat := if b ∈ ks then ks else ks ++ [b]
theorem key_inj {a b : Nat} : ((.inl (a : Int) : Key) = .inl (b : Int)) ↔ a = b := ⟨fun h => by injection h with h; exact Int.ofNat.inj h, fun h => by rw [h]⟩
theorem any_kvsN (ks : List Nat) (b : Nat) : ((kvsN ks).any fun kv => decide (kv.1 = (.inl (b : Int) : Key))) = decide (b ∈ ks) := by
  induction ks with
  | nil => rfl
  | cons k ks ih =>
    have e : kvsN (k :: ks) = ((.inl (k : Int) : Key), D.bl true) :: kvsN ks := rfl
    rw [e, List.any_cons, ih]
    by_cases q : k = b
    · subst q; simp
    · have q' : ¬ b = k := fun z => q z.symm
      have q2 : ¬ ((.inl (k : Int) : Key) = .inl (b : Int)) := fun z => q (key_inj.mp z)
      rw [decide_eq_false q2, Bool.false_or]
      exact decide_eq_decide.mpr ⟨fun z => List.mem_cons_of_mem _ z, fun z => (List.mem_cons.mp z).resolve_left q'⟩
theorem dput_kvsN (ks : List Nat) (b : Nat) : dput (kvsN ks) (.inl (b : Int)) (.bl true) = kvsN (insN ks b) := by
  unfold dput insN
  rw [any_kvsN]
  by_cases q : b ∈ ks
  · rw [if_pos (decide_eq_true q), if_pos q]
    unfold kvsN
    rw [List.map_map]
    refine List.map_congr_left fun k _ => ?_
    simp only [Function.comp]
    split <;> rfl
  · rw [if_neg (by simp [q]), if_neg q]
    simp [kvsN]
theorem dval_kvsN (ks : List Nat) (b : Nat) : (dval (kvsN ks) (.inl (b : Int))).isSome = decide (b ∈ ks) := by
  rw [← any_kvsN]
  generalize kvsN ks = l
  unfold dval
  induction l with
  | nil => rfl
  | cons x l ih =>
    rw [List.find?_cons, List.any_cons]
    cases decide (x.1 = (.inl (b : Int) : Key)) with
    | true => rfl
    | false => exact ih
theorem mem_insN {ks : List Nat} {b x : Nat} : x ∈ insN ks b ↔ x ∈ ks ∨ x = b := by
  unfold insN
  split
  · rename_i h
    exact ⟨.inl, fun z => z.elim id fun e => e ▸ h⟩
  · simp
theorem nodup_insN {ks : List Nat} {b : Nat} (h : ks.Nodup) : (insN ks b).Nodup := by
  unfold insN
  split
  · exact h
  · rename_i q
    rw [List.nodup_append]
    refine ⟨h, by simp, fun x hx y hy e => ?_⟩
    rw [List.mem_singleton.mp hy] at e
    exact q (e ▸ hx)
theorem kvsN_len (ks : List Nat) : (kvsN ks).length = ks.length := by simp [kvsN]
section
variable {C : CallW} {env : Env} {k : Ks} {r : CS}
/-- the keys of such a dict -/
theorem it_kvsN {x : Nat} {ks : List Nat} (hx : env[x]? = some (some (dkN ks))) : ∀ Q : List D → Prop, Q (ks.map ni) → Pv.It C (.ikd (.var x)) env Q := fun Q q => by
  unfold Pv.It
  rw [E, E, hx]
  show Q ((kvsN ks).map fun kv => D.ofKey kv.1)
  rw [kvsN, List.map_map]
  exact q
theorem e_kv1 {a : CE} {b : Nat} (h : ∀ Q : D → Prop, Q (ni b) → E C a env Q) (ht : isTup a = false) {Q : D → Prop} (q : Q (dkN [b])) : E C (.dic1 a (.bl true)) env Q := by
  rw [E]
  refine h _ ?_
  rw [E, ht]
  exact ⟨.inl (b : Int), rfl, q⟩
theorem w_dstN {x b : Nat} {ks : List Nat} {i : CE} (hx : env[x]? = some (some (dkN ks))) (h : ∀ Q : D → Prop, Q (ni b) → E C i env Q) (hl : ks.length ≤ 1000000) (w : Pv.W C r k (env.set x (some (dkN (insN ks b))))) : Pv.W C (.seq (.dst x i (.bl true)) r) k env := by
  rw [Pv.W, Pv.W]
  rw [E]
  unfold atV
  rw [hx]
  refine h _ ⟨.inl (b : Int), rfl, by rw [kvsN_len]; exact Nat.lt_of_le_of_lt hl (by decide), ?_⟩
  rw [dput_kvsN]
  exact w
theorem e_d0 {Q : D → Prop} (q : Q (dkN [])) : E C (.dic0 false) env Q := by
  rw [E]
  exact q
/-- sorted(d) -/
theorem e_srtN {a : CE} {ks : List Nat} (h : ∀ Q : D → Prop, Q (dkN ks) → E C a env Q) (hl : ks.length < 64) (nd : ks.Nodup) {Q : D → Prop} (q : ∀ T : List Nat, T.Pairwise (· < ·) → (∀ x, x ∈ T ↔ x ∈ ks) → Q (nl T)) : E C (.o1 .srt1 a) env Q := by
  rw [E]
  refine h _ ⟨ks.map fun k : Nat => (k : Int), by rw [kvsN, List.map_map, List.map_map]; rfl, by rw [List.length_map]; exact hl, fun ns' hp hs => ?_⟩
  have hm : ∀ x ∈ ns', ∃ k : Nat, k ∈ ks ∧ x = (k : Int) := fun x hx => by
    obtain ⟨k, h1, h2⟩ := List.mem_map.mp (hp.mem_iff.mp hx)
    exact ⟨k, h1, h2.symm⟩
  have e : ns' = (ns'.map Int.toNat).map fun k : Nat => (k : Int) := by
    rw [List.map_map]
    conv => lhs; rw [← List.map_id ns']
    refine List.map_congr_left fun x hx => ?_
    obtain ⟨k, _, rfl⟩ := hm x hx
    rfl
  have nd' : ns'.Nodup := hp.nodup_iff.mpr (List.pairwise_map.mpr (nd.imp fun z e => z (Int.ofNat.inj e)))
  have hlt : ns'.Pairwise (· < ·) := by
    have := hs.and nd'
    exact this.imp fun z => by omega
  have hT : (ns'.map Int.toNat).Pairwise (· < ·) := by
    rw [List.pairwise_map]
    refine List.Pairwise.imp_of_mem (fun {a b} ha hb z => ?_) hlt
    obtain ⟨x, _, rfl⟩ := hm a ha
    obtain ⟨y, _, rfl⟩ := hm b hb
    simp only [Int.toNat_natCast]
    omega
  have := q (ns'.map Int.toNat) hT fun x => by
    rw [List.mem_map]
    constructor
    · rintro ⟨y, hy, rfl⟩
      obtain ⟨k, hk, rfl⟩ := hm y hy
      exact hk
    · intro hx
      exact ⟨(x : Int), hp.mem_iff.mpr (List.mem_map.mpr ⟨x, hx, rfl⟩), rfl⟩
  rw [e, List.map_map]
  exact this
/-- a list that rises is known by what is in it -/
theorem rise_ext : ∀ {a b : List Nat}, a.Pairwise (· < ·) → b.Pairwise (· < ·) → (∀ x, x ∈ a ↔ x ∈ b) → a = b
  | [], [], _, _, _ => rfl
  | [], y :: b, _, _, h => absurd ((h y).mpr (by simp)) (by simp)
  | x :: a, [], _, _, h => absurd ((h x).mp (by simp)) (by simp)
  | x :: a, y :: b, ha, hb, h => by
    obtain ⟨a1, a2⟩ := List.pairwise_cons.mp ha
    obtain ⟨b1, b2⟩ := List.pairwise_cons.mp hb
    have e : x = y := by
      have h1 := (h x).mp (by simp)
      have h2 := (h y).mpr (by simp)
      rcases List.mem_cons.mp h1 with h1 | h1
      · exact h1
      · rcases List.mem_cons.mp h2 with h2 | h2
        · exact h2.symm
        · have := a1 y h2
          have := b1 x h1
          omega
    subst e
    rw [rise_ext a2 b2 fun z => ?_]
    have := h z
    simp only [List.mem_cons] at this
    constructor
    · intro hz
      rcases this.mp (.inr hz) with e | e
      · have := a1 z hz; omega
      · exact e
    · intro hz
      rcases this.mpr (.inr hz) with e | e
      · have := b1 z hz; omega
      · exact e
theorem rise_range (n : Nat) (p : Nat → Bool) : ((List.range n).filter p).Pairwise (· < ·) := List.Pairwise.filter _ List.pairwise_lt_range
/-- texts -/
theorem starts_S (a b : List Nat) : Txt.startswith (S a) (S b) = decide (b <+: a) := by
  unfold Txt.startswith
  rw [S_len, S_len, StrLaws.subAt_eq, S_list, S_list, S_len, List.drop_zero]
  by_cases h : b <+: a
  · rw [decide_eq_true h]
    have hl := h.length_le
    rw [decide_eq_true (by omega), Bool.true_and]
    have : a.take b.length = b := (List.prefix_iff_eq_take.mp h).symm
    rw [this]
    simp
  · rw [decide_eq_false h]
    rw [Bool.and_eq_false_iff]
    right
    rw [beq_eq_false_iff_ne]
    intro e
    exact h (List.prefix_iff_eq_take.mpr e.symm)
theorem cutS_nn (l : List Nat) (i j : Nat) : L2.cutS (S l) (some (i : Int)) (some (j : Int)) = S ((l.take j).drop i) := by
  unfold L2.cutS
  rw [S_len]
  rw [HT.sIx_nat, HT.sIx_nat]
  show (⟨(((S l).cps.toList.drop _).take _).toArray⟩ : Str) = _
  rw [S_list]
  congr 2
  rw [List.drop_take]
  rcases Nat.le_total i l.length with q | q
  · rw [Nat.min_eq_left q]
    rcases Nat.le_total j l.length with q2 | q2
    · rw [Nat.min_eq_left q2]
    · rw [Nat.min_eq_right q2, List.take_of_length_le (by rw [List.length_drop]; omega), List.take_of_length_le (by rw [List.length_drop]; omega)]
  · rw [Nat.min_eq_right q, List.drop_of_length_le (Nat.le_refl _), List.drop_of_length_le q]
    simp
theorem e_cutSS {a lo hi : CE} {l : List Nat} {i j : Nat} {Q : D → Prop} (h1 : ∀ Q : D → Prop, Q (.str (S l)) → E C a env Q) (h2 : ∀ Q : D → Prop, Q (ni i) → E C lo env Q) (h3 : ∀ Q : D → Prop, Q (ni j) → E C hi env Q) (hl : l.length ≤ 1000000) (q : Q (.str (S ((l.take j).drop i)))) : E C (.slc false true true a lo hi) env Q := by
  rw [E]
  refine h1 _ ?_
  simp only [if_true]
  refine h2 _ (h3 _ ⟨small_len hl, ?_⟩)
  rw [cutS_nn]
  exact q
theorem e_cutFS {a lo : CE} {l : List Nat} {i : Nat} {Q : D → Prop} (h1 : ∀ Q : D → Prop, Q (.str (S l)) → E C a env Q) (h2 : ∀ Q : D → Prop, Q (ni i) → E C lo env Q) (hl : l.length ≤ 1000000) (q : Q (.str (S (l.drop i)))) : E C (.slc false true false a lo .non) env Q := by
  rw [E]
  refine h1 _ ?_
  simp only [if_true, Bool.false_eq_true, if_false]
  refine h2 _ ⟨small_len hl, ?_⟩
  rw [cutS_lo]
  exact q
theorem e_sw {a b : CE} {l m : List Nat} {Q : D → Prop} (h1 : ∀ Q : D → Prop, Q (.str (S l)) → E C a env Q) (h2 : ∀ Q : D → Prop, Q (.str (S m)) → E C b env Q) (q : Q (.bl (decide (m <+: l)))) : E C (.m1 .sw a b) env Q := by
  rw [E]
  refine h1 _ ⟨trivial, h2 _ ?_⟩
  show Q (.bl (Txt.startswith (S l) (S m)))
  rw [starts_S]
  exact q
theorem e_dm {a b : CE} {i : Int} {n : Nat} {Q : D → Prop} (h1 : ∀ Q : D → Prop, Q (.int i) → E C a env Q) (h2 : ∀ Q : D → Prop, Q (ni n) → E C b env Q) (h0 : 0 < n) (hn : n ≤ 1000000) (q : Q (.tup [.int (i / n), .int (i % n)])) : E C (.b2 .dm a b) env Q := by
  rw [E]
  exact h1 _ (h2 _ ⟨⟨by omega, by omega⟩, q⟩)
theorem w_sup {P : Prop} (h : P) : P := h
end
end Pv
namespace Pv
open PySem L2
theorem es1' {C : CallW} {env : Env} {a e : CE} {P : D → Prop} {Q : List D → Prop} (h1 : ∀ Q : D → Prop, (∀ d, P d → Q d) → E C a env Q) (q : ∀ x, P x → Es C e env fun xs => Q (x :: xs)) : Es C (.cons a e) env Q := by
  rw [Es]
  exact h1 _ q
theorem w_unpP {C : CallW} {env : Env} {k : Ks} {r : CS} {is : List Nat} {e : CE} {P : D → Prop} (h : ∀ Q : D → Prop, (∀ d, P d → Q d) → E C e env Q) (w : ∀ d, P d → G0 (.tp is) d env (W C r k)) : W C (.seq (.unp is e) r) k env := by
  rw [W, W]
  exact h _ w
theorem cutD_g {xs : List D} {i j : Nat} : cutD xs (some (i : Int)) (some (j : Int)) = (xs.take j).drop i := by
  unfold cutD
  rw [HT.sIx_nat, HT.sIx_nat, List.drop_take]
  rcases Nat.le_total i xs.length with q | q
  · rw [Nat.min_eq_left q]
    rcases Nat.le_total j xs.length with q2 | q2
    · rw [Nat.min_eq_left q2]
    · rw [Nat.min_eq_right q2, List.take_of_length_le (by rw [List.length_drop]; omega), List.take_of_length_le (by rw [List.length_drop]; omega)]
  · rw [Nat.min_eq_right q, List.drop_of_length_le (Nat.le_refl _), List.drop_of_length_le q]
    simp
theorem e_cutG {C : CallW} {env : Env} {a lo hi : CE} {xs : List D} {i j : Nat} (h1 : ∀ Q : D → Prop, Q (.lst xs) → E C a env Q) (h2 : ∀ Q : D → Prop, Q (.int (i : Nat)) → E C lo env Q) (h3 : ∀ Q : D → Prop, Q (.int (j : Nat)) → E C hi env Q) {Q : D → Prop} (q : Q (.lst ((xs.take j).drop i))) : E C (.slc false true true a lo hi) env Q := by
  rw [E]
  refine h1 _ (h2 _ (h3 _ ?_))
  show Q (.lst (cutD xs (some (i : Int)) (some (j : Int))))
  rw [cutD_g]
  exact q
end Pv

set_option maxRecDepth 100000
set_option maxHeartbeats 1000000
namespace Law
open PySem L2 Pv
/-! ### the text by places -/
def tp (i : Nat) : Stmt := PySem.Challenge.pw_grooveway_k02_words_never.main.body.getD i (.Pass ⟨0, 0, 0, 0⟩)
/- marks_good(marks) -/
def b_marks_good : CS :=
    (.seq (.ite (.or (.o2 .lt (.o1 .len (.var 0)) (.int 2)) (.or (.o2 .gt (.o1 .len (.var 0)) (.int 4)) (.o2 .ne (.o1 .lset (.o1 .list1 (.var 0))) (.o1 .len (.var 0))))) (.seq (.ret (.bl false))
    .nil) .nil)
    (.seq (.for [] (.nm 1) (.var 0) (.seq (.ite (.o2 .nin (.var 1) (.gs "SIGNS" "abcdefghijklmnopqrstuvwxyz0123456789")) (.seq (.ret (.bl false))
    .nil) .nil)
    .nil))
    (.seq (.ret (.bl true))
    .nil)))
def i_marks_good : FnI := ⟨"marks_good", ["marks"], ["marks", "sign"], ⟨1, 2, b_marks_good, none, false, none⟩, [.im], .im, true, [], false⟩
abbrev s_marks_good : Stmt := tp 7
/- is_mark(marks, sign) -/
def b_is_mark : CS :=
    (.seq (.ret (.and (.o2 .eq (.o1 .len (.var 1)) (.int 1)) (.o2 .isin (.var 1) (.var 0))))
    .nil)
def i_is_mark : FnI := ⟨"is_mark", ["marks", "sign"], ["marks", "sign"], ⟨2, 2, b_is_mark, none, false, none⟩, [.im, .im], .im, true, [], false⟩
abbrev s_is_mark : Stmt := tp 8
/- Rule.__init__(self, marks) -/
def b_Rule_init : CS :=
    (.seq (.ite (.not (.call 0 (.cons (.var 1) .nil))) (.seq .ded
    .nil) .nil)
    .nil)
def e_Rule_init : CE :=
    (.cons (.var 1) .nil)
def i_Rule_init : FnI := ⟨"__init__", ["self", "marks"], ["self", "marks"], ⟨2, 2, b_Rule_init, some (0, e_Rule_init), false, none⟩, [.im, .im], .im, false, [], false⟩
abbrev s_Rule_init : Stmt := L2.inClass (tp 9) 0
/- Rule.begin(self) -/
def b_Rule_begin : CS :=
    (.seq (.ret (.int 0))
    .nil)
def i_Rule_begin : FnI := ⟨"begin", ["self"], ["self"], ⟨1, 1, b_Rule_begin, none, false, none⟩, [.im], .im, false, [], false⟩
abbrev s_Rule_begin : Stmt := L2.inClass (tp 9) 1
/- Rule.led_to(self, state, mark) -/
def b_Rule_led_to : CS :=
    (.seq (.ret (.var 1))
    .nil)
def i_Rule_led_to : FnI := ⟨"led_to", ["self", "state", "mark"], ["self", "state", "mark"], ⟨3, 3, b_Rule_led_to, none, false, none⟩, [.im, .im, .im], .im, false, [], false⟩
abbrev s_Rule_led_to : Stmt := L2.inClass (tp 9) 2
/- Rule.step(self, state, mark) -/
def b_Rule_step : CS :=
    (.seq (.ite (.not (.call 1 (.cons (.fld "marks" 0 [0, 1] (.var 0)) (.cons (.var 2) .nil)))) (.seq .ded
    .nil) .nil)
    (.seq (.ret (.meth "led_to" [(0, 4), (1, 9)] (.var 0) (.cons (.var 1) (.cons (.var 2) .nil))))
    .nil))
def i_Rule_step : FnI := ⟨"step", ["self", "state", "mark"], ["self", "state", "mark"], ⟨3, 3, b_Rule_step, none, false, none⟩, [.im, .im, .im], .im, false, [], false⟩
abbrev s_Rule_step : Stmt := L2.inClass (tp 9) 3
/- Rule.broken_at(self, row) -/
def b_Rule_broken_at : CS :=
    (.seq (.asg 2 (.meth "begin" [(0, 3), (1, 3)] (.var 0) .nil))
    (.seq (.for [] (.tp [3, 4]) (.ien (.var 1)) (.seq (.asg 2 (.meth "step" [(0, 5), (1, 5)] (.var 0) (.cons (.var 2) (.cons (.var 4) .nil))))
    (.seq (.ite (.o1 .isN (.var 2)) (.seq (.ret (.var 3))
    .nil) .nil)
    .nil)))
    (.seq (.ret .non)
    .nil)))
def i_Rule_broken_at : FnI := ⟨"broken_at", ["self", "row"], ["self", "row", "state", "at", "mark"], ⟨2, 5, b_Rule_broken_at, none, false, none⟩, [.im, .im], .im, false, [], false⟩
abbrev s_Rule_broken_at : Stmt := L2.inClass (tp 9) 4
/- Rule.keeps(self, row) -/
def b_Rule_keeps : CS :=
    (.seq (.ret (.o1 .isN (.meth "broken_at" [(0, 6), (1, 6)] (.var 0) (.cons (.var 1) .nil))))
    .nil)
def i_Rule_keeps : FnI := ⟨"keeps", ["self", "row"], ["self", "row"], ⟨2, 2, b_Rule_keeps, none, false, none⟩, [.im, .im], .im, false, [], false⟩
abbrev s_Rule_keeps : Stmt := L2.inClass (tp 9) 5
/- Never.__init__(self, marks, word) -/
def b_Never_init : CS :=
    (.seq (.ite (.or (.o2 .lt (.o1 .len (.var 2)) (.int 1)) (.o2 .gt (.o1 .len (.var 2)) (.int 6))) (.seq .ded
    .nil) .nil)
    (.seq (.for [] (.nm 3) (.var 2) (.seq (.ite (.o2 .nin (.var 3) (.var 1)) (.seq .ded
    .nil) .nil)
    .nil))
    .nil))
def e_Never_init : CE :=
    (.cons (.var 2) .nil)
def u_Never_init : CE :=
    (.cons (.var 1) .nil)
def i_Never_init : FnI := ⟨"__init__", ["self", "marks", "word"], ["self", "marks", "word", "sign"], ⟨3, 4, b_Never_init, some (1, e_Never_init), false, some (2, u_Never_init)⟩, [.im, .im, .im], .im, false, [], false⟩
abbrev s_Never_init : Stmt := L2.inClass (tp 10) 0
/- Never.led_to(self, state, mark) -/
def b_Never_led_to : CS :=
    (.seq (.asg 3 (.o2 .add (.slc false false true (.fld "word" 1 [1] (.var 0)) .non (.var 1)) (.var 2)))
    (.seq (.whl [] (.not (.m1 .sw (.fld "word" 1 [1] (.var 0)) (.var 3))) (.seq (.asg 3 (.slc false true false (.var 3) (.int 1) .non))
    .nil))
    (.seq (.ite (.o2 .eq (.var 3) (.fld "word" 1 [1] (.var 0))) (.seq (.ret .non)
    .nil) .nil)
    (.seq (.ret (.o1 .len (.var 3)))
    .nil))))
def i_Never_led_to : FnI := ⟨"led_to", ["self", "state", "mark"], ["self", "state", "mark", "end"], ⟨3, 4, b_Never_led_to, none, false, none⟩, [.im, .im, .im], .im, false, [], false⟩
abbrev s_Never_led_to : Stmt := L2.inClass (tp 10) 1
/- _law_cell_at(script, k) -/
def b_law_cell_at : CS :=
    (.seq (.ite (.o2 .lt (.var 1) (.o1 .len (.var 0))) (.seq (.ret (.o2 .idx (.var 0) (.var 1)))
    .nil) .nil)
    (.seq (.ret (.int 0))
    .nil))
def i_law_cell_at : FnI := ⟨"_law_cell_at", ["script", "k"], ["script", "k"], ⟨2, 2, b_law_cell_at, none, false, none⟩, [(.s .im), .im], .im, true, [], false⟩
abbrev s_law_cell_at : Stmt := tp 12
/- _law_whole(found) -/
def b_law_whole : CS :=
    (.seq (.ret (.and (.o1 (.isi "int") (.var 0)) (.not (.o1 (.isi "bool") (.var 0)))))
    .nil)
def i_law_whole : FnI := ⟨"_law_whole", ["found"], ["found"], ⟨1, 1, b_law_whole, none, false, none⟩, [.im], .im, true, [], false⟩
abbrev s_law_whole : Stmt := tp 13
/- _law_marks(cell) -/
def b_law_marks : CS :=
    (.seq (.asg 1 (.str "abcdefghijklmnopqrstuvwxyz0123456789"))
    (.seq (.asg 2 (.o2 .add (.int 1) (.o2 .mod (.o2 .fdiv (.var 0) (.int 36)) (.int 11))))
    (.seq (.ret (.m1 .join (.str "") (.comp [3] (.nm 3) (.o2 .idx (.var 1) (.o2 .mod (.o2 .add (.var 0) (.o2 .mul (.var 3) (.var 2))) (.int 36))) (.rng1 (.o2 .add (.int 2) (.o2 .mod (.o2 .fdiv (.var 0) (.int 396)) (.int 3)))) (.bl true))))
    .nil)))
def i_law_marks : FnI := ⟨"_law_marks", ["cell"], ["cell", "some", "step", "k"], ⟨1, 4, b_law_marks, none, false, none⟩, [.im], .im, true, [], false⟩
abbrev s_law_marks : Stmt := tp 14
/- _law_word(script, marks) -/
def b_law_word : CS :=
    (.seq (.asg 2 (.o2 .add (.int 1) (.o2 .mod (.call 10 (.cons (.var 0) (.cons (.int 1) .nil))) (.int 6))))
    (.seq (.asg 3 (.m1 .join (.str "") (.comp [4] (.nm 4) (.o2 .idx (.var 1) (.o2 .mod (.call 10 (.cons (.var 0) (.cons (.o2 .add (.int 2) (.var 4)) .nil))) (.o1 .len (.var 1)))) (.rng1 (.var 2)) (.bl true))))
    (.seq (.ite (.o2 .eq (.o2 .mod (.o2 .fdiv (.call 10 (.cons (.var 0) (.cons (.int 1) .nil))) (.int 6)) (.int 3)) (.int 1)) (.seq (.asg 5 (.slc false false true (.var 3) .non (.o2 .fdiv (.o2 .add (.var 2) (.int 1)) (.int 2))))
    (.seq (.asg 3 (.slc false false true (.o2 .add (.var 5) (.var 5)) .non (.var 2)))
    .nil)) .nil)
    (.seq (.ret (.var 3))
    .nil))))
def i_law_word : FnI := ⟨"_law_word", ["script", "marks"], ["script", "marks", "size", "word", "k", "half"], ⟨2, 6, b_law_word, none, false, none⟩, [(.s .im), .im], .im, true, [], false⟩
abbrev s_law_word : Stmt := tp 15
/- _law_due(row, word) -/
def b_law_due : CS :=
    (.seq (.ite (.m1 .ew (.var 0) (.var 1)) (.seq (.ret .non)
    .nil) .nil)
    (.seq (.ret (.o1 .max1 (.comp [2] (.nm 2) (.var 2) (.rng1 (.o1 .len (.var 1))) (.m1 .ew (.var 0) (.slc false false true (.var 1) .non (.var 2))))))
    .nil))
def i_law_due : FnI := ⟨"_law_due", ["row", "word"], ["row", "word", "k"], ⟨2, 3, b_law_due, none, false, none⟩, [.im, .im], .im, true, [], false⟩
abbrev s_law_due : Stmt := tp 16
/- _law_fair(found, due) -/
def b_law_fair : CS :=
    (.seq (.ite (.o1 .isN (.var 1)) (.seq (.ret (.o1 .isN (.var 0)))
    .nil) .nil)
    (.seq (.ret (.and (.call 11 (.cons (.var 0) .nil)) (.o2 .eq (.var 0) (.var 1))))
    .nil))
def i_law_fair : FnI := ⟨"_law_fair", ["found", "due"], ["found", "due"], ⟨2, 2, b_law_fair, none, false, none⟩, [.im, .im], .im, true, [], false⟩
abbrev s_law_fair : Stmt := tp 17
/- _law_gone(rule, row, word) -/
def b_law_gone : CS :=
    (.seq (.asg 3 (.meth "begin" [(1, 3)] (.var 0) .nil))
    (.seq (.ite (.not (.call 15 (.cons (.var 3) (.cons (.int 0) .nil)))) (.seq (.ret (.bl false))
    .nil) .nil)
    (.seq (.for [] (.nm 4) (.rng1 (.o1 .len (.var 1))) (.seq (.asg 5 (.call 14 (.cons (.slc false false true (.var 1) .non (.o2 .add (.var 4) (.int 1))) (.cons (.var 2) .nil))))
    (.seq (.asg 3 (.meth "step" [(1, 5)] (.var 0) (.cons (.var 3) (.cons (.o2 .idx (.var 1) (.var 4)) .nil))))
    (.seq (.ite (.not (.call 15 (.cons (.var 3) (.cons (.var 5) .nil)))) (.seq (.ret (.bl false))
    .nil) .nil)
    (.seq (.ite (.o1 .isN (.var 5)) (.seq (.ret (.and (.call 15 (.cons (.meth "broken_at" [(1, 6)] (.var 0) (.cons (.var 1) .nil)) (.cons (.var 4) .nil))) (.o1 .isF (.meth "keeps" [(1, 7)] (.var 0) (.cons (.var 1) .nil)))))
    .nil) .nil)
    .nil)))))
    (.seq (.ret (.and (.o1 .isN (.meth "broken_at" [(1, 6)] (.var 0) (.cons (.var 1) .nil))) (.o1 .isT (.meth "keeps" [(1, 7)] (.var 0) (.cons (.var 1) .nil)))))
    .nil))))
def i_law_gone : FnI := ⟨"_law_gone", ["rule", "row", "word"], ["rule", "row", "word", "state", "at", "due"], ⟨3, 6, b_law_gone, none, false, none⟩, [.im, .im, .im], .im, true, [], false⟩
abbrev s_law_gone : Stmt := tp 18
/- _law_piece(marks, word, cell) -/
def b_law_piece : CS :=
    (.seq (.ite (.o2 .eq (.o2 .mod (.var 2) (.int 3)) (.int 0)) (.seq (.ret (.o2 .idx (.var 0) (.o2 .mod (.o2 .fdiv (.var 2) (.int 3)) (.o1 .len (.var 0)))))
    .nil) .nil)
    (.seq (.ite (.o2 .eq (.o2 .mod (.var 2) (.int 3)) (.int 1)) (.seq (.ret (.slc false false true (.var 1) .non (.o2 .mod (.o2 .fdiv (.var 2) (.int 3)) (.int 6))))
    .nil) .nil)
    (.seq (.ret (.slc false false true (.slc false true false (.var 1) (.o2 .mod (.o2 .fdiv (.var 2) (.int 3)) (.o1 .len (.var 1))) .non) .non (.o2 .add (.int 1) (.o2 .mod (.o2 .fdiv (.var 2) (.int 18)) (.int 3)))))
    .nil)))
def i_law_piece : FnI := ⟨"_law_piece", ["marks", "word", "cell"], ["marks", "word", "cell"], ⟨3, 3, b_law_piece, none, false, none⟩, [.im, .im, .im], .im, true, [], false⟩
abbrev s_law_piece : Stmt := tp 19
/- law(script) -/
def b_law : CS :=
    (.seq (.asg 1 (.call 12 (.cons (.call 10 (.cons (.var 0) (.cons (.int 0) .nil))) .nil)))
    (.seq (.asg 2 (.call 13 (.cons (.var 0) (.cons (.var 1) .nil))))
    (.seq (.asg 3 (.make 1 8 false (.cons (.var 1) (.cons (.var 2) .nil))))
    (.seq (.ite (.or (.o2 .ne (.fld "marks" 0 [1] (.var 3)) (.var 1)) (.or (.o2 .ne (.fld "word" 1 [1] (.var 3)) (.var 2)) (.not (.isc 0 "Rule" [1] (.var 3))))) (.seq (.ret (.bl false))
    .nil) .nil)
    (.seq (.asg 4 (.str ""))
    (.seq (.asg 5 (.str ""))
    (.seq (.for [] (.nm 6) (.slc false true true (.var 0) (.int 8) (.int 108)) (.seq (.asg 4 (.o2 .add (.var 4) (.call 17 (.cons (.var 1) (.cons (.var 2) (.cons (.var 6) .nil))))))
    (.seq (.for [] (.nm 7) (.call 17 (.cons (.var 1) (.cons (.var 2) (.cons (.o2 .fdiv (.var 6) (.int 2)) .nil)))) (.seq (.ite (.not (.m1 .ew (.o2 .add (.var 5) (.var 7)) (.var 2))) (.seq (.asg 5 (.o2 .add (.var 5) (.var 7)))
    .nil) .nil)
    .nil))
    .nil)))
    (.seq (.ite (.or (.and (.o2 .gt (.o1 .len (.var 2)) (.int 1)) (.not (.meth "keeps" [(1, 7)] (.var 3) (.cons (.slc false false true (.var 2) .non (.o1 .neg (.int 1))) .nil)))) (.meth "keeps" [(1, 7)] (.var 3) (.cons (.var 2) .nil))) (.seq (.ret (.bl false))
    .nil) .nil)
    (.seq (.ite (.or (.not (.call 16 (.cons (.var 3) (.cons (.var 4) (.cons (.var 2) .nil))))) (.not (.call 16 (.cons (.var 3) (.cons (.var 5) (.cons (.var 2) .nil)))))) (.seq (.ret (.bl false))
    .nil) .nil)
    (.seq (.ret (.call 16 (.cons (.var 3) (.cons (.o2 .add (.o2 .add (.var 5) (.var 2)) (.var 4)) (.cons (.var 2) .nil)))))
    .nil))))))))))
def i_law : FnI := ⟨"law", ["script"], ["script", "marks", "word", "rule", "row", "lazy", "cell", "mark"], ⟨1, 8, b_law, none, false, none⟩, [(.s .im)], .im, true, [], false⟩
abbrev s_law : Stmt := tp 20
def fs : List (FnI × Stmt) := [(i_marks_good, s_marks_good), (i_is_mark, s_is_mark), (i_Rule_init, s_Rule_init), (i_Rule_begin, s_Rule_begin), (i_Rule_led_to, s_Rule_led_to), (i_Rule_step, s_Rule_step), (i_Rule_broken_at, s_Rule_broken_at), (i_Rule_keeps, s_Rule_keeps), (i_Never_init, s_Never_init), (i_Never_led_to, s_Never_led_to), (i_law_cell_at, s_law_cell_at), (i_law_whole, s_law_whole), (i_law_marks, s_law_marks), (i_law_word, s_law_word), (i_law_due, s_law_due), (i_law_fair, s_law_fair), (i_law_gone, s_law_gone), (i_law_piece, s_law_piece), (i_law, s_law)]
def FT : List Fn := fs.map (·.1.fn)
abbrev f_marks_good : Nat := 0
theorem C_marks_good {k : Nat} {Q : D → Prop} {x0 : D} (h : W (Cw FT k) b_marks_good { nx := fun _ => Q .non, rt := Q } [some x0, none]) : Cw FT (k + 1) 0 [x0] Q := ⟨rfl, h⟩
abbrev f_is_mark : Nat := 1
theorem C_is_mark {k : Nat} {Q : D → Prop} {x0 x1 : D} (h : W (Cw FT k) b_is_mark { nx := fun _ => Q .non, rt := Q } [some x0, some x1]) : Cw FT (k + 1) 1 [x0, x1] Q := ⟨rfl, h⟩
abbrev f_Rule_init : Nat := 2
theorem C_Rule_init {k : Nat} {Q : D → Prop} {x0 : D} (h : W (Cw FT k) b_Rule_init { nx := fun env => Es (Cw FT k) e_Rule_init env fun ds => Q (.obj 0 ds), rt := fun _ => False } [none, some x0]) : Cw FT (k + 1) 2 [x0] Q := ⟨rfl, h⟩
abbrev f_Rule_begin : Nat := 3
theorem C_Rule_begin {k : Nat} {Q : D → Prop} {x0 : D} (h : W (Cw FT k) b_Rule_begin { nx := fun _ => Q .non, rt := Q } [some x0]) : Cw FT (k + 1) 3 [x0] Q := ⟨rfl, h⟩
abbrev f_Rule_led_to : Nat := 4
theorem C_Rule_led_to {k : Nat} {Q : D → Prop} {x0 x1 x2 : D} (h : W (Cw FT k) b_Rule_led_to { nx := fun _ => Q .non, rt := Q } [some x0, some x1, some x2]) : Cw FT (k + 1) 4 [x0, x1, x2] Q := ⟨rfl, h⟩
abbrev f_Rule_step : Nat := 5
theorem C_Rule_step {k : Nat} {Q : D → Prop} {x0 x1 x2 : D} (h : W (Cw FT k) b_Rule_step { nx := fun _ => Q .non, rt := Q } [some x0, some x1, some x2]) : Cw FT (k + 1) 5 [x0, x1, x2] Q := ⟨rfl, h⟩
abbrev f_Rule_broken_at : Nat := 6
theorem C_Rule_broken_at {k : Nat} {Q : D → Prop} {x0 x1 : D} (h : W (Cw FT k) b_Rule_broken_at { nx := fun _ => Q .non, rt := Q } [some x0, some x1, none, none, none]) : Cw FT (k + 1) 6 [x0, x1] Q := ⟨rfl, h⟩
abbrev f_Rule_keeps : Nat := 7
theorem C_Rule_keeps {k : Nat} {Q : D → Prop} {x0 x1 : D} (h : W (Cw FT k) b_Rule_keeps { nx := fun _ => Q .non, rt := Q } [some x0, some x1]) : Cw FT (k + 1) 7 [x0, x1] Q := ⟨rfl, h⟩
abbrev f_Never_init : Nat := 8
theorem C_Never_init {k : Nat} {Q : D → Prop} {x0 x1 : D} (h : Es (Cw FT k) u_Never_init [none, some x0, some x1, none] fun bs => Cw FT k 2 bs fun d => ∃ cb ds0, d = .obj cb ds0 ∧ W (Cw FT k) b_Never_init { nx := fun env => Es (Cw FT k) e_Never_init env fun ds => Q (.obj 1 (ds0 ++ ds)), rt := fun _ => False } [none, some x0, some x1, none]) : Cw FT (k + 1) 8 [x0, x1] Q := ⟨rfl, h⟩
abbrev f_Never_led_to : Nat := 9
theorem C_Never_led_to {k : Nat} {Q : D → Prop} {x0 x1 x2 : D} (h : W (Cw FT k) b_Never_led_to { nx := fun _ => Q .non, rt := Q } [some x0, some x1, some x2, none]) : Cw FT (k + 1) 9 [x0, x1, x2] Q := ⟨rfl, h⟩
abbrev f_law_cell_at : Nat := 10
theorem C_law_cell_at {k : Nat} {Q : D → Prop} {x0 x1 : D} (h : W (Cw FT k) b_law_cell_at { nx := fun _ => Q .non, rt := Q } [some x0, some x1]) : Cw FT (k + 1) 10 [x0, x1] Q := ⟨rfl, h⟩
abbrev f_law_whole : Nat := 11
theorem C_law_whole {k : Nat} {Q : D → Prop} {x0 : D} (h : W (Cw FT k) b_law_whole { nx := fun _ => Q .non, rt := Q } [some x0]) : Cw FT (k + 1) 11 [x0] Q := ⟨rfl, h⟩
abbrev f_law_marks : Nat := 12
theorem C_law_marks {k : Nat} {Q : D → Prop} {x0 : D} (h : W (Cw FT k) b_law_marks { nx := fun _ => Q .non, rt := Q } [some x0, none, none, none]) : Cw FT (k + 1) 12 [x0] Q := ⟨rfl, h⟩
abbrev f_law_word : Nat := 13
theorem C_law_word {k : Nat} {Q : D → Prop} {x0 x1 : D} (h : W (Cw FT k) b_law_word { nx := fun _ => Q .non, rt := Q } [some x0, some x1, none, none, none, none]) : Cw FT (k + 1) 13 [x0, x1] Q := ⟨rfl, h⟩
abbrev f_law_due : Nat := 14
theorem C_law_due {k : Nat} {Q : D → Prop} {x0 x1 : D} (h : W (Cw FT k) b_law_due { nx := fun _ => Q .non, rt := Q } [some x0, some x1, none]) : Cw FT (k + 1) 14 [x0, x1] Q := ⟨rfl, h⟩
abbrev f_law_fair : Nat := 15
theorem C_law_fair {k : Nat} {Q : D → Prop} {x0 x1 : D} (h : W (Cw FT k) b_law_fair { nx := fun _ => Q .non, rt := Q } [some x0, some x1]) : Cw FT (k + 1) 15 [x0, x1] Q := ⟨rfl, h⟩
abbrev f_law_gone : Nat := 16
theorem C_law_gone {k : Nat} {Q : D → Prop} {x0 x1 x2 : D} (h : W (Cw FT k) b_law_gone { nx := fun _ => Q .non, rt := Q } [some x0, some x1, some x2, none, none, none]) : Cw FT (k + 1) 16 [x0, x1, x2] Q := ⟨rfl, h⟩
abbrev f_law_piece : Nat := 17
theorem C_law_piece {k : Nat} {Q : D → Prop} {x0 x1 x2 : D} (h : W (Cw FT k) b_law_piece { nx := fun _ => Q .non, rt := Q } [some x0, some x1, some x2]) : Cw FT (k + 1) 17 [x0, x1, x2] Q := ⟨rfl, h⟩
abbrev f_law : Nat := 18
theorem C_law {k : Nat} {Q : D → Prop} {x0 : D} (h : W (Cw FT k) b_law { nx := fun _ => Q .non, rt := Q } [some x0, none, none, none, none, none, none, none]) : Cw FT (k + 1) 18 [x0] Q := ⟨rfl, h⟩
def gcs : List (Str × Str) := [("SIGNS", "abcdefghijklmnopqrstuvwxyz0123456789")]
def ct : CT := ⟨[("Rule", ["marks"]), ("Never", ["marks", "word"])], [(0, "begin", 3), (0, "led_to", 4), (0, "step", 5), (0, "broken_at", 6), (0, "keeps", 7), (1, "begin", 3), (1, "step", 5), (1, "broken_at", 6), (1, "keeps", 7), (1, "led_to", 9)], [(0, 2), (1, 8)], [], [(1, 0)], [(0, 2)], [(0, 1)]⟩
theorem chk : (fs.all fun p => chkF (fs.map (·.1)) gcs p.1 p.2 ct) = true := by decide +kernel
end Law

set_option maxRecDepth 100000
set_option maxHeartbeats 1000000
namespace Law
open PySem L2 Pv
local macro_rules | `(tactic| walk_at "pv") => `(tactic| simp only [E, Es, p1, p2, b2W, m1W, isS, slW, onI, onB, okEq_int_t, eqv_int, true_and, List.getElem?_cons_zero, List.getElem?_cons_succ, List.set_cons_zero, List.set_cons_succ, if_true, if_false, Bool.false_eq_true])
local macro_rules | `(tactic| walk_at "sv") => `(tactic| simp only [List.set_cons_zero, List.set_cons_succ])
/-! ### marks -/
def sgs : List Nat := ("abcdefghijklmnopqrstuvwxyz0123456789" : Str).cps.toList
theorem lit_sgs : (("abcdefghijklmnopqrstuvwxyz0123456789" : Str)) = S sgs := by rw [sgs, S_back]
theorem sgs_len : sgs.length = 36 := by decide +kernel
def mk (a s n : Nat) : List Nat := (List.range n).map fun k => sgs.getD ((a + k * s) % 36) 0
def GM (ms : List Nat) : Prop := ∃ a s n, a < 36 ∧ s < 11 ∧ n < 3 ∧ ms = mk a (s + 1) (n + 2)
theorem mk_fact : ((List.range 36).all fun a => (List.range 11).all fun s => (List.range 3).all fun n => decide (mk a (s + 1) (n + 2)).Nodup && (mk a (s + 1) (n + 2)).all fun c => decide (c < 128) && decide (c ∈ sgs)) = true := by decide +kernel
theorem GM.facts {ms : List Nat} (h : GM ms) : ms.Nodup ∧ (∀ c ∈ ms, c < 128 ∧ c ∈ sgs) ∧ 2 ≤ ms.length ∧ ms.length ≤ 4 := by
  obtain ⟨a, s, n, h1, h2, h3, rfl⟩ := h
  have := mk_fact
  rw [List.all_eq_true] at this
  have := this a (List.mem_range.mpr h1)
  rw [List.all_eq_true] at this
  have := this s (List.mem_range.mpr h2)
  rw [List.all_eq_true] at this
  have := this n (List.mem_range.mpr h3)
  simp only [Bool.and_eq_true, decide_eq_true_eq, List.all_eq_true] at this
  exact ⟨this.1, this.2, by simp [mk], by simp [mk]; omega⟩
theorem getD_nat {l : List Nat} {k : Nat} (h : k < l.length) : l[k]? = some (l.getD k 0) := by
  rw [List.getD_eq_getElem?_getD, List.getElem?_eq_getElem h]
  rfl
theorem GM.okL {ms : List Nat} (h : GM ms) : okL ms := by
  intro c hc
  have := (h.facts.2.1 c hc).1
  omega
theorem marks_ok (c : Int) {k : Nat} {Q : D → Prop} (h : ∀ ms, GM ms → Q (.str (S ms))) : Cw FT (k + 1) f_law_marks [.int c] Q := by
  refine C_law_marks ?_
  unfold b_law_marks
  refine w_asg (d := .str (S sgs)) (fun Q q => e_strS lit_sgs q) ?_
  walk_at "sv"
  obtain ⟨s, es, ls⟩ := fmod_range (c.fdiv 36) 11 (by decide)
  obtain ⟨a, ea, la⟩ := fmod_range c 36 (by decide)
  obtain ⟨n, en, ln⟩ := fmod_range (c.fdiv 396) 3 (by decide)
  refine w_asg (d := ni (s + 1)) (fun Q q => e_o2 (.int 1) (ni s) (fun Q q => e_int q) (fun Q q => e_o2 (.int (c.fdiv 36)) (.int 11) (fun Q q => e_o2 (.int c) (.int 36) (fun Q q => e_v rfl q) (fun Q q => e_int q) ⟨divOk_s (by decide) (by decide), q⟩) (fun Q q => e_int q) ⟨by decide, by rw [es]; exact q⟩) (by show Q (.int (1 + (s : Int))); rw [show (1 : Int) + (s : Int) = ((s + 1 : Nat) : Int) by push_cast; omega]; exact q)) ?_
  walk_at "sv"
  have lm : (mk a (s + 1) (n + 2)).length = n + 2 := by simp [mk]
  refine w_ret (d := .str (S (mk a (s + 1) (n + 2)))) (fun Q q => e_join1 (cs := mk a (s + 1) (n + 2)) (fun Q q => ?_) (by omega) q) (h _ ⟨a, s, n, by omega, by omega, by omega, rfl⟩)
  refine e_rngF (n + 2) (fun k => D.str (S [sgs.getD ((a + k * (s + 1)) % 36) 0])) (fun Q q => ?_) (by omega) (fun j hj R hR => ?_) (by rw [mk, List.map_map] at q; exact q)
  · refine e_o2 (.int 2) (ni n) (fun Q q => e_int q) (fun Q q => e_o2 (.int (c.fdiv 396)) (.int 3) (fun Q q => e_o2 (.int c) (.int 396) (fun Q q => e_v rfl q) (fun Q q => e_int q) ⟨divOk_s (by decide) (by decide), q⟩) (fun Q q => e_int q) ⟨by decide, by rw [en]; exact q⟩) ?_
    show Q (.int (2 + (n : Int)))
    rw [show (2 : Int) + (n : Int) = ((n + 2 : Nat) : Int) by omega]
    exact q
  walk_at "sv"
  refine e_idxS (l := sgs) (j := (a + j * (s + 1)) % 36) (c := sgs.getD ((a + j * (s + 1)) % 36) 0) (fun Q q => e_v rfl q) (fun Q q => ?_) (by rw [sgs_len]; decide) (getD_nat (by rw [sgs_len]; exact Nat.mod_lt _ (by decide))) hR
  refine e_o2 (.int (c + (j * (s + 1) : Nat))) (.int (36 : Nat)) (fun Q q => e_o2 (.int c) (ni (j * (s + 1))) (fun Q q => e_v rfl q) (fun Q q => e_o2 (ni j) (ni (s + 1)) (fun Q q => e_v rfl q) (fun Q q => e_v rfl q) ⟨mulOk_l (by omega) (by omega), by rw [← Int.natCast_mul]; exact q⟩) q) (fun Q q => e_int q) ⟨by decide, ?_⟩
  have e : (c + (j * (s + 1) : Nat)).fmod ((36 : Nat) : Int) = (((a + j * (s + 1)) % 36 : Nat) : Int) := by
    rw [Int.fmod_eq_emod_of_nonneg _ (by decide)] at ea ⊢
    omega
  rw [e]
  exact q
theorem ddS_nodup : ∀ (l : List Nat), l.Nodup → ddS (l.map fun c => S [c]) = l.map fun c => S [c] := by
  intro l0
  obtain ⟨r, rfl⟩ : ∃ r, l0 = List.reverse r := ⟨l0.reverse, by simp⟩
  induction r with
  | nil => intro _; rfl
  | cons c r ih =>
    intro h
    rw [List.reverse_cons] at h ⊢
    generalize List.reverse r = l at *
    have hn := List.nodup_append.mp h
    rw [List.map_append, List.map_cons, List.map_nil, ddS_snoc, ih hn.1]
    rw [if_neg]
    intro z
    obtain ⟨x, hx, e⟩ := List.any_eq_true.mp z
    obtain ⟨d, hd, rfl⟩ := List.mem_map.mp hx
    have e : S [d] = S [c] := by simpa [beq_iff_eq] using e
    have := S_inj.mp e
    cases this
    exact hn.2.2 _ hd _ (by simp) rfl
theorem marks_good_ok {ms : List Nat} (h : GM ms) {k : Nat} {Q : D → Prop} (q : Q (.bl true)) : Cw FT (k + 1) f_marks_good [.str (S ms)] Q := by
  obtain ⟨h1, h2, h3, h4⟩ := h.facts
  refine C_marks_good ?_
  unfold b_marks_good
  have ln : ∀ {C : CallW} {env : Pv.Env}, env[0]? = some (some (.str (S ms))) → ∀ Q : D → Prop, Q (ni ms.length) → E C (.o1 .len (.var 0)) env Q := fun {C env} e0 Q q => e_lenS (fun Q q => e_v e0 q) (by omega) rfl q
  refine w_no (fun Q q => ?_) (w_nil (C := Cw FT k) (show Pv.W (Cw FT k) _ _ _ from ?_))
  · refine e_or2 (p := false) (q := false) (fun Q q => e_o2 (ni ms.length) (.int 2) (ln rfl) (fun Q q => e_int q) (by show Q (.bl (decide ((ms.length : Int) < 2))); rw [decide_eq_false (by omega)]; exact q)) (fun _ Q q => ?_) q
    refine e_or2 (p := false) (q := false) (fun Q q => e_o2 (ni ms.length) (.int 4) (ln rfl) (fun Q q => e_int q) (by show Q (.bl (decide ((ms.length : Int) > 4))); rw [decide_eq_false (by omega)]; exact q)) (fun _ Q q => ?_) q
    refine e_o2 (ni ms.length) (ni ms.length) (fun Q q => ?_) (ln rfl) (p2_ne_int.mpr (by rw [decide_eq_true rfl]; exact q))
    refine e_o1 (p := .lset) (.lst ((ms.map fun c => S [c]).map D.str)) (fun Q q => e_o1 (p := .list1) (.str (S ms)) (fun Q q => e_v rfl q) ⟨small_len (by omega), ?_⟩) ⟨_, rfl, by rw [List.length_map]; omega, by rw [ddS_nodup _ h1, List.length_map]; exact q⟩
    rw [List.map_map] at q
    exact q
  refine w_for (inv := []) (ms.map fun c => D.str (S [c])) (fun i e => ∃ z : Option D, e = [some (.str (S ms)), z]) (it_S fun Q q => e_v rfl q) ⟨_, rfl⟩ ?_ ?_
  · rintro i d e hd ⟨z, rfl⟩
    obtain ⟨c, hc, rfl⟩ := List.mem_map.mp (List.mem_of_getElem? hd)
    refine (show Pv.W _ _ _ _ from ?_)
    walk_at "sv"
    refine w_no (fun Q q => e_o2 (.str (S [c])) (.str (S sgs)) (fun Q q => e_v rfl q) (fun Q q => by rw [E, lit_sgs]; exact q) ?_) (w_nil (C := Cw FT k) (w_nil (C := Cw FT k) ⟨_, rfl⟩))
    show Q (.bl (!strIn (S [c]) (S sgs)))
    rw [show strIn (S [c]) (S sgs) = decide (c ∈ sgs) from strIn_one c sgs, decide_eq_true (h2 c hc).2]
    exact q
  · rintro e ⟨z, rfl⟩
    exact w_ret (d := .bl true) (fun Q q => by rw [E]; exact q) q
theorem is_mark_ok {ms : List Nat} {c : Nat} (hc : c ∈ ms) {k : Nat} {Q : D → Prop} (q : Q (.bl true)) : Cw FT (k + 1) f_is_mark [.str (S ms), .str (S [c])] Q := by
  refine C_is_mark ?_
  unfold b_is_mark
  refine w_ret (d := .bl true) (fun Q q => e_and2 (p := true) (q := true) (fun Q q => e_o2 (ni 1) (.int 1) (fun Q q => e_lenS (l := [c]) (fun Q q => e_v rfl q) (show 1 ≤ 1000000 by decide) rfl q) (fun Q q => e_int q) (p2_eq_int.mpr q)) (fun _ Q q => e_o2 (.str (S [c])) (.str (S ms)) (fun Q q => e_v rfl q) (fun Q q => e_v rfl q) ?_) q) q
  show Q (.bl (strIn (S [c]) (S ms)))
  rw [show strIn (S [c]) (S ms) = decide (c ∈ ms) from strIn_one c ms, decide_eq_true hc]
  exact q
/-! ### ends of texts -/
theorem snoc_of {α : Type} {l : List α} (h : l ≠ []) : ∃ r x, l = r ++ [x] := ⟨l.dropLast, l.getLast h, (List.dropLast_concat_getLast h).symm⟩
theorem atI_last {α : Type} (r : List α) (x : α) : atI (r ++ [x]) (-1) = some x := by
  unfold atI L2.ixN
  have e : (-1 + ((r ++ [x]).length : Int)).toNat = r.length := by rw [List.length_append, List.length_singleton]; omega
  rw [if_neg (by decide), if_pos (by rw [List.length_append, List.length_singleton]; omega), e, Option.bind_some]
  simp
theorem e_neg1 {C : CallW} {env : Pv.Env} {Q : D → Prop} (q : Q (.int (-1))) : E C (.o1 .neg (.int 1)) env Q := e_o1 (p := .neg) (.int 1) (fun Q q => e_int q) q
theorem e_idxLast {C : CallW} {env : Pv.Env} {a : CE} {r : List Nat} {x : Nat} {Q : D → Prop} (h1 : ∀ Q : D → Prop, Q (.str (S (r ++ [x]))) → E C a env Q) (hl : r.length ≤ 100000) (q : Q (.str (S [x]))) : E C (.o2 .idx a (.o1 .neg (.int 1))) env Q :=
  e_o2 _ (.int (-1)) h1 (fun Q q => e_neg1 q) ⟨small_len (by rw [List.length_append, List.length_singleton]; omega), x, by rw [S_list]; exact atI_last r x, q⟩
theorem cutS_m1 (r : List Nat) (x : Nat) : L2.cutS (S (r ++ [x])) none (some (-1)) = S r := by
  unfold L2.cutS
  rw [S_len, S_list]
  show (⟨(((r ++ [x]).drop 0).take ((-1 + ((r ++ [x]).length : Int)).toNat - 0)).toArray⟩ : Str) = _
  rw [List.drop_zero, Nat.sub_zero, List.length_append, List.length_singleton, show (-1 + ((r.length + 1 : Nat) : Int)).toNat = r.length by omega, List.take_left' rfl]
theorem e_cutLast {C : CallW} {env : Pv.Env} {a lo : CE} {r : List Nat} {x : Nat} {Q : D → Prop} (h1 : ∀ Q : D → Prop, Q (.str (S (r ++ [x]))) → E C a env Q) (hl : r.length ≤ 100000) (q : Q (.str (S r))) : E C (.slc false false true a lo (.o1 .neg (.int 1))) env Q := by
  rw [E]
  refine h1 _ ?_
  simp only [Bool.false_eq_true, if_false, if_true]
  refine e_neg1 ?_
  show slW false (.str (S (r ++ [x]))) none (some (-1)) Q
  exact ⟨small_len (by rw [List.length_append, List.length_singleton]; omega), by rw [cutS_m1]; exact q⟩
theorem rfind_one (row : List Nat) (c : Nat) : (Txt.rfind (S row) (S [c]) = -1 ∧ c ∉ row) ∨ ∃ i : Nat, Txt.rfind (S row) (S [c]) = i ∧ row[i]? = some c ∧ ∀ k, i < k → row[k]? ≠ some c := by
  unfold Txt.rfind
  have sub : ∀ i, PySem.StrLaws.At (S row) (S [c]) (S row).length i ↔ row[i]? = some c := fun i => PySem.StrLaws.subAt_one (S row) c i
  rcases PySem.StrLaws.last_spec (S row) (S [c]) with ⟨e, h⟩ | ⟨i, e, h1, h2⟩
  · left
    rw [e]
    refine ⟨rfl, fun z => ?_⟩
    obtain ⟨i, hi⟩ := List.getElem?_of_mem z
    exact h i ((sub i).mpr hi)
  · right
    rw [e]
    exact ⟨i, rfl, (sub i).mp h1, fun k hk z => h2 k hk ((sub k).mpr z)⟩
theorem e_min2 {C : CallW} {env : Pv.Env} {a b : CE} {i j : Nat} {Q : D → Prop} (h1 : ∀ Q : D → Prop, Q (ni i) → E C a env Q) (h2 : ∀ Q : D → Prop, Q (ni j) → E C b env Q) (q : Q (ni (min i j))) : E C (.b2 .min2 a b) env Q := by
  rw [E]
  refine h1 _ (h2 _ ?_)
  show Q (.int (if (j : Int) < (i : Int) then (j : Int) else (i : Int)))
  have : (if (j : Int) < (i : Int) then (j : Int) else (i : Int)) = ((min i j : Nat) : Int) := by split <;> omega
  rw [this]
  exact q
def oM : Option Nat → D
  | none => .non
  | some v => ni v
theorem e_isN {C : CallW} {env : Pv.Env} {a : CE} {o : Option Nat} {Q : D → Prop} (h : ∀ Q : D → Prop, Q (oM o) → E C a env Q) (q : Q (.bl o.isNone)) : E C (.o1 .isN a) env Q := e_o1 (p := .isN) (oM o) h (by cases o <;> exact q)
theorem e_notN {C : CallW} {env : Pv.Env} {a : CE} {o : Option Nat} {Q : D → Prop} (h : ∀ Q : D → Prop, Q (oM o) → E C a env Q) (q : Q (.bl o.isSome)) : E C (.o1 .notN a) env Q := e_o1 (p := .notN) (oM o) h (by cases o <;> exact q)
theorem w_iteJ {FT : List Fn} {n : Nat} {c : CE} {a a2 r : CS} {k : Ks} {env : Pv.Env} {b : Bool} (I : Pv.Env → Prop) (h : ∀ Q : D → Prop, Q (.bl b) → E (Cw FT n) c env Q) (h1 : b = true → Pv.W (Cw FT n) a { k with nx := I } env) (h2 : b = false → Pv.W (Cw FT n) a2 { k with nx := I } env) (hr : ∀ env, I env → Pv.W (Cw FT n) r k env) : Pv.W (Cw FT n) (.seq (.ite c a a2) r) k env :=
  w_ite h (fun e => W_mono (Cw_mono FT n) a (k := { k with nx := I }) (k' := { k with nx := Pv.W (Cw FT n) r k }) ⟨hr, fun _ z => z, fun _ z => z, fun _ z => z, fun _ _ z => z⟩ (h1 e)) fun e => W_mono (Cw_mono FT n) a2 (k := { k with nx := I }) (k' := { k with nx := Pv.W (Cw FT n) r k }) ⟨hr, fun _ z => z, fun _ z => z, fun _ z => z, fun _ _ z => z⟩ (h2 e)
end Law

set_option maxRecDepth 100000
namespace Law
open PySem L2 Pv
local macro_rules | `(tactic| walk_at "pv") => `(tactic| simp only [E, Es, p1, p2, b2W, m1W, isS, slW, onI, onB, okEq_int_t, eqv_int, okEq_wl_t, eqv_wl, okEq_tb_t, eqv_tb, okEq_bl_t, eqv_bl, true_and, List.getElem?_cons_zero, List.getElem?_cons_succ, List.set_cons_zero, List.set_cons_succ, if_true, if_false, Bool.false_eq_true])
local macro_rules | `(tactic| walk_at "sv") => `(tactic| simp only [List.set_cons_zero, List.set_cons_succ])
theorem cell_ok (ns : List Int) (j : Nat) {i : Int} (hi : i = j) {k : Nat} {Q : D → Prop} (h : Q (.int (cell ns j))) : Cw FT (k + 1) f_law_cell_at [.lst (ns.map D.int), .int i] Q := by
  subst hi
  refine C_law_cell_at ?_
  unfold b_law_cell_at
  refine w_ite (b := decide ((j : Int) < ((ns.map D.int).length : Nat))) (by intro Q q; walk_at "pv"; exact q) (fun e => ?_) (fun e => ?_)
  · have hj : j < ns.length := by simpa using e
    refine w_ret (d := .int (cell ns j)) (by
      intro Q q; walk_at "pv"
      exact ⟨_, atI_nat (by rw [List.getElem?_map, List.getElem?_eq_getElem hj]; simp [cell, List.getD_eq_getElem?_getD, List.getElem?_eq_getElem hj]), q⟩) h
  · have hj : ¬ j < ns.length := by simpa using e
    refine w_nil (w_ret (d := .int (cell ns j)) (by
      intro Q q; walk_at "pv"
      have : cell ns j = 0 := by simp [cell, List.getD_eq_getElem?_getD, List.getElem?_eq_none (by omega : ns.length ≤ j)]
      rw [this] at q
      exact q) h)
end Law

set_option maxRecDepth 100000
set_option maxHeartbeats 1000000
namespace Law
open PySem L2 Pv
local macro_rules | `(tactic| walk_at "pv") => `(tactic| simp only [E, Es, p1, p2, b2W, m1W, isS, slW, onI, onB, okEq_int_t, eqv_int, true_and, List.getElem?_cons_zero, List.getElem?_cons_succ, List.set_cons_zero, List.set_cons_succ, if_true, if_false, Bool.false_eq_true])
local macro_rules | `(tactic| walk_at "sv") => `(tactic| simp only [List.set_cons_zero, List.set_cons_succ])
/-! ### the longest end of a row with which the word begins -/
def lp (w : List Nat) : List Nat → List Nat
  | [] => []
  | x :: t => if x :: t <+: w then x :: t else lp w t
theorem lp_pre (w : List Nat) : ∀ t, lp w t <+: w
  | [] => List.nil_prefix
  | x :: t => by
    rw [lp]
    split
    · assumption
    · exact lp_pre w t
theorem lp_suf (w : List Nat) : ∀ t, lp w t <:+ t
  | [] => List.suffix_rfl
  | x :: t => by
    rw [lp]
    split
    · exact List.suffix_rfl
    · exact (lp_suf w t).trans (List.suffix_cons _ _)
theorem lp_max {w e : List Nat} (h1 : e <+: w) : ∀ {t : List Nat}, e <:+ t → e.length ≤ (lp w t).length
  | [], h => by
    rw [List.suffix_nil.mp h]
    simp [lp]
  | x :: t, h => by
    rw [lp]
    split
    · exact h.length_le
    · rename_i z
      rcases List.suffix_cons_iff.mp h with h | h
      · rw [h] at h1
        exact absurd h1 z
      · exact lp_max h1 h
theorem lp_self {w t : List Nat} (h : t <+: w) : lp w t = t := by
  cases t with
  | nil => rfl
  | cons x t => rw [lp, if_pos h]
theorem lp_tail {w t : List Nat} (h : ¬ t <+: w) : t ≠ [] ∧ lp w t = lp w t.tail := by
  cases t with
  | nil => exact absurd List.nil_prefix h
  | cons x t => exact ⟨by simp, by rw [lp, if_neg h]; rfl⟩
theorem suf_len {a b t : List Nat} (h1 : a <:+ t) (h2 : b <:+ t) (h : a.length ≤ b.length) : a <:+ b := List.suffix_of_suffix_length_le h1 h2 h
theorem suf_eq {a b t : List Nat} (h1 : a <:+ t) (h2 : b <:+ t) (h : a.length = b.length) : a = b := (suf_len h1 h2 (by omega)).eq_of_length h
theorem lp_step (w row : List Nat) (x : Nat) : lp w (lp w row ++ [x]) = lp w (row ++ [x]) := by
  have s1 : lp w (lp w row ++ [x]) <:+ row ++ [x] := by
    obtain ⟨p, e⟩ := lp_suf w row
    refine (lp_suf w _).trans ⟨p, ?_⟩
    rw [← List.append_assoc, e]
  refine suf_eq s1 (lp_suf w _) (Nat.le_antisymm (lp_max (lp_pre w _) s1) (lp_max (lp_pre w _) ?_))
  by_cases z : lp w (row ++ [x]) = []
  · rw [z]
    exact List.nil_suffix
  · obtain ⟨B, y, e⟩ := snoc_of z
    have sB := lp_suf w (row ++ [x])
    have pB := lp_pre w (row ++ [x])
    rw [e] at sB pB ⊢
    obtain ⟨p, eq⟩ := sB
    rw [← List.append_assoc] at eq
    have e1 := List.append_inj' eq rfl
    have ey : y = x := by simpa using e1.2
    have sB' : B <:+ row := ⟨p, e1.1⟩
    have pB' : B <+: w := (List.prefix_append B [y]).trans pB
    obtain ⟨p2, e2⟩ := suf_len sB' (lp_suf w row) (lp_max pB' sB')
    exact ⟨p2, by rw [← List.append_assoc, e2, ey]⟩
theorem lp_take (w t : List Nat) : w.take (lp w t).length = lp w t := (List.prefix_iff_eq_take.mp (lp_pre w t)).symm
theorem lp_full {w t : List Nat} : lp w t = w ↔ w <:+ t := by
  constructor
  · intro e
    have := lp_suf w t
    rw [e] at this
    exact this
  · intro h
    exact (lp_pre w t).eq_of_length (Nat.le_antisymm (lp_pre w t).length_le (lp_max List.prefix_rfl h))
def nxL (w : List Nat) (e : List Nat) : Option Nat := if e = w then none else some e.length
def nx (w : List Nat) (st x : Nat) : Option Nat := nxL w (lp w (w.take st ++ [x]))
theorem nx_lp (w row : List Nat) (x : Nat) : nx w (lp w row).length x = nxL w (lp w (row ++ [x])) := by
  unfold nx
  rw [lp_take, lp_step]
def brk (w : List Nat) : Nat → Nat → List Nat → Option Nat
  | _, _, [] => none
  | st, i, x :: xs => match nx w st x with
    | none => some i
    | some s => brk w s (i + 1) xs
theorem brk_none {w : List Nat} : ∀ {rest p : List Nat} {i : Nat}, (∀ j, 1 ≤ j → j ≤ rest.length → lp w (p ++ rest.take j) ≠ w) → brk w (lp w p).length i rest = none
  | [], _, _, _ => rfl
  | x :: xs, p, i, h => by
    have h1 := h 1 (Nat.le_refl _) (by simp)
    rw [List.take_succ_cons, List.take_zero] at h1
    rw [brk, nx_lp, nxL, if_neg h1]
    exact brk_none fun j a b z => h (j + 1) (by omega) (by simpa using b) (by rw [List.take_succ_cons]; rw [List.append_assoc] at z; exact z)
theorem brk_some {w : List Nat} : ∀ {rest p : List Nat} {i : Nat}, rest ≠ [] → lp w (p ++ rest) = w → (brk w (lp w p).length i rest).isSome = true
  | [], _, _, h, _ => absurd rfl h
  | x :: xs, p, i, _, h => by
    rw [brk, nx_lp, nxL]
    split
    · rename_i z
      split at z
      · rfl
      · cases z
    · rename_i s z
      split at z
      · cases z
      · cases z
        rename_i ne
        have hx : xs ≠ [] := fun e => by
          rw [e] at h
          exact ne h
        exact brk_some hx (by rw [List.append_assoc]; exact h)
theorem ends_S (a b : List Nat) : Txt.endswith (S a) (S b) = decide (b <:+ a) := by
  unfold Txt.endswith
  rw [S_len, S_len, StrLaws.subAt_eq, S_list, S_list, S_len]
  by_cases h : b <:+ a
  · rw [decide_eq_true h]
    have hl := h.length_le
    rw [decide_eq_true (by omega), Bool.true_and]
    rw [← List.suffix_iff_eq_drop.mp h]
    simp
  · rw [decide_eq_false h]
    by_cases hl : b.length ≤ a.length
    · rw [Bool.and_eq_false_iff]
      right
      rw [beq_eq_false_iff_ne]
      intro e
      rw [List.take_of_length_le (by rw [List.length_drop]; omega)] at e
      exact h (by rw [← e]; exact List.drop_suffix _ _)
    · rw [decide_eq_false (by omega), Bool.false_and]
theorem e_ew {C : CallW} {env : Pv.Env} {a b : CE} {l m : List Nat} {Q : D → Prop} (h1 : ∀ Q : D → Prop, Q (.str (S l)) → E C a env Q) (h2 : ∀ Q : D → Prop, Q (.str (S m)) → E C b env Q) (q : Q (.bl (decide (m <:+ l)))) : E C (.m1 .ew a b) env Q := by
  rw [E]
  refine h1 _ ⟨trivial, h2 _ ?_⟩
  show Q (.bl (Txt.endswith (S l) (S m)))
  rw [ends_S]
  exact q
end Law

set_option maxRecDepth 100000
set_option maxHeartbeats 1000000
namespace Law
open PySem L2 Pv
local macro_rules | `(tactic| walk_at "pv") => `(tactic| simp only [E, Es, p1, p2, b2W, m1W, isS, slW, onI, onB, okEq_int_t, eqv_int, true_and, List.getElem?_cons_zero, List.getElem?_cons_succ, List.set_cons_zero, List.set_cons_succ, if_true, if_false, Bool.false_eq_true])
local macro_rules | `(tactic| walk_at "sv") => `(tactic| simp only [List.set_cons_zero, List.set_cons_succ])
theorem e_addT {C : CallW} {env : Pv.Env} {a b : CE} {x y : List Nat} {Q : D → Prop} (h1 : ∀ Q : D → Prop, Q (.str (S x)) → E C a env Q) (h2 : ∀ Q : D → Prop, Q (.str (S y)) → E C b env Q) (hl : x.length + y.length ≤ 1000000) (q : Q (.str (S (x ++ y)))) : E C (.o2 .add a b) env Q :=
  e_o2 _ _ h1 h2 ⟨by rw [S_len, S_len]; exact szM hl, by rw [S_app]; exact q⟩
abbrev gp (ms w : List Nat) : D := .obj 1 [.str (S ms), .str (S w)]
section
variable {ms w : List Nat} (gm : GM ms) (hw : ∀ c ∈ w, c ∈ ms) (l6 : 1 ≤ w.length ∧ w.length ≤ 6)
include gm hw l6
theorem led_ok {st x : Nat} (hx : x ∈ ms) {k : Nat} {Q : D → Prop} (q : Q (oM (nx w st x))) : Cw FT (k + 1) f_Never_led_to [gp ms w, ni st, .str (S [x])] Q := by
  refine C_Never_led_to ?_
  unfold b_Never_led_to
  have okw : okL w := fun c hc => gm.okL c (hw c hc)
  have fW : ∀ {C : CallW} {env : Pv.Env}, env[0]? = some (some (gp ms w)) → ∀ Q : D → Prop, Q (.str (S w)) → E C (.fld "word" 1 [1] (.var 0)) env Q := fun {C env} e0 Q q => e_fld (c := 1) (i := 1) (fun Q q => e_v e0 q) (by simp) rfl q
  have lt : (w.take st).length ≤ 6 := by rw [List.length_take]; omega
  have ht : ∀ c ∈ w.take st ++ [x], c ∈ ms := fun c hc => by
    rcases List.mem_append.mp hc with hc | hc
    · exact hw c (List.mem_of_mem_take hc)
    · rw [List.mem_singleton.mp hc]; exact hx
  refine w_asg (d := .str (S (w.take st ++ [x]))) (fun Q q => e_addT (fun Q q => e_cutToS (fW rfl) (fun Q q => e_v rfl q) (by omega) q) (fun Q q => e_v rfl q) (by rw [List.length_singleton]; omega) q) ?_
  walk_at "sv"
  unfold nx at q
  generalize hT : w.take st ++ [x] = T at *
  have lT : T.length ≤ 7 := by rw [← hT, List.length_append, List.length_singleton]; omega
  refine w_whl (fun mm e => ∃ t : List Nat, e = [some (gp ms w), some (ni st), some (.str (S [x])), some (.str (S t))] ∧ mm = t.length ∧ lp w t = lp w T ∧ t.length ≤ 7 ∧ ∀ c ∈ t, c ∈ ms) T.length ⟨T, rfl, rfl, rfl, lT, ht⟩ ?_
  rintro mm e ⟨t, rfl, rfl, hI, l7, htm⟩
  refine e_not1 (p := decide (t <+: w)) (fun Q q => e_sw (fW rfl) (fun Q q => e_v rfl q) q) ?_
  refine onB_b (fun e => ?_) fun e => ?_
  · have e : ¬ t <+: w := by simpa using e
    obtain ⟨t0, t1⟩ := lp_tail e
    have l0 : 0 < t.length := List.length_pos_iff.mpr t0
    refine w_asg (d := .str (S (t.drop 1))) (fun Q q => e_cutFS (i := 1) (fun Q q => e_v rfl q) (fun Q q => e_int q) (by omega) q) (w_nil (C := Cw FT k) ⟨_, ?_, t.drop 1, rfl, rfl, by rw [List.drop_one, ← t1]; exact hI, by rw [List.length_drop]; omega, fun c hc => htm c (List.mem_of_mem_drop hc)⟩)
    rw [List.length_drop]
    omega
  · have e : t <+: w := by simpa using e
    rw [lp_self e] at hI
    rw [← hI] at q
    unfold nxL at q
    refine w_ite (b := decide (t = w)) (fun Q q => e_o2 (.str (S t)) (.str (S w)) (fun Q q => e_v rfl q) (fW rfl) ⟨okEq_S (fun c hc => gm.okL c (htm c hc)) okw, by rw [eqv_S]; exact q⟩) (fun e => ?_) fun e => w_nil (show Pv.W (Cw FT k) _ _ _ from ?_)
    · rw [if_pos (of_decide_eq_true e)] at q
      exact w_ret (d := .non) (fun Q q => by rw [E]; exact q) q
    · rw [if_neg (of_decide_eq_false e)] at q
      exact w_ret (d := ni t.length) (fun Q q => e_lenS (fun Q q => e_v rfl q) (by omega) rfl q) q
theorem step_ok {st x : Nat} (hx : x ∈ ms) {k : Nat} {Q : D → Prop} (q : Q (oM (nx w st x))) : Cw FT (k + 2) f_Rule_step [gp ms w, ni st, .str (S [x])] Q := by
  refine C_Rule_step ?_
  unfold b_Rule_step
  refine w_no (fun Q q => e_not1 (p := true) (fun Q q => e_c2 (x := .str (S ms)) (y := .str (S [x])) (fun Q q => e_fld (c := 1) (i := 0) (fun Q q => e_v rfl q) (by simp) rfl q) (fun Q q => e_v rfl q) (is_mark_ok hx q)) q) (w_nil (C := Cw FT (k + 1)) (show Pv.W (Cw FT (k + 1)) _ _ _ from ?_))
  refine w_ret (d := oM (nx w st x)) (fun Q q => ?_) q
  rw [E]
  exact e_v rfl ⟨_, rfl, es1 (fun Q q => e_v rfl q) (es1 (fun Q q => e_v rfl q) (es0 (led_ok gm hw l6 hx q)))⟩
theorem begin_ok {k : Nat} {Q : D → Prop} (q : Q (ni 0)) : Cw FT (k + 1) f_Rule_begin [gp ms w] Q := by
  refine C_Rule_begin ?_
  unfold b_Rule_begin
  exact w_ret (d := ni 0) (fun Q q => e_int q) q
theorem broken_ok {row : List Nat} (hr : ∀ x ∈ row, x ∈ ms) {k : Nat} {Q : D → Prop} (q : Q (oM (brk w 0 0 row))) : Cw FT (k + 3) f_Rule_broken_at [gp ms w, .str (S row)] Q := by
  refine C_Rule_broken_at ?_
  unfold b_Rule_broken_at
  refine w_asg (d := ni 0) (fun Q q => e_m0 (c := 1) (f := f_Rule_begin) (fun Q q => e_v rfl q) rfl (begin_ok gm hw l6 q)) ?_
  walk_at "sv"
  refine w_for (inv := []) ((List.range row.length).map fun j => D.tup [.int (j : Nat), .str (S [row.getD j 0])]) (fun i e => ∃ (st : Nat) (z3 z4 : Option D), e = [some (gp ms w), some (.str (S row)), some (ni st), z3, z4] ∧ brk w 0 0 row = brk w st i (row.drop i)) (it_ien (fun c => D.str (S [c])) 0 row (fun Q q => e_v rfl q) (itD_S _)) ⟨_, _, _, rfl, rfl⟩ ?_ ?_
  · rintro i d e hd ⟨st, z3, z4, rfl, hI⟩
    rw [List.getElem?_map] at hd
    have hi : i < row.length := by
      by_cases z : i < row.length
      · exact z
      · rw [List.getElem?_eq_none (by rw [List.length_range]; omega)] at hd
        cases hd
    rw [List.getElem?_range hi] at hd
    cases hd
    have gi := getD_nat hi
    rw [List.drop_eq_getElem_cons hi, (List.getElem?_eq_some_iff.mp gi).2] at hI
    have hx : row.getD i 0 ∈ ms := hr _ (List.mem_of_getElem? gi)
    refine ⟨rfl, ?_⟩
    show Pv.W _ _ _ (stor _ _ _)
    simp only [stor, List.set_cons_zero, List.set_cons_succ]
    refine w_asg (d := oM (nx w st (row.getD i 0))) (fun Q q => ?_) ?_
    · rw [E]
      exact e_v rfl ⟨_, rfl, es1 (fun Q q => e_v rfl q) (es1 (fun Q q => e_v rfl q) (es0 (step_ok gm hw l6 hx q)))⟩
    walk_at "sv"
    rw [brk] at hI
    cases e : nx w st (row.getD i 0) with
    | none =>
      rw [e] at hI
      have hI : brk w 0 0 row = some i := hI
      rw [hI] at q
      refine w_yes (fun Q q => e_isN (o := none) (fun Q q => e_v rfl q) q) ?_
      exact w_ret (d := ni i) (fun Q q => e_v rfl q) q
    | some s =>
      rw [e] at hI
      exact w_no (fun Q q => e_isN (o := some s) (fun Q q => e_v rfl q) q) (w_nil (C := Cw FT (k + 2)) (w_nil (C := Cw FT (k + 2)) ⟨s, _, _, rfl, hI⟩))
  · rintro e ⟨st, z3, z4, rfl, hI⟩
    rw [List.length_map, List.length_range, List.drop_length] at hI
    have hI : brk w 0 0 row = none := hI
    rw [hI] at q
    exact w_ret (d := .non) (fun Q q => by rw [E]; exact q) q
theorem keeps_ok {row : List Nat} (hr : ∀ x ∈ row, x ∈ ms) {k : Nat} {Q : D → Prop} (q : Q (.bl (brk w 0 0 row).isNone)) : Cw FT (k + 4) f_Rule_keeps [gp ms w, .str (S row)] Q := by
  refine C_Rule_keeps ?_
  unfold b_Rule_keeps
  exact w_ret (d := .bl (brk w 0 0 row).isNone) (fun Q q => e_isN (fun Q q => e_m1 (c := 1) (f := f_Rule_broken_at) (fun Q q => e_v rfl q) rfl (fun Q q => e_v rfl q) (broken_ok gm hw l6 hr q)) q) q
theorem init_ok {k : Nat} {Q : D → Prop} (q : Q (gp ms w)) : Cw FT (k + 3) f_Never_init [.str (S ms), .str (S w)] Q := by
  refine C_Never_init ?_
  unfold u_Never_init
  refine es1 (x := .str (S ms)) (fun Q q => e_v rfl q) (es0 ?_)
  refine C_Rule_init ?_
  unfold b_Rule_init e_Rule_init
  refine w_no (fun Q q => e_not1 (p := true) (fun Q q => e_c1 (x := .str (S ms)) (fun Q q => e_v rfl q) (marks_good_ok gm q)) q) (w_nil (C := Cw FT (k + 1)) (w_nil (C := Cw FT (k + 1)) (show Es _ _ _ _ from ?_)))
  refine es1 (x := .str (S ms)) (fun Q q => e_v rfl q) (es0 ⟨0, _, rfl, ?_⟩)
  unfold b_Never_init
  have ln : ∀ {C : CallW} {env : Pv.Env}, env[2]? = some (some (.str (S w))) → ∀ Q : D → Prop, Q (ni w.length) → E C (.o1 .len (.var 2)) env Q := fun {C env} e0 Q q => e_lenS (fun Q q => e_v e0 q) (by omega) rfl q
  refine w_no (fun Q q => e_or2 (p := false) (q := false) (fun Q q => e_o2 (ni w.length) (.int 1) (ln rfl) (fun Q q => e_int q) (by show Q (.bl (decide ((w.length : Int) < 1))); rw [decide_eq_false (by omega)]; exact q)) (fun _ Q q => e_o2 (ni w.length) (.int 6) (ln rfl) (fun Q q => e_int q) (by show Q (.bl (decide ((w.length : Int) > 6))); rw [decide_eq_false (by omega)]; exact q)) q) (w_nil (C := Cw FT (k + 2)) (show Pv.W (Cw FT (k + 2)) _ _ _ from ?_))
  refine w_for (inv := []) (w.map fun c => D.str (S [c])) (fun i e => ∃ z : Option D, e = [none, some (.str (S ms)), some (.str (S w)), z]) (it_S fun Q q => e_v rfl q) ⟨_, rfl⟩ ?_ ?_
  · rintro i d e hd ⟨z, rfl⟩
    obtain ⟨c, hc, rfl⟩ := List.mem_map.mp (List.mem_of_getElem? hd)
    refine (show Pv.W _ _ _ _ from ?_)
    walk_at "sv"
    refine w_no (fun Q q => e_o2 (.str (S [c])) (.str (S ms)) (fun Q q => e_v rfl q) (fun Q q => e_v rfl q) ?_) (w_nil (C := Cw FT (k + 2)) (w_nil (C := Cw FT (k + 2)) ⟨_, rfl⟩))
    show Q (.bl (!strIn (S [c]) (S ms)))
    rw [show strIn (S [c]) (S ms) = decide (c ∈ ms) from strIn_one c ms, decide_eq_true (hw c hc)]
    exact q
  · rintro e ⟨z, rfl⟩
    refine w_nil (C := Cw FT (k + 2)) (show Es _ _ _ _ from ?_)
    unfold e_Never_init
    exact es1 (x := .str (S w)) (fun Q q => e_v rfl q) (es0 q)
end
end Law

set_option maxRecDepth 100000
set_option maxHeartbeats 1000000
namespace Law
open PySem L2 Pv
local macro_rules | `(tactic| walk_at "pv") => `(tactic| simp only [E, Es, p1, p2, b2W, m1W, isS, slW, onI, onB, okEq_int_t, eqv_int, true_and, List.getElem?_cons_zero, List.getElem?_cons_succ, List.set_cons_zero, List.set_cons_succ, if_true, if_false, Bool.false_eq_true])
local macro_rules | `(tactic| walk_at "sv") => `(tactic| simp only [List.set_cons_zero, List.set_cons_succ])
theorem whole_ok (v : Nat) {k : Nat} {Q : D → Prop} (q : Q (.bl true)) : Cw FT (k + 1) f_law_whole [ni v] Q := by
  refine C_law_whole ?_
  unfold b_law_whole
  exact w_ret (d := .bl true) (fun Q q => e_and2 (p := true) (q := true) (fun Q q => e_o1 (p := .isi "int") (ni v) (fun Q q => e_v rfl q) q) (fun _ Q q => e_not1 (p := false) (fun Q q => e_o1 (p := .isi "bool") (ni v) (fun Q q => e_v rfl q) q) q) q) q
theorem fair_ok (o : Option Nat) {k : Nat} {Q : D → Prop} (q : Q (.bl true)) : Cw FT (k + 2) f_law_fair [oM o, oM o] Q := by
  refine C_law_fair ?_
  unfold b_law_fair
  cases o with
  | none =>
    refine w_yes (fun Q q => e_isN (o := none) (fun Q q => e_v rfl q) q) ?_
    exact w_ret (d := .bl true) (fun Q q => e_isN (o := none) (fun Q q => e_v rfl q) q) q
  | some v =>
    refine w_no (fun Q q => e_isN (o := some v) (fun Q q => e_v rfl q) q) (w_nil (C := Cw FT (k + 1)) (show Pv.W (Cw FT (k + 1)) _ _ _ from ?_))
    exact w_ret (d := .bl true) (fun Q q => e_and2 (p := true) (q := true) (fun Q q => e_c1 (x := ni v) (fun Q q => e_v rfl q) (whole_ok v q)) (fun _ Q q => e_o2 (ni v) (ni v) (fun Q q => e_v rfl q) (fun Q q => e_v rfl q) (p2_eq_int.mpr (by rw [decide_eq_true rfl]; exact q))) q) q
section
variable {ms w : List Nat} (gm : GM ms) (hw : ∀ c ∈ w, c ∈ ms) (l6 : 1 ≤ w.length ∧ w.length ≤ 6)
include gm hw l6
theorem due_ok {r : List Nat} (hr : ∀ x ∈ r, x ∈ ms) (hl : r.length ≤ 9000) {k : Nat} {Q : D → Prop} (q : Q (oM (nxL w (lp w r)))) : Cw FT (k + 2) f_law_due [.str (S r), .str (S w)] Q := by
  refine C_law_due ?_
  unfold b_law_due
  unfold nxL at q
  refine w_ite (b := decide (w <:+ r)) (fun Q q => e_ew (fun Q q => e_v rfl q) (fun Q q => e_v rfl q) q) (fun e => ?_) fun e => w_nil (show Pv.W (Cw FT (k + 1)) _ _ _ from ?_)
  · rw [if_pos (lp_full.mpr (of_decide_eq_true e))] at q
    exact w_ret (d := .non) (fun Q q => by rw [E]; exact q) q
  · have ne : lp w r ≠ w := fun z => of_decide_eq_false e (lp_full.mp z)
    rw [if_neg ne] at q
    have lt : (lp w r).length < w.length := by
      have := (lp_pre w r).length_le
      rcases Nat.lt_or_ge (lp w r).length w.length with z | z
      · exact z
      · exact absurd ((lp_pre w r).eq_of_length (by omega)) ne
    refine w_ret (d := ni (lp w r).length) (fun Q q => ?_) q
    refine e_o1 (p := .max1) (.lst (((List.range w.length).filter fun k => decide (w.take k <:+ r)).map fun k : Nat => ni k)) (fun Q q => ?_) ?_
    · refine e_lstC (fun k : Nat => D.int k) (fun k : Nat => ni k) (fun k => decide (w.take k <:+ r)) (List.range w.length) (it_rN (fun Q q => e_lenS (fun Q q => e_v rfl q) (by omega) rfl q) (by omega)) (by rw [List.length_range]; exact szM (by omega)) (fun j hj R hR => ?_) (fun j hj _ R hR => ?_) q
      · walk_at "sv"
        exact e_ew (fun Q q => e_v rfl q) (fun Q q => e_cutToS (fun Q q => e_v rfl q) (fun Q q => e_v rfl q) (by omega) q) hR
      · walk_at "sv"
        exact e_v rfl hR
    · have mem : (lp w r).length ∈ (List.range w.length).filter fun k => decide (w.take k <:+ r) := List.mem_filter.mpr ⟨List.mem_range.mpr lt, by rw [lp_take]; exact decide_eq_true (lp_suf w r)⟩
      refine ⟨((List.range w.length).filter fun k => decide (w.take k <:+ r)).map fun k : Nat => (k : Int), by rw [List.map_map]; rfl, by rw [List.length_map]; exact List.length_pos_of_mem mem, fun m hm hmax => ?_⟩
      obtain ⟨j, hj, rfl⟩ := List.mem_map.mp hm
      have h1 := hmax _ (List.mem_map.mpr ⟨_, mem, rfl⟩)
      obtain ⟨j1, j2⟩ := List.mem_filter.mp hj
      have h2 := lp_max (List.take_prefix j w) (of_decide_eq_true j2)
      rw [List.length_take, Nat.min_eq_left (by have := List.mem_range.mp j1; omega)] at h2
      rw [show ((j : Nat) : Int) = (((lp w r).length : Nat) : Int) by omega]
      exact q
theorem gone_ok {row : List Nat} (hr : ∀ x ∈ row, x ∈ ms) (hl : row.length ≤ 5000) {k : Nat} {Q : D → Prop} (q : Q (.bl true)) : Cw FT (k + 5) f_law_gone [gp ms w, .str (S row), .str (S w)] Q := by
  refine C_law_gone ?_
  unfold b_law_gone
  refine w_asg (d := ni 0) (fun Q q => e_m0 (c := 1) (f := f_Rule_begin) (fun Q q => e_v rfl q) rfl (begin_ok gm hw l6 q)) ?_
  walk_at "sv"
  refine w_no (fun Q q => e_not1 (p := true) (fun Q q => e_c2 (x := ni 0) (y := ni 0) (fun Q q => e_v rfl q) (fun Q q => e_int q) (fair_ok (some 0) q)) q) (w_nil (C := Cw FT (k + 4)) (show Pv.W (Cw FT (k + 4)) _ _ _ from ?_))
  refine w_forN (inv := []) row.length (fun i e => ∃ z6 z7 : Option D, e = [some (gp ms w), some (.str (S row)), some (.str (S w)), some (ni (lp w (row.take i)).length), z6, z7] ∧ brk w 0 0 row = brk w (lp w (row.take i)).length i (row.drop i)) (fun Q q => e_lenS (fun Q q => e_v rfl q) (by omega) rfl q) (by omega) ⟨_, _, rfl, rfl⟩ ?_ ?_
  · rintro i e hi ⟨z6, z7, rfl, hI⟩
    have gi := getD_nat hi
    generalize hx0 : row.getD i 0 = x at *
    have hx : x ∈ ms := hr _ (List.mem_of_getElem? gi)
    have et : row.take (i + 1) = row.take i ++ [x] := by rw [List.take_add_one, gi]; rfl
    rw [List.drop_eq_getElem_cons hi, (List.getElem?_eq_some_iff.mp gi).2, brk] at hI
    refine (show Pv.W _ _ _ _ from ?_)
    walk_at "sv"
    generalize hn : nx w (lp w (row.take i)).length x = n at hI
    have hn2 := hn
    rw [nx_lp, ← et] at hn2
    refine w_asg (d := oM n) (fun Q q => ?_) ?_
    · refine e_c2 (x := .str (S (row.take (i + 1)))) (y := .str (S w)) (fun Q q => e_cutToS (j := i + 1) (fun Q q => e_v rfl q) (fun Q q => e_o2 (ni i) (.int 1) (fun Q q => e_v rfl q) (fun Q q => e_int q) q) (by omega) q) (fun Q q => e_v rfl q) (due_ok gm hw l6 (fun y hy => hr y (List.mem_of_mem_take hy)) (by rw [List.length_take]; omega) (by rw [hn2]; exact q))
    walk_at "sv"
    refine w_asg (d := oM n) (fun Q q => ?_) ?_
    · rw [E]
      exact e_v rfl ⟨_, rfl, es1 (x := ni (lp w (row.take i)).length) (fun Q q => e_v rfl q) (es1 (x := .str (S [x])) (fun Q q => e_idxS (j := i) (fun Q q => e_v rfl q) (fun Q q => e_v rfl q) (by omega) gi q) (es0 (step_ok gm hw l6 hx (by rw [hn]; exact q))))⟩
    walk_at "sv"
    refine w_no (fun Q q => e_not1 (p := true) (fun Q q => e_c2 (x := oM n) (y := oM n) (fun Q q => e_v rfl q) (fun Q q => e_v rfl q) (fair_ok n q)) q) (w_nil (C := Cw FT (k + 4)) (show Pv.W (Cw FT (k + 4)) _ _ _ from ?_))
    cases n with
    | none =>
      have hI : brk w 0 0 row = some i := hI
      refine w_yes (fun Q q => e_isN (o := none) (fun Q q => e_v rfl q) q) ?_
      refine w_ret (d := .bl true) (fun Q q => e_and2 (p := true) (q := true) (fun Q q => e_c2 (x := oM (some i)) (y := oM (some i)) (fun Q q => e_m1 (c := 1) (f := f_Rule_broken_at) (fun Q q => e_v rfl q) rfl (fun Q q => e_v rfl q) (broken_ok gm hw l6 hr (by rw [hI]; exact q))) (fun Q q => e_v rfl q) (fair_ok (some i) q)) (fun _ Q q => ?_) q) q
      exact e_o1 (p := .isF) (.bl false) (fun Q q => e_m1 (c := 1) (f := f_Rule_keeps) (fun Q q => e_v rfl q) rfl (fun Q q => e_v rfl q) (keeps_ok gm hw l6 hr (by rw [hI]; exact q))) q
    | some s =>
      have hs : s = (lp w (row.take (i + 1))).length := by
        unfold nxL at hn2
        split at hn2
        · cases hn2
        · cases hn2; rfl
      refine w_no (fun Q q => e_isN (o := some s) (fun Q q => e_v rfl q) q) (w_nil (C := Cw FT (k + 4)) (w_nil (C := Cw FT (k + 4)) ⟨_, _, by rw [← hs]; rfl, ?_⟩))
      rw [← hs]
      exact hI
  · rintro e ⟨z6, z7, rfl, hI⟩
    rw [List.drop_length] at hI
    have hI : brk w 0 0 row = none := hI
    refine w_ret (d := .bl true) (fun Q q => e_and2 (p := true) (q := true) (fun Q q => e_isN (o := none) (fun Q q => e_m1 (c := 1) (f := f_Rule_broken_at) (fun Q q => e_v rfl q) rfl (fun Q q => e_v rfl q) (broken_ok gm hw l6 hr (by rw [hI]; exact q))) q) (fun _ Q q => ?_) q) q
    exact e_o1 (p := .isT) (.bl true) (fun Q q => e_m1 (c := 1) (f := f_Rule_keeps) (fun Q q => e_v rfl q) rfl (fun Q q => e_v rfl q) (keeps_ok gm hw l6 hr (by rw [hI]; exact q))) q
end
end Law

set_option maxRecDepth 100000
set_option maxHeartbeats 1000000
namespace Law
open PySem L2 Pv
local macro_rules | `(tactic| walk_at "pv") => `(tactic| simp only [E, Es, p1, p2, b2W, m1W, isS, slW, onI, onB, okEq_int_t, eqv_int, true_and, List.getElem?_cons_zero, List.getElem?_cons_succ, List.set_cons_zero, List.set_cons_succ, if_true, if_false, Bool.false_eq_true])
local macro_rules | `(tactic| walk_at "sv") => `(tactic| simp only [List.set_cons_zero, List.set_cons_succ])
theorem ne_S {l : List Nat} (h : okL l) {Q : D → Prop} (q : Q (.bl false)) : p2 .ne (.str (S l)) (.str (S l)) Q := ⟨okEq_S h h, by rw [eqv_S, decide_eq_true rfl]; exact q⟩
theorem mark_at {ms : List Nat} (gm : GM ms) (z : Int) {j : Nat} {C : CallW} {env : Pv.Env} {e : CE} (e1 : env[j]? = some (some (.str (S ms)))) (he : ∀ Q : D → Prop, Q (.int z) → E C e env Q) {Q : D → Prop} (q : Q (.str (S [ms.getD (z.fmod ms.length).toNat 0]))) : E C (.o2 .idx (.var j) (.o2 .mod e (.o1 .len (.var j)))) env Q := by
  obtain ⟨f1, f2, f3, f4⟩ := gm.facts
  obtain ⟨i, ei, li⟩ := fmod_range z (ms.length : Int) (by omega)
  rw [ei, Int.toNat_natCast] at q
  exact e_idxS (j := i) (fun Q q => e_v e1 q) (fun Q q => e_o2 (.int z) (ni ms.length) he (fun Q q => e_lenS (fun Q q => e_v e1 q) (by omega) rfl q) ⟨by omega, by rw [ei]; exact q⟩) (by omega) (getD_nat (by omega)) q
theorem mark_mem {ms : List Nat} (gm : GM ms) (z : Int) : ms.getD (z.fmod ms.length).toNat 0 ∈ ms := by
  obtain ⟨f1, f2, f3, f4⟩ := gm.facts
  obtain ⟨j, ej, lj⟩ := fmod_range z (ms.length : Int) (by omega)
  rw [ej, Int.toNat_natCast]
  exact List.mem_of_getElem? (getD_nat (by omega))
theorem word_ok {ms : List Nat} (gm : GM ms) (ns : List Int) {k : Nat} {Q : D → Prop} (q : ∀ w : List Nat, (∀ c ∈ w, c ∈ ms) → 1 ≤ w.length ∧ w.length ≤ 6 → Q (.str (S w))) : Cw FT (k + 2) f_law_word [.lst (ns.map D.int), .str (S ms)] Q := by
  refine C_law_word ?_
  unfold b_law_word
  obtain ⟨f1, f2, f3, f4⟩ := gm.facts
  have cl : ∀ (j : Nat) {env : Pv.Env} {Q : D → Prop} {a : CE}, env[0]? = some (some (.lst (ns.map D.int))) → (∀ Q : D → Prop, Q (ni j) → E (Cw FT (k + 1)) a env Q) → Q (.int (cell ns j)) → E (Cw FT (k + 1)) (.call f_law_cell_at (.cons (.var 0) (.cons a .nil))) env Q := fun j env Q a he ha q => e_c2 (x := .lst (ns.map D.int)) (y := .int (j : Nat)) (fun Q q => e_v he q) ha (cell_ok ns j rfl q)
  obtain ⟨s, es, ls⟩ := fmod_range (cell ns 1) 6 (by decide)
  refine w_asg (d := ni (s + 1)) (fun Q q => e_o2 (.int 1) (ni s) (fun Q q => e_int q) (fun Q q => e_o2 (.int (cell ns 1)) (.int 6) (fun Q q => cl 1 rfl (fun Q q => e_int q) q) (fun Q q => e_int q) ⟨by decide, by rw [es]; exact q⟩) (by show Q (.int (1 + (s : Int))); rw [show (1 : Int) + (s : Int) = ((s + 1 : Nat) : Int) by omega]; exact q)) ?_
  walk_at "sv"
  let w0 : List Nat := (List.range (s + 1)).map fun j => ms.getD ((cell ns (2 + j)).fmod ms.length).toNat 0
  have l0 : w0.length = s + 1 := by simp [w0]
  have m0 : ∀ c ∈ w0, c ∈ ms := fun c hc => by
    obtain ⟨j, _, rfl⟩ := List.mem_map.mp hc
    exact mark_mem gm _
  refine w_asg (d := .str (S w0)) (fun Q q => e_join1 (cs := w0) (fun Q q => ?_) (by omega) q) ?_
  · refine e_rngF (s + 1) (fun j => D.str (S [ms.getD ((cell ns (2 + j)).fmod ms.length).toNat 0])) (fun Q q => e_v rfl q) (by omega) (fun j hj R hR => ?_) (by rw [List.map_map] at q; exact q)
    walk_at "sv"
    refine mark_at gm (cell ns (2 + j)) rfl (fun Q q => ?_) hR
    refine cl (2 + j) rfl (fun Q q => e_o2 (.int 2) (ni j) (fun Q q => e_int q) (fun Q q => e_v rfl q) ?_) q
    show Q (.int (2 + (j : Int)))
    rw [show (2 : Int) + (j : Int) = ((2 + j : Nat) : Int) by omega]
    exact q
  walk_at "sv"
  obtain ⟨t, et, lt⟩ := fmod_range ((cell ns 1).fdiv 6) 3 (by decide)
  refine w_iteJ (b := decide ((t : Int) = 1)) (fun e => ∃ (w : List Nat) (z4 z5 : Option D), (∀ c ∈ w, c ∈ ms) ∧ (1 ≤ w.length ∧ w.length ≤ 6) ∧ e = [some (.lst (ns.map D.int)), some (.str (S ms)), some (ni (s + 1)), some (.str (S w)), z4, z5]) (fun Q q => e_o2 (ni t) (.int 1) (fun Q q => e_o2 (.int ((cell ns 1).fdiv 6)) (.int 3) (fun Q q => e_o2 (.int (cell ns 1)) (.int 6) (fun Q q => cl 1 rfl (fun Q q => e_int q) q) (fun Q q => e_int q) ⟨divOk_s (by decide) (by decide), q⟩) (fun Q q => e_int q) ⟨by decide, by rw [et]; exact q⟩) (fun Q q => e_int q) (p2_eq_int.mpr q)) (fun _ => ?_) (fun _ => w_nil (C := Cw FT (k + 1)) ⟨w0, _, _, m0, by omega, rfl⟩) ?_
  · generalize hh : w0.take ((s + 1 + 1) / 2) = h
    have lh : h.length = (s + 1 + 1) / 2 := by rw [← hh, List.length_take, l0]; omega
    refine w_asg (d := .str (S h)) (fun Q q => e_cutToS (fun Q q => e_v rfl q) (fun Q q => e_o2 (ni (s + 1 + 1)) (.int 2) (fun Q q => e_o2 (ni (s + 1)) (.int 1) (fun Q q => e_v rfl q) (fun Q q => e_int q) q) (fun Q q => e_int q) ⟨divOk_s (by decide) (by decide), by rw [show ((s + 1 + 1 : Nat) : Int).fdiv 2 = (((s + 1 + 1) / 2 : Nat) : Int) from fdiv_nat _ 2]; exact q⟩) (by omega) (by rw [hh]; exact q)) ?_
    walk_at "sv"
    have lw : ((h ++ h).take (s + 1)).length = s + 1 := by rw [List.length_take, List.length_append, lh]; omega
    refine w_asg (d := .str (S ((h ++ h).take (s + 1)))) (fun Q q => e_cutToS (l := h ++ h) (fun Q q => e_addT (fun Q q => e_v rfl q) (fun Q q => e_v rfl q) (by omega) q) (fun Q q => e_v rfl q) (by rw [List.length_append]; omega) q) (w_nil (C := Cw FT (k + 1)) ⟨(h ++ h).take (s + 1), _, _, fun c hc => ?_, by omega, rfl⟩)
    have hc := List.mem_of_mem_take hc
    rw [List.mem_append, or_self, ← hh] at hc
    exact m0 c (List.mem_of_mem_take hc)
  rintro e ⟨w, z4, z5, h1, h2, rfl⟩
  exact w_ret (d := .str (S w)) (fun Q q => e_v rfl q) (q w h1 h2)
def pc (ms w : List Nat) (n : Int) : List Nat := if n.fmod 3 = 0 then [ms.getD ((n.fdiv 3).fmod ms.length).toNat 0] else if n.fmod 3 = 1 then w.take ((n.fdiv 3).fmod 6).toNat else (w.drop ((n.fdiv 3).fmod w.length).toNat).take (1 + ((n.fdiv 18).fmod 3).toNat)
theorem piece_ok {ms w : List Nat} (gm : GM ms) (l6 : 1 ≤ w.length ∧ w.length ≤ 6) (n : Int) {k : Nat} {Q : D → Prop} (q : Q (.str (S (pc ms w n)))) : Cw FT (k + 1) f_law_piece [.str (S ms), .str (S w), .int n] Q := by
  refine C_law_piece ?_
  unfold b_law_piece
  unfold pc at q
  have m3 : ∀ (j : Int) {C : CallW} {env : Pv.Env}, env[2]? = some (some (.int n)) → ∀ Q : D → Prop, Q (.bl (decide (n.fmod 3 = j))) → E C (.o2 .eq (.o2 .mod (.var 2) (.int 3)) (.int j)) env Q := fun j {C env} e2 Q q => e_o2 (.int (n.fmod 3)) (.int j) (fun Q q => e_o2 (.int n) (.int 3) (fun Q q => e_v e2 q) (fun Q q => e_int q) ⟨by decide, q⟩) (fun Q q => e_int q) (p2_eq_int.mpr q)
  have dv : ∀ (j : Int) {C : CallW} {env : Pv.Env}, 0 < j ∧ j < 100 → env[2]? = some (some (.int n)) → ∀ Q : D → Prop, Q (.int (n.fdiv j)) → E C (.o2 .fdiv (.var 2) (.int j)) env Q := fun j {C env} hj e2 Q q => e_o2 (.int n) (.int j) (fun Q q => e_v e2 q) (fun Q q => e_int q) ⟨divOk_s (by omega) (by omega), q⟩
  refine w_ite (b := decide (n.fmod 3 = 0)) (m3 0 rfl) (fun e => ?_) fun e => w_nil (show Pv.W (Cw FT k) _ _ _ from ?_)
  · rw [if_pos (of_decide_eq_true e)] at q
    exact w_ret (d := .str (S [ms.getD ((n.fdiv 3).fmod ms.length).toNat 0])) (fun Q q => mark_at gm (n.fdiv 3) rfl (dv 3 (by decide) rfl) q) q
  rw [if_neg (of_decide_eq_false e)] at q
  refine w_ite (b := decide (n.fmod 3 = 1)) (m3 1 rfl) (fun e => ?_) fun e => w_nil (show Pv.W (Cw FT k) _ _ _ from ?_)
  · rw [if_pos (of_decide_eq_true e)] at q
    obtain ⟨j, ej, lj⟩ := fmod_range (n.fdiv 3) 6 (by decide)
    rw [ej, Int.toNat_natCast] at q
    exact w_ret (d := .str (S (w.take j))) (fun Q q => e_cutToS (fun Q q => e_v rfl q) (fun Q q => e_o2 (.int (n.fdiv 3)) (.int 6) (dv 3 (by decide) rfl) (fun Q q => e_int q) ⟨by decide, by rw [ej]; exact q⟩) (by omega) q) q
  rw [if_neg (of_decide_eq_false e)] at q
  obtain ⟨j, ej, lj⟩ := fmod_range (n.fdiv 3) (w.length : Int) (by omega)
  obtain ⟨u, eu, lu⟩ := fmod_range (n.fdiv 18) 3 (by decide)
  rw [ej, Int.toNat_natCast, eu, Int.toNat_natCast] at q
  refine w_ret (d := .str (S ((w.drop j).take (1 + u)))) (fun Q q => ?_) q
  refine e_cutToS (l := w.drop j) (fun Q q => e_cutFS (fun Q q => e_v rfl q) (fun Q q => e_o2 (.int (n.fdiv 3)) (ni w.length) (dv 3 (by decide) rfl) (fun Q q => e_lenS (fun Q q => e_v rfl q) (by omega) rfl q) ⟨by omega, by rw [ej]; exact q⟩) (by omega) q) (fun Q q => ?_) (by rw [List.length_drop]; omega) q
  refine e_o2 (.int 1) (ni u) (fun Q q => e_int q) (fun Q q => e_o2 (.int (n.fdiv 18)) (.int 3) (dv 18 (by decide) rfl) (fun Q q => e_int q) ⟨by decide, by rw [eu]; exact q⟩) ?_
  show Q (.int (1 + (u : Int)))
  rw [show (1 : Int) + (u : Int) = ((1 + u : Nat) : Int) by omega]
  exact q
theorem pc_fact {ms w : List Nat} (gm : GM ms) (hw : ∀ c ∈ w, c ∈ ms) (l6 : 1 ≤ w.length ∧ w.length ≤ 6) (n : Int) : (∀ c ∈ pc ms w n, c ∈ ms) ∧ (pc ms w n).length ≤ 6 := by
  unfold pc
  split
  · exact ⟨fun c hc => by rw [List.mem_singleton.mp hc]; exact mark_mem gm _, by simp⟩
  · split
    · exact ⟨fun c hc => hw c (List.mem_of_mem_take hc), by rw [List.length_take]; omega⟩
    · exact ⟨fun c hc => hw c (List.mem_of_mem_drop (List.mem_of_mem_take hc)), by rw [List.length_take, List.length_drop]; omega⟩
theorem law_pure (ns : List Int) (hl : ns.length ≤ 63) : Cw FT 6 f_law [scr ns] fun d => d = .bl true := by
  refine C_law ?_
  unfold b_law scr
  have cl : ∀ (j : Nat) {env : Pv.Env} {k : Nat} {Q : D → Prop} {a : CE}, env[0]? = some (some (.lst (ns.map D.int))) → (∀ Q : D → Prop, Q (ni j) → E (Cw FT (k + 1)) a env Q) → Q (.int (cell ns j)) → E (Cw FT (k + 1)) (.call f_law_cell_at (.cons (.var 0) (.cons a .nil))) env Q := fun j env k Q a he ha q => e_c2 (x := .lst (ns.map D.int)) (y := .int (j : Nat)) (fun Q q => e_v he q) ha (cell_ok ns j rfl q)
  refine w_asgP (P := fun d => ∃ ms, GM ms ∧ d = .str (S ms)) (fun Q q => e_c1 (x := .int (cell ns 0)) (fun Q q => cl 0 rfl (fun Q q => e_int q) q) (marks_ok _ fun ms h => q _ ⟨ms, h, rfl⟩)) ?_
  rintro d ⟨ms, gm, rfl⟩
  walk_at "sv"
  refine w_asgP (P := fun d => ∃ w : List Nat, (∀ c ∈ w, c ∈ ms) ∧ (1 ≤ w.length ∧ w.length ≤ 6) ∧ d = .str (S w)) (fun Q q => e_c2 (x := .lst (ns.map D.int)) (y := .str (S ms)) (fun Q q => e_v rfl q) (fun Q q => e_v rfl q) (word_ok (k := 3) gm ns fun w h1 h2 => q _ ⟨w, h1, h2, rfl⟩)) ?_
  rintro d ⟨w, hw, l6, rfl⟩
  walk_at "sv"
  have okw : okL w := fun c hc => gm.okL c (hw c hc)
  refine w_asg (d := gp ms w) (fun Q q => ?_) ?_
  · rw [E]
    exact es1 (x := .str (S ms)) (fun Q q => e_v rfl q) (es1 (x := .str (S w)) (fun Q q => e_v rfl q) (es0 (init_ok (k := 2) gm hw l6 q)))
  walk_at "sv"
  refine w_no (fun Q q => e_or2 (p := false) (q := false) (fun Q q => e_o2 (.str (S ms)) (.str (S ms)) (fun Q q => e_fld (c := 1) (i := 0) (fun Q q => e_v rfl q) (by simp) rfl q) (fun Q q => e_v rfl q) (ne_S gm.okL q)) (fun _ Q q => ?_) q) (w_nil (C := Cw FT 5) (show Pv.W (Cw FT 5) _ _ _ from ?_))
  · exact e_or2 (p := false) (q := false) (fun Q q => e_o2 (.str (S w)) (.str (S w)) (fun Q q => e_fld (c := 1) (i := 1) (fun Q q => e_v rfl q) (by simp) rfl q) (fun Q q => e_v rfl q) (ne_S okw q)) (fun _ Q q => e_not1 (p := true) (fun Q q => e_iscS (c' := 1) (fun Q q => e_v rfl q) (by simp) q) q) q
  refine w_asg (d := .str (S [])) (fun Q q => e_strS (l := []) (by decide +kernel) q) ?_
  walk_at "sv"
  refine w_asg (d := .str (S [])) (fun Q q => e_strS (l := []) (by decide +kernel) q) ?_
  walk_at "sv"
  let cs : List Int := (ns.take 108).drop 8
  have lcs : cs.length ≤ 60 := by simp only [cs, List.length_drop, List.length_take]; omega
  refine w_forL (inv := []) D.int cs (fun i e => ∃ (r z : List Nat) (z6 z7 : Option D), (∀ x ∈ r, x ∈ ms) ∧ (∀ x ∈ z, x ∈ ms) ∧ r.length ≤ 6 * i ∧ z.length ≤ 6 * i ∧ e = [some (.lst (ns.map D.int)), some (.str (S ms)), some (.str (S w)), some (gp ms w), some (.str (S r)), some (.str (S z)), z6, z7]) (fun Q q => ?_) ⟨[], [], _, _, by simp, by simp, by simp, by simp, rfl⟩ ?_ ?_
  · refine e_cutG (xs := ns.map D.int) (i := 8) (j := 108) (fun Q q => e_v rfl q) (fun Q q => e_int q) (fun Q q => e_int q) ?_
    rw [← List.map_take, ← List.map_drop]
    exact q
  · rintro i n e hn ⟨r, z, z6, z7, hr, hz, lr, lz, rfl⟩
    have hi := (List.getElem?_eq_some_iff.mp hn).1
    refine (show Pv.W _ _ _ _ from ?_)
    walk_at "sv"
    obtain ⟨p1, p2⟩ := pc_fact gm hw l6 n
    refine w_asg (d := .str (S (r ++ pc ms w n))) (fun Q q => e_addT (fun Q q => e_v rfl q) (fun Q q => e_c3 (x := .str (S ms)) (y := .str (S w)) (z := .int n) (fun Q q => e_v rfl q) (fun Q q => e_v rfl q) (fun Q q => e_v rfl q) (piece_ok gm l6 n q)) (by omega) q) ?_
    walk_at "sv"
    obtain ⟨q1, q2⟩ := pc_fact gm hw l6 (n.fdiv 2)
    generalize hP : pc ms w (n.fdiv 2) = P at q1 q2
    have hr2 : ∀ x ∈ r ++ pc ms w n, x ∈ ms := fun x hx => (List.mem_append.mp hx).elim (hr x) (p1 x)
    have lr2 : (r ++ pc ms w n).length ≤ 6 * (i + 1) := by rw [List.length_append]; omega
    generalize r ++ pc ms w n = r' at hr2 lr2
    refine w_for (inv := []) (P.map fun c => D.str (S [c])) (fun j e => ∃ (z' : List Nat) (z7 : Option D), (∀ x ∈ z', x ∈ ms) ∧ z'.length ≤ z.length + j ∧ e = [some (.lst (ns.map D.int)), some (.str (S ms)), some (.str (S w)), some (gp ms w), some (.str (S r')), some (.str (S z')), some (.int n), z7]) (it_S fun Q q => e_c3 (x := .str (S ms)) (y := .str (S w)) (z := .int (n.fdiv 2)) (fun Q q => e_v rfl q) (fun Q q => e_v rfl q) (fun Q q => e_o2 (.int n) (.int 2) (fun Q q => e_v rfl q) (fun Q q => e_int q) ⟨divOk_s (by decide) (by decide), q⟩) (piece_ok gm l6 (n.fdiv 2) (by rw [hP]; exact q))) ⟨z, _, hz, by omega, rfl⟩ ?_ ?_
    · rintro j d e hd ⟨z', z7, hz', lz', rfl⟩
      obtain ⟨c, hc, rfl⟩ := List.mem_map.mp (List.mem_of_getElem? hd)
      have hj := (List.getElem?_eq_some_iff.mp hd).1
      rw [List.length_map] at hj
      refine (show Pv.W _ _ _ _ from ?_)
      walk_at "sv"
      have add : ∀ {C : CallW} {env : Pv.Env}, env[5]? = some (some (.str (S z'))) → env[7]? = some (some (.str (S [c]))) → ∀ Q : D → Prop, Q (.str (S (z' ++ [c]))) → E C (.o2 .add (.var 5) (.var 7)) env Q := fun {C env} e5 e7 Q q => e_addT (fun Q q => e_v e5 q) (fun Q q => e_v e7 q) (by rw [List.length_singleton]; omega) q
      refine w_ite (b := !decide (w <:+ z' ++ [c])) (fun Q q => e_not1 (p := decide (w <:+ z' ++ [c])) (fun Q q => e_ew (add rfl rfl) (fun Q q => e_v rfl q) q) q) (fun _ => ?_) fun _ => w_nil (C := Cw FT 5) (w_nil (C := Cw FT 5) ⟨z', _, hz', by omega, rfl⟩)
      refine w_asg (d := .str (S (z' ++ [c]))) (add rfl rfl) (w_nil (C := Cw FT 5) (w_nil (C := Cw FT 5) ⟨z' ++ [c], _, fun x hx => ?_, by rw [List.length_append, List.length_singleton]; omega, rfl⟩))
      rcases List.mem_append.mp hx with hx | hx
      · exact hz' x hx
      · rw [List.mem_singleton.mp hx]; exact q1 c hc
    · rintro e ⟨z', z7, hz', lz', rfl⟩
      rw [List.length_map] at lz'
      exact w_nil (C := Cw FT 5) ⟨r', z', _, _, hr2, hz', lr2, by omega, rfl⟩
  · rintro e ⟨r, z, z6, z7, hr, hz, lr, lz, rfl⟩
    obtain ⟨w', x, ew⟩ := snoc_of (l := w) (by intro e; rw [e] at l6; simp at l6)
    have kp : ∀ {row : List Nat} {env : Pv.Env} {a : CE}, (∀ x ∈ row, x ∈ ms) → env[3]? = some (some (gp ms w)) → (∀ Q : D → Prop, Q (.str (S row)) → E (Cw FT 5) a env Q) → ∀ Q : D → Prop, Q (.bl (brk w 0 0 row).isNone) → E (Cw FT 5) (.meth "keeps" [(1, 7)] (.var 3) (.cons a .nil)) env Q := fun {row env a} h e3 ha Q q => e_m1 (c := 1) (f := f_Rule_keeps) (fun Q q => e_v e3 q) rfl ha (keeps_ok (k := 1) gm hw l6 h q)
    have k1 : (brk w 0 0 w').isNone = true := by
      have := brk_none (w := w) (rest := w') (p := []) (i := 0) fun j a b e => by
        have := (lp_suf w ([] ++ w'.take j)).length_le
        rw [e, List.nil_append, List.length_take, ew, List.length_append, List.length_singleton] at this
        omega
      rw [show brk w 0 0 w' = none from this]
      rfl
    have k2 : (brk w 0 0 w).isNone = false := by
      have := brk_some (w := w) (rest := w) (p := []) (i := 0) (by intro e; rw [e] at l6; simp at l6) (by rw [List.nil_append]; exact lp_self List.prefix_rfl)
      have this : (brk w 0 0 w).isSome = true := this
      cases h : brk w 0 0 w with
      | none => rw [h] at this; cases this
      | some _ => rfl
    have hw' : ∀ c ∈ w', c ∈ ms := fun c hc => hw c (by rw [ew]; simp [hc])
    have lw' : w'.length ≤ 6 := by rw [ew, List.length_append] at l6; omega
    refine w_no (fun Q q => e_or2 (p := false) (q := false) (fun Q q => ?_) (fun _ Q q => kp hw rfl (fun Q q => e_v rfl q) Q (by rw [k2]; exact q)) q) (w_nil (C := Cw FT 5) (show Pv.W (Cw FT 5) _ _ _ from ?_))
    · refine e_and2 (p := decide (1 < w.length)) (q := false) (fun Q q => e_o2 (ni w.length) (.int 1) (fun Q q => e_lenS (fun Q q => e_v rfl q) (by omega) rfl q) (fun Q q => e_int q) (by show Q (.bl (decide ((w.length : Int) > 1))); rw [show decide ((w.length : Int) > 1) = decide (1 < w.length) from decide_eq_decide.mpr (by omega)]; exact q)) (fun _ Q q => e_not1 (p := true) (fun Q q => kp hw' rfl (fun Q q => e_cutLast (r := w') (x := x) (fun Q q => by rw [← ew] at q; exact e_v rfl q) (by omega) q) Q (by rw [k1]; exact q)) q) (by rw [Bool.and_false]; exact q)
    have gn : ∀ {row : List Nat} {env : Pv.Env} {a : CE}, (∀ x ∈ row, x ∈ ms) → row.length ≤ 5000 → env[2]? = some (some (.str (S w))) → env[3]? = some (some (gp ms w)) → (∀ Q : D → Prop, Q (.str (S row)) → E (Cw FT 5) a env Q) → ∀ Q : D → Prop, Q (.bl true) → E (Cw FT 5) (.call f_law_gone (.cons (.var 3) (.cons a (.cons (.var 2) .nil)))) env Q := fun {row env a} h1 h2 e2 e3 ha Q q =>
      e_c3 (fun Q q => e_v e3 q) ha (fun Q q => e_v e2 q) (gone_ok (k := 0) gm hw l6 h1 h2 q)
    refine w_no (fun Q q => e_or2 (p := false) (q := false) (fun Q q => e_not1 (p := true) (gn hr (by omega) rfl rfl fun Q q => e_v rfl q) q) (fun _ Q q => e_not1 (p := true) (gn hz (by omega) rfl rfl fun Q q => e_v rfl q) q) q) (w_nil (C := Cw FT 5) (show Pv.W (Cw FT 5) _ _ _ from ?_))
    refine w_ret (d := .bl true) (gn (row := z ++ w ++ r) (fun x hx => ?_) (by rw [List.length_append, List.length_append]; omega) rfl rfl fun Q q => e_addT (x := z ++ w) (y := r) (fun Q q => e_addT (fun Q q => e_v rfl q) (fun Q q => e_v rfl q) (by omega) q) (fun Q q => e_v rfl q) (by rw [List.length_append]; omega) q) rfl
    rcases List.mem_append.mp hx with hx | hx
    · exact (List.mem_append.mp hx).elim (hz x) (hw x)
    · exact hr x hx
end Law

set_option maxRecDepth 100000
set_option maxHeartbeats 1000000
namespace Law
open PySem L2 Pv
theorem all_mk {w : World} {K : PySem.W.Frag} {h : Heap} {mg : Str → Option Value} {fa f0 f1 f2 f3 f4 f5 f6 f7 f8 f9 f10 f11 f12 f13 f14 f15 f16 f17 f18 C0 C1 : Addr} (X : K.In h) (G : h.Ns mainGlobals mg) (hfa : mg "law" = some (.ref fa))
    {od0 an0 od1 an1 od2 an2 od3 an3 od4 an4 od5 an5 od6 an6 od7 an7 od8 an8 od9 an9 od10 an10 od11 an11 od12 an12 od13 an13 od14 an14 od15 an15 od16 an16 od17 an17 od18 an18 : Option Addr} {sl0 sl1 sl2 sl3 sl4 sl5 sl6 sl7 sl8 sl9 sl10 sl11 sl12 sl13 sl14 sl15 sl16 sl17 sl18 : Array (Option Value)} {oc0 kV0 dc0 pm0 cd0 ct0 oc1 kV1 dc1 pm1 cd1 ct1 oc2 kV2 dc2 pm2 cd2 ct2 oc3 kV3 dc3 pm3 cd3 ct3 oc4 kV4 dc4 pm4 cd4 ct4 oc5 kV5 dc5 pm5 cd5 ct5 oc6 kV6 dc6 pm6 cd6 ct6 oc7 kV7 dc7 pm7 cd7 ct7 oc8 kV8 dc8 pm8 cd8 ct8 oc9 kV9 dc9 pm9 cd9 ct9 oc10 kV10 dc10 pm10 cd10 ct10 oc11 kV11 dc11 pm11 cd11 ct11 oc12 kV12 dc12 pm12 cd12 ct12 oc13 kV13 dc13 pm13 cd13 ct13 oc14 kV14 dc14 pm14 cd14 ct14 oc15 kV15 dc15 pm15 cd15 ct15 oc16 kV16 dc16 pm16 cd16 ct16 oc17 kV17 dc17 pm17 cd17 ct17 oc18 kV18 dc18 pm18 cd18 ct18 : Value}
    (ca0 : PySem.W.nsIn K mainGlobals "Rule" = some (some (.ref C0))) (pg0 : PySem.W.plainGet K C0 Str.empty = true) (hd0 : PySem.W.hasDictIn K C0 = true) (po0 : PySem.W.plainOver K C0 = true) (sa0 : PySem.W.findIn K (.ref C0) "__setattr__" = some (some (.builtin "object.__setattr__"))) (mk0 : PySem.W.makesIn K C0 = true) (kc0 : PySem.W.keepIn K (.ref C0) = true)
    (ica0 : PySem.W.findIn K (.ref C0) "__class__" = some (some (.builtin "object.__class__"))) (icb0 : PySem.W.specialIn K (.builtin "object.__class__") "__get__" = some (some (.builtin "getset_descriptor.__get__"))) (icc0 : PySem.W.takesIn K (.builtin "object.__class__") = some true) (icd0 : PySem.W.mroIn K C0 (.type "object") = some true)
    (nf0_0 : PySem.W.findIn K (.ref C0) "marks" = some none)
    (ca1 : PySem.W.nsIn K mainGlobals "Never" = some (some (.ref C1))) (pg1 : PySem.W.plainGet K C1 Str.empty = true) (hd1 : PySem.W.hasDictIn K C1 = true) (po1 : PySem.W.plainOver K C1 = true) (sa1 : PySem.W.findIn K (.ref C1) "__setattr__" = some (some (.builtin "object.__setattr__"))) (mk1 : PySem.W.makesIn K C1 = true) (kc1 : PySem.W.keepIn K (.ref C1) = true)
    (ica1 : PySem.W.findIn K (.ref C1) "__class__" = some (some (.builtin "object.__class__"))) (icb1 : PySem.W.specialIn K (.builtin "object.__class__") "__get__" = some (some (.builtin "getset_descriptor.__get__"))) (icc1 : PySem.W.takesIn K (.builtin "object.__class__") = some true) (icd1 : PySem.W.mroIn K C1 (.type "object") = some true)
    (nf1_0 : PySem.W.findIn K (.ref C1) "marks" = some none)
    (nf1_1 : PySem.W.findIn K (.ref C1) "word" = some none)
    (ty0 : PySem.W.typeIn K (.ref C0) = some (.type "type"))
    (sb1_1 : PySem.W.subIn K (.ref C1) (.ref C1) = some true)
    (sb1_0 : PySem.W.subIn K (.ref C1) (.ref C0) = some true)
    (sn0_1 : PySem.W.subIn K (.ref C0) (.ref C1) = some false)
    (a0 : PySem.W.nsIn K mainGlobals "marks_good" = some (some (.ref f0))) (l0 : K.lookup f0 = some ⟨oc0, od0, .func (PySem.W.fnOf "marks_good" "marks_good" (defArgs s_marks_good) (defBody s_marks_good) (defScope s_marks_good) .none kV0 dc0 pm0 an0 cd0 ct0), sl0⟩) (c0 : PySem.W.codeIn K cd0 "marks_good" = true) (k0 : PySem.W.keepIn K (.ref f0) = true)
    (a1 : PySem.W.nsIn K mainGlobals "is_mark" = some (some (.ref f1))) (l1 : K.lookup f1 = some ⟨oc1, od1, .func (PySem.W.fnOf "is_mark" "is_mark" (defArgs s_is_mark) (defBody s_is_mark) (defScope s_is_mark) .none kV1 dc1 pm1 an1 cd1 ct1), sl1⟩) (c1 : PySem.W.codeIn K cd1 "is_mark" = true) (k1 : PySem.W.keepIn K (.ref f1) = true)
    (a2 : PySem.W.findIn K (.ref C0) "__init__" = some (some (.ref f2))) (l2 : K.lookup f2 = some ⟨oc2, od2, .func (PySem.W.fnOf "__init__" "Rule.__init__" (defArgs s_Rule_init) (defBody s_Rule_init) (defScope s_Rule_init) .none kV2 dc2 pm2 an2 cd2 ct2), sl2⟩) (c2 : PySem.W.codeIn K cd2 "Rule.__init__" = true) (k2 : PySem.W.keepIn K (.ref f2) = true)
    (fi2 : PySem.W.isFn K (.ref f2) = true)
    (a3 : PySem.W.findIn K (.ref C0) "begin" = some (some (.ref f3))) (l3 : K.lookup f3 = some ⟨oc3, od3, .func (PySem.W.fnOf "begin" "Rule.begin" (defArgs s_Rule_begin) (defBody s_Rule_begin) (defScope s_Rule_begin) .none kV3 dc3 pm3 an3 cd3 ct3), sl3⟩) (c3 : PySem.W.codeIn K cd3 "Rule.begin" = true) (k3 : PySem.W.keepIn K (.ref f3) = true)
    (fi3 : PySem.W.isFn K (.ref f3) = true)
    (a4 : PySem.W.findIn K (.ref C0) "led_to" = some (some (.ref f4))) (l4 : K.lookup f4 = some ⟨oc4, od4, .func (PySem.W.fnOf "led_to" "Rule.led_to" (defArgs s_Rule_led_to) (defBody s_Rule_led_to) (defScope s_Rule_led_to) .none kV4 dc4 pm4 an4 cd4 ct4), sl4⟩) (c4 : PySem.W.codeIn K cd4 "Rule.led_to" = true) (k4 : PySem.W.keepIn K (.ref f4) = true)
    (fi4 : PySem.W.isFn K (.ref f4) = true)
    (a5 : PySem.W.findIn K (.ref C0) "step" = some (some (.ref f5))) (l5 : K.lookup f5 = some ⟨oc5, od5, .func (PySem.W.fnOf "step" "Rule.step" (defArgs s_Rule_step) (defBody s_Rule_step) (defScope s_Rule_step) .none kV5 dc5 pm5 an5 cd5 ct5), sl5⟩) (c5 : PySem.W.codeIn K cd5 "Rule.step" = true) (k5 : PySem.W.keepIn K (.ref f5) = true)
    (fi5 : PySem.W.isFn K (.ref f5) = true)
    (a6 : PySem.W.findIn K (.ref C0) "broken_at" = some (some (.ref f6))) (l6 : K.lookup f6 = some ⟨oc6, od6, .func (PySem.W.fnOf "broken_at" "Rule.broken_at" (defArgs s_Rule_broken_at) (defBody s_Rule_broken_at) (defScope s_Rule_broken_at) .none kV6 dc6 pm6 an6 cd6 ct6), sl6⟩) (c6 : PySem.W.codeIn K cd6 "Rule.broken_at" = true) (k6 : PySem.W.keepIn K (.ref f6) = true)
    (fi6 : PySem.W.isFn K (.ref f6) = true)
    (a7 : PySem.W.findIn K (.ref C0) "keeps" = some (some (.ref f7))) (l7 : K.lookup f7 = some ⟨oc7, od7, .func (PySem.W.fnOf "keeps" "Rule.keeps" (defArgs s_Rule_keeps) (defBody s_Rule_keeps) (defScope s_Rule_keeps) .none kV7 dc7 pm7 an7 cd7 ct7), sl7⟩) (c7 : PySem.W.codeIn K cd7 "Rule.keeps" = true) (k7 : PySem.W.keepIn K (.ref f7) = true)
    (fi7 : PySem.W.isFn K (.ref f7) = true)
    (a8 : PySem.W.findIn K (.ref C1) "__init__" = some (some (.ref f8))) (l8 : K.lookup f8 = some ⟨oc8, od8, .func (PySem.W.fnOf "__init__" "Never.__init__" (defArgs s_Never_init) (defBody s_Never_init) (defScope s_Never_init) .none kV8 dc8 pm8 an8 cd8 ct8), sl8⟩) (c8 : PySem.W.codeIn K cd8 "Never.__init__" = true) (k8 : PySem.W.keepIn K (.ref f8) = true)
    (fi8 : PySem.W.isFn K (.ref f8) = true)
    (a9 : PySem.W.findIn K (.ref C1) "led_to" = some (some (.ref f9))) (l9 : K.lookup f9 = some ⟨oc9, od9, .func (PySem.W.fnOf "led_to" "Never.led_to" (defArgs s_Never_led_to) (defBody s_Never_led_to) (defScope s_Never_led_to) .none kV9 dc9 pm9 an9 cd9 ct9), sl9⟩) (c9 : PySem.W.codeIn K cd9 "Never.led_to" = true) (k9 : PySem.W.keepIn K (.ref f9) = true)
    (fi9 : PySem.W.isFn K (.ref f9) = true)
    (a10 : PySem.W.nsIn K mainGlobals "_law_cell_at" = some (some (.ref f10))) (l10 : K.lookup f10 = some ⟨oc10, od10, .func (PySem.W.fnOf "_law_cell_at" "_law_cell_at" (defArgs s_law_cell_at) (defBody s_law_cell_at) (defScope s_law_cell_at) .none kV10 dc10 pm10 an10 cd10 ct10), sl10⟩) (c10 : PySem.W.codeIn K cd10 "_law_cell_at" = true) (k10 : PySem.W.keepIn K (.ref f10) = true)
    (a11 : PySem.W.nsIn K mainGlobals "_law_whole" = some (some (.ref f11))) (l11 : K.lookup f11 = some ⟨oc11, od11, .func (PySem.W.fnOf "_law_whole" "_law_whole" (defArgs s_law_whole) (defBody s_law_whole) (defScope s_law_whole) .none kV11 dc11 pm11 an11 cd11 ct11), sl11⟩) (c11 : PySem.W.codeIn K cd11 "_law_whole" = true) (k11 : PySem.W.keepIn K (.ref f11) = true)
    (a12 : PySem.W.nsIn K mainGlobals "_law_marks" = some (some (.ref f12))) (l12 : K.lookup f12 = some ⟨oc12, od12, .func (PySem.W.fnOf "_law_marks" "_law_marks" (defArgs s_law_marks) (defBody s_law_marks) (defScope s_law_marks) .none kV12 dc12 pm12 an12 cd12 ct12), sl12⟩) (c12 : PySem.W.codeIn K cd12 "_law_marks" = true) (k12 : PySem.W.keepIn K (.ref f12) = true)
    (a13 : PySem.W.nsIn K mainGlobals "_law_word" = some (some (.ref f13))) (l13 : K.lookup f13 = some ⟨oc13, od13, .func (PySem.W.fnOf "_law_word" "_law_word" (defArgs s_law_word) (defBody s_law_word) (defScope s_law_word) .none kV13 dc13 pm13 an13 cd13 ct13), sl13⟩) (c13 : PySem.W.codeIn K cd13 "_law_word" = true) (k13 : PySem.W.keepIn K (.ref f13) = true)
    (a14 : PySem.W.nsIn K mainGlobals "_law_due" = some (some (.ref f14))) (l14 : K.lookup f14 = some ⟨oc14, od14, .func (PySem.W.fnOf "_law_due" "_law_due" (defArgs s_law_due) (defBody s_law_due) (defScope s_law_due) .none kV14 dc14 pm14 an14 cd14 ct14), sl14⟩) (c14 : PySem.W.codeIn K cd14 "_law_due" = true) (k14 : PySem.W.keepIn K (.ref f14) = true)
    (a15 : PySem.W.nsIn K mainGlobals "_law_fair" = some (some (.ref f15))) (l15 : K.lookup f15 = some ⟨oc15, od15, .func (PySem.W.fnOf "_law_fair" "_law_fair" (defArgs s_law_fair) (defBody s_law_fair) (defScope s_law_fair) .none kV15 dc15 pm15 an15 cd15 ct15), sl15⟩) (c15 : PySem.W.codeIn K cd15 "_law_fair" = true) (k15 : PySem.W.keepIn K (.ref f15) = true)
    (a16 : PySem.W.nsIn K mainGlobals "_law_gone" = some (some (.ref f16))) (l16 : K.lookup f16 = some ⟨oc16, od16, .func (PySem.W.fnOf "_law_gone" "_law_gone" (defArgs s_law_gone) (defBody s_law_gone) (defScope s_law_gone) .none kV16 dc16 pm16 an16 cd16 ct16), sl16⟩) (c16 : PySem.W.codeIn K cd16 "_law_gone" = true) (k16 : PySem.W.keepIn K (.ref f16) = true)
    (a17 : PySem.W.nsIn K mainGlobals "_law_piece" = some (some (.ref f17))) (l17 : K.lookup f17 = some ⟨oc17, od17, .func (PySem.W.fnOf "_law_piece" "_law_piece" (defArgs s_law_piece) (defBody s_law_piece) (defScope s_law_piece) .none kV17 dc17 pm17 an17 cd17 ct17), sl17⟩) (c17 : PySem.W.codeIn K cd17 "_law_piece" = true) (k17 : PySem.W.keepIn K (.ref f17) = true)
    (a18 : PySem.W.nsIn K mainGlobals "law" = some (some (.ref f18))) (l18 : K.lookup f18 = some ⟨oc18, od18, .func (PySem.W.fnOf "law" "law" (defArgs s_law) (defBody s_law) (defScope s_law) .none kV18 dc18 pm18 an18 cd18 ct18), sl18⟩) (c18 : PySem.W.codeIn K cd18 "law" = true) (k18 : PySem.W.keepIn K (.ref f18) = true)
    (rd0 : PySem.W.readsIn K C0 (.type "type") = true) (ga0 : PySem.W.specialIn K (.ref C0) "__getattribute__" = some (some (.builtin "type.__getattribute__"))) (fc0 : PySem.W.findCls K (.ref C0) (.type "type") "__init__" = some (.val (.ref f2)))
    (hm1_0 : PySem.W.findIn K (.ref C1) "begin" = some (some (.ref f3)))
    (hm1_1 : PySem.W.findIn K (.ref C1) "step" = some (some (.ref f5)))
    (hm1_2 : PySem.W.findIn K (.ref C1) "broken_at" = some (some (.ref f6)))
    (hm1_3 : PySem.W.findIn K (.ref C1) "keeps" = some (some (.ref f7)))
    {gt0 : Tok} (y0 : PySem.W.nsIn K mainGlobals "SIGNS" = some (some (.str "abcdefghijklmnopqrstuvwxyz0123456789" gt0)))
    (z0 : PySem.W.nsIn K mainGlobals "range" = some none) (z1 : PySem.W.nsIn K mainGlobals "isinstance" = some none) (z2 : PySem.W.nsIn K mainGlobals "len" = some none) (z3 : PySem.W.nsIn K mainGlobals "abs" = some none) (z4 : PySem.W.nsIn K mainGlobals "int" = some none) (z5 : PySem.W.nsIn K mainGlobals "bool" = some none) (z6 : PySem.W.nsIn K mainGlobals "str" = some none) (z7 : PySem.W.nsIn K mainGlobals "list" = some none) (z8 : PySem.W.nsIn K mainGlobals "tuple" = some none) (z9 : PySem.W.nsIn K mainGlobals "dict" = some none) (z10 : PySem.W.nsIn K mainGlobals "min" = some none) (z11 : PySem.W.nsIn K mainGlobals "max" = some none) (z12 : PySem.W.nsIn K mainGlobals "sum" = some none) (z13 : PySem.W.nsIn K mainGlobals "sorted" = some none) (z14 : PySem.W.nsIn K mainGlobals "enumerate" = some none) (z15 : PySem.W.nsIn K mainGlobals "zip" = some none) (z16 : PySem.W.nsIn K mainGlobals "reversed" = some none) (z17 : PySem.W.nsIn K mainGlobals "set" = some none) (z18 : PySem.W.nsIn K mainGlobals "any" = some none) (z19 : PySem.W.nsIn K mainGlobals "all" = some none) (z20 : PySem.W.nsIn K mainGlobals "divmod" = some none) (z21 : PySem.W.nsIn K mainGlobals "ValueError" = some none) (nl : noLst K = true) :
    ∃ fd : FuncData, (∀ (s : Shared) (v : Value), BindsTo s fd ⟨[v], []⟩ [("script", v)]) ∧ ∀ base : Heap, K.In base → base.Ns mainGlobals mg → FnOk PySem.Challenge.rw_grooveway_k02_words_never.prog w K mg base (L2.CX PySem.Challenge.rw_grooveway_k02_words_never.prog w) (2 * 6) fa fd ["script"] (spLaw K) := by
  have e := hfa.symm.trans (PySem.W.mg_of X G a18)
  replace e : f18 = fa := by cases e; rfl
  subst e
  have e0 := ent_ok (i := i_marks_good) (st := s_marks_good) X G (fun _ _ _ _ _ _ us hl => match us, hl with | [_], _ => rfl) a0 l0 c0 k0
  have e1 := ent_ok (i := i_is_mark) (st := s_is_mark) X G (fun _ _ _ _ _ _ us hl => match us, hl with | [_, _], _ => rfl) a1 l1 c1 k1
  have e2 := ent_okM (mg := mg) (i := i_Rule_init) (st := s_Rule_init) (q := "Rule.__init__") rfl (fun _ _ _ _ _ _ us hl => match us, hl with | [_, _], _ => rfl) l2 c2 k2
  have e3 := ent_okM (mg := mg) (i := i_Rule_begin) (st := s_Rule_begin) (q := "Rule.begin") rfl (fun _ _ _ _ _ _ us hl => match us, hl with | [_], _ => rfl) l3 c3 k3
  have e4 := ent_okM (mg := mg) (i := i_Rule_led_to) (st := s_Rule_led_to) (q := "Rule.led_to") rfl (fun _ _ _ _ _ _ us hl => match us, hl with | [_, _, _], _ => rfl) l4 c4 k4
  have e5 := ent_okM (mg := mg) (i := i_Rule_step) (st := s_Rule_step) (q := "Rule.step") rfl (fun _ _ _ _ _ _ us hl => match us, hl with | [_, _, _], _ => rfl) l5 c5 k5
  have e6 := ent_okM (mg := mg) (i := i_Rule_broken_at) (st := s_Rule_broken_at) (q := "Rule.broken_at") rfl (fun _ _ _ _ _ _ us hl => match us, hl with | [_, _], _ => rfl) l6 c6 k6
  have e7 := ent_okM (mg := mg) (i := i_Rule_keeps) (st := s_Rule_keeps) (q := "Rule.keeps") rfl (fun _ _ _ _ _ _ us hl => match us, hl with | [_, _], _ => rfl) l7 c7 k7
  have e8 := ent_okM (mg := mg) (i := i_Never_init) (st := s_Never_init) (q := "Never.__init__") rfl (fun _ _ _ _ _ _ us hl => match us, hl with | [_, _, _], _ => rfl) l8 c8 k8
  have e9 := ent_okM (mg := mg) (i := i_Never_led_to) (st := s_Never_led_to) (q := "Never.led_to") rfl (fun _ _ _ _ _ _ us hl => match us, hl with | [_, _, _], _ => rfl) l9 c9 k9
  have e10 := ent_ok (i := i_law_cell_at) (st := s_law_cell_at) X G (fun _ _ _ _ _ _ us hl => match us, hl with | [_, _], _ => rfl) a10 l10 c10 k10
  have e11 := ent_ok (i := i_law_whole) (st := s_law_whole) X G (fun _ _ _ _ _ _ us hl => match us, hl with | [_], _ => rfl) a11 l11 c11 k11
  have e12 := ent_ok (i := i_law_marks) (st := s_law_marks) X G (fun _ _ _ _ _ _ us hl => match us, hl with | [_], _ => rfl) a12 l12 c12 k12
  have e13 := ent_ok (i := i_law_word) (st := s_law_word) X G (fun _ _ _ _ _ _ us hl => match us, hl with | [_, _], _ => rfl) a13 l13 c13 k13
  have e14 := ent_ok (i := i_law_due) (st := s_law_due) X G (fun _ _ _ _ _ _ us hl => match us, hl with | [_, _], _ => rfl) a14 l14 c14 k14
  have e15 := ent_ok (i := i_law_fair) (st := s_law_fair) X G (fun _ _ _ _ _ _ us hl => match us, hl with | [_, _], _ => rfl) a15 l15 c15 k15
  have e16 := ent_ok (i := i_law_gone) (st := s_law_gone) X G (fun _ _ _ _ _ _ us hl => match us, hl with | [_, _, _], _ => rfl) a16 l16 c16 k16
  have e17 := ent_ok (i := i_law_piece) (st := s_law_piece) X G (fun _ _ _ _ _ _ us hl => match us, hl with | [_, _, _], _ => rfl) a17 l17 c17 k17
  have e18 := ent_ok (i := i_law) (st := s_law) X G (fun _ _ _ _ _ _ us hl => match us, hl with | [_], _ => rfl) a18 l18 c18 k18
  have nob : ∀ x ∈ bltNames, mg x = none := by
    intro x hx
    simp only [bltNames, List.mem_cons, List.not_mem_nil, or_false] at hx
    rcases hx with rfl | rfl | rfl | rfl | rfl | rfl | rfl | rfl | rfl | rfl | rfl | rfl | rfl | rfl | rfl | rfl | rfl | rfl | rfl | rfl | rfl | rfl
    · exact PySem.W.mg_none_of X G z0
    · exact PySem.W.mg_none_of X G z1
    · exact PySem.W.mg_none_of X G z2
    · exact PySem.W.mg_none_of X G z3
    · exact PySem.W.mg_none_of X G z4
    · exact PySem.W.mg_none_of X G z5
    · exact PySem.W.mg_none_of X G z6
    · exact PySem.W.mg_none_of X G z7
    · exact PySem.W.mg_none_of X G z8
    · exact PySem.W.mg_none_of X G z9
    · exact PySem.W.mg_none_of X G z10
    · exact PySem.W.mg_none_of X G z11
    · exact PySem.W.mg_none_of X G z12
    · exact PySem.W.mg_none_of X G z13
    · exact PySem.W.mg_none_of X G z14
    · exact PySem.W.mg_none_of X G z15
    · exact PySem.W.mg_none_of X G z16
    · exact PySem.W.mg_none_of X G z17
    · exact PySem.W.mg_none_of X G z18
    · exact PySem.W.mg_none_of X G z19
    · exact PySem.W.mg_none_of X G z20
    · exact PySem.W.mg_none_of X G z21
  have hgc : ∀ p ∈ gcs, ∃ u, mg p.1 = some u ∧ RelV (.str p.2) u := by
    intro p hp
    simp only [gcs, List.mem_cons, List.not_mem_nil, or_false] at hp
    rcases hp with rfl
    · exact ⟨_, PySem.W.mg_of X G y0, ⟨_, rfl⟩⟩
  exact ⟨_, fun s v => .of_eq rfl, fun base _ _ => law_ok (L := [⟨i_marks_good, s_marks_good, f0, PySem.W.fnOf "marks_good" "marks_good" (defArgs s_marks_good) (defBody s_marks_good) (defScope s_marks_good) .none kV0 dc0 pm0 an0 cd0 ct0, "marks_good"⟩, ⟨i_is_mark, s_is_mark, f1, PySem.W.fnOf "is_mark" "is_mark" (defArgs s_is_mark) (defBody s_is_mark) (defScope s_is_mark) .none kV1 dc1 pm1 an1 cd1 ct1, "is_mark"⟩, ⟨i_Rule_init, s_Rule_init, f2, PySem.W.fnOf "__init__" "Rule.__init__" (defArgs s_Rule_init) (defBody s_Rule_init) (defScope s_Rule_init) .none kV2 dc2 pm2 an2 cd2 ct2, "Rule.__init__"⟩, ⟨i_Rule_begin, s_Rule_begin, f3, PySem.W.fnOf "begin" "Rule.begin" (defArgs s_Rule_begin) (defBody s_Rule_begin) (defScope s_Rule_begin) .none kV3 dc3 pm3 an3 cd3 ct3, "Rule.begin"⟩, ⟨i_Rule_led_to, s_Rule_led_to, f4, PySem.W.fnOf "led_to" "Rule.led_to" (defArgs s_Rule_led_to) (defBody s_Rule_led_to) (defScope s_Rule_led_to) .none kV4 dc4 pm4 an4 cd4 ct4, "Rule.led_to"⟩, ⟨i_Rule_step, s_Rule_step, f5, PySem.W.fnOf "step" "Rule.step" (defArgs s_Rule_step) (defBody s_Rule_step) (defScope s_Rule_step) .none kV5 dc5 pm5 an5 cd5 ct5, "Rule.step"⟩, ⟨i_Rule_broken_at, s_Rule_broken_at, f6, PySem.W.fnOf "broken_at" "Rule.broken_at" (defArgs s_Rule_broken_at) (defBody s_Rule_broken_at) (defScope s_Rule_broken_at) .none kV6 dc6 pm6 an6 cd6 ct6, "Rule.broken_at"⟩, ⟨i_Rule_keeps, s_Rule_keeps, f7, PySem.W.fnOf "keeps" "Rule.keeps" (defArgs s_Rule_keeps) (defBody s_Rule_keeps) (defScope s_Rule_keeps) .none kV7 dc7 pm7 an7 cd7 ct7, "Rule.keeps"⟩, ⟨i_Never_init, s_Never_init, f8, PySem.W.fnOf "__init__" "Never.__init__" (defArgs s_Never_init) (defBody s_Never_init) (defScope s_Never_init) .none kV8 dc8 pm8 an8 cd8 ct8, "Never.__init__"⟩, ⟨i_Never_led_to, s_Never_led_to, f9, PySem.W.fnOf "led_to" "Never.led_to" (defArgs s_Never_led_to) (defBody s_Never_led_to) (defScope s_Never_led_to) .none kV9 dc9 pm9 an9 cd9 ct9, "Never.led_to"⟩, ⟨i_law_cell_at, s_law_cell_at, f10, PySem.W.fnOf "_law_cell_at" "_law_cell_at" (defArgs s_law_cell_at) (defBody s_law_cell_at) (defScope s_law_cell_at) .none kV10 dc10 pm10 an10 cd10 ct10, "_law_cell_at"⟩, ⟨i_law_whole, s_law_whole, f11, PySem.W.fnOf "_law_whole" "_law_whole" (defArgs s_law_whole) (defBody s_law_whole) (defScope s_law_whole) .none kV11 dc11 pm11 an11 cd11 ct11, "_law_whole"⟩, ⟨i_law_marks, s_law_marks, f12, PySem.W.fnOf "_law_marks" "_law_marks" (defArgs s_law_marks) (defBody s_law_marks) (defScope s_law_marks) .none kV12 dc12 pm12 an12 cd12 ct12, "_law_marks"⟩, ⟨i_law_word, s_law_word, f13, PySem.W.fnOf "_law_word" "_law_word" (defArgs s_law_word) (defBody s_law_word) (defScope s_law_word) .none kV13 dc13 pm13 an13 cd13 ct13, "_law_word"⟩, ⟨i_law_due, s_law_due, f14, PySem.W.fnOf "_law_due" "_law_due" (defArgs s_law_due) (defBody s_law_due) (defScope s_law_due) .none kV14 dc14 pm14 an14 cd14 ct14, "_law_due"⟩, ⟨i_law_fair, s_law_fair, f15, PySem.W.fnOf "_law_fair" "_law_fair" (defArgs s_law_fair) (defBody s_law_fair) (defScope s_law_fair) .none kV15 dc15 pm15 an15 cd15 ct15, "_law_fair"⟩, ⟨i_law_gone, s_law_gone, f16, PySem.W.fnOf "_law_gone" "_law_gone" (defArgs s_law_gone) (defBody s_law_gone) (defScope s_law_gone) .none kV16 dc16 pm16 an16 cd16 ct16, "_law_gone"⟩, ⟨i_law_piece, s_law_piece, f17, PySem.W.fnOf "_law_piece" "_law_piece" (defArgs s_law_piece) (defBody s_law_piece) (defScope s_law_piece) .none kV17 dc17 pm17 an17 cd17 ct17, "_law_piece"⟩, ⟨i_law, s_law, f18, PySem.W.fnOf "law" "law" (defArgs s_law) (defBody s_law) (defScope s_law) .none kV18 dc18 pm18 an18 cd18 ct18, "law"⟩]) ct [⟨C0, ("Rule", ["marks"])⟩, ⟨C1, ("Never", ["marks", "word"])⟩] (fd0 := PySem.W.fnOf "law" "law" (defArgs s_law) (defBody s_law) (defScope s_law) .none kV18 dc18 pm18 an18 cd18 ct18) (j := 18) (k := 6) nob hgc ⟨e0, e1, e2, e3, e4, e5, e6, e7, e8, e9, e10, e11, e12, e13, e14, e15, e16, e17, e18, trivial⟩ ⟨⟨⟨pg0, hd0, po0, sa0⟩, ⟨nf0_0, trivial⟩, PySem.W.mg_of X G ca0, ica0, icb0, icc0, icd0⟩, ⟨⟨pg1, hd1, po1, sa1⟩, ⟨nf1_0, nf1_1, trivial⟩, PySem.W.mg_of X G ca1, ica1, icb1, icc1, icd1⟩, trivial⟩ rfl (by decide) ⟨⟨a3, fi3, k3⟩, ⟨a4, fi4, k4⟩, ⟨a5, fi5, k5⟩, ⟨a6, fi6, k6⟩, ⟨a7, fi7, k7⟩, ⟨hm1_0, fi3, k3⟩, ⟨hm1_1, fi5, k5⟩, ⟨hm1_2, fi6, k6⟩, ⟨hm1_3, fi7, k7⟩, ⟨a9, fi9, k9⟩, trivial⟩ ⟨⟨mk0, a2, fi2, kc0⟩, ⟨mk1, a8, fi8, kc1⟩, trivial⟩ (fs := fs) rfl chk nl rfl rfl rfl ⟨rfl, rfl⟩ law_pure [] trivial rfl trivial rfl (hsub := ⟨⟨hd0, ty0, sb1_0, sb1_1⟩, trivial⟩) (hbas := ⟨⟨rd0, ga0, fc0, k2⟩, trivial⟩) (hne := ⟨⟨sn0_1, sb1_1⟩, trivial⟩)⟩
end Law
open PySem PySem.W PyProof.Rows
set_option maxRecDepth 100000 in
set_option maxHeartbeats 0 in
theorem PySem.Challenge.cw_grooveway_k02_words_never_holds : PySem.Challenge.rw_grooveway_k02_words_never.Holds := by
  w_on; o_law; k_head; (case hw => w_witness2)
  k_fill
  refine Pv.walk (l := PySem.Challenge.rw_grooveway_k02_words_never) (k := 2 * 6) rfl rfl ⟨rfl, by decide, by decide⟩ (fun w h Y => PySem.W.kIn_of Y) ?F
  case F =>
    intro w mg fa h KX G hmg
    refine' Law.all_mk KX G hmg ?ca0 ?pg0 ?hd0 ?po0 ?sa0 ?mk0 ?kc0 ?ica0 ?icb0 ?icc0 ?icd0 ?nf0_0 ?ca1 ?pg1 ?hd1 ?po1 ?sa1 ?mk1 ?kc1 ?ica1 ?icb1 ?icc1 ?icd1 ?nf1_0 ?nf1_1 ?ty0 ?sb1_1 ?sb1_0 ?sn0_1 ?a0 ?l0 ?c0 ?k0 ?a1 ?l1 ?c1 ?k1 ?a2 ?l2 ?c2 ?k2 ?fi2 ?a3 ?l3 ?c3 ?k3 ?fi3 ?a4 ?l4 ?c4 ?k4 ?fi4 ?a5 ?l5 ?c5 ?k5 ?fi5 ?a6 ?l6 ?c6 ?k6 ?fi6 ?a7 ?l7 ?c7 ?k7 ?fi7 ?a8 ?l8 ?c8 ?k8 ?fi8 ?a9 ?l9 ?c9 ?k9 ?fi9 ?a10 ?l10 ?c10 ?k10 ?a11 ?l11 ?c11 ?k11 ?a12 ?l12 ?c12 ?k12 ?a13 ?l13 ?c13 ?k13 ?a14 ?l14 ?c14 ?k14 ?a15 ?l15 ?c15 ?k15 ?a16 ?l16 ?c16 ?k16 ?a17 ?l17 ?c17 ?k17 ?a18 ?l18 ?c18 ?k18 ?rd0 ?ga0 ?fc0 ?hm1_0 ?hm1_1 ?hm1_2 ?hm1_3 ?y0 ?z0 ?z1 ?z2 ?z3 ?z4 ?z5 ?z6 ?z7 ?z8 ?z9 ?z10 ?z11 ?z12 ?z13 ?z14 ?z15 ?z16 ?z17 ?z18 ?z19 ?z20 ?z21 ?nl
    (case ca0 => k_is)
    (case pg0 => k_is)
    (case hd0 => k_is)
    (case po0 => k_is)
    (case sa0 => k_is)
    (case mk0 => k_is)
    (case kc0 => k_is)
    (case ica0 => k_is)
    (case icb0 => k_is)
    (case icc0 => k_is)
    (case icd0 => k_is)
    (case nf0_0 => k_is)
    (case ca1 => k_is)
    (case pg1 => k_is)
    (case hd1 => k_is)
    (case po1 => k_is)
    (case sa1 => k_is)
    (case mk1 => k_is)
    (case kc1 => k_is)
    (case ica1 => k_is)
    (case icb1 => k_is)
    (case icc1 => k_is)
    (case icd1 => k_is)
    (case nf1_0 => k_is)
    (case nf1_1 => k_is)
    (case ty0 => k_is)
    (case sb1_1 => k_is)
    (case sb1_0 => k_is)
    (case sn0_1 => k_is)
    (case a0 => k_is)
    (case l0 => k_is)
    (case c0 => k_is)
    (case k0 => k_is)
    (case a1 => k_is)
    (case l1 => k_is)
    (case c1 => k_is)
    (case k1 => k_is)
    (case a2 => k_is)
    (case l2 => k_is)
    (case c2 => k_is)
    (case k2 => k_is)
    (case fi2 => k_is)
    (case a3 => k_is)
    (case l3 => k_is)
    (case c3 => k_is)
    (case k3 => k_is)
    (case fi3 => k_is)
    (case a4 => k_is)
    (case l4 => k_is)
    (case c4 => k_is)
    (case k4 => k_is)
    (case fi4 => k_is)
    (case a5 => k_is)
    (case l5 => k_is)
    (case c5 => k_is)
    (case k5 => k_is)
    (case fi5 => k_is)
    (case a6 => k_is)
    (case l6 => k_is)
    (case c6 => k_is)
    (case k6 => k_is)
    (case fi6 => k_is)
    (case a7 => k_is)
    (case l7 => k_is)
    (case c7 => k_is)
    (case k7 => k_is)
    (case fi7 => k_is)
    (case a8 => k_is)
    (case l8 => k_is)
    (case c8 => k_is)
    (case k8 => k_is)
    (case fi8 => k_is)
    (case a9 => k_is)
    (case l9 => k_is)
    (case c9 => k_is)
    (case k9 => k_is)
    (case fi9 => k_is)
    (case a10 => k_is)
    (case l10 => k_is)
    (case c10 => k_is)
    (case k10 => k_is)
    (case a11 => k_is)
    (case l11 => k_is)
    (case c11 => k_is)
    (case k11 => k_is)
    (case a12 => k_is)
    (case l12 => k_is)
    (case c12 => k_is)
    (case k12 => k_is)
    (case a13 => k_is)
    (case l13 => k_is)
    (case c13 => k_is)
    (case k13 => k_is)
    (case a14 => k_is)
    (case l14 => k_is)
    (case c14 => k_is)
    (case k14 => k_is)
    (case a15 => k_is)
    (case l15 => k_is)
    (case c15 => k_is)
    (case k15 => k_is)
    (case a16 => k_is)
    (case l16 => k_is)
    (case c16 => k_is)
    (case k16 => k_is)
    (case a17 => k_is)
    (case l17 => k_is)
    (case c17 => k_is)
    (case k17 => k_is)
    (case a18 => k_is)
    (case l18 => k_is)
    (case c18 => k_is)
    (case k18 => k_is)
    (case rd0 => k_is)
    (case ga0 => k_is)
    (case fc0 => k_is)
    (case hm1_0 => k_is)
    (case hm1_1 => k_is)
    (case hm1_2 => k_is)
    (case hm1_3 => k_is)
    (case y0 => k_is)
    (case z0 => k_is)
    (case z1 => k_is)
    (case z2 => k_is)
    (case z3 => k_is)
    (case z4 => k_is)
    (case z5 => k_is)
    (case z6 => k_is)
    (case z7 => k_is)
    (case z8 => k_is)
    (case z9 => k_is)
    (case z10 => k_is)
    (case z11 => k_is)
    (case z12 => k_is)
    (case z13 => k_is)
    (case z14 => k_is)
    (case z15 => k_is)
    (case z16 => k_is)
    (case z17 => k_is)
    (case z18 => k_is)
    (case z19 => k_is)
    (case z20 => k_is)
    (case z21 => k_is)
    (case nl => rfl)
