import PyProof.Rows.All
import Wide.All
import OpenK.AllK
import Wide.FinOn
import PyProof.EqAt
import PyProof.EqKinds
import PyProof.TupleCall
import HandS.ForMost
import HandS.Exc
import HandS.ExcOwn
import HandS.WordsExc
import HandS.CallSlots
import HandS.Flow
import HandS.TryOnly
import HandS.IsInst
import HandS.Walk
import HandS.Wide
import HandS.TupAny
import KE.GoesEnum
import KE.GoesNew
import KE.GoesMore
import HandS.StrMore
import HandS.WideBits
import HandS.Deep
import HandS.Style
import HandS.DeepEq
import PyProof.StrBlock2
import HandS.Codes
import KE.IntTextLaws
import KE.KExcSuper
import HandS.ExcSuper
import HandS.ExcInit
import HandS.ExcIs
import PySem.Challenge.RW_sideswaps_k91_whole_lines
import KE.IntBitsLaws
set_option Elab.async false
set_option linter.all false
set_option maxRecDepth 100000
set_option autoImplicit false
/-! SE: a store of plain data beside the abstract heap; what a def computes as a function of it. -/
namespace SE
open PySem PySem.Spec PyProof.Rows L2

/-- plain values -/
inductive DV where
  | non | bl (b : Bool) | int (i : Int) | str (x : List Nat) | tup (xs : List DV) | fl (xs : List DV) | ref (n : Nat)
/-- what stands at a place of the store -/
inductive DO where
  | lst (xs : List DV)
  | dct (kvs : List (Sum Int (List Nat) × DV))
  | ins (C : Nat) (fs : List (Str × DV))
  | exc (C : Nat) (v : DV)

structure Store where
  n : Nat
  l : List DO
namespace Store
def size (st : Store) : Nat := st.n
def get (st : Store) (k : Nat) : Option DO := if k < st.n then st.l[st.n - 1 - k]? else none
def push (st : Store) (o : DO) : Store := ⟨st.n + 1, o :: st.l⟩
def set (st : Store) (k : Nat) (o : DO) : Store := ⟨st.n, st.l.set (st.n - 1 - k) o⟩
theorem get_push_self (st : Store) (o : DO) : (st.push o).get st.size = some o := by
  simp [get, push, size]
theorem get_lt {st : Store} {k : Nat} {o : DO} (h : st.get k = some o) : k < st.size := by
  unfold get at h
  split at h
  · assumption
  · cases h
theorem get_push_lt {st : Store} {k : Nat} (o : DO) (h : k < st.size) : (st.push o).get k = st.get k := by
  unfold size at h
  unfold get push
  simp only []
  rw [if_pos (by omega), if_pos h]
  have : st.n + 1 - 1 - k = (st.n - 1 - k) + 1 := by omega
  rw [this, List.getElem?_cons_succ]
theorem get_push_of {st : Store} {k : Nat} {o : DO} (o' : DO) (h : st.get k = some o) : (st.push o').get k = some o := (get_push_lt o' (get_lt h)).trans h
theorem size_push (st : Store) (o : DO) : (st.push o).size = st.size + 1 := rfl
theorem size_set (st : Store) (k : Nat) (o : DO) : (st.set k o).size = st.size := rfl
theorem get_set_self {st : Store} {k : Nat} {o : DO} (o' : DO) (h : st.get k = some o) : (st.set k o').get k = some o' := by
  have hk := get_lt h
  unfold size at hk
  unfold get at h ⊢
  rw [if_pos hk] at h
  show (if k < st.n then (st.l.set (st.n - 1 - k) o')[st.n - 1 - k]? else none) = some o'
  rw [if_pos hk, List.getElem?_set_self]
  exact (List.getElem?_eq_some_iff.mp h).1
theorem get_set_ne {st : Store} {j k : Nat} (o' : DO) (h : j ≠ k) (hj : j < st.size) (hk : k < st.size) : (st.set k o').get j = st.get j := by
  unfold size at hj hk
  show (if j < st.n then (st.l.set (st.n - 1 - k) o')[st.n - 1 - j]? else none) = (if j < st.n then st.l[st.n - 1 - j]? else none)
  rw [if_pos hj, if_pos hj, List.getElem?_set_ne (by omega)]
theorem get_set_none {st : Store} {k : Nat} (o : DO) (h : st.get k = none) : (st.set k o).get k = none := by
  show (if k < st.n then (st.l.set (st.n - 1 - k) o)[st.n - 1 - k]? else none) = none
  by_cases hk : k < st.n
  · have h' : (if k < st.n then st.l[st.n - 1 - k]? else none) = none := h
    rw [if_pos hk] at h' ⊢
    rw [List.getElem?_eq_none_iff] at h'
    exact List.getElem?_eq_none (by simpa using h')
  · rw [if_neg hk]
end Store

/-- what the relation leans on: the written part, where the classes stand -/
structure Cz where
  K : PySem.W.Frag
  cl : Nat → Addr

def TupAt (K : PySem.W.Frag) (H : Hp) (a : Addr) (vs : List V) : Prop :=
  H a = some (.tup vs) ∨
    ∃ (o : Obj) (its : Array Value) (n : Nat), K.lookup a = some o ∧ o.cls = .type "tuple" ∧ o.data = .seq its n ∧ its.size ≤ sizeLine ∧ Vals vs its.toList
theorem TupAt.sq {K : PySem.W.Frag} {H : Hp} {a : Addr} {vs : List V} (h : TupAt K H a vs) : SqT K H a vs := by
  rcases h with h | h
  · exact .inl (.inl h)
  · exact .inr h
/-- a list that never changes: the script -/
def FlAt (K : PySem.W.Frag) (H : Hp) (a : Addr) (vs : List V) : Prop :=
  (∃ o, H a = some (.frz o (.lst vs))) ∨
    ∃ (o : Obj) (its : Array Value) (n : Nat), K.lookup a = some o ∧ o.cls = .type "list" ∧ o.dict = none ∧ o.data = .seq its n ∧ its.size ≤ sizeLine ∧ Vals vs its.toList
theorem FlAt.sq {K : PySem.W.Frag} {H : Hp} {a : Addr} {vs : List V} (h : FlAt K H a vs) : SqL K H a vs := by
  rcases h with h | h
  · exact .inl (.inr h)
  · exact .inr h
/-- what never changes -/
def Fix : HO → Prop
  | .tup _ => True
  | .frz _ (.lst _) => True
  | _ => False
/-- the tuples (and the fixed lists) stay -/
def ExtH (H H' : Hp) : Prop := ∀ a o, H a = some o → Fix o → H' a = some o
theorem ExtH.refl {H : Hp} : ExtH H H := fun _ _ h _ => h
theorem ExtH.trans {H H1 H2 : Hp} (a : ExtH H H1) (b : ExtH H1 H2) : ExtH H H2 := fun c o h f => b c o (a c o h f) f
theorem ExtH.new {H : Hp} {p : Addr} {o : HO} (h : H p = none) : ExtH H (upd H p o) := fun a u e _ => by
  rw [upd_ne (ne_of_none e h)]; exact e
theorem ExtH.mut {H : Hp} {p : Addr} {o u : HO} (h : H p = some u) (hn : ¬ Fix u) : ExtH H (upd H p o) := fun a v e f => by
  have : a ≠ p := fun z => by rw [z, h] at e; cases e; exact hn f
  rw [upd_ne this]; exact e
theorem FlAt.mono {K : PySem.W.Frag} {H H' : Hp} {a : Addr} {vs : List V} (h : FlAt K H a vs) (e : ExtH H H') : FlAt K H' a vs := by
  rcases h with ⟨o, h⟩ | h
  · exact .inl ⟨o, e _ _ h trivial⟩
  · exact .inr h
theorem TupAt.mono {K : PySem.W.Frag} {H H' : Hp} {a : Addr} {vs : List V} (h : TupAt K H a vs) (e : ExtH H H') : TupAt K H' a vs := by
  rcases h with h | h
  · exact .inl (e _ _ h trivial)
  · exact .inr h

abbrev Rho := List Addr
def Pre (ρ ρ' : Rho) : Prop := ∀ (n : Nat) (a : Addr), ρ[n]? = some a → ρ'[n]? = some a
theorem Pre.refl {ρ : Rho} : Pre ρ ρ := fun _ _ h => h
theorem Pre.trans {a b c : Rho} (h : Pre a b) (k : Pre b c) : Pre a c := fun n x e => k n x (h n x e)
theorem Pre.app {ρ : Rho} {l : List Addr} : Pre ρ (ρ ++ l) := fun n a h => by
  rw [List.getElem?_append_left (List.getElem?_eq_some_iff.mp h).1]; exact h

mutual
def RV (Z : Cz) (ρ : Rho) (H : Hp) : DV → V → Prop
  | .non, u => u = .non
  | .bl b, u => u = .bl b
  | .int i, u => u = .int i
  | .str l, u => u = .str ⟨l.toArray⟩
  | .ref n, u => ∃ a, ρ[n]? = some a ∧ u = .ref a
  | .tup ds, u => ∃ a vs, u = .ref a ∧ TupAt Z.K H a vs ∧ RVs Z ρ H ds vs
  | .fl ds, u => ∃ a vs, u = .ref a ∧ FlAt Z.K H a vs ∧ RVs Z ρ H ds vs
def RVs (Z : Cz) (ρ : Rho) (H : Hp) : List DV → List V → Prop
  | [], vs => vs = []
  | d :: ds, vs => ∃ v r, vs = v :: r ∧ RV Z ρ H d v ∧ RVs Z ρ H ds r
end
section
variable {Z : Cz} {ρ ρ' : Rho} {H H' : Hp}
mutual
theorem RV.mono (p : Pre ρ ρ') (e : ExtH H H') : ∀ {d : DV} {v : V}, RV Z ρ H d v → RV Z ρ' H' d v
  | .non, _, h => by unfold RV at h ⊢; exact h
  | .bl _, _, h => by unfold RV at h ⊢; exact h
  | .int _, _, h => by unfold RV at h ⊢; exact h
  | .str _, _, h => by unfold RV at h ⊢; exact h
  | .ref _, _, h => by unfold RV at h ⊢; obtain ⟨a, h1, h2⟩ := h; exact ⟨a, p _ _ h1, h2⟩
  | .tup _, _, h => by unfold RV at h ⊢; obtain ⟨a, vs, h1, h2, h3⟩ := h; exact ⟨a, vs, h1, h2.mono e, RVs.mono p e h3⟩
  | .fl _, _, h => by unfold RV at h ⊢; obtain ⟨a, vs, h1, h2, h3⟩ := h; exact ⟨a, vs, h1, h2.mono e, RVs.mono p e h3⟩
theorem RVs.mono (p : Pre ρ ρ') (e : ExtH H H') : ∀ {ds : List DV} {vs : List V}, RVs Z ρ H ds vs → RVs Z ρ' H' ds vs
  | [], _, h => by unfold RVs at h ⊢; exact h
  | _ :: _, _, h => by unfold RVs at h ⊢; obtain ⟨v, r, h1, h2, h3⟩ := h; exact ⟨v, r, h1, RV.mono p e h2, RVs.mono p e h3⟩
end
theorem RVs.nil_iff {vs : List V} : RVs Z ρ H [] vs ↔ vs = [] := by unfold RVs; rfl
theorem RVs.cons_iff {d : DV} {ds : List DV} {vs : List V} : RVs Z ρ H (d :: ds) vs ↔ ∃ v r, vs = v :: r ∧ RV Z ρ H d v ∧ RVs Z ρ H ds r := by
  constructor <;> intro h <;> (first | (unfold RVs at h; exact h) | (unfold RVs; exact h))
theorem RVs.length : ∀ {ds : List DV} {vs : List V}, RVs Z ρ H ds vs → vs.length = ds.length
  | [], vs, h => by rw [RVs.nil_iff] at h; subst h; rfl
  | d :: ds, vs, h => by
    obtain ⟨v, r, rfl, _, h3⟩ := RVs.cons_iff.mp h
    simp [RVs.length h3]
theorem RVs.get : ∀ {ds : List DV} {vs : List V} {i : Nat} {d : DV}, RVs Z ρ H ds vs → ds[i]? = some d → ∃ v, vs[i]? = some v ∧ RV Z ρ H d v
  | [], _, _, _, _, e => by simp at e
  | d :: ds, vs, 0, d', h, e => by
    obtain ⟨v, r, rfl, h2, _⟩ := RVs.cons_iff.mp h
    simp at e; subst e
    exact ⟨v, rfl, h2⟩
  | d :: ds, vs, i + 1, d', h, e => by
    obtain ⟨v, r, rfl, _, h3⟩ := RVs.cons_iff.mp h
    simpa using RVs.get h3 (by simpa using e)
theorem RVs.append : ∀ {ds es : List DV} {vs ws : List V}, RVs Z ρ H ds vs → RVs Z ρ H es ws → RVs Z ρ H (ds ++ es) (vs ++ ws)
  | [], _, vs, _, h, k => by rw [RVs.nil_iff] at h; subst h; simpa using k
  | d :: ds, es, vs, ws, h, k => by
    obtain ⟨v, r, rfl, h2, h3⟩ := RVs.cons_iff.mp h
    exact RVs.cons_iff.mpr ⟨v, r ++ ws, rfl, h2, RVs.append h3 k⟩
theorem RVs.set {d : DV} {v : V} (hd : RV Z ρ H d v) : ∀ {ds : List DV} {vs : List V} (i : Nat), RVs Z ρ H ds vs → RVs Z ρ H (ds.set i d) (vs.set i v)
  | [], vs, i, h => by rw [RVs.nil_iff] at h; subst h; simp [RVs.nil_iff]
  | e :: ds, vs, 0, h => by
    obtain ⟨w, r, rfl, h2, h3⟩ := RVs.cons_iff.mp h
    exact RVs.cons_iff.mpr ⟨v, r, rfl, hd, h3⟩
  | e :: ds, vs, i + 1, h => by
    obtain ⟨w, r, rfl, h2, h3⟩ := RVs.cons_iff.mp h
    exact RVs.cons_iff.mpr ⟨w, r.set i v, rfl, h2, RVs.set hd i h3⟩
theorem RVs.take : ∀ {ds : List DV} {vs : List V} (n : Nat), RVs Z ρ H ds vs → RVs Z ρ H (ds.take n) (vs.take n)
  | _, _, 0, _ => by simp [RVs.nil_iff]
  | [], vs, n + 1, h => by rw [RVs.nil_iff] at h; subst h; simp [RVs.nil_iff]
  | d :: ds, vs, n + 1, h => by
    obtain ⟨w, r, rfl, h2, h3⟩ := RVs.cons_iff.mp h
    exact RVs.cons_iff.mpr ⟨w, r.take n, rfl, h2, RVs.take n h3⟩
theorem RVs.drop : ∀ {ds : List DV} {vs : List V} (n : Nat), RVs Z ρ H ds vs → RVs Z ρ H (ds.drop n) (vs.drop n)
  | _, _, 0, h => h
  | [], vs, n + 1, h => by rw [RVs.nil_iff] at h; subst h; simp [RVs.nil_iff]
  | d :: ds, vs, n + 1, h => by
    obtain ⟨w, r, rfl, h2, h3⟩ := RVs.cons_iff.mp h
    exact RVs.drop n h3
theorem RV.non_iff {v : V} : RV Z ρ H .non v ↔ v = .non := by unfold RV; rfl
theorem RV.bl_iff {b : Bool} {v : V} : RV Z ρ H (.bl b) v ↔ v = .bl b := by unfold RV; rfl
theorem RV.int_iff {i : Int} {v : V} : RV Z ρ H (.int i) v ↔ v = .int i := by unfold RV; rfl
theorem RV.str_iff {l : List Nat} {v : V} : RV Z ρ H (.str l) v ↔ v = .str ⟨l.toArray⟩ := by unfold RV; rfl
theorem RV.ref_iff {n : Nat} {v : V} : RV Z ρ H (.ref n) v ↔ ∃ a, ρ[n]? = some a ∧ v = .ref a := by unfold RV; rfl
theorem RV.fl_iff {ds : List DV} {v : V} : RV Z ρ H (.fl ds) v ↔ ∃ a vs, v = .ref a ∧ FlAt Z.K H a vs ∧ RVs Z ρ H ds vs := by
  constructor <;> intro h <;> (first | (unfold RV at h; exact h) | (unfold RV; exact h))
theorem RV.tup_iff {ds : List DV} {v : V} : RV Z ρ H (.tup ds) v ↔ ∃ a vs, v = .ref a ∧ TupAt Z.K H a vs ∧ RVs Z ρ H ds vs := by
  constructor <;> intro h <;> (first | (unfold RV at h; exact h) | (unfold RV; exact h))
end

/-- an exception of the class cls with its own dict d, caught, at a -/
def ExT (cls : Value) (d : Addr) (a : Addr) : HO := .ext fun h => ∃ (oe : Obj) (vs : Array Value), h.get? a = some oe ∧ Zc cls (some d) oe ∧ oe.data = .fields vs

def kD : Sum Int (List Nat) → Key
  | .inl i => .inl i
  | .inr l => .inr ⟨l.toArray⟩
/-- what the heap holds for an object of the store -/
def RO (Z : Cz) (ρ : Rho) (H : Hp) (a : Addr) : DO → Prop
  | .lst xs => ∃ vs, H a = some (.lst vs) ∧ RVs Z ρ H xs vs
  | .dct kvs => ∃ ws : List V, H a = some (.dK ((kvs.map (fun p => kD p.1)).zip ws)) ∧ RVs Z ρ H (kvs.map (·.2)) ws
  | .ins C fs => ∃ (dx : Addr) (ws : List V), H a = some (.ins (Z.cl C) dx ((fs.map (·.1)).zip ws)) ∧ RVs Z ρ H (fs.map (·.2)) ws
  | .exc C v => ∃ (d : Addr) (u : V), H a = some (ExT (.ref (Z.cl C)) d a) ∧ H d = some (.xd [("value", u)]) ∧ RV Z ρ H v u

structure Sim (Z : Cz) (ρ : Rho) (st : Store) (H : Hp) : Prop where
  len : ρ.length = st.size
  nd : ρ.Nodup
  live : ∀ (n : Nat) (a : Addr), ρ[n]? = some a → H a ≠ none
  obj : ∀ (n : Nat) (a : Addr) (o : DO), ρ[n]? = some a → st.get n = some o → RO Z ρ H a o

/-- the slots -/
abbrev Ev := List (Option DV)
structure RE (Z : Cz) (ρ : Rho) (H : Hp) (env : Ev) (σ : L2.St) : Prop where
  len : env.length = σ.length
  val : ∀ (i : Nat) (d : DV), env[i]? = some (some d) → ∃ v, σ[i]? = some (some v) ∧ RV Z ρ H d v
theorem RE.mono {Z : Cz} {ρ ρ' : Rho} {H H' : Hp} {env : Ev} {σ : L2.St} (r : RE Z ρ H env σ) (p : Pre ρ ρ') (e : ExtH H H') : RE Z ρ' H' env σ :=
  ⟨r.len, fun i d h => let ⟨v, h1, h2⟩ := r.val i d h; ⟨v, h1, h2.mono p e⟩⟩
theorem RE.set {Z : Cz} {ρ : Rho} {H : Hp} {env : Ev} {σ : L2.St} (r : RE Z ρ H env σ) (i : Nat) {d : DV} {v : V} (h : RV Z ρ H d v) : RE Z ρ H (env.set i (some d)) (σ.set i (some v)) := by
  refine ⟨by simp [r.len], fun j e he => ?_⟩
  by_cases hj : i = j
  · subst hj
    by_cases hl : i < env.length
    · rw [List.getElem?_set_self hl] at he
      cases he
      exact ⟨v, by rw [List.getElem?_set_self (by rw [← r.len]; exact hl)], h⟩
    · rw [List.getElem?_eq_none (by simpa using hl)] at he; cases he
  · rw [List.getElem?_set_ne hj] at he ⊢
    exact r.val j e he
theorem RE.unset {Z : Cz} {ρ : Rho} {H : Hp} {env : Ev} {σ : L2.St} (r : RE Z ρ H env σ) (i : Nat) : RE Z ρ H (env.set i none) (σ.set i none) := by
  refine ⟨by simp [r.len], fun j e he => ?_⟩
  by_cases hj : i = j
  · subst hj
    by_cases hl : i < env.length
    · rw [List.getElem?_set_self hl] at he; cases he
    · rw [List.getElem?_eq_none (by simpa using hl)] at he; cases he
  · rw [List.getElem?_set_ne hj] at he ⊢
    exact r.val j e he

/-! ### outcomes -/
inductive Out (α : Type) where
  | ok (a : α)
  | er (C : Nat) (v : DV)
abbrev MM (α : Type) := Store → Option (Out α × Store)
def ret {α : Type} (a : α) : MM α := fun st => some (.ok a, st)
def stuck {α : Type} : MM α := fun _ => none
def bnd {α β : Type} (m : MM α) (f : α → MM β) : MM β := fun st =>
  match m st with
  | none => none
  | some (.ok a, st') => f a st'
  | some (.er C v, st') => some (.er C v, st')

section
variable {Z : Cz} {α β α' β' : Type}
/-- what is wanted behind an outcome -/
def RM (Z : Cz) (W : Value → Option Addr → Hp → Prop) (ρ : Rho) (H : Hp) (R : Rho → Hp → α → β → Prop) (r : Option (Out α × Store)) (Q : β → Hp → Prop) : Prop :=
  match r with
  | none => False
  | some (.ok a, st') => ∀ ρ' H' b, Pre ρ ρ' → ExtH H H' → Sim Z ρ' st' H' → R ρ' H' a b → Q b H'
  | some (.er C v, st') => ∀ ρ' H' d u, Pre ρ ρ' → ExtH H H' → Sim Z ρ' st' H' → H' d = some (.xd [("value", u)]) → RV Z ρ' H' v u → W (.ref (Z.cl C)) (some d) H'
theorem RM.weak {W : Value → Option Addr → Hp → Prop} {ρ ρ1 : Rho} {H H1 : Hp} {R : Rho → Hp → α → β → Prop} {r : Option (Out α × Store)} {Q : β → Hp → Prop}
    (h : RM Z W ρ H R r Q) (p : Pre ρ ρ1) (e : ExtH H H1) : RM Z W ρ1 H1 R r Q := by
  match r, h with
  | some (.ok a, st'), h => exact fun ρ' H' b p' e' => h ρ' H' b (p.trans p') (e.trans e')
  | some (.er C v, st'), h => exact fun ρ' H' d u p' e' => h ρ' H' d u (p.trans p') (e.trans e')
theorem RM.bnd {W : Value → Option Addr → Hp → Prop} {ρ : Rho} {H : Hp} {R : Rho → Hp → α → β → Prop} {R' : Rho → Hp → α' → β' → Prop} {m : MM α} {f : α → MM α'} {st : Store} {Q : β' → Hp → Prop} {Q' : β → Hp → Prop}
    (h : RM Z W ρ H R' (bnd m f st) Q)
    (k : ∀ ρ1 H1 st1 a b, Pre ρ ρ1 → ExtH H H1 → Sim Z ρ1 st1 H1 → R ρ1 H1 a b → RM Z W ρ1 H1 R' (f a st1) Q → Q' b H1) : RM Z W ρ H R (m st) Q' := by
  unfold SE.bnd at h
  match hm : m st with
  | none => rw [hm] at h; exact h
  | some (.ok a, st') => rw [hm] at h; exact fun ρ' H' b p e s r => k ρ' H' st' a b p e s r (RM.weak h p e)
  | some (.er C v, st') => rw [hm] at h; exact h
theorem RM.ok {W : Value → Option Addr → Hp → Prop} {ρ : Rho} {H : Hp} {R : Rho → Hp → α → β → Prop} {a : α} {b : β} {st : Store} {Q : β → Hp → Prop}
    (h : RM Z W ρ H R (ret a st) Q) (s : Sim Z ρ st H) (r : R ρ H a b) : Q b H := h ρ H b Pre.refl ExtH.refl s r
end

/-- a part that may be stuck -/
def lift {α : Type} (o : Option α) : MM α := fun st => o.map fun a => (.ok a, st)
theorem RM.lift {Z : Cz} {α β : Type} {W : Value → Option Addr → Hp → Prop} {ρ : Rho} {H : Hp} {R : Rho → Hp → α → β → Prop} {o : Option α} {st : Store} {Q : β → Hp → Prop}
    (h : RM Z W ρ H R (lift o st) Q) (s : Sim Z ρ st H) : ∃ a, o = some a ∧ ∀ b, R ρ H a b → Q b H := by
  cases o with
  | none => exact False.elim h
  | some a => exact ⟨a, rfl, fun b r => h ρ H b Pre.refl ExtH.refl s r⟩

/-! ### readings -/
abbrev DE := Ev → MM DV
abbrev DT := Ev → MM Bool
abbrev DA := Ev → MM (List DV)
/-- a wish at the slots as they are -/
def Wσ (W : WX) (σ : L2.St) : Value → Option Addr → Hp → Prop := fun c d H => W c d σ H
def tE (Z : Cz) (W : WX) (d : DE) : TE := fun σ H Q => ∃ ρ st env, RE Z ρ H env σ ∧ Sim Z ρ st H ∧ RM Z (Wσ W σ) ρ H (RV Z) (d env st) Q
def tT (Z : Cz) (W : WX) (d : DT) : TT := fun σ H Q => ∃ ρ st env, RE Z ρ H env σ ∧ Sim Z ρ st H ∧ RM Z (Wσ W σ) ρ H (fun _ _ a b => b = a) (d env st) Q
def tA (Z : Cz) (W : WX) (d : DA) : TA := fun σ H Q => ∃ ρ st env, RE Z ρ H env σ ∧ Sim Z ρ st H ∧ RM Z (Wσ W σ) ρ H (RVs Z) (d env st) Q
theorem PE.imp {X : Cx} {e : Expr} {t t' : TE} (h : PE X e t) (k : ∀ σ H Q, t' σ H Q → t σ H Q) : PE X e t' := ⟨fun pins s σ H Q I hw => h.run pins s σ H Q I (k σ H Q hw)⟩
theorem PT.imp {X : Cx} {e : Expr} {t t' : TT} (h : PT X e t) (k : ∀ σ H Q, t' σ H Q → t σ H Q) : PT X e t' := ⟨fun pins s σ H Q I hw => h.run pins s σ H Q I (k σ H Q hw)⟩
theorem PA.imp {X : Cx} {e : List Expr} {t t' : TA} (h : PA X e t) (k : ∀ σ H Q, t' σ H Q → t σ H Q) : PA X e t' := ⟨fun pos pins s σ H Q I hw => h.run pos pins s σ H Q I (k σ H Q hw)⟩

section
variable {X : Cx} {Z : Cz} {W : WX} {pos : Pos}
/-! names, constants -/
def dVar (i : Nat) : DE := fun env => lift (env[i]?.bind id)
def dC (d : DV) : DE := fun _ => ret d
theorem e_var {i : Nat} {x : Str} (hN : X.N[i]? = some x) (hv : Vis X.env.scope x) (hd : (x == ("__debug__" : Str)) = false := by decide) (hcd : (x == ("__classdict__" : Str)) = false := by decide) : PE X (.Name x pos) (tE Z W (dVar i)) := by
  refine PE.imp (pe_var hN hv hd hcd) fun σ H Q ⟨ρ, st, env, re, s, r⟩ => ?_
  obtain ⟨d, e, q⟩ := RM.lift r s
  have he : env[i]? = some (some d) := by
    cases hx : env[i]? with
    | none => rw [hx] at e; cases e
    | some y => rw [hx] at e; exact congrArg some e
  obtain ⟨v, h1, h2⟩ := re.val i d he
  exact ⟨v, h1, q v h2⟩
theorem e_const {e : Expr} {v : V} {d : DV} (h : PE X e (tC v)) (r : ∀ ρ H, RV Z ρ H d v) : PE X e (tE Z W (dC d)) :=
  PE.imp h fun σ H Q ⟨ρ, st, env, re, s, rm⟩ => rm.ok s (r ρ H)
theorem e_int {i j} : PE X (.Constant (.int i) j pos) (tE Z W (dC (.int i))) := e_const pe_int fun _ _ => RV.int_iff.mpr rfl
theorem e_bl {b j} : PE X (.Constant (.bool b) j pos) (tE Z W (dC (.bl b))) := e_const pe_bl fun _ _ => RV.bl_iff.mpr rfl
theorem e_non {j} : PE X (.Constant .none j pos) (tE Z W (dC .non)) := e_const pe_non fun _ _ => RV.non_iff.mpr rfl
theorem e_str {x : Str} {j} {l : List Nat} (h : x.cps.toList = l) : PE X (.Constant (.str x) j pos) (tE Z W (dC (.str l))) := e_const pe_str fun _ _ => by
  refine RV.str_iff.mpr ?_
  subst h
  obtain ⟨c⟩ := x
  rfl
/-! two operands -/
def d2 (f : DV → DV → MM DV) (da db : DE) : DE := fun env => bnd (da env) fun x => bnd (db env) fun y => f x y
def d1 (f : DV → MM DV) (da : DE) : DE := fun env => bnd (da env) f
/-- the rule r serves what f gives -/
def S2 (Z : Cz) (r : R2) (f : DV → DV → MM DV) : Prop := ∀ (W : Value → Option Addr → Hp → Prop) (ρ : Rho) (st : Store) (H : Hp) (a b : DV) (x y : V) (Q : VK), Sim Z ρ st H → RV Z ρ H a x → RV Z ρ H b y → RM Z W ρ H (RV Z) (f a b st) Q → r x y H Q
theorem s2_run {r : R2} {f : DV → DV → MM DV} (hf : S2 Z r f) {ta tb : DE} {σ : L2.St} {H : Hp} {Q : VK} (h : tE Z W (d2 f ta tb) σ H Q) : tOp r (tE Z W ta) (tE Z W tb) σ H Q := by
  obtain ⟨ρ, st, env, re, s, rm⟩ := h
  refine ⟨ρ, st, env, re, s, RM.bnd rm fun ρ1 H1 st1 a x p1 e1 s1 ra rm1 => ?_⟩
  refine ⟨ρ1, st1, env, re.mono p1 e1, s1, RM.bnd rm1 fun ρ2 H2 st2 b y p2 e2 s2 rb rm2 => ?_⟩
  exact hf _ ρ2 st2 H2 a b x y Q s2 (ra.mono p2 e2) rb rm2
variable {a b c : Expr} {da db dc : DE}
theorem e_bin {op : Operator} {r : R2} {f : DV → DV → MM DV} (ho : OpR X (binaryOp op) r) (hf : S2 Z r f) (ha : PE X a (tE Z W da)) (hb : PE X b (tE Z W db)) : PE X (.BinOp a op b pos) (tE Z W (d2 f da db)) :=
  PE.imp (pe_op ho ha hb) fun _ _ _ h => s2_run hf h
theorem e_cmp {op : CmpOp} {r : R2} {f : DV → DV → MM DV} (ho : OpR X (compareOp op) r) (hf : S2 Z r f) (ha : PE X a (tE Z W da)) (hb : PE X b (tE Z W db)) (hm : behindInMarks op b = false) : PE X (.Compare a [op] [b] pos) (tE Z W (d2 f da db)) :=
  PE.imp (pe_cmpR ho ha hb hm) fun _ _ _ h => s2_run hf h
/-- a value that is a bool, as a test -/
def asB : DV → Option Bool
  | .bl k => some k
  | _ => none
theorem asB_iff {v : DV} {k : Bool} (h : asB v = some k) : v = .bl k := by
  cases v <;> first | (cases h; rfl) | cases h
def dB (d : DE) : DT := fun env => bnd (d env) fun x => lift (asB x)
theorem b_run {d : DE} {σ : L2.St} {H : Hp} {Q : Bool → Hp → Prop} (h : tT Z W (dB d) σ H Q) : tE Z W d σ H fun x H1 => ∃ k, x = .bl k ∧ Q k H1 := by
  obtain ⟨ρ, st, env, re, s, rm⟩ := h
  refine ⟨ρ, st, env, re, s, RM.bnd rm fun ρ1 H1 st1 v x p1 e1 s1 ra rm1 => ?_⟩
  obtain ⟨k, e, q⟩ := RM.lift rm1 s1
  have e' := asB_iff e
  subst e'
  exact ⟨k, RV.bl_iff.mp ra, q k rfl⟩
theorem t_cmp {op : CmpOp} {r : R2} {f : DV → DV → MM DV} (ho : OpR X (compareOp op) r) (hf : S2 Z r f) (ha : PE X a (tE Z W da)) (hb : PE X b (tE Z W db)) (hm : behindInMarks op b = false) : PT X (.Compare a [op] [b] pos) (tT Z W (dB (d2 f da db))) :=
  PT.imp (pt_cmpR ho ha hb hm) fun σ H Q h => by
    obtain ⟨ρ, st, env, re, s, rm⟩ := b_run h
    exact s2_run hf ⟨ρ, st, env, re, s, rm⟩
theorem t_val {e : Expr} {d : DE} (h : PE X e (tE Z W d)) (he : ∀ whole, isTrue e X.env whole = (do let v ← whole; standAt e.pos; holding [v] (truthy v)) := by intro _; rfl) : PT X e (tT Z W (dB d)) :=
  PT.imp (pt_val h he) fun σ H Q hh => b_run hh
end
end SE

/-! SE: statements, loops, comprehensions. -/
namespace SE
open PySem PySem.Spec PyProof.Rows L2

/-- how a statement ends -/
inductive SO where
  | nx (env : Ev)
  | rt (v : DV)
  | bk (env : Ev)
  | ct (env : Ev)
  | er (C : Nat) (v : DV) (env : Ev)
abbrev DS := Ev → Store → Option (SO × Store)
def RS (Z : Cz) (W : WX) (ρ : Rho) (H : Hp) (D : Ends) (r : Option (SO × Store)) : Prop :=
  match r with
  | none => False
  | some (.nx env, st') => ∀ ρ' σ' H', Pre ρ ρ' → ExtH H H' → Sim Z ρ' st' H' → RE Z ρ' H' env σ' → D.nx σ' H'
  | some (.rt v, st') => ∀ ρ' H' u, Pre ρ ρ' → ExtH H H' → Sim Z ρ' st' H' → RV Z ρ' H' v u → D.rt u H'
  | some (.bk env, st') => ∀ ρ' σ' H', Pre ρ ρ' → ExtH H H' → Sim Z ρ' st' H' → RE Z ρ' H' env σ' → D.bk σ' H'
  | some (.ct env, st') => ∀ ρ' σ' H', Pre ρ ρ' → ExtH H H' → Sim Z ρ' st' H' → RE Z ρ' H' env σ' → D.ct σ' H'
  | some (.er C v env, st') => ∀ ρ' σ' H' d u, Pre ρ ρ' → ExtH H H' → Sim Z ρ' st' H' → RE Z ρ' H' env σ' → H' d = some (.xd [("value", u)]) → RV Z ρ' H' v u → W (.ref (Z.cl C)) (some d) σ' H'
theorem RS.weak {Z : Cz} {W : WX} {ρ ρ1 : Rho} {H H1 : Hp} {D : Ends} {r : Option (SO × Store)} (h : RS Z W ρ H D r) (p : Pre ρ ρ1) (e : ExtH H H1) : RS Z W ρ1 H1 D r := by
  match r, h with
  | some (.nx env, st'), h => exact fun ρ' σ' H' p' e' => h ρ' σ' H' (p.trans p') (e.trans e')
  | some (.rt v, st'), h => exact fun ρ' H' u p' e' => h ρ' H' u (p.trans p') (e.trans e')
  | some (.bk env, st'), h => exact fun ρ' σ' H' p' e' => h ρ' σ' H' (p.trans p') (e.trans e')
  | some (.ct env, st'), h => exact fun ρ' σ' H' p' e' => h ρ' σ' H' (p.trans p') (e.trans e')
  | some (.er C v env, st'), h => exact fun ρ' σ' H' d u p' e' => h ρ' σ' H' d u (p.trans p') (e.trans e')
def tS (Z : Cz) (W : WX) (d : DS) : TS := fun D σ H => ∃ ρ st env, RE Z ρ H env σ ∧ Sim Z ρ st H ∧ RS Z W ρ H D (d env st)
/-- an expression first -/
def ofE {α : Type} (m : MM α) (env : Ev) (k : α → Store → Option (SO × Store)) : Store → Option (SO × Store) := fun st =>
  match m st with
  | none => none
  | some (.ok a, st') => k a st'
  | some (.er C v, st') => some (.er C v env, st')
theorem RS.ofE {Z : Cz} {W : WX} {ρ : Rho} {H : Hp} {D : Ends} {α β : Type} {R : Rho → Hp → α → β → Prop} {m : MM α} {env : Ev} {σ : L2.St} {k : α → Store → Option (SO × Store)} {st : Store} {Q' : β → Hp → Prop}
    (h : RS Z W ρ H D (ofE m env k st)) (re : RE Z ρ H env σ)
    (hk : ∀ ρ1 H1 st1 a b, Pre ρ ρ1 → ExtH H H1 → Sim Z ρ1 st1 H1 → R ρ1 H1 a b → RS Z W ρ1 H1 D (k a st1) → Q' b H1) : RM Z (Wσ W σ) ρ H R (m st) Q' := by
  unfold SE.ofE at h
  match hm : m st with
  | none => rw [hm] at h; exact h
  | some (.ok a, st') => rw [hm] at h; exact fun ρ' H' b p e s r => hk ρ' H' st' a b p e s r (RS.weak h p e)
  | some (.er C v, st') => rw [hm] at h; exact fun ρ' H' d u p e s hd r => h ρ' σ H' d u p e s (re.mono p e) hd r

section
variable {X : Cx} {Z : Cz} {W : WX} {pos : Pos}
theorem PS.imp {st : Stmt} {t t' : TS} (h : PS X st t) (k : ∀ D σ H, t' D σ H → t D σ H) : PS X st t' := ⟨fun pins s σ H D I hw => h.run pins s σ H D I (k D σ H hw)⟩
theorem PSs.imp {st : List Stmt} {t t' : TS} (h : PSs X st t) (k : ∀ D σ H, t' D σ H → t D σ H) : PSs X st t' := ⟨fun pins s σ H D I hw => h.run pins s σ H D I (k D σ H hw)⟩
/-! blocks -/
def sNil : DS := fun env st => some (.nx env, st)
def sSeq (a b : DS) : DS := fun env st => match a env st with
  | some (.nx env', st') => b env' st'
  | r => r
theorem ss_nil : PSs X [] (tS Z W sNil) := PSs.imp pss_nil fun D σ H ⟨ρ, st, env, re, s, h⟩ => h ρ σ H Pre.refl ExtH.refl s re
theorem RS.nx {W : WX} {ρ : Rho} {H : Hp} {D : Ends} {r : Option (SO × Store)} {n : L2.St → Hp → Prop} (h : match r with
    | some (.nx env', st') => ∀ ρ' σ' H', Pre ρ ρ' → ExtH H H' → Sim Z ρ' st' H' → RE Z ρ' H' env' σ' → n σ' H'
    | r => RS Z W ρ H D r) : RS Z W ρ H { D with nx := n } r := by
  match r, h with
  | some (.nx env, st'), h => exact h
  | some (.rt v, st'), h => exact h
  | some (.bk env, st'), h => exact h
  | some (.ct env, st'), h => exact h
  | some (.er C v env, st'), h => exact h
theorem seq_run {a b : DS} {D : Ends} {σ : L2.St} {H : Hp} (h : tS Z W (sSeq a b) D σ H) : tS Z W a { D with nx := tS Z W b D } σ H := by
  obtain ⟨ρ, st, env, re, s, h⟩ := h
  refine ⟨ρ, st, env, re, s, RS.nx ?_⟩
  unfold sSeq at h
  match hm : a env st with
  | none => rw [hm] at h; exact h
  | some (.nx env', st') => rw [hm] at h; exact fun ρ' σ' H' p e s' re' => ⟨ρ', st', env', re', s', RS.weak h p e⟩
  | some (.rt v, st') => rw [hm] at h; exact h
  | some (.bk env, st') => rw [hm] at h; exact h
  | some (.ct env, st') => rw [hm] at h; exact h
  | some (.er C v env, st') => rw [hm] at h; exact h
theorem ss_cons {st : Stmt} {rest : List Stmt} {a b : DS} (h1 : PS X st (tS Z W a)) (h2 : PSs X rest (tS Z W b)) : PSs X (st :: rest) (tS Z W (sSeq a b)) :=
  PSs.imp (pss_cons h1 h2) fun _ _ _ h => seq_run h
theorem ss_one {st : Stmt} {a : DS} (h1 : PS X st (tS Z W a)) : PSs X [st] (tS Z W a) := pss_one h1
def sPass : DS := sNil
theorem s_pass : PS X (.Pass pos) (tS Z W sNil) := PS.imp ps_pass fun D σ H ⟨ρ, st, env, re, s, h⟩ => h ρ σ H Pre.refl ExtH.refl s re
def sBreak : DS := fun env st => some (.bk env, st)
def sCont : DS := fun env st => some (.ct env, st)
theorem s_break : PS X (.Break pos) (tS Z W sBreak) := PS.imp ps_break fun D σ H ⟨ρ, st, env, re, s, h⟩ => h ρ σ H Pre.refl ExtH.refl s re
theorem s_cont : PS X (.Continue pos) (tS Z W sCont) := PS.imp ps_continue fun D σ H ⟨ρ, st, env, re, s, h⟩ => h ρ σ H Pre.refl ExtH.refl s re
def sExpr (d : DE) : DS := fun env => ofE (d env) env fun _ st => some (.nx env, st)
theorem s_expr {e : Expr} {d : DE} (he : PE X e (tE Z W d)) (hs : swapsWith e none pos.line X.env = pure false := by rfl) : PS X (.Expr e pos) (tS Z W (sExpr d)) :=
  PS.imp (ps_expr he hs) fun D σ H ⟨ρ, st, env, re, s, h⟩ => ⟨ρ, st, env, re, s, RS.ofE h re fun ρ1 H1 st1 a b p e s1 r h1 => h1 ρ1 σ H1 Pre.refl ExtH.refl s1 (re.mono p e)⟩
def sRet (d : DE) : DS := fun env => ofE (d env) env fun v st => some (.rt v, st)
theorem s_ret {e : Expr} {d : DE} (he : PE X e (tE Z W d)) : PS X (.Return (some e) pos) (tS Z W (sRet d)) :=
  PS.imp (ps_ret he) fun D σ H ⟨ρ, st, env, re, s, h⟩ => ⟨ρ, st, env, re, s, RS.ofE h re fun ρ1 H1 st1 a b p e s1 r h1 => h1 ρ1 H1 b Pre.refl ExtH.refl s1 r⟩
def sRetN : DS := fun _ st => some (.rt .non, st)
theorem s_retN : PS X (.Return none pos) (tS Z W sRetN) :=
  PS.imp ps_retN fun D σ H ⟨ρ, st, env, re, s, h⟩ => h ρ H .non Pre.refl ExtH.refl s (RV.non_iff.mpr rfl)
def sIf (c : DT) (a b : DS) : DS := fun env => ofE (c env) env fun k st => if k = true then a env st else b env st
theorem s_if {c : Expr} {p q : List Stmt} {dc : DT} {a b : DS} (hc : PT X c (tT Z W dc)) (ha : PSs X p (tS Z W a)) (hb : PSs X q (tS Z W b)) : PS X (.If c p q pos) (tS Z W (sIf dc a b)) :=
  PS.imp (ps_if hc ha hb) fun D σ H ⟨ρ, st, env, re, s, h⟩ => ⟨ρ, st, env, re, s, RS.ofE h re fun ρ1 H1 st1 k k' p e s1 r h1 => by
    subst r
    cases k' with
    | true => exact ⟨ρ1, st1, env, re.mono p e, s1, h1⟩
    | false => exact ⟨ρ1, st1, env, re.mono p e, s1, h1⟩⟩
/-! names assigned -/
def sSet (i : Nat) (d : DE) : DS := fun env => ofE (d env) env fun v st => some (.nx (env.set i (some v)), st)
theorem set_run {i : Nat} {d : DE} {D : Ends} {σ : L2.St} {H : Hp} (h : tS Z W (sSet i d) D σ H) : tAsg (tE Z W d) (gName i) D σ H := by
  obtain ⟨ρ, st, env, re, s, h⟩ := h
  exact ⟨ρ, st, env, re, s, RS.ofE h re fun ρ1 H1 st1 a b p e s1 r h1 => h1 ρ1 _ H1 Pre.refl ExtH.refl s1 ((re.mono p e).set i r)⟩
theorem s_set {i : Nat} {x : Str} {e : Expr} {d : DE} {pos' : Pos} (hN : X.N.Nodup) (hi : X.N[i]? = some x) (hx : Loc X.env.scope x) (he : PE X e (tE Z W d)) (hs : swapsWith e (some (.Name x pos')) pos.line X.env = pure false := by rfl) (hf : X.fn x = true ∨ X.env.scope.names.lookup x = some .local := by first | exact .inl rfl | exact .inr rfl | assumption) :
    PS X (.Assign [.Name x pos'] e pos) (tS Z W (sSet i d)) := PS.imp (ps_set hN hi hx he hs hf) fun _ _ _ h => set_run h
/-! a list of arguments -/
def aNil : DA := fun _ => ret []
def aCons (d : DE) (r : DA) : DA := fun env => bnd (d env) fun x => bnd (r env) fun xs => ret (x :: xs)
theorem a_nil : PA X [] (tA Z W aNil) := PA.imp pa_nil fun σ H Q ⟨ρ, st, env, re, s, h⟩ => h.ok s (RVs.nil_iff.mpr rfl)
theorem a_cons {e : Expr} {es : List Expr} {d : DE} {r : DA} (ha : PE X e (tE Z W d)) (hr : PA X es (tA Z W r)) (hs : starEach (e :: es) X.env = (false, eval e X.env) :: starEach es X.env := by rfl) : PA X (e :: es) (tA Z W (aCons d r)) :=
  PA.imp (pa_cons ha hr hs) fun σ H Q ⟨ρ, st, env, re, s, h⟩ => ⟨ρ, st, env, re, s, RM.bnd h fun ρ1 H1 st1 x b p1 e1 s1 r1 h1 =>
    ⟨ρ1, st1, env, re.mono p1 e1, s1, RM.bnd h1 fun ρ2 H2 st2 xs bs p2 e2 s2 r2 h2 => h2.ok s2 (RVs.cons_iff.mpr ⟨b, bs, rfl, r1.mono p2 e2, r2⟩)⟩⟩
/-! names bound from a value -/
abbrev Bd := DV → Store → Option (List (Nat × DV))
def setsE (env : Ev) : List (Nat × DV) → Ev
  | [] => env
  | (i, d) :: r => setsE (env.set i (some d)) r
def setsS (σ : L2.St) : List (Nat × V) → L2.St
  | [] => σ
  | (i, d) :: r => setsS (σ.set i (some d)) r
def RB (Z : Cz) (ρ : Rho) (H : Hp) : List (Nat × DV) → List (Nat × V) → Prop
  | [], ws => ws = []
  | (i, d) :: r, ws => ∃ v r', ws = (i, v) :: r' ∧ RV Z ρ H d v ∧ RB Z ρ H r r'
theorem RE.sets {ρ : Rho} {H : Hp} : ∀ {bs : List (Nat × DV)} {ws : List (Nat × V)} {env : Ev} {σ : L2.St}, RE Z ρ H env σ → RB Z ρ H bs ws → RE Z ρ H (setsE env bs) (setsS σ ws)
  | [], ws, env, σ, re, h => by
    have e : ws = [] := h
    subst e; exact re
  | (i, d) :: r, ws, env, σ, re, h => by
    obtain ⟨v, r', rfl, h1, h2⟩ := (show ∃ v r', ws = (i, v) :: r' ∧ RV Z ρ H d v ∧ RB Z ρ H r r' from h)
    show RE Z ρ H (setsE (env.set i (some d)) r) (setsS (σ.set i (some v)) r')
    exact RE.sets (re.set i h1) h2
/-- a target of names -/
def tGB (Z : Cz) (B : Bd) : TG := fun v σ H Q => ∃ ρ st d bs, Sim Z ρ st H ∧ RV Z ρ H d v ∧ B d st = some bs ∧ ∀ ws, RB Z ρ H bs ws → Q (setsS σ ws) H
def tGBs (Z : Cz) (B : List DV → Store → Option (List (Nat × DV))) : TGs := fun vs σ H Q => ∃ ρ st ds bs, Sim Z ρ st H ∧ RVs Z ρ H ds vs ∧ B ds st = some bs ∧ ∀ ws, RB Z ρ H bs ws → Q (setsS σ ws) H
theorem PG.imp {tg : Expr} {t t' : TG} (h : PG X tg t) (k : ∀ v σ H Q, t' v σ H Q → t v σ H Q) : PG X tg t' := ⟨fun pins s σ H v u Q I r hw => h.run pins s σ H v u Q I r (k v σ H Q hw)⟩
theorem PGs.imp {tg : List Expr} {t t' : TGs} (h : PGs X tg t) (k : ∀ v σ H Q, t' v σ H Q → t v σ H Q) : PGs X tg t' := ⟨fun pins s σ H v u Q I r hw => h.run pins s σ H v u Q I r (k v σ H Q hw)⟩
def bName (i : Nat) : Bd := fun d _ => some [(i, d)]
theorem g_name {i : Nat} {x : Str} (hN : X.N.Nodup) (hi : X.N[i]? = some x) (hx : Loc X.env.scope x) (hf : X.fn x = true ∨ X.env.scope.names.lookup x = some .local := by first | exact .inl rfl | exact .inr rfl | assumption) : PG X (.Name x pos) (tGB Z (bName i)) :=
  PG.imp (pg_name hN hi hx hf) fun v σ H Q ⟨ρ, st, d, bs, s, r, hb, k⟩ => by
    have e : bs = [(i, d)] := (Option.some.inj hb).symm
    subst e
    exact k [(i, v)] ⟨v, [], rfl, r, rfl⟩
def bsNil : List DV → Store → Option (List (Nat × DV)) := fun ds _ => match ds with
  | [] => some []
  | _ :: _ => none
def bsCons (B : Bd) (R : List DV → Store → Option (List (Nat × DV))) : List DV → Store → Option (List (Nat × DV)) := fun ds st => match ds with
  | [] => none
  | d :: r => match B d st with
    | none => none
    | some b => match R r st with
      | none => none
      | some c => some (b ++ c)
theorem gs_nil : PGs X [] (tGBs Z bsNil) := PGs.imp pgs_nil fun vs σ H Q ⟨ρ, st, ds, bs, s, r, hb, k⟩ => by
  match ds, hb with
  | [], hb =>
    have e : bs = [] := (Option.some.inj hb).symm
    subst e
    exact ⟨RVs.nil_iff.mp r, k [] rfl⟩
theorem RB.app {ρ : Rho} {H : Hp} : ∀ {b c : List (Nat × DV)} {ws us : List (Nat × V)}, RB Z ρ H b ws → RB Z ρ H c us → RB Z ρ H (b ++ c) (ws ++ us)
  | [], _, ws, _, h, k => by have e : ws = [] := h; subst e; exact k
  | (i, d) :: r, c, ws, us, h, k => by
    obtain ⟨v, r', rfl, h1, h2⟩ := (show ∃ v r', ws = (i, v) :: r' ∧ RV Z ρ H d v ∧ RB Z ρ H r r' from h)
    exact ⟨v, r' ++ us, rfl, h1, RB.app h2 k⟩
theorem setsS_app : ∀ {b c : List (Nat × V)} {σ : L2.St}, setsS σ (b ++ c) = setsS (setsS σ b) c
  | [], _, _ => rfl
  | (i, d) :: r, c, σ => setsS_app (b := r)
theorem gs_cons {e : Expr} {es : List Expr} {B : Bd} {R : List DV → Store → Option (List (Nat × DV))} (h1 : PG X e (tGB Z B)) (h2 : PGs X es (tGBs Z R)) (hs : (assignEach (e :: es) X.env).map (·.2) = assign e X.env :: (assignEach es X.env).map (·.2) := by rfl) : PGs X (e :: es) (tGBs Z (bsCons B R)) :=
  PGs.imp (pgs_cons h1 h2 hs) fun vs σ H Q ⟨ρ, st, ds, bs, s, r, hb, k⟩ => by
    match ds, hb, r with
    | d :: ds, hb, r =>
      obtain ⟨v, vr, rfl, r1, r2⟩ := RVs.cons_iff.mp r
      unfold bsCons at hb
      simp only [] at hb
      cases h1 : B d st with
      | none => rw [h1] at hb; cases hb
      | some b =>
        rw [h1] at hb
        simp only [] at hb
        cases h2 : R ds st with
        | none => rw [h2] at hb; cases hb
        | some c =>
          rw [h2] at hb
          have e : bs = b ++ c := (Option.some.inj hb).symm
          subst e
          refine ⟨v, vr, rfl, ρ, st, d, b, s, r1, h1, fun ws hws => ⟨ρ, st, ds, c, s, r2, h2, fun us hus => ?_⟩⟩
          rw [← setsS_app]
          exact k _ (RB.app hws hus)
/-- a, b, .. = a tuple or a list -/
def bTup (n : Nat) (B : List DV → Store → Option (List (Nat × DV))) : Bd := fun d st => match d with
  | .tup ds => if ds.length = n then B ds st else none
  | .ref a => match st.get a with
    | some (.lst ds) => if ds.length = n then B ds st else none
    | _ => none
  | _ => none
theorem g_tup {es : List Expr} {k : Nat} {B : List DV → Store → Option (List (Nat × DV))} {n : Nat} (hc : X.calm = true) (hZ : Z.K = X.K) (h : PGs X es (tGBs Z B))
    (hn : (assignEach es X.env).length = n := by rfl) (hst : (assignEach es X.env).findIdx? (·.1) = none := by rfl) : PG X (.Tuple es k pos) (tGB Z (bTup n B)) := by
  have o : PG X (.Tuple es k pos) (fun v σ H Q => gTup X.K n (tGBs Z B) v σ H Q ∨ gLst X.K n (tGBs Z B) v σ H Q) :=
    ⟨fun pins s σ H v u Q I r hw => hw.elim (fun q => (pg_tup hc h hn hst).run pins s σ H v u Q I r q) fun q => (pg_lst hc h hn hst).run pins s σ H v u Q I r q⟩
  refine PG.imp o fun v σ H Q ⟨ρ, st, d, bs, s, r, hb, k⟩ => ?_
  unfold bTup at hb
  split at hb
  · rename_i ds
    split at hb
    · rename_i hl
      obtain ⟨a, vs, rfl, ht, hr⟩ := RV.tup_iff.mp r
      exact .inl ⟨a, vs, rfl, by rw [← hZ]; exact ht.sq, hr.length.trans hl, ρ, st, ds, bs, s, hr, hb, k⟩
    · cases hb
  · rename_i a
    split at hb
    · rename_i ds hg
      split at hb
      · rename_i hl
        obtain ⟨p, hp, rfl⟩ := RV.ref_iff.mp r
        obtain ⟨vs, hv, hr⟩ := s.obj _ _ _ hp hg
        exact .inr ⟨p, vs, rfl, SqL.of hv, hr.length.trans hl, ρ, st, ds, bs, s, hr, hb, k⟩
      · cases hb
    · cases hb
  · cases hb
/-- targets of names = e -/
def sAsg (B : Bd) (d : DE) : DS := fun env => ofE (d env) env fun v st => match B v st with
  | none => none
  | some bs => some (.nx (setsE env bs), st)
theorem s_asg {tg e : Expr} {d : DE} {B : Bd} (he : PE X e (tE Z W d)) (hg : PG X tg (tGB Z B)) (hs : swapsWithSole [tg] e pos.line X.env = pure false := by rfl) (hw : swappedStores [tg] e X.env = pure none := by rfl)
    (h1 : (assignEach [tg] X.env).map (·.2) = [assign tg X.env] := by rfl) : PS X (.Assign [tg] e pos) (tS Z W (sAsg B d)) :=
  PS.imp (ps_asg he hg hs hw h1) fun D σ H ⟨ρ, st, env, re, s, h⟩ => ⟨ρ, st, env, re, s, RS.ofE h re fun ρ1 H1 st1 a b p e s1 r h1 => by
    cases hb : B a st1 with
    | none => rw [hb] at h1; exact h1.elim
    | some bs =>
      rw [hb] at h1
      exact ⟨ρ1, st1, a, bs, s1, r, hb, fun ws hws => h1 ρ1 _ H1 Pre.refl ExtH.refl s1 ((re.mono p e).sets hws)⟩⟩
/-- a, b = x, y -/
def sPar (i j : Nat) (da : DA) : DS := fun env => ofE (da env) env fun vs st => match vs with
  | [v, w] => some (.nx ((env.set i (some v)).set j (some w)), st)
  | _ => none
theorem s_par {i j : Nat} {x y : Str} {a b : Expr} {da : DA} {px py pt : Pos} {kt k2 pt2} (hc : X.calm = true) (hN : X.N.Nodup) (hi : X.N[i]? = some x) (hj : X.N[j]? = some y) (hij : i ≠ j)
    (hx : X.env.scope.names.lookup x = some .local) (hy : X.env.scope.names.lookup y = some .local) (ha : PA X [a, b] (tA Z W da))
    (hw : swappedStores [.Tuple [.Name x px, .Name y py] kt pt] (.Tuple [a, b] k2 pt2) X.env = pure (some [x, y]) := by rfl)
    (hs : swapsWithSole [.Tuple [.Name x px, .Name y py] kt pt] (.Tuple [a, b] k2 pt2) pos.line X.env = pure false := by rfl) :
    PS X (.Assign [.Tuple [.Name x px, .Name y py] kt pt] (.Tuple [a, b] k2 pt2) pos) (tS Z W (sPar i j da)) :=
  PS.imp (ps_par hc hN hi hj hij hx hy ha hw hs) fun D σ H ⟨ρ, st, env, re, s, h⟩ => ⟨ρ, st, env, re, s, RS.ofE h re fun ρ1 H1 st1 vs us p e s1 r h1 => by
    match vs, r, h1 with
    | [v, w], r, h1 =>
      obtain ⟨v', r', rfl, q1, q2⟩ := RVs.cons_iff.mp r
      obtain ⟨w', r'', rfl, q3, q4⟩ := RVs.cons_iff.mp q2
      have e4 := RVs.nil_iff.mp q4
      subst e4
      exact ⟨v', w', rfl, h1 ρ1 _ H1 Pre.refl ExtH.refl s1 (((re.mono p e).set i q1).set j q3)⟩⟩
end
end SE

/-! SE: what is walked, for, while, comprehensions, calls. -/
namespace SE
open PySem PySem.Spec PyProof.Rows L2

/-- what a loop walks -/
inductive ItD where
  | lst (a : Nat)
  | seq (xs : List DV)
  | rng (lo c : Int) (n : Nat)
  | enumL (a : Nat)
  | enumS (xs : List Nat)
  | zip (a b : Nat)
  | rev (a n : Nat)
def lstAt (st : Store) (a : Nat) : Option (List DV) := match st.get a with
  | some (.lst xs) => some xs
  | _ => none
/-- the i-th item: stuck, none left, one -/
def itNext (I : ItD) (i : Nat) (st : Store) : Option (Option DV) := match I with
  | .lst a => (lstAt st a).map fun xs => xs[i]?
  | .seq xs => some xs[i]?
  | .rng lo c n => some (if i < n then some (.int (lo + (i : Nat) * c)) else none)
  | .enumL a => (lstAt st a).map fun xs => xs[i]?.map fun x => .tup [.int (i : Nat), x]
  | .enumS xs => if i ≤ xs.length then some (xs[i]?.map fun c => .tup [.int (i : Nat), .str [c]]) else none
  | .zip a b => (lstAt st a).bind fun xs => (lstAt st b).map fun ys => xs[i]?.bind fun x => ys[i]?.map fun y => .tup [x, y]
  | .rev a n => (lstAt st a).bind fun xs => if xs.length = n then some (if i < n then xs[n - 1 - i]? else none) else none
/-- the iterator of the layer that serves it -/
def ItR (Z : Cz) (ρ : Rho) (H : Hp) (I : ItD) (J : It) : Prop :=
  ∀ (i : Nat) (ρ' : Rho) (st' : Store) (H' : Hp), Pre ρ ρ' → ExtH H H' → Sim Z ρ' st' H' →
    (itNext I i st' = some none → J.stop i H') ∧
    (∀ d, itNext I i st' = some (some d) → J.go i H' ∧ ∀ x H2, J.yld i H' x H2 → ExtH H' H2 ∧ Sim Z ρ' st' H2 ∧ RV Z ρ' H2 d x)
abbrev DI := Ev → MM ItD
def tI (Z : Cz) (W : WX) (d : DI) : TI := fun σ H R => ∃ ρ st env, RE Z ρ H env σ ∧ Sim Z ρ st H ∧ RM Z (Wσ W σ) ρ H (ItR Z) (d env st) R
theorem PI.imp {X : Cx} {tg e : Expr} {t t' : TI} (h : PI X tg e t) (k : ∀ σ H R, t' σ H R → t σ H R) : PI X tg e t' := ⟨fun pins s σ H R I hw => h.run pins s σ H R I (k σ H R hw)⟩
theorem PI.or {X : Cx} {tg e : Expr} {t t' : TI} (h : PI X tg e t) (h' : PI X tg e t') : PI X tg e (fun σ H R => t σ H R ∨ t' σ H R) :=
  ⟨fun pins s σ H R I hw => hw.elim (h.run pins s σ H R I) (h'.run pins s σ H R I)⟩

section
variable {Z : Cz} {ρ : Rho} {st : Store} {H : Hp}
theorem Sim.sq (s : Sim Z ρ st H) {K : PySem.W.Frag} {n : Nat} {a : Addr} {xs : List DV} (hp : ρ[n]? = some a) (h : lstAt st n = some xs) : ∃ vs, SqL K H a vs ∧ RVs Z ρ H xs vs := by
  unfold lstAt at h
  split at h
  · rename_i ys e
    cases h
    obtain ⟨vs, h1, h2⟩ := s.obj _ _ _ hp e
    exact ⟨vs, SqL.of h1, h2⟩
  · cases h
theorem lstAt_lt {n : Nat} {xs : List DV} (h : lstAt st n = some xs) : n < st.size := by
  unfold lstAt at h
  split at h
  · rename_i e; exact Store.get_lt e
  · cases h
theorem Sim.at (s : Sim Z ρ st H) {n : Nat} (h : n < st.size) : ∃ a, ρ[n]? = some a := ⟨_, List.getElem?_eq_getElem (by rw [s.len]; exact h)⟩
/-- a new untracked-by-the-store object is laid -/
theorem RO.new {a p : Addr} {o : HO} (hp : H p = none) : ∀ {x : DO}, RO Z ρ H a x → RO Z ρ (upd H p o) a x
  | .lst xs, h => by
    obtain ⟨vs, h1, h2⟩ := h
    exact ⟨vs, (upd_ne (ne_of_none h1 hp)).trans h1, h2.mono Pre.refl (ExtH.new hp)⟩
  | .dct kvs, h => by
    obtain ⟨vs, h1, h2⟩ := h
    exact ⟨vs, (upd_ne (ne_of_none h1 hp)).trans h1, h2.mono Pre.refl (ExtH.new hp)⟩
  | .ins C fs, h => by
    obtain ⟨dx, vs, h1, h2⟩ := h
    exact ⟨dx, vs, (upd_ne (ne_of_none h1 hp)).trans h1, h2.mono Pre.refl (ExtH.new hp)⟩
  | .exc C v, h => by
    obtain ⟨d, u, h1, h2, h3⟩ := h
    exact ⟨d, u, (upd_ne (ne_of_none h1 hp)).trans h1, (upd_ne (ne_of_none h2 hp)).trans h2, h3.mono Pre.refl (ExtH.new hp)⟩
theorem Sim.new {p : Addr} {o : HO} (s : Sim Z ρ st H) (hp : H p = none) : Sim Z ρ st (upd H p o) :=
  ⟨s.len, s.nd, fun n a e z => by
    by_cases h : a = p
    · subst h; rw [upd_same] at z; cases z
    · rw [upd_ne h] at z; exact s.live n a e z, fun n a x e g => (s.obj n a x e g).new hp⟩
theorem RO.pre {ρ' : Rho} {a : Addr} (p : Pre ρ ρ') : ∀ {x : DO}, RO Z ρ H a x → RO Z ρ' H a x
  | .lst xs, h => by obtain ⟨vs, h1, h2⟩ := h; exact ⟨vs, h1, h2.mono p ExtH.refl⟩
  | .dct kvs, h => by obtain ⟨vs, h1, h2⟩ := h; exact ⟨vs, h1, h2.mono p ExtH.refl⟩
  | .ins C fs, h => by obtain ⟨dx, vs, h1, h2⟩ := h; exact ⟨dx, vs, h1, h2.mono p ExtH.refl⟩
  | .exc C v, h => by obtain ⟨d, u, h1, h2, h3⟩ := h; exact ⟨d, u, h1, h2, h3.mono p ExtH.refl⟩
/-- an object that stands already at p, known to the heap alone, becomes the store's -/
theorem Sim.push {p : Addr} {x : DO} (s : Sim Z ρ st H) (hp : p ∉ ρ) (hl : H p ≠ none) (hx : RO Z (ρ ++ [p]) H p x) : Sim Z (ρ ++ [p]) (st.push x) H := by
  refine ⟨by rw [List.length_append, s.len]; rfl, ?_, fun n a e => ?_, fun n a o e g => ?_⟩
  · rw [List.nodup_append]
    refine ⟨s.nd, by simp, fun a ha b hb e => ?_⟩
    have e' : b = p := by simpa using hb
    subst e; subst e'; exact hp ha
  · by_cases hn : n < ρ.length
    · rw [List.getElem?_append_left hn] at e; exact s.live n a e
    · rw [List.getElem?_append_right (by omega)] at e
      have e2 : a = p := by
        have hm := List.mem_of_getElem? e
        simpa using hm
      subst e2; exact hl
  · have hlt := Store.get_lt g
    rw [Store.size_push] at hlt
    by_cases hn : n < st.size
    · rw [Store.get_push_lt _ hn] at g
      rw [List.getElem?_append_left (by rw [s.len]; exact hn)] at e
      exact (s.obj n a o e g).pre Pre.app
    · have e1 : n = st.size := by omega
      subst e1
      rw [Store.get_push_self] at g
      cases g
      rw [List.getElem?_append_right (by rw [s.len]; exact Nat.le_refl _), s.len, Nat.sub_self] at e
      cases e
      exact hx
/-- a new object of heap and store -/
theorem Sim.make {p : Addr} {o : HO} {x : DO} (s : Sim Z ρ st H) (hp : H p = none) (hx : RO Z (ρ ++ [p]) (upd H p o) p x) : Sim Z (ρ ++ [p]) (st.push x) (upd H p o) := by
  refine (s.new hp).push (fun hm => ?_) (by rw [upd_same]; exact fun z => nomatch z) hx
  obtain ⟨i, hi⟩ := List.getElem?_of_mem hm
  exact s.live i p hi hp
theorem Sim.newRef (s : Sim Z ρ st H) {p : Addr} {H' : Hp} : RV Z (ρ ++ [p]) H' (.ref st.size) (.ref p) :=
  RV.ref_iff.mpr ⟨p, by rw [List.getElem?_append_right (by rw [s.len]; exact Nat.le_refl _), s.len, Nat.sub_self]; rfl, rfl⟩
theorem Sim.inj (s : Sim Z ρ st H) {i j : Nat} {a : Addr} (hi : ρ[i]? = some a) (hj : ρ[j]? = some a) : i = j := by
  obtain ⟨h1, e1⟩ := List.getElem?_eq_some_iff.mp hi
  obtain ⟨h2, e2⟩ := List.getElem?_eq_some_iff.mp hj
  exact (List.getElem_inj s.nd).mp (e1.trans e2.symm)
/-- an object written: not a tuple, not what another one leans on -/
def Wrt : HO → Prop
  | .lst _ => True
  | .dK _ => True
  | .ins _ _ _ => True
  | _ => False
theorem Wrt.fix {u : HO} (h : Wrt u) : ¬ Fix u := by
  cases u <;> first | exact fun z => z | exact h.elim
theorem RO.wr {a p : Addr} {o u : HO} (hp : H p = some u) (hw : Wrt u) (hne : a ≠ p) : ∀ {x : DO}, RO Z ρ H a x → RO Z ρ (upd H p o) a x := by
  have ex : ExtH H (upd H p o) := ExtH.mut hp hw.fix
  intro x h
  match x, h with
  | .lst xs, h => obtain ⟨vs, h1, h2⟩ := h; exact ⟨vs, (upd_ne hne).trans h1, h2.mono Pre.refl ex⟩
  | .dct kvs, h => obtain ⟨vs, h1, h2⟩ := h; exact ⟨vs, (upd_ne hne).trans h1, h2.mono Pre.refl ex⟩
  | .ins C fs, h => obtain ⟨dx, vs, h1, h2⟩ := h; exact ⟨dx, vs, (upd_ne hne).trans h1, h2.mono Pre.refl ex⟩
  | .exc C v, h =>
    obtain ⟨d, w, h1, h2, h3⟩ := h
    have : d ≠ p := fun z => by subst z; rw [hp] at h2; cases h2; exact hw
    exact ⟨d, w, (upd_ne hne).trans h1, (upd_ne this).trans h2, h3.mono Pre.refl ex⟩
theorem Sim.wr {n : Nat} {p : Addr} {o u : HO} {x : DO} (s : Sim Z ρ st H) (hn : ρ[n]? = some p) (hp : H p = some u) (hw : Wrt u) (hlt : n < st.size) (hx : RO Z ρ (upd H p o) p x) : Sim Z ρ (st.set n x) (upd H p o) := by
  refine ⟨s.len, s.nd, fun m a e z => ?_, fun m a y e g => ?_⟩
  · by_cases h : a = p
    · subst h; rw [upd_same] at z; cases z
    · rw [upd_ne h] at z; exact s.live m a e z
  · by_cases hm : m = n
    · subst hm
      rw [hn] at e; cases e
      cases hg : st.get m with
      | none =>
        rw [Store.get_set_none x hg] at g
        cases g
      | some z =>
        rw [Store.get_set_self x hg] at g
        cases g
        exact hx
    · have hm2 : m < st.size := by have := Store.get_lt g; rwa [Store.size_set] at this
      rw [Store.get_set_ne x hm hm2 hlt] at g
      have hne : a ≠ p := fun z => by subst z; exact hm (s.inj e hn)
      exact (s.obj m a y e g).wr hp hw hne
end
end SE

/-! SE: iterators, loops. -/
namespace SE
open PySem PySem.Spec PyProof.Rows L2

/-! ### enumerate of a text -/
def ItES (x : Str) : It :=
  ⟨fun i _ => i < x.cps.size, fun i H v H' => ∃ T c, v = .ref T ∧ H T = none ∧ H' = upd H T (.tup [.int (i : Nat), .str ⟨#[c]⟩]) ∧ x.cps[i]? = some c, fun i _ => i = x.cps.size⟩
theorem turn_enumS {P : Program} {w : World} {K : PySem.W.Frag} {elts : List Expr} {kk : Nat} {tpos : Pos} (x : Str) (t : Tok) (e it : Addr) (hne : e ≠ it) :
    Turn P w K (.Tuple elts kk tpos) (ItES x) [e, it] e (fun i h => (∃ old, IsEnum h e it (0 + ((i : Nat) : Int)) old) ∧ h.IsStrIter it (strIterType x) x t i) where
  mem := by simp
  obj := fun i h st b hb => by
    obtain ⟨⟨old, he⟩, ⟨o, ho, hc, hd⟩⟩ := st
    have e' : b = e ∨ b = it := by simpa using hb
    rcases e' with z | z
    · rw [z]; exact ⟨_, he, fun v q => nomatch q⟩
    · rw [z]; exact ⟨o, ho, fun v q => by rw [hd] at q; cases q⟩
  keep := fun i h h' st k => by
    obtain ⟨⟨old, he⟩, ⟨o, ho, r⟩⟩ := st
    exact ⟨⟨old, k e (by simp) _ he⟩, ⟨o, k it (by simp) o ho, r⟩⟩
  item := by
    intro X hP hw hK hc i pins s σ H E I hf st hg
    subst hP hw hK
    have G := GoesN.enumFrom (prog := X.prog) (w := X.w) (A := X.A) (elts := elts) (x1 := kk) (pos := tpos) 0 (Draws.text (A := X.A.in1) (I.ok.hd hc) it x t) e hne (by simpa using hne) (by simp)
    refine G.goes i s _ _ hg st fun v h' tk ⟨T, t', u, ev, hT0, ⟨c, u', hcx, eu⟩, hT⟩ st' hk _ => ?_
    subst ev eu
    obtain ⟨o, ho, hcl, n, hd⟩ := hT
    have new : ObjOk X.prog X.w (upd H T (.tup [.int (i : Nat), .str ⟨#[c]⟩])) h' T (.tup [.int (i : Nat), .str ⟨#[c]⟩]) :=
      ⟨by show 2 ≤ sizeLine; decide, [.int (0 + (i : Int)) t', .str ⟨#[c]⟩ u'], .cons ⟨t', by rw [Int.zero_add]⟩ (.cons ⟨u', rfl⟩ .nil), ⟨o, ho, hcl, n, hd⟩⟩
    have I1 : Inv X pins σ (upd H T (.tup [.int (i : Nat), .str ⟨#[c]⟩])) { s with heap := h', toks := tk } :=
      I.turnedNew (ch := [e, it]) (fun b ob hb q => hk b ob hb q) hf hT0 new
    refine ⟨.ref T, _, I1, rfl, ⟨T, c, rfl, I.hok.fresh hT0, rfl, hcx⟩, st', fun b hb => ?_⟩
    obtain ⟨⟨old, he⟩, ⟨oi, hoi, _⟩⟩ := st
    have hb' : b < s.heap.objs.size := by
      have e' : b = e ∨ b = it := by simpa using hb
      rcases e' with z | z
      · rw [z]; exact Heap.lt_size he
      · rw [z]; exact Heap.lt_size hoi
    rw [upd_ne (Nat.ne_of_lt (Nat.lt_of_lt_of_le hb' hT0))]
    exact (hf b hb).1
  done := by
    intro X hP hw hK hc i pins s σ H E I hf st hg
    subst hP hw hK
    have G := GoesN.enumFrom (prog := X.prog) (w := X.w) (A := X.A) (elts := elts) (x1 := kk) (pos := tpos) 0 (Draws.text (A := X.A.in1) (I.ok.hd hc) it x t) e hne (by simpa using hne) (by simp)
    have ei : i = x.cps.size := hg
    subst ei
    exact G.stops s (fun s1 => Inv X pins σ H s1) E st fun h' tk hk _ => I.turnedL (ch := [e, it]) (fun b o hb q => hk b o hb q) hf
  self := fun A i s Q E st h => let ⟨⟨_, he⟩, _⟩ := st; wpAny_pyIter_enum he h
def iEnumS (ta : TA) : TI := fun σ H R => ta σ H fun vs H1 => ∃ x, vs = [.str x] ∧ R (ItES x) H1
theorem pi_enumS {X : Cx} {e : Expr} {ta : TA} {p pos tpos : Pos} {elts : List Expr} {kk : Nat} (hg : Gl X "enumerate") (hm : X.mg "enumerate" = none) (ha : PA X [e] ta) (hs : starEach [e] X.env = [(false, eval e X.env)] := by rfl) :
    PI X (.Tuple elts kk tpos) (.Call (.Name "enumerate" p) [e] [] pos) (iEnumS ta) := by
  refine ⟨fun pins s σ H R I h => ?_⟩
  refine Call_ (ld_blt I hg hm boot_enumerate (PyProof.Rows.callWith_type1 (thn (ha.run pos pins s σ H _ I h) fun us s1 ⟨vs, H1, I1, r1, q1⟩ => ?_) hs rfl))
  obtain ⟨x, ex, q⟩ := q1
  subst ex
  cases r1 with
  | cons r rr =>
    cases rr
    obtain ⟨t, rfl⟩ := r
    refine call_enumerate_str fun h' he hit hsz hk => wpAny_pyIter_enum he ?_
    have I2 : Inv X pins σ H1 { s1 with heap := h' } := I1.kept (t' := s1.toks) hk
    refine ⟨s1.heap.objs.size + 1, [s1.heap.objs.size + 1, s1.heap.objs.size], _, _, H1, rfl, I2, turn_enumS x t (s1.heap.objs.size + 1) s1.heap.objs.size (Nat.succ_ne_self _), ⟨⟨.none, by simpa using he⟩, hit⟩, fun b hb => ?_, q⟩
    have e' : b = s1.heap.objs.size + 1 ∨ b = s1.heap.objs.size := by simpa using hb
    have hle : s1.heap.objs.size ≤ b := by
      rcases e' with z | z
      · rw [z]; exact Nat.le_add_right _ _
      · rw [z]; exact Nat.le_refl _
    exact I1.fpOk hle (I1.hok.fresh hle)

/-! ### what is walked -/
section
variable {X : Cx} {Z : Cz} {W : WX} {pos : Pos}
/-- a list, a tuple, a text -/
def itV (d : DV) (st : Store) : Option ItD := match d with
  | .ref a => (lstAt st a).map fun _ => .lst a
  | .tup xs => some (.seq xs)
  | .fl xs => some (.seq xs)
  | .str l => some (.seq (l.map fun c => .str [c]))
  | _ => none
def iVal (d : DE) : DI := fun env => bnd (d env) fun v st => (itV v st).map fun I => (.ok I, st)
theorem itR_lst {ρ : Rho} {H : Hp} {n : Nat} {a : Addr} (hp : ρ[n]? = some a) (K : PySem.W.Frag) : ItR Z ρ H (.lst n) (Itl K a) := by
  intro i ρ' st' H' p e s
  have eq : itNext (.lst n) i st' = (lstAt st' n).map fun xs => xs[i]? := rfl
  refine ⟨fun h => ?_, fun d h => ?_⟩
  · rw [eq] at h
    cases hl : lstAt st' n with
    | none => rw [hl] at h; cases h
    | some xs =>
      rw [hl] at h
      have hn : xs[i]? = none := Option.some.inj h
      obtain ⟨vs, h1, h2⟩ := s.sq (K := K) (p _ _ hp) hl
      refine ⟨vs, h1, ?_⟩
      rw [h2.length]
      exact List.getElem?_eq_none_iff.mp hn
  · rw [eq] at h
    cases hl : lstAt st' n with
    | none => rw [hl] at h; cases h
    | some xs =>
      rw [hl] at h
      have hn : xs[i]? = some d := Option.some.inj h
      obtain ⟨vs, h1, h2⟩ := s.sq (K := K) (p _ _ hp) hl
      obtain ⟨v, hv, hr⟩ := h2.get hn
      refine ⟨⟨vs, v, h1, hv⟩, fun x H2 y => ?_⟩
      obtain ⟨e1, y⟩ := y
      subst e1
      have hx := y vs h1
      rw [hv] at hx
      cases hx
      exact ⟨ExtH.refl, s, hr⟩
theorem itR_tup {ρ : Rho} {H : Hp} {xs : List DV} {vs : List V} {a : Addr} (ht : TupAt Z.K H a vs) (hr : RVs Z ρ H xs vs) : ItR Z ρ H (.seq xs) (Itt Z.K a) := by
  intro i ρ' st' H' p e s
  have eq : itNext (.seq xs) i st' = some xs[i]? := rfl
  have ht' : SqT Z.K H' a vs := (ht.mono e).sq
  refine ⟨fun h => ?_, fun d h => ?_⟩
  · rw [eq] at h
    have hn : xs[i]? = none := Option.some.inj h
    refine ⟨vs, ht', ?_⟩
    rw [hr.length]
    exact List.getElem?_eq_none_iff.mp hn
  · rw [eq] at h
    have hn : xs[i]? = some d := Option.some.inj h
    obtain ⟨v, hv, h2⟩ := hr.get hn
    refine ⟨⟨vs, v, ht', hv⟩, fun x H2 y => ?_⟩
    obtain ⟨e1, y⟩ := y
    subst e1
    have hx := y vs ht'
    rw [hv] at hx
    cases hx
    exact ⟨ExtH.refl, s, h2.mono p e⟩
theorem itR_fl {ρ : Rho} {H : Hp} {xs : List DV} {vs : List V} {a : Addr} (ht : FlAt Z.K H a vs) (hr : RVs Z ρ H xs vs) : ItR Z ρ H (.seq xs) (Itl Z.K a) := by
  intro i ρ' st' H' p e s
  have eq : itNext (.seq xs) i st' = some xs[i]? := rfl
  have ht' : SqL Z.K H' a vs := (ht.mono e).sq
  refine ⟨fun h => ?_, fun d h => ?_⟩
  · rw [eq] at h
    have hn : xs[i]? = none := Option.some.inj h
    refine ⟨vs, ht', ?_⟩
    rw [hr.length]
    exact List.getElem?_eq_none_iff.mp hn
  · rw [eq] at h
    have hn : xs[i]? = some d := Option.some.inj h
    obtain ⟨v, hv, h2⟩ := hr.get hn
    refine ⟨⟨vs, v, ht', hv⟩, fun x H2 y => ?_⟩
    obtain ⟨e1, y⟩ := y
    subst e1
    have hx := y vs ht'
    rw [hv] at hx
    cases hx
    exact ⟨ExtH.refl, s, h2.mono p e⟩
theorem itR_str {ρ : Rho} {H : Hp} {l : List Nat} : ItR Z ρ H (.seq (l.map fun c => .str [c])) (Its ⟨l.toArray⟩) := by
  intro i ρ' st' H' p e s
  have eq : itNext (.seq (l.map fun c => DV.str [c])) i st' = some (l.map fun c => DV.str [c])[i]? := rfl
  refine ⟨fun h => ?_, fun d h => ?_⟩
  · rw [eq] at h
    have hn := Option.some.inj h
    have := List.getElem?_eq_none_iff.mp hn
    show l.toArray.size ≤ i
    simpa using this
  · rw [eq] at h
    have hn := Option.some.inj h
    rw [List.getElem?_map] at hn
    cases hl : l[i]? with
    | none => rw [hl] at hn; cases hn
    | some c =>
      rw [hl] at hn
      have hd : d = .str [c] := (Option.some.inj hn).symm
      subst hd
      have hi : i < l.length := (List.getElem?_eq_some_iff.mp hl).1
      refine ⟨show i < l.toArray.size by simpa using hi, fun x H2 y => ?_⟩
      obtain ⟨e1, c', hc, ev⟩ := y
      subst e1
      subst ev
      have : c' = c := by
        have h3 : l.toArray[i]? = some c' := hc
        rw [List.getElem?_toArray, hl] at h3
        exact (Option.some.inj h3).symm
      subst this
      exact ⟨ExtH.refl, s, RV.str_iff.mpr rfl⟩
theorem i_val {tg e : Expr} {d : DE} (hZ : Z.K = X.K) (he : PE X e (tE Z W d)) : PI X tg e (tI Z W (iVal d)) := by
  refine PI.imp (PI.or (pi_list he) (PI.or (pi_tup he) (pi_str he))) fun σ H R ⟨ρ, st, env, re, s, h⟩ => ?_
  -- which one it is hangs on the value: all three readings begin with the expression's
  unfold iVal at h
  cases hm : d env st with
  | none =>
    exact absurd h (by unfold bnd; rw [hm]; exact fun z => z)
  | some r =>
    obtain ⟨o, st1⟩ := r
    cases o with
    | er C v =>
      refine .inl ⟨ρ, st, env, re, s, ?_⟩
      unfold bnd at h
      rw [hm] at h ⊢
      exact h
    | ok v =>
      have h' : RM Z (Wσ W σ) ρ H (ItR Z) ((itV v st1).map fun I => (.ok I, st1)) R := by
        unfold bnd at h
        rw [hm] at h
        exact h
      have go : ∀ {Q : VK}, (∀ ρ1 H1 x, Pre ρ ρ1 → ExtH H H1 → Sim Z ρ1 st1 H1 → RV Z ρ1 H1 v x → Q x H1) → tE Z W d σ H Q := fun {Q} k =>
        ⟨ρ, st, env, re, s, by rw [hm]; exact fun ρ1 H1 x p e s1 r => k ρ1 H1 x p e s1 r⟩
      cases v with
      | ref n =>
        refine .inl (go fun ρ1 H1 x p e s1 r => ?_)
        obtain ⟨a, ha, rfl⟩ := RV.ref_iff.mp r
        cases hl : lstAt st1 n with
        | none =>
          have q : itV (.ref n) st1 = (lstAt st1 n).map fun _ => .lst n := rfl
          rw [q, hl] at h'; exact h'.elim
        | some xs =>
          have q : itV (.ref n) st1 = (lstAt st1 n).map fun _ => .lst n := rfl
          rw [q, hl] at h'
          obtain ⟨vs, h1, h2⟩ := s1.sq (K := X.K) ha hl
          exact ⟨a, rfl, ⟨vs, h1⟩, h' ρ1 H1 _ p e s1 (itR_lst ha X.K)⟩
      | tup xs =>
        refine .inr (.inl (go fun ρ1 H1 x p e s1 r => ?_))
        obtain ⟨a, vs, rfl, h1, h2⟩ := RV.tup_iff.mp r
        refine ⟨a, rfl, ⟨vs, ?_⟩, h' ρ1 H1 _ p e s1 ?_⟩
        · rw [← hZ]; exact h1.sq
        · rw [← hZ]; exact itR_tup h1 h2
      | fl xs =>
        refine .inl (go fun ρ1 H1 x p e s1 r => ?_)
        obtain ⟨a, vs, rfl, h1, h2⟩ := RV.fl_iff.mp r
        refine ⟨a, rfl, ⟨vs, ?_⟩, h' ρ1 H1 _ p e s1 ?_⟩
        · rw [← hZ]; exact h1.sq
        · rw [← hZ]; exact itR_fl h1 h2
      | str l =>
        refine .inr (.inr (go fun ρ1 H1 x p e s1 r => ?_))
        exact ⟨_, RV.str_iff.mp r, h' ρ1 H1 _ p e s1 itR_str⟩
      | non => exact h'.elim
      | bl _ => exact h'.elim
      | int _ => exact h'.elim
/-- range(n), range(a, b) -/
def rngOk (i : Int) : Bool := decide (-(2 ^ 62) ≤ i) && decide (i < 2 ^ 62)
def itRng1 : List DV → Option ItD
  | [.int j] => if rngOk j = true then some (.rng 0 1 j.toNat) else none
  | _ => none
def itRng2 : List DV → Option ItD
  | [.int i, .int j] => if (rngOk i && rngOk j) = true then some (.rng i 1 (j - i).toNat) else none
  | _ => none
def iArg (f : List DV → Store → Option ItD) (d : DA) : DI := fun env => bnd (d env) fun vs st => (f vs st).map fun I => (.ok I, st)
theorem iarg_run {f : List DV → Store → Option ItD} {d : DA} {σ : L2.St} {H : Hp} {R : It → Hp → Prop} {Q : List V → Hp → Prop} (h : tI Z W (iArg f d) σ H R)
    (k : ∀ ρ1 st1 H1 ds vs I, Sim Z ρ1 st1 H1 → RVs Z ρ1 H1 ds vs → f ds st1 = some I → (∀ J, ItR Z ρ1 H1 I J → R J H1) → Q vs H1) : tA Z W d σ H Q := by
  obtain ⟨ρ, st, env, re, s, h⟩ := h
  refine ⟨ρ, st, env, re, s, RM.bnd h fun ρ1 H1 st1 ds vs p e s1 r h1 => ?_⟩
  cases hf : f ds st1 with
  | none => rw [hf] at h1; exact h1.elim
  | some I => rw [hf] at h1; exact k ρ1 st1 H1 ds vs I s1 r hf fun J hJ => h1 ρ1 H1 J Pre.refl ExtH.refl s1 hJ
theorem rngOk_iff {i : Int} (h : rngOk i = true) : -(2 ^ 62) ≤ i ∧ i < 2 ^ 62 := by
  unfold rngOk at h
  simp only [Bool.and_eq_true, decide_eq_true_eq] at h
  exact h
theorem itR_rng {ρ : Rho} {H : Hp} {lo : Int} {n : Nat} : ItR Z ρ H (.rng lo 1 n) (Itr lo n) := by
  intro i ρ' st' H' p e s
  have eq : itNext (.rng lo 1 n) i st' = some (if i < n then some (.int (lo + (i : Nat) * 1)) else none) := rfl
  refine ⟨fun h => ?_, fun d h => ?_⟩
  · rw [eq] at h
    have h := Option.some.inj h
    by_cases hi : i < n
    · rw [if_pos hi] at h; cases h
    · exact Nat.le_of_not_lt hi
  · rw [eq] at h
    have h := Option.some.inj h
    by_cases hi : i < n
    · rw [if_pos hi] at h
      have hd := Option.some.inj h
      subst hd
      refine ⟨hi, fun x H2 y => ?_⟩
      obtain ⟨e1, y⟩ := y
      subst e1
      subst y
      exact ⟨ExtH.refl, s, RV.int_iff.mpr (by rw [Int.mul_one])⟩
    · rw [if_neg hi] at h; cases h
theorem i_range1 {tg a : Expr} {d : DA} {p pos : Pos} (hg : Gl X "range") (hm : X.mg "range" = none) (ha : PA X [a] (tA Z W d)) (hs : starEach [a] X.env = [(false, eval a X.env)] := by rfl) :
    PI X tg (.Call (.Name "range" p) [a] [] pos) (tI Z W (iArg (fun vs _ => itRng1 vs) d)) :=
  PI.imp (pi_range1 hg hm ha hs) fun σ H R h => iarg_run h fun ρ1 st1 H1 ds vs I s1 r hf k => by
    match ds, hf, r with
    | [.int j], hf, r =>
      unfold itRng1 at hf
      simp only [] at hf
      split at hf
      · rename_i hj
        cases hf
        obtain ⟨v, r', rfl, r1, r2⟩ := RVs.cons_iff.mp r
        have e2 := RVs.nil_iff.mp r2
        subst e2
        exact ⟨j, by rw [RV.int_iff.mp r1], (rngOk_iff hj).1, (rngOk_iff hj).2, k _ itR_rng⟩
      · cases hf
theorem i_range2 {tg a b : Expr} {d : DA} {p pos : Pos} (hg : Gl X "range") (hm : X.mg "range" = none) (ha : PA X [a, b] (tA Z W d)) (hs : starEach [a, b] X.env = [(false, eval a X.env), (false, eval b X.env)] := by rfl) (hs2 : starEach [b] X.env = [(false, eval b X.env)] := by rfl) :
    PI X tg (.Call (.Name "range" p) [a, b] [] pos) (tI Z W (iArg (fun vs _ => itRng2 vs) d)) :=
  PI.imp (pi_range2 hg hm ha hs hs2) fun σ H R h => iarg_run h fun ρ1 st1 H1 ds vs I s1 r hf k => by
    match ds, hf, r with
    | [.int i, .int j], hf, r =>
      unfold itRng2 at hf
      simp only [] at hf
      split at hf
      · rename_i hj
        cases hf
        rw [Bool.and_eq_true] at hj
        obtain ⟨v, r', rfl, r1, r2⟩ := RVs.cons_iff.mp r
        obtain ⟨v2, r'', rfl, r3, r4⟩ := RVs.cons_iff.mp r2
        have e2 := RVs.nil_iff.mp r4
        subst e2
        exact ⟨i, j, by rw [RV.int_iff.mp r1, RV.int_iff.mp r3], ⟨(rngOk_iff hj.1).1, (rngOk_iff hj.1).2, (rngOk_iff hj.2).1, (rngOk_iff hj.2).2⟩, k _ itR_rng⟩
      · cases hf
/-- enumerate(list), enumerate(text) -/
def itEnum : List DV → Store → Option ItD
  | [.ref a], st => (lstAt st a).map fun _ => .enumL a
  | [.str l], _ => some (.enumS l)
  | _, _ => none
theorem RV.pair {ρ : Rho} {H : Hp} {T : Addr} {d e : DV} {x y : V} (h1 : RV Z ρ H d x) (h2 : RV Z ρ H e y) (hT : H T = none) : RV Z ρ (upd H T (.tup [x, y])) (.tup [d, e]) (.ref T) :=
  RV.tup_iff.mpr ⟨T, [x, y], rfl, .inl upd_same, RVs.cons_iff.mpr ⟨x, [y], rfl, h1.mono Pre.refl (ExtH.new hT), RVs.cons_iff.mpr ⟨y, [], rfl, h2.mono Pre.refl (ExtH.new hT), RVs.nil_iff.mpr rfl⟩⟩⟩
theorem itR_enumL {ρ : Rho} {H : Hp} {n : Nat} {a : Addr} (hp : ρ[n]? = some a) (K : PySem.W.Frag) : ItR Z ρ H (.enumL n) (Ite K a) := by
  intro i ρ' st' H' p e s
  have eq : itNext (.enumL n) i st' = (lstAt st' n).map fun xs => xs[i]?.map fun x => .tup [.int (i : Nat), x] := rfl
  refine ⟨fun h => ?_, fun d h => ?_⟩
  · rw [eq] at h
    cases hl : lstAt st' n with
    | none => rw [hl] at h; cases h
    | some xs =>
      rw [hl] at h
      have hn : (xs[i]?.map fun x => DV.tup [.int (i : Nat), x]) = none := Option.some.inj h
      obtain ⟨vs, h1, h2⟩ := s.sq (K := K) (p _ _ hp) hl
      refine ⟨vs, h1, ?_⟩
      rw [h2.length]
      cases hx : xs[i]? with
      | none => exact List.getElem?_eq_none_iff.mp hx
      | some y => rw [hx] at hn; cases hn
  · rw [eq] at h
    cases hl : lstAt st' n with
    | none => rw [hl] at h; cases h
    | some xs =>
      rw [hl] at h
      have hn : (xs[i]?.map fun x => DV.tup [.int (i : Nat), x]) = some d := Option.some.inj h
      obtain ⟨vs, h1, h2⟩ := s.sq (K := K) (p _ _ hp) hl
      cases hx : xs[i]? with
      | none => rw [hx] at hn; cases hn
      | some y =>
        rw [hx] at hn
        have hd := Option.some.inj hn
        subst hd
        obtain ⟨v, hv, hr⟩ := h2.get hx
        refine ⟨⟨vs, v, h1, hv⟩, fun x H2 yy => ?_⟩
        obtain ⟨T, x', ev, hT, eH, hq⟩ := yy
        have hx' := hq vs h1
        rw [hv] at hx'
        cases hx'
        subst ev; subst eH
        exact ⟨ExtH.new hT, s.new hT, RV.pair (RV.int_iff.mpr rfl) hr hT⟩
theorem itR_enumS {ρ : Rho} {H : Hp} {l : List Nat} : ItR Z ρ H (.enumS l) (ItES ⟨l.toArray⟩) := by
  intro i ρ' st' H' p e s
  have eq : itNext (.enumS l) i st' = if i ≤ l.length then some (l[i]?.map fun c => .tup [.int (i : Nat), .str [c]]) else none := rfl
  refine ⟨fun h => ?_, fun d h => ?_⟩
  · rw [eq] at h
    by_cases hi : i ≤ l.length
    · rw [if_pos hi] at h
      have hn := Option.some.inj h
      show i = l.toArray.size
      cases hx : l[i]? with
      | none =>
        have := List.getElem?_eq_none_iff.mp hx
        rw [List.size_toArray]
        exact Nat.le_antisymm hi this
      | some y => rw [hx] at hn; cases hn
    · rw [if_neg hi] at h; cases h
  · rw [eq] at h
    by_cases hi : i ≤ l.length
    · rw [if_pos hi] at h
      have hn := Option.some.inj h
      cases hx : l[i]? with
      | none => rw [hx] at hn; cases hn
      | some c =>
        rw [hx] at hn
        have hd := Option.some.inj hn
        subst hd
        have hlt : i < l.length := (List.getElem?_eq_some_iff.mp hx).1
        refine ⟨show i < l.toArray.size by simpa using hlt, fun x H2 yy => ?_⟩
        obtain ⟨T, c', ev, hT, eH, hc⟩ := yy
        have : c' = c := by
          have h3 : l.toArray[i]? = some c' := hc
          rw [List.getElem?_toArray, hx] at h3
          exact (Option.some.inj h3).symm
        subst this
        subst ev; subst eH
        exact ⟨ExtH.new hT, s.new hT, RV.pair (RV.int_iff.mpr rfl) (RV.str_iff.mpr rfl) hT⟩
    · rw [if_neg hi] at h; cases h
theorem i_enum {a : Expr} {d : DA} {p pos tpos : Pos} {elts : List Expr} {kk : Nat} (hg : Gl X "enumerate") (hm : X.mg "enumerate" = none) (ha : PA X [a] (tA Z W d)) (hs : starEach [a] X.env = [(false, eval a X.env)] := by rfl) :
    PI X (.Tuple elts kk tpos) (.Call (.Name "enumerate" p) [a] [] pos) (tI Z W (iArg itEnum d)) := by
  refine PI.imp (PI.or (pi_enum hg hm ha hs) (pi_enumS hg hm ha hs)) fun σ H R h => ?_
  obtain ⟨ρ, st, env, re, s, h⟩ := h
  unfold iArg at h
  cases hm : d env st with
  | none => exact absurd h (by unfold bnd; rw [hm]; exact fun z => z)
  | some r =>
    obtain ⟨o, st1⟩ := r
    cases o with
    | er C v =>
      refine .inl ⟨ρ, st, env, re, s, ?_⟩
      unfold bnd at h
      rw [hm] at h ⊢
      exact h
    | ok ds =>
      have h' : RM Z (Wσ W σ) ρ H (ItR Z) ((itEnum ds st1).map fun I => (.ok I, st1)) R := by
        unfold bnd at h
        rw [hm] at h
        exact h
      have go : ∀ (Q : List V → Hp → Prop), (∀ ρ1 H1 x, Pre ρ ρ1 → ExtH H H1 → Sim Z ρ1 st1 H1 → RVs Z ρ1 H1 ds x → Q x H1) → tA Z W d σ H Q := fun Q k =>
        ⟨ρ, st, env, re, s, by rw [hm]; exact fun ρ1 H1 x p e s1 r => k ρ1 H1 x p e s1 r⟩
      match ds, h', go with
      | [.ref n], h', go =>
        refine .inl (go _ fun ρ1 H1 x p e s1 r => ?_)
        obtain ⟨v, r', rfl, r1, r2⟩ := RVs.cons_iff.mp r
        have e2 := RVs.nil_iff.mp r2
        subst e2
        obtain ⟨a, ha, rfl⟩ := RV.ref_iff.mp r1
        cases hl : lstAt st1 n with
        | none =>
          have q : itEnum [.ref n] st1 = (lstAt st1 n).map fun _ => .enumL n := rfl
          rw [q, hl] at h'; exact h'.elim
        | some xs =>
          have q : itEnum [.ref n] st1 = (lstAt st1 n).map fun _ => .enumL n := rfl
          rw [q, hl] at h'
          obtain ⟨vs, h1, h2⟩ := s1.sq (K := X.K) ha hl
          exact ⟨a, vs, rfl, h1, h' ρ1 H1 _ p e s1 (itR_enumL ha X.K)⟩
      | [.str l], h', go =>
        refine .inr (go _ fun ρ1 H1 x p e s1 r => ?_)
        obtain ⟨v, r', rfl, r1, r2⟩ := RVs.cons_iff.mp r
        have e2 := RVs.nil_iff.mp r2
        subst e2
        exact ⟨_, by rw [RV.str_iff.mp r1], h' ρ1 H1 _ p e s1 itR_enumS⟩
/-! ### for -/
def forI (I : ItD) (B : Bd) (body : DS) : Nat → Nat → Ev → Store → Option (SO × Store)
  | 0, _, _, _ => none
  | f + 1, i, env, st => match itNext I i st with
    | none => none
    | some none => some (.nx env, st)
    | some (some d) => match B d st with
      | none => none
      | some bs => match body (setsE env bs) st with
        | some (.nx env', st') => forI I B body f (i + 1) env' st'
        | some (.ct env', st') => forI I B body f (i + 1) env' st'
        | some (.bk env', st') => some (.nx env', st')
        | r => r
def fuel : Nat := 16777300
def sFor (di : DI) (B : Bd) (body : DS) : DS := fun env => ofE (di env) env fun I st => forI I B body fuel 0 env st
theorem s_for {tg iter : Expr} {body : List Stmt} {di : DI} {B : Bd} {db : DS} (hp : PassesOwn (model X.prog X.w) X.A X.env X.xe) (hc : X.calm = true) (hi : PI X tg iter (tI Z W di)) (hg : PG X tg (tGB Z B)) (hb : PSs X body (tS Z W db))
    (hs : ∀ x, foldedSetIterable iter X.env x = pure x := by intro _; rfl) : PS X (.For tg iter body [] pos) (tS Z W (sFor di B db)) := by
  refine PS.imp (ps_for hp hc hi hg hb hs) fun D σ H ⟨ρ, st, env, re, s, h⟩ => ⟨ρ, st, env, re, s, RS.ofE h re fun ρ1 H1 st1 I J p e s1 r h1 => ?_⟩
  refine ⟨fun i m σ' H' => ∃ ρ' st' env', Pre ρ1 ρ' ∧ ExtH H1 H' ∧ Sim Z ρ' st' H' ∧ RE Z ρ' H' env' σ' ∧ RS Z W ρ' H' D (forI I B db m i env' st'), ⟨fuel, ρ1, st1, env, Pre.refl, ExtH.refl, s1, re.mono p e, h1⟩, ?_⟩
  rintro i m σ' H' ⟨ρ', st', env', p', e', s', re', h'⟩
  cases m with
  | zero => exact absurd h' (by unfold forI; exact fun z => z)
  | succ m =>
    unfold forI at h'
    obtain ⟨r1, r2⟩ := r i ρ' st' H' p' e' s'
    cases hn : itNext I i st' with
    | none => rw [hn] at h'; exact h'.elim
    | some o =>
      rw [hn] at h'
      cases o with
      | none => exact .inl ⟨r1 hn, h' ρ' σ' H' Pre.refl ExtH.refl s' re'⟩
      | some d =>
        obtain ⟨hgo, hy⟩ := r2 d hn
        refine .inr ⟨hgo, fun σ2 H2 => ∃ ρ2 st2 env2, Pre ρ1 ρ2 ∧ ExtH H1 H2 ∧ Sim Z ρ2 st2 H2 ∧ RE Z ρ2 H2 env2 σ2 ∧ RS Z W ρ2 H2 D (forI I B db m (i + 1) env2 st2), fun σ2 H2 q => ⟨m, Nat.lt_succ_self m, q⟩, fun x H2 y => ?_⟩
        obtain ⟨e2, s2, rx⟩ := hy x H2 y
        dsimp only at h'
        cases hB : B d st' with
        | none => rw [hB] at h'; exact h'.elim
        | some bs =>
          rw [hB] at h'
          refine ⟨ρ', st', d, bs, s2, rx, hB, fun ws hws => ⟨ρ', st', setsE env' bs, (re'.mono Pre.refl e2).sets hws, s2, ?_⟩⟩
          dsimp only at h'
          cases hbd : db (setsE env' bs) st' with
          | none => rw [hbd] at h'; exact h'.elim
          | some o =>
            obtain ⟨o, st3⟩ := o
            rw [hbd] at h'
            cases o with
            | nx env3 => exact fun ρ3 σ3 H3 p3 e3 s3 re3 => ⟨ρ3, st3, env3, p'.trans p3, e'.trans (e2.trans e3), s3, re3, RS.weak h' p3 (e2.trans e3)⟩
            | ct env3 => exact fun ρ3 σ3 H3 p3 e3 s3 re3 => ⟨ρ3, st3, env3, p'.trans p3, e'.trans (e2.trans e3), s3, re3, RS.weak h' p3 (e2.trans e3)⟩
            | bk env3 => exact fun ρ3 σ3 H3 p3 e3 s3 re3 => h' ρ3 σ3 H3 p3 (e2.trans e3) s3 re3
            | rt v => exact fun ρ3 H3 u p3 e3 s3 r3 => h' ρ3 H3 u p3 (e2.trans e3) s3 r3
            | er C v env3 => exact fun ρ3 σ3 H3 d3 u p3 e3 s3 re3 hd r3 => h' ρ3 σ3 H3 d3 u p3 (e2.trans e3) s3 re3 hd r3
/-! ### while -/
def whlI (c : DT) (body : DS) : Nat → Ev → Store → Option (SO × Store)
  | 0, _, _ => none
  | f + 1, env, st => ofE (c env) env (fun k st1 => if k = true then match body env st1 with
        | some (.nx env', st') => whlI c body f env' st'
        | some (.ct env', st') => whlI c body f env' st'
        | some (.bk env', st') => some (.nx env', st')
        | r => r
      else some (.nx env, st1)) st
def sWhile (c : DT) (body : DS) : DS := whlI c body fuel
theorem s_while {c : Expr} {body : List Stmt} {dc : DT} {db : DS} (hp : PassesOwn (model X.prog X.w) X.A X.env X.xe) (hc : PT X c (tT Z W dc)) (hb : PSs X body (tS Z W db)) : PS X (.While c body [] pos) (tS Z W (sWhile dc db)) := by
  refine PS.imp (ps_while hp hc hb) fun D σ H ⟨ρ, st, env, re, s, h⟩ => ?_
  refine ⟨fun m σ' H' => ∃ ρ' st' env', Pre ρ ρ' ∧ ExtH H H' ∧ Sim Z ρ' st' H' ∧ RE Z ρ' H' env' σ' ∧ RS Z W ρ' H' D (whlI dc db m env' st'), ⟨fuel, ρ, st, env, Pre.refl, ExtH.refl, s, re, h⟩, ?_⟩
  rintro m σ' H' ⟨ρ', st', env', p', e', s', re', h'⟩
  cases m with
  | zero => exact absurd h' (by unfold whlI; exact fun z => z)
  | succ m =>
    unfold whlI at h'
    refine ⟨ρ', st', env', re', s', RS.ofE h' re' fun ρ1 H1 st1 k k' p1 e1 s1 r h1 => ?_⟩
    subst r
    cases k' with
    | false =>
      rw [if_neg Bool.false_ne_true] at h1 ⊢
      exact h1 ρ1 σ' H1 Pre.refl ExtH.refl s1 (re'.mono p1 e1)
    | true =>
      rw [if_pos rfl] at h1 ⊢
      refine ⟨fun σ2 H2 => ∃ ρ2 st2 env2, Pre ρ ρ2 ∧ ExtH H H2 ∧ Sim Z ρ2 st2 H2 ∧ RE Z ρ2 H2 env2 σ2 ∧ RS Z W ρ2 H2 D (whlI dc db m env2 st2), fun σ2 H2 q => ⟨m, Nat.lt_succ_self m, q⟩, ρ1, st1, env', re'.mono p1 e1, s1, ?_⟩
      cases hbd : db env' st1 with
      | none => rw [hbd] at h1; exact h1.elim
      | some o =>
        obtain ⟨o, st3⟩ := o
        rw [hbd] at h1
        cases o with
        | nx env3 => exact fun ρ3 σ3 H3 p3 e3 s3 re3 => ⟨ρ3, st3, env3, p'.trans (p1.trans p3), e'.trans (e1.trans e3), s3, re3, RS.weak h1 p3 e3⟩
        | ct env3 => exact fun ρ3 σ3 H3 p3 e3 s3 re3 => ⟨ρ3, st3, env3, p'.trans (p1.trans p3), e'.trans (e1.trans e3), s3, re3, RS.weak h1 p3 e3⟩
        | bk env3 => exact fun ρ3 σ3 H3 p3 e3 s3 re3 => h1 ρ3 σ3 H3 p3 e3 s3 re3
        | rt v => exact fun ρ3 H3 u p3 e3 s3 r3 => h1 ρ3 H3 u p3 e3 s3 r3
        | er C v env3 => exact fun ρ3 σ3 H3 d3 u p3 e3 s3 re3 hd r3 => h1 ρ3 σ3 H3 d3 u p3 e3 s3 re3 hd r3
end
end SE

/-! SE: comprehensions, defs and calls. -/
namespace SE
open PySem PySem.Spec PyProof.Rows L2

/-! ### list comprehensions -/
def wipeE (env : Ev) : List Nat → Ev
  | [] => env
  | v :: vs => (wipeE env vs).set v none
section
variable {Z : Cz} {ρ : Rho} {H : Hp}
theorem RE.wipe {env : Ev} {σ : L2.St} (re : RE Z ρ H env σ) : ∀ vs : List Nat, RE Z ρ H (wipeE env vs) (wipe σ vs)
  | [] => re
  | v :: vs => (RE.wipe re vs).unset v
theorem wipe_get (σ : L2.St) (j : Nat) : ∀ vs : List Nat, (L2.wipe σ vs)[j]? = if j ∈ vs then σ[j]?.map (fun _ => none) else σ[j]?
  | [] => by simp [L2.wipe]
  | v :: vs => by
    have ih := wipe_get σ j vs
    have e : L2.wipe σ (v :: vs) = (L2.wipe σ vs).set v none := rfl
    rw [e]
    by_cases h : v = j
    · subst h
      rw [List.getElem?_set_self', ih, if_pos (List.mem_cons_self)]
      by_cases hv : v ∈ vs
      · rw [if_pos hv]; cases σ[v]? <;> rfl
      · rw [if_neg hv]; cases σ[v]? <;> rfl
    · rw [List.getElem?_set_ne h, ih]
      have : (j ∈ v :: vs) ↔ j ∈ vs := by simp [Ne.symm h]
      simp only [this]
theorem wipe_set (σ : L2.St) (i : Nat) (x : Option V) (vs : List Nat) (h : i ∈ vs) : L2.wipe (σ.set i x) vs = L2.wipe σ vs := by
  apply List.ext_getElem?
  intro j
  rw [wipe_get, wipe_get]
  by_cases hj : j ∈ vs
  · rw [if_pos hj, if_pos hj]
    by_cases e : i = j
    · subst e; rw [List.getElem?_set_self']; cases σ[i]? <;> rfl
    · rw [List.getElem?_set_ne e]
  · rw [if_neg hj, if_neg hj]
    have e : i ≠ j := fun e => hj (e ▸ h)
    rw [List.getElem?_set_ne e]
theorem wipe_sets : ∀ (ws : List (Nat × V)) (σ : L2.St) (vs : List Nat), (∀ p ∈ ws, p.1 ∈ vs) → L2.wipe (setsS σ ws) vs = L2.wipe σ vs
  | [], _, _, _ => rfl
  | (i, d) :: r, σ, vs, h => by
    show L2.wipe (setsS (σ.set i (some d)) r) vs = _
    rw [wipe_sets r _ vs fun p hp => h p (List.mem_cons_of_mem _ hp), wipe_set _ _ _ _ (h (i, d) List.mem_cons_self)]
theorem wipe_wipe (σ : L2.St) (vs : List Nat) : L2.wipe (L2.wipe σ vs) vs = L2.wipe σ vs := by
  apply List.ext_getElem?
  intro j
  rw [wipe_get, wipe_get]
  by_cases hj : j ∈ vs
  · rw [if_pos hj, if_pos hj]; cases σ[j]? <;> rfl
  · rw [if_neg hj, if_neg hj]
theorem RB.ix : ∀ {bs : List (Nat × DV)} {ws : List (Nat × V)}, RB Z ρ H bs ws → ∀ p ∈ ws, ∃ q ∈ bs, q.1 = p.1
  | [], ws, h, p, hp => by have e : ws = [] := h; subst e; cases hp
  | (i, d) :: r, ws, h, p, hp => by
    obtain ⟨v, r', rfl, h1, h2⟩ := (show ∃ v r', ws = (i, v) :: r' ∧ RV Z ρ H d v ∧ RB Z ρ H r r' from h)
    rcases List.mem_cons.mp hp with e | hp
    · subst e; exact ⟨(i, d), List.mem_cons_self, rfl⟩
    · obtain ⟨q, hq, e⟩ := RB.ix h2 p hp
      exact ⟨q, List.mem_cons_of_mem _ hq, e⟩
end
/-- the target's names are among vs -/
def BIn (B : Bd) (vs : List Nat) : Prop := ∀ d st bs, B d st = some bs → ∀ p ∈ bs, p.1 ∈ vs
def BsIn (R : List DV → Store → Option (List (Nat × DV))) (vs : List Nat) : Prop := ∀ d st bs, R d st = some bs → ∀ p ∈ bs, p.1 ∈ vs
theorem bin_name {i : Nat} {vs : List Nat} (h : i ∈ vs) : BIn (bName i) vs := fun d st bs e p hp => by
  have e' : bs = [(i, d)] := (Option.some.inj e).symm
  subst e'
  have : p = (i, d) := by simpa using hp
  subst this; exact h
theorem bsin_nil {vs : List Nat} : BsIn bsNil vs := fun ds st bs e p hp => by
  match ds, e with
  | [], e => have e' : bs = [] := (Option.some.inj e).symm; subst e'; cases hp
theorem bsin_cons {B : Bd} {R : List DV → Store → Option (List (Nat × DV))} {vs : List Nat} (h1 : BIn B vs) (h2 : BsIn R vs) : BsIn (bsCons B R) vs := fun ds st bs e p hp => by
  match ds, e with
  | d :: ds, e =>
    unfold bsCons at e
    simp only [] at e
    cases hb : B d st with
    | none => rw [hb] at e; cases e
    | some b =>
      rw [hb] at e
      simp only [] at e
      cases hc : R ds st with
      | none => rw [hc] at e; cases e
      | some c =>
        rw [hc] at e
        have e' : bs = b ++ c := (Option.some.inj e).symm
        subst e'
        rcases List.mem_append.mp hp with hp | hp
        · exact h1 _ _ _ hb p hp
        · exact h2 _ _ _ hc p hp
theorem bin_tup {n : Nat} {R : List DV → Store → Option (List (Nat × DV))} {vs : List Nat} (h : BsIn R vs) : BIn (bTup n R) vs := fun d st bs e p hp => by
  unfold bTup at e
  split at e
  · split at e
    · exact h _ _ _ e p hp
    · cases e
  · split at e
    · split at e
      · exact h _ _ _ e p hp
      · cases e
    · cases e
  · cases e
def compI (I : ItD) (B : Bd) (tt : DT) (te : DE) (env : Ev) (n0 : Nat) : Nat → Nat → Store → Option (Out DV × Store)
  | 0, _, _ => none
  | f + 1, i, st => match itNext I i st with
    | none => none
    | some none => some (.ok (.ref n0), st)
    | some (some d) => match B d st with
      | none => none
      | some bs => match tt (setsE env bs) st with
        | some (.ok true, st1) => match te (setsE env bs) st1 with
          | some (.ok y, st2) => match st2.get n0 with
            | some (.lst acc) => if acc.length < sizeLine then compI I B tt te env n0 f (i + 1) (st2.set n0 (.lst (acc ++ [y]))) else none
            | _ => none
          | _ => none
        | some (.ok false, st1) => compI I B tt te env n0 f (i + 1) st1
        | _ => none
def dLc (di : DI) (B : Bd) (tt : DT) (te : DE) (vs : List Nat) : DE := fun env => bnd (di env) fun I st => compI I B tt te (wipeE env vs) st.size fuel 0 (st.push (.lst []))
def dYes : DT := fun _ => ret true
abbrev W0 : WX := fun _ _ _ _ => False
section
variable {X : Cx} {Z : Cz} {W : WX} {pos : Pos}
theorem PTs.imp {ifs : List Expr} {t t' : TT} (h : PTs X ifs t) (k : ∀ σ H Q, t' σ H Q → t σ H Q) : PTs X ifs t' := ⟨fun pins s σ H Q I hw => h.run pins s σ H Q I (k σ H Q hw)⟩
theorem c_nil : PTs X [] (tT Z W dYes) := PTs.imp pts_nil fun σ H Q ⟨ρ, st, env, re, s, h⟩ => h.ok s rfl
theorem c_one {c : Expr} {d : DT} (h : PT X c (tT Z W d)) : PTs X [c] (tT Z W d) := pts_one h
theorem lc_run {di : DI} {B : Bd} {tt : DT} {te : DE} {vs : List Nat} (hB : BIn B vs) {σ : L2.St} {H : Hp} {Q : VK} (h : tE Z W (dLc di B tt te vs) σ H Q) : tLc (tI Z W di) (tGB Z B) (tT Z W0 tt) (tE Z W0 te) vs σ H Q := by
  obtain ⟨ρ, st, env, re, s, h⟩ := h
  refine ⟨ρ, st, env, re, s, RM.bnd h fun ρ1 H1 st1 I J p1 e1 s1 r1 h1 => ?_⟩
  intro D hD
  have sD : Sim Z (ρ1 ++ [D]) (st1.push (.lst [])) (upd H1 D (.lst [])) := s1.make hD ⟨[], upd_same, RVs.nil_iff.mpr rfl⟩
  have hn0 : (ρ1 ++ [D])[st1.size]? = some D := by rw [List.getElem?_append_right (by rw [s1.len]; exact Nat.le_refl _), s1.len, Nat.sub_self]; rfl
  have wre := (re.mono p1 e1).wipe vs
  refine ⟨fun i m H' => ∃ ρ' st', Pre (ρ1 ++ [D]) ρ' ∧ ExtH H1 H' ∧ Sim Z ρ' st' H' ∧ RM Z (Wσ W σ) ρ' H' (RV Z) (compI I B tt te (wipeE env vs) st1.size m i st') Q,
    ⟨fuel, ρ1 ++ [D], _, Pre.refl, ExtH.new hD, sD, RM.weak h1 Pre.app (ExtH.new hD)⟩, ?_⟩
  rintro i m H' ⟨ρ', st', p', e', s', h'⟩
  cases m with
  | zero => exact absurd h' (by unfold compI; exact fun z => z)
  | succ m =>
    unfold compI at h'
    obtain ⟨q1, q2⟩ := r1 i ρ' st' H' (Pre.app.trans p') e' s'
    cases hn : itNext I i st' with
    | none => rw [hn] at h'; exact h'.elim
    | some o =>
      rw [hn] at h'
      cases o with
      | none => exact .inl ⟨q1 hn, h' ρ' H' _ Pre.refl ExtH.refl s' (RV.ref_iff.mpr ⟨D, p' _ _ hn0, rfl⟩)⟩
      | some d =>
        obtain ⟨hgo, hy⟩ := q2 d hn
        refine .inr ⟨hgo, fun H2 => ∃ ρ2 st2, Pre (ρ1 ++ [D]) ρ2 ∧ ExtH H1 H2 ∧ Sim Z ρ2 st2 H2 ∧ RM Z (Wσ W σ) ρ2 H2 (RV Z) (compI I B tt te (wipeE env vs) st1.size m (i + 1) st2) Q, fun H2 q => ⟨m, Nat.lt_succ_self m, q⟩, fun x H2 y => ?_⟩
        obtain ⟨e2, s2, rx⟩ := hy x H2 y
        dsimp only at h'
        cases hb : B d st' with
        | none => rw [hb] at h'; exact h'.elim
        | some bs =>
          rw [hb] at h'
          dsimp only at h'
          refine ⟨ρ', st', d, bs, s2, rx, hb, fun ws hws => ⟨?_, ?_⟩⟩
          · rw [wipe_sets, wipe_wipe]
            intro p hp
            obtain ⟨q, hq, eq⟩ := RB.ix hws p hp
            rw [← eq]
            exact hB _ _ _ hb q hq
          · have wre2 : RE Z ρ' H2 (setsE (wipeE env vs) bs) (setsS (L2.wipe σ vs) ws) := RE.sets (wre.mono (Pre.app.trans p') (e'.trans e2)) hws
            refine ⟨ρ', st', _, wre2, s2, ?_⟩
            cases ht : tt (setsE (wipeE env vs) bs) st' with
            | none => rw [ht] at h'; exact h'.elim
            | some o =>
              obtain ⟨o, st3⟩ := o
              rw [ht] at h'
              cases o with
              | er C v => exact h'.elim
              | ok k =>
                intro ρ3 H3 k' p3 e3 s3 ek
                subst ek
                cases k' with
                | false =>
                  rw [if_neg Bool.false_ne_true]
                  exact ⟨ρ3, st3, p'.trans p3, e'.trans (e2.trans e3), s3, RM.weak h' p3 (e2.trans e3)⟩
                | true =>
                  rw [if_pos rfl]
                  refine ⟨ρ3, st3, _, wre2.mono p3 e3, s3, ?_⟩
                  dsimp only at h'
                  cases hte : te (setsE (wipeE env vs) bs) st3 with
                  | none => rw [hte] at h'; exact h'.elim
                  | some o =>
                    obtain ⟨o, st4⟩ := o
                    rw [hte] at h'
                    cases o with
                    | er C v => exact h'.elim
                    | ok yv =>
                      intro ρ4 H4 u p4 e4 s4 ru
                      dsimp only at h'
                      cases hg : st4.get st1.size with
                      | none => rw [hg] at h'; exact h'.elim
                      | some ob =>
                        rw [hg] at h'
                        cases ob with
                        | lst acc =>
                          dsimp only at h'
                          have hD4 := p4 _ _ (p3 _ _ (p' _ _ hn0))
                          obtain ⟨ws4, hw1, hw2⟩ := s4.obj _ _ _ hD4 hg
                          by_cases hl : acc.length < sizeLine
                          · rw [if_pos hl] at h'
                            have ex : ExtH H4 (upd H4 D (.lst (ws4 ++ [u]))) := ExtH.mut hw1 fun z => z
                            refine ⟨ws4, hw1, by rw [hw2.length]; exact hl, ρ4, _, p'.trans (p3.trans p4), e'.trans (e2.trans (e3.trans (e4.trans ex))), ?_, RM.weak h' (p3.trans p4) (e2.trans (e3.trans (e4.trans ex)))⟩
                            exact s4.wr hD4 hw1 trivial (Store.get_lt hg) ⟨ws4 ++ [u], upd_same, RVs.append (hw2.mono Pre.refl ex) (RVs.cons_iff.mpr ⟨u, [], rfl, ru.mono Pre.refl ex, RVs.nil_iff.mpr rfl⟩)⟩
                          · rw [if_neg hl] at h'; exact h'.elim
                        | dct _ => exact h'.elim
                        | ins _ _ => exact h'.elim
                        | exc _ _ => exact h'.elim
theorem e_lc {elt tg iter : Expr} {ifs : List Expr} {scope : Scope} {own : List (Str × Nat)} {di : DI} {B : Bd} {tt : DT} {te : DE} (hc : X.calm = true) (hN : X.N.Nodup) (hi : PI X tg iter (tI Z W di)) (ok : BlkOk X.N X.env.scope scope own) (hB : BIn B (own.map (·.2)))
    (hg : ∀ (s : Shared) (H : Hp) (C : Addr) (cl : List (Str × Addr)) (fp : List Addr), PG (X.blk s H scope (compEnvC scope cl C X.env) fp) tg (tGB Z B)) (ht : ∀ (s : Shared) (H : Hp) (C : Addr) (cl : List (Str × Addr)) (fp : List Addr), PTs (X.blk s H scope (compEnvC scope cl C X.env) fp) ifs (tT Z W0 tt))
    (he : ∀ (s : Shared) (H : Hp) (C : Addr) (cl : List (Str × Addr)) (fp : List Addr), PE (X.blk s H scope (compEnvC scope cl C X.env) fp) elt (tE Z W0 te)) (hs : ∀ x, foldedSetIterable iter X.env x = pure x := by intro _; rfl) :
    PE X (.ListComp elt [⟨tg, iter, ifs, 0⟩] scope pos) (tE Z W (dLc di B tt te (own.map (·.2)))) :=
  PE.imp (pe_lc hc hN hi ok hg ht he hs) fun _ _ _ h => lc_run hB h
theorem s_setLc {i : Nat} {y : Str} {py : Pos} {elt tg iter : Expr} {ifs : List Expr} {scope : Scope} {own : List (Str × Nat)} {spos : Pos} {di : DI} {B : Bd} {tt : DT} {te : DE} (hc : X.calm = true) (hN : X.N.Nodup) (hy : X.N[i]? = some y) (hyl : X.env.scope.names.lookup y = some .local)
    (hsw : swapsWith (.ListComp elt [⟨tg, iter, ifs, 0⟩] scope pos) (some (.Name y py)) spos.line X.env = pure true) (hi : PI X tg iter (tI Z W di)) (ok : BlkOk X.N X.env.scope scope own) (hB : BIn B (own.map (·.2)))
    (hg : ∀ (s : Shared) (H : Hp) (C : Addr) (cl : List (Str × Addr)) (fp : List Addr), PG (X.blk s H scope (compEnvC scope cl C X.env) fp) tg (tGB Z B)) (ht : ∀ (s : Shared) (H : Hp) (C : Addr) (cl : List (Str × Addr)) (fp : List Addr), PTs (X.blk s H scope (compEnvC scope cl C X.env) fp) ifs (tT Z W0 tt))
    (he : ∀ (s : Shared) (H : Hp) (C : Addr) (cl : List (Str × Addr)) (fp : List Addr), PE (X.blk s H scope (compEnvC scope cl C X.env) fp) elt (tE Z W0 te)) (hs : ∀ x, foldedSetIterable iter X.env x = pure x := by intro _; rfl) :
    PS X (.Assign [.Name y py] (.ListComp elt [⟨tg, iter, ifs, 0⟩] scope pos) spos) (tS Z W (sSet i (dLc di B tt te (own.map (·.2))))) :=
  PS.imp (ps_setLc hc hN hy hyl hsw hi ok hg ht he hs) fun D σ H h => by
    have h2 := set_run h
    show tLc _ _ _ _ _ σ H _
    exact lc_run hB h2
end
end SE

/-! SE: defs, calls, the law's end. -/
namespace SE
open PySem PySem.Spec PyProof.Rows L2

/-- what a def promises: it does what g does -/
def spS (Z : Cz) (g : List DV → MM DV) (n : Nat) : Sp := fun vs H Q E => vs.length = n ∧ ∃ ρ st ds, Sim Z ρ st H ∧ RVs Z ρ H ds vs ∧ RM Z E ρ H (RV Z) (g ds st) Q
def startE (n : Nat) (ds : List DV) : Ev := ds.map some ++ List.replicate (n - ds.length) none
/-- a def by its body -/
def defG (n : Nat) (db : DS) : List DV → MM DV := fun ds st => match db (startE n ds) st with
  | some (.nx _, st') => some (.ok .non, st')
  | some (.rt v, st') => some (.ok v, st')
  | some (.er C v _, st') => some (.er C v, st')
  | _ => none
theorem re_start {Z : Cz} {ρ : Rho} {H : Hp} {N : List Str} {ds : List DV} {vs : List V} (r : RVs Z ρ H ds vs) : RE Z ρ H (startE N.length ds) (L2.start N vs) := by
  have hl := r.length
  refine ⟨by simp [startE, L2.start, hl], fun i d h => ?_⟩
  unfold startE at h
  unfold L2.start
  by_cases hi : i < ds.length
  · rw [List.getElem?_append_left (by simpa using hi), List.getElem?_map] at h
    cases e : ds[i]? with
    | none => rw [e] at h; cases h
    | some d' =>
      rw [e] at h
      have h1 : d' = d := Option.some.inj (Option.some.inj h)
      subst h1
      obtain ⟨v, hv, rv⟩ := r.get e
      refine ⟨v, ?_, rv⟩
      rw [List.getElem?_append_left (by simpa [hl] using hi), List.getElem?_map, hv]
      rfl
  · rw [List.getElem?_append_right (by simpa using Nat.le_of_not_lt hi), List.getElem?_replicate] at h
    split at h <;> cases h
section
variable {P : Program} {w : World} {K : PySem.W.Frag} {mg : Str → Option Value} {base : Heap} {Z : Cz}
theorem fn_ok {x qual : Str} {st : Stmt} {f : Addr} {fd : FuncData} {N ps : List Str} {k : Nat} {db : DS} (F : Fun K x qual st f fd) (S : FnScope N ps (defScope st))
    (hb : ∀ (cdv : Value) (A : Around) (outer : List Env) (s : Shared) (H : Hp) (E : XK), Room k (A.deeper (envOfC qual (defScope st) s.heap.objs.size f cdv)) →
      PSs (cxOf (L2.CX P w) P w K mg base N qual (defScope st) f cdv A outer s H E) (defBody st) (tS Z (fun c d _ H => E c d H) db)) :
    FnOk P w K mg base (L2.CX P w) (k + 1) f fd ps (spS Z (defG N.length db) ps.length) := by
  refine F.okX S (fun vs H Q E h => h.1) fun cdv A outer s H vs Q E hr h => ⟨_, hb cdv A outer s H E hr, ?_⟩
  obtain ⟨_, ρ, st, ds, sim, r, rm⟩ := h
  refine ⟨ρ, st, startE N.length ds, re_start r, sim, ?_⟩
  unfold defG at rm
  cases hd : db (startE N.length ds) st with
  | none => rw [hd] at rm; exact rm.elim
  | some o =>
    obtain ⟨o, st'⟩ := o
    rw [hd] at rm
    cases o with
    | nx env => exact fun ρ' σ' H' p e s re => rm ρ' H' .non p e s (RV.non_iff.mpr rfl)
    | rt v => exact fun ρ' H' u p e s r => rm ρ' H' u p e s r
    | bk env => exact rm.elim
    | ct env => exact rm.elim
    | er C v env => exact fun ρ' σ' H' d u p e s re hd r => rm ρ' H' d u p e s hd r
end
section
variable {X : Cx} {Z : Cz} {W : WX} {pos : Pos}
def dCall (g : List DV → MM DV) (da : DA) : DE := fun env => bnd (da env) g
theorem call_run {g : List DV → MM DV} {da : DA} {n : Nat} {σ : L2.St} {H : Hp} {Q : VK} (hn : ∀ (env : Ev) (st : Store) ds st', da env st = some (.ok ds, st') → ds.length = n)
    (h : tE Z W (dCall g da) σ H Q) : tA Z W da σ H fun vs H1 => spS Z g n vs H1 Q (WE W σ) := by
  obtain ⟨ρ, st, env, re, s, rm⟩ := h
  unfold dCall bnd at rm
  refine ⟨ρ, st, env, re, s, ?_⟩
  cases hd : da env st with
  | none => rw [hd] at rm; exact rm
  | some o =>
    obtain ⟨o, st'⟩ := o
    rw [hd] at rm
    cases o with
    | er C v => exact rm
    | ok ds => exact fun ρ' H' vs p e s' r => ⟨r.length.trans (hn _ _ _ _ hd), ρ', st', ds, s', r, RM.weak rm p e⟩
theorem bnd_ok {α β : Type} {m : MM α} {f : α → MM β} {st st' : Store} {b : β} (h : bnd m f st = some (.ok b, st')) : ∃ a st1, m st = some (.ok a, st1) ∧ f a st1 = some (.ok b, st') := by
  unfold bnd at h
  cases hm : m st with
  | none => rw [hm] at h; cases h
  | some o =>
    obtain ⟨o, st1⟩ := o
    rw [hm] at h
    cases o with
    | ok a => exact ⟨a, st1, rfl, h⟩
    | er C v => cases h
def ALen (da : DA) (n : Nat) : Prop := ∀ (env : Ev) (st : Store) (ds : List DV) (st' : Store), da env st = some (.ok ds, st') → ds.length = n
theorem alen_nil : ALen aNil 0 := fun env st ds st' h => by
  have h2 : some (Out.ok ([] : List DV), st) = some (.ok ds, st') := h
  cases h2; rfl
theorem alen_cons {d : DE} {r : DA} {n : Nat} (h : ALen r n) : ALen (aCons d r) (n + 1) := fun env st ds st' e => by
  obtain ⟨a, st1, _, e2⟩ := bnd_ok e
  obtain ⟨b, st2, h3, e4⟩ := bnd_ok e2
  have h4 : some (Out.ok (a :: b), st2) = some (.ok ds, st') := e4
  cases h4
  simp [h _ _ _ _ h3]
variable {k : Nat} {f : Addr} {fd : FuncData} {ps : List Str} {g : List DV → MM DV} {x : Str} {p : Pos} {e : Expr} {es : List Expr} {da : DA} {n : Nat}
theorem e_call (F : FnOk X.prog X.w X.K X.mg X.base (L2.CX X.prog X.w) k f fd ps (spS Z g n)) (hr : Room k X.A) (hg : Gl X x) (hm : X.mg x = some (.ref f)) (hk : PySem.W.keepIn X.K (.ref f) = true) (hb : Binds X.K fd ps []) (tk : Takes X W) (hn : ALen da n)
    (ha : PA X (e :: es) (tA Z W da)) (hdb : (x == ("__debug__" : Str)) = false := by decide) (he : starEach (e :: es) X.env = (false, eval e X.env) :: starEach es X.env := by rfl) (hpl : (backTo pos (starEach es X.env)).any (·.1) = false := by rfl) :
    PE X (.Call (.Name x p) (e :: es) [] pos) (tE Z W (dCall g da)) :=
  PE.imp (pe_callS F hr hg hm hk hb (fun σ => passAt tk σ) ha hdb he hpl) fun _ _ _ h => call_run hn h
theorem e_call0 (F : FnOk X.prog X.w X.K X.mg X.base (L2.CX X.prog X.w) k f fd ps (spS Z g 0)) (hr : Room k X.A) (hg : Gl X x) (hm : X.mg x = some (.ref f)) (hk : PySem.W.keepIn X.K (.ref f) = true) (hb : Binds X.K fd ps []) (tk : Takes X W)
    (hdb : (x == ("__debug__" : Str)) = false := by decide) : PE X (.Call (.Name x p) [] [] pos) (tE Z W (dCall g aNil)) := by
  refine ⟨fun pins s σ H Q I h => ?_⟩
  obtain ⟨ρ, st, env, re, sim, rm⟩ := h
  refine wpAny_Call_Name_kw (ld_glob I hg hm ?_ hdb)
  refine PySem.W.callWith_K0 I.kIn hk (run_fnS (us := []) (vs := []) (E := WE W) F hr hb (passAt tk σ) I .nil ⟨rfl, ρ, st, [], sim, RVs.nil_iff.mpr rfl, rm⟩)
/-! built-in functions, by values -/
def SC (Z : Cz) (r : List V → Hp → VK → Prop) (f : List DV → MM DV) : Prop := ∀ (W : Value → Option Addr → Hp → Prop) (ρ : Rho) (st : Store) (H : Hp) (ds : List DV) (vs : List V) (Q : VK), Sim Z ρ st H → RVs Z ρ H ds vs → RM Z W ρ H (RV Z) (f ds st) Q → r vs H Q
theorem sc_run {r : List V → Hp → VK → Prop} (hf : SC Z r g) {σ : L2.St} {H : Hp} {Q : VK} (h : tE Z W (dCall g da) σ H Q) : tCB r (tA Z W da) σ H Q := by
  obtain ⟨ρ, st, env, re, s, rm⟩ := h
  exact ⟨ρ, st, env, re, s, RM.bnd rm fun ρ1 H1 st1 ds vs p e s1 r1 h1 => hf _ ρ1 st1 H1 ds vs Q s1 r1 h1⟩
theorem e_callB {id : String} {r : List V → Hp → VK → Prop} (hc : CallR X (.builtin id) r) (hf : SC Z r g) (hg : Gl X x) (hm : X.mg x = none) (hv : bootBuiltins x = some (.builtin id)) (ha : PA X (e :: es) (tA Z W da)) (hn : x ≠ "__name__" := by decide) (hdb : (x == ("__debug__" : Str)) = false := by decide)
    (he : starEach (e :: es) X.env = (false, eval e X.env) :: starEach es X.env := by rfl) (hpl : (backTo pos (starEach es X.env)).any (·.1) = false := by rfl) : PE X (.Call (.Name x p) (e :: es) [] pos) (tE Z W (dCall g da)) :=
  PE.imp (pe_callB hc hg hm hv ha hn hdb he hpl) fun _ _ _ h => sc_run hf h
theorem e_callTy {T : String} {r : List V → Hp → VK → Prop} (hc : CallR X (.type T) r) (hf : SC Z r g) (hg : Gl X x) (hm : X.mg x = none) (hv : bootBuiltins x = some (.type T)) (ha : PA X (e :: es) (tA Z W da)) (hn : x ≠ "__name__" := by decide) (hdb : (x == ("__debug__" : Str)) = false := by decide)
    (he : starEach (e :: es) X.env = (false, eval e X.env) :: starEach es X.env := by rfl) (hpl : (backTo pos (starEach es X.env)).any (·.1) = false := by rfl) : PE X (.Call (.Name x p) (e :: es) [] pos) (tE Z W (dCall g da)) :=
  PE.imp (pe_callTy hc hg hm hv ha hn hdb he hpl) fun _ _ _ h => sc_run hf h
/-! displays -/
def dTup (da : DA) : DE := fun env => bnd (da env) fun xs => if xs.length ≤ sizeLine then ret (.tup xs) else stuck
def dLst (da : DA) : DE := fun env => bnd (da env) fun xs => if xs.length ≤ sizeLine then (fun st => some (.ok (.ref st.size), st.push (.lst xs))) else stuck
theorem RM.newL {W : Value → Option Addr → Hp → Prop} {ρ : Rho} {st : Store} {H : Hp} {xs : List DV} {vs : List V} {Q : VK} (rm : RM Z W ρ H (RV Z) (some (.ok (.ref st.size), st.push (.lst xs))) Q) (s : Sim Z ρ st H) (r : RVs Z ρ H xs vs) : ∀ p, H p = none → Q (.ref p) (upd H p (.lst vs)) := fun p hp =>
  rm (ρ ++ [p]) _ _ Pre.app (ExtH.new hp) (s.make hp ⟨vs, upd_same, r.mono Pre.app (ExtH.new hp)⟩) s.newRef
theorem RM.newT {W : Value → Option Addr → Hp → Prop} {ρ : Rho} {st : Store} {H : Hp} {xs : List DV} {vs : List V} {Q : VK} (rm : RM Z W ρ H (RV Z) (some (.ok (.tup xs), st)) Q) (s : Sim Z ρ st H) (r : RVs Z ρ H xs vs) : ∀ p, H p = none → Q (.ref p) (upd H p (.tup vs)) := fun p hp =>
  rm ρ _ _ Pre.refl (ExtH.new hp) (s.new hp) (RV.tup_iff.mpr ⟨p, vs, rfl, .inl upd_same, r.mono Pre.refl (ExtH.new hp)⟩)
/-- a list at n, at a in the heap, gets other items -/
theorem RM.wrL {W : Value → Option Addr → Hp → Prop} {ρ : Rho} {st : Store} {H : Hp} {n : Nat} {a : Addr} {d : DV} {v : V} {xs : List DV} {ws vs : List V} {Q : VK} (rm : RM Z W ρ H (RV Z) (some (.ok d, st.set n (.lst xs))) Q) (s : Sim Z ρ st H) (hn : ρ[n]? = some a) (ha : H a = some (.lst ws)) (hlt : n < st.size)
    (r : RVs Z ρ H xs vs) (hd : RV Z ρ H d v) : Q v (upd H a (.lst vs)) :=
  rm ρ _ _ Pre.refl (ExtH.mut ha fun z => z) (s.wr hn ha trivial hlt ⟨vs, upd_same, r.mono Pre.refl (ExtH.mut ha fun z => z)⟩) (hd.mono Pre.refl (ExtH.mut ha fun z => z))
theorem e_tup {x1} (h : PA X es (tA Z W da)) : PE X (.Tuple es x1 pos) (tE Z W (dTup da)) :=
  PE.imp (pe_tup h) fun σ H Q ⟨ρ, st, env, re, s, rm⟩ => ⟨ρ, st, env, re, s, RM.bnd rm fun ρ1 H1 st1 ds vs p e s1 r1 h1 => by
    by_cases hl : ds.length ≤ sizeLine
    · rw [if_pos hl] at h1
      exact ⟨by rw [r1.length]; exact hl, RM.newT h1 s1 r1⟩
    · rw [if_neg hl] at h1; exact h1.elim⟩
theorem e_lst (h : PA X es (tA Z W da)) : PE X (.List es pos) (tE Z W (dLst da)) :=
  PE.imp (pe_lst h) fun σ H Q ⟨ρ, st, env, re, s, rm⟩ => ⟨ρ, st, env, re, s, RM.bnd rm fun ρ1 H1 st1 ds vs p e s1 r1 h1 => by
    by_cases hl : ds.length ≤ sizeLine
    · rw [if_pos hl] at h1
      exact ⟨by rw [r1.length]; exact hl, RM.newL h1 s1 r1⟩
    · rw [if_neg hl] at h1; exact h1.elim⟩
/-! and, or, not, a if t else b -/
def tAndD (a b : DT) : DT := fun env => bnd (a env) fun k => if k = true then b env else ret false
def tOrD (a b : DT) : DT := fun env => bnd (a env) fun k => if k = true then ret true else b env
def tNotD (a : DT) : DT := fun env => bnd (a env) fun k => ret (!k)
theorem PW.imp {X : Cx} {e : Expr} {t t' : TT} (h : PW X e t) (k : ∀ σ H Q, t' σ H Q → t σ H Q) : PW X e t' := ⟨fun wh pins s σ H Q I hw => h.run wh pins s σ H Q I (k σ H Q hw)⟩
variable {a b : Expr} {rest : List Expr} {ta tb : DT}
theorem w_and1 (ha : PT X a (tT Z W ta)) : PW X (.BoolOp .And [a] pos) (tT Z W ta) := pw_and1 ha
theorem w_or1 (ha : PT X a (tT Z W ta)) : PW X (.BoolOp .Or [a] pos) (tT Z W ta) := pw_or1 ha
theorem w_and (ha : PT X a (tT Z W ta)) (hb : PW X (.BoolOp .And (b :: rest) pos) (tT Z W tb)) : PW X (.BoolOp .And (a :: b :: rest) pos) (tT Z W (tAndD ta tb)) :=
  PW.imp (pw_and ha hb) fun σ H Q ⟨ρ, st, env, re, s, rm⟩ => ⟨ρ, st, env, re, s, RM.bnd rm fun ρ1 H1 st1 k k' p e s1 r1 h1 => by
    subst r1
    cases k' with
    | true => exact ⟨ρ1, st1, env, re.mono p e, s1, h1⟩
    | false => exact h1.ok s1 rfl⟩
theorem w_or (ha : PT X a (tT Z W ta)) (hb : PW X (.BoolOp .Or (b :: rest) pos) (tT Z W tb)) : PW X (.BoolOp .Or (a :: b :: rest) pos) (tT Z W (tOrD ta tb)) :=
  PW.imp (pw_or ha hb) fun σ H Q ⟨ρ, st, env, re, s, rm⟩ => ⟨ρ, st, env, re, s, RM.bnd rm fun ρ1 H1 st1 k k' p e s1 r1 h1 => by
    subst r1
    cases k' with
    | true => exact h1.ok s1 rfl
    | false => exact ⟨ρ1, st1, env, re.mono p e, s1, h1⟩⟩
theorem t_not (ha : PT X a (tT Z W ta)) : PT X (.UnaryOp .Not a pos) (tT Z W (tNotD ta)) :=
  PT.imp (pt_not ha) fun σ H Q ⟨ρ, st, env, re, s, rm⟩ => ⟨ρ, st, env, re, s, RM.bnd rm fun ρ1 H1 st1 k k' p e s1 r1 h1 => by subst r1; exact h1.ok s1 rfl⟩
def dAndD (a b : DE) : DE := fun env => bnd (a env) fun v => bnd (lift (asB v)) fun k => if k = true then b env else ret (.bl false)
def dOrD (a b : DE) : DE := fun env => bnd (a env) fun v => bnd (lift (asB v)) fun k => if k = true then ret (.bl true) else b env
def dNotD (a : DE) : DE := fun env => bnd (a env) fun v => bnd (lift (asB v)) fun k => ret (.bl (!k))
variable {xa xb : DE}
theorem RM.asB {W : Value → Option Addr → Hp → Prop} {ρ : Rho} {H : Hp} {v : DV} {α β : Type} {R : Rho → Hp → α → β → Prop} {f : Bool → MM α} {st : Store} {Q : β → Hp → Prop} (rm : RM Z W ρ H R (SE.bnd (SE.lift (SE.asB v)) f st) Q) : ∃ k, v = .bl k ∧ RM Z W ρ H R (f k st) Q := by
  cases hv : SE.asB v with
  | none => rw [hv] at rm; exact rm.elim
  | some k => rw [hv] at rm; exact ⟨k, asB_iff hv, rm⟩
theorem e_one {op} (h : PE X a (tE Z W xa)) : PE X (.BoolOp op [a] pos) (tE Z W xa) := pe_one h
theorem e_and (ha : PE X a (tE Z W xa)) (hb : PE X (.BoolOp .And (b :: rest) pos) (tE Z W xb)) : PE X (.BoolOp .And (a :: b :: rest) pos) (tE Z W (dAndD xa xb)) :=
  PE.imp (pe_and ha hb) fun σ H Q ⟨ρ, st, env, re, s, rm⟩ => ⟨ρ, st, env, re, s, RM.bnd rm fun ρ1 H1 st1 v x p e s1 r1 h1 => by
    obtain ⟨k, rfl, h1⟩ := RM.asB h1
    refine ⟨k, RV.bl_iff.mp r1, ?_⟩
    cases k with
    | true => exact ⟨ρ1, st1, env, re.mono p e, s1, h1⟩
    | false => exact h1.ok s1 (RV.bl_iff.mpr rfl)⟩
theorem e_or (ha : PE X a (tE Z W xa)) (hb : PE X (.BoolOp .Or (b :: rest) pos) (tE Z W xb)) : PE X (.BoolOp .Or (a :: b :: rest) pos) (tE Z W (dOrD xa xb)) :=
  PE.imp (pe_or ha hb) fun σ H Q ⟨ρ, st, env, re, s, rm⟩ => ⟨ρ, st, env, re, s, RM.bnd rm fun ρ1 H1 st1 v x p e s1 r1 h1 => by
    obtain ⟨k, rfl, h1⟩ := RM.asB h1
    refine ⟨k, RV.bl_iff.mp r1, ?_⟩
    cases k with
    | true => exact h1.ok s1 (RV.bl_iff.mpr rfl)
    | false => exact ⟨ρ1, st1, env, re.mono p e, s1, h1⟩⟩
theorem e_not (ha : PE X a (tE Z W xa)) : PE X (.UnaryOp .Not a pos) (tE Z W (dNotD xa)) :=
  PE.imp (pe_not ha) fun σ H Q ⟨ρ, st, env, re, s, rm⟩ => ⟨ρ, st, env, re, s, RM.bnd rm fun ρ1 H1 st1 v x p e s1 r1 h1 => by
    obtain ⟨k, rfl, h1⟩ := RM.asB h1
    exact ⟨k, RV.bl_iff.mp r1, h1.ok s1 (RV.bl_iff.mpr rfl)⟩⟩
def dIf (c : DT) (a b : DE) : DE := fun env => bnd (c env) fun k => if k = true then a env else b env
theorem e_if {c : Expr} {tc : DT} (hc : PT X c (tT Z W tc)) (ha : PE X a (tE Z W xa)) (hb : PE X b (tE Z W xb)) : PE X (.IfExp c a b pos) (tE Z W (dIf tc xa xb)) :=
  PE.imp (pe_ifExp hc ha hb) fun σ H Q ⟨ρ, st, env, re, s, rm⟩ => ⟨ρ, st, env, re, s, RM.bnd rm fun ρ1 H1 st1 k k' p e s1 r1 h1 => by
    subst r1
    cases k' with
    | true => exact ⟨ρ1, st1, env, re.mono p e, s1, h1⟩
    | false => exact ⟨ρ1, st1, env, re.mono p e, s1, h1⟩⟩
/-! one operand -/
def S1 (Z : Cz) (r : V → Hp → VK → Prop) (f : DV → MM DV) : Prop := ∀ (W : Value → Option Addr → Hp → Prop) (ρ : Rho) (st : Store) (H : Hp) (a : DV) (x : V) (Q : VK), Sim Z ρ st H → RV Z ρ H a x → RM Z W ρ H (RV Z) (f a st) Q → r x H Q
theorem e_un {op : UnaryOp} {r : V → Hp → VK → Prop} {f : DV → MM DV} (ho : UnR X (unaryOp op) r) (hf : S1 Z r f) (ha : PE X a (tE Z W xa)) : PE X (.UnaryOp op a pos) (tE Z W (d1 f xa)) :=
  PE.imp (pe_un ho ha) fun σ H Q ⟨ρ, st, env, re, s, rm⟩ => ⟨ρ, st, env, re, s, RM.bnd rm fun ρ1 H1 st1 v x p e s1 r1 h1 => hf _ ρ1 st1 H1 v x Q s1 r1 h1⟩
/-! a[b], a[lo:hi] -/
theorem e_ix {r : R2} {f : DV → DV → MM DV} (hr : IxR X r) (hf : S2 Z r f) (ha : PE X a (tE Z W xa)) (hb : PE X b (tE Z W xb)) (hs : PlainIx b) : PE X (.Subscript a b pos) (tE Z W (d2 f xa xb)) :=
  PE.imp (pe_ix hr ha hb hs) fun _ _ _ h => s2_run hf h
abbrev DO2 := Ev → MM (Option Int)
def tO (Z : Cz) (W : WX) (d : DO2) : TO := fun σ H Q => ∃ ρ st env, RE Z ρ H env σ ∧ Sim Z ρ st H ∧ RM Z (Wσ W σ) ρ H (fun _ _ a b => b = a) (d env st) Q
theorem PO.imp {X : Cx} {e : Option Expr} {t t' : TO} (h : PO X e t) (k : ∀ σ H Q, t' σ H Q → t σ H Q) : PO X e t' := ⟨fun pins s σ H Q I hw => h.run pins s σ H Q I (k σ H Q hw)⟩
def oNone : DO2 := fun _ => ret none
def asI : DV → Option Int
  | .int i => some i
  | _ => none
theorem asI_iff {v : DV} {k : Int} (h : asI v = some k) : v = .int k := by
  cases v <;> first | (cases h; rfl) | cases h
def oSome (d : DE) : DO2 := fun env => bnd (d env) fun v => bnd (lift (asI v)) fun i => ret (some i)
theorem o_none : PO X none (tO Z W oNone) := PO.imp po_none fun σ H Q ⟨ρ, st, env, re, s, rm⟩ => rm.ok s rfl
theorem o_some (h : PE X a (tE Z W xa)) : PO X (some a) (tO Z W (oSome xa)) :=
  PO.imp (po_some h) fun σ H Q ⟨ρ, st, env, re, s, rm⟩ => ⟨ρ, st, env, re, s, RM.bnd rm fun ρ1 H1 st1 v x p e s1 r1 h1 => by
    cases hv : asI v with
    | none => rw [hv] at h1; exact h1.elim
    | some i =>
      rw [hv] at h1
      have e := asI_iff hv
      subst e
      exact ⟨i, RV.int_iff.mp r1, RM.ok (a := some i) h1 s1 rfl⟩⟩
def dSl (f : DV → Option Int → Option Int → MM DV) (d : DE) (lo hi : DO2) : DE := fun env => bnd (d env) fun x => bnd (lo env) fun l => bnd (hi env) fun u => f x l u
def SS (Z : Cz) (r : V → Option Int → Option Int → Hp → VK → Prop) (f : DV → Option Int → Option Int → MM DV) : Prop := ∀ (W : Value → Option Addr → Hp → Prop) (ρ : Rho) (st : Store) (H : Hp) (a : DV) (x : V) (l u : Option Int) (Q : VK), Sim Z ρ st H → RV Z ρ H a x → RM Z W ρ H (RV Z) (f a l u st) Q → r x l u H Q
theorem e_slice {r : V → Option Int → Option Int → Hp → VK → Prop} {f : DV → Option Int → Option Int → MM DV} {lo hi : Option Expr} {dl du : DO2} {p2 : Pos} (hr : SlR X r) (hf : SS Z r f) (he : PE X a (tE Z W xa)) (hl : PO X lo (tO Z W dl)) (hu : PO X hi (tO Z W du)) : PE X (.Subscript a (.Slice lo hi none p2) pos) (tE Z W (dSl f xa dl du)) :=
  PE.imp (pe_slice hr he hl hu) fun σ H Q ⟨ρ, st, env, re, s, rm⟩ => ⟨ρ, st, env, re, s, RM.bnd rm fun ρ1 H1 st1 v x p1 e1 s1 r1 h1 =>
    ⟨ρ1, st1, env, re.mono p1 e1, s1, RM.bnd h1 fun ρ2 H2 st2 l l' p2 e2 s2 r2 h2 => by
      subst r2
      exact ⟨ρ2, st2, env, re.mono (p1.trans p2) (e1.trans e2), s2, RM.bnd h2 fun ρ3 H3 st3 u u' p3 e3 s3 r3 h3 => by
        subst r3
        exact hf _ ρ3 st3 H3 v x _ _ Q s3 (r1.mono (p2.trans p3) (e2.trans e3)) h3⟩⟩⟩
/-! o.m(..) of a built-in type -/
def tyD (T : String) (d : DV) (st : Store) : Bool := match d with
  | .str _ => T == "str"
  | .int _ => T == "int"
  | .ref a => match st.get a with
    | some (.lst _) => T == "list"
    | some (.dct _) => T == "dict"
    | _ => false
  | _ => false
theorem tyD_ok {ρ : Rho} {st : Store} {H : Hp} {T : String} {d : DV} {x : V} (s : Sim Z ρ st H) (r : RV Z ρ H d x) (h : tyD T d st = true) (K : PySem.W.Frag) : tyV K T x H := by
  unfold tyD at h
  split at h
  · rw [RV.str_iff.mp r]; exact beq_iff_eq.mp h
  · rw [RV.int_iff.mp r]; exact beq_iff_eq.mp h
  · obtain ⟨a, ha, rfl⟩ := RV.ref_iff.mp r
    split at h
    · rename_i xs hg
      obtain ⟨vs, h1, _⟩ := s.obj _ _ _ ha hg
      exact .inl ⟨beq_iff_eq.mp h, vs, SqL.of h1⟩
    · rename_i xs hg
      obtain ⟨vs, h1, _⟩ := s.obj _ _ _ ha hg
      exact .inr (.inr (.inl ⟨beq_iff_eq.mp h, .inl ⟨_, h1⟩⟩))
    · cases h
  · cases h
def dMt (T : String) (f : DV → List DV → MM DV) (d : DE) (da : DA) : DE := fun env => bnd (d env) fun x st => if tyD T x st = true then bnd (da env) (fun xs => f x xs) st else none
def SM (Z : Cz) (r : V → List V → Hp → VK → Prop) (f : DV → List DV → MM DV) : Prop := ∀ (W : Value → Option Addr → Hp → Prop) (ρ : Rho) (st : Store) (H : Hp) (a : DV) (x : V) (ds : List DV) (vs : List V) (Q : VK), Sim Z ρ st H → RV Z ρ H a x → RVs Z ρ H ds vs → RM Z W ρ H (RV Z) (f a ds st) Q → r x vs H Q
theorem mt_run {T : String} {r : V → List V → Hp → VK → Prop} {f : DV → List DV → MM DV} (hf : SM Z r f) {d : DE} {da : DA} (K : PySem.W.Frag) {σ : L2.St} {H : Hp} {Q : VK} (h : tE Z W (dMt T f d da) σ H Q) : tBM K T r (tE Z W d) (tA Z W da) σ H Q := by
  obtain ⟨ρ, st, env, re, s, rm⟩ := h
  refine ⟨ρ, st, env, re, s, RM.bnd rm fun ρ1 H1 st1 x v p e s1 r1 h1 => ?_⟩
  by_cases ht : tyD T x st1 = true
  · rw [if_pos ht] at h1
    exact ⟨tyD_ok s1 r1 ht K, ρ1, st1, env, re.mono p e, s1, RM.bnd h1 fun ρ2 H2 st2 ds vs p2 e2 s2 r2 h2 => hf _ ρ2 st2 H2 x v ds vs Q s2 (r1.mono p2 e2) r2 h2⟩
  · rw [if_neg ht] at h1; exact h1.elim
variable {o : Expr} {xo : DE} {name : Str} {apos cpos : Pos}
theorem e_bm {T id : String} {r : V → List V → Hp → VK → Prop} {f : DV → List DV → MM DV} (pa : PlainAttrs T) (slot : Slot T name id) (hty : typeOf (.builtin id) = pure (.type "method_descriptor")) (hm : MtR X id r) (hf : SM Z r f) (ho : PE X o (tE Z W xo)) (ha : PA X (e :: es) (tA Z W da))
    (hbase : attributeBase o name X.env (eval o X.env) = eval o X.env := by rfl)
    (hfew : ((backTo cpos (starEach (e :: es) X.env)).all (fun x => !x.1) && (backToKw cpos (keywordEach [] X.env)).all (fun x => x.1.isSome)
      && decide ((e :: es).length + ([] : List Keyword).length + (if ([] : List Keyword).isEmpty then 0 else 1) < 30)) = true := by rfl)
    (hline : (apos.endLine == cpos.line) = true := by rfl) (hs : starEach (e :: es) X.env = (false, eval e X.env) :: starEach es X.env := by rfl) (hplain : (backTo cpos (starEach es X.env)).any (·.1) = false := by rfl) :
    PE X (.Call (.Attribute o name apos) (e :: es) [] cpos) (tE Z W (dMt T f xo da)) :=
  PE.imp (pe_bm pa slot hty hm ho ha hbase hfew hline hs hplain) fun _ _ _ h => mt_run hf X.K h
theorem e_bm0 {T id : String} {r : V → List V → Hp → VK → Prop} {f : DV → List DV → MM DV} (pa : PlainAttrs T) (slot : Slot T name id) (hty : typeOf (.builtin id) = pure (.type "method_descriptor")) (hm : MtR X id r) (hf : SM Z r f) (ho : PE X o (tE Z W xo))
    (hbase : attributeBase o name X.env (eval o X.env) = eval o X.env := by rfl) (hline : (apos.endLine == cpos.line) = true := by rfl) : PE X (.Call (.Attribute o name apos) [] [] cpos) (tE Z W (dMt T f xo aNil)) :=
  PE.imp (pe_bm0 pa slot hty hm ho hbase hline) fun σ H Q h => by
    obtain ⟨ρ, st, env, re, s, rm⟩ := h
    refine ⟨ρ, st, env, re, s, RM.bnd rm fun ρ1 H1 st1 x v p e s1 r1 h1 => ?_⟩
    by_cases ht : tyD T x st1 = true
    · rw [if_pos ht] at h1
      exact ⟨tyD_ok s1 r1 ht X.K, hf _ ρ1 st1 H1 x v [] [] Q s1 r1 (RVs.nil_iff.mpr rfl) h1⟩
    · rw [if_neg ht] at h1; exact h1.elim
end
end SE

/-! SE: operators. -/
namespace SE
open PySem PySem.Spec PyProof.Rows L2

theorem str_app (a b : List Nat) : (⟨a.toArray⟩ : Str) ++ (⟨b.toArray⟩ : Str) = ⟨(a ++ b).toArray⟩ := by
  show (⟨a.toArray ++ b.toArray⟩ : Str) = _
  rw [List.append_toArray]
theorem str_len (a : List Nat) : (⟨a.toArray⟩ : Str).length = a.length := by show a.toArray.size = _; simp
theorem OpR.mono {X : Cx} {f : Value → Value → Sem Value} {r r' : R2} (h : OpR X f r) (k : ∀ x y H Q, r' x y H Q → r x y H Q) : OpR X f r' := fun pins s σ H x y v u Q I rx ry q => h pins s σ H x y v u Q I rx ry (k _ _ _ _ q)
/-! the very one rule for an operator: whatever the store's function gives -/
def R0 (Z : Cz) (f : DV → DV → MM DV) : R2 := fun x y H Q => ∃ (W : Value → Option Addr → Hp → Prop) (ρ : Rho) (st : Store) (a b : DV), Sim Z ρ st H ∧ RV Z ρ H a x ∧ RV Z ρ H b y ∧ RM Z W ρ H (RV Z) (f a b st) Q
theorem s2_R0 {Z : Cz} {f : DV → DV → MM DV} : S2 Z (R0 Z f) f := fun W ρ st H a b x y Q s ra rb rm => ⟨W, ρ, st, a, b, s, ra, rb, rm⟩

section
variable {X : Cx} {Z : Cz}
/-! + -/
def fCat (a b : Nat) : MM DV := fun st => match st.get a with
  | some (.lst xs) => (match st.get b with
    | some (.lst ys) => if xs.length + ys.length ≤ sizeLine then some (.ok (.ref st.size), st.push (.lst (xs ++ ys))) else none
    | _ => none)
  | _ => none
def fAdd : DV → DV → MM DV
  | .int i, .int j => ret (.int (i + j))
  | .str a, .str b => if a.length + b.length ≤ sizeLine then ret (.str (a ++ b)) else stuck
  | .ref a, .ref b => fCat a b
  | .tup a, .tup b => if a.length + b.length ≤ sizeLine ∧ a ≠ [] ∧ b ≠ [] then ret (.tup (a ++ b)) else stuck
  | _, _ => stuck
theorem lst_of {ρ : Rho} {st : Store} {H : Hp} (s : Sim Z ρ st H) {n : Nat} {a : Addr} {xs : List DV} (ha : ρ[n]? = some a) (hg : st.get n = some (.lst xs)) : ∃ vs, H a = some (.lst vs) ∧ RVs Z ρ H xs vs := s.obj _ _ _ ha hg
theorem op_addD (hZ : Z.K = X.K) : OpR X (binaryOp .Add) (R0 Z fAdd) := by
  refine OpR.mono (op_add.or (op_add_str.or (op_cat.or op_catT))) fun x y H Q ⟨W, ρ, st, a, b, s, ra, rb, rm⟩ => ?_
  unfold fAdd at rm
  split at rm
  · rename_i i j
    exact .inl ⟨i, j, RV.int_iff.mp ra, RV.int_iff.mp rb, rm.ok s (RV.int_iff.mpr rfl)⟩
  · rename_i i j
    split at rm
    · rename_i hl
      refine .inr (.inl ⟨_, _, RV.str_iff.mp ra, RV.str_iff.mp rb, by rw [str_len, str_len]; exact hl, ?_⟩)
      rw [str_app]
      exact rm.ok s (RV.str_iff.mpr rfl)
    · exact rm.elim
  · rename_i n m
    unfold fCat at rm
    obtain ⟨p, hp, rfl⟩ := RV.ref_iff.mp ra
    obtain ⟨q, hq, rfl⟩ := RV.ref_iff.mp rb
    split at rm
    · rename_i xs hx
      split at rm
      · rename_i ys hy
        split at rm
        · rename_i hl
          obtain ⟨vs, h1, h2⟩ := lst_of s hp hx
          obtain ⟨ws, h3, h4⟩ := lst_of s hq hy
          exact .inr (.inr (.inl ⟨p, q, vs, ws, rfl, rfl, h1, h3, by rw [h2.length, h4.length]; exact hl, RM.newL rm s (h2.append h4)⟩))
        · exact rm.elim
      · exact rm.elim
    · exact rm.elim
  · rename_i ds es
    split at rm
    · rename_i hl
      obtain ⟨p, vs, rfl, h1, h2⟩ := RV.tup_iff.mp ra
      obtain ⟨q, ws, rfl, h3, h4⟩ := RV.tup_iff.mp rb
      refine .inr (.inr (.inr ⟨p, q, vs, ws, rfl, rfl, by rw [← hZ]; exact h1.sq, by rw [← hZ]; exact h3.sq, ?_, by rw [h2.length, h4.length]; exact hl.1, ?_⟩))
      · intro z; subst z; have := h2.length; exact hl.2.1 (List.eq_nil_of_length_eq_zero this.symm)
      · first
          | exact RM.newT rm s (h2.append h4)
          | exact ⟨fun z => absurd (List.eq_nil_of_length_eq_zero (by rw [← h4.length, z]; rfl)) hl.2.2, fun _ => RM.newT rm s (h2.append h4)⟩
          | skip
    · exact rm.elim
  · exact rm.elim
/-! - * // % ** -/
def fSub : DV → DV → MM DV
  | .int i, .int j => ret (.int (i - j))
  | _, _ => stuck
theorem op_subD : OpR X (binaryOp .Sub) (R0 Z fSub) := by
  refine OpR.mono op_sub fun x y H Q ⟨W, ρ, st, a, b, s, ra, rb, rm⟩ => ?_
  unfold fSub at rm
  split at rm
  · exact ⟨_, _, RV.int_iff.mp ra, RV.int_iff.mp rb, rm.ok s (RV.int_iff.mpr rfl)⟩
  · exact rm.elim
def repL (k : Nat) (xs : List DV) : List DV := (List.replicate k xs).flatten
def repS (k : Nat) (xs : List Nat) : List Nat := (List.replicate k xs).flatten
def rngB (k : Int) : Bool := decide (-(2 ^ 63) ≤ k) && decide (k < 2 ^ 63)
def fMul : DV → DV → MM DV
  | .int i, .int j => if i.natAbs.log2 + j.natAbs.log2 < 1000000 then ret (.int (i * j)) else stuck
  | .str a, .int k => if rngB k = true ∧ a.length * k.toNat ≤ sizeLine then ret (.str (repS k.toNat a)) else stuck
  | .ref a, .int k => fun st => match st.get a with
    | some (.lst xs) => if rngB k = true ∧ xs.length * k.toNat ≤ sizeLine then some (.ok (.ref st.size), st.push (.lst (repL k.toNat xs))) else none
    | _ => none
  | _, _ => stuck
theorem rngB_iff {k : Int} (h : rngB k = true) : -(2 ^ 63) ≤ k ∧ k < 2 ^ 63 := by
  unfold rngB at h
  simp only [Bool.and_eq_true, decide_eq_true_eq] at h
  exact h
theorem RVs.rep {ρ : Rho} {H : Hp} {ds : List DV} {vs : List V} (r : RVs Z ρ H ds vs) : ∀ k : Nat, RVs Z ρ H (repL k ds) (List.replicate k vs).flatten
  | 0 => RVs.nil_iff.mpr rfl
  | k + 1 => by
    show RVs Z ρ H (List.replicate (k + 1) ds).flatten (List.replicate (k + 1) vs).flatten
    rw [List.replicate_succ, List.replicate_succ, List.flatten_cons, List.flatten_cons]
    exact r.append (RVs.rep r k)
theorem foldl_repS (a : List Nat) : ∀ (k : Nat) (acc : Array Nat), (List.replicate k a.toArray).foldl (· ++ ·) acc = acc ++ (repS k a).toArray
  | 0, acc => by show acc = acc ++ ([] : List Nat).toArray; simp
  | k + 1, acc => by
    rw [List.replicate_succ, List.foldl_cons, foldl_repS a k]
    show _ = acc ++ (List.replicate (k + 1) a).flatten.toArray
    rw [List.replicate_succ, List.flatten_cons, ← List.append_toArray, Array.append_assoc]
    rfl
theorem op_mul_strD : OpR X (binaryOp .Mult) (fun x y H Q => ∃ (a : List Nat) (k : Int), x = .str ⟨a.toArray⟩ ∧ y = .int k ∧ (rngB k = true ∧ a.length * k.toNat ≤ sizeLine) ∧ Q (.str ⟨(repS k.toNat a).toArray⟩) H) := by
  intro pins s σ H x y v u Q I rx ry h
  obtain ⟨a, k, rfl, rfl, ⟨hk, hz⟩, q⟩ := h
  obtain ⟨t, rfl⟩ := rx
  obtain ⟨t', rfl⟩ := ry
  have hk2 := rngB_iff hk
  have hz' : a.length * k.toNat ≤ 16777216 := by rw [← sizeLine_eq]; exact hz
  have ok : MulOk (⟨a.toArray⟩ : Str) k := by
    refine ⟨?_, fun h1 _ => ?_, fun h1 _ => ?_⟩
    · rw [Bool.or_eq_false_iff]; exact ⟨decide_eq_false (by omega), decide_eq_false (by omega)⟩
    · intro hgt
      rw [str_len] at hgt
      have hk1 : 0 < k := by omega
      have h2 : (2 ^ 63 - 1 : Int) < (a.length : Int) * k := by
        have := Int.lt_mul_of_ediv_lt hk1 hgt
        exact this
      have h3 : ((a.length * k.toNat : Nat) : Int) = (a.length : Int) * k := by
        rw [Int.natCast_mul, Int.toNat_of_nonneg (by omega)]
      have h4 : ((a.length * k.toNat : Nat) : Int) ≤ 16777216 := Int.ofNat_le.mpr hz'
      rw [← h3] at h2
      omega
    · rw [str_len]
      exact decide_eq_false (Nat.not_lt.mpr hz)
  refine SB.mul ok fun t' kk => ⟨.str _, H, I.tok _, ⟨t', rfl⟩, ?_⟩
  have e : Txt.mul (⟨a.toArray⟩ : Str) k = ⟨(repS k.toNat a).toArray⟩ := by
    unfold Txt.mul
    by_cases h1 : k < 1
    · rw [if_pos h1]
      have : k.toNat = 0 := by omega
      rw [this]; rfl
    · rw [if_neg h1]
      by_cases h2 : (k == 1 || (⟨a.toArray⟩ : Str).length == 0) = true
      · rw [if_pos h2]
        rw [Bool.or_eq_true] at h2
        rcases h2 with h2 | h2
        · have : k = 1 := by simpa using h2
          subst this
          show _ = (⟨(repS 1 a).toArray⟩ : Str)
          unfold repS
          simp
        · rw [str_len] at h2
          have : a = [] := List.eq_nil_of_length_eq_zero (by simpa using h2)
          subst this
          unfold repS
          simp
      · rw [if_neg h2]
        show (⟨(List.replicate k.toNat a.toArray).foldl (· ++ ·) #[]⟩ : Str) = _
        rw [foldl_repS]
        simp
  rw [e]
  exact q
theorem op_mulD : OpR X (binaryOp .Mult) (R0 Z fMul) := by
  refine OpR.mono (op_mulW.or (op_mul_strD.or op_rep)) fun x y H Q ⟨W, ρ, st, a, b, s, ra, rb, rm⟩ => ?_
  unfold fMul at rm
  split at rm
  · rename_i i j
    split at rm
    · rename_i hl
      exact .inl ⟨i, j, RV.int_iff.mp ra, RV.int_iff.mp rb, hl, rm.ok s (RV.int_iff.mpr rfl)⟩
    · exact rm.elim
  · rename_i i j
    split at rm
    · rename_i hl
      exact .inr (.inl ⟨_, _, RV.str_iff.mp ra, RV.int_iff.mp rb, hl, rm.ok s (RV.str_iff.mpr rfl)⟩)
    · exact rm.elim
  · rename_i n k
    split at rm
    · rename_i xs hx
      split at rm
      · rename_i hl
        obtain ⟨p, hp, rfl⟩ := RV.ref_iff.mp ra
        obtain ⟨vs, h1, h2⟩ := lst_of s hp hx
        exact .inr (.inr ⟨p, k, vs, rfl, RV.int_iff.mp rb, h1, (rngB_iff hl.1).1, (rngB_iff hl.1).2, by rw [h2.length]; exact hl.2, RM.newL rm s (h2.rep _)⟩)
      · exact rm.elim
    · exact rm.elim
  · exact rm.elim
def fFdiv : DV → DV → MM DV
  | .int i, .int j => if 0 < j ∧ j.natAbs.log2 < 9000 then ret (.int (i / j)) else stuck
  | _, _ => stuck
theorem op_fdivD : OpR X (binaryOp .FloorDiv) (R0 Z fFdiv) := by
  refine OpR.mono op_fdivW fun x y H Q ⟨W, ρ, st, a, b, s, ra, rb, rm⟩ => ?_
  unfold fFdiv at rm
  split at rm
  · split at rm
    · rename_i hl
      exact ⟨_, _, RV.int_iff.mp ra, RV.int_iff.mp rb, hl, rm.ok s (RV.int_iff.mpr rfl)⟩
    · exact rm.elim
  · exact rm.elim
def fMod : DV → DV → MM DV
  | .int i, .int j => if 0 < j then ret (.int (i % j)) else stuck
  | _, _ => stuck
theorem op_modD : OpR X (binaryOp .Mod) (R0 Z fMod) := by
  refine OpR.mono op_mod fun x y H Q ⟨W, ρ, st, a, b, s, ra, rb, rm⟩ => ?_
  unfold fMod at rm
  split at rm
  · split at rm
    · rename_i hl
      exact ⟨_, _, RV.int_iff.mp ra, RV.int_iff.mp rb, hl, rm.ok s (RV.int_iff.mpr rfl)⟩
    · exact rm.elim
  · exact rm.elim
def CPowW (i j : Int) : Prop := 0 ≤ j ∧ (Builtin.Int.intBits i : Int) * j ≤ 2 ^ 27
theorem op_powW : OpR X (binaryOp .Pow) (rI CPowW fun i j => .int (i ^ j.toNat)) := opI fun _ _ _ _ _ _ _ hc q => pow_int hc.1 hc.2 q
def fPow : DV → DV → MM DV
  | .int i, .int j => if 0 ≤ j ∧ (Builtin.Int.intBits i : Int) * j ≤ 2 ^ 27 then ret (.int (i ^ j.toNat)) else stuck
  | _, _ => stuck
theorem op_powD : OpR X (binaryOp .Pow) (R0 Z fPow) := by
  refine OpR.mono op_powW fun x y H Q ⟨W, ρ, st, a, b, s, ra, rb, rm⟩ => ?_
  unfold fPow at rm
  split at rm
  · split at rm
    · rename_i hl
      exact ⟨_, _, RV.int_iff.mp ra, RV.int_iff.mp rb, hl, rm.ok s (RV.int_iff.mpr rfl)⟩
    · exact rm.elim
  · exact rm.elim
def fNeg : DV → MM DV
  | .int i => ret (.int (-i))
  | _ => stuck
theorem s1_neg : S1 Z (rU fun i => .int (-i)) fNeg := by
  intro W ρ st H a x Q s ra rm
  unfold fNeg at rm
  split at rm
  · exact ⟨_, RV.int_iff.mp ra, rm.ok s (RV.int_iff.mpr rfl)⟩
  · exact rm.elim
/-! < <= > >= -/
def ltS (a b : List Nat) : Bool := decide (a < b)
def fLt : DV → DV → MM DV
  | .int i, .int j => ret (.bl (decide (i < j)))
  | .str a, .str b => ret (.bl (ltS a b))
  | _, _ => stuck
def fGt : DV → DV → MM DV
  | .int i, .int j => ret (.bl (decide (j < i)))
  | .str a, .str b => ret (.bl (ltS b a))
  | _, _ => stuck
def fLe : DV → DV → MM DV
  | .int i, .int j => ret (.bl (decide (i ≤ j)))
  | .str a, .str b => ret (.bl (!ltS b a))
  | _, _ => stuck
def fGe : DV → DV → MM DV
  | .int i, .int j => ret (.bl (decide (j ≤ i)))
  | .str a, .str b => ret (.bl (!ltS a b))
  | _, _ => stuck
theorem op_ltD : OpR X (compareOp .Lt) (R0 Z fLt) := by
  refine OpR.mono (op_lt.or op_lt_str) fun x y H Q ⟨W, ρ, st, a, b, s, ra, rb, rm⟩ => ?_
  unfold fLt at rm
  split at rm
  · exact .inl ⟨_, _, RV.int_iff.mp ra, RV.int_iff.mp rb, rm.ok s (RV.bl_iff.mpr rfl)⟩
  · exact .inr ⟨_, _, RV.str_iff.mp ra, RV.str_iff.mp rb, rm.ok s (RV.bl_iff.mpr rfl)⟩
  · exact rm.elim
theorem op_gtD : OpR X (compareOp .Gt) (R0 Z fGt) := by
  refine OpR.mono (op_gt.or op_gt_str) fun x y H Q ⟨W, ρ, st, a, b, s, ra, rb, rm⟩ => ?_
  unfold fGt at rm
  split at rm
  · exact .inl ⟨_, _, RV.int_iff.mp ra, RV.int_iff.mp rb, rm.ok s (RV.bl_iff.mpr rfl)⟩
  · exact .inr ⟨_, _, RV.str_iff.mp ra, RV.str_iff.mp rb, rm.ok s (RV.bl_iff.mpr rfl)⟩
  · exact rm.elim
theorem op_leD : OpR X (compareOp .LtE) (R0 Z fLe) := by
  refine OpR.mono (op_le.or op_le_str) fun x y H Q ⟨W, ρ, st, a, b, s, ra, rb, rm⟩ => ?_
  unfold fLe at rm
  split at rm
  · exact .inl ⟨_, _, RV.int_iff.mp ra, RV.int_iff.mp rb, rm.ok s (RV.bl_iff.mpr rfl)⟩
  · exact .inr ⟨_, _, RV.str_iff.mp ra, RV.str_iff.mp rb, rm.ok s (RV.bl_iff.mpr rfl)⟩
  · exact rm.elim
theorem op_geD : OpR X (compareOp .GtE) (R0 Z fGe) := by
  refine OpR.mono (op_ge.or op_ge_str) fun x y H Q ⟨W, ρ, st, a, b, s, ra, rb, rm⟩ => ?_
  unfold fGe at rm
  split at rm
  · exact .inl ⟨_, _, RV.int_iff.mp ra, RV.int_iff.mp rb, rm.ok s (RV.bl_iff.mpr rfl)⟩
  · exact .inr ⟨_, _, RV.str_iff.mp ra, RV.str_iff.mp rb, rm.ok s (RV.bl_iff.mpr rfl)⟩
  · exact rm.elim
/-! is -/
def isNon : DV → Bool
  | .non => true
  | _ => false
theorem isNon_iff {ρ : Rho} {H : Hp} {d : DV} {x : V} (r : RV Z ρ H d x) : decide (x = V.non) = isNon d := by
  cases d with
  | non => rw [RV.non_iff.mp r]; rfl
  | bl b => rw [RV.bl_iff.mp r]; rfl
  | int b => rw [RV.int_iff.mp r]; rfl
  | str b => rw [RV.str_iff.mp r]; rfl
  | tup b => obtain ⟨a, vs, rfl, _⟩ := RV.tup_iff.mp r; rfl
  | fl b => obtain ⟨a, vs, rfl, _⟩ := RV.fl_iff.mp r; rfl
  | ref b => obtain ⟨a, _, rfl⟩ := RV.ref_iff.mp r; rfl
def fIs (neg : Bool) : DV → DV → MM DV
  | d, .non => ret (.bl (neg != isNon d))
  | .bl a, .bl b => ret (.bl (neg != (a == b)))
  | _, _ => stuck
theorem op_isD : OpR X (compareOp .Is) (R0 Z (fIs false)) := by
  refine OpR.mono (op_isN.or op_isBl) fun x y H Q ⟨W, ρ, st, a, b, s, ra, rb, rm⟩ => ?_
  unfold fIs at rm
  split at rm
  · refine .inl ⟨RV.non_iff.mp rb, ?_⟩
    rw [isNon_iff ra]
    exact rm.ok s (RV.bl_iff.mpr (by simp))
  · refine .inr ⟨_, _, RV.bl_iff.mp ra, RV.bl_iff.mp rb, rm.ok s (RV.bl_iff.mpr ?_)⟩
    rename_i k j
    cases k <;> cases j <;> rfl
  · exact rm.elim
theorem op_isNotD : OpR X (compareOp .IsNot) (R0 Z (fIs true)) := by
  refine OpR.mono (op_notN.or op_notBl) fun x y H Q ⟨W, ρ, st, a, b, s, ra, rb, rm⟩ => ?_
  unfold fIs at rm
  split at rm
  · refine .inl ⟨RV.non_iff.mp rb, ?_⟩
    rw [isNon_iff ra]
    exact rm.ok s (RV.bl_iff.mpr (by simp))
  · refine .inr ⟨_, _, RV.bl_iff.mp ra, RV.bl_iff.mp rb, rm.ok s (RV.bl_iff.mpr ?_)⟩
    rename_i k j
    cases k <;> cases j <;> rfl
  · exact rm.elim
/-! in -/
def flatD : DV → Bool
  | .non => true
  | .bl _ => true
  | .int _ => true
  | .str _ => true
  | _ => false
def eqF : DV → DV → Bool
  | .non, .non => true
  | .bl a, .bl b => a == b
  | .bl a, .int b => (if a then 1 else 0) == b
  | .int a, .bl b => a == (if b then 1 else 0)
  | .int a, .int b => a == b
  | .str a, .str b => a == b
  | _, _ => false
theorem str_beq (a b : List Nat) : ((⟨a.toArray⟩ : Str) == ⟨b.toArray⟩) = (a == b) := by
  by_cases h : a = b
  · subst h; simp
  · have : ¬ (⟨a.toArray⟩ : Str) = ⟨b.toArray⟩ := fun e => h (by
      have := congrArg Str.cps e
      simpa using this)
    rw [beq_eq_false_iff_ne.mpr this, beq_eq_false_iff_ne.mpr h]
theorem flat_rel {ρ : Rho} {H : Hp} {d : DV} {x : V} (r : RV Z ρ H d x) : L2.flatV x = flatD d := by
  cases d with
  | non => rw [RV.non_iff.mp r]; rfl
  | bl b => rw [RV.bl_iff.mp r]; rfl
  | int b => rw [RV.int_iff.mp r]; rfl
  | str b => rw [RV.str_iff.mp r]; rfl
  | tup b => obtain ⟨a, vs, rfl, _⟩ := RV.tup_iff.mp r; rfl
  | fl b => obtain ⟨a, vs, rfl, _⟩ := RV.fl_iff.mp r; rfl
  | ref b => obtain ⟨a, _, rfl⟩ := RV.ref_iff.mp r; rfl
theorem eqF_rel {ρ : Rho} {H : Hp} {d e : DV} {x y : V} (r : RV Z ρ H d x) (q : RV Z ρ H e y) (hd : flatD d = true) (he : flatD e = true) : L2.eqV x y = eqF d e := by
  cases d <;> first | cases hd | skip
  all_goals (cases e <;> first | cases he | skip)
  all_goals (first
    | (rw [RV.non_iff.mp r, RV.non_iff.mp q]; rfl) | (rw [RV.non_iff.mp r, RV.bl_iff.mp q]; rfl) | (rw [RV.non_iff.mp r, RV.int_iff.mp q]; rfl) | (rw [RV.non_iff.mp r, RV.str_iff.mp q]; rfl)
    | (rw [RV.bl_iff.mp r, RV.non_iff.mp q]; rfl) | (rw [RV.bl_iff.mp r, RV.bl_iff.mp q]; rfl) | (rw [RV.bl_iff.mp r, RV.int_iff.mp q]; rfl) | (rw [RV.bl_iff.mp r, RV.str_iff.mp q]; rfl)
    | (rw [RV.int_iff.mp r, RV.non_iff.mp q]; rfl) | (rw [RV.int_iff.mp r, RV.bl_iff.mp q]; rfl) | (rw [RV.int_iff.mp r, RV.int_iff.mp q]; rfl) | (rw [RV.int_iff.mp r, RV.str_iff.mp q]; rfl)
    | (rw [RV.str_iff.mp r, RV.non_iff.mp q]; rfl) | (rw [RV.str_iff.mp r, RV.bl_iff.mp q]; rfl) | (rw [RV.str_iff.mp r, RV.int_iff.mp q]; rfl) | (rw [RV.str_iff.mp r, RV.str_iff.mp q]; exact str_beq _ _))
theorem in_rel {ρ : Rho} {H : Hp} {d : DV} {x : V} (r : RV Z ρ H d x) (hd : flatD d = true) : ∀ {ds : List DV} {vs : List V}, RVs Z ρ H ds vs → ds.all flatD = true → L2.inV x vs = (ds.any fun e => eqF e d) ∧ vs.all L2.flatV = true
  | [], vs, h, _ => by have e := RVs.nil_iff.mp h; subst e; exact ⟨rfl, rfl⟩
  | e :: ds, vs, h, hf => by
    obtain ⟨v, r', rfl, h1, h2⟩ := RVs.cons_iff.mp h
    rw [List.all_cons, Bool.and_eq_true] at hf
    obtain ⟨i1, i2⟩ := in_rel r hd h2 hf.2
    refine ⟨?_, ?_⟩
    · show (v :: r').any (fun y => L2.eqV y x) = _
      rw [List.any_cons, List.any_cons, eqF_rel h1 r hf.1 hd]
      have : r'.any (fun y => L2.eqV y x) = L2.inV x r' := rfl
      rw [this, i1]
    · rw [List.all_cons, flat_rel h1, hf.1, i2]; rfl
def inB (neg : Bool) (d : DV) (xs : List DV) : MM DV := if flatD d = true ∧ xs.all flatD = true then ret (.bl (neg != (xs.any fun e => eqF e d))) else stuck
def fIn (neg : Bool) : DV → DV → MM DV
  | .str [c], .str z => ret (.bl (neg != z.contains c))
  | d, .tup xs => inB neg d xs
  | d, .fl xs => inB neg d xs
  | d, .ref a => fun st => match st.get a with
    | some (.lst xs) => inB neg d xs st
    | _ => none
  | _, _ => stuck
theorem decide_contains (c : Nat) (z : List Nat) : decide (c ∈ (⟨z.toArray⟩ : Str).cps.toList) = z.contains c := by
  have : (⟨z.toArray⟩ : Str).cps.toList = z := by simp
  rw [this, List.contains_eq_mem]
theorem op_inGen {op : CmpOp} {neg : Bool} (h1 : OpR X (compareOp op) (fun x y H Q => ∃ (c : Nat) (z : Str), x = .str ⟨#[c]⟩ ∧ y = .str z ∧ Q (.bl (if neg then !decide (c ∈ z.cps.toList) else decide (c ∈ z.cps.toList))) H))
    (h2 : OpR X (compareOp op) (rIn X.K neg)) (hZ : Z.K = X.K) : OpR X (compareOp op) (R0 Z (fIn neg)) := by
  refine OpR.mono (h1.or h2) fun x y H Q ⟨W, ρ, st, a, b, s, ra, rb, rm⟩ => ?_
  have seq : ∀ {xs : List DV} {vs : List V} {p : Addr}, (SqL X.K H p vs ∨ SqT X.K H p vs) → RVs Z ρ H xs vs → y = .ref p → RM Z W ρ H (RV Z) (inB neg a xs st) Q → rIn X.K neg x y H Q := fun {xs vs p} hq hr hy rm => by
    unfold inB at rm
    split at rm
    · rename_i hf
      obtain ⟨i1, i2⟩ := in_rel ra hf.1 hr hf.2
      refine ⟨p, vs, hy, hq, by rw [flat_rel ra]; exact hf.1, i2, ?_⟩
      rw [i1]
      refine rm.ok s (RV.bl_iff.mpr ?_)
      cases neg <;> simp
    · exact rm.elim
  unfold fIn at rm
  split at rm
  · rename_i c z
    refine .inl ⟨c, _, RV.str_iff.mp ra, RV.str_iff.mp rb, ?_⟩
    rw [decide_contains]
    refine rm.ok s (RV.bl_iff.mpr ?_)
    cases neg <;> simp
  · obtain ⟨p, vs, e, t, r⟩ := RV.tup_iff.mp rb
    exact .inr (seq (.inr (by rw [← hZ]; exact t.sq)) r e rm)
  · obtain ⟨p, vs, e, t, r⟩ := RV.fl_iff.mp rb
    exact .inr (seq (.inl (by rw [← hZ]; exact t.sq)) r e rm)
  · obtain ⟨p, hp, e⟩ := RV.ref_iff.mp rb
    dsimp only at rm
    split at rm
    · rename_i xs hx
      obtain ⟨vs, h3, h4⟩ := lst_of s hp hx
      exact .inr (seq (.inl (SqL.of h3)) h4 e rm)
    · exact rm.elim
  · exact rm.elim
theorem op_inD2 (hZ : Z.K = X.K) : OpR X (compareOp .In) (R0 Z (fIn false)) := op_inGen op_in_sign op_in_seq hZ
theorem op_notInD2 (hZ : Z.K = X.K) : OpR X (compareOp .NotIn) (R0 Z (fIn true)) := op_inGen op_notIn_sign op_notIn_seq hZ
end
end SE

/-! SE: equality, items, slices, built-in functions and methods. -/
namespace SE
open PySem PySem.Spec PyProof.Rows L2

/-! ### trees: what a value is, all the way down -/
inductive TV where
  | non | bl (b : Bool) | int (i : Int) | str (x : List Nat) | lst (xs : List TV) | tup (xs : List TV)
mutual
def toPD : TV → PyData
  | .non => .none
  | .bl b => .bool b
  | .int i => .int i
  | .str x => .str ⟨x.toArray⟩
  | .lst xs => .list (toPDs xs)
  | .tup xs => .tuple (toPDs xs)
def toPDs : List TV → List PyData
  | [] => []
  | x :: xs => toPD x :: toPDs xs
end
mutual
def eqT : TV → TV → Bool
  | .non, .non => true
  | .bl a, .bl b => a == b
  | .bl a, .int j => (if a then 1 else 0) == j
  | .int i, .bl b => i == (if b then 1 else 0)
  | .int i, .int j => i == j
  | .str x, .str y => x == y
  | .lst xs, .lst ys => eqTs xs ys
  | .tup xs, .tup ys => eqTs xs ys
  | _, _ => false
def eqTs : List TV → List TV → Bool
  | [], [] => true
  | x :: xs, y :: ys => eqT x y && eqTs xs ys
  | _, _ => false
end
mutual
theorem eqT_pd : ∀ a b : TV, PyData.eqv (toPD a) (toPD b) = eqT a b
  | .non, b => by cases b <;> simp [toPD, PyData.eqv, eqT]
  | .bl a, b => by cases b <;> simp [toPD, PyData.eqv, eqT]
  | .int a, b => by cases b <;> simp [toPD, PyData.eqv, eqT]
  | .str a, b => by
    cases b <;> first | (simp [toPD, PyData.eqv, eqT]; done) | skip
    rename_i y
    simp only [toPD, PyData.eqv, eqT]
    exact str_beq _ _
  | .lst xs, b => by
    cases b <;> first | (simp [toPD, PyData.eqv, eqT]; done) | skip
    simp only [toPD, PyData.eqv, eqT]
    exact eqTs_pd _ _
  | .tup xs, b => by
    cases b <;> first | (simp [toPD, PyData.eqv, eqT]; done) | skip
    simp only [toPD, PyData.eqv, eqT]
    exact eqTs_pd _ _
theorem eqTs_pd : ∀ a b : List TV, PyData.eqvAll (toPDs a) (toPDs b) = eqTs a b
  | [], [] => by simp [toPDs, PyData.eqvAll, eqTs]
  | [], _ :: _ => by simp [toPDs, PyData.eqvAll, eqTs]
  | _ :: _, [] => by simp [toPDs, PyData.eqvAll, eqTs]
  | x :: xs, y :: ys => by
    simp only [toPDs, PyData.eqvAll, eqTs]
    rw [eqT_pd x y, eqTs_pd xs ys]
end
mutual
def okT : Nat → TV → Bool
  | 0, _ => false
  | _ + 1, .non => true
  | _ + 1, .bl _ => true
  | _ + 1, .int _ => true
  | _ + 1, .str x => x.all fun c => Nat.blt c 1114112
  | n + 1, .lst xs => okTs n xs
  | n + 1, .tup xs => okTs n xs
def okTs : Nat → List TV → Bool
  | _, [] => true
  | n, x :: xs => okT n x && okTs n xs
end
theorem okT_lst {n : Nat} {xs : List TV} (h : okT n (.lst xs) = true) : ∃ m, n = m + 1 ∧ okTs m xs = true := by
  cases n with
  | zero => simp [okT] at h
  | succ m => exact ⟨m, rfl, by simpa [okT] using h⟩
theorem okT_tup {n : Nat} {xs : List TV} (h : okT n (.tup xs) = true) : ∃ m, n = m + 1 ∧ okTs m xs = true := by
  cases n with
  | zero => simp [okT] at h
  | succ m => exact ⟨m, rfl, by simpa [okT] using h⟩
mutual
theorem okT_pd : ∀ (a : TV) (n : Nat), okT n a = true → (toPD a).canLay0 = true ∧ (toPD a).depth ≤ n
  | .non, n, h => by simp [toPD, PyData.canLay0, PyData.depth]
  | .bl _, n, h => by simp [toPD, PyData.canLay0, PyData.depth]
  | .int _, n, h => by simp [toPD, PyData.canLay0, PyData.depth]
  | .str x, n, h => by
    refine ⟨?_, by simp [toPD, PyData.depth]⟩
    cases n with
    | zero => simp [okT] at h
    | succ m =>
      simp only [okT, List.all_eq_true] at h
      simp only [toPD, PyData.canLay0, PyData.strOk]
      rw [Array.all_eq_true]
      intro i hi
      have := h x.toArray[i] (by have := Array.getElem_mem hi; simpa using this)
      exact decide_eq_true (Nat.le_of_ble_eq_true this)
  | .lst xs, n, h => by
    obtain ⟨m, rfl, h⟩ := okT_lst h
    obtain ⟨h1, h2⟩ := okTs_pd xs m h
    simp only [toPD, PyData.canLay0, PyData.depth]
    exact ⟨h1, by omega⟩
  | .tup xs, n, h => by
    obtain ⟨m, rfl, h⟩ := okT_tup h
    obtain ⟨h1, h2⟩ := okTs_pd xs m h
    simp only [toPD, PyData.canLay0, PyData.depth]
    exact ⟨h1, by omega⟩
theorem okTs_pd : ∀ (a : List TV) (n : Nat), okTs n a = true → PyData.canLayAll0 (toPDs a) = true ∧ PyData.depthAll (toPDs a) ≤ n
  | [], n, h => by simp [toPDs, PyData.canLayAll0, PyData.depthAll]
  | x :: xs, n, h => by
    simp only [okTs, Bool.and_eq_true] at h
    obtain ⟨h1, h2⟩ := okT_pd x n h.1
    obtain ⟨h3, h4⟩ := okTs_pd xs n h.2
    simp only [toPDs, PyData.canLayAll0, PyData.depthAll]
    exact ⟨by rw [h1, h3]; rfl, by omega⟩
end
theorem okT_shaped {a : TV} (h : okT 60 a = true) : SeqAt.shaped (toPD a) = true := by
  obtain ⟨h1, h2⟩ := okT_pd a 60 h
  unfold SeqAt.shaped
  rw [h1, decide_eq_true (by omega)]; rfl
def rdL (g : DV → Option TV) : List DV → Option (List TV)
  | [] => some []
  | x :: xs => match g x with
    | none => none
    | some t => match rdL g xs with
      | none => none
      | some ts => some (t :: ts)
/-- a value read at a store -/
def rd : Nat → Store → DV → Option TV
  | 0, _, _ => none
  | _ + 1, _, .non => some .non
  | _ + 1, _, .bl b => some (.bl b)
  | _ + 1, _, .int i => some (.int i)
  | _ + 1, _, .str x => some (.str x)
  | f + 1, st, .tup xs => (rdL (rd f st) xs).map .tup
  | f + 1, st, .fl xs => (rdL (rd f st) xs).map .lst
  | f + 1, st, .ref a => match st.get a with
    | some (.lst xs) => (rdL (rd f st) xs).map .lst
    | _ => none
section
variable {Z : Cz} {ρ : Rho} {st : Store} {H : Hp}
theorem rdL_dp {g : DV → Option TV} (hg : ∀ d t v, g d = some t → RV Z ρ H d v → Dp Z.K H v (toPD t)) : ∀ {xs : List DV} {ts : List TV} {vs : List V}, rdL g xs = some ts → RVs Z ρ H xs vs → DpAll Z.K H vs (toPDs ts)
  | [], ts, vs, h, r => by
    have e := RVs.nil_iff.mp r
    subst e
    have e2 : ts = [] := (Option.some.inj h).symm
    subst e2
    simp only [toPDs]
    exact .nil
  | x :: xs, ts, vs, h, r => by
    obtain ⟨v, r', rfl, h1, h2⟩ := RVs.cons_iff.mp r
    unfold rdL at h
    cases hx : g x with
    | none => rw [hx] at h; cases h
    | some t =>
      rw [hx] at h
      dsimp only at h
      cases hxs : rdL g xs with
      | none => rw [hxs] at h; cases h
      | some us =>
        rw [hxs] at h
        have e2 : ts = t :: us := (Option.some.inj h).symm
        subst e2
        simp only [toPDs]
        exact .cons (hg _ _ _ hx h1) (rdL_dp hg hxs h2)
theorem rd_dp (s : Sim Z ρ st H) : ∀ (f : Nat) (d : DV) (t : TV) (v : V), rd f st d = some t → RV Z ρ H d v → Dp Z.K H v (toPD t)
  | 0, d, t, v, h, r => by simp [rd] at h
  | f + 1, d, t, v, h, r => by
    cases d with
    | non => simp only [rd, Option.some.injEq] at h; subst h; rw [RV.non_iff.mp r]; simp only [toPD]; exact .non
    | bl b => simp only [rd, Option.some.injEq] at h; subst h; rw [RV.bl_iff.mp r]; simp only [toPD]; exact .bl b
    | int b => simp only [rd, Option.some.injEq] at h; subst h; rw [RV.int_iff.mp r]; simp only [toPD]; exact .int b
    | str b => simp only [rd, Option.some.injEq] at h; subst h; rw [RV.str_iff.mp r]; simp only [toPD]; exact .str _
    | tup xs =>
      simp only [rd] at h
      cases hx : rdL (rd f st) xs with
      | none => rw [hx] at h; cases h
      | some ts =>
        rw [hx] at h
        simp only [Option.map_some, Option.some.injEq] at h
        subst h
        obtain ⟨a, vs, rfl, h1, h2⟩ := RV.tup_iff.mp r
        simp only [toPD]
        exact .tup h1.sq (rdL_dp (rd_dp s f) hx h2)
    | fl xs =>
      simp only [rd] at h
      cases hx : rdL (rd f st) xs with
      | none => rw [hx] at h; cases h
      | some ts =>
        rw [hx] at h
        simp only [Option.map_some, Option.some.injEq] at h
        subst h
        obtain ⟨a, vs, rfl, h1, h2⟩ := RV.fl_iff.mp r
        simp only [toPD]
        exact .lst h1.sq (rdL_dp (rd_dp s f) hx h2)
    | ref a =>
      simp only [rd] at h
      split at h
      · rename_i xs hg
        cases hx : rdL (rd f st) xs with
        | none => rw [hx] at h; cases h
        | some ts =>
          rw [hx] at h
          simp only [Option.map_some, Option.some.injEq] at h
          subst h
          obtain ⟨p, hp, rfl⟩ := RV.ref_iff.mp r
          obtain ⟨vs, h1, h2⟩ := s.obj _ _ _ hp hg
          simp only [toPD]
          exact .lst (SqL.of h1) (rdL_dp (rd_dp s f) hx h2)
      · cases h
/-- equal by being the same things -/
def all2 (g : DV → DV → Bool) : List DV → List DV → Bool
  | [], [] => true
  | x :: xs, y :: ys => g x y && all2 g xs ys
  | _, _ => false
def eqI : Nat → Store → DV → DV → Bool
  | 0, _, _, _ => false
  | f + 1, st, x, y => match x, y with
    | .non, .non => true
    | .bl a, .bl b => a == b
    | .int a, .int b => a == b
    | .str a, .str b => a == b
    | .ref a, .ref b => a == b || (match st.get a with
      | some (.lst xs) => (match st.get b with
        | some (.lst ys) => all2 (eqI f st) xs ys
        | _ => false)
      | _ => false)
    | _, _ => false
theorem all2_paired {g : DV → DV → Bool} {F : V → V → Prop} (hg : ∀ x y v u, g x y = true → RV Z ρ H x v → RV Z ρ H y u → F v u) : ∀ {xs ys : List DV} {vs us : List V}, all2 g xs ys = true → RVs Z ρ H xs vs → RVs Z ρ H ys us → Paired F vs us
  | [], [], vs, us, h, r, q => by
    have e := RVs.nil_iff.mp r; subst e
    have e := RVs.nil_iff.mp q; subst e
    exact .nil
  | x :: xs, y :: ys, vs, us, h, r, q => by
    simp only [all2, Bool.and_eq_true] at h
    obtain ⟨v, r', rfl, h1, h2⟩ := RVs.cons_iff.mp r
    obtain ⟨u, q', rfl, h3, h4⟩ := RVs.cons_iff.mp q
    exact .cons (hg _ _ _ _ h.1 h1 h3) (all2_paired hg h.2 h2 h4)
  | [], _ :: _, vs, us, h, r, q => by simp [all2] at h
  | _ :: _, [], vs, us, h, r, q => by simp [all2] at h
theorem eqI_eqV (s : Sim Z ρ st H) (K : PySem.W.Frag) : ∀ (f : Nat) (x y : DV) (v u : V), eqI f st x y = true → RV Z ρ H x v → RV Z ρ H y u → EqV K H f v u
  | 0, x, y, v, u, h, r, q => by simp [eqI] at h
  | f + 1, x, y, v, u, h, r, q => by
    unfold eqI at h
    split at h
    · exact .inl ⟨by rw [RV.non_iff.mp r, RV.non_iff.mp q], by rw [RV.non_iff.mp r]; rfl⟩
    · have e := beq_iff_eq.mp h
      subst e
      exact .inl ⟨by rw [RV.bl_iff.mp r, RV.bl_iff.mp q], by rw [RV.bl_iff.mp r]; rfl⟩
    · have e := beq_iff_eq.mp h
      subst e
      exact .inl ⟨by rw [RV.int_iff.mp r, RV.int_iff.mp q], by rw [RV.int_iff.mp r]; rfl⟩
    · have e := beq_iff_eq.mp h
      subst e
      exact .inl ⟨by rw [RV.str_iff.mp r, RV.str_iff.mp q], by rw [RV.str_iff.mp r]; rfl⟩
    · rename_i a b
      obtain ⟨p, hp, rfl⟩ := RV.ref_iff.mp r
      obtain ⟨p2, hp2, rfl⟩ := RV.ref_iff.mp q
      rw [Bool.or_eq_true] at h
      rcases h with h | h
      · have e := beq_iff_eq.mp h
        subst e
        rw [hp] at hp2
        cases hp2
        exact .inr (.inl ⟨p, rfl, rfl⟩)
      · split at h
        · rename_i xs hx
          split at h
          · rename_i ys hy
            obtain ⟨vs, h1, h2⟩ := s.obj _ _ _ hp hx
            obtain ⟨us, h3, h4⟩ := s.obj _ _ _ hp2 hy
            exact .inr (.inr (.inl ⟨p, p2, vs, us, rfl, rfl, SqL.of h1, SqL.of h3, all2_paired (eqI_eqV s K f) h h2 h4⟩))
          · cases h
        · cases h
    · cases h
def lstOf (st : Store) : DV → Option (List DV)
  | .ref a => match st.get a with
    | some (.lst xs) => some xs
    | _ => none
  | _ => none
def fEq (neg : Bool) (x y : DV) : MM DV := fun st => match rd 60 st x with
  | some t => (match rd 60 st y with
    | some u => if (okT 60 t && okT 60 u) = true then some (.ok (.bl (neg != eqT t u)), st) else none
    | none => none)
  | none => if neg = true then none else match lstOf st x with
    | some xs => (match lstOf st y with
      | some ys => if all2 (eqI 40 st) xs ys = true then some (.ok (.bl true), st) else none
      | none => none)
    | none => none
theorem lstOf_iff {d : DV} {xs : List DV} (h : lstOf st d = some xs) : ∃ a, d = .ref a ∧ st.get a = some (.lst xs) := by
  unfold lstOf at h
  split at h
  · split at h
    · rename_i ys hg
      cases h
      exact ⟨_, rfl, hg⟩
    · cases h
  · cases h
end
section
variable {X : Cx} {Z : Cz}
theorem op_eqDD (hZ : Z.K = X.K) (hu : X.A.units + 64 < cLine) : OpR X (compareOp .Eq) (R0 Z (fEq false)) := by
  refine OpR.mono ((op_eqD hu).or (op_eqV hu)) fun x y H Q ⟨W, ρ, st, a, b, s, ra, rb, rm⟩ => ?_
  unfold fEq at rm
  cases h1 : rd 60 st a with
  | some t =>
    rw [h1] at rm
    dsimp only at rm
    cases h2 : rd 60 st b with
    | none => rw [h2] at rm; exact rm.elim
    | some u =>
      rw [h2] at rm
      dsimp only at rm
      by_cases hk : (okT 60 t && okT 60 u) = true
      · rw [if_pos hk] at rm
        rw [Bool.and_eq_true] at hk
        refine .inl ⟨toPD t, toPD u, ?_, ?_, okT_shaped hk.1, okT_shaped hk.2, ?_⟩
        · rw [← hZ]; exact rd_dp s 60 a t x h1 ra
        · rw [← hZ]; exact rd_dp s 60 b u y h2 rb
        · rw [eqT_pd]
          refine RM.ok (a := DV.bl (false != eqT t u)) rm s (RV.bl_iff.mpr ?_)
          cases eqT t u <;> rfl
      · rw [if_neg hk] at rm; exact rm.elim
  | none =>
    rw [h1] at rm
    dsimp only at rm
    rw [if_neg Bool.false_ne_true] at rm
    cases h2 : lstOf st a with
    | none => rw [h2] at rm; exact rm.elim
    | some xs =>
      rw [h2] at rm
      dsimp only at rm
      cases h3 : lstOf st b with
      | none => rw [h3] at rm; exact rm.elim
      | some ys =>
        rw [h3] at rm
        dsimp only at rm
        by_cases hk : all2 (eqI 40 st) xs ys = true
        · rw [if_pos hk] at rm
          obtain ⟨n, rfl, hn⟩ := lstOf_iff h2
          obtain ⟨m, rfl, hm⟩ := lstOf_iff h3
          obtain ⟨p, hp, rfl⟩ := RV.ref_iff.mp ra
          obtain ⟨q, hq, rfl⟩ := RV.ref_iff.mp rb
          obtain ⟨vs, i1, i2⟩ := s.obj _ _ _ hp hn
          obtain ⟨us, i3, i4⟩ := s.obj _ _ _ hq hm
          exact .inr ⟨40, by decide, .inl ⟨p, q, vs, us, rfl, rfl, SqL.of i1, SqL.of i3, all2_paired (eqI_eqV s X.K 40) hk i2 i4⟩, RM.ok (a := DV.bl true) rm s (RV.bl_iff.mpr rfl)⟩
        · rw [if_neg hk] at rm; exact rm.elim
theorem op_neDD (hZ : Z.K = X.K) (hu : X.A.units + 64 < cLine) : OpR X (compareOp .NotEq) (R0 Z (fEq true)) := by
  refine OpR.mono (op_neD hu) fun x y H Q ⟨W, ρ, st, a, b, s, ra, rb, rm⟩ => ?_
  unfold fEq at rm
  cases h1 : rd 60 st a with
  | some t =>
    rw [h1] at rm
    dsimp only at rm
    cases h2 : rd 60 st b with
    | none => rw [h2] at rm; exact rm.elim
    | some u =>
      rw [h2] at rm
      dsimp only at rm
      by_cases hk : (okT 60 t && okT 60 u) = true
      · rw [if_pos hk] at rm
        rw [Bool.and_eq_true] at hk
        refine ⟨toPD t, toPD u, ?_, ?_, okT_shaped hk.1, okT_shaped hk.2, ?_⟩
        · rw [← hZ]; exact rd_dp s 60 a t x h1 ra
        · rw [← hZ]; exact rd_dp s 60 b u y h2 rb
        · rw [eqT_pd]
          refine RM.ok (a := DV.bl (true != eqT t u)) rm s (RV.bl_iff.mpr ?_)
          cases eqT t u <;> rfl
      · rw [if_neg hk] at rm; exact rm.elim
  | none =>
    rw [h1] at rm
    dsimp only at rm
    rw [if_pos rfl] at rm
    exact rm.elim
end
end SE

/-! SE: items, slices, built-in functions and methods. -/
namespace SE
open PySem PySem.Spec PyProof.Rows L2

section
variable {X : Cx} {Z : Cz}
/-! ### a[i] -/
theorem atI_rvs {ρ : Rho} {H : Hp} {ds : List DV} {vs : List V} (r : RVs Z ρ H ds vs) {i : Int} {d : DV} (h : L2.atI ds i = some d) : ∃ v, L2.atI vs i = some v ∧ RV Z ρ H d v := by
  unfold L2.atI at h ⊢
  rw [r.length]
  cases hk : L2.ixN ds.length i with
  | none => rw [hk] at h; cases h
  | some j => rw [hk] at h; exact r.get (show ds[j]? = some d from h)
theorem IxR.mono {r r' : R2} (h : IxR X r) (k : ∀ x y H Q, r' x y H Q → r x y H Q) : IxR X r' := fun va sl pins s σ H x y v u Q I rx ry q => h va sl pins s σ H x y v u Q I rx ry (k _ _ _ _ q)
def fIx : DV → DV → MM DV
  | .str l, .int i => if l.length ≤ sizeLine then lift ((L2.atI l i).map fun c => .str [c]) else stuck
  | .tup xs, .int i => lift (L2.atI xs i)
  | .fl xs, .int i => lift (L2.atI xs i)
  | .ref a, .int i => fun st => match st.get a with
    | some (.lst xs) => lift (L2.atI xs i) st
    | _ => none
  | _, _ => stuck
theorem ix_D (hZ : Z.K = X.K) : IxR X (R0 Z fIx) := by
  refine IxR.mono ix_seq fun x y H Q ⟨W, ρ, st, a, b, s, ra, rb, rm⟩ => ?_
  unfold fIx at rm
  split at rm
  · rename_i l i
    split at rm
    · rename_i hl
      obtain ⟨d, e, q⟩ := RM.lift rm s
      cases hc : L2.atI l i with
      | none => rw [hc] at e; cases e
      | some c =>
        rw [hc] at e
        have e2 : d = .str [c] := (Option.some.inj e).symm
        subst e2
        refine .inr (.inr ⟨_, i, c, RV.str_iff.mp ra, RV.int_iff.mp rb, by rw [str_len]; exact hl, ?_, q _ (RV.str_iff.mpr rfl)⟩)
        show L2.atI l.toArray.toList i = some c
        rw [List.toList_toArray]; exact hc
    · exact rm.elim
  · rename_i xs i
    obtain ⟨d, e, q⟩ := RM.lift rm s
    obtain ⟨p, vs, rfl, h1, h2⟩ := RV.tup_iff.mp ra
    obtain ⟨v, h3, h4⟩ := atI_rvs h2 e
    exact .inr (.inl ⟨p, vs, i, v, rfl, RV.int_iff.mp rb, by rw [← hZ]; exact h1.sq, h3, q _ h4⟩)
  · rename_i xs i
    obtain ⟨d, e, q⟩ := RM.lift rm s
    obtain ⟨p, vs, rfl, h1, h2⟩ := RV.fl_iff.mp ra
    obtain ⟨v, h3, h4⟩ := atI_rvs h2 e
    exact .inl ⟨p, vs, i, v, rfl, RV.int_iff.mp rb, by rw [← hZ]; exact h1.sq, h3, q _ h4⟩
  · rename_i n i
    (try dsimp only at rm)
    split at rm
    · rename_i xs hx
      obtain ⟨d, e, q⟩ := RM.lift rm s
      obtain ⟨p, hp, rfl⟩ := RV.ref_iff.mp ra
      obtain ⟨vs, h1, h2⟩ := lst_of s hp hx
      obtain ⟨v, h3, h4⟩ := atI_rvs h2 e
      exact .inl ⟨p, vs, i, v, rfl, RV.int_iff.mp rb, SqL.of h1, h3, q _ h4⟩
    · exact rm.elim
  · exact rm.elim
/-! ### a[lo:hi] -/
def cutL {α : Type} (xs : List α) (lo hi : Option Int) : List α := (xs.drop (HT.sIx xs.length 0 lo)).take (HT.sIx xs.length xs.length hi - HT.sIx xs.length 0 lo)
theorem SlR.mono {r r' : V → Option Int → Option Int → Hp → VK → Prop} (h : SlR X r) (k : ∀ x l u H Q, r' x l u H Q → r x l u H Q) : SlR X r' := fun pins s σ H x v vl vu lo hi sl Q I rx a b c q => h pins s σ H x v vl vu lo hi sl Q I rx a b c (k _ _ _ _ _ q)
def RS0 (Z : Cz) (f : DV → Option Int → Option Int → MM DV) : V → Option Int → Option Int → Hp → VK → Prop := fun x l u H Q => ∃ (W : Value → Option Addr → Hp → Prop) (ρ : Rho) (st : Store) (a : DV), Sim Z ρ st H ∧ RV Z ρ H a x ∧ RM Z W ρ H (RV Z) (f a l u st) Q
theorem ss_RS0 {f : DV → Option Int → Option Int → MM DV} : SS Z (RS0 Z f) f := fun W ρ st H a x l u Q s ra rm => ⟨W, ρ, st, a, s, ra, rm⟩
def newL (xs : List DV) : MM DV := fun st => some (.ok (.ref st.size), st.push (.lst xs))
def fSl : DV → Option Int → Option Int → MM DV
  | .str l, lo, hi => if l.length ≤ sizeLine then ret (.str (cutL l lo hi)) else stuck
  | .tup xs, lo, hi => if HT.sIx xs.length 0 lo = 0 ∧ HT.sIx xs.length xs.length hi = xs.length then stuck else ret (.tup (cutL xs lo hi))
  | .fl xs, lo, hi => newL (cutL xs lo hi)
  | .ref a, lo, hi => fun st => match st.get a with
    | some (.lst xs) => newL (cutL xs lo hi) st
    | _ => none
  | _, _, _ => stuck
theorem cutS_list (l : List Nat) (lo hi : Option Int) : L2.cutS (⟨l.toArray⟩ : Str) lo hi = ⟨(cutL l lo hi).toArray⟩ := by
  unfold L2.cutS cutL
  simp [Str.length]
theorem RVs.cut {ρ : Rho} {H : Hp} {ds : List DV} {vs : List V} (r : RVs Z ρ H ds vs) (lo hi : Option Int) : RVs Z ρ H (cutL ds lo hi) (L2.cutV vs lo hi) := by
  unfold cutL L2.cutV
  rw [r.length]
  exact (r.drop _).take _
theorem sl_D (hZ : Z.K = X.K) : SlR X (RS0 Z fSl) := by
  refine SlR.mono (sl_str.or (sl_tup.or sl_list)) fun x lo hi H Q ⟨W, ρ, st, a, s, ra, rm⟩ => ?_
  unfold fSl at rm
  split at rm
  · rename_i l _ _
    split at rm
    · rename_i hl
      refine .inl ⟨_, RV.str_iff.mp ra, by rw [str_len]; exact hl, ?_⟩
      rw [cutS_list]
      exact rm.ok s (RV.str_iff.mpr rfl)
    · exact rm.elim
  · rename_i xs _ _
    split at rm
    · exact rm.elim
    · rename_i hl
      obtain ⟨p, vs, rfl, h1, h2⟩ := RV.tup_iff.mp ra
      exact .inr (.inl ⟨p, vs, rfl, by rw [← hZ]; exact h1.sq, by rw [h2.length]; exact hl, RM.newT rm s (h2.cut _ _)⟩)
  · rename_i xs _ _
    obtain ⟨p, vs, rfl, h1, h2⟩ := RV.fl_iff.mp ra
    exact .inr (.inr ⟨p, vs, rfl, by rw [← hZ]; exact h1.sq, RM.newL rm s (h2.cut _ _)⟩)
  · rename_i n _ _
    (try dsimp only at rm)
    split at rm
    · rename_i xs hx
      obtain ⟨p, hp, rfl⟩ := RV.ref_iff.mp ra
      obtain ⟨vs, h1, h2⟩ := lst_of s hp hx
      exact .inr (.inr ⟨p, vs, rfl, SqL.of h1, RM.newL rm s (h2.cut _ _)⟩)
    · exact rm.elim
  · exact rm.elim
/-! ### a[i] = e -/
def setI (o i v : DV) (st : Store) : Option Store := match o, i with
  | .ref a, .int k => (match st.get a with
    | some (.lst xs) => (match L2.ixN xs.length k with
      | some j => some (st.set a (.lst (xs.set j v)))
      | none => none)
    | _ => none)
  | _, _ => none
def sSetI (d dox dix : DE) : DS := fun env => ofE (d env) env fun v => ofE (dox env) env fun o => ofE (dix env) env fun i st => match setI o i v st with
  | none => none
  | some st' => some (.nx env, st')
theorem s_setI {W : WX} {pos tpos : Pos} {o i e : Expr} {d dox dix : DE} (he : PE X e (tE Z W d)) (ho : PE X o (tE Z W dox)) (hi : PE X i (tE Z W dix))
    (ha : ∀ v, assign (.Subscript o i tpos) X.env v = (do
      let ov ← holding [v] (eval o X.env)
      let iv ← holding [v, ov] (eval i X.env)
      standAt tpos
      holding [v, ov, iv] (setItem ov iv v)
      release [v, ov, iv] []) := by intro _; rfl)
    (hs : swapsWithSole [.Subscript o i tpos] e pos.line X.env = pure false := by rfl) (hw : swappedStores [.Subscript o i tpos] e X.env = pure none := by rfl)
    (h1 : (assignEach [.Subscript o i tpos] X.env).map (·.2) = [assign (.Subscript o i tpos) X.env] := by rfl) : PS X (.Assign [.Subscript o i tpos] e pos) (tS Z W (sSetI d dox dix)) := by
  refine PS.imp (ps_asg he (pg_sub ho hi set_list ha) hs hw h1) fun D σ H ⟨ρ, st, env, re, s, h⟩ => ⟨ρ, st, env, re, s, RS.ofE h re fun ρ1 H1 st1 v x p1 e1 s1 r1 h1 => ?_⟩
  refine ⟨ρ1, st1, env, re.mono p1 e1, s1, RS.ofE h1 (re.mono p1 e1) fun ρ2 H2 st2 ov o' p2 e2 s2 r2 h2 => ?_⟩
  refine ⟨ρ2, st2, env, re.mono (p1.trans p2) (e1.trans e2), s2, RS.ofE h2 (re.mono (p1.trans p2) (e1.trans e2)) fun ρ3 H3 st3 iv i' p3 e3 s3 r3 h3 => ?_⟩
  cases hset : setI ov iv v st3 with
  | none => rw [hset] at h3; exact h3.elim
  | some st4 =>
    rw [hset] at h3
    unfold setI at hset
    split at hset
    · rename_i n k
      split at hset
      · rename_i xs hx
        split at hset
        · rename_i j hj
          cases hset
          obtain ⟨a, ha2, rfl⟩ := RV.ref_iff.mp r2
          have ha3 := p3 _ _ ha2
          obtain ⟨vs, q1, q2⟩ := lst_of s3 ha3 hx
          have ex : ExtH H3 (upd H3 a (.lst (vs.set j x))) := ExtH.mut q1 fun z => z
          refine ⟨a, vs, k, j, rfl, RV.int_iff.mp r3, q1, by rw [q2.length]; exact hj, h3 ρ3 σ _ Pre.refl ex (s3.wr ha3 q1 trivial (Store.get_lt hx) ⟨_, upd_same, RVs.set ((r1.mono (p2.trans p3) (e2.trans e3)).mono Pre.refl ex) j (q2.mono Pre.refl ex)⟩) (re.mono (p1.trans (p2.trans p3)) (e1.trans (e2.trans (e3.trans ex))))⟩
        · cases hset
      · cases hset
    · cases hset
/-! ### built-in functions -/
def RC0 (Z : Cz) (f : List DV → MM DV) : List V → Hp → VK → Prop := fun vs H Q => ∃ (W : Value → Option Addr → Hp → Prop) (ρ : Rho) (st : Store) (ds : List DV), Sim Z ρ st H ∧ RVs Z ρ H ds vs ∧ RM Z W ρ H (RV Z) (f ds st) Q
theorem sc_RC0 {f : List DV → MM DV} : SC Z (RC0 Z f) f := fun W ρ st H ds vs Q s r rm => ⟨W, ρ, st, ds, s, r, rm⟩
theorem CallR.mono {f : Value} {r r' : List V → Hp → VK → Prop} (h : CallR X f r) (k : ∀ xs H Q, r' xs H Q → r xs H Q) : CallR X f r' := fun pins s σ H xs us Q I r q => h pins s σ H xs us Q I r (k _ _ _ q)
theorem rvs1 {ρ : Rho} {H : Hp} {d : DV} {vs : List V} (r : RVs Z ρ H [d] vs) : ∃ v, vs = [v] ∧ RV Z ρ H d v := by
  obtain ⟨v, r', rfl, h1, h2⟩ := RVs.cons_iff.mp r
  have e := RVs.nil_iff.mp h2
  subst e
  exact ⟨v, rfl, h1⟩
theorem rvs2 {ρ : Rho} {H : Hp} {d e : DV} {vs : List V} (r : RVs Z ρ H [d, e] vs) : ∃ v u, vs = [v, u] ∧ RV Z ρ H d v ∧ RV Z ρ H e u := by
  obtain ⟨v, r', rfl, h1, h2⟩ := RVs.cons_iff.mp r
  obtain ⟨u, rfl, h3⟩ := rvs1 h2
  exact ⟨v, u, rfl, h1, h3⟩
def fLen : List DV → MM DV
  | [.str l] => if l.length ≤ sizeLine then ret (.int l.length) else stuck
  | [.tup xs] => ret (.int xs.length)
  | [.fl xs] => ret (.int xs.length)
  | [.ref a] => fun st => match st.get a with
    | some (.lst xs) => some (.ok (.int xs.length), st)
    | _ => none
  | _ => stuck
theorem cr_len (hZ : Z.K = X.K) : CallR X (.builtin "len") (RC0 Z fLen) := by
  refine CallR.mono (call_len_seq.or call_len_str) fun xs H Q ⟨W, ρ, st, ds, s, r, rm⟩ => ?_
  unfold fLen at rm
  split at rm
  · rename_i l
    obtain ⟨v, rfl, r1⟩ := rvs1 r
    split at rm
    · rename_i hl
      refine .inr ⟨_, by rw [RV.str_iff.mp r1], by rw [str_len]; exact hl, ?_⟩
      rw [str_len]
      exact rm.ok s (RV.int_iff.mpr rfl)
    · exact rm.elim
  · obtain ⟨v, rfl, r1⟩ := rvs1 r
    obtain ⟨p, vs, rfl, h1, h2⟩ := RV.tup_iff.mp r1
    exact .inl ⟨p, vs, rfl, .inr (by rw [← hZ]; exact h1.sq), rm.ok s (RV.int_iff.mpr (by rw [h2.length]))⟩
  · obtain ⟨v, rfl, r1⟩ := rvs1 r
    obtain ⟨p, vs, rfl, h1, h2⟩ := RV.fl_iff.mp r1
    exact .inl ⟨p, vs, rfl, .inl (by rw [← hZ]; exact h1.sq), rm.ok s (RV.int_iff.mpr (by rw [h2.length]))⟩
  · obtain ⟨v, rfl, r1⟩ := rvs1 r
    (try dsimp only at rm)
    split at rm
    · rename_i xs hx
      obtain ⟨p, hp, rfl⟩ := RV.ref_iff.mp r1
      obtain ⟨vs, h1, h2⟩ := lst_of s hp hx
      exact .inl ⟨p, vs, rfl, .inl (SqL.of h1), RM.ok (a := DV.int xs.length) rm s (RV.int_iff.mpr (by rw [h2.length]))⟩
    · exact rm.elim
  · exact rm.elim
/-- list(xs) -/
def fList : List DV → MM DV
  | [.tup xs] => newL xs
  | [.fl xs] => newL xs
  | [.ref a] => fun st => match st.get a with
    | some (.lst xs) => newL xs st
    | _ => none
  | _ => stuck
theorem cr_list (hZ : Z.K = X.K) : CallR X (.type "list") (RC0 Z fList) := by
  refine CallR.mono call_list_of fun xs H Q ⟨W, ρ, st, ds, s, r, rm⟩ => ?_
  unfold fList at rm
  split at rm
  · obtain ⟨v, rfl, r1⟩ := rvs1 r
    obtain ⟨p, vs, rfl, h1, h2⟩ := RV.tup_iff.mp r1
    exact ⟨p, vs, rfl, .inr (by rw [← hZ]; exact h1.sq), RM.newL rm s h2⟩
  · obtain ⟨v, rfl, r1⟩ := rvs1 r
    obtain ⟨p, vs, rfl, h1, h2⟩ := RV.fl_iff.mp r1
    exact ⟨p, vs, rfl, .inl (by rw [← hZ]; exact h1.sq), RM.newL rm s h2⟩
  · obtain ⟨v, rfl, r1⟩ := rvs1 r
    (try dsimp only at rm)
    split at rm
    · rename_i xs hx
      obtain ⟨p, hp, rfl⟩ := RV.ref_iff.mp r1
      obtain ⟨vs, h1, h2⟩ := lst_of s hp hx
      exact ⟨p, vs, rfl, .inl (SqL.of h1), RM.newL rm s h2⟩
    · exact rm.elim
  · exact rm.elim
/-- int(x) -/
def isFig (c : Nat) : Bool := Nat.ble 48 c && Nat.ble c 57
def figVal (l : List Nat) : Nat := l.foldl (fun acc c => acc * 10 + (c - 48)) 0
def fInt : List DV → MM DV
  | [.int i] => ret (.int i)
  | [.bl k] => ret (.int (if k then 1 else 0))
  | [.str l] => if (l.all isFig && !l.isEmpty) = true ∧ l.length ≤ 640 then ret (.int (figVal l)) else stuck
  | _ => stuck
theorem cr_int : CallR X (.type "int") (RC0 Z fInt) := by
  refine CallR.mono (call_int1.or call_int_str) fun xs H Q ⟨W, ρ, st, ds, s, r, rm⟩ => ?_
  unfold fInt at rm
  split at rm
  · obtain ⟨v, rfl, r1⟩ := rvs1 r
    exact .inl (.inl ⟨_, by rw [RV.int_iff.mp r1], rm.ok s (RV.int_iff.mpr rfl)⟩)
  · obtain ⟨v, rfl, r1⟩ := rvs1 r
    exact .inl (.inr ⟨_, by rw [RV.bl_iff.mp r1], rm.ok s (RV.int_iff.mpr rfl)⟩)
  · rename_i l
    obtain ⟨v, rfl, r1⟩ := rvs1 r
    split at rm
    · rename_i hl
      obtain ⟨hl1, hl2⟩ := hl
      rw [Bool.and_eq_true] at hl1
      refine .inr ⟨_, (figVal l : Nat), by rw [RV.str_iff.mp r1], ?_, by rw [str_len]; exact hl2, rm.ok s (RV.int_iff.mpr rfl)⟩
      have hd : NumText.AllDigits (⟨l.toArray⟩ : Str).cps.toList := by
        show NumText.AllDigits l.toArray.toList
        rw [List.toList_toArray]
        intro c hc
        have := List.all_eq_true.mp hl1.1 c hc
        unfold isFig at this
        rw [Bool.and_eq_true] at this
        exact ⟨Nat.le_of_ble_eq_true this.1, Nat.le_of_ble_eq_true this.2⟩
      have hn : (⟨l.toArray⟩ : Str).cps.toList ≠ [] := by
        show l.toArray.toList ≠ []
        rw [List.toList_toArray]
        intro z
        rw [z] at hl1
        exact absurd hl1.2 (by decide)
      have := intText_digits hd hn (by rw [str_len]; omega)
      rw [this]
      show some ((NumText.digitsVal l.toArray.toList : Nat) : Int) = some ((figVal l : Nat) : Int)
      rw [List.toList_toArray]
      rfl
    · exact rm.elim
  · exact rm.elim
/-- str(int) -/
def figs (i : Int) : List Nat := (Str.ofString (toString i)).cps.toList
def fStr : List DV → MM DV
  | [.int i] => if i.natAbs.log2 < 1920 then ret (.str (figs i)) else stuck
  | _ => stuck
theorem cr_str : CallR X (.type "str") (RC0 Z fStr) := by
  refine CallR.mono call_str_int fun xs H Q ⟨W, ρ, st, ds, s, r, rm⟩ => ?_
  unfold fStr at rm
  split at rm
  · obtain ⟨v, rfl, r1⟩ := rvs1 r
    split at rm
    · rename_i hl
      refine ⟨_, by rw [RV.int_iff.mp r1], hl, rm.ok s (RV.str_iff.mpr ?_)⟩
      unfold figs
      congr 1
    · exact rm.elim
  · exact rm.elim
/-- sum(list of ints) -/
def asInts : List DV → Option (List Int)
  | [] => some []
  | .int i :: r => (asInts r).map (i :: ·)
  | _ => none
theorem asInts_rel {ρ : Rho} {H : Hp} : ∀ {ds : List DV} {ns : List Int} {vs : List V}, asInts ds = some ns → RVs Z ρ H ds vs → vs = ns.map V.int
  | [], ns, vs, h, r => by
    have e := RVs.nil_iff.mp r; subst e
    have e2 : ns = [] := (Option.some.inj h).symm
    subst e2; rfl
  | d :: ds, ns, vs, h, r => by
    cases d with
    | int i =>
      unfold asInts at h
      cases h2 : asInts ds with
      | none => rw [h2] at h; cases h
      | some ms =>
        rw [h2] at h
        have e : ns = i :: ms := (Option.some.inj h).symm
        subst e
        obtain ⟨v, r', rfl, h3, h4⟩ := RVs.cons_iff.mp r
        rw [asInts_rel h2 h4, RV.int_iff.mp h3]
        rfl
    | _ => simp [asInts] at h
def fSum : List DV → MM DV
  | [.ref a] => fun st => match st.get a with
    | some (.lst xs) => lift ((asInts xs).map fun ns => .int ns.sum) st
    | _ => none
  | _ => stuck
theorem cr_sumD (hc : X.calm = true) : CallR X (.builtin "sum") (RC0 Z fSum) := by
  refine CallR.mono (cr_sum hc) fun xs H Q ⟨W, ρ, st, ds, s, r, rm⟩ => ?_
  unfold fSum at rm
  split at rm
  · obtain ⟨v, rfl, r1⟩ := rvs1 r
    (try dsimp only at rm)
    split at rm
    · rename_i xs hx
      obtain ⟨d, e, q⟩ := RM.lift rm s
      cases hn : asInts xs with
      | none => rw [hn] at e; cases e
      | some ns =>
        rw [hn] at e
        have e2 : d = .int ns.sum := (Option.some.inj e).symm
        subst e2
        obtain ⟨p, hp, rfl⟩ := RV.ref_iff.mp r1
        obtain ⟨vs, h1, h2⟩ := lst_of s hp hx
        have e3 := asInts_rel hn h2
        subst e3
        exact ⟨p, ns, rfl, SqL.of h1, q _ (RV.int_iff.mpr rfl)⟩
    · exact rm.elim
  · exact rm.elim
/-- max(a, b), min(a, b) -/
def fMax2 : List DV → MM DV
  | [.int i, .int j] => ret (.int (if j > i then j else i))
  | _ => stuck
def fMin2 : List DV → MM DV
  | [.int i, .int j] => ret (.int (if j < i then j else i))
  | _ => stuck
theorem cr_max2 (hc : X.calm = true) : CallR X (.builtin "max") (RC0 Z fMax2) := by
  refine CallR.mono (call_max2 hc) fun xs H Q ⟨W, ρ, st, ds, s, r, rm⟩ => ?_
  unfold fMax2 at rm
  split at rm
  · obtain ⟨v, u, rfl, r1, r2⟩ := rvs2 r
    exact ⟨_, _, by rw [RV.int_iff.mp r1, RV.int_iff.mp r2], rm.ok s (RV.int_iff.mpr rfl)⟩
  · exact rm.elim
theorem cr_min2 (hc : X.calm = true) : CallR X (.builtin "min") (RC0 Z fMin2) := by
  refine CallR.mono (call_min2 hc) fun xs H Q ⟨W, ρ, st, ds, s, r, rm⟩ => ?_
  unfold fMin2 at rm
  split at rm
  · obtain ⟨v, u, rfl, r1, r2⟩ := rvs2 r
    exact ⟨_, _, by rw [RV.int_iff.mp r1, RV.int_iff.mp r2], rm.ok s (RV.int_iff.mpr rfl)⟩
  · exact rm.elim
/-! ### isinstance(x, T), T a built-in class -/
def tyN (d : DV) (st : Store) : Option String := match d with
  | .non => some "NoneType"
  | .bl _ => some "bool"
  | .int _ => some "int"
  | .str _ => some "str"
  | .tup _ => some "tuple"
  | .fl _ => some "list"
  | .ref a => match st.get a with
    | some (.lst _) => some "list"
    | some (.dct _) => some "dict"
    | _ => none
theorem tyN_ok {ρ : Rho} {st : Store} {H : Hp} {d : DV} {x : V} {T : String} (s : Sim Z ρ st H) (r : RV Z ρ H d x) (h : tyN d st = some T) : TyX Z.K H x (.type T) := by
  unfold tyN at h
  split at h
  · cases h; rw [RV.non_iff.mp r]; exact .base .non
  · cases h; rw [RV.bl_iff.mp r]; exact .base (.bl _)
  · cases h; rw [RV.int_iff.mp r]; exact .base (.int _)
  · cases h; rw [RV.str_iff.mp r]; exact .base (.str _)
  · cases h
    obtain ⟨p, vs, rfl, h1, h2⟩ := RV.tup_iff.mp r
    rcases h1 with h1 | ⟨o, its, n, hk, hc, _⟩
    · exact .base (.tup h1)
    · exact .kTuple hk hc
  · cases h
    obtain ⟨p, vs, rfl, h1, h2⟩ := RV.fl_iff.mp r
    rcases h1 with ⟨o, h1⟩ | ⟨o, its, n, hk, hc, _⟩
    · exact .base (.frz h1)
    · exact .kList hk hc
  · obtain ⟨p, hp, rfl⟩ := RV.ref_iff.mp r
    split at h
    · rename_i xs hx
      cases h
      obtain ⟨vs, h1, _⟩ := s.obj _ _ _ hp hx
      exact .base (.lst h1)
    · rename_i xs hx
      cases h
      obtain ⟨vs, h1, _⟩ := s.obj _ _ _ hp hx
      exact .base (.dK h1)
    · cases h
def isTy (T U : String) : Option Bool := match U with
  | "int" => some (T == "int" || T == "bool")
  | "bool" => some (T == "bool")
  | "str" => some (T == "str")
  | "list" => some (T == "list")
  | "tuple" => some (T == "tuple")
  | "dict" => some (T == "dict")
  | _ => none
def tyAll : List String := ["NoneType", "bool", "int", "str", "tuple", "list", "dict"]
theorem isTy_kit : ∀ T ∈ tyAll, ∀ U ∈ (["int", "bool", "str", "list", "tuple", "dict"] : List String), kitB T U = isTy T U := by decide +kernel
theorem tyN_mem {d : DV} {st : Store} {T : String} (h : tyN d st = some T) : T ∈ tyAll := by
  unfold tyN at h
  split at h
  · cases h; decide
  · cases h; decide
  · cases h; decide
  · cases h; decide
  · cases h; decide
  · cases h; decide
  · split at h
    · cases h; decide
    · cases h; decide
    · cases h
def dIsi (U : String) (d : DE) : DE := fun env => bnd (d env) fun x st => match tyN x st with
  | some T => lift ((isTy T U).map fun b => .bl b) st
  | none => none
theorem e_isi {W : WX} {pos p pT : Pos} {e : Expr} {d : DE} {U : String} {UN : Str} (hZ : Z.K = X.K) (hU : U ∈ (["int", "bool", "str", "list", "tuple", "dict"] : List String)) (hg : Gl X "isinstance") (hm : X.mg "isinstance" = none) (hgT : Gl X UN) (hmT : X.mg UN = none) (hvT : bootBuiltins UN = some (.type U)) (he : PE X e (tE Z W d))
    (hn : UN ≠ "__name__" := by decide) (hdT : (UN == ("__debug__" : Str)) = false := by decide)
    (hs1 : starEach [e, .Name UN pT] X.env = (false, eval e X.env) :: starEach [.Name UN pT] X.env := by rfl) (hs2 : starEach [.Name UN pT] X.env = (false, eval (.Name UN pT) X.env) :: starEach [] X.env := by rfl) (hpl : (backTo pos (starEach [.Name UN pT] X.env)).any (·.1) = false := by rfl)
    (hv : bootBuiltins "isinstance" = some (.builtin "isinstance") := by decide +kernel) :
    PE X (.Call (.Name "isinstance" p) [e, .Name UN pT] [] pos) (tE Z W (dIsi U d)) := by
  refine PE.imp (pe_callB call_isi hg hm hv (pa_cons he (pa_cons (pe_bltn (v := .ty U) hgT hmT hvT rfl hn hdT) pa_nil hs2) hs1) (by decide) (by decide) hs1 hpl) fun σ H Q ⟨ρ, st, env, re, s, rm⟩ => ⟨ρ, st, env, re, s, RM.bnd rm fun ρ1 H1 st1 x v p1 e1 s1 r1 h1 => ?_⟩
  show rIsi X.K [v, .ty U] H1 Q
  cases hT : tyN x st1 with
  | none => rw [hT] at h1; exact h1.elim
  | some T =>
    rw [hT] at h1
    obtain ⟨b, e, q⟩ := RM.lift h1 s1
    cases hb : isTy T U with
    | none => rw [hb] at e; cases e
    | some k =>
      rw [hb] at e
      have e2 : b = .bl k := (Option.some.inj e).symm
      subst e2
      refine ⟨v, .ty U, .type T, .type U, k, rfl, .ty U, by rw [← hZ]; exact tyN_ok s1 r1 hT, kit_ty ?_, q _ (RV.bl_iff.mpr rfl)⟩
      rw [isTy_kit T (tyN_mem hT) U hU]; exact hb
/-! ### methods -/
def RM0 (Z : Cz) (f : DV → List DV → MM DV) : V → List V → Hp → VK → Prop := fun x vs H Q => ∃ (W : Value → Option Addr → Hp → Prop) (ρ : Rho) (st : Store) (a : DV) (ds : List DV), Sim Z ρ st H ∧ RV Z ρ H a x ∧ RVs Z ρ H ds vs ∧ RM Z W ρ H (RV Z) (f a ds st) Q
theorem sm_RM0 {f : DV → List DV → MM DV} : SM Z (RM0 Z f) f := fun W ρ st H a x ds vs Q s ra r rm => ⟨W, ρ, st, a, ds, s, ra, r, rm⟩
theorem MtR.mono {id : String} {r r' : V → List V → Hp → VK → Prop} (h : MtR X id r) (k : ∀ x xs H Q, r' x xs H Q → r x xs H Q) : MtR X id r' := fun pins s σ H x xs v us Q I rx rs q => h pins s σ H x xs v us Q I rx rs (k _ _ _ _ q)
def mAppend : DV → List DV → MM DV
  | .ref a, [y] => fun st => match st.get a with
    | some (.lst xs) => if xs.length < sizeLine then some (.ok .non, st.set a (.lst (xs ++ [y]))) else none
    | _ => none
  | _, _ => stuck
theorem mt_appendD : MtR X "list.append" (RM0 Z mAppend) := by
  refine MtR.mono mt_append fun x xs H Q ⟨W, ρ, st, a, ds, s, ra, r, rm⟩ => ?_
  unfold mAppend at rm
  split at rm
  · rename_i n y
    (try dsimp only at rm)
    split at rm
    · rename_i ys hy
      split at rm
      · rename_i hl
        obtain ⟨v, rfl, r1⟩ := rvs1 r
        obtain ⟨p, hp, rfl⟩ := RV.ref_iff.mp ra
        obtain ⟨vs, h1, h2⟩ := lst_of s hp hy
        exact ⟨p, vs, v, rfl, rfl, h1, by rw [h2.length]; exact hl, RM.wrL rm s hp h1 (Store.get_lt hy) (h2.append (RVs.cons_iff.mpr ⟨v, [], rfl, r1, RVs.nil_iff.mpr rfl⟩)) (RV.non_iff.mpr rfl)⟩
      · exact rm.elim
    · exact rm.elim
  · exact rm.elim
/-- sep.join(list of texts) -/
def asStrs : List DV → Option (List (List Nat))
  | [] => some []
  | .str l :: r => (asStrs r).map (l :: ·)
  | _ => none
theorem asStrs_rel {ρ : Rho} {H : Hp} : ∀ {ds : List DV} {ns : List (List Nat)} {vs : List V}, asStrs ds = some ns → RVs Z ρ H ds vs → vs = (ns.map fun l => (⟨l.toArray⟩ : Str)).map V.str
  | [], ns, vs, h, r => by
    have e := RVs.nil_iff.mp r; subst e
    have e2 : ns = [] := (Option.some.inj h).symm
    subst e2; rfl
  | d :: ds, ns, vs, h, r => by
    cases d with
    | str i =>
      unfold asStrs at h
      cases h2 : asStrs ds with
      | none => rw [h2] at h; cases h
      | some ms =>
        rw [h2] at h
        have e : ns = i :: ms := (Option.some.inj h).symm
        subst e
        obtain ⟨v, r', rfl, h3, h4⟩ := RVs.cons_iff.mp r
        rw [asStrs_rel h2 h4, RV.str_iff.mp h3]
        rfl
    | _ => simp [asStrs] at h
def joinS (sep : List Nat) : List (List Nat) → List Nat
  | [] => []
  | [x] => x
  | x :: y :: r => x ++ sep ++ joinS sep (y :: r)
def lenSum : List (List Nat) → Nat
  | [] => 0
  | x :: r => x.length + lenSum r
def mJoin : DV → List DV → MM DV
  | .str a, [.ref n] => fun st => match st.get n with
    | some (.lst xs) => (match asStrs xs with
      | some ys => if lenSum ys + ys.length * a.length ≤ 16777216 then some (.ok (.str (joinS a ys)), st) else none
      | none => none)
    | _ => none
  | _, _ => stuck
theorem joinS_eq (a : List Nat) : ∀ ys : List (List Nat), TL.joinL a ys = joinS a ys
  | [] => rfl
  | [x] => rfl
  | x :: y :: r => by
    have ih := joinS_eq a (y :: r)
    show x ++ (a ++ TL.joinL a (y :: r)) = x ++ a ++ joinS a (y :: r)
    rw [ih, List.append_assoc]
theorem join_list_eq (a : List Nat) (ys : List (List Nat)) : Txt.join (⟨a.toArray⟩ : Str) (ys.map fun l => ⟨l.toArray⟩) = ⟨(joinS a ys).toArray⟩ := by
  apply TL.ext_tl
  rw [TL.join_eq, TL.tl_join, List.map_map]
  have e1 : (TL.tl ∘ fun l : List Nat => (⟨l.toArray⟩ : Str)) = id := by funext l; simp [TL.tl]
  rw [e1, List.map_id]
  show TL.joinL a.toArray.toList ys = (joinS a ys).toArray.toList
  rw [List.toList_toArray, List.toList_toArray]
  exact joinS_eq a ys
theorem lenSum_eq : ∀ ys : List (List Nat), ((ys.map fun l => (⟨l.toArray⟩ : Str)).map (·.length)).sum = lenSum ys
  | [] => rfl
  | x :: r => by
    rw [List.map_cons, List.map_cons, List.sum_cons, lenSum_eq r, str_len]
    rfl
theorem mt_joinD : MtR X "str.join" (RM0 Z mJoin) := by
  refine MtR.mono mt_join fun x xs H Q ⟨W, ρ, st, a, ds, s, ra, r, rm⟩ => ?_
  unfold mJoin at rm
  split at rm
  · rename_i l n
    (try dsimp only at rm)
    split at rm
    · rename_i ys hy
      split at rm
      · rename_i zs hz
        split at rm
        · rename_i hl
          obtain ⟨v, rfl, r1⟩ := rvs1 r
          obtain ⟨p, hp, rfl⟩ := RV.ref_iff.mp r1
          obtain ⟨vs, h1, h2⟩ := lst_of s hp hy
          have e := asStrs_rel hz h2
          subst e
          refine ⟨_, p, _, RV.str_iff.mp ra, rfl, .inl (SqL.of h1), ?_, ?_⟩
          · rw [lenSum_eq, List.length_map, str_len]; exact hl
          · rw [join_list_eq]; exact RM.ok (a := DV.str (joinS l zs)) rm s (RV.str_iff.mpr rfl)
        · exact rm.elim
      · exact rm.elim
    · exact rm.elim
  · exact rm.elim
/-- s.strip(signs) -/
def stripL (cs l : List Nat) : List Nat := ((l.drop (l.takeWhile cs.contains).length).take (l.length - ((l.drop (l.takeWhile cs.contains).length).reverse.takeWhile cs.contains).length - (l.takeWhile cs.contains).length))
def mStrip : DV → List DV → MM DV
  | .str a, [.str b] => if a.length ≤ sizeLine then ret (.str (stripL b a)) else stuck
  | _, _ => stuck
theorem contains_arr (b : List Nat) : (⟨b.toArray⟩ : Str).cps.contains = b.contains := by
  funext c
  show b.toArray.contains c = b.contains c
  simp
theorem strip_list_eq (a b : List Nat) : Txt.stripChars (⟨a.toArray⟩ : Str) (⟨b.toArray⟩ : Str) = ⟨(stripL b a).toArray⟩ := by
  apply TL.ext_tl
  unfold Txt.stripChars
  rw [PyProof.Rows.stripBy_eq, TL.tl_strSub, contains_arr]
  show (List.drop _ a.toArray.toList).take _ = (stripL b a).toArray.toList
  rw [List.toList_toArray, List.toList_toArray]
  unfold stripLo stripHi stripL
  simp only [if_true]
  have e : (⟨a.toArray⟩ : Str).cps.toList = a := List.toList_toArray
  rw [str_len]
theorem mt_stripD : MtR X "str.strip" (RM0 Z mStrip) := by
  refine MtR.mono mt_stripChars fun x xs H Q ⟨W, ρ, st, a, ds, s, ra, r, rm⟩ => ?_
  unfold mStrip at rm
  split at rm
  · split at rm
    · rename_i hl
      obtain ⟨v, rfl, r1⟩ := rvs1 r
      refine ⟨_, _, RV.str_iff.mp ra, by rw [RV.str_iff.mp r1], by rw [str_len]; exact hl, ?_⟩
      rw [strip_list_eq]
      exact rm.ok s (RV.str_iff.mpr rfl)
    · exact rm.elim
  · exact rm.elim
/-- s.split(one sign) -/
def splitS (c : Nat) : List Nat → List Nat → List (List Nat)
  | acc, [] => [acc]
  | acc, x :: r => if Nat.beq x c = true then acc :: splitS c [] r else splitS c (acc ++ [x]) r
def mSplit : DV → List DV → MM DV
  | .str a, [.str [c]] => if a.length + 2 ≤ sizeLine ∧ Nat.blt c 256 = true then newL ((splitS c [] a).map .str) else stuck
  | _, _ => stuck
theorem spl_one (c : Nat) : ∀ (l acc : List Nat), TL.spl [c] 0 acc l = splitS c acc l
  | [], acc => by rw [TL.spl_nil]; rfl
  | x :: r, acc => by
    unfold splitS
    by_cases h : x = c
    · subst h
      rw [if_pos (Nat.beq_refl x), TL.spl_hit (by simp [TL.pre]), ← spl_one x r []]
      rfl
    · rw [if_neg (fun z => h (Nat.eq_of_beq_eq_true z)), TL.spl_miss (by simp [TL.pre, h]), spl_one c r]
theorem split_list_eq (a : List Nat) (c : Nat) (hc : c < 256) : Txt.split (⟨a.toArray⟩ : Str) (⟨[c].toArray⟩ : Str) = (splitS c [] a).map fun l => ⟨l.toArray⟩ := by
  apply TL.map_tl_inj
  rw [TL.split_spl _ _ (by simp [TL.tl]) (TL.kind_ok (by simp [hc]))]
  show TL.spl [c] 0 [] a.toArray.toList = _
  rw [List.toList_toArray, spl_one, List.map_map]
  have e1 : (TL.tl ∘ fun l : List Nat => (⟨l.toArray⟩ : Str)) = id := by funext l; simp [TL.tl]
  rw [e1, List.map_id]
theorem rvs_strs {ρ : Rho} {H : Hp} : ∀ ys : List (List Nat), RVs Z ρ H (ys.map .str) ((ys.map fun l => (⟨l.toArray⟩ : Str)).map V.str)
  | [] => RVs.nil_iff.mpr rfl
  | y :: r => RVs.cons_iff.mpr ⟨_, _, rfl, RV.str_iff.mpr rfl, rvs_strs r⟩
theorem mt_splitD : MtR X "str.split" (RM0 Z mSplit) := by
  refine MtR.mono mt_split fun x xs H Q ⟨W, ρ, st, a, ds, s, ra, r, rm⟩ => ?_
  unfold mSplit at rm
  split at rm
  · rename_i l c
    split at rm
    · rename_i hl
      obtain ⟨v, rfl, r1⟩ := rvs1 r
      refine ⟨_, _, RV.str_iff.mp ra, by rw [RV.str_iff.mp r1], by rw [str_len]; rfl, by rw [str_len]; exact hl.1, ?_⟩
      rw [split_list_eq _ _ (Nat.le_of_ble_eq_true hl.2)]
      exact RM.newL rm s (rvs_strs _)
    · exact rm.elim
  · exact rm.elim
/-- i.bit_length() -/
def dBits (d : DE) : DE := fun env => bnd (d env) fun x => lift ((asI x).map fun i => .int (Builtin.Int.intBits i : Nat))
theorem e_bits {W : WX} {apos pos : Pos} {o : Expr} {d : DE} (ho : PE X o (tE Z W d)) (hbase : attributeBase o "bit_length" X.env (eval o X.env) = eval o X.env := by rfl) (hline : (apos.endLine == pos.line) = true := by rfl) : PE X (.Call (.Attribute o "bit_length" apos) [] [] pos) (tE Z W (dBits d)) :=
  PE.imp (pe_bits ho hbase hline) fun σ H Q ⟨ρ, st, env, re, s, rm⟩ => ⟨ρ, st, env, re, s, RM.bnd rm fun ρ1 H1 st1 x v p1 e1 s1 r1 h1 => by
    obtain ⟨b, e, q⟩ := RM.lift h1 s1
    cases hi : asI x with
    | none => rw [hi] at e; cases e
    | some i =>
      rw [hi] at e
      have e2 : b = .int (Builtin.Int.intBits i : Nat) := (Option.some.inj e).symm
      subst e2
      have e3 := asI_iff hi
      subst e3
      exact ⟨i, RV.int_iff.mp r1, q _ (RV.int_iff.mpr rfl)⟩⟩
end
end SE

/-! SE: own exceptions: a class over ValueError whose __init__ says super().__init__(value); self.value = value. -/
namespace PySem
namespace SX
open PySem.W PySem.Calls PyProof.Rows PySem.HandSPX

structure IPos where
  a1 : Pos
  a2 : Pos
  a3 : Pos
  s1 : Pos
  s2 : Pos
  s3 : Pos
  v1 : Pos
  c1 : Pos
  e1 : Pos
  q1 : Pos
  q2 : Pos
  q3 : Pos
  q4 : Pos
def iA (p : IPos) : Arguments := { posonlyargs := [], args := [{ arg := "self", annotation := none, pos := p.a1 }, { arg := "value", annotation := none, pos := p.a2 }], vararg := none, kwonlyargs := [], kw_defaults := [], kwarg := none, defaults := [.Constant .none 0 p.a3] }
def iB1 (p : IPos) : Stmt := .Expr (.Call (.Attribute (.Call (.Name "super" p.s1) [] [] p.s2) "__init__" p.s3) [.Name "value" p.v1] [] p.c1) p.e1
def iB2 (p : IPos) : Stmt := .Assign [.Attribute (.Name "self" p.q1) "value" p.q2] (.Name "value" p.q3) p.q4
def iB (p : IPos) : List Stmt := [iB1 p, iB2 p]
def iS : Scope := { kind := .function, names := [(PySem.Str.ofString "self", .local), (PySem.Str.ofString "value", .local), (PySem.Str.ofString "__class__", .free), (PySem.Str.ofString "super", .globalImplicit)], isGenerator := false, isCoroutine := false, more := [] }
def iCall (p : IPos) : Expr := .Call (.Attribute (.Call (.Name "super" p.s1) [] [] p.s2) "__init__" p.s3) [.Name "value" p.v1] [] p.c1
def IEv (p : IPos) : Prop := ∀ (qual : Str) (L f cda cc : Addr), ∃ pl : Sem Bool, eval (iCall p) (ksEnv qual iS L f (.ref cda) cc) = (do
      let ov ← attributeBase (.Call (.Name "super" p.s1) [] [] p.s2) "__init__" (ksEnv qual iS L f (.ref cda) cc) (eval (.Call (.Name "super" p.s1) [] [] p.s2) (ksEnv qual iS L f (.ref cda) cc))
      standAt p.s3.atName
      let (f', first) ← holding [ov] (getMethod ov "__init__" pl)
      callWith p.c1 f' first (backTo p.c1 (starEach [.Name "value" p.v1] (ksEnv qual iS L f (.ref cda) cc))) [])
example : IEv ⟨⟨6, 17, 6, 21⟩, ⟨6, 23, 6, 28⟩, ⟨6, 29, 6, 33⟩, ⟨7, 8, 7, 13⟩, ⟨7, 8, 7, 15⟩, ⟨7, 8, 7, 24⟩, ⟨7, 25, 7, 30⟩, ⟨7, 8, 7, 31⟩, ⟨7, 8, 7, 31⟩, ⟨8, 8, 8, 12⟩, ⟨8, 8, 8, 18⟩, ⟨8, 21, 8, 26⟩, ⟨8, 8, 8, 26⟩⟩ := fun _ _ _ _ _ => ⟨_, rfl⟩
/-- what the written part says of an own exception class at C and of its __init__ at fI -/
structure ITxt (prog : Program) (K : Frag) (C : Addr) : Prop where
  cls : ∃ nm q N bs bm sn sub ab col dd k0 k1 k2 k3 k5, K.lookup C = some (excClassObj nm q C N bs bm true sn sub ab col dd k0 k1 k2 k3 k5 "ValueError.__new__") ∧ refsVE bm = true
  sa : findIn K (.ref C) "__setattr__" = some (some (.builtin "object.__setattr__"))
  ga : findIn K (.ref C) "__getattribute__" = some (some (.builtin "BaseException.__getattribute__"))
  gg : findIn K (.ref C) "__getattr__" = some none
  noN : findIn K (.ref C) "value" = some none
  kC : keepIn K (.ref C) = true
  exC : subIn K (.ref C) (.type "BaseException") = some true
  veC : subIn K (.ref C) (.type "ValueError") = some true
  tyC : typeIn K (.ref C) = some (.type "type")
  hdC : hasDictIn K C = true
  sup : ks_superIn K C C "__init__" = some (some (.builtin "ValueError.__init__"))
  self : mroIn K C (.ref C) = some true
  opq : nsIn K cStatics "thirdparty.any" = some none
  nsup : nsIn K mainGlobals "super" = some none
  top : (prog.main.scope.names.lookup ("super" : Str)).isSome = false
  fn : ∃ (fI cc cda dT : Addr) (qual : Str) (oc : Value) (od : Option Addr) (kV doc pm : Value) (an : Option Addr) (ct : Value) (osl : Array (Option Value)) (p : IPos) (ccl : Value) (cdd : Option Addr) (vs : Array Value) (ccs : Array (Option Value)) (file : Str) (tf : Tok) (cl : Value) (cld : Option Addr) (csl : Array (Option Value)) (dc : Value) (ddd : Option Addr) (dn : Nat) (dsl : Array (Option Value)),
    findIn K (.ref C) "__init__" = some (some (.ref fI)) ∧ typeIn K (.ref fI) = some (.type "function") ∧
    K.lookup fI = some ⟨oc, od, .func (ksFn "__init__" qual (iA p) (iB p) iS (.ref dT) kV doc pm an (.ref cda) ct cc), osl⟩ ∧ K.lookup dT = some ⟨dc, ddd, .seq #[.none] dn, dsl⟩ ∧ codeIn K (.ref cda) qual = true ∧
    K.lookup cda = some ⟨ccl, cdd, .fields vs, ccs⟩ ∧ vs[2]? = some (.str file tf) ∧ ((prog.main.file : Str) == file) = true ∧ K.lookup cc = some ⟨cl, cld, .cell (some (.ref C)), csl⟩ ∧ IEv p

section
variable {prog : Program} {w : World} {A : Around} {E : Value → Shared → Prop} {h : Heap} {g : Array GenState} {d : Drawn} {t : Nat} {os : OsState}
variable {nm q : Str} {C N : Addr} {bs bm : List Value} {hdct : Bool} {sn : List Str} {sub : List Value} {ab : Bool} {col : Option Bool} {dd : Option Addr} {k0 k1 k2 k3 k5 : Option Value}
theorem call_mw {u e t0 : Addr} {rest : List Value} {Q : Value → Shared → Prop}
    (hC : h.get? C = some (excClassObj nm q C N bs bm hdct sn sub ab col dd k0 k1 k2 k3 k5 "ValueError.__new__")) (he : h.get? e = some (HandSPX.excO C t0)) (hu : h.get? u = some (kxs_mw "ValueError.__init__" e)) (hrest : rest.length ≤ sizeLine)
    (hq : ∀ h' t1, (∀ b o, b ≠ e → h.get? b = some o → h'.get? b = some o) → h'.get? e = some (HandSPX.excO C t1) → Q .none ⟨h', g, d, t, os⟩) :
    wpAny (model prog w) A (call (.ref u) rest) Q E ⟨h, g, d, t, os⟩ := by
  refine wpAny_call (codeAny_of_tree ?_)
  show wpAny _ A.in1 (callAny (.ref u) ⟨rest, []⟩) _ _ _
  simp only [callAny]
  refine wpAny_bind (wpAny_load hu ?_)
  simp only [kxs_mw, show (Value.type "method-wrapper" == Value.type "method" || Value.type "method-wrapper" == Value.type "builtin_function_or_method" || Value.type "method-wrapper" == Value.type "method-wrapper") = true by decide, if_true]
  refine W.KFB.if_so (by decide) ?_
  refine wpAny_bind (ESX.check_bound F.excBase_ValueError hC he rfl ?_)
  refine wpAny_bind (wpAny_pure (wpAny_pure ?_))
  refine ⟨Code.quiet_builtin _ (by decide +kernel), codeAny_builtin F.excBase_ValueError.initEntry ?_⟩
  rw [Around.under_plainId F.excBase_ValueError.init.plain _]
  wp_walk
  refine hq _ h.objs.size (fun b o hb ho => ?_) ?_
  · rw [Heap.get?_update_other _ _ (Ne.symm hb)]
    exact Heap.get?_push_of_some _ ho
  · rw [Heap.get?_update_self _ (Heap.get?_push_of_some _ he) rfl]
    rfl
end
theorem ldL {prog : Program} {w : World} {A : Around} {E : Value → Shared → Prop} {s : Shared} {env : Env} {m : Str → Option Value} {x : Str} {pos : Pos} {v : Value} {Q : Value → Shared → Prop} (hn : s.heap.Ns env.locals m) (hv : m x = some v) (h : Q v s)
    (hk : env.scope.kind = .function := by rfl) (hl : env.kindOf x = some .local := by rfl) (hd : (x == ("__debug__" : Str)) = false := by decide) : wpAny (model prog w) A (eval (.Name x pos) env) Q E s := wpAny_Name (wpAny_loadName_local hk hl hn hv h) hd
theorem one_size (v : Value) : [v].length ≤ sizeLine := by
  rw [sizeLine_eq]
  exact (by decide : 1 ≤ 16777216)
/-- what __init__ leaves of a fresh exception at x -/
structure InitEnd (h h' : Heap) (x C dx : Addr) (v : Value) : Prop where
  keep : ∀ b o, b ≠ x → h.get? b = some o → h'.get? b = some o
  obj : ∃ t1 : Addr, h'.get? x = some { cls := .ref C, dict := some dx, data := .fields #[.ref t1, .none, .none, .none, .bool false, .none] }
  dbig : h.objs.size ≤ dx
  dne : dx ≠ x
  ns : h'.Ns1 dx (fun y => if y = "value" then some v else none)
section
variable {prog : Program} {w : World} {A : Around} {E : Value → Shared → Prop} {R : Result → Shared → Prop} {s : Shared} {K : Frag} {mg : Str → Option Value} {C : Addr}
theorem init_run (T : ITxt prog K C) {fI cc cda dT : Addr} {qual : Str} {oc : Value} {od : Option Addr} {kV doc pm : Value} {an : Option Addr} {ct : Value} {osl : Array (Option Value)} {p : IPos} {ccl : Value} {cdd : Option Addr} {vs : Array Value} {ccs : Array (Option Value)} {file : Str} {tf : Tok} {cl : Value} {cld : Option Addr} {csl : Array (Option Value)} {dc : Value} {ddd : Option Addr} {dn : Nat} {dsl : Array (Option Value)}
    (ho : K.lookup fI = some ⟨oc, od, .func (ksFn "__init__" qual (iA p) (iB p) iS (.ref dT) kV doc pm an (.ref cda) ct cc), osl⟩) (hdT : K.lookup dT = some ⟨dc, ddd, .seq #[.none] dn, dsl⟩) (hcd : codeIn K (.ref cda) qual = true)
    (hcode : K.lookup cda = some ⟨ccl, cdd, .fields vs, ccs⟩) (hvs : vs[2]? = some (.str file tf)) (hfile : ((prog.main.file : Str) == file) = true) (hcell : K.lookup cc = some ⟨cl, cld, .cell (some (.ref C)), csl⟩) (hev : IEv p)
    {x t0 : Addr} {v : Value} (X : K.In s.heap) (G : s.heap.Ns mainGlobals mg) (hmg : mg "super" = none) (B : ∃ mb, s.heap.Ns builtinsNs mb ∧ ∀ x : Str, x ≠ "__name__" → mb x = bootBuiltins x) (hlim : s.heap.NoLimit) (hx : s.heap.get? x = some (excO C t0)) (hnx : K.lookup x = none) (hroom : A.depth < recursionLimit)
    (hq : ∀ h' tk dx, InitEnd s.heap h' x C dx v → R (.ok (.ret .none)) { s with heap := h', toks := tk }) :
    codeAny (model prog w) A (.call (.ref fI) ⟨[.ref x, v], []⟩) R s := by
  obtain ⟨nm, q, N, bs, bm, sn, sub, ab, col, dd, k0, k1, k2, k3, k5, hC, hbm⟩ := T.cls
  obtain ⟨mb, Bn, Bq⟩ := B
  have hcl : clsIn K C = some { name := nm, bases := bs, mro := .ref C :: bm, ns := N, qualname := q, hasDict := true, slotNames := sn, subclasses := sub, abstract := ab, collection := col, hasDel := false } := by unfold clsIn; rw [hC] <;> rfl
  refine ks_codeAny_call_defAt (fd := ksFn "__init__" qual (iA p) (iB p) iS (.ref dT) kV doc pm an (.ref cda) ct cc) (body := iB p) (binds := [("self", .ref x), ("value", v)]) hroom (X _ _ ho) rfl hlim (codeRec_of X hcd) rfl (BindsTo.of_defaults (T := dT) rfl (X _ _ hdT) rfl rfl rfl) (fun y hy => ?_) ?_ (fun h₀ hns k => ?_) rfl rfl rfl
  · have hy' : y ∈ iS.names := hy
    revert hy'
    exact (by decide : ∀ y ∈ iS.names, y.2 ≠ .cell) y
  · intro y hy
    rcases List.mem_cons.mp hy with rfl | hy
    · rfl
    rcases List.mem_cons.mp hy with rfl | hy
    · rfl
    cases hy
  obtain ⟨hp, g, d, t, os⟩ := s
  have X₀ : K.In h₀ := X.keeps k
  have hx₀ := k _ _ hx
  have hxL : hp.objs.size ≠ x := Nat.ne_of_gt (Heap.lt_size hx)
  show _root_.PySem.wpAt _ _ _ (execs (iB1 p :: [iB2 p]) (ksEnv qual iS hp.objs.size fI (.ref cda) cc)) _ _ _
  obtain ⟨pl, hev⟩ := hev qual hp.objs.size fI cda cc
  refine ks_wpAt_execs_cons (ks_wpAt_Expr_any (ks_wpAt_MethodCall ?_ hev))
  have ex : ExcBaseFacts "ValueError" "ValueError.__new__" "ValueError.__init__" _ := F.excBase_ValueError
  refine ks_wpAt_super_base (env := ksEnv qual iS hp.objs.size fI (.ref cda) cc) rfl rfl (by decide) rfl (X₀ _ _ ho) rfl (ar := { arg := "self", annotation := none, pos := p.a1 }) rfl rfl (X₀ _ _ hcode) rfl hvs hfile T.top ?_
  refine ks_loadName_global rfl rfl (loadGlobal_builtin (env := ksEnv qual iS hp.objs.size fI (.ref cda) cc) (G.keeps k) hmg (Bn.keeps k) ((Bq _ (by decide)).trans (by first | boot_by_name | rfl | kernel_rfl)) ⟨rfl, ?_⟩)
  refine wpAny_loadName_free rfl rfl rfl ⟨_, X₀ _ _ hcell, rfl⟩ ?_
  refine wpAny_loadName_local rfl rfl hns (by first | rfl | with_unfolding_all rfl | kernel_rfl) ?_
  refine ks_wpAny_isType_cls (X₀ _ _ hC) rfl ⟨rfl, ?_⟩
  refine ks_wpAny_call_super (X₀ _ _ hC) rfl hx₀ rfl (fun c e => by cases e) (looks_mroIn X₀ T.self) (fun h₁ e₁ k₁ => ?_)
  have X₁ : K.In h₁ := X₀.keeps k₁
  have hx₁ := k₁ _ _ hx₀
  have hsup := T.sup
  unfold ks_superIn at hsup
  rw [hcl] at hsup
  have I₁ : InstAt h₁ x (excO C t0) C none := ⟨hx₁, rfl, rfl, trivial⟩
  refine kxs_getMethod kxs_ValueError e₁ (looks_opaque X₁ T.opq) (l₀ := .ref C :: bm) (fun A Q E s k q => wpAny_bind ((looks_clsIn X₁ hcl) A _ E s k (wpAny_pure q))) rfl X₁ hsup (I₁.type.andThen (looks_subIn X₁ T.veC)) (ks_ne X₁ I₁ hcl) (by decide) ?_
  have k₂ : ∀ b o, h₁.get? b = some o → (h₁.push (kxs_mw "ValueError.__init__" x)).get? b = some o := fun b o e => Heap.get?_push_of_some _ e
  have hns₁ : (h₁.push (kxs_mw "ValueError.__init__" x)).Ns hp.objs.size (fun y => List.lookup y ([("self", .ref x), ("value", v)] : List (Str × Value)).reverse) := (hns.keeps k₁).keeps k₂
  have hu : (h₁.push (kxs_mw "ValueError.__init__" x)).get? h₁.objs.size = some (kxs_mw "ValueError.__init__" x) := Heap.get?_push_at rfl rfl
  have X₂ := X₁.keeps k₂
  have hvk : (fun y => List.lookup y ([("self", .ref x), ("value", v)] : List (Str × Value)).reverse) "value" = some v := by first | rfl | with_unfolding_all rfl | kernel_rfl
  have hsk : (fun y => List.lookup y ([("self", .ref x), ("value", v)] : List (Str × Value)).reverse) "self" = some (.ref x) := by first | rfl | with_unfolding_all rfl | kernel_rfl
  show wpAny _ _ (callWith p.c1 (.ref h₁.objs.size) [] (backTo p.c1 (starEach (.Name "value" p.v1 :: []) (ksEnv qual iS hp.objs.size fI (.ref cda) cc))) []) _ _ _
  refine kxs_callWith (i := "ValueError.__init__") (x := x) rfl ?_
  refine evalArgs_plain (spliced_cons (ldL hns₁ hvk (spliced_nil ⟨hu, ?_⟩)))
  show wpAny _ _ (call (.ref h₁.objs.size) [v]) _ _ _
  refine call_mw (X₂ _ _ hC) (k₂ _ _ hx₁) hu (one_size v) (fun h₃ t1 k₃ hx₃ => ?_)
  have kS : ∀ b o, hp.get? b = some o → b ≠ x → h₃.get? b = some o := fun b o e hb => k₃ b o hb (k₂ _ _ (k₁ _ _ (k _ _ e)))
  have X₃ : K.In h₃ := fun b o e => kS b o (X b o e) (fun z => by rw [z, hnx] at e; cases e)
  have hns₃ : h₃.Ns hp.objs.size (fun y => List.lookup y ([("self", .ref x), ("value", v)] : List (Str × Value)).reverse) := by
    obtain ⟨o, es, ep, e, r⟩ := hns₁
    exact ⟨o, es, ep, k₃ _ _ hxL e, r⟩
  show _root_.PySem.wpAt _ _ _ (execs (iB2 p :: []) (ksEnv qual iS hp.objs.size fI (.ref cda) cc)) _ _ _
  refine wpAt_of_wpAny (wpAny_execs_cons (plainObj_wpAny_Assign_Attribute ?_))
  refine ldL hns₃ hvk (ldL hns₃ hsk ?_)
  refine set_plain X₃ (ox := excO C t1) (od := none) ⟨hx₃, rfl, rfl, trivial⟩ T.sa ?_
  refine exc_osa X₃ hx₃ hcl (show refsVE (.ref C :: bm) = true from hbm) rfl T.noN (fun h₄ tk₄ dx k₄ dn dne hx₄ hn₄ => ?_)
  show wpAny _ _ (execs _ _) _ _ _
  have z : hp.objs.size ≤ h₃.objs.size := Nat.le_of_lt hns₃.lt
  exact wpAny_execs_nil (hq h₄ tk₄ dx ⟨fun b o hb e => k₄ b o hb (kS b o e hb), ⟨t1, hx₄⟩, Nat.le_trans z dn, dne, hn₄⟩)
/-- a made one -/
structure OwnMade (h h' : Heap) (e C d : Addr) (v : Value) : Prop where
  keep : ∀ b o, h.get? b = some o → h'.get? b = some o
  new : h.objs.size ≤ e
  obj : ∃ oe vs, h'.get? e = some oe ∧ oe.cls = .ref C ∧ oe.dict = some d ∧ oe.data = .fields vs ∧ vs[1]? = some .none
  dbig : h.objs.size ≤ d
  dne : d ≠ e
  ns : h'.Ns1 d (fun y => if y = "value" then some v else none)
theorem own_made (T : ITxt prog K C) {v : Value} (X : K.In s.heap) (G : s.heap.Ns mainGlobals mg) (B : ∃ mb, s.heap.Ns builtinsNs mb ∧ ∀ x : Str, x ≠ "__name__" → mb x = bootBuiltins x) (hlim : s.heap.NoLimit) (hroom : A.depth + 1 < recursionLimit)
    (hq : ∀ h' tk e d, OwnMade s.heap h' e C d v → R (.ok (.ret (.ref e))) { s with heap := h', toks := tk }) :
    codeAny (model prog w) A (.call (.ref C) ⟨[v], []⟩) R s := by
  obtain ⟨nm, q, N, bs, bm, sn, sub, ab, col, dd, k0, k1, k2, k3, k5, hC, hbm⟩ := T.cls
  obtain ⟨fI, cc, cda, dT, qual, oc, od, kV, doc, pm, an, ct, osl, p, ccl, cdd, vs, ccs, file, tf, cl, cld, csl, dc, ddd, dn, dsl, iC, tC, ho, hdT, hcd, hcode, hvs, hfile, hcell, hev⟩ := T.fn
  obtain ⟨hp, g, dr, tk, os⟩ := s
  have k : ∀ b o, hp.get? b = some o → ((hp.push (kdv_tup [v])).push (excO C hp.objs.size)).get? b = some o := fun b o e => Heap.get?_push_of_some _ (Heap.get?_push_of_some _ e)
  have hget : ((hp.push (kdv_tup [v])).push (excO C hp.objs.size)).get? (hp.objs.size + 1) = some (excO C hp.objs.size) := by heap_get
  have hnx : K.lookup (hp.objs.size + 1) = none := by
    cases e : K.lookup (hp.objs.size + 1) with
    | none => rfl
    | some o =>
      have z : hp.get? (hp.objs.size + 1) = some o := X _ _ e
      exact absurd (Nat.lt_of_succ_lt (Heap.lt_size z)) (Nat.lt_irrefl _)
  have hmg : mg "super" = none := mg_none_of X G T.nsup
  refine call_own F.excBase_ValueError (fun X => refsVE_contains X bm hbm) (X _ _ hC) (looks_findIn X iC) (fun self => bind_fn X self tC) (one_size v) ?_
  refine init_run (mg := mg) (s := ⟨(hp.push (kdv_tup [v])).push (excO C hp.objs.size), g, dr, tk, os⟩) T ho hdT hcd hcode hvs hfile hcell hev (X.keeps k) (G.keeps k) hmg (let ⟨mb, b1, b2⟩ := B; ⟨mb, b1.keeps k, b2⟩) (hlim.keeps k) hget hnx ?_ fun h' tk' dx ⟨k', ⟨t1, hx⟩, dn, dne, hns⟩ => ?_
  · show A.depth + 1 < recursionLimit
    exact hroom
  · have old : ∀ b o, hp.get? b = some o → h'.get? b = some o := fun b o e => k' b o (Nat.ne_of_lt (Nat.lt_succ_of_lt (Heap.lt_size e))) (k b o e)
    have z : hp.objs.size + 1 + 1 ≤ dx := by
      first
        | (simpa only [Heap.size_push] using dn)
        | exact dn
        | (have q := dn; rw [Heap.size_push, Heap.size_push] at q; exact q)
    exact ⟨rfl, hq h' tk' (hp.objs.size + 1) dx ⟨old, Nat.le_succ _, ⟨_, _, hx, rfl, rfl, rfl, rfl⟩, Nat.le_trans (Nat.le_trans (Nat.le_succ _) (Nat.le_succ _)) z, dne, hns⟩⟩
end
end SX
end PySem

namespace SE
open PySem PySem.Spec PyProof.Rows L2
theorem relO_value {v : V} {v' : Value} (r : RelV v v') (f : Str) : RelO (List.lookup f [(("value" : Str), v)]) (if f = "value" then some v' else none) := by
  by_cases hw : f = "value"
  · subst hw
    rw [if_pos rfl]
    have q : List.lookup ("value" : Str) [(("value" : Str), v)] = some v := by simp [List.lookup]
    rw [q]
    exact r
  · rw [if_neg hw]
    have qw : (f == ("value" : Str)) = false := by simpa using hw
    have q2 : List.lookup f [(("value" : Str), v)] = none := by simp [List.lookup, qw]
    rw [q2]
    trivial
section
variable {X : Cx} {C : Addr} {Z : Cz} {W : WX}
/-- C(e) -/
def tMkI (C : Addr) (ta : TA) : L2.St → Hp → XK → Prop := fun σ H Q => ta σ H fun vs H1 => ∃ v, vs = [v] ∧ ∀ d, H1 d = none → Q (.ref C) (some d) (upd H1 d (.xd [(("value" : Str), v)]))
theorem pmk_own {x : Str} {a : Expr} {ta : TA} {p pos : Pos} {k : Nat} (T : PySem.SX.ITxt X.prog X.K C) (hr : Room k X.A) (hg : Gl X x) (hm : X.mg x = some (.ref C)) (ha : PA X [a] ta) (hk : 0 < k)
    (hdb : (x == ("__debug__" : Str)) = false := by decide) (he : starEach (a :: []) X.env = (false, eval a X.env) :: starEach [] X.env := by rfl) (hpl : (backTo pos (starEach [] X.env)).any (·.1) = false := by rfl) :
    PMk X (.Call (.Name x p) [a] [] pos) (tMkI C ta) := by
  intro pins s σ H Q I h
  refine wpAny_Call_Name_kw (ld_glob I hg hm ?_ hdb)
  refine PySem.W.callWith_K (h₀ := X.base) I.ok.mod.kin T.kC (thn (ha.run pos pins s σ H _ I h) fun us s1 hh => ?_) he hpl
  obtain ⟨vs, H1, I1, r1, v, ev, q1⟩ := hh
  subst ev
  refine ⟨I1.kIn, ?_⟩
  cases r1 with
  | cons rv rn =>
    rename_i v' us'
    cases rn
    show wpAny _ _ (call (.ref C) [v']) _ _ _
    have hlim := I1.nolimit
    have G := I1.ok.mod.glob.keeps I1.bk
    have B : ∃ mb, s1.heap.Ns builtinsNs mb ∧ ∀ x : Str, x ≠ "__name__" → mb x = bootBuiltins x := let ⟨mb, b1, b2⟩ := I1.ok.mod.blt; ⟨mb, b1.keeps I1.bk, b2⟩
    obtain ⟨hp, g, dr, tk, os⟩ := s1
    refine wpAny_call (PySem.SX.own_made T I1.kIn G B hlim (by have := hr.dp; omega) fun h' tk' e d M => ?_)
    show MkP X pins σ Q (.ref e) ⟨h', g, dr, tk', os⟩
    obtain ⟨oe, fv, hoe, hc, hd, hdat, h1⟩ := M.obj
    have hns := M.ns
    obtain ⟨G', g1, g2⟩ := restrict h' fun b => decide (b ≠ e)
    have gk : ∀ b, b ≠ e → G'.get? b = h'.get? b := fun b hb => g1 b (decide_eq_true hb)
    have ge : G'.get? e = none := g2 e (by simp)
    have old : ∀ b o, hp.get? b = some o → G'.get? b = some o := fun b o q => (gk b (Nat.ne_of_lt (Nat.lt_of_lt_of_le (Heap.lt_size q) M.new))).trans (M.keep b o q)
    have ob : ObjOk X.prog X.w (upd H1 d (.xd [(("value" : Str), v)])) G' d (.xd [(("value" : Str), v)]) :=
      ⟨_, hns.at (fun o q => (gk d M.dne).trans q), fun f => relO_value rv f⟩
    have J : Inv X pins σ (upd H1 d (.xd [(("value" : Str), v)])) ⟨G', g, dr, tk', os⟩ := I1.laid (t' := tk') old M.dbig ob
    refine ⟨e, oe, fv, ⟨G', g, dr, tk', os⟩, _, .ref C, some d, rfl, J, fun b o q => ?_, ge, hoe, ⟨hc, hd⟩, hdat, h1, ?_, rfl, I1.bare, raises_own T.exC T.tyC, q1 d (I1.hok.fresh M.dbig)⟩
    · by_cases hb : b = e
      · have q' : G'.get? b = some o := q
        rw [hb, ge] at q'; cases q'
      · exact (gk b hb).symm.trans q
    · rw [upd_ne (Ne.symm M.dne)]
      exact I1.hok.fresh M.new
/-- raise C(e) -/
def sRaise (C : Nat) (d : DE) : DS := fun env => ofE (d env) env fun v st => some (.er C v env, st)
theorem s_raise {x : Str} {c : Nat} {a : Expr} {d : DE} {p pos pos2 : Pos} {k : Nat} (hc : X.calm = true) (T : PySem.SX.ITxt X.prog X.K (Z.cl c)) (hr : Room k X.A) (hk : 0 < k) (tk : Takes X W) (hg : Gl X x) (hm : X.mg x = some (.ref (Z.cl c))) (ha : PE X a (tE Z W d))
    (hdb : (x == ("__debug__" : Str)) = false := by decide) (hs : starEach (a :: []) X.env = (false, eval a X.env) :: starEach [] X.env := by rfl) (hpl : (backTo pos (starEach [] X.env)).any (·.1) = false := by rfl) :
    PS X (.Raise (some (.Call (.Name x p) [a] [] pos)) none pos2) (tS Z W (sRaise c d)) :=
  PS.imp (ps_raise hc tk (pmk_own T hr hg hm (pa_cons ha pa_nil hs) hk hdb hs hpl)) fun D σ H ⟨ρ, st, env, re, s, h⟩ => by
    refine ⟨ρ, st, env, re, s, RS.ofE h re fun ρ1 H1 st1 v b p e s1 r h1 => ?_⟩
    refine ⟨b, rfl, fun d' hd => ?_⟩
    have ex := ExtH.new (o := .xd [(("value" : Str), b)]) hd
    exact h1 ρ1 σ _ d' b Pre.refl ex (s1.new hd) ((re.mono p e).mono Pre.refl ex) upd_same (r.mono Pre.refl ex)
end
end SE

/-! SE: try .. except C as e, the exception kept; its field; isinstance of own classes. -/
namespace SE
open PySem PySem.Spec PyProof.Rows L2

theorem ext_ok {P : Program} {w : World} {H : Hp} {h : Heap} {cls : Value} {d a : Addr} {oe : Obj} {vs : Array Value} (he : h.get? a = some oe) (hz : Zc cls (some d) oe) (hd : oe.data = .fields vs) : ObjOk P w H h a (ExT cls d a) :=
  ⟨⟨oe, vs, he, hz, hd⟩, ⟨_, he⟩, fun h1 h2 z k => by
    obtain ⟨oe, vs, h1, h2, h3⟩ := z
    exact ⟨oe, vs, k _ h1, h2, h3⟩⟩
theorem ext_at {P : Program} {w : World} {H : Hp} {h : Heap} {cls : Value} {d a : Addr} (hok : HOk P w H h) (he : H a = some (ExT cls d a)) : ∃ (oe : Obj) (vs : Array Value), h.get? a = some oe ∧ Zc cls (some d) oe ∧ oe.data = .fields vs := by
  have x : ObjOk P w H h a (.ext fun h => ∃ (oe : Obj) (vs : Array Value), h.get? a = some oe ∧ Zc cls (some d) oe ∧ oe.data = .fields vs) := hok a _ he
  exact x.1
section
variable {X : Cx} {pins : List (Addr × Obj)} {σ : L2.St} {H : Hp} {s sI s' : Shared} {B : Heap}
/-- .. on the ground, the exception tracked -/
theorem landedT (I : Inv X pins σ H sI) (nb : ∀ b o, sI.heap.get? b = some o → b ∉ frs X.stack → B.get? b = some o) {a d : Addr} {cls : Value} {oe : Obj} {vs : Array Value} (hB : B.get? a = none) (nfr : a ∉ frs X.stack) (na : H a = none)
    (st : B.StaysIn s'.heap) (up : sI.heap.UpToSlots s'.heap) (os : s'.os = sI.os) (ag : AllBare s'.gens) (he : s'.heap.get? a = some oe) (hz : Zc cls (some d) oe) (hd : oe.data = .fields vs) : Inv X pins σ (upd H a (ExT cls d a)) s' := by
  have nf : ∀ b ∈ frs X.stack, ∀ o, sI.heap.get? b = some o → ∃ sl, s'.heap.get? b = some { o with slots := sl } := fun b hb o e => by
    obtain ⟨_, o', e', hd⟩ := I.stack.mem hb
    rw [e] at e'; cases e'
    exact up b o e hd
  have nI : ∀ b o, sI.heap.get? b = some o → b ≠ a := fun b o e z => by
    subst z
    have q := nb _ o e nfr
    rw [hB] at q; cases q
  have hok : HOk X.prog X.w (upd H a (ExT cls d a)) s'.heap := fun b ob q => by
    by_cases hb : b = a
    · subst hb
      rw [upd_same] at q
      cases q
      exact ext_ok he hz hd
    · rw [upd_ne hb] at q
      exact ((I.inGround nb).kept st b ob q).stay (fun c v _ q => q) (fun c q => by rw [upd_ne (ne_of_none q na)]; exact q) fun c xs q => by rw [upd_ne (ne_of_none q na)]; exact q
  have J := I.call (ch := []) (h' := s'.heap) (g' := s'.gens) (t' := s'.toks) (d' := s'.drawn) (H' := upd H a (ExT cls d a))
    ⟨fun b o e _ hb _ => st b o (nb b o e hb), fun b o e _ hb _ => nf b hb o e, fun b o e n _ => by rw [upd_ne (nI b o e)]; exact n, fun b o e _ => by
      by_cases hb : b ∈ frs X.stack
      · obtain ⟨sl, q⟩ := nf b hb o e
        exact ⟨_, q⟩
      · exact ⟨o, st b o (nb b o e hb)⟩, fun b xs e => by rw [upd_ne (ne_of_none e na)]; exact e, fun b o u e => by rw [upd_ne (ne_of_none e na)]; exact e, fun b ps e => ⟨#[], by rw [upd_ne (ne_of_none e na), e]; simp⟩⟩
    hok ag (fun _ z => nomatch z)
  obtain ⟨a1, a2, a3, a4, a5⟩ := s'
  have e5 : a5 = sI.os := os
  subst e5
  exact J
theorem Inv.suiteT (I : Inv X pins σ H s) (a : Addr) : Inv (X.suite a (X.pn ++ pins)) [] σ H s :=
  ⟨I.ok.suite _ _, I.os, I.bare, I.base, I.loc, I.cell, I.free, I.freeC, fun p hp => I.pin p (by rw [List.append_nil] at hp; exact hp), I.hok, I.len⟩
theorem Inv.unsuiteT {a : Addr} {pn' : List (Addr × Obj)} (I : Inv (X.suite a (X.pn ++ pins)) pn' σ H s) (ok : X.Ok) : Inv X pins σ H s :=
  ⟨ok, I.os, I.bare, I.base, I.loc, I.cell, I.free, I.freeC, fun p hp => I.pin p (List.mem_append_left _ hp), I.hok, I.len⟩
end
/-- the suite's ends: the name goes -/
def endT (i : Nat) (D : Ends) : Ends := { nx := fun σ' H' => D.nx (σ'.set i none) H', rt := D.rt, bk := fun σ' H' => D.bk (σ'.set i none) H', ct := fun σ' H' => D.ct (σ'.set i none) H' }
def wT (K : PySem.W.Frag) (c : Value) (i : Nat) (ts : TS) (Wout : WX) (D : Ends) : WX := fun cls d σ H =>
  ∃ dd b, d = some dd ∧ PySem.W.exmOne K cls c = some b ∧ (b = true → ∀ a, H a = none → ts (endT i D) (σ.set i (some (.ref a))) (upd H a (ExT cls dd a))) ∧ (b = false → Wout cls d σ H)
section
variable {X : Cx} {x n : Str} {c : Value} {i : Nat} {body suite : List Stmt} {b₀ : Stmt} {np pos pos' : Pos} {tb : WX → TS} {ts : TS} {Wout : WX}
theorem ps_tryT (hs : X.stack = X.env :: X.outer) (hf : X.env.frame = some X.env.locals) (hN : X.N.Nodup) (hi : X.N[i]? = some n) (hln : X.env.kindOf n = some .local) (hc : Names X x c) (tk : Takes X Wout)
    (hb : ∀ (W : WX) (pn : List (Addr × Obj)) (xe : Value → Shared → Prop), Takes (X.tr pn xe) W → PassesOwn (model X.prog X.w) X.A X.env xe → PSs (X.tr pn xe) body (tb W))
    (hsu : ∀ (a : Addr) (pn : List (Addr × Obj)), PSs (X.suite a pn) (b₀ :: suite) ts) :
    PS X (.Try body [.ExceptHandler (some (.Name x np)) (some n) (b₀ :: suite) pos'] [] [] pos) (fun D σ H => tb (wT X.K c i ts Wout D) D σ H) := by
  refine ⟨fun pins s σ H D I h => ?_⟩
  have ok := I.ok
  have hfr : X.A.frames = some (X.env :: X.outer) := by rw [ok.frames, hs]
  have hloc : Loc X.env.scope n := .inl hln
  refine wpAny_Try_except ?_
  refine wpAny_mono ((hb (wT X.K c i ts Wout D) (X.pn ++ pins) (fun e s₁ => wpAny (model X.prog X.w) X.A (noteFrame e X.env) (fun _ s₂ => wpAny (model X.prog X.w) X.A (setFlight e none) (fun _ s₃ =>
    wpAny (model X.prog X.w) X.A (handleBy e X.env [.ExceptHandler (some (.Name x np)) (some n) (b₀ :: suite) pos']) (SP X pins D) X.xe s₃) X.xe s₂) X.xe s₁) (fun u s' xx => ?_) PassesOwn.looking).run [] s σ H D (I.toTry _) h) (fun f s1 hsp => ?_) (fun e s1 he => he)
  · -- the catch
    obtain ⟨a, B, sI, pins', σ', H', cls, d, rfl, J', nb, up, sky, na, os, ag, dd, b, ed, hb1, hyes, hno⟩ := xx
    subst ed
    have J : Inv X pins σ' H' sI := J'.ofTry ok
    have sky' : Sky B (X.env :: X.outer) a (Zc cls (some dd)) X.env.locals s'.heap := by rw [← hs]; exact sky
    show wpAny (model X.prog X.w) X.A (noteFrame (.ref a) X.env) _ _ _
    refine Sky.land Zc.steady hfr hf sky' fun h3 fl3 up3 => ?_
    have J3 : Inv X pins σ' H' { s' with heap := h3 } := J.landed nb fl3.1 (up.trans up3) os ag
    obtain ⟨oe3, vs3, he3, hz3, hd3⟩ := fl3.there
    have notFr : ∀ {h : Heap} {o : Obj} {vs : Array Value}, h.FunFrames B (X.env :: X.outer) → h.get? a = some o → o.data = .fields vs → a ∉ frs (X.env :: X.outer) := fun {h o vs} ff e dd hm => by
      obtain ⟨_, o', e', hnf⟩ := ff.mem hm
      rw [e] at e'; cases e'
      exact hnf _ dd
    have nfr := notFr fl3.2.2.1 he3 hd3
    have nL : a ≠ X.env.locals := fun z => nfr (List.mem_filterMap.mpr ⟨X.env, List.mem_cons_self, by rw [hf, z]⟩)
    have nF : a ∉ X.fs := fun hm => by
      obtain ⟨e, he, q⟩ := List.mem_filterMap.mp hm
      exact nfr (List.mem_filterMap.mpr ⟨e, List.mem_cons_of_mem _ he, q⟩)
    have S3 := J3.suite he3 hd3 na nL nF
    refine wpAny_handleBy_cons (codeAny_handlers_test ?_) (by intro q; cases q)
    have LT : PySem.W.Looks (model X.prog X.w) h3 (typeOf (.ref a)) cls := fun A Q E s k q => wpAny_typeOf_ref (k _ _ he3) (by rw [hz3.1]; exact q)
    have LM := PySem.W.exm_one (M := model X.prog X.w) (J3.kIn) LT hb1
    have test : ∀ {Q : Value → Shared → Prop} {E : Value → Shared → Prop}, Q c { s' with heap := h3 } → wpAny (model X.prog X.w) (X.A.mark (some (.ref a))) (eval (.Name x np) X.env) Q E { s' with heap := h3 } := fun {Q E} q => by
      obtain ⟨hg, hdbg, hm | ⟨hm, hv, hnn⟩⟩ := hc
      · exact ld_glob (X := X.suite a ((a, oe3) :: (X.pn ++ pins))) S3 hg hm q hdbg
      · exact ld_blt (X := X.suite a ((a, oe3) :: (X.pn ++ pins))) S3 hg hm hv q hnn hdbg
    refine test (LM.here ?_)
    cases b with
    | true =>
      refine codeAny_handlers_suite_as ?_
      refine HandSPX.lands_againZ fl3 fun h4 fl4 up4 => ?_
      obtain ⟨oe4, vs4, he4, hz4, hd4⟩ := fl4.there
      have J4 : Inv X pins σ' (upd H' a (ExT cls dd a)) { s' with heap := h4 } := landedT (s' := { s' with heap := h4 }) J nb fl4.2.1 (by rw [hs]; exact nfr) na fl4.1 ((up.trans up3).trans up4) os ag he4 hz4 hd4
      have S4 := Inv.suiteT J4 a
      refine store_ok (X := X.suite a (X.pn ++ pins)) (v := .ref a) S4 hN hi hloc rfl (fun s5 S5 => ?_) (.inr hln)
      refine wpAny_mono ((hsu a (X.pn ++ pins)).run [] s5 _ _ _ S5 (hyes rfl a na)) (fun f s6 hsp => ?_) (fun _ _ z => False.elim z)
      have end_ : ∀ {σ6 : L2.St} {H6 : Hp} {Q : Shared → Prop}, Inv (X.suite a (X.pn ++ pins)) [] σ6 H6 s6 → (∀ s7, Inv X pins (σ6.set i none) H6 s7 → Q s7) →
          wpAny (model X.prog X.w) X.A (do bindName X.env n .none; unbindBehindTheSuite X.env n pos') (fun _ s7 => Q s7) X.xe s6 := fun {σ6 H6 Q} S6 hq => gone_ok (Inv.unsuiteT S6 ok) hN hi hln hq
      cases f with
      | next =>
        obtain ⟨σ6, H6, S6, q6⟩ := hsp
        exact end_ S6 fun s7 J7 => ⟨_, _, J7, q6⟩
      | brk =>
        obtain ⟨σ6, H6, S6, q6⟩ := hsp
        exact end_ S6 fun s7 J7 => ⟨_, _, J7, q6⟩
      | cont =>
        obtain ⟨σ6, H6, S6, q6⟩ := hsp
        exact end_ S6 fun s7 J7 => ⟨_, _, J7, q6⟩
      | ret u =>
        obtain ⟨v6, σ6, H6, S6, r6, q6⟩ := hsp
        exact end_ S6 fun s7 J7 => ⟨_, _, _, J7, r6, q6⟩
    | false =>
      show wpAny _ X.A (handleBy (.ref a) X.env []) _ _ _
      refine wpAny_handleBy_nil ?_
      obtain ⟨k1, k2, k3, oe, vs, T, oT, ts', he, hz, hd, h1, hr⟩ := id fl3
      unfold PySem.passOn
      refine wpAny_bind (wpAny_field he hd h1 ?_)
      rw [if_neg (show ¬ ((Value.ref T == Value.none) = true) from by simp)]
      have fin : wpAny (model X.prog X.w) X.A (setFlight (.ref a) X.env.frame) (fun _ s4 => wpAny (model X.prog X.w) X.A (throw (.ref a) : Sem Flow) (SP X pins D) X.xe s4) X.xe { s' with heap := h3 } := by
        rw [hf]
        refine HandSPX.setFlight_upZ fl3 fun h4 hh4 up4 => wpAny_throw (tk _ _ ?_)
        exact ⟨a, B, sI, pins, σ', H', cls, some dd, rfl, J, nb, (up.trans up3).trans up4, .inr (.inr (by rw [hs]; exact hh4)), na, os, ag, hno rfl⟩
      first
        | exact wpAny_bind (wpAny_pure (wpAny_bind fin))
        | exact wpAny_bind fin
  · cases f with
    | next =>
      obtain ⟨σ', H', J', q⟩ := hsp
      exact wpAny_execs_nil ⟨σ', H', J'.ofTry ok, q⟩
    | brk =>
      obtain ⟨σ', H', J', q⟩ := hsp
      exact ⟨σ', H', J'.ofTry ok, q⟩
    | cont =>
      obtain ⟨σ', H', J', q⟩ := hsp
      exact ⟨σ', H', J'.ofTry ok, q⟩
    | ret u =>
      obtain ⟨v, σ', H', J', r, q⟩ := hsp
      exact ⟨v, σ', H', J'.ofTry ok, r, q⟩
end
/-- try: body / except c as (slot i): suite -/
def sTryEnd (i : Nat) : Option (SO × Store) → Option (SO × Store)
  | some (.nx e, s) => some (.nx (e.set i none), s)
  | some (.bk e, s) => some (.bk (e.set i none), s)
  | some (.ct e, s) => some (.ct (e.set i none), s)
  | some (.rt v, s) => some (.rt v, s)
  | _ => none
def sTry (i : Nat) (m : Nat → Option Bool) (body suite : DS) : DS := fun env st => match body env st with
  | some (.er C v env', st') => match m C with
    | some true => sTryEnd i (suite (env'.set i (some (.ref st'.size))) (st'.push (.exc C v)))
    | some false => some (.er C v env', st')
    | none => none
  | r => r
theorem RS.ended {Z : Cz} {W : WX} {ρ : Rho} {H : Hp} {D : Ends} {i : Nat} {r : Option (SO × Store)} (h : RS Z W ρ H D (sTryEnd i r)) : RS Z W0 ρ H (endT i D) r := by
  match r, h with
  | some (.nx e, s), h => exact fun ρ' σ' H' p x s' re => h ρ' _ H' p x s' (re.unset i)
  | some (.bk e, s), h => exact fun ρ' σ' H' p x s' re => h ρ' _ H' p x s' (re.unset i)
  | some (.ct e, s), h => exact fun ρ' σ' H' p x s' re => h ρ' _ H' p x s' (re.unset i)
  | some (.rt v, s), h => exact h
section
variable {X : Cx} {x n : Str} {c : Value} {i : Nat} {body suite : List Stmt} {b₀ : Stmt} {np pos pos' : Pos} {Z : Cz} {W : WX} {db du : DS} {m : Nat → Option Bool}
theorem s_try (hs : X.stack = X.env :: X.outer) (hf : X.env.frame = some X.env.locals) (hN : X.N.Nodup) (hi : X.N[i]? = some n) (hln : X.env.kindOf n = some .local) (hc : Names X x c) (tk : Takes X W)
    (hm : ∀ C b, m C = some b → PySem.W.exmOne X.K (.ref (Z.cl C)) c = some b)
    (hb : ∀ (W : WX) (pn : List (Addr × Obj)) (xe : Value → Shared → Prop), Takes (X.tr pn xe) W → PassesOwn (model X.prog X.w) X.A X.env xe → PSs (X.tr pn xe) body (tS Z W db))
    (hsu : ∀ (a : Addr) (pn : List (Addr × Obj)), PSs (X.suite a pn) (b₀ :: suite) (tS Z W0 du)) :
    PS X (.Try body [.ExceptHandler (some (.Name x np)) (some n) (b₀ :: suite) pos'] [] [] pos) (tS Z W (sTry i m db du)) :=
  PS.imp (ps_tryT (tb := fun W => tS Z W db) hs hf hN hi hln hc tk hb hsu) fun D σ H ⟨ρ, st, env, re, s, h⟩ => by
    refine ⟨ρ, st, env, re, s, ?_⟩
    unfold sTry at h
    match hd : db env st with
    | none => rw [hd] at h; exact h
    | some (.nx e, st') => rw [hd] at h; exact h
    | some (.rt v, st') => rw [hd] at h; exact h
    | some (.bk e, st') => rw [hd] at h; exact h
    | some (.ct e, st') => rw [hd] at h; exact h
    | some (.er C v env', st') =>
      rw [hd] at h
      dsimp only at h
      cases hmC : m C with
      | none => rw [hmC] at h; exact h.elim
      | some b =>
        rw [hmC] at h
        cases b with
        | false => exact fun ρ' σ' H' d u p e s' re' hdx r => ⟨d, false, rfl, hm _ _ hmC, (fun z => Bool.noConfusion z), fun _ => h ρ' σ' H' d u p e s' re' hdx r⟩
        | true =>
          refine fun ρ' σ' H' d u p e s' re' hdx r => ⟨d, true, rfl, hm _ _ hmC, fun _ a ha => ?_, fun z => Bool.noConfusion z⟩
          have ex := ExtH.new (o := ExT (.ref (Z.cl C)) d a) ha
          have hda : d ≠ a := fun z => by rw [z, ha] at hdx; cases hdx
          refine ⟨ρ' ++ [a], _, _, (re'.mono Pre.app ex).set i s'.newRef, s'.make (x := .exc C v) ha ⟨d, u, upd_same, (upd_ne hda).trans hdx, r.mono Pre.app ex⟩, ?_⟩
          exact (RS.ended h).weak (p.trans Pre.app) (e.trans ex)
end
end SE
namespace PySem
namespace SX
open PySem.W PySem.Spec PySem.Calls PyProof.Rows
section
variable {prog : Program} {w : World} {A : Around} {E : Value → Shared → Prop} {s : Shared} {K : Frag} {x D : Addr} {ox : Obj} {od : Obj}
/-- what isinstance asks of the class of an exception that has its dict -/
structure IsC (K : Frag) (D : Addr) : Prop where
  ha : findIn K (.ref D) "__class__" = some (some (.builtin "object.__class__"))
  hn : specialIn K (.builtin "object.__class__") "__get__" = some (some (.builtin "getset_descriptor.__get__"))
  ht : takesIn K (.builtin "object.__class__") = some true
  hm : mroIn K D (.type "object") = some true
theorem kin_classX {prog' : Program} (T : ITxt prog' K D) (Y : IsC K D) {Q : Option Value → Shared → Prop} (X : K.In s.heap) (I : InstAt s.heap x ox D (some od)) (h : Q (some (.ref D)) { s with toks := s.toks + 1 }) : wpAny (model prog w) A (getAttr? (.ref x) "__class__") Q E s := by
  have hf : findObj K D (some od) "__class__" = some (.bind (.builtin "getset_descriptor.__get__") (.builtin "object.__class__")) := findObj_data (by obtain ⟨cd, hc, _⟩ := any_some T.hdC; rw [hc]; rfl) Y.ha Y.hn Y.ht
  obtain ⟨hp, g, d, t, os⟩ := s
  have L0 := I.type (M := model prog w)
  have L1 := looks_findIn (M := model prog w) X T.ga
  have L2 := looks_findIn (M := model prog w) X T.gg
  have L3 := looks_find (M := model prog w) X I hf
  have sub : Looks (model prog w) hp (isInstance (.ref x) (.type "BaseException")) true := L0.andThen (looks_subIn X T.exC)
  have hx0 : (false && onTheHeap (Value.builtin "BaseException.__getattribute__")) = false := rfl
  have hx2 : (Value.builtin "BaseException.__getattribute__" == Value.builtin "object.__getattribute__") = false := by decide +kernel
  have hx1 : (onTheHeap (Value.ref D) && Value.builtin "BaseException.__getattribute__" == Value.builtin "object.__getattribute__") = false := by rw [hx2]; rfl
  unfold getAttr? getAttrBy? getAttrBy
  refine wpAny_bind (wpAny_mkText (wpAny_bind (wpAny_attempt (wpAny_holding (wpAny_bind (L0.at (wpAny_bind (L1.at ?_))))))))
  show wpAny _ _ (if (onTheHeap (Value.ref D) && Value.builtin "BaseException.__getattribute__" == Value.builtin "object.__getattribute__") = true then _ else _) _ _ _
  rw [hx1, if_neg Bool.false_ne_true]
  unfold getAttrByItsOwn hookBefore
  refine wpAny_bind ?_
  rw [if_pos (show onTheHeap (Value.ref D) = true from rfl)]
  refine L2.at ?_
  refine wpAny_bind (wpAny_attempt (wpAny_holding ?_))
  unfold callGetattribute
  rw [hx0, if_neg Bool.false_ne_true]
  unfold boundAndCalled
  rw [PySem.F.excAttr_ValueError.ga.bind (.ref x)]
  refine wpAny_bind (wpAny_pure ?_)
  show wpAny _ _ (call (.builtin "BaseException.__getattribute__") [.ref x, .str "__class__" t]) _ _ _
  refine wpAny_call (codeAny_call_builtin PySem.F.excAttr_ValueError.ga.plain PySem.F.entry_bexc_ga ?_)
  refine @check_slot (model prog w) _ _ ⟨hp, g, d, t + 1, os⟩ "BaseException.__getattribute__" "BaseException" "__getattribute__" (.ref x) [.str "__class__" t] [] _ (by decide +kernel) (by decide +kernel) sub (PySem.F.args_bexc_ga (.ref x) (.str "__class__" t)) ?_
  unfold Builtin.«object.__getattribute__»
  refine wpAny_bind (wpAny_of_eq (a := ((Value.ref x : Value), [Value.str "__class__" t])) (by first | rfl | (simp only [slotArgs]; rfl)) ?_)
  refine wpAny_bind (wpAny_pure (wpAny_bind (L0.at (wpAny_bind (L3.at ?_)))))
  show wpAny _ _ (holding [Value.builtin "object.__class__"] (call (.builtin "getset_descriptor.__get__") [.builtin "object.__class__", .ref x, .ref D]) >>= ret) _ _ _
  refine wpAny_bind (wpAny_holding (wpAny_call (class_get (s := ⟨hp, g, d, t + 1, os⟩) (ox := ox) (od := some od) X I Y.hm ?_)))
  refine wpAny_pure ?_
  show wpAny _ _ (handedOut (.ref D)) _ _ _
  rw [handedOut_of (v := .ref D) rfl]
  first
    | exact wpAny_pure (wpAny_pure h)
    | exact wpAny_pure h
    | exact wpAny_pure (wpAny_bind (wpAny_pure (wpAny_pure h)))
theorem kitx_exc {prog' : Program} (T : ITxt prog' K D) (Y : IsC K D) : KitX K (.ref x) (.ref D) (fun h => ∃ ox od, InstAt h x ox D (some od)) where
  ty := fun _ _ _ ⟨_, _, I⟩ => I.type
  it := fun _ _ X _ => by
    obtain ⟨cdD, hcD, _⟩ := any_some T.hdC
    unfold clsIn at hcD
    split at hcD
    · rename_i c' d' cd' sl' ho
      intro A' Q' E' s' k q
      unfold isType loadHead
      exact wpAny_bind (wpAny_loadPart (k _ _ (X _ _ ho)) (wpAny_pure q))
    · cases hcD
  ne := fun h tp dd its n sl X htp => by
    obtain ⟨cdD, hcD, _⟩ := any_some T.hdC
    refine Bool.eq_false_iff.mpr fun q => ?_
    have e : D = tp := Value.ref.inj (beq_iff_eq.mp q)
    subst e
    unfold clsIn at hcD
    split at hcD
    · rename_i c' d' cd' sl' ho
      have z := (X _ _ ho).symm.trans htp
      cases z
    · cases hcD
  ca := fun X ⟨_, _, I⟩ k => kin_classX T Y X I k
end
end SX
end PySem
namespace SE
open PySem PySem.Spec PyProof.Rows L2
/-- a type: a built-in one, an own class -/
inductive TyD where
  | b (T : String)
  | c (n : Nat)
def tyVal (Z : Cz) : TyD → Value
  | .b T => .type T
  | .c n => .ref (Z.cl n)
def tyO (x : DV) (st : Store) : Option TyD := match tyN x st with
  | some T => some (.b T)
  | none => match x with
    | .ref a => (match st.get a with
      | some (.exc C _) => some (.c C)
      | _ => none)
    | _ => none
section
variable {X : Cx} {Z : Cz} {W : WX} {pos p pT : Pos} {e : Expr} {d : DE}
/-- an exception at a with its field -/
theorem exc_inst {pins : List (Addr × Obj)} {σ : L2.St} {H : Hp} {s : Shared} {a dd C : Addr} {fs : List (Str × V)} (I : Inv X pins σ H s) (h1 : H a = some (ExT (.ref C) dd a)) (h2 : H dd = some (.xd fs)) :
    ∃ ox od, PySem.W.InstAt s.heap a ox C (some od) ∧ ∀ f v, fs.lookup f = some v → ∃ u, PySem.W.lookIn f od = some (some u) ∧ RelV v u := by
  obtain ⟨oe, vs, ha, hz, hd⟩ := ext_at I.hok h1
  have hx : ObjOk X.prog X.w H s.heap dd (.xd fs) := I.hok dd _ h2
  obtain ⟨mA, hns, hr⟩ := hx
  obtain ⟨od, ho, hl⟩ := lookIn_ns hns
  refine ⟨oe, od, ⟨ha, hz.1, by unfold PySem.W.notCls; rw [hd] <;> rfl, by rw [hz.2]; exact ho⟩, fun f v l => ?_⟩
  obtain ⟨u, hu, ru⟩ := RelO.some_of (v := v) (o := mA f) (by rw [← l]; exact hr f)
  exact ⟨u, by rw [hl, hu], ru⟩
/-- isinstance(e, c): c any class -/
def rIsX (Z : Cz) (cu : Value) (m : TyD → Option Bool) : List V → Hp → VK → Prop := fun vs H Q => ∃ (W : Value → Option Addr → Hp → Prop) (ρ : Rho) (st : Store) (a : DV) (x c : V), vs = [x, c] ∧ ClsV c cu ∧ Sim Z ρ st H ∧ RV Z ρ H a x ∧ RM Z W ρ H (RV Z) (match tyO a st with
  | some T => lift ((m T).map fun b => .bl b) st
  | none => none) Q
theorem call_isX {m : TyD → Option Bool} {cu : Value} (hZ : Z.K = X.K) (hm : ∀ T b, m T = some b → PySem.W.kitOne X.K (tyVal Z T) cu = some b) (hT : ∀ n, m (.c n) ≠ none → PySem.SX.ITxt X.prog X.K (Z.cl n) ∧ PySem.SX.IsC X.K (Z.cl n)) : CallR X (.builtin "isinstance") (rIsX Z cu m) := by
  intro pins s σ H xs us Q I r h
  obtain ⟨W, ρ, st, a, x, c, rfl, k, sim, ra, rm⟩ := h
  obtain ⟨u1, u2, rfl, r1, r2⟩ := vals2 r
  have e2 := k.eq r2
  subst e2
  unfold tyO at rm
  cases hN : tyN a st with
  | some T =>
    rw [hN] at rm
    dsimp only at rm
    obtain ⟨v, e, q⟩ := RM.lift rm sim
    cases hb : m (.b T) with
    | none => rw [hb] at e; cases e
    | some b =>
      rw [hb] at e
      have e3 : v = .bl b := (Option.some.inj e).symm
      subst e3
      obtain ⟨P, Zk, p, hx⟩ := kit_of I r1 (by rw [← hZ]; exact tyN_ok sim ra hN)
      exact PySem.W.kia_one Zk I.kIn p (hm _ _ hb) hx fun tk => ⟨.bl b, H, I.tok tk, rfl, q _ (RV.bl_iff.mpr rfl)⟩
  | none =>
    rw [hN] at rm
    dsimp only at rm
    cases a with
    | ref n =>
      dsimp only at rm
      cases hg : st.get n with
      | none => rw [hg] at rm; exact rm.elim
      | some o =>
        rw [hg] at rm
        cases o with
        | exc C v =>
          dsimp only at rm
          obtain ⟨w, e, q⟩ := RM.lift rm sim
          cases hb : m (.c C) with
          | none => rw [hb] at e; cases e
          | some b =>
            rw [hb] at e
            have e3 : w = .bl b := (Option.some.inj e).symm
            subst e3
            obtain ⟨p, hp, rfl⟩ := RV.ref_iff.mp ra
            obtain ⟨dd, u, h1, h2, _⟩ := sim.obj _ _ _ hp hg
            obtain ⟨ox, od, J, _⟩ := exc_inst I h1 h2
            obtain ⟨T, Y⟩ := hT C (by rw [hb]; exact fun z => nomatch z)
            obtain rfl : u1 = Value.ref p := r1
            exact PySem.W.kia_one (PySem.SX.kitx_exc T Y) I.kIn ⟨ox, od, J⟩ (hm _ _ hb) (fun z => nomatch z) fun tk => ⟨.bl b, H, I.tok tk, rfl, q _ (RV.bl_iff.mpr rfl)⟩
        | _ => exact rm.elim
    | _ => exact rm.elim
def dIsX (m : TyD → Option Bool) (d : DE) : DE := fun env => bnd (d env) fun x st => match tyO x st with
  | some T => lift ((m T).map fun b => .bl b) st
  | none => none
/-- .. an own class, a global -/
theorem e_isC {m : TyD → Option Bool} {C : Addr} {CN : Str} (hZ : Z.K = X.K) (hm : ∀ T b, m T = some b → PySem.W.kitOne X.K (tyVal Z T) (.ref C) = some b) (hT : ∀ n, m (.c n) ≠ none → PySem.SX.ITxt X.prog X.K (Z.cl n) ∧ PySem.SX.IsC X.K (Z.cl n))
    (hg : Gl X "isinstance") (hmi : X.mg "isinstance" = none) (hgC : Gl X CN) (hmC : X.mg CN = some (.ref C)) (he : PE X e (tE Z W d))
    (hd : (CN == ("__debug__" : Str)) = false := by decide)
    (hs1 : starEach [e, .Name CN pT] X.env = (false, eval e X.env) :: starEach [.Name CN pT] X.env := by rfl) (hs2 : starEach [.Name CN pT] X.env = (false, eval (.Name CN pT) X.env) :: starEach [] X.env := by rfl) (hpl : (backTo pos (starEach [.Name CN pT] X.env)).any (·.1) = false := by rfl)
    (hv : bootBuiltins "isinstance" = some (.builtin "isinstance") := by decide +kernel) :
    PE X (.Call (.Name "isinstance" p) [e, .Name CN pT] [] pos) (tE Z W (dIsX m d)) := by
  refine PE.imp (pe_callB (call_isX hZ hm hT) hg hmi hv (pa_cons he (pa_cons (pe_glob (v := .ref C) hgC hmC rfl hd) pa_nil hs2) hs1) (by decide) (by decide) hs1 hpl) fun σ H Q ⟨ρ, st, env, re, s, rm⟩ => ⟨ρ, st, env, re, s, RM.bnd rm fun ρ1 H1 st1 x v p1 e1 s1 r1 h1 => ?_⟩
  exact ⟨_, ρ1, st1, x, v, .ref C, rfl, .own C, s1, r1, h1⟩
/-- .. a built-in class -/
theorem e_isB {m : TyD → Option Bool} {U : String} {CN : Str} (hZ : Z.K = X.K) (hm : ∀ T b, m T = some b → PySem.W.kitOne X.K (tyVal Z T) (.type U) = some b) (hT : ∀ n, m (.c n) ≠ none → PySem.SX.ITxt X.prog X.K (Z.cl n) ∧ PySem.SX.IsC X.K (Z.cl n))
    (hg : Gl X "isinstance") (hmi : X.mg "isinstance" = none) (hgC : Gl X CN) (hmC : X.mg CN = none) (hvT : bootBuiltins CN = some (.type U)) (he : PE X e (tE Z W d))
    (hn : CN ≠ "__name__" := by decide) (hd : (CN == ("__debug__" : Str)) = false := by decide)
    (hs1 : starEach [e, .Name CN pT] X.env = (false, eval e X.env) :: starEach [.Name CN pT] X.env := by rfl) (hs2 : starEach [.Name CN pT] X.env = (false, eval (.Name CN pT) X.env) :: starEach [] X.env := by rfl) (hpl : (backTo pos (starEach [.Name CN pT] X.env)).any (·.1) = false := by rfl)
    (hv : bootBuiltins "isinstance" = some (.builtin "isinstance") := by decide +kernel) :
    PE X (.Call (.Name "isinstance" p) [e, .Name CN pT] [] pos) (tE Z W (dIsX m d)) := by
  refine PE.imp (pe_callB (call_isX hZ hm hT) hg hmi hv (pa_cons he (pa_cons (pe_bltn (v := .ty U) hgC hmC hvT rfl hn hd) pa_nil hs2) hs1) (by decide) (by decide) hs1 hpl) fun σ H Q ⟨ρ, st, env, re, s, rm⟩ => ⟨ρ, st, env, re, s, RM.bnd rm fun ρ1 H1 st1 x v p1 e1 s1 r1 h1 => ?_⟩
  exact ⟨_, ρ1, st1, x, v, .ty U, rfl, .ty U, s1, r1, h1⟩
/-- e.value of an exception -/
def dXv (cs : Nat → Bool) (d : DE) : DE := fun env => bnd (d env) fun x st => match x with
  | .ref n => (match st.get n with
    | some (.exc C v) => if cs C = true then some (.ok v, st) else none
    | _ => none)
  | _ => none
theorem e_xv {cs : Nat → Bool} (hT : ∀ n, cs n = true → PySem.SX.ITxt X.prog X.K (Z.cl n)) (he : PE X e (tE Z W d)) (hb : attributeBase e "value" X.env (eval e X.env) = eval e X.env := by rfl) : PE X (.Attribute e "value" pos) (tE Z W (dXv cs d)) := by
  refine ⟨fun pins s σ H Q I h => ?_⟩
  obtain ⟨ρ, st, env, re, sim, rm⟩ := h
  refine attr_of hb (thn (he.run pins s σ H (fun x H1 => ∃ a v C dd, x = .ref a ∧ H1 a = some (ExT (.ref C) dd a) ∧ H1 dd = some (.xd [("value", v)]) ∧ PySem.SX.ITxt X.prog X.K C ∧ Q v H1) I ⟨ρ, st, env, re, sim, RM.bnd rm fun ρ1 H1 st1 x v p1 e1 s1 r1 h1 => ?_⟩) fun u s1 hh => ?_)
  · cases x with
    | ref n =>
      dsimp only at h1
      cases hg : st1.get n with
      | none => rw [hg] at h1; exact h1.elim
      | some o =>
        rw [hg] at h1
        cases o with
        | exc C y =>
          dsimp only at h1
          by_cases hc : cs C = true
          · rw [if_pos hc] at h1
            obtain ⟨p, hp, rfl⟩ := RV.ref_iff.mp r1
            obtain ⟨dd, u, i1, i2, i3⟩ := s1.obj _ _ _ hp hg
            exact ⟨p, u, _, dd, rfl, i1, i2, hT _ hc, h1 ρ1 H1 u Pre.refl ExtH.refl s1 i3⟩
          · rw [if_neg hc] at h1; exact h1.elim
        | _ => exact h1.elim
    | _ => exact h1.elim
  · obtain ⟨x, H1, I1, rx, a, v, C, dd, rfl, i1, i2, T, q⟩ := hh
    obtain rfl : u = Value.ref a := rx
    obtain ⟨ox, od, J, hl⟩ := exc_inst I1 i1 i2
    obtain ⟨u, hu, ru⟩ := hl "value" v (by simp [List.lookup])
    exact HandSPX.exc_get I1.kIn J T.ga T.gg T.exC (PySem.W.findObj_own T.hdC T.noN rfl hu) (handed_of ru) ⟨v, H1, I1.tok _, ru, q⟩
end
end SE

/-! SE: globals, keywords, chains, dict displays. -/
namespace SE
open PySem PySem.Spec PyProof.Rows L2
section
variable {X : Cx} {Z : Cz} {W : WX} {pos p : Pos}
/-- a module's constant: an int -/
theorem e_gint {x : Str} {i : Int} (hg : Gl X x) (hm : ∃ t, X.mg x = some (.int i t)) (hd : (x == ("__debug__" : Str)) = false := by decide) : PE X (.Name x pos) (tE Z W (dC (.int i))) := by
  obtain ⟨t, hm⟩ := hm
  exact e_const (pe_glob (v := .int i) hg hm ⟨t, rfl⟩ hd) fun _ _ => RV.int_iff.mpr rfl
theorem e_gstr {x : Str} {l : List Nat} (hg : Gl X x) (hm : ∃ t, X.mg x = some (.str ⟨l.toArray⟩ t)) (hd : (x == ("__debug__" : Str)) = false := by decide) : PE X (.Name x pos) (tE Z W (dC (.str l))) := by
  obtain ⟨t, hm⟩ := hm
  exact e_const (pe_glob (v := .str ⟨l.toArray⟩) hg hm ⟨t, rfl⟩ hd) fun _ _ => RV.str_iff.mpr rfl
/-! keywords -/
theorem PK.imp {kws : List Keyword} {t t' : TA} (h : PK X kws t) (k : ∀ σ H Q, t' σ H Q → t σ H Q) : PK X kws t' := ⟨fun pos pins s σ H Q I hw => h.run pos pins s σ H Q I (k σ H Q hw)⟩
theorem k_nil : PK X [] (tA Z W aNil) := PK.imp pk_nil fun σ H Q ⟨ρ, st, env, re, s, h⟩ => h.ok s (RVs.nil_iff.mpr rfl)
theorem k_cons {nm : Option Str} {kpos : Pos} {e : Expr} {kws : List Keyword} {d : DE} {r : DA} (ha : PE X e (tE Z W d)) (hr : PK X kws (tA Z W r)) : PK X (⟨nm, e, kpos⟩ :: kws) (tA Z W (aCons d r)) :=
  PK.imp (pk_cons ha hr) fun σ H Q ⟨ρ, st, env, re, s, h⟩ => ⟨ρ, st, env, re, s, RM.bnd h fun ρ1 H1 st1 x b p1 e1 s1 r1 h1 =>
    ⟨ρ1, st1, env, re.mono p1 e1, s1, RM.bnd h1 fun ρ2 H2 st2 xs bs p2 e2 s2 r2 h2 => h2.ok s2 (RVs.cons_iff.mpr ⟨b, bs, rfl, r1.mono p2 e2, r2⟩)⟩⟩
/-- a list in another order -/
def permL {α : Type} (ix : List Nat) (l : List α) : List α := ix.filterMap fun i => l[i]?
theorem RVs.perm {ρ : Rho} {H : Hp} {ds : List DV} {vs : List V} (r : RVs Z ρ H ds vs) : ∀ ix : List Nat, RVs Z ρ H (permL ix ds) (permL ix vs)
  | [] => RVs.nil_iff.mpr rfl
  | i :: ix => by
    unfold permL
    cases h : ds[i]? with
    | none =>
      have h2 : vs[i]? = none := by rw [List.getElem?_eq_none_iff] at h ⊢; rw [r.length]; exact h
      rw [List.filterMap_cons_none h, List.filterMap_cons_none h2]
      exact RVs.perm r ix
    | some d =>
      obtain ⟨v, hv, rv⟩ := r.get h
      rw [List.filterMap_cons_some h, List.filterMap_cons_some hv]
      exact RVs.cons_iff.mpr ⟨v, _, rfl, rv, RVs.perm r ix⟩
theorem vals_perm {vs : List V} {us : List Value} (r : Vals vs us) : ∀ ix : List Nat, Vals (permL ix vs) (permL ix us)
  | [] => .nil
  | i :: ix => by
    unfold permL
    cases h : vs[i]? with
    | none =>
      have h2 := r.none_of h
      rw [List.filterMap_cons_none h, List.filterMap_cons_none h2]
      exact vals_perm r ix
    | some v =>
      obtain ⟨u, hu, rv⟩ := r.get h
      rw [List.filterMap_cons_some h, List.filterMap_cons_some hu]
      exact .cons rv (vals_perm r ix)
/-- how a call by keywords alone binds -/
def KB (K : PySem.W.Frag) (fd : FuncData) (ps ks : List Str) (ix : List Nat) : Prop := ∀ (s : Shared) (ws : List Value), K.In s.heap → ws.length = ks.length → BindsTo s fd ⟨[], ks.zip ws⟩ (ps.zip (permL ix ws))
def dCallK (g : List DV → MM DV) (ix : List Nat) (da : DA) : DE := fun env => bnd (da env) fun xs => g (permL ix xs)
variable {k : Nat} {f : Addr} {fd : FuncData} {ps ks : List Str} {g : List DV → MM DV} {x : Str} {kws : List Keyword} {da : DA} {n : Nat} {ix : List Nat}
theorem e_callK (F : FnOk X.prog X.w X.K X.mg X.base (L2.CX X.prog X.w) k f fd ps (spS Z g n)) (hr : Room k X.A) (hg : Gl X x) (hm : X.mg x = some (.ref f)) (hk : PySem.W.keepIn X.K (.ref f) = true) (hb : KB X.K fd ps ks ix) (tk : Takes X W) (hn : ALen da ks.length) (hix : ix.length = n) (hil : ix.all (· < ks.length) = true)
    (hkw : PK X kws (tA Z W da)) (hall : (backToKw pos (keywordEach kws X.env)).all (·.1.isSome) = true := by rfl) (hks : (backToKw pos (keywordEach kws X.env)).filterMap (·.1) = ks := by rfl)
    (hdb : (x == ("__debug__" : Str)) = false := by decide)
    (hpl : ((backTo pos (starEach [] X.env)).any (·.1) || (backToKw pos (keywordEach kws X.env)).any (·.1.isNone)) = false := by rfl) :
    PE X (.Call (.Name x p) [] kws pos) (tE Z W (dCallK g ix da)) := by
  refine ⟨fun pins s σ H Q I h => ?_⟩
  obtain ⟨ρ, st, env, re, sim, rm⟩ := h
  refine wpAny_Call_Name_kw (ld_glob I hg hm ?_ hdb)
  have hlen : ∀ {α : Type} (l : List α), l.length = ks.length → (permL ix l).length = n := by
    intro α l hl
    rw [← hix]
    have : ∀ jx : List Nat, jx.all (· < ks.length) = true → (permL jx l).length = jx.length := by
      intro jx
      induction jx with
      | nil => intro _; rfl
      | cons j jx ih =>
        intro h
        simp only [List.all_cons, Bool.and_eq_true, decide_eq_true_eq] at h
        unfold permL
        have hj : l[j]? = some l[j] := List.getElem?_eq_getElem (by omega)
        rw [List.filterMap_cons_some hj, List.length_cons, List.length_cons]
        exact congrArg (· + 1) (ih h.2)
    exact this ix hil
  refine PySem.W.callWith_KW0 (h₀ := X.base) I.ok.mod.kin hk hall (thn (hkw.run pos pins s σ H (fun vs H1 => vs.length = ks.length ∧ spS Z g n (permL ix vs) H1 Q (WE W σ)) I ⟨ρ, st, env, re, sim, ?_⟩) fun us s1 ⟨vs, H1, I1, r, hl, q⟩ => ⟨I1.kIn, ?_⟩) hpl
  · unfold dCallK bnd at rm
    cases hd : da env st with
    | none => rw [hd] at rm; exact rm
    | some o =>
      obtain ⟨o, st'⟩ := o
      rw [hd] at rm
      cases o with
      | er C v => exact rm
      | ok ds =>
        intro ρ' H' vs p e s' r
        have hl := hn _ _ _ _ hd
        exact ⟨r.length.trans hl, hlen vs (r.length.trans hl), ρ', st', _, s', r.perm ix, RM.weak rm p e⟩
  · rw [hks]
    show wpAny _ _ (call (.ref f) [] (ks.zip us)) _ _ _
    have hul : us.length = ks.length := by rw [← r.length]; exact hl
    have b := hb s1 us I1.kIn hul
    refine wpAny_call (codeAny_mono (F.run X.A X.stack s1 H1 ⟨[], ks.zip us⟩ (permL ix us) (permL ix vs) Q (WE W σ) hr I1.env0 b (vals_perm r ix) q) fun r s' hq => ?_)
    cases r with
    | error e => exact passAt tk σ pins H1 s1 e s' I1 hq
    | ok fl =>
      cases fl with
      | ret u => exact I1.after hq
      | next => exact False.elim hq
      | brk => exact False.elim hq
      | cont => exact False.elim hq
/-! chains -/
def dChain (f f' : DV → DV → MM DV) (da db dc : DE) : DE := fun env => bnd (da env) fun x => bnd (db env) fun y => bnd (f x y) fun z => bnd (lift (asB z)) fun k => if k = true then bnd (dc env) (fun w => f' y w) else ret (.bl false)
variable {a b c : Expr} {ea eb ec : DE}
theorem chain_run {r r' : R2} {f f' : DV → DV → MM DV} (hr : ∀ (W : Value → Option Addr → Hp → Prop) (ρ : Rho) (st : Store) (H : Hp) (a b : DV) (x y : V) (Q : VK), Sim Z ρ st H → RV Z ρ H a x → RV Z ρ H b y → RM Z W ρ H (RV Z) (f a b st) Q → r x y H Q) (hf' : S2 Z r' f')
    {σ : L2.St} {H : Hp} {Q : VK} (h : tE Z W (dChain f f' ea eb ec) σ H Q) : tChain r r' (tE Z W ea) (tE Z W eb) (tE Z W ec) σ H Q := by
  obtain ⟨ρ, st, env, re, s, rm⟩ := h
  refine ⟨ρ, st, env, re, s, RM.bnd rm fun ρ1 H1 st1 a x p1 e1 s1 ra rm1 => ?_⟩
  refine ⟨ρ1, st1, env, re.mono p1 e1, s1, RM.bnd rm1 fun ρ2 H2 st2 b y p2 e2 s2 rb rm2 => ?_⟩
  refine hr (Wσ W σ) ρ2 st2 H2 a b x y _ s2 (ra.mono p2 e2) rb (RM.bnd rm2 fun ρ3 H3 st3 z w p3 e3 s3 rz rm3 => ?_)
  obtain ⟨k, ez, rm5⟩ := RM.asB rm3
  clear rm3
  subst ez
  refine ⟨k, RV.bl_iff.mp rz, ?_⟩
  cases k with
  | true =>
    rw [if_pos rfl] at rm5 ⊢
    refine ⟨ρ3, st3, env, (re.mono p1 e1).mono (p2.trans p3) (e2.trans e3), s3, RM.bnd rm5 fun ρ4 H4 st4 u w' p4 e4 s4 rw' rm4 => ?_⟩
    exact hf' (Wσ W σ) ρ4 st4 H4 b u y w' Q s4 (rb.mono (p3.trans p4) (e3.trans e4)) rw' rm4
  | false =>
    rw [if_neg Bool.false_ne_true] at rm5 ⊢
    exact rm5.ok s3 (RV.bl_iff.mpr rfl)
theorem e_chain {op op' : CmpOp} {r r' : R2} {f f' : DV → DV → MM DV} (ho : OpR X (compareOp op) r) (hf : S2 Z r f) (ho' : OpR X (compareOp op') r') (hf' : S2 Z r' f') (ha : PE X a (tE Z W ea)) (hb : PE X b (tE Z W eb)) (hc : PE X c (tE Z W ec))
    (hm : lastMarks [op, op'] [b, c] = false := by with_unfolding_all rfl) : PE X (.Compare a [op, op'] [b, c] pos) (tE Z W (dChain f f' ea eb ec)) :=
  PE.imp (pe_chain ho ho' ha hb hc hm) fun _ _ _ h => chain_run hf hf' h
theorem t_chain {op op' : CmpOp} {r r' : R2} {f f' : DV → DV → MM DV} (ho : OpR X (compareOp op) r) (hf : S2 Z r f) (ho' : OpR X (compareOp op') r') (hf' : S2 Z r' f') (ha : PE X a (tE Z W ea)) (hb : PE X b (tE Z W eb)) (hc : PE X c (tE Z W ec))
    (hm : lastMarks [op, op'] [b, c] = false := by with_unfolding_all rfl) : PT X (.Compare a [op, op'] [b, c] pos) (tT Z W (dB (dChain f f' ea eb ec))) :=
  PT.imp (pt_chain ho ho' ha hb hc hm) fun σ H Q h => chain_run hf hf' (b_run h)
/-! {} -/
def dDct0 : DE := fun _ st => some (.ok (.ref st.size), st.push (.dct []))
theorem e_dct0 : PE X (.Dict [] [] pos) (tE Z W dDct0) := PE.imp pe_dnewK fun σ H Q ⟨ρ, st, env, re, s, rm⟩ p hp =>
  rm (ρ ++ [p]) _ _ Pre.app (ExtH.new hp) (s.make (x := .dct []) hp ⟨[], upd_same, RVs.nil_iff.mpr rfl⟩) s.newRef
/-! a, b, c = x, y, z -/
def sPar3 (i j l : Nat) (da : DA) : DS := fun env => ofE (da env) env fun vs st => match vs with
  | [v, w, u] => some (.nx (((env.set i (some v)).set j (some w)).set l (some u)), st)
  | _ => none
theorem s_par3 {i j l : Nat} {x y z : Str} {a b c : Expr} {da : DA} {px py pz pt : Pos} {kt k2 pt2} (hc : X.calm = true) (hN : X.N.Nodup) (hi : X.N[i]? = some x) (hj : X.N[j]? = some y) (hl : X.N[l]? = some z) (hij : i ≠ j) (hil : i ≠ l) (hjl : j ≠ l)
    (hx : X.env.scope.names.lookup x = some .local) (hy : X.env.scope.names.lookup y = some .local) (hz : X.env.scope.names.lookup z = some .local) (ha : PA X [a, b, c] (tA Z W da))
    (hw : swappedStores [.Tuple [.Name x px, .Name y py, .Name z pz] kt pt] (.Tuple [a, b, c] k2 pt2) X.env = pure (some [x, y, z]) := by rfl)
    (hs : swapsWithSole [.Tuple [.Name x px, .Name y py, .Name z pz] kt pt] (.Tuple [a, b, c] k2 pt2) pos.line X.env = pure false := by rfl) :
    PS X (.Assign [.Tuple [.Name x px, .Name y py, .Name z pz] kt pt] (.Tuple [a, b, c] k2 pt2) pos) (tS Z W (sPar3 i j l da)) :=
  PS.imp (ps_par3 hc hN hi hj hl hij hil hjl hx hy hz ha hw hs) fun D σ H ⟨ρ, st, env, re, s, h⟩ => ⟨ρ, st, env, re, s, RS.ofE h re fun ρ1 H1 st1 vs us p e s1 r h1 => by
    split at h1
    · rename_i v w u
      obtain ⟨v', r', rfl, q1, q2⟩ := RVs.cons_iff.mp r
      obtain ⟨w', r'', rfl, q3, q4⟩ := RVs.cons_iff.mp q2
      obtain ⟨u', r3, rfl, q5, q6⟩ := RVs.cons_iff.mp q4
      have e4 := RVs.nil_iff.mp q6
      subst e4
      exact ⟨v', w', u', rfl, h1 ρ1 _ H1 Pre.refl ExtH.refl s1 ((((re.mono p e).set i q1).set j q3).set l q5)⟩
    · exact h1.elim⟩
end
end SE

/-! SE: defs by name, short forms for printed terms. -/
namespace SE
open PySem PySem.Spec PyProof.Rows L2

/-- a def of the module stands as the text says -/
def DefT (K : PySem.W.Frag) (mg : Str → Option Value) (x : Str) (st : Stmt) (ps : List Str) : Prop :=
  ∃ f fd, mg x = some (.ref f) ∧ PySem.W.keepIn K (.ref f) = true ∧ Fun K x x st f fd ∧ Binds K fd ps []
/-- .. and does what g does -/
def FnD (P : Program) (w : World) (K : PySem.W.Frag) (mg : Str → Option Value) (base : Heap) (Z : Cz) (x : Str) (st : Stmt) (ps : List Str) (g : List DV → MM DV) (k : Nat) : Prop :=
  ∃ f fd, mg x = some (.ref f) ∧ PySem.W.keepIn K (.ref f) = true ∧ Fun K x x st f fd ∧ Binds K fd ps [] ∧ FnOk P w K mg base (L2.CX P w) k f fd ps (spS Z g ps.length)
section
variable {P : Program} {w : World} {K : PySem.W.Frag} {mg : Str → Option Value} {base : Heap} {Z : Cz}
theorem fnd {x : Str} {st : Stmt} {N ps : List Str} {k : Nat} {db : DS} (D : DefT K mg x st ps) (S : FnScope N ps (defScope st))
    (hb : ∀ (f : Addr) (cdv : Value) (A : Around) (outer : List Env) (s : Shared) (H : Hp) (E : XK), Room k (A.deeper (envOfC x (defScope st) s.heap.objs.size f cdv)) →
      PSs (cxOf (L2.CX P w) P w K mg base N x (defScope st) f cdv A outer s H E) (defBody st) (tS Z (fun c d _ H => E c d H) db)) : FnD P w K mg base Z x st ps (defG N.length db) (k + 1) := by
  obtain ⟨f, fd, h1, h2, F, b⟩ := D
  exact ⟨f, fd, h1, h2, F, b, fn_ok F S (hb f)⟩
theorem deft {x : Str} {st : Stmt} {f : Addr} {oc : Value} {od an : Option Addr} {osl : Array (Option Value)} {kV doc pm cdv ct : Value} {ps : List Str} (h1 : mg x = some (.ref f)) (l : K.lookup f = some ⟨oc, od, .func (PySem.W.fnOf x x (defArgs st) (defBody st) (defScope st) .none kV doc pm an cdv ct), osl⟩)
    (c : PySem.W.codeIn K cdv x = true) (k : PySem.W.keepIn K (.ref f) = true)
    (hb : ∀ (kV doc pm : Value) (an : Option Addr) (cdv ct : Value) (us : List Value), us.length = ps.length → bindArgs (PySem.W.fnOf x x (defArgs st) (defBody st) (defScope st) .none kV doc pm an cdv ct) ⟨us, []⟩ = pure (ps.zip us)) : DefT K mg x st ps :=
  ⟨f, _, h1, k, fun_mk l c k, (fun_mk l c k).binds hb⟩
theorem kb_of {x : Str} {st : Stmt} {f : Addr} {fd : FuncData} {ps ks : List Str} {ix : List Nat} (F : Fun K x x st f fd)
    (h : ∀ (kV doc pm : Value) (an : Option Addr) (cdv ct : Value) (us : List Value), us.length = ks.length → bindArgs (PySem.W.fnOf x x (defArgs st) (defBody st) (defScope st) .none kV doc pm an cdv ct) ⟨[], ks.zip us⟩ = pure (ps.zip (permL ix us))) : KB K fd ps ks ix := by
  obtain ⟨oc, od, kV, doc, pm, an, cdv, ct, osl, rfl, lk, hcd⟩ := F.ex
  exact fun s us _ hl => .of_eq (h kV doc pm an cdv ct us hl)
end
section
variable {X : Cx} {Z : Cz} {W : WX} {pos p : Pos} {k : Nat} {ps ks : List Str} {g : List DV → MM DV} {x : Str} {st : Stmt} {e : Expr} {es : List Expr} {da : DA} {kws : List Keyword} {ix : List Nat}
theorem e_callF (F : FnD X.prog X.w X.K X.mg X.base Z x st ps g k) (hr : Room k X.A) (hg : Gl X x) (tk : Takes X W) (hn : ALen da ps.length)
    (ha : PA X (e :: es) (tA Z W da)) (hdb : (x == ("__debug__" : Str)) = false := by decide) (he : starEach (e :: es) X.env = (false, eval e X.env) :: starEach es X.env := by rfl) (hpl : (backTo pos (starEach es X.env)).any (·.1) = false := by rfl) :
    PE X (.Call (.Name x p) (e :: es) [] pos) (tE Z W (dCall g da)) := by
  obtain ⟨f, fd, h1, h2, _, b, G⟩ := F
  exact e_call G hr hg h1 h2 b tk hn ha hdb he hpl
theorem e_callF0 (F : FnD X.prog X.w X.K X.mg X.base Z x st [] g k) (hr : Room k X.A) (hg : Gl X x) (tk : Takes X W)
    (hdb : (x == ("__debug__" : Str)) = false := by decide) : PE X (.Call (.Name x p) [] [] pos) (tE Z W (dCall g aNil)) := by
  obtain ⟨f, fd, h1, h2, _, b, G⟩ := F
  exact e_call0 G hr hg h1 h2 b tk hdb
theorem e_callFK (F : FnD X.prog X.w X.K X.mg X.base Z x st ps g k) (hr : Room k X.A) (hg : Gl X x)
    (hb : ∀ (kV doc pm : Value) (an : Option Addr) (cdv ct : Value) (us : List Value), us.length = ks.length → bindArgs (PySem.W.fnOf x x (defArgs st) (defBody st) (defScope st) .none kV doc pm an cdv ct) ⟨[], ks.zip us⟩ = pure (ps.zip (permL ix us)))
    (tk : Takes X W) (hn : ALen da ks.length) (hix : ix.length = ps.length) (hil : ix.all (· < ks.length) = true)
    (hkw : PK X kws (tA Z W da)) (hall : (backToKw pos (keywordEach kws X.env)).all (·.1.isSome) = true := by rfl) (hks : (backToKw pos (keywordEach kws X.env)).filterMap (·.1) = ks := by rfl)
    (hdb : (x == ("__debug__" : Str)) = false := by decide)
    (hpl : ((backTo pos (starEach [] X.env)).any (·.1) || (backToKw pos (keywordEach kws X.env)).any (·.1.isNone)) = false := by rfl) : PE X (.Call (.Name x p) [] kws pos) (tE Z W (dCallK g ix da)) := by
  obtain ⟨f, fd, h1, h2, F, b, G⟩ := F
  exact e_callK G hr hg h1 h2 (kb_of F hb) tk hn hix hil hkw hall hks hdb hpl
/-- the name in slot i -/
theorem v_ (i : Nat) (hN : X.N[i]? = some x := by rfl) (hv : Vis X.env.scope x := by first | exact Or.inl rfl | exact Or.inr (Or.inl rfl) | exact Or.inr (Or.inr rfl)) (hd : (x == ("__debug__" : Str)) = false := by decide)
    (hcd : (x == ("__classdict__" : Str)) = false := by decide) : PE X (.Name x pos) (tE Z W (dVar i)) := e_var hN hv hd hcd
theorem nomark {op : CmpOp} {b : Expr} (h : behindInMarks op b = false := by rfl) : behindInMarks op b = false := h
theorem plx {b : Expr} (h : PlainIx b := by exact fun _ _ => rfl) : PlainIx b := h
end
theorem bb_len : bootBuiltins "len" = some (.builtin "len") := by decide +kernel
theorem bb_sum : bootBuiltins "sum" = some (.builtin "sum") := by decide +kernel
theorem bb_max : bootBuiltins "max" = some (.builtin "max") := by decide +kernel
theorem bb_min : bootBuiltins "min" = some (.builtin "min") := by decide +kernel
theorem bt_list : bootBuiltins "list" = some (.type "list") := by decide +kernel
theorem bt_int : bootBuiltins "int" = some (.type "int") := by decide +kernel
theorem bt_str : bootBuiltins "str" = some (.type "str") := by decide +kernel
theorem bt_bool : bootBuiltins "bool" = some (.type "bool") := by decide +kernel
theorem bt_tuple : bootBuiltins "tuple" = some (.type "tuple") := by decide +kernel
theorem bt_dict : bootBuiltins "dict" = some (.type "dict") := by decide +kernel
end SE

/-! SE: the end. -/
namespace SE
open PySem PySem.Spec PyProof.Rows L2
def spL (g : List DV → MM DV) (K : PySem.W.Frag) : Sp := fun vs H Q E => ∀ Z : Cz, Z.K = K → spS Z g 1 vs H Q E
theorem ints_rvs {Z : Cz} {H : Hp} : ∀ ns : List Int, RVs Z [] H (ns.map DV.int) (ns.map V.int)
  | [] => RVs.nil_iff.mpr rfl
  | n :: ns => RVs.cons_iff.mpr ⟨_, _, rfl, RV.int_iff.mpr rfl, ints_rvs ns⟩
theorem walk_law {l : PySem.W.OpenLaw} {k : Nat} {q : Program} {loose : List Str} {XP : (Str → Option Value) → Heap → Prop} {YP : World → Heap → Prop} {d : DefRec} {K : Params → PySem.W.Frag} {g : List DV → MM DV} {x : Str}
    (hn : l.most = some 63) (hdf : d.params.defaults = []) (hr : Room k callerA) (hY : ∀ (w : World) (h : Heap), YP w h → (K w.params).In h)
    (F : ∀ (w : World) (mg : Str → Option Value) (fa : Addr) (h : Heap), (K w.params).In h → h.Ns mainGlobals mg → mg d.name = some (.ref fa) →
      ∃ Z : Cz, Z.K = K w.params ∧ ∃ fd : FuncData, (∀ (s : Shared) (u : Value), BindsTo s fd ⟨[u], []⟩ [(x, u)]) ∧
        ∀ base : Heap, (K w.params).In base → base.Ns mainGlobals mg → FnOk l.prog w (K w.params) mg base (L2.CX l.prog w) k fa fd [x] (spS Z g 1))
    (hp : ∀ ns : List Int, ns.length ≤ 63 → ∃ st, g [.fl (ns.map .int)] ⟨0, []⟩ = some (.ok (.bl true), st)) : PySem.W.WalkO q loose XP YP l.row.toRowW d [] (fun f vs => PySem.call f vs) := by
  refine L2.walk_of (K := K) (n := 63) (k := k) (x := x) (CX := fun w => L2.CX l.prog w) (sp := fun w => spL g (K w.params)) hn (by decide) hdf hr hY (fun w mg fa h X G e => ?_) (fun w H a ns hl hO hS => ?_) fun w H s e s' z => ?_
  · obtain ⟨Z, hZ, fd, hb, hF⟩ := F w mg fa h X G e
    exact ⟨fd, hb, fun base h1 h2 => (hF base h1 h2).imp fun vs H Q E q => q Z hZ⟩
  · intro Z hZ
    refine ⟨rfl, [], ⟨0, []⟩, [.fl (ns.map .int)], ⟨rfl, List.nodup_nil, fun n a e => by simp at e, fun n a o e => by simp at e⟩, ?_, ?_⟩
    · refine RVs.cons_iff.mpr ⟨_, _, rfl, RV.fl_iff.mpr ⟨a, ns.map V.int, rfl, ?_, ints_rvs ns⟩, RVs.nil_iff.mpr rfl⟩
      rw [hZ]
      rcases hS with h | h
      · rcases hO a with q | ⟨o, xs, q⟩
        · rcases h with h | ⟨o, h⟩
          · rw [q] at h; cases h
          · rw [q] at h; cases h
        · rcases h with h | ⟨o', h⟩
          · rw [q] at h; cases h
          · exact .inl ⟨o', h⟩
      · exact .inr h
    · obtain ⟨st, e⟩ := hp ns hl
      rw [e]
      exact fun ρ' H' b _ _ _ r => RV.bl_iff.mp r
  · obtain ⟨a, B, H', cls, d, _, _, _, _, _, _, _, z⟩ := z
    exact z
/-- the law's own def, by its address -/
theorem law_fd {P : Program} {w : World} {K : PySem.W.Frag} {mg : Str → Option Value} {Z : Cz} {g : List DV → MM DV} {k : Nat} {x y : Str} {st : Stmt} {fa f : Addr} {fd : FuncData} (hfa : mg y = some (.ref fa)) (h1 : mg y = some (.ref f)) (F0 : Fun K y y st f fd)
    (hb : ∀ (kV doc pm : Value) (an : Option Addr) (cdv ct : Value) (u : Value), bindArgs (PySem.W.fnOf y y (defArgs st) (defBody st) (defScope st) .none kV doc pm an cdv ct) ⟨[u], []⟩ = pure [(x, u)])
    (h : ∀ base : Heap, K.In base → base.Ns mainGlobals mg → FnD P w K mg base Z y st [x] g k) :
    ∃ fd : FuncData, (∀ (s : Shared) (u : Value), BindsTo s fd ⟨[u], []⟩ [(x, u)]) ∧ ∀ base : Heap, K.In base → base.Ns mainGlobals mg → FnOk P w K mg base (L2.CX P w) k fa fd [x] (spS Z g 1) := by
  have ef := hfa.symm.trans h1
  have ef' : fa = f := by cases ef; rfl
  subst ef'
  obtain ⟨oc, od, kV, doc, pm, an, cdv, ct, osl, rfl, lk, hcd⟩ := F0.ex
  refine ⟨PySem.W.fnOf y y (defArgs st) (defBody st) (defScope st) .none kV doc pm an cdv ct, fun s u => .of_eq (hb kV doc pm an cdv ct u), fun base b1 b2 => ?_⟩
  obtain ⟨f2, fd2, e1, _, F2, _, G⟩ := h base b1 b2
  have ef := hfa.symm.trans e1
  have ef' : fa = f2 := by cases ef; rfl
  subst ef'
  obtain ⟨oc', od', kV', doc', pm', an', cdv', ct', osl', rfl, lk', _⟩ := F2.ex
  have e2 := lk.symm.trans lk'
  cases e2
  exact G
end SE
namespace SE
open PySem PySem.Spec PyProof.Rows L2
theorem kit_own {K : PySem.W.Frag} {t : Value} {C : Addr} {b : Bool} (h1 : PySem.W.hasDictIn K C = true) (h2 : PySem.W.typeIn K (.ref C) = some (.type "type")) (hs : PySem.W.subIn K (.ref C) (.ref C) = some true) (h3 : PySem.W.subIn K t (.ref C) = some b) : PySem.W.kitOne K t (.ref C) = some b := by
  obtain ⟨cd, hc, _⟩ := PySem.W.any_some h1
  unfold PySem.W.kitOne
  by_cases q : (t == .ref C) = true
  · rw [if_pos q]
    have e : t = .ref C := beq_iff_eq.mp q
    subst e
    rw [hs] at h3
    exact h3
  · rw [if_neg q]
    have e2 : ((PySem.W.clsIn K C).isSome && PySem.W.typeIn K (.ref C) == some (.type "type")) = true := by rw [hc, h2] <;> rfl
    show (if ((PySem.W.clsIn K C).isSome && PySem.W.typeIn K (.ref C) == some (.type "type")) = true then PySem.W.subIn K t (.ref C) else none) = some b
    rw [if_pos e2]
    exact h3
theorem kit_bt {K : PySem.W.Frag} {t : Value} {U : String} {b : Bool} (h1 : PySem.W.kitMeta U = true) (h0 : (t == .type U) = false) (h3 : PySem.W.subIn K t (.type U) = some b) : PySem.W.kitOne K t (.type U) = some b := by
  unfold PySem.W.kitOne
  rw [if_neg (by rw [h0]; exact Bool.false_ne_true)]
  show (if PySem.W.kitMeta U = true then PySem.W.subIn K t (.type U) else none) = some b
  rw [if_pos h1]
  exact h3
end SE

namespace K91
open PySem PySem.Spec PyProof.Rows L2 SE
def mEx_InvalidLine : Nat → Option Bool := fun n => (([none, some false, some false, some true] : List (Option Bool))[n]?).getD none
def mEx_SwapError : Nat → Option Bool := fun n => (([none, some true, some true, some true] : List (Option Bool))[n]?).getD none
def mIs_InvalidLine : TyD → Option Bool
  | .b T => if T = "NoneType" then some false else none
  | .c n => (([none, some false, some false, some true] : List (Option Bool))[n]?).getD none
def mIs_InvalidPrices : TyD → Option Bool
  | .b T => if T = "NoneType" then some false else none
  | .c n => (([none, some false, some true, some false] : List (Option Bool))[n]?).getD none
def mIs_InvalidWord : TyD → Option Bool
  | .b T => if T = "NoneType" then some false else none
  | .c n => (([none, some true, some false, some false] : List (Option Bool))[n]?).getD none
def xCs : Nat → Bool := fun n => (([false, true, true, true] : List Bool)[n]?).getD false
def d__law_cell : DS := sSeq (sIf (dB (d2 fLt (dVar 1) (dCall fLen (aCons (dVar 0) (aNil))))) (sRet (d2 fIx (dVar 0) (dVar 1))) (sNil)) (sRet (d2 fMod (dCall fSum (aCons (dSl fSl (dVar 0) (oNone) (oSome (dC (.int 1)))) (aNil))) (dC (.int 1000003))))
def g__law_cell : List DV → MM DV := defG 2 d__law_cell
def d__law_generator : DS := sSeq (sSet 2 (dCall g__law_cell (aCons (dVar 0) (aCons (dVar 1) (aNil))))) (sRet (dLst (aCons (d2 fMod (dCall fInt (aCons (dCall fMax2 (aCons (d2 fSub (dVar 2) (d2 fPow (dC (.int 10)) (dC (.int 18)))) (aCons (dC (.int 0)) (aNil)))) (aNil))) (d2 fPow (d2 fPow (dC (.int 10)) (dC (.int 60))) (dC (.int 10)))) (aCons (d2 fMod (dCall fInt (aCons (dVar 2) (aNil))) (dC (.int 2147483647))) (aCons (d2 fMul (dC (.int 1000)) (dVar 1)) (aNil))))))
def g__law_generator : List DV → MM DV := defG 3 d__law_generator
def d__law_walk : DS := sSeq (sAsg (bTup 2 (bsCons (bName 1) (bsCons (bName 2) (bsNil)))) (dTup (aCons (dC (.str [115, 116, 97, 114, 116])) (aCons (dC (.str [])) (aNil))))) (sSeq (sFor (iArg itEnum (aCons (dVar 0) (aNil))) (bTup 2 (bsCons (bName 3) (bsCons (bName 4) (bsNil)))) (sSeq (sPar3 5 6 7 (aCons (d2 (fIn false) (dVar 4) (dC (.str [97, 98, 99, 100, 101, 102, 103, 104, 105, 106, 107, 108, 109, 110, 111, 112, 113, 114, 115, 116, 117, 118, 119, 120, 121, 122]))) (aCons (d2 (fIn false) (dVar 4) (dC (.str [48, 49, 50, 51, 52, 53, 54, 55, 56, 57]))) (aCons (dC (.str [])) (aNil))))) (sSeq (sIf (tAndD (dB (d2 (fEq false) (dVar 1) (dC (.str [115, 116, 97, 114, 116])))) (dB (d2 (fEq false) (dVar 4) (dC (.str [58]))))) (sSet 7 (dC (.str [119, 111, 114, 100]))) (sIf (tAndD (dB (d2 (fIn false) (dVar 1) (dLst (aCons (dC (.str [115, 116, 97, 114, 116])) (aCons (dC (.str [99, 111, 109, 109, 97])) (aNil)))))) (tAndD (dB (dVar 5)) (dB (d2 fGt (dVar 4) (dVar 2))))) (sPar 7 2 (aCons (dC (.str [108, 101, 116, 116, 101, 114])) (aCons (dVar 4) (aNil)))) (sIf (tAndD (dB (d2 (fEq false) (dVar 1) (dC (.str [108, 101, 116, 116, 101, 114])))) (dB (d2 (fEq false) (dVar 4) (dC (.str [61]))))) (sSet 7 (dC (.str [101, 113, 117, 97, 108]))) (sIf (tAndD (dB (d2 (fEq false) (dVar 1) (dC (.str [101, 113, 117, 97, 108])))) (tAndD (dB (dVar 6)) (dB (d2 (fEq true) (dVar 4) (dC (.str [48])))))) (sSet 7 (dC (.str [102, 105, 103, 117, 114, 101]))) (sIf (tAndD (dB (d2 (fEq false) (dVar 1) (dC (.str [102, 105, 103, 117, 114, 101])))) (tOrD (dB (dVar 6)) (tOrD (dB (d2 (fEq false) (dVar 4) (dC (.str [58])))) (tAndD (dB (d2 (fEq false) (dVar 4) (dC (.str [44])))) (dB (d2 (fEq true) (dVar 2) (dC (.str [122])))))))) (sSet 7 (dIf (dB (dVar 6)) (dC (.str [102, 105, 103, 117, 114, 101])) (d2 fIx (dLst (aCons (dC (.str [119, 111, 114, 100])) (aCons (dC (.str [99, 111, 109, 109, 97])) (aNil)))) (dCall fInt (aCons (d2 (fEq false) (dVar 4) (dC (.str [44]))) (aNil)))))) (sIf (tAndD (dB (d2 (fEq false) (dVar 1) (dC (.str [119, 111, 114, 100])))) (dB (dVar 5))) (sSet 7 (dC (.str [119, 111, 114, 100]))) (sNil))))))) (sSeq (sIf (dB (d2 (fEq false) (dVar 7) (dC (.str [])))) (sRet (dTup (aCons (dVar 3) (aCons (dVar 1) (aNil))))) (sNil)) (sSet 1 (dVar 7)))))) (sRet (dTup (aCons (dCall fLen (aCons (dVar 0) (aNil))) (aCons (dVar 1) (aNil))))))
def g__law_walk : List DV → MM DV := defG 8 d__law_walk
def d_is_whole : DS := sRet (dAndD (dIsi "int" (dVar 0)) (dNotD (dIsi "bool" (dVar 0))))
def g_is_whole : List DV → MM DV := defG 1 d_is_whole
def d_is_between : DS := sSeq (sIf (tNotD (dB (dCall g_is_whole (aCons (dVar 0) (aNil))))) (sRet (dC (.bl false))) (sNil)) (sRet (dAndD (dOrD (d2 (fIs false) (dVar 1) (dC .non)) (d2 fGe (dVar 0) (dVar 1))) (dOrD (d2 (fIs false) (dVar 2) (dC .non)) (d2 fLe (dVar 0) (dVar 2)))))
def g_is_between : List DV → MM DV := defG 3 d_is_between
def d_is_letters_alone : DS := sRet (dAndD (dIsi "str" (dVar 0)) (d2 (fEq false) (dMt "str" mStrip (dVar 0) (aCons (dC (.str [97, 98, 99, 100, 101, 102, 103, 104, 105, 106, 107, 108, 109, 110, 111, 112, 113, 114, 115, 116, 117, 118, 119, 120, 121, 122])) (aNil))) (dC (.str []))))
def g_is_letters_alone : List DV → MM DV := defG 1 d_is_letters_alone
def d_is_price : DS := sSeq (sIf (tOrD (tNotD (dB (dIsi "tuple" (dVar 0)))) (tOrD (dB (d2 (fEq true) (dCall fLen (aCons (dVar 0) (aNil))) (dC (.int 2)))) (tOrD (tNotD (dB (dCall g_is_letters_alone (aCons (d2 fIx (dVar 0) (dC (.int 0))) (aNil))))) (dB (d2 (fEq true) (dCall fLen (aCons (d2 fIx (dVar 0) (dC (.int 0))) (aNil))) (dC (.int 1))))))) (sRet (dC (.bl false))) (sNil)) (sRet (dCall g_is_between (aCons (d2 fIx (dVar 0) (dC (.int 1))) (aCons (dC (.int 1)) (aCons (dC .non) (aNil))))))
def g_is_price : List DV → MM DV := defG 1 d_is_price
def d_rises : DS := sRet (d2 (fEq false) (dLc (iArg (fun vs _ => itRng2 vs) (aCons (dC (.int 1)) (aCons (dCall fLen (aCons (dVar 0) (aNil))) (aNil)))) (bName 1) (dB (d2 fGe (d2 fIx (dVar 0) (d2 fSub (dVar 1) (dC (.int 1)))) (d2 fIx (dVar 0) (dVar 1)))) (dVar 1) [1]) (dLst (aNil)))
def g_rises : List DV → MM DV := defG 2 d_rises
def d_is_price_list : DS := sSeq (sIf (tOrD (tNotD (dB (dIsi "list" (dVar 0)))) (dB (d2 (fEq true) (dLc (iVal (dVar 0)) (bName 1) (tNotD (dB (dCall g_is_price (aCons (dVar 1) (aNil))))) (dVar 1) [1]) (dLst (aNil))))) (sRet (dC (.bl false))) (sNil)) (sRet (dCall g_rises (aCons (dLc (iVal (dVar 0)) (bTup 2 (bsCons (bName 2) (bsCons (bName 3) (bsNil)))) (dYes) (dVar 2) [2, 3]) (aNil))))
def g_is_price_list : List DV → MM DV := defG 4 d_is_price_list
def d_check_prices : DS := sIf (tNotD (dB (dCall g_is_price_list (aCons (dVar 0) (aNil))))) (sRaise 2 (dVar 0)) (sNil)
def g_check_prices : List DV → MM DV := defG 1 d_check_prices
def d_check_word : DS := sIf (tNotD (dB (dCall g_is_letters_alone (aCons (dVar 0) (aNil))))) (sRaise 1 (dVar 0)) (sNil)
def g_check_word : List DV → MM DV := defG 1 d_check_word
def d_line_of : DS := sSeq (sExpr (dCall g_check_prices (aCons (dVar 0) (aNil)))) (sSeq (sExpr (dCall g_check_word (aCons (dVar 1) (aNil)))) (sRet (d2 fAdd (d2 fAdd (dMt "str" mJoin (dC (.str [44])) (aCons (dLc (iVal (dVar 0)) (bTup 2 (bsCons (bName 2) (bsCons (bName 3) (bsNil)))) (dYes) (d2 fAdd (d2 fAdd (dVar 2) (dC (.str [61]))) (dCall fStr (aCons (dVar 3) (aNil)))) [2, 3]) (aNil))) (dC (.str [58]))) (dVar 1))))
def g_line_of : List DV → MM DV := defG 4 d_line_of
def d_next_state : DS := sSeq (sIf (dB (d2 (fIn false) (dVar 0) (dTup (aCons (dC (.int 0)) (aCons (dC (.int 4)) (aNil)))))) (sSeq (sIf (tAndD (dB (d2 (fEq false) (dVar 0) (dC (.int 0)))) (dB (d2 (fEq false) (dVar 2) (dC (.str [58]))))) (sRet (dC (.int 5))) (sNil)) (sRet (dIf (tAndD (dB (d2 (fIn false) (dVar 2) (dC (.str [97, 98, 99, 100, 101, 102, 103, 104, 105, 106, 107, 108, 109, 110, 111, 112, 113, 114, 115, 116, 117, 118, 119, 120, 121, 122])))) (dB (d2 fGt (dVar 2) (dVar 1)))) (dC (.int 1)) (dC .non)))) (sNil)) (sSeq (sIf (dB (d2 (fEq false) (dVar 0) (dC (.int 1)))) (sRet (dIf (dB (d2 (fEq false) (dVar 2) (dC (.str [61])))) (dC (.int 2)) (dC .non))) (sNil)) (sSeq (sIf (dB (d2 (fEq false) (dVar 0) (dC (.int 2)))) (sRet (dIf (tAndD (dB (d2 (fIn false) (dVar 2) (dC (.str [48, 49, 50, 51, 52, 53, 54, 55, 56, 57])))) (dB (d2 (fEq true) (dVar 2) (dC (.str [48]))))) (dC (.int 3)) (dC .non))) (sNil)) (sSeq (sIf (dB (d2 (fEq false) (dVar 0) (dC (.int 5)))) (sRet (dIf (dB (d2 (fIn false) (dVar 2) (dC (.str [97, 98, 99, 100, 101, 102, 103, 104, 105, 106, 107, 108, 109, 110, 111, 112, 113, 114, 115, 116, 117, 118, 119, 120, 121, 122])))) (dC (.int 5)) (dC .non))) (sNil)) (sSeq (sIf (dB (d2 (fIn false) (dVar 2) (dC (.str [48, 49, 50, 51, 52, 53, 54, 55, 56, 57])))) (sRet (dC (.int 3))) (sNil)) (sSeq (sIf (dB (d2 (fEq false) (dVar 2) (dC (.str [44])))) (sRet (dIf (dB (d2 (fEq true) (dVar 1) (d2 fIx (dC (.str [97, 98, 99, 100, 101, 102, 103, 104, 105, 106, 107, 108, 109, 110, 111, 112, 113, 114, 115, 116, 117, 118, 119, 120, 121, 122])) (d1 fNeg (dC (.int 1)))))) (dC (.int 4)) (dC .non))) (sNil)) (sRet (dIf (dB (d2 (fEq false) (dVar 2) (dC (.str [58])))) (dC (.int 5)) (dC .non))))))))
def g_next_state : List DV → MM DV := defG 3 d_next_state
def d_right_size : DS := sSeq (sPar 1 2 (aCons (dC (.int 0)) (aCons (dC (.str [])) (aNil)))) (sSeq (sFor (iArg itEnum (aCons (dVar 0) (aNil))) (bTup 2 (bsCons (bName 3) (bsCons (bName 4) (bsNil)))) (sSeq (sSet 5 (dCall g_next_state (aCons (dVar 1) (aCons (dVar 2) (aCons (dVar 4) (aNil)))))) (sSeq (sIf (dB (d2 (fIs false) (dVar 5) (dC .non))) (sRet (dTup (aCons (dVar 3) (aCons (dVar 1) (aNil))))) (sNil)) (sPar 1 2 (aCons (dVar 5) (aCons (dIf (dB (d2 (fEq false) (dVar 5) (dC (.int 1)))) (dVar 4) (dVar 2)) (aNil))))))) (sRet (dTup (aCons (dCall fLen (aCons (dVar 0) (aNil))) (aCons (dVar 1) (aNil))))))
def g_right_size : List DV → MM DV := defG 6 d_right_size
def d_of_line : DS := sSeq (sIf (tOrD (tNotD (dB (dIsi "str" (dVar 0)))) (dB (d2 (fEq true) (dCall g_right_size (aCons (dVar 0) (aNil))) (dTup (aCons (dCall fLen (aCons (dVar 0) (aNil))) (aCons (dC (.int 5)) (aNil))))))) (sRaise 3 (dVar 0)) (sNil)) (sSeq (sAsg (bTup 2 (bsCons (bName 1) (bsCons (bName 2) (bsNil)))) (dMt "str" mSplit (dVar 0) (aCons (dC (.str [58])) (aNil)))) (sSeq (sSet 3 (dIf (dB (d2 (fEq true) (dVar 1) (dC (.str [])))) (dLc (iVal (dMt "str" mSplit (dVar 1) (aCons (dC (.str [44])) (aNil)))) (bName 4) (dYes) (dTup (aCons (d2 fIx (dVar 4) (dC (.int 0))) (aCons (dCall fInt (aCons (dSl fSl (dVar 4) (oSome (dC (.int 2))) (oNone)) (aNil))) (aNil)))) [4]) (dLst (aNil)))) (sSeq (sIf (tOrD (tNotD (dB (dCall g_is_price_list (aCons (dVar 3) (aNil))))) (tNotD (dB (dCall g_is_letters_alone (aCons (dVar 2) (aNil)))))) (sRaise 3 (dVar 0)) (sNil)) (sRet (dTup (aCons (dVar 3) (aCons (dVar 2) (aNil))))))))
def g_of_line : List DV → MM DV := defG 5 d_of_line
def d_right_part : DS := sSeq (sIf (tOrD (tNotD (dB (dIsi "str" (dVar 0)))) (dB (d2 fGt (dCall fLen (aCons (dVar 0) (aNil))) (dC (.int 2000))))) (sRaise 3 (dVar 0)) (sNil)) (sRet (dSl fSl (dVar 0) (oNone) (oSome (d2 fIx (dCall g_right_size (aCons (dVar 0) (aNil))) (dC (.int 0))))))
def g_right_part : List DV → MM DV := defG 1 d_right_part
def d__law_line_right : DS := sSeq (sAsg (bTup 2 (bsCons (bName 2) (bsCons (bName 3) (bsNil)))) (dCall g__law_walk (aCons (dVar 0) (aNil)))) (sSeq (sIf (tOrD (dB (d2 (fEq true) (dCall g_right_part (aCons (dVar 0) (aNil))) (dSl fSl (dVar 0) (oNone) (oSome (dVar 2))))) (dB (d2 (fEq true) (dCallK g_right_part [0] (aCons (dVar 0) (aNil))) (dSl fSl (dVar 0) (oNone) (oSome (dVar 2)))))) (sRet (dC (.bl false))) (sNil)) (sSeq (sAsg (bTup 2 (bsCons (bName 4) (bsCons (bName 5) (bsNil)))) (dTup (aCons (dC .non) (aCons (dC .non) (aNil))))) (sSeq (sTry 6 mEx_InvalidLine (sSet 5 (dCall g_of_line (aCons (dVar 0) (aNil)))) (sSet 4 (dVar 6))) (sSeq (sIf (tOrD (dB (d2 fLt (dVar 2) (dCall fLen (aCons (dVar 0) (aNil))))) (dB (d2 (fEq true) (dVar 3) (dC (.str [119, 111, 114, 100]))))) (sRet (dAndD (d2 (fIs true) (dVar 4) (dC .non)) (d2 (fEq false) (dXv (xCs) (dVar 4)) (dVar 0)))) (sNil)) (sSeq (sIf (tOrD (dB (d2 (fIs true) (dVar 4) (dC .non))) (tOrD (tNotD (dB (dIsi "tuple" (dVar 5)))) (dB (d2 (fEq true) (dCall g_line_of (aCons (d2 fIx (dVar 5) (dC (.int 0))) (aCons (d2 fIx (dVar 5) (dC (.int 1))) (aNil)))) (dVar 0))))) (sRet (dC (.bl false))) (sNil)) (sSeq (sIf (tAndD (dB (d2 (fIs true) (dVar 1) (dC .non))) (dB (d2 (fEq true) (dVar 5) (dVar 1)))) (sRet (dC (.bl false))) (sNil)) (sSeq (sExpr (dMt "list" mAppend (d2 fIx (dVar 5) (dC (.int 0))) (aCons (dC .non) (aNil)))) (sRet (d2 (fEq false) (dCallK g_line_of [0, 1] (aCons (d2 fIx (dCallK g_of_line [0] (aCons (dVar 0) (aNil))) (dC (.int 0))) (aCons (d2 fIx (dCall g_of_line (aCons (dVar 0) (aNil))) (dC (.int 1))) (aNil)))) (dVar 0))))))))))
def g__law_line_right : List DV → MM DV := defG 7 d__law_line_right
def d__law_hash : DS := sSeq (sSet 2 (d2 fMod (dCall fInt (aCons (d2 fAdd (d2 fAdd (d2 fAdd (d2 fMul (dVar 0) (dC (.int 1140671))) (d2 fMul (d2 fMul (dC (.int 27644437)) (dVar 1)) (dVar 1))) (d2 fMul (dC (.int 131)) (dVar 1))) (dC (.int 19))) (aNil))) (dC (.int 2147483629)))) (sSeq (sSet 2 (d2 fMod (dCall fInt (aCons (d2 fAdd (d2 fAdd (d2 fMul (dVar 2) (dVar 2)) (d2 fMul (dC (.int 62089)) (dVar 1))) (dC (.int 32416187))) (aNil))) (dC (.int 2147483587)))) (sRet (d2 fMod (dCall fInt (aCons (d2 fMul (dVar 2) (dC (.int 48271))) (aNil))) (dC (.int 2147483647)))))
def g__law_hash : List DV → MM DV := defG 3 d__law_hash
def d__law_random : DS := sSeq (sIf (dB (d2 fGt (d2 fIx (dVar 0) (dC (.int 0))) (dC (.int 0)))) (sSeq (sSet 2 (d2 fMod (dCall fInt (aCons (d2 fIx (dVar 0) (dC (.int 0))) (aNil))) (dVar 1))) (sSeq (sSetI (d2 fFdiv (d2 fIx (dVar 0) (dC (.int 0))) (dVar 1)) (dVar 0) (dC (.int 0))) (sRet (dVar 2)))) (sNil)) (sSeq (sSet 2 (dC (.int 0))) (sSeq (sFor (iArg (fun vs _ => itRng1 vs) (aCons (d2 fAdd (dC (.int 1)) (d2 fFdiv (dBits (dVar 1)) (dC (.int 30)))) (aNil))) (bName 3) (sSeq (sSetI (d2 fAdd (d2 fIx (dVar 0) (dC (.int 2))) (dC (.int 1))) (dVar 0) (dC (.int 2))) (sSet 2 (d2 fAdd (d2 fMul (dVar 2) (dC (.int 2147483587))) (dCall g__law_hash (aCons (d2 fIx (dVar 0) (dC (.int 1))) (aCons (d2 fIx (dVar 0) (dC (.int 2))) (aNil)))))))) (sRet (d2 fMod (dCall fInt (aCons (dVar 2) (aNil))) (dVar 1)))))
def g__law_random : List DV → MM DV := defG 4 d__law_random
def d__law_bent : DS := sSeq (sPar 2 3 (aCons (dCall g__law_random (aCons (dVar 0) (aCons (dCall fLen (aCons (dVar 1) (aNil))) (aNil)))) (aCons (d2 fIx (dC (.str [120, 121, 122, 61, 44, 58, 48, 49, 50, 51, 52, 53, 54, 55, 56, 57, 97, 98, 65, 90, 32, 95, 10, 46, 43, 45])) (dCall g__law_random (aCons (dVar 0) (aCons (dC (.int 26)) (aNil))))) (aNil)))) (sSeq (sSet 4 (dLst (aCons (d2 fAdd (d2 fAdd (dSl fSl (dVar 1) (oNone) (oSome (dVar 2))) (dVar 3)) (dSl fSl (dVar 1) (oSome (d2 fAdd (dVar 2) (dC (.int 1)))) (oNone))) (aCons (d2 fAdd (dSl fSl (dVar 1) (oNone) (oSome (dVar 2))) (dSl fSl (dVar 1) (oSome (d2 fAdd (dVar 2) (dC (.int 1)))) (oNone))) (aCons (d2 fAdd (d2 fAdd (dSl fSl (dVar 1) (oNone) (oSome (dVar 2))) (dVar 3)) (dSl fSl (dVar 1) (oSome (dVar 2)) (oNone))) (aCons (dSl fSl (dVar 1) (oNone) (oSome (dVar 2))) (aNil))))))) (sRet (d2 fAdd (dVar 4) (dLst (aCons (d2 fAdd (dVar 1) (dVar 3)) (aCons (dSl fSl (dVar 1) (oSome (dVar 2)) (oNone)) (aCons (d2 fAdd (dSl fSl (dVar 1) (oNone) (oSome (dVar 2))) (dVar 1)) (aCons (d2 fAdd (dVar 1) (dVar 1)) (aNil)))))))))
def g__law_bent : List DV → MM DV := defG 5 d__law_bent
def d__law_joints : DS := sRet (dMt "str" mJoin (dC (.str [])) (aCons (dLc (iVal (dVar 1)) (bName 2) (dB (d2 (fEq false) (dCall g__law_random (aCons (dVar 0) (aCons (dC (.int 2)) (aNil)))) (dC (.int 0)))) (dVar 2) [2]) (aNil)))
def g__law_joints : List DV → MM DV := defG 3 d__law_joints
def d__law_letters : DS := sSeq (sPar3 3 4 5 (aCons (d2 fAdd (dVar 1) (dCall g__law_random (aCons (dVar 0) (aCons (d2 fAdd (d2 fSub (dVar 2) (dVar 1)) (dC (.int 1))) (aNil))))) (aCons (dC (.str [])) (aCons (d2 fSub (dC (.int 0)) (dC (.int 1))) (aNil))))) (sSeq (sFor (iArg (fun vs _ => itRng1 vs) (aCons (dVar 3) (aNil))) (bName 6) (sSeq (sSet 5 (d2 fAdd (d2 fAdd (dVar 5) (dC (.int 1))) (dCall g__law_random (aCons (dVar 0) (aCons (dC (.int 3)) (aNil)))))) (sSet 4 (d2 fAdd (dVar 4) (d2 fIx (dC (.str [97, 98, 99, 100, 101, 102, 103, 104, 105, 106, 107, 108, 109, 110, 111, 112, 113, 114, 115, 116, 117, 118, 119, 120, 121, 122])) (dVar 5)))))) (sRet (dVar 4)))
def g__law_letters : List DV → MM DV := defG 7 d__law_letters
def d__law_line : DS := sRet (d2 fAdd (d2 fAdd (dMt "str" mJoin (dC (.str [44])) (aCons (dLc (iVal (dVar 0)) (bTup 2 (bsCons (bName 2) (bsCons (bName 3) (bsNil)))) (dYes) (d2 fAdd (d2 fAdd (dVar 2) (dC (.str [61]))) (dCall fStr (aCons (dVar 3) (aNil)))) [2, 3]) (aNil))) (dC (.str [58]))) (dVar 1))
def g__law_line : List DV → MM DV := defG 4 d__law_line
def d__law_word : DS := sRet (dMt "str" mJoin (dC (.str [])) (aCons (dLc (iArg (fun vs _ => itRng1 vs) (aCons (dVar 2) (aNil))) (bName 3) (dYes) (d2 fIx (dVar 1) (dCall g__law_random (aCons (dVar 0) (aCons (dCall fLen (aCons (dVar 1) (aNil))) (aNil))))) [3]) (aNil)))
def g__law_word : List DV → MM DV := defG 4 d__law_word
def d__law_right : DS := sSeq (sSet 1 (dCall g__law_letters (aCons (dVar 0) (aCons (dC (.int 1)) (aCons (dC (.int 6)) (aNil)))))) (sSeq (sAsg (bTup 2 (bsCons (bName 2) (bsCons (bName 3) (bsNil)))) (dTup (aCons (dCall g__law_joints (aCons (dVar 0) (aCons (dVar 1) (aNil)))) (aCons (d2 fIx (dLst (aCons (dC (.int 20)) (aCons (d2 fSub (d2 fPow (dC (.int 10)) (dC (.int 29))) (dC (.int 1))) (aNil)))) (dCall g__law_random (aCons (dVar 0) (aCons (dC (.int 2)) (aNil))))) (aNil))))) (sSeq (sSet 4 (dLc (iVal (dVar 2)) (bName 10) (dYes) (dTup (aCons (dVar 10) (aCons (d2 fAdd (dC (.int 1)) (dCall g__law_random (aCons (dVar 0) (aCons (dVar 3) (aNil))))) (aNil)))) [10])) (sSeq (sPar 5 6 (aCons (dCall g__law_word (aCons (dVar 0) (aCons (dVar 1) (aCons (dCall g__law_random (aCons (dVar 0) (aCons (dC (.int 31)) (aNil)))) (aNil))))) (aCons (dCall fList (aCons (dVar 4) (aNil))) (aNil)))) (sSeq (sSet 7 (dCall g__law_line (aCons (dVar 4) (aCons (dVar 5) (aNil))))) (sSeq (sIf (tOrD (dB (d2 (fEq true) (dCall g_line_of (aCons (dVar 4) (aCons (dVar 5) (aNil)))) (dVar 7))) (tOrD (dB (d2 (fEq true) (dCallK g_line_of [1, 0] (aCons (dVar 5) (aCons (dVar 4) (aNil)))) (dVar 7))) (dB (d2 (fEq true) (dVar 4) (dVar 6))))) (sRet (dC (.bl false))) (sNil)) (sSeq (sIf (tNotD (dB (dCall g__law_line_right (aCons (dVar 7) (aCons (dTup (aCons (dVar 4) (aCons (dVar 5) (aNil)))) (aNil)))))) (sRet (dC (.bl false))) (sNil)) (sSeq (sFor (iArg (fun vs _ => itRng1 vs) (aCons (dC (.int 4)) (aNil))) (bName 8) (sFor (iVal (dCall g__law_bent (aCons (dVar 0) (aCons (dVar 7) (aNil))))) (bName 9) (sIf (tNotD (dB (dCall g__law_line_right (aCons (dVar 9) (aCons (dC .non) (aNil)))))) (sRet (dC (.bl false))) (sNil)))) (sRet (dC (.bl true))))))))))
def g__law_right : List DV → MM DV := defG 11 d__law_right
def d__law_told : DS := sSeq (sSet 2 (dC .non)) (sSeq (sTry 3 mEx_SwapError (sSet 2 (dIf (dB (d2 (fEq false) (dVar 0) (dC (.int 0)))) (dCall g_line_of (aCons (d2 fIx (dVar 1) (dC (.int 0))) (aCons (d2 fIx (dVar 1) (dC (.int 1))) (aNil)))) (dIf (dB (d2 (fEq false) (dVar 0) (dC (.int 1)))) (dCall g_of_line (aCons (d2 fIx (dVar 1) (dC (.int 0))) (aNil))) (dCall g_right_part (aCons (d2 fIx (dVar 1) (dC (.int 0))) (aNil)))))) (sSeq (sSet 2 (dLst (aCons (dIsX mIs_InvalidPrices (dVar 3)) (aCons (dIsX mIs_InvalidWord (dVar 3)) (aCons (dIsX mIs_InvalidLine (dVar 3)) (aNil)))))) (sExpr (dMt "list" mAppend (dVar 2) (aCons (dXv (xCs) (dVar 3)) (aNil)))))) (sRet (dVar 2)))
def g__law_told : List DV → MM DV := defG 4 d__law_told
def d_law : DS := sSeq (sFor (iArg (fun vs _ => itRng1 vs) (aCons (dC (.int 3)) (aNil))) (bName 1) (sIf (tNotD (dB (dCall g__law_right (aCons (dCall g__law_generator (aCons (dVar 0) (aCons (dVar 1) (aNil)))) (aNil))))) (sRet (dC (.bl false))) (sNil))) (sSeq (sSet 2 (dLst (aCons (dC (.str [])) (aCons (dC (.str [58])) (aCons (dC (.str [58, 58])) (aCons (dC (.str [120, 61, 51])) (aCons (dC (.str [120, 61, 48, 51, 58])) (aCons (dC (.str [122, 61, 49, 44, 121, 61, 49, 58])) (aCons (dC (.str [120, 61, 49, 44, 120, 61, 50, 58])) (aCons (dC (.str [120, 61, 51, 44, 58])) (aCons (dC (.str [44, 120, 61, 49, 58])) (aCons (dC (.str [97, 58])) (aNil))))))))))))) (sSeq (sSet 3 (dLc (iVal (dVar 2)) (bName 5) (dYes) (dCall g__law_line_right (aCons (dVar 5) (aCons (dC .non) (aNil)))) [5])) (sSeq (sFor (iVal (dLst (aCons (dC .non) (aCons (dC (.int 7)) (aCons (dLst (aCons (dC (.str [58])) (aNil))) (aCons (dTup (aNil)) (aCons (dDct0) (aCons (dC (.bl true)) (aNil))))))))) (bName 4) (sSet 3 (d2 fAdd (dVar 3) (dLst (aCons (d2 (fEq false) (dCall g__law_told (aCons (dC (.int 1)) (aCons (dLst (aCons (dVar 4) (aNil))) (aNil)))) (dLst (aCons (dC (.bl false)) (aCons (dC (.bl false)) (aCons (dC (.bl true)) (aCons (dVar 4) (aNil))))))) (aCons (d2 (fEq false) (dCall g__law_told (aCons (dC (.int 2)) (aCons (dLst (aCons (dVar 4) (aNil))) (aNil)))) (dLst (aCons (dC (.bl false)) (aCons (dC (.bl false)) (aCons (dC (.bl true)) (aCons (dVar 4) (aNil))))))) (aNil))))))) (sSeq (sFor (iVal (dLst (aCons (dC .non) (aCons (dC (.int 7)) (aCons (dC (.str [])) (aCons (dLst (aCons (dTup (aCons (dC (.str [120])) (aCons (dC (.int 0)) (aNil)))) (aNil))) (aCons (dLst (aCons (dTup (aCons (dC (.str [121])) (aCons (dC (.int 1)) (aNil)))) (aCons (dTup (aCons (dC (.str [120])) (aCons (dC (.int 1)) (aNil)))) (aNil)))) (aCons (dTup (aCons (dTup (aCons (dC (.str [120])) (aCons (dC (.int 1)) (aNil)))) (aNil))) (aCons (dLst (aCons (dTup (aCons (dC (.str [120])) (aCons (dC (.bl true)) (aNil)))) (aNil))) (aNil)))))))))) (bName 4) (sSeq (sExpr (dMt "list" mAppend (dVar 3) (aCons (d2 (fEq false) (dCall g__law_told (aCons (dC (.int 0)) (aCons (dLst (aCons (dVar 4) (aCons (dC .non) (aNil)))) (aNil)))) (dLst (aCons (dC (.bl true)) (aCons (dC (.bl false)) (aCons (dC (.bl false)) (aCons (dVar 4) (aNil))))))) (aNil)))) (sExpr (dMt "list" mAppend (dVar 3) (aCons (d2 (fEq false) (dCall g__law_told (aCons (dC (.int 0)) (aCons (dLst (aCons (dVar 4) (aCons (dC (.str [120])) (aNil)))) (aNil)))) (dLst (aCons (dC (.bl true)) (aCons (dC (.bl false)) (aCons (dC (.bl false)) (aCons (dVar 4) (aNil))))))) (aNil)))))) (sSeq (sFor (iVal (dLst (aCons (dC .non) (aCons (dC (.int 7)) (aCons (dC (.str [65])) (aCons (dLst (aCons (dC (.str [120])) (aNil))) (aCons (dC (.str [97, 32, 98])) (aNil)))))))) (bName 4) (sExpr (dMt "list" mAppend (dVar 3) (aCons (d2 (fEq false) (dCall g__law_told (aCons (dC (.int 0)) (aCons (dLst (aCons (dLst (aCons (dTup (aCons (dC (.str [120])) (aCons (dC (.int 1)) (aNil)))) (aNil))) (aCons (dVar 4) (aNil)))) (aNil)))) (dLst (aCons (dC (.bl false)) (aCons (dC (.bl true)) (aCons (dC (.bl false)) (aCons (dVar 4) (aNil))))))) (aNil))))) (sSeq (sExpr (dMt "list" mAppend (dVar 3) (aCons (d2 (fEq false) (dCall g_right_part (aCons (d2 fAdd (dC (.str [58])) (d2 fMul (dC (.str [97])) (dC (.int 1999)))) (aNil))) (d2 fAdd (dC (.str [58])) (d2 fMul (dC (.str [97])) (dC (.int 1999))))) (aNil)))) (sSeq (sExpr (dMt "list" mAppend (dVar 3) (aCons (dCall g__law_line_right (aCons (d2 fAdd (dC (.str [58])) (d2 fMul (dC (.str [97])) (dC (.int 1999)))) (aCons (dTup (aCons (dLst (aNil)) (aCons (d2 fMul (dC (.str [97])) (dC (.int 1999))) (aNil)))) (aNil)))) (aNil)))) (sSeq (sExpr (dMt "list" mAppend (dVar 3) (aCons (d2 (fEq false) (dCall g__law_told (aCons (dC (.int 2)) (aCons (dLst (aCons (d2 fMul (dC (.str [97])) (dC (.int 2001))) (aNil))) (aNil)))) (dLst (aCons (dC (.bl false)) (aCons (dC (.bl false)) (aCons (dC (.bl true)) (aCons (d2 fMul (dC (.str [97])) (dC (.int 2001))) (aNil))))))) (aNil)))) (sRet (dAndD (d2 (fEq false) (dLc (iVal (dVar 3)) (bName 6) (dB (d2 (fIs true) (dVar 6) (dC (.bl true)))) (dVar 6) [6]) (dLst (aNil))) (d2 (fEq false) (dCall g_right_part (aCons (d2 fAdd (d2 fAdd (dC (.str [120, 61])) (d2 fMul (dC (.str [57])) (dC (.int 400)))) (dC (.str [65]))) (aNil))) (d2 fAdd (dC (.str [120, 61])) (d2 fMul (dC (.str [57])) (dC (.int 400)))))))))))))))
def g_law : List DV → MM DV := defG 7 d_law
end K91

set_option maxHeartbeats 4000000
namespace K91
open PySem PySem.Spec PyProof.Rows L2 SE
def top (i : Nat) : Stmt := PySem.Challenge.pw_sideswaps_k91_whole_lines.main.body.getD i (.Pass ⟨0, 0, 0, 0⟩)
abbrev t__law_cell : Stmt := top 32
abbrev N__law_cell : List Str := ["_law_script", "_law_index"]
abbrev t__law_generator : Stmt := top 33
abbrev N__law_generator : List Str := ["_law_script", "_law_index", "_law_seed"]
abbrev t__law_walk : Stmt := top 38
abbrev N__law_walk : List Str := ["_law_line_here", "_law_state", "_law_last", "_law_at", "_law_sign", "_law_small", "_law_figure", "_law_later"]
abbrev t_is_whole : Stmt := top 7
abbrev N_is_whole : List Str := ["value"]
abbrev t_is_between : Stmt := top 8
abbrev N_is_between : List Str := ["value", "low", "high"]
abbrev t_is_letters_alone : Stmt := top 9
abbrev N_is_letters_alone : List Str := ["value"]
abbrev t_is_price : Stmt := top 12
abbrev N_is_price : List Str := ["value"]
abbrev t_rises : Stmt := top 11
abbrev N_rises : List Str := ["letters", "at"]
abbrev t_is_price_list : Stmt := top 13
abbrev N_is_price_list : List Str := ["value", "item", "letter", "_"]
abbrev t_check_prices : Stmt := top 14
abbrev N_check_prices : List Str := ["prices"]
abbrev t_check_word : Stmt := top 10
abbrev N_check_word : List Str := ["word"]
abbrev t_line_of : Stmt := top 24
abbrev N_line_of : List Str := ["prices", "word", "letter", "price"]
abbrev t_next_state : Stmt := top 25
abbrev N_next_state : List Str := ["state", "last", "sign"]
abbrev t_right_size : Stmt := top 26
abbrev N_right_size : List Str := ["line", "state", "last", "size", "sign", "later"]
abbrev t_of_line : Stmt := top 27
abbrev N_of_line : List Str := ["line", "fees", "word", "prices", "part"]
abbrev t_right_part : Stmt := top 28
abbrev N_right_part : List Str := ["line"]
abbrev t__law_line_right : Stmt := top 39
abbrev N__law_line_right : List Str := ["_law_line_here", "_law_due", "_law_size", "_law_state", "_law_caught", "_law_told_here", "error"]
abbrev t__law_hash : Stmt := top 30
abbrev N__law_hash : List Str := ["_law_seed", "_law_index", "_law_mixed"]
abbrev t__law_random : Stmt := top 31
abbrev N__law_random : List Str := ["_law_generator_here", "_law_bound", "_law_drawn", "_law_turn"]
abbrev t__law_bent : Stmt := top 40
abbrev N__law_bent : List Str := ["_law_generator_here", "_law_line_here", "_law_at", "_law_sign", "_law_found"]
abbrev t__law_joints : Stmt := top 36
abbrev N__law_joints : List Str := ["_law_generator_here", "_law_letters_here", "_law_letter"]
abbrev t__law_letters : Stmt := top 35
abbrev N__law_letters : List Str := ["_law_generator_here", "_law_least", "_law_most", "_law_many", "_law_found", "_law_start", "_law_turn"]
abbrev t__law_line : Stmt := top 37
abbrev N__law_line : List Str := ["_law_prices", "_law_word_here", "_law_letter", "_law_price"]
abbrev t__law_word : Stmt := top 34
abbrev N__law_word : List Str := ["_law_generator_here", "_law_letters_here", "_law_size", "_law_turn"]
abbrev t__law_right : Stmt := top 41
abbrev N__law_right : List Str := ["_law_generator_here", "_law_letters_here", "_law_joints_here", "_law_most", "_law_prices", "_law_word_here", "_law_kept", "_law_line_here", "_law_turn", "_law_bent_here", "_law_letter"]
abbrev t__law_told : Stmt := top 42
abbrev N__law_told : List Str := ["_law_door", "_law_args", "_law_told_here", "error"]
abbrev t_law : Stmt := top 43
abbrev N_law : List Str := ["_law_script", "_law_index", "_law_lines", "_law_due", "_law_bad", "_law_line_here", "_law_item"]
structure Tx (P : Program) (K : PySem.W.Frag) (mg : Str → Option Value) (Z : Cz) : Prop where
  hZ : Z.K = K
  b_bool : mg "bool" = none
  b_enumerate : mg "enumerate" = none
  b_int : mg "int" = none
  b_isinstance : mg "isinstance" = none
  b_len : mg "len" = none
  b_list : mg "list" = none
  b_max : mg "max" = none
  b_range : mg "range" = none
  b_str : mg "str" = none
  b_sum : mg "sum" = none
  b_tuple : mg "tuple" = none
  c_COMMA : ∃ t, mg "COMMA" = some (.int 4 t)
  c_EQUAL : ∃ t, mg "EQUAL" = some (.int 2 t)
  c_FIGURED : ∃ t, mg "FIGURED" = some (.int 3 t)
  c_FIGURES : ∃ t, mg "FIGURES" = some (.str ⟨([48, 49, 50, 51, 52, 53, 54, 55, 56, 57] : List Nat).toArray⟩ t)
  c_LETTER : ∃ t, mg "LETTER" = some (.int 1 t)
  c_LETTERS : ∃ t, mg "LETTERS" = some (.str ⟨([97, 98, 99, 100, 101, 102, 103, 104, 105, 106, 107, 108, 109, 110, 111, 112, 113, 114, 115, 116, 117, 118, 119, 120, 121, 122] : List Nat).toArray⟩ t)
  c_MOST_SIGNS : ∃ t, mg "MOST_SIGNS" = some (.int 2000 t)
  c_START : ∃ t, mg "START" = some (.int 0 t)
  c_WORD : ∃ t, mg "WORD" = some (.int 5 t)
  k_SwapError : mg "SwapError" = some (.ref (Z.cl 0))
  k_InvalidWord : mg "InvalidWord" = some (.ref (Z.cl 1))
  x_InvalidWord : PySem.SX.ITxt P K (Z.cl 1)
  k_InvalidPrices : mg "InvalidPrices" = some (.ref (Z.cl 2))
  x_InvalidPrices : PySem.SX.ITxt P K (Z.cl 2)
  k_InvalidLine : mg "InvalidLine" = some (.ref (Z.cl 3))
  x_InvalidLine : PySem.SX.ITxt P K (Z.cl 3)
  e_InvalidLine : ∀ C b, mEx_InvalidLine C = some b → PySem.W.exmOne K (.ref (Z.cl C)) (.ref (Z.cl 3)) = some b
  e_SwapError : ∀ C b, mEx_SwapError C = some b → PySem.W.exmOne K (.ref (Z.cl C)) (.ref (Z.cl 0)) = some b
  is_InvalidLine : ∀ T b, mIs_InvalidLine T = some b → PySem.W.kitOne K (tyVal Z T) (.ref (Z.cl 3)) = some b
  ist_InvalidLine : ∀ n, mIs_InvalidLine (.c n) ≠ none → PySem.SX.ITxt P K (Z.cl n) ∧ PySem.SX.IsC K (Z.cl n)
  is_InvalidPrices : ∀ T b, mIs_InvalidPrices T = some b → PySem.W.kitOne K (tyVal Z T) (.ref (Z.cl 2)) = some b
  ist_InvalidPrices : ∀ n, mIs_InvalidPrices (.c n) ≠ none → PySem.SX.ITxt P K (Z.cl n) ∧ PySem.SX.IsC K (Z.cl n)
  is_InvalidWord : ∀ T b, mIs_InvalidWord T = some b → PySem.W.kitOne K (tyVal Z T) (.ref (Z.cl 1)) = some b
  ist_InvalidWord : ∀ n, mIs_InvalidWord (.c n) ≠ none → PySem.SX.ITxt P K (Z.cl n) ∧ PySem.SX.IsC K (Z.cl n)
  xcs : ∀ n, xCs n = true → PySem.SX.ITxt P K (Z.cl n)
  d__law_cell : DefT K mg "_law_cell" t__law_cell ["_law_script", "_law_index"]
  d__law_generator : DefT K mg "_law_generator" t__law_generator ["_law_script", "_law_index"]
  d__law_walk : DefT K mg "_law_walk" t__law_walk ["_law_line_here"]
  d_is_whole : DefT K mg "is_whole" t_is_whole ["value"]
  d_is_between : DefT K mg "is_between" t_is_between ["value", "low", "high"]
  d_is_letters_alone : DefT K mg "is_letters_alone" t_is_letters_alone ["value"]
  d_is_price : DefT K mg "is_price" t_is_price ["value"]
  d_rises : DefT K mg "rises" t_rises ["letters"]
  d_is_price_list : DefT K mg "is_price_list" t_is_price_list ["value"]
  d_check_prices : DefT K mg "check_prices" t_check_prices ["prices"]
  d_check_word : DefT K mg "check_word" t_check_word ["word"]
  d_line_of : DefT K mg "line_of" t_line_of ["prices", "word"]
  d_next_state : DefT K mg "next_state" t_next_state ["state", "last", "sign"]
  d_right_size : DefT K mg "right_size" t_right_size ["line"]
  d_of_line : DefT K mg "of_line" t_of_line ["line"]
  d_right_part : DefT K mg "right_part" t_right_part ["line"]
  d__law_line_right : DefT K mg "_law_line_right" t__law_line_right ["_law_line_here", "_law_due"]
  d__law_hash : DefT K mg "_law_hash" t__law_hash ["_law_seed", "_law_index"]
  d__law_random : DefT K mg "_law_random" t__law_random ["_law_generator_here", "_law_bound"]
  d__law_bent : DefT K mg "_law_bent" t__law_bent ["_law_generator_here", "_law_line_here"]
  d__law_joints : DefT K mg "_law_joints" t__law_joints ["_law_generator_here", "_law_letters_here"]
  d__law_letters : DefT K mg "_law_letters" t__law_letters ["_law_generator_here", "_law_least", "_law_most"]
  d__law_line : DefT K mg "_law_line" t__law_line ["_law_prices", "_law_word_here"]
  d__law_word : DefT K mg "_law_word" t__law_word ["_law_generator_here", "_law_letters_here", "_law_size"]
  d__law_right : DefT K mg "_law_right" t__law_right ["_law_generator_here"]
  d__law_told : DefT K mg "_law_told" t__law_told ["_law_door", "_law_args"]
  d_law : DefT K mg "law" t_law ["_law_script"]
theorem kb_line_of_01 (kV doc pm : Value) (an : Option Addr) (cdv ct : Value) : ∀ us : List Value, us.length = (["prices", "word"] : List Str).length → bindArgs (PySem.W.fnOf "line_of" "line_of" (defArgs t_line_of) (defBody t_line_of) (defScope t_line_of) .none kV doc pm an cdv ct) ⟨[], (["prices", "word"] : List Str).zip us⟩ = pure ((["prices", "word"] : List Str).zip (permL [0, 1] us))
  | [u0, u1], _ => rfl
theorem kb_line_of_10 (kV doc pm : Value) (an : Option Addr) (cdv ct : Value) : ∀ us : List Value, us.length = (["word", "prices"] : List Str).length → bindArgs (PySem.W.fnOf "line_of" "line_of" (defArgs t_line_of) (defBody t_line_of) (defScope t_line_of) .none kV doc pm an cdv ct) ⟨[], (["word", "prices"] : List Str).zip us⟩ = pure ((["prices", "word"] : List Str).zip (permL [1, 0] us))
  | [u0, u1], _ => rfl
theorem kb_of_line_0 (kV doc pm : Value) (an : Option Addr) (cdv ct : Value) : ∀ us : List Value, us.length = (["line"] : List Str).length → bindArgs (PySem.W.fnOf "of_line" "of_line" (defArgs t_of_line) (defBody t_of_line) (defScope t_of_line) .none kV doc pm an cdv ct) ⟨[], (["line"] : List Str).zip us⟩ = pure ((["line"] : List Str).zip (permL [0] us))
  | [u0], _ => rfl
theorem kb_right_part_0 (kV doc pm : Value) (an : Option Addr) (cdv ct : Value) : ∀ us : List Value, us.length = (["line"] : List Str).length → bindArgs (PySem.W.fnOf "right_part" "right_part" (defArgs t_right_part) (defBody t_right_part) (defScope t_right_part) .none kV doc pm an cdv ct) ⟨[], (["line"] : List Str).zip us⟩ = pure ((["line"] : List Str).zip (permL [0] us))
  | [u0], _ => rfl
section
variable {P : Program} {w : World} {K : PySem.W.Frag} {mg : Str → Option Value} {base : Heap} {Z : Cz}
theorem sc__law_cell : FnScope N__law_cell ["_law_script", "_law_index"] (defScope t__law_cell) := ⟨rfl, rfl, rfl, by decide +kernel, rfl, by decide +kernel, by decide +kernel⟩
theorem ok__law_cell (T : Tx P K mg Z)  : FnD P w K mg base Z "_law_cell" t__law_cell ["_law_script", "_law_index"] g__law_cell 2 := by
  have nd := (sc__law_cell).nd
  have hZ := T.hZ
  refine fnd T.d__law_cell sc__law_cell fun f cdv A outer s H E hr => ?_
  unfold d__law_cell
  exact ss_cons (s_if (t_cmp op_ltD s2_R0 (v_ 1) (e_callB (cr_len hZ) sc_RC0 rfl T.b_len bb_len (a_cons (v_ 0) (a_nil))) nomark) (ss_one (s_ret (e_ix (ix_D hZ) s2_R0 (v_ 0) (v_ 1) plx))) (ss_nil)) (ss_one (s_ret (e_bin op_modD s2_R0 (e_callB (cr_sumD rfl) sc_RC0 rfl T.b_sum bb_sum (a_cons (e_slice (sl_D hZ) ss_RS0 (v_ 0) (o_none) (o_some (e_int))) (a_nil))) (e_int))))
theorem sc__law_generator : FnScope N__law_generator ["_law_script", "_law_index"] (defScope t__law_generator) := ⟨rfl, rfl, rfl, by decide +kernel, rfl, by decide +kernel, by decide +kernel⟩
theorem ok__law_generator (T : Tx P K mg Z) (F__law_cell : FnD P w K mg base Z "_law_cell" t__law_cell ["_law_script", "_law_index"] g__law_cell 2) : FnD P w K mg base Z "_law_generator" t__law_generator ["_law_script", "_law_index"] g__law_generator 3 := by
  have nd := (sc__law_generator).nd
  have hZ := T.hZ
  refine fnd T.d__law_generator sc__law_generator fun f cdv A outer s H E hr => ?_
  unfold d__law_generator
  exact ss_cons (s_set nd rfl (Or.inl rfl) (e_callF F__law_cell (hr.mono (by decide)) rfl (takes_of rfl rfl rfl rfl) (alen_cons (alen_cons (alen_nil))) (a_cons (v_ 0) (a_cons (v_ 1) (a_nil))))) (ss_one (s_ret (e_lst (a_cons (e_bin op_modD s2_R0 (e_callTy cr_int sc_RC0 rfl T.b_int bt_int (a_cons (e_callB (cr_max2 rfl) sc_RC0 rfl T.b_max bb_max (a_cons (e_bin op_subD s2_R0 (v_ 2) (e_bin op_powD s2_R0 (e_int) (e_int))) (a_cons (e_int) (a_nil)))) (a_nil))) (e_bin op_powD s2_R0 (e_bin op_powD s2_R0 (e_int) (e_int)) (e_int))) (a_cons (e_bin op_modD s2_R0 (e_callTy cr_int sc_RC0 rfl T.b_int bt_int (a_cons (v_ 2) (a_nil))) (e_int)) (a_cons (e_bin op_mulD s2_R0 (e_int) (v_ 1)) (a_nil)))))))
theorem sc__law_walk : FnScope N__law_walk ["_law_line_here"] (defScope t__law_walk) := ⟨rfl, rfl, rfl, by decide +kernel, rfl, by decide +kernel, by decide +kernel⟩
theorem ok__law_walk (T : Tx P K mg Z)  : FnD P w K mg base Z "_law_walk" t__law_walk ["_law_line_here"] g__law_walk 2 := by
  have nd := (sc__law_walk).nd
  have hZ := T.hZ
  refine fnd T.d__law_walk sc__law_walk fun f cdv A outer s H E hr => ?_
  unfold d__law_walk
  exact ss_cons (s_asg (e_tup (a_cons (e_str (by first | rfl | decide +kernel)) (a_cons (e_str (by first | rfl | decide +kernel)) (a_nil)))) (g_tup rfl hZ (gs_cons (g_name nd rfl (Or.inl rfl)) (gs_cons (g_name nd rfl (Or.inl rfl)) (gs_nil))))) (ss_cons (s_for (passes_of rfl) rfl (i_enum rfl T.b_enumerate (a_cons (v_ 0) (a_nil))) (g_tup rfl hZ (gs_cons (g_name nd rfl (Or.inl rfl)) (gs_cons (g_name nd rfl (Or.inl rfl)) (gs_nil)))) (ss_cons (s_par3 rfl nd rfl rfl rfl (by decide) (by decide) (by decide) rfl rfl rfl (a_cons (e_cmp (op_inD2 hZ) s2_R0 (v_ 4) (e_str (by first | rfl | decide +kernel)) nomark) (a_cons (e_cmp (op_inD2 hZ) s2_R0 (v_ 4) (e_str (by first | rfl | decide +kernel)) nomark) (a_cons (e_str (by first | rfl | decide +kernel)) (a_nil))))) (ss_cons (s_if (PW.pt (w_and (t_cmp (op_eqDD hZ hr.units) s2_R0 (v_ 1) (e_str (by first | rfl | decide +kernel)) nomark) (w_and1 (t_cmp (op_eqDD hZ hr.units) s2_R0 (v_ 4) (e_str (by first | rfl | decide +kernel)) nomark)))) (ss_one (s_set nd rfl (Or.inl rfl) (e_str (by first | rfl | decide +kernel)))) (ss_one (s_if (PW.pt (w_and (t_cmp (op_inD2 hZ) s2_R0 (v_ 1) (e_lst (a_cons (e_str (by first | rfl | decide +kernel)) (a_cons (e_str (by first | rfl | decide +kernel)) (a_nil)))) nomark) (w_and (t_val (v_ 5)) (w_and1 (t_cmp op_gtD s2_R0 (v_ 4) (v_ 2) nomark))))) (ss_one (s_par rfl nd rfl rfl (by decide) rfl rfl (a_cons (e_str (by first | rfl | decide +kernel)) (a_cons (v_ 4) (a_nil))))) (ss_one (s_if (PW.pt (w_and (t_cmp (op_eqDD hZ hr.units) s2_R0 (v_ 1) (e_str (by first | rfl | decide +kernel)) nomark) (w_and1 (t_cmp (op_eqDD hZ hr.units) s2_R0 (v_ 4) (e_str (by first | rfl | decide +kernel)) nomark)))) (ss_one (s_set nd rfl (Or.inl rfl) (e_str (by first | rfl | decide +kernel)))) (ss_one (s_if (PW.pt (w_and (t_cmp (op_eqDD hZ hr.units) s2_R0 (v_ 1) (e_str (by first | rfl | decide +kernel)) nomark) (w_and (t_val (v_ 6)) (w_and1 (t_cmp (op_neDD hZ hr.units) s2_R0 (v_ 4) (e_str (by first | rfl | decide +kernel)) nomark))))) (ss_one (s_set nd rfl (Or.inl rfl) (e_str (by first | rfl | decide +kernel)))) (ss_one (s_if (PW.pt (w_and (t_cmp (op_eqDD hZ hr.units) s2_R0 (v_ 1) (e_str (by first | rfl | decide +kernel)) nomark) (w_and1 (PW.pt (w_or (t_val (v_ 6)) (w_or (t_cmp (op_eqDD hZ hr.units) s2_R0 (v_ 4) (e_str (by first | rfl | decide +kernel)) nomark) (w_or1 (PW.pt (w_and (t_cmp (op_eqDD hZ hr.units) s2_R0 (v_ 4) (e_str (by first | rfl | decide +kernel)) nomark) (w_and1 (t_cmp (op_neDD hZ hr.units) s2_R0 (v_ 2) (e_str (by first | rfl | decide +kernel)) nomark))))))))))) (ss_one (s_set nd rfl (Or.inl rfl) (e_if (t_val (v_ 6)) (e_str (by first | rfl | decide +kernel)) (e_ix (ix_D hZ) s2_R0 (e_lst (a_cons (e_str (by first | rfl | decide +kernel)) (a_cons (e_str (by first | rfl | decide +kernel)) (a_nil)))) (e_callTy cr_int sc_RC0 rfl T.b_int bt_int (a_cons (e_cmp (op_eqDD hZ hr.units) s2_R0 (v_ 4) (e_str (by first | rfl | decide +kernel)) nomark) (a_nil))) plx)))) (ss_one (s_if (PW.pt (w_and (t_cmp (op_eqDD hZ hr.units) s2_R0 (v_ 1) (e_str (by first | rfl | decide +kernel)) nomark) (w_and1 (t_val (v_ 5))))) (ss_one (s_set nd rfl (Or.inl rfl) (e_str (by first | rfl | decide +kernel)))) (ss_nil)))))))))))) (ss_cons (s_if (t_cmp (op_eqDD hZ hr.units) s2_R0 (v_ 7) (e_str (by first | rfl | decide +kernel)) nomark) (ss_one (s_ret (e_tup (a_cons (v_ 3) (a_cons (v_ 1) (a_nil)))))) (ss_nil)) (ss_one (s_set nd rfl (Or.inl rfl) (v_ 7))))))) (ss_one (s_ret (e_tup (a_cons (e_callB (cr_len hZ) sc_RC0 rfl T.b_len bb_len (a_cons (v_ 0) (a_nil))) (a_cons (v_ 1) (a_nil)))))))
theorem sc_is_whole : FnScope N_is_whole ["value"] (defScope t_is_whole) := ⟨rfl, rfl, rfl, by decide +kernel, rfl, by decide +kernel, by decide +kernel⟩
theorem ok_is_whole (T : Tx P K mg Z)  : FnD P w K mg base Z "is_whole" t_is_whole ["value"] g_is_whole 2 := by
  have nd := (sc_is_whole).nd
  have hZ := T.hZ
  refine fnd T.d_is_whole sc_is_whole fun f cdv A outer s H E hr => ?_
  unfold d_is_whole
  exact ss_one (s_ret (e_and (e_isi hZ (by decide) rfl T.b_isinstance rfl T.b_int bt_int (v_ 0)) (e_one (e_not (e_isi hZ (by decide) rfl T.b_isinstance rfl T.b_bool bt_bool (v_ 0))))))
theorem sc_is_between : FnScope N_is_between ["value", "low", "high"] (defScope t_is_between) := ⟨rfl, rfl, rfl, by decide +kernel, rfl, by decide +kernel, by decide +kernel⟩
theorem ok_is_between (T : Tx P K mg Z) (F_is_whole : FnD P w K mg base Z "is_whole" t_is_whole ["value"] g_is_whole 2) : FnD P w K mg base Z "is_between" t_is_between ["value", "low", "high"] g_is_between 3 := by
  have nd := (sc_is_between).nd
  have hZ := T.hZ
  refine fnd T.d_is_between sc_is_between fun f cdv A outer s H E hr => ?_
  unfold d_is_between
  exact ss_cons (s_if (t_not (t_val (e_callF F_is_whole (hr.mono (by decide)) rfl (takes_of rfl rfl rfl rfl) (alen_cons (alen_nil)) (a_cons (v_ 0) (a_nil))))) (ss_one (s_ret (e_bl))) (ss_nil)) (ss_one (s_ret (e_and (e_or (e_cmp op_isD s2_R0 (v_ 1) (e_non) nomark) (e_one (e_cmp op_geD s2_R0 (v_ 0) (v_ 1) nomark))) (e_one (e_or (e_cmp op_isD s2_R0 (v_ 2) (e_non) nomark) (e_one (e_cmp op_leD s2_R0 (v_ 0) (v_ 2) nomark)))))))
theorem sc_is_letters_alone : FnScope N_is_letters_alone ["value"] (defScope t_is_letters_alone) := ⟨rfl, rfl, rfl, by decide +kernel, rfl, by decide +kernel, by decide +kernel⟩
theorem ok_is_letters_alone (T : Tx P K mg Z)  : FnD P w K mg base Z "is_letters_alone" t_is_letters_alone ["value"] g_is_letters_alone 2 := by
  have nd := (sc_is_letters_alone).nd
  have hZ := T.hZ
  refine fnd T.d_is_letters_alone sc_is_letters_alone fun f cdv A outer s H E hr => ?_
  unfold d_is_letters_alone
  exact ss_one (s_ret (e_and (e_isi hZ (by decide) rfl T.b_isinstance rfl T.b_str bt_str (v_ 0)) (e_one (e_cmp (op_eqDD hZ hr.units) s2_R0 (e_bm PySem.F.plainAttrs_str PySem.F.slot_str_strip PySem.F.type_str_strip mt_stripD sm_RM0 (v_ 0) (a_cons (e_gstr rfl T.c_LETTERS) (a_nil))) (e_str (by first | rfl | decide +kernel)) nomark))))
theorem sc_is_price : FnScope N_is_price ["value"] (defScope t_is_price) := ⟨rfl, rfl, rfl, by decide +kernel, rfl, by decide +kernel, by decide +kernel⟩
theorem ok_is_price (T : Tx P K mg Z) (F_is_between : FnD P w K mg base Z "is_between" t_is_between ["value", "low", "high"] g_is_between 3) (F_is_letters_alone : FnD P w K mg base Z "is_letters_alone" t_is_letters_alone ["value"] g_is_letters_alone 2) : FnD P w K mg base Z "is_price" t_is_price ["value"] g_is_price 4 := by
  have nd := (sc_is_price).nd
  have hZ := T.hZ
  refine fnd T.d_is_price sc_is_price fun f cdv A outer s H E hr => ?_
  unfold d_is_price
  exact ss_cons (s_if (PW.pt (w_or (t_not (t_val (e_isi hZ (by decide) rfl T.b_isinstance rfl T.b_tuple bt_tuple (v_ 0)))) (w_or (t_cmp (op_neDD hZ hr.units) s2_R0 (e_callB (cr_len hZ) sc_RC0 rfl T.b_len bb_len (a_cons (v_ 0) (a_nil))) (e_int) nomark) (w_or (t_not (t_val (e_callF F_is_letters_alone (hr.mono (by decide)) rfl (takes_of rfl rfl rfl rfl) (alen_cons (alen_nil)) (a_cons (e_ix (ix_D hZ) s2_R0 (v_ 0) (e_int) plx) (a_nil))))) (w_or1 (t_cmp (op_neDD hZ hr.units) s2_R0 (e_callB (cr_len hZ) sc_RC0 rfl T.b_len bb_len (a_cons (e_ix (ix_D hZ) s2_R0 (v_ 0) (e_int) plx) (a_nil))) (e_int) nomark)))))) (ss_one (s_ret (e_bl))) (ss_nil)) (ss_one (s_ret (e_callF F_is_between (hr.mono (by decide)) rfl (takes_of rfl rfl rfl rfl) (alen_cons (alen_cons (alen_cons (alen_nil)))) (a_cons (e_ix (ix_D hZ) s2_R0 (v_ 0) (e_int) plx) (a_cons (e_int) (a_cons (e_non) (a_nil)))))))
theorem sc_rises : FnScope N_rises ["letters"] (defScope t_rises) := ⟨rfl, rfl, rfl, by decide +kernel, rfl, by decide +kernel, by decide +kernel⟩
theorem ok_rises (T : Tx P K mg Z)  : FnD P w K mg base Z "rises" t_rises ["letters"] g_rises 2 := by
  have nd := (sc_rises).nd
  have hZ := T.hZ
  refine fnd T.d_rises sc_rises fun f cdv A outer s H E hr => ?_
  unfold d_rises
  exact ss_one (s_ret (e_cmp (op_eqDD hZ hr.units) s2_R0 (e_lc (own := [("at", 1)]) rfl nd (i_range2 rfl T.b_range (a_cons (e_int) (a_cons (e_callB (cr_len hZ) sc_RC0 rfl T.b_len bb_len (a_cons (v_ 0) (a_nil))) (a_nil)))) (blkOk_by (N := N_rises) (sc := defScope t_rises) (by decide +kernel)) (bin_name (by decide)) (fun _ _ _ _ _ => g_name nd rfl (Or.inl rfl)) (fun _ _ _ _ _ => c_one (t_cmp op_geD s2_R0 (e_ix (ix_D hZ) s2_R0 (v_ 0) (e_bin op_subD s2_R0 (v_ 1) (e_int)) plx) (e_ix (ix_D hZ) s2_R0 (v_ 0) (v_ 1) plx) nomark)) (fun _ _ _ _ _ => v_ 1)) (e_lst (a_nil)) nomark))
theorem sc_is_price_list : FnScope N_is_price_list ["value"] (defScope t_is_price_list) := ⟨rfl, rfl, rfl, by decide +kernel, rfl, by decide +kernel, by decide +kernel⟩
theorem ok_is_price_list (T : Tx P K mg Z) (F_is_price : FnD P w K mg base Z "is_price" t_is_price ["value"] g_is_price 4) (F_rises : FnD P w K mg base Z "rises" t_rises ["letters"] g_rises 2) : FnD P w K mg base Z "is_price_list" t_is_price_list ["value"] g_is_price_list 5 := by
  have nd := (sc_is_price_list).nd
  have hZ := T.hZ
  refine fnd T.d_is_price_list sc_is_price_list fun f cdv A outer s H E hr => ?_
  unfold d_is_price_list
  exact ss_cons (s_if (PW.pt (w_or (t_not (t_val (e_isi hZ (by decide) rfl T.b_isinstance rfl T.b_list bt_list (v_ 0)))) (w_or1 (t_cmp (op_neDD hZ hr.units) s2_R0 (e_lc (own := [("item", 1)]) rfl nd (i_val hZ (v_ 0)) (blkOk_by (N := N_is_price_list) (sc := defScope t_is_price_list) (by decide +kernel)) (bin_name (by decide)) (fun _ _ _ _ _ => g_name nd rfl (Or.inl rfl)) (fun _ _ _ _ _ => c_one (t_not (t_val (e_callF F_is_price (hr.mono (by decide)) rfl takes0 (alen_cons (alen_nil)) (a_cons (v_ 1) (a_nil)))))) (fun _ _ _ _ _ => v_ 1)) (e_lst (a_nil)) nomark)))) (ss_one (s_ret (e_bl))) (ss_nil)) (ss_one (s_ret (e_callF F_rises (hr.mono (by decide)) rfl (takes_of rfl rfl rfl rfl) (alen_cons (alen_nil)) (a_cons (e_lc (own := [("letter", 2), ("_", 3)]) rfl nd (i_val hZ (v_ 0)) (blkOk_by (N := N_is_price_list) (sc := defScope t_is_price_list) (by decide +kernel)) (bin_tup (bsin_cons (bin_name (by decide)) (bsin_cons (bin_name (by decide)) (bsin_nil)))) (fun _ _ _ _ _ => g_tup rfl hZ (gs_cons (g_name nd rfl (Or.inl rfl)) (gs_cons (g_name nd rfl (Or.inl rfl)) (gs_nil)))) (fun _ _ _ _ _ => c_nil) (fun _ _ _ _ _ => v_ 2)) (a_nil)))))
theorem sc_check_prices : FnScope N_check_prices ["prices"] (defScope t_check_prices) := ⟨rfl, rfl, rfl, by decide +kernel, rfl, by decide +kernel, by decide +kernel⟩
theorem ok_check_prices (T : Tx P K mg Z) (F_is_price_list : FnD P w K mg base Z "is_price_list" t_is_price_list ["value"] g_is_price_list 5) : FnD P w K mg base Z "check_prices" t_check_prices ["prices"] g_check_prices 6 := by
  have nd := (sc_check_prices).nd
  have hZ := T.hZ
  refine fnd T.d_check_prices sc_check_prices fun f cdv A outer s H E hr => ?_
  unfold d_check_prices
  exact ss_one (s_if (t_not (t_val (e_callF F_is_price_list (hr.mono (by decide)) rfl (takes_of rfl rfl rfl rfl) (alen_cons (alen_nil)) (a_cons (v_ 0) (a_nil))))) (ss_one (s_raise rfl T.x_InvalidPrices hr (by decide) (takes_of rfl rfl rfl rfl) rfl T.k_InvalidPrices (v_ 0))) (ss_nil))
theorem sc_check_word : FnScope N_check_word ["word"] (defScope t_check_word) := ⟨rfl, rfl, rfl, by decide +kernel, rfl, by decide +kernel, by decide +kernel⟩
theorem ok_check_word (T : Tx P K mg Z) (F_is_letters_alone : FnD P w K mg base Z "is_letters_alone" t_is_letters_alone ["value"] g_is_letters_alone 2) : FnD P w K mg base Z "check_word" t_check_word ["word"] g_check_word 3 := by
  have nd := (sc_check_word).nd
  have hZ := T.hZ
  refine fnd T.d_check_word sc_check_word fun f cdv A outer s H E hr => ?_
  unfold d_check_word
  exact ss_one (s_if (t_not (t_val (e_callF F_is_letters_alone (hr.mono (by decide)) rfl (takes_of rfl rfl rfl rfl) (alen_cons (alen_nil)) (a_cons (v_ 0) (a_nil))))) (ss_one (s_raise rfl T.x_InvalidWord hr (by decide) (takes_of rfl rfl rfl rfl) rfl T.k_InvalidWord (v_ 0))) (ss_nil))
theorem sc_line_of : FnScope N_line_of ["prices", "word"] (defScope t_line_of) := ⟨rfl, rfl, rfl, by decide +kernel, rfl, by decide +kernel, by decide +kernel⟩
theorem ok_line_of (T : Tx P K mg Z) (F_check_prices : FnD P w K mg base Z "check_prices" t_check_prices ["prices"] g_check_prices 6) (F_check_word : FnD P w K mg base Z "check_word" t_check_word ["word"] g_check_word 3) : FnD P w K mg base Z "line_of" t_line_of ["prices", "word"] g_line_of 7 := by
  have nd := (sc_line_of).nd
  have hZ := T.hZ
  refine fnd T.d_line_of sc_line_of fun f cdv A outer s H E hr => ?_
  unfold d_line_of
  exact ss_cons (s_expr (e_callF F_check_prices (hr.mono (by decide)) rfl (takes_of rfl rfl rfl rfl) (alen_cons (alen_nil)) (a_cons (v_ 0) (a_nil)))) (ss_cons (s_expr (e_callF F_check_word (hr.mono (by decide)) rfl (takes_of rfl rfl rfl rfl) (alen_cons (alen_nil)) (a_cons (v_ 1) (a_nil)))) (ss_one (s_ret (e_bin (op_addD hZ) s2_R0 (e_bin (op_addD hZ) s2_R0 (e_bm PySem.F.plainAttrs_str PySem.F.slot_str_join PySem.F.type_str_join mt_joinD sm_RM0 (e_str (by first | rfl | decide +kernel)) (a_cons (e_lc (own := [("letter", 2), ("price", 3)]) rfl nd (i_val hZ (v_ 0)) (blkOk_by (N := N_line_of) (sc := defScope t_line_of) (by decide +kernel)) (bin_tup (bsin_cons (bin_name (by decide)) (bsin_cons (bin_name (by decide)) (bsin_nil)))) (fun _ _ _ _ _ => g_tup rfl hZ (gs_cons (g_name nd rfl (Or.inl rfl)) (gs_cons (g_name nd rfl (Or.inl rfl)) (gs_nil)))) (fun _ _ _ _ _ => c_nil) (fun _ _ _ _ _ => e_bin (op_addD hZ) s2_R0 (e_bin (op_addD hZ) s2_R0 (v_ 2) (e_str (by first | rfl | decide +kernel))) (e_callTy cr_str sc_RC0 rfl T.b_str bt_str (a_cons (v_ 3) (a_nil))))) (a_nil))) (e_str (by first | rfl | decide +kernel))) (v_ 1)))))
theorem sc_next_state : FnScope N_next_state ["state", "last", "sign"] (defScope t_next_state) := ⟨rfl, rfl, rfl, by decide +kernel, rfl, by decide +kernel, by decide +kernel⟩
theorem ok_next_state (T : Tx P K mg Z)  : FnD P w K mg base Z "next_state" t_next_state ["state", "last", "sign"] g_next_state 2 := by
  have nd := (sc_next_state).nd
  have hZ := T.hZ
  refine fnd T.d_next_state sc_next_state fun f cdv A outer s H E hr => ?_
  unfold d_next_state
  exact ss_cons (s_if (t_cmp (op_inD2 hZ) s2_R0 (v_ 0) (e_tup (a_cons (e_gint rfl T.c_START) (a_cons (e_gint rfl T.c_COMMA) (a_nil)))) nomark) (ss_cons (s_if (PW.pt (w_and (t_cmp (op_eqDD hZ hr.units) s2_R0 (v_ 0) (e_gint rfl T.c_START) nomark) (w_and1 (t_cmp (op_eqDD hZ hr.units) s2_R0 (v_ 2) (e_str (by first | rfl | decide +kernel)) nomark)))) (ss_one (s_ret (e_gint rfl T.c_WORD))) (ss_nil)) (ss_one (s_ret (e_if (PW.pt (w_and (t_cmp (op_inD2 hZ) s2_R0 (v_ 2) (e_gstr rfl T.c_LETTERS) nomark) (w_and1 (t_cmp op_gtD s2_R0 (v_ 2) (v_ 1) nomark)))) (e_gint rfl T.c_LETTER) (e_non))))) (ss_nil)) (ss_cons (s_if (t_cmp (op_eqDD hZ hr.units) s2_R0 (v_ 0) (e_gint rfl T.c_LETTER) nomark) (ss_one (s_ret (e_if (t_cmp (op_eqDD hZ hr.units) s2_R0 (v_ 2) (e_str (by first | rfl | decide +kernel)) nomark) (e_gint rfl T.c_EQUAL) (e_non)))) (ss_nil)) (ss_cons (s_if (t_cmp (op_eqDD hZ hr.units) s2_R0 (v_ 0) (e_gint rfl T.c_EQUAL) nomark) (ss_one (s_ret (e_if (PW.pt (w_and (t_cmp (op_inD2 hZ) s2_R0 (v_ 2) (e_gstr rfl T.c_FIGURES) nomark) (w_and1 (t_cmp (op_neDD hZ hr.units) s2_R0 (v_ 2) (e_str (by first | rfl | decide +kernel)) nomark)))) (e_gint rfl T.c_FIGURED) (e_non)))) (ss_nil)) (ss_cons (s_if (t_cmp (op_eqDD hZ hr.units) s2_R0 (v_ 0) (e_gint rfl T.c_WORD) nomark) (ss_one (s_ret (e_if (t_cmp (op_inD2 hZ) s2_R0 (v_ 2) (e_gstr rfl T.c_LETTERS) nomark) (e_gint rfl T.c_WORD) (e_non)))) (ss_nil)) (ss_cons (s_if (t_cmp (op_inD2 hZ) s2_R0 (v_ 2) (e_gstr rfl T.c_FIGURES) nomark) (ss_one (s_ret (e_gint rfl T.c_FIGURED))) (ss_nil)) (ss_cons (s_if (t_cmp (op_eqDD hZ hr.units) s2_R0 (v_ 2) (e_str (by first | rfl | decide +kernel)) nomark) (ss_one (s_ret (e_if (t_cmp (op_neDD hZ hr.units) s2_R0 (v_ 1) (e_ix (ix_D hZ) s2_R0 (e_gstr rfl T.c_LETTERS) (e_un un_neg s1_neg (e_int)) plx) nomark) (e_gint rfl T.c_COMMA) (e_non)))) (ss_nil)) (ss_one (s_ret (e_if (t_cmp (op_eqDD hZ hr.units) s2_R0 (v_ 2) (e_str (by first | rfl | decide +kernel)) nomark) (e_gint rfl T.c_WORD) (e_non)))))))))
theorem sc_right_size : FnScope N_right_size ["line"] (defScope t_right_size) := ⟨rfl, rfl, rfl, by decide +kernel, rfl, by decide +kernel, by decide +kernel⟩
theorem ok_right_size (T : Tx P K mg Z) (F_next_state : FnD P w K mg base Z "next_state" t_next_state ["state", "last", "sign"] g_next_state 2) : FnD P w K mg base Z "right_size" t_right_size ["line"] g_right_size 3 := by
  have nd := (sc_right_size).nd
  have hZ := T.hZ
  refine fnd T.d_right_size sc_right_size fun f cdv A outer s H E hr => ?_
  unfold d_right_size
  exact ss_cons (s_par rfl nd rfl rfl (by decide) rfl rfl (a_cons (e_gint rfl T.c_START) (a_cons (e_str (by first | rfl | decide +kernel)) (a_nil)))) (ss_cons (s_for (passes_of rfl) rfl (i_enum rfl T.b_enumerate (a_cons (v_ 0) (a_nil))) (g_tup rfl hZ (gs_cons (g_name nd rfl (Or.inl rfl)) (gs_cons (g_name nd rfl (Or.inl rfl)) (gs_nil)))) (ss_cons (s_set nd rfl (Or.inl rfl) (e_callF F_next_state (hr.mono (by decide)) rfl (takes_of rfl rfl rfl rfl) (alen_cons (alen_cons (alen_cons (alen_nil)))) (a_cons (v_ 1) (a_cons (v_ 2) (a_cons (v_ 4) (a_nil)))))) (ss_cons (s_if (t_cmp op_isD s2_R0 (v_ 5) (e_non) nomark) (ss_one (s_ret (e_tup (a_cons (v_ 3) (a_cons (v_ 1) (a_nil)))))) (ss_nil)) (ss_one (s_par rfl nd rfl rfl (by decide) rfl rfl (a_cons (v_ 5) (a_cons (e_if (t_cmp (op_eqDD hZ hr.units) s2_R0 (v_ 5) (e_gint rfl T.c_LETTER) nomark) (v_ 4) (v_ 2)) (a_nil)))))))) (ss_one (s_ret (e_tup (a_cons (e_callB (cr_len hZ) sc_RC0 rfl T.b_len bb_len (a_cons (v_ 0) (a_nil))) (a_cons (v_ 1) (a_nil)))))))
theorem sc_of_line : FnScope N_of_line ["line"] (defScope t_of_line) := ⟨rfl, rfl, rfl, by decide +kernel, rfl, by decide +kernel, by decide +kernel⟩
theorem ok_of_line (T : Tx P K mg Z) (F_is_letters_alone : FnD P w K mg base Z "is_letters_alone" t_is_letters_alone ["value"] g_is_letters_alone 2) (F_is_price_list : FnD P w K mg base Z "is_price_list" t_is_price_list ["value"] g_is_price_list 5) (F_right_size : FnD P w K mg base Z "right_size" t_right_size ["line"] g_right_size 3) : FnD P w K mg base Z "of_line" t_of_line ["line"] g_of_line 6 := by
  have nd := (sc_of_line).nd
  have hZ := T.hZ
  refine fnd T.d_of_line sc_of_line fun f cdv A outer s H E hr => ?_
  unfold d_of_line
  exact ss_cons (s_if (PW.pt (w_or (t_not (t_val (e_isi hZ (by decide) rfl T.b_isinstance rfl T.b_str bt_str (v_ 0)))) (w_or1 (t_cmp (op_neDD hZ hr.units) s2_R0 (e_callF F_right_size (hr.mono (by decide)) rfl (takes_of rfl rfl rfl rfl) (alen_cons (alen_nil)) (a_cons (v_ 0) (a_nil))) (e_tup (a_cons (e_callB (cr_len hZ) sc_RC0 rfl T.b_len bb_len (a_cons (v_ 0) (a_nil))) (a_cons (e_gint rfl T.c_WORD) (a_nil)))) nomark)))) (ss_one (s_raise rfl T.x_InvalidLine hr (by decide) (takes_of rfl rfl rfl rfl) rfl T.k_InvalidLine (v_ 0))) (ss_nil)) (ss_cons (s_asg (e_bm PySem.F.plainAttrs_str PySem.F.slot_str_split PySem.F.type_str_split mt_splitD sm_RM0 (v_ 0) (a_cons (e_str (by first | rfl | decide +kernel)) (a_nil))) (g_tup rfl hZ (gs_cons (g_name nd rfl (Or.inl rfl)) (gs_cons (g_name nd rfl (Or.inl rfl)) (gs_nil))))) (ss_cons (s_set nd rfl (Or.inl rfl) (e_if (t_cmp (op_neDD hZ hr.units) s2_R0 (v_ 1) (e_str (by first | rfl | decide +kernel)) nomark) (e_lc (own := [("part", 4)]) rfl nd (i_val hZ (e_bm PySem.F.plainAttrs_str PySem.F.slot_str_split PySem.F.type_str_split mt_splitD sm_RM0 (v_ 1) (a_cons (e_str (by first | rfl | decide +kernel)) (a_nil)))) (blkOk_by (N := N_of_line) (sc := defScope t_of_line) (by decide +kernel)) (bin_name (by decide)) (fun _ _ _ _ _ => g_name nd rfl (Or.inl rfl)) (fun _ _ _ _ _ => c_nil) (fun _ _ _ _ _ => e_tup (a_cons (e_ix (ix_D hZ) s2_R0 (v_ 4) (e_int) plx) (a_cons (e_callTy cr_int sc_RC0 rfl T.b_int bt_int (a_cons (e_slice (sl_D hZ) ss_RS0 (v_ 4) (o_some (e_int)) (o_none)) (a_nil))) (a_nil))))) (e_lst (a_nil)))) (ss_cons (s_if (PW.pt (w_or (t_not (t_val (e_callF F_is_price_list (hr.mono (by decide)) rfl (takes_of rfl rfl rfl rfl) (alen_cons (alen_nil)) (a_cons (v_ 3) (a_nil))))) (w_or1 (t_not (t_val (e_callF F_is_letters_alone (hr.mono (by decide)) rfl (takes_of rfl rfl rfl rfl) (alen_cons (alen_nil)) (a_cons (v_ 2) (a_nil)))))))) (ss_one (s_raise rfl T.x_InvalidLine hr (by decide) (takes_of rfl rfl rfl rfl) rfl T.k_InvalidLine (v_ 0))) (ss_nil)) (ss_one (s_ret (e_tup (a_cons (v_ 3) (a_cons (v_ 2) (a_nil)))))))))
theorem sc_right_part : FnScope N_right_part ["line"] (defScope t_right_part) := ⟨rfl, rfl, rfl, by decide +kernel, rfl, by decide +kernel, by decide +kernel⟩
theorem ok_right_part (T : Tx P K mg Z) (F_right_size : FnD P w K mg base Z "right_size" t_right_size ["line"] g_right_size 3) : FnD P w K mg base Z "right_part" t_right_part ["line"] g_right_part 4 := by
  have nd := (sc_right_part).nd
  have hZ := T.hZ
  refine fnd T.d_right_part sc_right_part fun f cdv A outer s H E hr => ?_
  unfold d_right_part
  exact ss_cons (s_if (PW.pt (w_or (t_not (t_val (e_isi hZ (by decide) rfl T.b_isinstance rfl T.b_str bt_str (v_ 0)))) (w_or1 (t_cmp op_gtD s2_R0 (e_callB (cr_len hZ) sc_RC0 rfl T.b_len bb_len (a_cons (v_ 0) (a_nil))) (e_gint rfl T.c_MOST_SIGNS) nomark)))) (ss_one (s_raise rfl T.x_InvalidLine hr (by decide) (takes_of rfl rfl rfl rfl) rfl T.k_InvalidLine (v_ 0))) (ss_nil)) (ss_one (s_ret (e_slice (sl_D hZ) ss_RS0 (v_ 0) (o_none) (o_some (e_ix (ix_D hZ) s2_R0 (e_callF F_right_size (hr.mono (by decide)) rfl (takes_of rfl rfl rfl rfl) (alen_cons (alen_nil)) (a_cons (v_ 0) (a_nil))) (e_int) plx)))))
theorem sc__law_line_right : FnScope N__law_line_right ["_law_line_here", "_law_due"] (defScope t__law_line_right) := ⟨rfl, rfl, rfl, by decide +kernel, rfl, by decide +kernel, by decide +kernel⟩
theorem ok__law_line_right (T : Tx P K mg Z) (F__law_walk : FnD P w K mg base Z "_law_walk" t__law_walk ["_law_line_here"] g__law_walk 2) (F_line_of : FnD P w K mg base Z "line_of" t_line_of ["prices", "word"] g_line_of 7) (F_of_line : FnD P w K mg base Z "of_line" t_of_line ["line"] g_of_line 6) (F_right_part : FnD P w K mg base Z "right_part" t_right_part ["line"] g_right_part 4) : FnD P w K mg base Z "_law_line_right" t__law_line_right ["_law_line_here", "_law_due"] g__law_line_right 8 := by
  have nd := (sc__law_line_right).nd
  have hZ := T.hZ
  refine fnd T.d__law_line_right sc__law_line_right fun f cdv A outer s H E hr => ?_
  unfold d__law_line_right
  exact ss_cons (s_asg (e_callF F__law_walk (hr.mono (by decide)) rfl (takes_of rfl rfl rfl rfl) (alen_cons (alen_nil)) (a_cons (v_ 0) (a_nil))) (g_tup rfl hZ (gs_cons (g_name nd rfl (Or.inl rfl)) (gs_cons (g_name nd rfl (Or.inl rfl)) (gs_nil))))) (ss_cons (s_if (PW.pt (w_or (t_cmp (op_neDD hZ hr.units) s2_R0 (e_callF F_right_part (hr.mono (by decide)) rfl (takes_of rfl rfl rfl rfl) (alen_cons (alen_nil)) (a_cons (v_ 0) (a_nil))) (e_slice (sl_D hZ) ss_RS0 (v_ 0) (o_none) (o_some (v_ 2))) nomark) (w_or1 (t_cmp (op_neDD hZ hr.units) s2_R0 (e_callFK (ks := ["line"]) F_right_part (hr.mono (by decide)) rfl kb_right_part_0 (takes_of rfl rfl rfl rfl) (alen_cons (alen_nil)) rfl rfl (k_cons (v_ 0) (k_nil))) (e_slice (sl_D hZ) ss_RS0 (v_ 0) (o_none) (o_some (v_ 2))) nomark)))) (ss_one (s_ret (e_bl))) (ss_nil)) (ss_cons (s_asg (e_tup (a_cons (e_non) (a_cons (e_non) (a_nil)))) (g_tup rfl hZ (gs_cons (g_name nd rfl (Or.inl rfl)) (gs_cons (g_name nd rfl (Or.inl rfl)) (gs_nil))))) (ss_cons (s_try rfl rfl nd rfl rfl ⟨rfl, by decide, Or.inl T.k_InvalidLine⟩ (takes_of rfl rfl rfl rfl) T.e_InvalidLine (fun W pn xe tk po => ss_one (s_set nd rfl (Or.inl rfl) (e_callF F_of_line (hr.mono (by decide)) rfl tk (alen_cons (alen_nil)) (a_cons (v_ 0) (a_nil))))) (fun a pn => ss_one (s_set nd rfl (Or.inl rfl) (v_ 6)))) (ss_cons (s_if (PW.pt (w_or (t_cmp op_ltD s2_R0 (v_ 2) (e_callB (cr_len hZ) sc_RC0 rfl T.b_len bb_len (a_cons (v_ 0) (a_nil))) nomark) (w_or1 (t_cmp (op_neDD hZ hr.units) s2_R0 (v_ 3) (e_str (by first | rfl | decide +kernel)) nomark)))) (ss_one (s_ret (e_and (e_cmp op_isNotD s2_R0 (v_ 4) (e_non) nomark) (e_one (e_cmp (op_eqDD hZ hr.units) s2_R0 (e_xv T.xcs (v_ 4)) (v_ 0) nomark))))) (ss_nil)) (ss_cons (s_if (PW.pt (w_or (t_cmp op_isNotD s2_R0 (v_ 4) (e_non) nomark) (w_or (t_not (t_val (e_isi hZ (by decide) rfl T.b_isinstance rfl T.b_tuple bt_tuple (v_ 5)))) (w_or1 (t_cmp (op_neDD hZ hr.units) s2_R0 (e_callF F_line_of (hr.mono (by decide)) rfl (takes_of rfl rfl rfl rfl) (alen_cons (alen_cons (alen_nil))) (a_cons (e_ix (ix_D hZ) s2_R0 (v_ 5) (e_int) plx) (a_cons (e_ix (ix_D hZ) s2_R0 (v_ 5) (e_int) plx) (a_nil)))) (v_ 0) nomark))))) (ss_one (s_ret (e_bl))) (ss_nil)) (ss_cons (s_if (PW.pt (w_and (t_cmp op_isNotD s2_R0 (v_ 1) (e_non) nomark) (w_and1 (t_cmp (op_neDD hZ hr.units) s2_R0 (v_ 5) (v_ 1) nomark)))) (ss_one (s_ret (e_bl))) (ss_nil)) (ss_cons (s_expr (e_bm PySem.F.plainAttrs_list PySem.F.slot_list_append PySem.F.type_list_append mt_appendD sm_RM0 (e_ix (ix_D hZ) s2_R0 (v_ 5) (e_int) plx) (a_cons (e_non) (a_nil)))) (ss_one (s_ret (e_cmp (op_eqDD hZ hr.units) s2_R0 (e_callFK (ks := ["prices", "word"]) F_line_of (hr.mono (by decide)) rfl kb_line_of_01 (takes_of rfl rfl rfl rfl) (alen_cons (alen_cons (alen_nil))) rfl rfl (k_cons (e_ix (ix_D hZ) s2_R0 (e_callFK (ks := ["line"]) F_of_line (hr.mono (by decide)) rfl kb_of_line_0 (takes_of rfl rfl rfl rfl) (alen_cons (alen_nil)) rfl rfl (k_cons (v_ 0) (k_nil))) (e_int) plx) (k_cons (e_ix (ix_D hZ) s2_R0 (e_callF F_of_line (hr.mono (by decide)) rfl (takes_of rfl rfl rfl rfl) (alen_cons (alen_nil)) (a_cons (v_ 0) (a_nil))) (e_int) plx) (k_nil)))) (v_ 0) nomark))))))))))
theorem sc__law_hash : FnScope N__law_hash ["_law_seed", "_law_index"] (defScope t__law_hash) := ⟨rfl, rfl, rfl, by decide +kernel, rfl, by decide +kernel, by decide +kernel⟩
theorem ok__law_hash (T : Tx P K mg Z)  : FnD P w K mg base Z "_law_hash" t__law_hash ["_law_seed", "_law_index"] g__law_hash 2 := by
  have nd := (sc__law_hash).nd
  have hZ := T.hZ
  refine fnd T.d__law_hash sc__law_hash fun f cdv A outer s H E hr => ?_
  unfold d__law_hash
  exact ss_cons (s_set nd rfl (Or.inl rfl) (e_bin op_modD s2_R0 (e_callTy cr_int sc_RC0 rfl T.b_int bt_int (a_cons (e_bin (op_addD hZ) s2_R0 (e_bin (op_addD hZ) s2_R0 (e_bin (op_addD hZ) s2_R0 (e_bin op_mulD s2_R0 (v_ 0) (e_int)) (e_bin op_mulD s2_R0 (e_bin op_mulD s2_R0 (e_int) (v_ 1)) (v_ 1))) (e_bin op_mulD s2_R0 (e_int) (v_ 1))) (e_int)) (a_nil))) (e_int))) (ss_cons (s_set nd rfl (Or.inl rfl) (e_bin op_modD s2_R0 (e_callTy cr_int sc_RC0 rfl T.b_int bt_int (a_cons (e_bin (op_addD hZ) s2_R0 (e_bin (op_addD hZ) s2_R0 (e_bin op_mulD s2_R0 (v_ 2) (v_ 2)) (e_bin op_mulD s2_R0 (e_int) (v_ 1))) (e_int)) (a_nil))) (e_int))) (ss_one (s_ret (e_bin op_modD s2_R0 (e_callTy cr_int sc_RC0 rfl T.b_int bt_int (a_cons (e_bin op_mulD s2_R0 (v_ 2) (e_int)) (a_nil))) (e_int)))))
theorem sc__law_random : FnScope N__law_random ["_law_generator_here", "_law_bound"] (defScope t__law_random) := ⟨rfl, rfl, rfl, by decide +kernel, rfl, by decide +kernel, by decide +kernel⟩
theorem ok__law_random (T : Tx P K mg Z) (F__law_hash : FnD P w K mg base Z "_law_hash" t__law_hash ["_law_seed", "_law_index"] g__law_hash 2) : FnD P w K mg base Z "_law_random" t__law_random ["_law_generator_here", "_law_bound"] g__law_random 3 := by
  have nd := (sc__law_random).nd
  have hZ := T.hZ
  refine fnd T.d__law_random sc__law_random fun f cdv A outer s H E hr => ?_
  unfold d__law_random
  exact ss_cons (s_if (t_cmp op_gtD s2_R0 (e_ix (ix_D hZ) s2_R0 (v_ 0) (e_int) plx) (e_int) nomark) (ss_cons (s_set nd rfl (Or.inl rfl) (e_bin op_modD s2_R0 (e_callTy cr_int sc_RC0 rfl T.b_int bt_int (a_cons (e_ix (ix_D hZ) s2_R0 (v_ 0) (e_int) plx) (a_nil))) (v_ 1))) (ss_cons (s_setI (e_bin op_fdivD s2_R0 (e_ix (ix_D hZ) s2_R0 (v_ 0) (e_int) plx) (v_ 1)) (v_ 0) (e_int)) (ss_one (s_ret (v_ 2))))) (ss_nil)) (ss_cons (s_set nd rfl (Or.inl rfl) (e_int)) (ss_cons (s_for (passes_of rfl) rfl (i_range1 rfl T.b_range (a_cons (e_bin (op_addD hZ) s2_R0 (e_int) (e_bin op_fdivD s2_R0 (e_bits (v_ 1)) (e_int))) (a_nil))) (g_name nd rfl (Or.inl rfl)) (ss_cons (s_setI (e_bin (op_addD hZ) s2_R0 (e_ix (ix_D hZ) s2_R0 (v_ 0) (e_int) plx) (e_int)) (v_ 0) (e_int)) (ss_one (s_set nd rfl (Or.inl rfl) (e_bin (op_addD hZ) s2_R0 (e_bin op_mulD s2_R0 (v_ 2) (e_int)) (e_callF F__law_hash (hr.mono (by decide)) rfl (takes_of rfl rfl rfl rfl) (alen_cons (alen_cons (alen_nil))) (a_cons (e_ix (ix_D hZ) s2_R0 (v_ 0) (e_int) plx) (a_cons (e_ix (ix_D hZ) s2_R0 (v_ 0) (e_int) plx) (a_nil))))))))) (ss_one (s_ret (e_bin op_modD s2_R0 (e_callTy cr_int sc_RC0 rfl T.b_int bt_int (a_cons (v_ 2) (a_nil))) (v_ 1))))))
theorem sc__law_bent : FnScope N__law_bent ["_law_generator_here", "_law_line_here"] (defScope t__law_bent) := ⟨rfl, rfl, rfl, by decide +kernel, rfl, by decide +kernel, by decide +kernel⟩
theorem ok__law_bent (T : Tx P K mg Z) (F__law_random : FnD P w K mg base Z "_law_random" t__law_random ["_law_generator_here", "_law_bound"] g__law_random 3) : FnD P w K mg base Z "_law_bent" t__law_bent ["_law_generator_here", "_law_line_here"] g__law_bent 4 := by
  have nd := (sc__law_bent).nd
  have hZ := T.hZ
  refine fnd T.d__law_bent sc__law_bent fun f cdv A outer s H E hr => ?_
  unfold d__law_bent
  exact ss_cons (s_par rfl nd rfl rfl (by decide) rfl rfl (a_cons (e_callF F__law_random (hr.mono (by decide)) rfl (takes_of rfl rfl rfl rfl) (alen_cons (alen_cons (alen_nil))) (a_cons (v_ 0) (a_cons (e_callB (cr_len hZ) sc_RC0 rfl T.b_len bb_len (a_cons (v_ 1) (a_nil))) (a_nil)))) (a_cons (e_ix (ix_D hZ) s2_R0 (e_str (by first | rfl | decide +kernel)) (e_callF F__law_random (hr.mono (by decide)) rfl (takes_of rfl rfl rfl rfl) (alen_cons (alen_cons (alen_nil))) (a_cons (v_ 0) (a_cons (e_int) (a_nil)))) plx) (a_nil)))) (ss_cons (s_set nd rfl (Or.inl rfl) (e_lst (a_cons (e_bin (op_addD hZ) s2_R0 (e_bin (op_addD hZ) s2_R0 (e_slice (sl_D hZ) ss_RS0 (v_ 1) (o_none) (o_some (v_ 2))) (v_ 3)) (e_slice (sl_D hZ) ss_RS0 (v_ 1) (o_some (e_bin (op_addD hZ) s2_R0 (v_ 2) (e_int))) (o_none))) (a_cons (e_bin (op_addD hZ) s2_R0 (e_slice (sl_D hZ) ss_RS0 (v_ 1) (o_none) (o_some (v_ 2))) (e_slice (sl_D hZ) ss_RS0 (v_ 1) (o_some (e_bin (op_addD hZ) s2_R0 (v_ 2) (e_int))) (o_none))) (a_cons (e_bin (op_addD hZ) s2_R0 (e_bin (op_addD hZ) s2_R0 (e_slice (sl_D hZ) ss_RS0 (v_ 1) (o_none) (o_some (v_ 2))) (v_ 3)) (e_slice (sl_D hZ) ss_RS0 (v_ 1) (o_some (v_ 2)) (o_none))) (a_cons (e_slice (sl_D hZ) ss_RS0 (v_ 1) (o_none) (o_some (v_ 2))) (a_nil))))))) (ss_one (s_ret (e_bin (op_addD hZ) s2_R0 (v_ 4) (e_lst (a_cons (e_bin (op_addD hZ) s2_R0 (v_ 1) (v_ 3)) (a_cons (e_slice (sl_D hZ) ss_RS0 (v_ 1) (o_some (v_ 2)) (o_none)) (a_cons (e_bin (op_addD hZ) s2_R0 (e_slice (sl_D hZ) ss_RS0 (v_ 1) (o_none) (o_some (v_ 2))) (v_ 1)) (a_cons (e_bin (op_addD hZ) s2_R0 (v_ 1) (v_ 1)) (a_nil))))))))))
theorem sc__law_joints : FnScope N__law_joints ["_law_generator_here", "_law_letters_here"] (defScope t__law_joints) := ⟨rfl, rfl, rfl, by decide +kernel, rfl, by decide +kernel, by decide +kernel⟩
theorem ok__law_joints (T : Tx P K mg Z) (F__law_random : FnD P w K mg base Z "_law_random" t__law_random ["_law_generator_here", "_law_bound"] g__law_random 3) : FnD P w K mg base Z "_law_joints" t__law_joints ["_law_generator_here", "_law_letters_here"] g__law_joints 4 := by
  have nd := (sc__law_joints).nd
  have hZ := T.hZ
  refine fnd T.d__law_joints sc__law_joints fun f cdv A outer s H E hr => ?_
  unfold d__law_joints
  exact ss_one (s_ret (e_bm PySem.F.plainAttrs_str PySem.F.slot_str_join PySem.F.type_str_join mt_joinD sm_RM0 (e_str (by first | rfl | decide +kernel)) (a_cons (e_lc (own := [("_law_letter", 2)]) rfl nd (i_val hZ (v_ 1)) (blkOk_by (N := N__law_joints) (sc := defScope t__law_joints) (by decide +kernel)) (bin_name (by decide)) (fun _ _ _ _ _ => g_name nd rfl (Or.inl rfl)) (fun _ _ _ _ _ => c_one (t_cmp (op_eqDD hZ hr.units) s2_R0 (e_callF F__law_random (hr.mono (by decide)) rfl takes0 (alen_cons (alen_cons (alen_nil))) (a_cons (v_ 0) (a_cons (e_int) (a_nil)))) (e_int) nomark)) (fun _ _ _ _ _ => v_ 2)) (a_nil))))
theorem sc__law_letters : FnScope N__law_letters ["_law_generator_here", "_law_least", "_law_most"] (defScope t__law_letters) := ⟨rfl, rfl, rfl, by decide +kernel, rfl, by decide +kernel, by decide +kernel⟩
theorem ok__law_letters (T : Tx P K mg Z) (F__law_random : FnD P w K mg base Z "_law_random" t__law_random ["_law_generator_here", "_law_bound"] g__law_random 3) : FnD P w K mg base Z "_law_letters" t__law_letters ["_law_generator_here", "_law_least", "_law_most"] g__law_letters 4 := by
  have nd := (sc__law_letters).nd
  have hZ := T.hZ
  refine fnd T.d__law_letters sc__law_letters fun f cdv A outer s H E hr => ?_
  unfold d__law_letters
  exact ss_cons (s_par3 rfl nd rfl rfl rfl (by decide) (by decide) (by decide) rfl rfl rfl (a_cons (e_bin (op_addD hZ) s2_R0 (v_ 1) (e_callF F__law_random (hr.mono (by decide)) rfl (takes_of rfl rfl rfl rfl) (alen_cons (alen_cons (alen_nil))) (a_cons (v_ 0) (a_cons (e_bin (op_addD hZ) s2_R0 (e_bin op_subD s2_R0 (v_ 2) (v_ 1)) (e_int)) (a_nil))))) (a_cons (e_str (by first | rfl | decide +kernel)) (a_cons (e_bin op_subD s2_R0 (e_int) (e_int)) (a_nil))))) (ss_cons (s_for (passes_of rfl) rfl (i_range1 rfl T.b_range (a_cons (v_ 3) (a_nil))) (g_name nd rfl (Or.inl rfl)) (ss_cons (s_set nd rfl (Or.inl rfl) (e_bin (op_addD hZ) s2_R0 (e_bin (op_addD hZ) s2_R0 (v_ 5) (e_int)) (e_callF F__law_random (hr.mono (by decide)) rfl (takes_of rfl rfl rfl rfl) (alen_cons (alen_cons (alen_nil))) (a_cons (v_ 0) (a_cons (e_int) (a_nil)))))) (ss_one (s_set nd rfl (Or.inl rfl) (e_bin (op_addD hZ) s2_R0 (v_ 4) (e_ix (ix_D hZ) s2_R0 (e_str (by first | rfl | decide +kernel)) (v_ 5) plx)))))) (ss_one (s_ret (v_ 4))))
theorem sc__law_line : FnScope N__law_line ["_law_prices", "_law_word_here"] (defScope t__law_line) := ⟨rfl, rfl, rfl, by decide +kernel, rfl, by decide +kernel, by decide +kernel⟩
theorem ok__law_line (T : Tx P K mg Z)  : FnD P w K mg base Z "_law_line" t__law_line ["_law_prices", "_law_word_here"] g__law_line 2 := by
  have nd := (sc__law_line).nd
  have hZ := T.hZ
  refine fnd T.d__law_line sc__law_line fun f cdv A outer s H E hr => ?_
  unfold d__law_line
  exact ss_one (s_ret (e_bin (op_addD hZ) s2_R0 (e_bin (op_addD hZ) s2_R0 (e_bm PySem.F.plainAttrs_str PySem.F.slot_str_join PySem.F.type_str_join mt_joinD sm_RM0 (e_str (by first | rfl | decide +kernel)) (a_cons (e_lc (own := [("_law_letter", 2), ("_law_price", 3)]) rfl nd (i_val hZ (v_ 0)) (blkOk_by (N := N__law_line) (sc := defScope t__law_line) (by decide +kernel)) (bin_tup (bsin_cons (bin_name (by decide)) (bsin_cons (bin_name (by decide)) (bsin_nil)))) (fun _ _ _ _ _ => g_tup rfl hZ (gs_cons (g_name nd rfl (Or.inl rfl)) (gs_cons (g_name nd rfl (Or.inl rfl)) (gs_nil)))) (fun _ _ _ _ _ => c_nil) (fun _ _ _ _ _ => e_bin (op_addD hZ) s2_R0 (e_bin (op_addD hZ) s2_R0 (v_ 2) (e_str (by first | rfl | decide +kernel))) (e_callTy cr_str sc_RC0 rfl T.b_str bt_str (a_cons (v_ 3) (a_nil))))) (a_nil))) (e_str (by first | rfl | decide +kernel))) (v_ 1)))
theorem sc__law_word : FnScope N__law_word ["_law_generator_here", "_law_letters_here", "_law_size"] (defScope t__law_word) := ⟨rfl, rfl, rfl, by decide +kernel, rfl, by decide +kernel, by decide +kernel⟩
theorem ok__law_word (T : Tx P K mg Z) (F__law_random : FnD P w K mg base Z "_law_random" t__law_random ["_law_generator_here", "_law_bound"] g__law_random 3) : FnD P w K mg base Z "_law_word" t__law_word ["_law_generator_here", "_law_letters_here", "_law_size"] g__law_word 4 := by
  have nd := (sc__law_word).nd
  have hZ := T.hZ
  refine fnd T.d__law_word sc__law_word fun f cdv A outer s H E hr => ?_
  unfold d__law_word
  exact ss_one (s_ret (e_bm PySem.F.plainAttrs_str PySem.F.slot_str_join PySem.F.type_str_join mt_joinD sm_RM0 (e_str (by first | rfl | decide +kernel)) (a_cons (e_lc (own := [("_law_turn", 3)]) rfl nd (i_range1 rfl T.b_range (a_cons (v_ 2) (a_nil))) (blkOk_by (N := N__law_word) (sc := defScope t__law_word) (by decide +kernel)) (bin_name (by decide)) (fun _ _ _ _ _ => g_name nd rfl (Or.inl rfl)) (fun _ _ _ _ _ => c_nil) (fun _ _ _ _ _ => e_ix (ix_D hZ) s2_R0 (v_ 1) (e_callF F__law_random (hr.mono (by decide)) rfl takes0 (alen_cons (alen_cons (alen_nil))) (a_cons (v_ 0) (a_cons (e_callB (cr_len hZ) sc_RC0 rfl T.b_len bb_len (a_cons (v_ 1) (a_nil))) (a_nil)))) plx)) (a_nil))))
theorem sc__law_right : FnScope N__law_right ["_law_generator_here"] (defScope t__law_right) := ⟨rfl, rfl, rfl, by decide +kernel, rfl, by decide +kernel, by decide +kernel⟩
theorem ok__law_right (T : Tx P K mg Z) (F__law_bent : FnD P w K mg base Z "_law_bent" t__law_bent ["_law_generator_here", "_law_line_here"] g__law_bent 4) (F__law_joints : FnD P w K mg base Z "_law_joints" t__law_joints ["_law_generator_here", "_law_letters_here"] g__law_joints 4) (F__law_letters : FnD P w K mg base Z "_law_letters" t__law_letters ["_law_generator_here", "_law_least", "_law_most"] g__law_letters 4) (F__law_line : FnD P w K mg base Z "_law_line" t__law_line ["_law_prices", "_law_word_here"] g__law_line 2) (F__law_line_right : FnD P w K mg base Z "_law_line_right" t__law_line_right ["_law_line_here", "_law_due"] g__law_line_right 8) (F__law_random : FnD P w K mg base Z "_law_random" t__law_random ["_law_generator_here", "_law_bound"] g__law_random 3) (F__law_word : FnD P w K mg base Z "_law_word" t__law_word ["_law_generator_here", "_law_letters_here", "_law_size"] g__law_word 4) (F_line_of : FnD P w K mg base Z "line_of" t_line_of ["prices", "word"] g_line_of 7) : FnD P w K mg base Z "_law_right" t__law_right ["_law_generator_here"] g__law_right 9 := by
  have nd := (sc__law_right).nd
  have hZ := T.hZ
  refine fnd T.d__law_right sc__law_right fun f cdv A outer s H E hr => ?_
  unfold d__law_right
  exact ss_cons (s_set nd rfl (Or.inl rfl) (e_callF F__law_letters (hr.mono (by decide)) rfl (takes_of rfl rfl rfl rfl) (alen_cons (alen_cons (alen_cons (alen_nil)))) (a_cons (v_ 0) (a_cons (e_int) (a_cons (e_int) (a_nil)))))) (ss_cons (s_asg (e_tup (a_cons (e_callF F__law_joints (hr.mono (by decide)) rfl (takes_of rfl rfl rfl rfl) (alen_cons (alen_cons (alen_nil))) (a_cons (v_ 0) (a_cons (v_ 1) (a_nil)))) (a_cons (e_ix (ix_D hZ) s2_R0 (e_lst (a_cons (e_int) (a_cons (e_bin op_subD s2_R0 (e_bin op_powD s2_R0 (e_int) (e_int)) (e_int)) (a_nil)))) (e_callF F__law_random (hr.mono (by decide)) rfl (takes_of rfl rfl rfl rfl) (alen_cons (alen_cons (alen_nil))) (a_cons (v_ 0) (a_cons (e_int) (a_nil)))) plx) (a_nil)))) (g_tup rfl hZ (gs_cons (g_name nd rfl (Or.inl rfl)) (gs_cons (g_name nd rfl (Or.inr rfl)) (gs_nil))))) (ss_cons (s_setLc (i := 4) (own := [("_law_letter", 10)]) rfl nd rfl rfl (sw_true rfl rfl rfl (by decide +kernel)) (i_val hZ (v_ 2)) (blkOk_by (N := N__law_right) (sc := defScope t__law_right) (by decide +kernel)) (bin_name (by decide)) (fun _ _ _ _ _ => g_name nd rfl (Or.inl rfl)) (fun _ _ _ _ _ => c_nil) (fun _ _ _ _ _ => e_tup (a_cons (v_ 10) (a_cons (e_bin (op_addD hZ) s2_R0 (e_int) (e_callF F__law_random (hr.mono (by decide)) rfl takes0 (alen_cons (alen_cons (alen_nil))) (a_cons (v_ 0) (a_cons (v_ 3) (a_nil))))) (a_nil))))) (ss_cons (s_par rfl nd rfl rfl (by decide) rfl rfl (a_cons (e_callF F__law_word (hr.mono (by decide)) rfl (takes_of rfl rfl rfl rfl) (alen_cons (alen_cons (alen_cons (alen_nil)))) (a_cons (v_ 0) (a_cons (v_ 1) (a_cons (e_callF F__law_random (hr.mono (by decide)) rfl (takes_of rfl rfl rfl rfl) (alen_cons (alen_cons (alen_nil))) (a_cons (v_ 0) (a_cons (e_int) (a_nil)))) (a_nil))))) (a_cons (e_callTy (cr_list hZ) sc_RC0 rfl T.b_list bt_list (a_cons (v_ 4) (a_nil))) (a_nil)))) (ss_cons (s_set nd rfl (Or.inl rfl) (e_callF F__law_line (hr.mono (by decide)) rfl (takes_of rfl rfl rfl rfl) (alen_cons (alen_cons (alen_nil))) (a_cons (v_ 4) (a_cons (v_ 5) (a_nil))))) (ss_cons (s_if (PW.pt (w_or (t_cmp (op_neDD hZ hr.units) s2_R0 (e_callF F_line_of (hr.mono (by decide)) rfl (takes_of rfl rfl rfl rfl) (alen_cons (alen_cons (alen_nil))) (a_cons (v_ 4) (a_cons (v_ 5) (a_nil)))) (v_ 7) nomark) (w_or (t_cmp (op_neDD hZ hr.units) s2_R0 (e_callFK (ks := ["word", "prices"]) F_line_of (hr.mono (by decide)) rfl kb_line_of_10 (takes_of rfl rfl rfl rfl) (alen_cons (alen_cons (alen_nil))) rfl rfl (k_cons (v_ 5) (k_cons (v_ 4) (k_nil)))) (v_ 7) nomark) (w_or1 (t_cmp (op_neDD hZ hr.units) s2_R0 (v_ 4) (v_ 6) nomark))))) (ss_one (s_ret (e_bl))) (ss_nil)) (ss_cons (s_if (t_not (t_val (e_callF F__law_line_right (hr.mono (by decide)) rfl (takes_of rfl rfl rfl rfl) (alen_cons (alen_cons (alen_nil))) (a_cons (v_ 7) (a_cons (e_tup (a_cons (v_ 4) (a_cons (v_ 5) (a_nil)))) (a_nil)))))) (ss_one (s_ret (e_bl))) (ss_nil)) (ss_cons (s_for (passes_of rfl) rfl (i_range1 rfl T.b_range (a_cons (e_int) (a_nil))) (g_name nd rfl (Or.inl rfl)) (ss_one (s_for (passes_of rfl) rfl (i_val hZ (e_callF F__law_bent (hr.mono (by decide)) rfl (takes_of rfl rfl rfl rfl) (alen_cons (alen_cons (alen_nil))) (a_cons (v_ 0) (a_cons (v_ 7) (a_nil))))) (g_name nd rfl (Or.inl rfl)) (ss_one (s_if (t_not (t_val (e_callF F__law_line_right (hr.mono (by decide)) rfl (takes_of rfl rfl rfl rfl) (alen_cons (alen_cons (alen_nil))) (a_cons (v_ 9) (a_cons (e_non) (a_nil)))))) (ss_one (s_ret (e_bl))) (ss_nil)))))) (ss_one (s_ret (e_bl))))))))))
theorem sc__law_told : FnScope N__law_told ["_law_door", "_law_args"] (defScope t__law_told) := ⟨rfl, rfl, rfl, by decide +kernel, rfl, by decide +kernel, by decide +kernel⟩
theorem ok__law_told (T : Tx P K mg Z) (F_line_of : FnD P w K mg base Z "line_of" t_line_of ["prices", "word"] g_line_of 7) (F_of_line : FnD P w K mg base Z "of_line" t_of_line ["line"] g_of_line 6) (F_right_part : FnD P w K mg base Z "right_part" t_right_part ["line"] g_right_part 4) : FnD P w K mg base Z "_law_told" t__law_told ["_law_door", "_law_args"] g__law_told 8 := by
  have nd := (sc__law_told).nd
  have hZ := T.hZ
  refine fnd T.d__law_told sc__law_told fun f cdv A outer s H E hr => ?_
  unfold d__law_told
  exact ss_cons (s_set nd rfl (Or.inl rfl) (e_non)) (ss_cons (s_try rfl rfl nd rfl rfl ⟨rfl, by decide, Or.inl T.k_SwapError⟩ (takes_of rfl rfl rfl rfl) T.e_SwapError (fun W pn xe tk po => ss_one (s_set nd rfl (Or.inl rfl) (e_if (t_cmp (op_eqDD hZ hr.units) s2_R0 (v_ 0) (e_int) nomark) (e_callF F_line_of (hr.mono (by decide)) rfl tk (alen_cons (alen_cons (alen_nil))) (a_cons (e_ix (ix_D hZ) s2_R0 (v_ 1) (e_int) plx) (a_cons (e_ix (ix_D hZ) s2_R0 (v_ 1) (e_int) plx) (a_nil)))) (e_if (t_cmp (op_eqDD hZ hr.units) s2_R0 (v_ 0) (e_int) nomark) (e_callF F_of_line (hr.mono (by decide)) rfl tk (alen_cons (alen_nil)) (a_cons (e_ix (ix_D hZ) s2_R0 (v_ 1) (e_int) plx) (a_nil))) (e_callF F_right_part (hr.mono (by decide)) rfl tk (alen_cons (alen_nil)) (a_cons (e_ix (ix_D hZ) s2_R0 (v_ 1) (e_int) plx) (a_nil))))))) (fun a pn => ss_cons (s_set nd rfl (Or.inl rfl) (e_lst (a_cons (e_isC (C := Z.cl 2) hZ T.is_InvalidPrices T.ist_InvalidPrices rfl T.b_isinstance rfl T.k_InvalidPrices (v_ 3)) (a_cons (e_isC (C := Z.cl 1) hZ T.is_InvalidWord T.ist_InvalidWord rfl T.b_isinstance rfl T.k_InvalidWord (v_ 3)) (a_cons (e_isC (C := Z.cl 3) hZ T.is_InvalidLine T.ist_InvalidLine rfl T.b_isinstance rfl T.k_InvalidLine (v_ 3)) (a_nil)))))) (ss_one (s_expr (e_bm PySem.F.plainAttrs_list PySem.F.slot_list_append PySem.F.type_list_append mt_appendD sm_RM0 (v_ 2) (a_cons (e_xv T.xcs (v_ 3)) (a_nil))))))) (ss_one (s_ret (v_ 2))))
theorem sc_law : FnScope N_law ["_law_script"] (defScope t_law) := ⟨rfl, rfl, rfl, by decide +kernel, rfl, by decide +kernel, by decide +kernel⟩
theorem ok_law (T : Tx P K mg Z) (F__law_generator : FnD P w K mg base Z "_law_generator" t__law_generator ["_law_script", "_law_index"] g__law_generator 3) (F__law_line_right : FnD P w K mg base Z "_law_line_right" t__law_line_right ["_law_line_here", "_law_due"] g__law_line_right 8) (F__law_right : FnD P w K mg base Z "_law_right" t__law_right ["_law_generator_here"] g__law_right 9) (F__law_told : FnD P w K mg base Z "_law_told" t__law_told ["_law_door", "_law_args"] g__law_told 8) (F_right_part : FnD P w K mg base Z "right_part" t_right_part ["line"] g_right_part 4) : FnD P w K mg base Z "law" t_law ["_law_script"] g_law 10 := by
  have nd := (sc_law).nd
  have hZ := T.hZ
  refine fnd T.d_law sc_law fun f cdv A outer s H E hr => ?_
  unfold d_law
  exact ss_cons (s_for (passes_of rfl) rfl (i_range1 rfl T.b_range (a_cons (e_int) (a_nil))) (g_name nd rfl (Or.inl rfl)) (ss_one (s_if (t_not (t_val (e_callF F__law_right (hr.mono (by decide)) rfl (takes_of rfl rfl rfl rfl) (alen_cons (alen_nil)) (a_cons (e_callF F__law_generator (hr.mono (by decide)) rfl (takes_of rfl rfl rfl rfl) (alen_cons (alen_cons (alen_nil))) (a_cons (v_ 0) (a_cons (v_ 1) (a_nil)))) (a_nil))))) (ss_one (s_ret (e_bl))) (ss_nil)))) (ss_cons (s_set nd rfl (Or.inl rfl) (e_lst (a_cons (e_str (by first | rfl | decide +kernel)) (a_cons (e_str (by first | rfl | decide +kernel)) (a_cons (e_str (by first | rfl | decide +kernel)) (a_cons (e_str (by first | rfl | decide +kernel)) (a_cons (e_str (by first | rfl | decide +kernel)) (a_cons (e_str (by first | rfl | decide +kernel)) (a_cons (e_str (by first | rfl | decide +kernel)) (a_cons (e_str (by first | rfl | decide +kernel)) (a_cons (e_str (by first | rfl | decide +kernel)) (a_cons (e_str (by first | rfl | decide +kernel)) (a_nil))))))))))))) (ss_cons (s_setLc (i := 3) (own := [("_law_line_here", 5)]) rfl nd rfl rfl (sw_true rfl rfl rfl (by decide +kernel)) (i_val hZ (v_ 2)) (blkOk_by (N := N_law) (sc := defScope t_law) (by decide +kernel)) (bin_name (by decide)) (fun _ _ _ _ _ => g_name nd rfl (Or.inl rfl)) (fun _ _ _ _ _ => c_nil) (fun _ _ _ _ _ => e_callF F__law_line_right (hr.mono (by decide)) rfl takes0 (alen_cons (alen_cons (alen_nil))) (a_cons (v_ 5) (a_cons (e_non) (a_nil))))) (ss_cons (s_for (passes_of rfl) rfl (i_val hZ (e_lst (a_cons (e_non) (a_cons (e_int) (a_cons (e_lst (a_cons (e_str (by first | rfl | decide +kernel)) (a_nil))) (a_cons (e_tup (a_nil)) (a_cons (e_dct0) (a_cons (e_bl) (a_nil))))))))) (g_name nd rfl (Or.inl rfl)) (ss_one (s_set nd rfl (Or.inl rfl) (e_bin (op_addD hZ) s2_R0 (v_ 3) (e_lst (a_cons (e_cmp (op_eqDD hZ hr.units) s2_R0 (e_callF F__law_told (hr.mono (by decide)) rfl (takes_of rfl rfl rfl rfl) (alen_cons (alen_cons (alen_nil))) (a_cons (e_int) (a_cons (e_lst (a_cons (v_ 4) (a_nil))) (a_nil)))) (e_lst (a_cons (e_bl) (a_cons (e_bl) (a_cons (e_bl) (a_cons (v_ 4) (a_nil)))))) nomark) (a_cons (e_cmp (op_eqDD hZ hr.units) s2_R0 (e_callF F__law_told (hr.mono (by decide)) rfl (takes_of rfl rfl rfl rfl) (alen_cons (alen_cons (alen_nil))) (a_cons (e_int) (a_cons (e_lst (a_cons (v_ 4) (a_nil))) (a_nil)))) (e_lst (a_cons (e_bl) (a_cons (e_bl) (a_cons (e_bl) (a_cons (v_ 4) (a_nil)))))) nomark) (a_nil)))))))) (ss_cons (s_for (passes_of rfl) rfl (i_val hZ (e_lst (a_cons (e_non) (a_cons (e_int) (a_cons (e_str (by first | rfl | decide +kernel)) (a_cons (e_lst (a_cons (e_tup (a_cons (e_str (by first | rfl | decide +kernel)) (a_cons (e_int) (a_nil)))) (a_nil))) (a_cons (e_lst (a_cons (e_tup (a_cons (e_str (by first | rfl | decide +kernel)) (a_cons (e_int) (a_nil)))) (a_cons (e_tup (a_cons (e_str (by first | rfl | decide +kernel)) (a_cons (e_int) (a_nil)))) (a_nil)))) (a_cons (e_tup (a_cons (e_tup (a_cons (e_str (by first | rfl | decide +kernel)) (a_cons (e_int) (a_nil)))) (a_nil))) (a_cons (e_lst (a_cons (e_tup (a_cons (e_str (by first | rfl | decide +kernel)) (a_cons (e_bl) (a_nil)))) (a_nil))) (a_nil)))))))))) (g_name nd rfl (Or.inl rfl)) (ss_cons (s_expr (e_bm PySem.F.plainAttrs_list PySem.F.slot_list_append PySem.F.type_list_append mt_appendD sm_RM0 (v_ 3) (a_cons (e_cmp (op_eqDD hZ hr.units) s2_R0 (e_callF F__law_told (hr.mono (by decide)) rfl (takes_of rfl rfl rfl rfl) (alen_cons (alen_cons (alen_nil))) (a_cons (e_int) (a_cons (e_lst (a_cons (v_ 4) (a_cons (e_non) (a_nil)))) (a_nil)))) (e_lst (a_cons (e_bl) (a_cons (e_bl) (a_cons (e_bl) (a_cons (v_ 4) (a_nil)))))) nomark) (a_nil)))) (ss_one (s_expr (e_bm PySem.F.plainAttrs_list PySem.F.slot_list_append PySem.F.type_list_append mt_appendD sm_RM0 (v_ 3) (a_cons (e_cmp (op_eqDD hZ hr.units) s2_R0 (e_callF F__law_told (hr.mono (by decide)) rfl (takes_of rfl rfl rfl rfl) (alen_cons (alen_cons (alen_nil))) (a_cons (e_int) (a_cons (e_lst (a_cons (v_ 4) (a_cons (e_str (by first | rfl | decide +kernel)) (a_nil)))) (a_nil)))) (e_lst (a_cons (e_bl) (a_cons (e_bl) (a_cons (e_bl) (a_cons (v_ 4) (a_nil)))))) nomark) (a_nil))))))) (ss_cons (s_for (passes_of rfl) rfl (i_val hZ (e_lst (a_cons (e_non) (a_cons (e_int) (a_cons (e_str (by first | rfl | decide +kernel)) (a_cons (e_lst (a_cons (e_str (by first | rfl | decide +kernel)) (a_nil))) (a_cons (e_str (by first | rfl | decide +kernel)) (a_nil)))))))) (g_name nd rfl (Or.inl rfl)) (ss_one (s_expr (e_bm PySem.F.plainAttrs_list PySem.F.slot_list_append PySem.F.type_list_append mt_appendD sm_RM0 (v_ 3) (a_cons (e_cmp (op_eqDD hZ hr.units) s2_R0 (e_callF F__law_told (hr.mono (by decide)) rfl (takes_of rfl rfl rfl rfl) (alen_cons (alen_cons (alen_nil))) (a_cons (e_int) (a_cons (e_lst (a_cons (e_lst (a_cons (e_tup (a_cons (e_str (by first | rfl | decide +kernel)) (a_cons (e_int) (a_nil)))) (a_nil))) (a_cons (v_ 4) (a_nil)))) (a_nil)))) (e_lst (a_cons (e_bl) (a_cons (e_bl) (a_cons (e_bl) (a_cons (v_ 4) (a_nil)))))) nomark) (a_nil)))))) (ss_cons (s_expr (e_bm PySem.F.plainAttrs_list PySem.F.slot_list_append PySem.F.type_list_append mt_appendD sm_RM0 (v_ 3) (a_cons (e_cmp (op_eqDD hZ hr.units) s2_R0 (e_callF F_right_part (hr.mono (by decide)) rfl (takes_of rfl rfl rfl rfl) (alen_cons (alen_nil)) (a_cons (e_bin (op_addD hZ) s2_R0 (e_str (by first | rfl | decide +kernel)) (e_bin op_mulD s2_R0 (e_str (by first | rfl | decide +kernel)) (e_int))) (a_nil))) (e_bin (op_addD hZ) s2_R0 (e_str (by first | rfl | decide +kernel)) (e_bin op_mulD s2_R0 (e_str (by first | rfl | decide +kernel)) (e_int))) nomark) (a_nil)))) (ss_cons (s_expr (e_bm PySem.F.plainAttrs_list PySem.F.slot_list_append PySem.F.type_list_append mt_appendD sm_RM0 (v_ 3) (a_cons (e_callF F__law_line_right (hr.mono (by decide)) rfl (takes_of rfl rfl rfl rfl) (alen_cons (alen_cons (alen_nil))) (a_cons (e_bin (op_addD hZ) s2_R0 (e_str (by first | rfl | decide +kernel)) (e_bin op_mulD s2_R0 (e_str (by first | rfl | decide +kernel)) (e_int))) (a_cons (e_tup (a_cons (e_lst (a_nil)) (a_cons (e_bin op_mulD s2_R0 (e_str (by first | rfl | decide +kernel)) (e_int)) (a_nil)))) (a_nil)))) (a_nil)))) (ss_cons (s_expr (e_bm PySem.F.plainAttrs_list PySem.F.slot_list_append PySem.F.type_list_append mt_appendD sm_RM0 (v_ 3) (a_cons (e_cmp (op_eqDD hZ hr.units) s2_R0 (e_callF F__law_told (hr.mono (by decide)) rfl (takes_of rfl rfl rfl rfl) (alen_cons (alen_cons (alen_nil))) (a_cons (e_int) (a_cons (e_lst (a_cons (e_bin op_mulD s2_R0 (e_str (by first | rfl | decide +kernel)) (e_int)) (a_nil))) (a_nil)))) (e_lst (a_cons (e_bl) (a_cons (e_bl) (a_cons (e_bl) (a_cons (e_bin op_mulD s2_R0 (e_str (by first | rfl | decide +kernel)) (e_int)) (a_nil)))))) nomark) (a_nil)))) (ss_one (s_ret (e_and (e_cmp (op_eqDD hZ hr.units) s2_R0 (e_lc (own := [("_law_item", 6)]) rfl nd (i_val hZ (v_ 3)) (blkOk_by (N := N_law) (sc := defScope t_law) (by decide +kernel)) (bin_name (by decide)) (fun _ _ _ _ _ => g_name nd rfl (Or.inl rfl)) (fun _ _ _ _ _ => c_one (t_cmp op_isNotD s2_R0 (v_ 6) (e_bl) nomark)) (fun _ _ _ _ _ => v_ 6)) (e_lst (a_nil)) nomark) (e_one (e_cmp (op_eqDD hZ hr.units) s2_R0 (e_callF F_right_part (hr.mono (by decide)) rfl (takes_of rfl rfl rfl rfl) (alen_cons (alen_nil)) (a_cons (e_bin (op_addD hZ) s2_R0 (e_bin (op_addD hZ) s2_R0 (e_str (by first | rfl | decide +kernel)) (e_bin op_mulD s2_R0 (e_str (by first | rfl | decide +kernel)) (e_int))) (e_str (by first | rfl | decide +kernel))) (a_nil))) (e_bin (op_addD hZ) s2_R0 (e_str (by first | rfl | decide +kernel)) (e_bin op_mulD s2_R0 (e_str (by first | rfl | decide +kernel)) (e_int))) nomark)))))))))))))
theorem ok_all (T : Tx P K mg Z) : FnD P w K mg base Z "law" t_law ["_law_script"] g_law 10 := by
  have F__law_cell := ok__law_cell (w := w) (base := base) T 
  have F__law_generator := ok__law_generator (w := w) (base := base) T F__law_cell
  have F__law_walk := ok__law_walk (w := w) (base := base) T 
  have F_is_whole := ok_is_whole (w := w) (base := base) T 
  have F_is_between := ok_is_between (w := w) (base := base) T F_is_whole
  have F_is_letters_alone := ok_is_letters_alone (w := w) (base := base) T 
  have F_is_price := ok_is_price (w := w) (base := base) T F_is_between F_is_letters_alone
  have F_rises := ok_rises (w := w) (base := base) T 
  have F_is_price_list := ok_is_price_list (w := w) (base := base) T F_is_price F_rises
  have F_check_prices := ok_check_prices (w := w) (base := base) T F_is_price_list
  have F_check_word := ok_check_word (w := w) (base := base) T F_is_letters_alone
  have F_line_of := ok_line_of (w := w) (base := base) T F_check_prices F_check_word
  have F_next_state := ok_next_state (w := w) (base := base) T 
  have F_right_size := ok_right_size (w := w) (base := base) T F_next_state
  have F_of_line := ok_of_line (w := w) (base := base) T F_is_letters_alone F_is_price_list F_right_size
  have F_right_part := ok_right_part (w := w) (base := base) T F_right_size
  have F__law_line_right := ok__law_line_right (w := w) (base := base) T F__law_walk F_line_of F_of_line F_right_part
  have F__law_hash := ok__law_hash (w := w) (base := base) T 
  have F__law_random := ok__law_random (w := w) (base := base) T F__law_hash
  have F__law_bent := ok__law_bent (w := w) (base := base) T F__law_random
  have F__law_joints := ok__law_joints (w := w) (base := base) T F__law_random
  have F__law_letters := ok__law_letters (w := w) (base := base) T F__law_random
  have F__law_line := ok__law_line (w := w) (base := base) T 
  have F__law_word := ok__law_word (w := w) (base := base) T F__law_random
  have F__law_right := ok__law_right (w := w) (base := base) T F__law_bent F__law_joints F__law_letters F__law_line F__law_line_right F__law_random F__law_word F_line_of
  have F__law_told := ok__law_told (w := w) (base := base) T F_line_of F_of_line F_right_part
  have F_law := ok_law (w := w) (base := base) T F__law_generator F__law_line_right F__law_right F__law_told F_right_part
  exact F_law
end
end K91

/-! SE: what is wanted behind a denotation: rules for plain laws. -/
namespace SE
open PySem PySem.Spec PyProof.Rows L2

/-- behind an expression -/
def wpE {α : Type} (r : Option (Out α × Store)) (Q : α → Store → Prop) (E : Nat → DV → Store → Prop) : Prop := match r with
  | some (.ok a, st) => Q a st
  | some (.er C v, st) => E C v st
  | none => False
/-- behind a statement -/
def wpS (r : Option (SO × Store)) (Q : SO → Store → Prop) : Prop := match r with
  | some (o, st) => Q o st
  | none => False
abbrev noE : Nat → DV → Store → Prop := fun _ _ _ => False
section
variable {α β : Type} {Q : α → Store → Prop} {E : Nat → DV → Store → Prop} {st : Store} {env : Ev}
theorem wpE_mono {r : Option (Out α × Store)} {Q' : α → Store → Prop} {E' : Nat → DV → Store → Prop} (h : wpE r Q' E') (k : ∀ a s, Q' a s → Q a s) (e : ∀ C v s, E' C v s → E C v s) : wpE r Q E := by
  match r, h with
  | some (.ok a, st), h => exact k _ _ h
  | some (.er C v, st), h => exact e _ _ _ h
theorem wpE_ok {r : Option (Out α × Store)} {Q' : α → Store → Prop} (h : wpE r Q' noE) (k : ∀ a s, Q' a s → Q a s) : wpE r Q E := wpE_mono h k fun _ _ _ z => z.elim
theorem wpS_mono {r : Option (SO × Store)} {Q' Q : SO → Store → Prop} (h : wpS r Q') (k : ∀ o s, Q' o s → Q o s) : wpS r Q := by
  match r, h with
  | some (o, st), h => exact k _ _ h
theorem wpE_elim {r : Option (Out α × Store)} (h : wpE r Q noE) : ∃ a st, r = some (.ok a, st) ∧ Q a st := by
  match r, h with
  | some (.ok a, st), h => exact ⟨a, st, rfl, h⟩
  | some (.er C v, st), h => exact h.elim
theorem wpE_of {r : Option (Out α × Store)} {a : α} (e : r = some (.ok a, st)) (h : Q a st) : wpE r Q E := by rw [e]; exact h
theorem wpE_er {r : Option (Out α × Store)} {C : Nat} {v : DV} (e : r = some (.er C v, st)) (h : E C v st) : wpE r Q E := by rw [e]; exact h
@[simp↓] theorem wp_ok {a : α} : wpE (some (.ok a, st)) Q E ↔ Q a st := Iff.rfl
@[simp↓] theorem wp_er {C : Nat} {v : DV} : wpE (some (.er C v, st)) Q E ↔ E C v st := Iff.rfl
@[simp↓] theorem wp_none : wpE (none : Option (Out α × Store)) Q E ↔ False := Iff.rfl
@[simp↓] theorem wp_ret {a : α} : wpE (ret a st) Q E ↔ Q a st := Iff.rfl
@[simp↓] theorem wp_stuck : wpE (stuck st : Option (Out α × Store)) Q E ↔ False := Iff.rfl
@[simp↓] theorem wp_bnd {m : MM β} {f : β → MM α} : wpE (bnd m f st) Q E ↔ wpE (m st) (fun a s => wpE (f a s) Q E) E := by
  unfold bnd
  match m st with
  | none => exact Iff.rfl
  | some (.ok a, st') => exact Iff.rfl
  | some (.er C v, st') => exact Iff.rfl
@[simp↓] theorem wp_lift_some {a : α} : wpE (lift (some a) st) Q E ↔ Q a st := Iff.rfl
@[simp↓] theorem wp_lift_none : wpE (lift (none : Option α) st) Q E ↔ False := Iff.rfl
@[simp↓] theorem wp_ite {c : Prop} [Decidable c] {x y : Option (Out α × Store)} : wpE (if c then x else y) Q E ↔ if c then wpE x Q E else wpE y Q E := by
  by_cases h : c
  · rw [if_pos h, if_pos h]
  · rw [if_neg h, if_neg h]
theorem wp_iteM {c : Prop} [Decidable c] {x y : MM α} : wpE ((if c then x else y) st) Q E ↔ if c then wpE (x st) Q E else wpE (y st) Q E := by
  by_cases h : c
  · rw [if_pos h, if_pos h]
  · rw [if_neg h, if_neg h]
end
section
variable {Q : DV → Store → Prop} {E : Nat → DV → Store → Prop} {QB : Bool → Store → Prop} {QA : List DV → Store → Prop} {st : Store} {env : Ev} {a b c : DE} {ta tb : DT} {da : DA} {g : List DV → MM DV}
def getV (env : Ev) (i : Nat) : Option DV := env[i]?.bind id
@[simp↓] theorem wp_var {i : Nat} : wpE (dVar i env st) Q E ↔ wpE (lift (getV env i) st) Q E := Iff.rfl
@[simp] theorem getV_zero {x : Option DV} {r : Ev} : getV (x :: r) 0 = x := by unfold getV; simp
@[simp] theorem getV_succ {x : Option DV} {r : Ev} {i : Nat} : getV (x :: r) (i + 1) = getV r i := by unfold getV; simp
@[simp↓] theorem wp_c {d : DV} : wpE (dC d env st) Q E ↔ Q d st := Iff.rfl
@[simp↓] theorem wp_d2 {f : DV → DV → MM DV} : wpE (d2 f a b env st) Q E ↔ wpE (a env st) (fun x s => wpE (b env s) (fun y s => wpE (f x y s) Q E) E) E := by
  unfold d2; rw [wp_bnd]; apply iff_of_eq; congr 1; funext x s; exact propext wp_bnd
@[simp↓] theorem wp_d1 {f : DV → MM DV} : wpE (d1 f a env st) Q E ↔ wpE (a env st) (fun x s => wpE (f x s) Q E) E := wp_bnd
@[simp↓] theorem wp_dB : wpE (dB a env st) QB E ↔ wpE (a env st) (fun x s => wpE (lift (asB x) s) QB E) E := wp_bnd
@[simp] theorem asB_bl {k : Bool} : asB (.bl k) = some k := rfl
@[simp] theorem asI_int {k : Int} : asI (.int k) = some k := rfl
@[simp↓] theorem wp_call : wpE (dCall g da env st) Q E ↔ wpE (da env st) (fun xs s => wpE (g xs s) Q E) E := wp_bnd
@[simp↓] theorem wp_callK {ix : List Nat} : wpE (dCallK g ix da env st) Q E ↔ wpE (da env st) (fun xs s => wpE (g (permL ix xs) s) Q E) E := wp_bnd
@[simp↓] theorem wp_aNil : wpE (aNil env st) QA E ↔ QA [] st := Iff.rfl
@[simp↓] theorem wp_aCons : wpE (aCons a da env st) QA E ↔ wpE (a env st) (fun x s => wpE (da env s) (fun xs s => QA (x :: xs) s) E) E := by
  unfold aCons; rw [wp_bnd]; apply iff_of_eq; congr 1; funext x s; exact propext wp_bnd
@[simp↓] theorem wp_tup : wpE (dTup da env st) Q E ↔ wpE (da env st) (fun xs s => if xs.length ≤ sizeLine then Q (.tup xs) s else False) E := by
  unfold dTup; rw [wp_bnd]; apply iff_of_eq; congr 1; funext x s; exact propext wp_iteM
@[simp↓] theorem wp_lst : wpE (dLst da env st) Q E ↔ wpE (da env st) (fun xs s => if xs.length ≤ sizeLine then Q (.ref s.size) (s.push (.lst xs)) else False) E := by
  unfold dLst; rw [wp_bnd]; apply iff_of_eq; congr 1; funext x s; exact propext wp_iteM
@[simp↓] theorem wp_dct0 : wpE (dDct0 env st) Q E ↔ Q (.ref st.size) (st.push (.dct [])) := Iff.rfl
@[simp↓] theorem wp_tAnd : wpE (tAndD ta tb env st) QB E ↔ wpE (ta env st) (fun k s => if k = true then wpE (tb env s) QB E else QB false s) E := by
  unfold tAndD; rw [wp_bnd]; apply iff_of_eq; congr 1; funext x s; exact propext wp_iteM
@[simp↓] theorem wp_tOr : wpE (tOrD ta tb env st) QB E ↔ wpE (ta env st) (fun k s => if k = true then QB true s else wpE (tb env s) QB E) E := by
  unfold tOrD; rw [wp_bnd]; apply iff_of_eq; congr 1; funext x s; exact propext wp_iteM
@[simp↓] theorem wp_tNot : wpE (tNotD ta env st) QB E ↔ wpE (ta env st) (fun k s => QB (!k) s) E := wp_bnd
@[simp↓] theorem wp_yes : wpE (dYes env st) QB E ↔ QB true st := Iff.rfl
@[simp↓] theorem wp_dAnd : wpE (dAndD a b env st) Q E ↔ wpE (a env st) (fun x s => wpE (lift (asB x) s) (fun k s => if k = true then wpE (b env s) Q E else Q (.bl false) s) E) E := by
  unfold dAndD; rw [wp_bnd]; apply iff_of_eq; congr 1; funext x s; rw [wp_bnd]; congr 1; funext k s; exact propext wp_iteM
@[simp↓] theorem wp_dOr : wpE (dOrD a b env st) Q E ↔ wpE (a env st) (fun x s => wpE (lift (asB x) s) (fun k s => if k = true then Q (.bl true) s else wpE (b env s) Q E) E) E := by
  unfold dOrD; rw [wp_bnd]; apply iff_of_eq; congr 1; funext x s; rw [wp_bnd]; congr 1; funext k s; exact propext wp_iteM
@[simp↓] theorem wp_dNot : wpE (dNotD a env st) Q E ↔ wpE (a env st) (fun x s => wpE (lift (asB x) s) (fun k s => Q (.bl (!k)) s) E) E := by
  unfold dNotD; rw [wp_bnd]; apply iff_of_eq; congr 1; funext x s; rw [wp_bnd]; rfl
@[simp↓] theorem wp_dIf : wpE (dIf ta a b env st) Q E ↔ wpE (ta env st) (fun k s => if k = true then wpE (a env s) Q E else wpE (b env s) Q E) E := by
  unfold dIf; rw [wp_bnd]; apply iff_of_eq; congr 1; funext x s; exact propext wp_iteM
@[simp↓] theorem wp_oNone {QO : Option Int → Store → Prop} : wpE (oNone env st) QO E ↔ QO none st := Iff.rfl
@[simp↓] theorem wp_oSome {QO : Option Int → Store → Prop} : wpE (oSome a env st) QO E ↔ wpE (a env st) (fun x s => wpE (lift (asI x) s) (fun i s => QO (some i) s) E) E := by
  unfold oSome; rw [wp_bnd]; apply iff_of_eq; congr 1; funext x s; rw [wp_bnd]; rfl
@[simp↓] theorem wp_sl {f : DV → Option Int → Option Int → MM DV} {lo hi : DO2} : wpE (dSl f a lo hi env st) Q E ↔ wpE (a env st) (fun x s => wpE (lo env s) (fun l s => wpE (hi env s) (fun u s => wpE (f x l u s) Q E) E) E) E := by
  unfold dSl; rw [wp_bnd]; apply iff_of_eq; congr 1; funext x s; rw [wp_bnd]; congr 1; funext l s; exact propext wp_bnd
@[simp↓] theorem wp_mt {T : String} {f : DV → List DV → MM DV} : wpE (dMt T f a da env st) Q E ↔ wpE (a env st) (fun x s => if tyD T x s = true then wpE (da env s) (fun xs s => wpE (f x xs s) Q E) E else False) E := by
  unfold dMt; rw [wp_bnd]; apply iff_of_eq; congr 1; funext x s
  by_cases h : tyD T x s = true
  · rw [if_pos h, if_pos h]; exact propext wp_bnd
  · rw [if_neg h, if_neg h]; rfl
@[simp↓] theorem wp_bits : wpE (dBits a env st) Q E ↔ wpE (a env st) (fun x s => wpE (lift ((asI x).map fun i => DV.int (Builtin.Int.intBits i : Nat)) s) Q E) E := wp_bnd
@[simp↓] theorem wp_chain {f f' : DV → DV → MM DV} : wpE (dChain f f' a b c env st) Q E ↔ wpE (a env st) (fun x s => wpE (b env s) (fun y s => wpE (f x y s) (fun z s => wpE (lift (asB z) s) (fun k s => if k = true then wpE (c env s) (fun w s => wpE (f' y w s) Q E) E else Q (.bl false) s) E) E) E) E := by
  unfold dChain; rw [wp_bnd]; apply iff_of_eq; congr 1; funext x s; rw [wp_bnd]; congr 1; funext y s; rw [wp_bnd]; congr 1; funext z s; rw [wp_bnd]; congr 1; funext k s
  by_cases h : k = true
  · rw [if_pos h, if_pos h]; exact propext wp_bnd
  · rw [if_neg h, if_neg h]; rfl
theorem wp_isi {U : String} : wpE (dIsi U a env st) Q E ↔ wpE (a env st) (fun x s => match tyN x s with | some T => wpE (lift ((isTy T U).map fun b => DV.bl b) s) Q E | none => False) E := by
  unfold dIsi; rw [wp_bnd]; apply iff_of_eq; congr 1; funext x s
  cases tyN x s <;> rfl
def isi (U : String) (x : DV) : MM DV := fun st => match tyN x st with
  | some T => lift ((isTy T U).map fun b => .bl b) st
  | none => none
@[simp↓] theorem wp_isi' {U : String} : wpE (dIsi U a env st) Q E ↔ wpE (a env st) (fun x s => wpE (isi U x s) Q E) E := wp_bnd
def isx (m : TyD → Option Bool) (x : DV) : MM DV := fun st => match tyO x st with
  | some T => lift ((m T).map fun b => .bl b) st
  | none => none
@[simp↓] theorem wp_isx {m : TyD → Option Bool} : wpE (dIsX m a env st) Q E ↔ wpE (a env st) (fun x s => wpE (isx m x s) Q E) E := wp_bnd
def xv (cs : Nat → Bool) (x : DV) : MM DV := fun st => match x with
  | .ref n => (match st.get n with
    | some (.exc C v) => if cs C = true then some (.ok v, st) else none
    | _ => none)
  | _ => none
@[simp↓] theorem wp_xv {cs : Nat → Bool} : wpE (dXv cs a env st) Q E ↔ wpE (a env st) (fun x s => wpE (xv cs x s) Q E) E := wp_bnd
end
/-! statements -/
section
variable {Q : SO → Store → Prop} {st : Store} {env : Ev} {a b : DS} {d : DE} {t : DT} {da : DA}
def nxt (b : DS) (Q : SO → Store → Prop) : SO → Store → Prop
  | .nx e, s => wpS (b e s) Q
  | o, s => Q o s
@[simp] theorem nxt_nx {e : Ev} : nxt b Q (.nx e) st ↔ wpS (b e st) Q := Iff.rfl
@[simp] theorem nxt_rt {v : DV} : nxt b Q (.rt v) st ↔ Q (.rt v) st := Iff.rfl
@[simp] theorem nxt_bk {e : Ev} : nxt b Q (.bk e) st ↔ Q (.bk e) st := Iff.rfl
@[simp] theorem nxt_ct {e : Ev} : nxt b Q (.ct e) st ↔ Q (.ct e) st := Iff.rfl
@[simp] theorem nxt_er {C : Nat} {v : DV} {e : Ev} : nxt b Q (.er C v e) st ↔ Q (.er C v e) st := Iff.rfl
@[simp↓] theorem wps_seq : wpS (sSeq a b env st) Q ↔ wpS (a env st) (nxt b Q) := by
  unfold sSeq
  match a env st with
  | none => exact Iff.rfl
  | some (.nx e, s) => exact Iff.rfl
  | some (.rt e, s) => exact Iff.rfl
  | some (.bk e, s) => exact Iff.rfl
  | some (.ct e, s) => exact Iff.rfl
  | some (.er C v e, s) => exact Iff.rfl
theorem wps_ofE {α : Type} {m : MM α} {k : α → Store → Option (SO × Store)} : wpS (ofE m env k st) Q ↔ wpE (m st) (fun x s => wpS (k x s) Q) (fun C v s => Q (.er C v env) s) := by
  unfold ofE
  match m st with
  | none => exact Iff.rfl
  | some (.ok e, s) => exact Iff.rfl
  | some (.er C v, s) => exact Iff.rfl
@[simp↓] theorem wps_nil : wpS (sNil env st) Q ↔ Q (.nx env) st := Iff.rfl
@[simp↓] theorem wps_some {o : SO} : wpS (some (o, st)) Q ↔ Q o st := Iff.rfl
@[simp↓] theorem wps_none : wpS none Q ↔ False := Iff.rfl
@[simp↓] theorem wps_break : wpS (sBreak env st) Q ↔ Q (.bk env) st := Iff.rfl
@[simp↓] theorem wps_cont : wpS (sCont env st) Q ↔ Q (.ct env) st := Iff.rfl
@[simp↓] theorem wps_expr : wpS (sExpr d env st) Q ↔ wpE (d env st) (fun _ s => Q (.nx env) s) (fun C v s => Q (.er C v env) s) := wps_ofE
@[simp↓] theorem wps_ret : wpS (sRet d env st) Q ↔ wpE (d env st) (fun v s => Q (.rt v) s) (fun C v s => Q (.er C v env) s) := wps_ofE
@[simp↓] theorem wps_retN : wpS (sRetN env st) Q ↔ Q (.rt .non) st := Iff.rfl
@[simp↓] theorem wps_if : wpS (sIf t a b env st) Q ↔ wpE (t env st) (fun k s => if k = true then wpS (a env s) Q else wpS (b env s) Q) (fun C v s => Q (.er C v env) s) := by
  unfold sIf
  rw [wps_ofE]
  apply iff_of_eq; congr 1; funext k s
  cases k <;> rfl
@[simp↓] theorem wps_set {i : Nat} : wpS (sSet i d env st) Q ↔ wpE (d env st) (fun v s => Q (.nx (env.set i (some v))) s) (fun C v s => Q (.er C v env) s) := wps_ofE
@[simp↓] theorem wps_asg {B : Bd} : wpS (sAsg B d env st) Q ↔ wpE (d env st) (fun v s => match B v s with | none => False | some bs => Q (.nx (setsE env bs)) s) (fun C v s => Q (.er C v env) s) := by
  unfold sAsg
  rw [wps_ofE]
  apply iff_of_eq; congr 1; funext k s
  cases B k s <;> rfl
@[simp↓] theorem wps_par {i j : Nat} : wpS (sPar i j da env st) Q ↔ wpE (da env st) (fun vs s => match vs with | [v, w] => Q (.nx ((env.set i (some v)).set j (some w))) s | _ => False) (fun C v s => Q (.er C v env) s) := by
  unfold sPar
  rw [wps_ofE]
  apply iff_of_eq; congr 1; funext k s
  match k with
  | [] => rfl
  | [_] => rfl
  | [_, _] => rfl
  | _ :: _ :: _ :: _ => rfl
@[simp↓] theorem wps_par3 {i j l : Nat} : wpS (sPar3 i j l da env st) Q ↔ wpE (da env st) (fun vs s => match vs with | [v, w, u] => Q (.nx (((env.set i (some v)).set j (some w)).set l (some u))) s | _ => False) (fun C v s => Q (.er C v env) s) := by
  unfold sPar3
  rw [wps_ofE]
  apply iff_of_eq; congr 1; funext k s
  match k with
  | [] => rfl
  | [_] => rfl
  | [_, _] => rfl
  | [_, _, _] => rfl
  | _ :: _ :: _ :: _ :: _ => rfl
@[simp↓] theorem wps_raise {C : Nat} : wpS (sRaise C d env st) Q ↔ wpE (d env st) (fun v s => Q (.er C v env) s) (fun C v s => Q (.er C v env) s) := wps_ofE
@[simp↓] theorem wps_setI {o i : DE} : wpS (sSetI d o i env st) Q ↔ wpE (d env st) (fun v s => wpE (o env s) (fun x s => wpE (i env s) (fun j s => match setI x j v s with | none => False | some s' => Q (.nx env) s') (fun C v s => Q (.er C v env) s)) (fun C v s => Q (.er C v env) s)) (fun C v s => Q (.er C v env) s) := by
  unfold sSetI
  rw [wps_ofE]
  apply iff_of_eq; congr 1; funext v s
  rw [wps_ofE]; congr 1; funext x s
  rw [wps_ofE]; congr 1; funext j s
  cases setI x j v s <;> rfl
def tryK (i : Nat) (m : Nat → Option Bool) (u : DS) (Q : SO → Store → Prop) : SO → Store → Prop
  | .er C v env', s => match m C with
    | some true => wpS (sTryEnd i (u (env'.set i (some (.ref s.size))) (s.push (.exc C v)))) Q
    | some false => Q (.er C v env') s
    | none => False
  | o, s => Q o s
@[simp] theorem tryK_nx {i : Nat} {m : Nat → Option Bool} {u : DS} {e : Ev} : tryK i m u Q (.nx e) st ↔ Q (.nx e) st := Iff.rfl
@[simp] theorem tryK_rt {i : Nat} {m : Nat → Option Bool} {u : DS} {v : DV} : tryK i m u Q (.rt v) st ↔ Q (.rt v) st := Iff.rfl
@[simp↓] theorem wps_try {i : Nat} {m : Nat → Option Bool} {u : DS} : wpS (sTry i m a u env st) Q ↔ wpS (a env st) (tryK i m u Q) := by
  unfold sTry
  match a env st with
  | none => exact Iff.rfl
  | some (.nx e, s) => exact Iff.rfl
  | some (.rt e, s) => exact Iff.rfl
  | some (.bk e, s) => exact Iff.rfl
  | some (.ct e, s) => exact Iff.rfl
  | some (.er C v e, s) =>
    show wpS (match m C with | some true => _ | some false => _ | none => none) Q ↔ (match m C with | some true => _ | some false => _ | none => False)
    cases m C with
    | none => exact Iff.rfl
    | some b => cases b <;> exact Iff.rfl
def endK (i : Nat) (Q : SO → Store → Prop) : SO → Store → Prop
  | .nx e, s => Q (.nx (e.set i none)) s
  | .bk e, s => Q (.bk (e.set i none)) s
  | .ct e, s => Q (.ct (e.set i none)) s
  | .rt v, s => Q (.rt v) s
  | .er _ _ _, _ => False
@[simp] theorem endK_nx {i : Nat} {e : Ev} : endK i Q (.nx e) st ↔ Q (.nx (e.set i none)) st := Iff.rfl
@[simp] theorem endK_rt {i : Nat} {e : DV} : endK i Q (.rt e) st ↔ Q (.rt e) st := Iff.rfl
@[simp↓] theorem wps_tryEnd {i : Nat} {r : Option (SO × Store)} : wpS (sTryEnd i r) Q ↔ wpS r (endK i Q) := by
  match r with
  | none => exact Iff.rfl
  | some (.nx e, s) => exact Iff.rfl
  | some (.rt e, s) => exact Iff.rfl
  | some (.bk e, s) => exact Iff.rfl
  | some (.ct e, s) => exact Iff.rfl
  | some (.er C v e, s) => exact Iff.rfl
@[simp↓] theorem wps_ite {c : Prop} [Decidable c] {x y : Option (SO × Store)} : wpS (if c then x else y) Q ↔ if c then wpS x Q else wpS y Q := by
  by_cases h : c
  · rw [if_pos h, if_pos h]
  · rw [if_neg h, if_neg h]
end
/-- a def -/
def defK (Q : DV → Store → Prop) (E : Nat → DV → Store → Prop) : SO → Store → Prop
  | .nx _, s => Q .non s
  | .rt v, s => Q v s
  | .er C v _, s => E C v s
  | _, _ => False
section
variable {Q : DV → Store → Prop} {E : Nat → DV → Store → Prop} {st : Store}
@[simp] theorem defK_nx {e : Ev} : defK Q E (.nx e) st ↔ Q .non st := Iff.rfl
@[simp] theorem defK_rt {v : DV} : defK Q E (.rt v) st ↔ Q v st := Iff.rfl
@[simp] theorem defK_er {C : Nat} {v : DV} {e : Ev} : defK Q E (.er C v e) st ↔ E C v st := Iff.rfl
theorem wp_def {n : Nat} {db : DS} {ds : List DV} : wpE (defG n db ds st) Q E ↔ wpS (db (startE n ds) st) (defK Q E) := by
  unfold defG
  match db (startE n ds) st with
  | none => exact Iff.rfl
  | some (.nx e, s) => exact Iff.rfl
  | some (.rt e, s) => exact Iff.rfl
  | some (.bk e, s) => exact Iff.rfl
  | some (.ct e, s) => exact Iff.rfl
  | some (.er C v e, s) => exact Iff.rfl
end
/-! operators by values -/
section
variable {Q : DV → Store → Prop} {E : Nat → DV → Store → Prop} {st : Store}
@[simp↓] theorem wp_addI {i j : Int} : wpE (fAdd (.int i) (.int j) st) Q E ↔ Q (.int (i + j)) st := Iff.rfl
@[simp↓] theorem wp_addS {i j : List Nat} : wpE (fAdd (.str i) (.str j) st) Q E ↔ if i.length + j.length ≤ sizeLine then Q (.str (i ++ j)) st else False := wp_iteM
@[simp↓] theorem wp_subI {i j : Int} : wpE (fSub (.int i) (.int j) st) Q E ↔ Q (.int (i - j)) st := Iff.rfl
@[simp↓] theorem wp_mulI {i j : Int} : wpE (fMul (.int i) (.int j) st) Q E ↔ if i.natAbs.log2 + j.natAbs.log2 < 1000000 then Q (.int (i * j)) st else False := wp_iteM
@[simp↓] theorem wp_mulS {a : List Nat} {k : Int} : wpE (fMul (.str a) (.int k) st) Q E ↔ if rngB k = true ∧ a.length * k.toNat ≤ sizeLine then Q (.str (repS k.toNat a)) st else False := wp_iteM
@[simp↓] theorem wp_fdivI {i j : Int} : wpE (fFdiv (.int i) (.int j) st) Q E ↔ if 0 < j ∧ j.natAbs.log2 < 9000 then Q (.int (i / j)) st else False := wp_iteM
@[simp↓] theorem wp_modI {i j : Int} : wpE (fMod (.int i) (.int j) st) Q E ↔ if 0 < j then Q (.int (i % j)) st else False := wp_iteM
@[simp↓] theorem wp_powI {i j : Int} : wpE (fPow (.int i) (.int j) st) Q E ↔ if 0 ≤ j ∧ (Builtin.Int.intBits i : Int) * j ≤ 2 ^ 27 then Q (.int (i ^ j.toNat)) st else False := wp_iteM
@[simp↓] theorem wp_negI {i : Int} : wpE (fNeg (.int i) st) Q E ↔ Q (.int (-i)) st := Iff.rfl
@[simp↓] theorem wp_ltI {i j : Int} : wpE (fLt (.int i) (.int j) st) Q E ↔ Q (.bl (decide (i < j))) st := Iff.rfl
@[simp↓] theorem wp_gtI {i j : Int} : wpE (fGt (.int i) (.int j) st) Q E ↔ Q (.bl (decide (j < i))) st := Iff.rfl
@[simp↓] theorem wp_leI {i j : Int} : wpE (fLe (.int i) (.int j) st) Q E ↔ Q (.bl (decide (i ≤ j))) st := Iff.rfl
@[simp↓] theorem wp_geI {i j : Int} : wpE (fGe (.int i) (.int j) st) Q E ↔ Q (.bl (decide (j ≤ i))) st := Iff.rfl
@[simp↓] theorem wp_ltS {i j : List Nat} : wpE (fLt (.str i) (.str j) st) Q E ↔ Q (.bl (ltS i j)) st := Iff.rfl
@[simp↓] theorem wp_gtS {i j : List Nat} : wpE (fGt (.str i) (.str j) st) Q E ↔ Q (.bl (ltS j i)) st := Iff.rfl
@[simp↓] theorem wp_leS {i j : List Nat} : wpE (fLe (.str i) (.str j) st) Q E ↔ Q (.bl (!ltS j i)) st := Iff.rfl
@[simp↓] theorem wp_geS {i j : List Nat} : wpE (fGe (.str i) (.str j) st) Q E ↔ Q (.bl (!ltS i j)) st := Iff.rfl
@[simp↓] theorem wp_isN {neg : Bool} {d : DV} : wpE (fIs neg d .non st) Q E ↔ Q (.bl (neg != SE.isNon d)) st := by
  cases d <;> exact Iff.rfl
@[simp↓] theorem wp_isB {neg : Bool} {a b : Bool} : wpE (fIs neg (.bl a) (.bl b) st) Q E ↔ Q (.bl (neg != (a == b))) st := Iff.rfl
@[simp↓] theorem wp_inS {neg : Bool} {c : Nat} {z : List Nat} : wpE (fIn neg (.str [c]) (.str z) st) Q E ↔ Q (.bl (neg != z.contains c)) st := Iff.rfl
theorem fIn_tup {neg : Bool} {d : DV} {xs : List DV} : fIn neg d (.tup xs) = inB neg d xs := by
  unfold fIn
  match d with
  | .str [] => rfl
  | .str [_] => rfl
  | .str (_ :: _ :: _) => rfl
  | .non => rfl
  | .bl _ => rfl
  | .int _ => rfl
  | .tup _ => rfl
  | .fl _ => rfl
  | .ref _ => rfl
theorem fIn_ref {neg : Bool} {d : DV} {a : Nat} : fIn neg d (.ref a) = fun st => match st.get a with | some (.lst xs) => inB neg d xs st | _ => none := by
  unfold fIn
  match d with
  | .str [] => rfl
  | .str [_] => rfl
  | .str (_ :: _ :: _) => rfl
  | .non => rfl
  | .bl _ => rfl
  | .int _ => rfl
  | .tup _ => rfl
  | .fl _ => rfl
  | .ref _ => rfl
@[simp↓] theorem wp_inT {neg : Bool} {d : DV} {xs : List DV} : wpE (fIn neg d (.tup xs) st) Q E ↔ if flatD d = true ∧ xs.all flatD = true then Q (.bl (neg != (xs.any fun e => eqF e d))) st else False := by
  rw [fIn_tup]; exact wp_iteM
theorem wp_inL {neg : Bool} {d : DV} {a : Nat} {xs : List DV} (h : st.get a = some (.lst xs)) : wpE (fIn neg d (.ref a) st) Q E ↔ if flatD d = true ∧ xs.all flatD = true then Q (.bl (neg != (xs.any fun e => eqF e d))) st else False := by
  rw [fIn_ref]
  show wpE (match st.get a with | some (.lst xs) => inB neg d xs st | _ => none) Q E ↔ _
  rw [h]
  exact wp_iteM
@[simp↓] theorem wp_lenS {l : List Nat} : wpE (fLen [.str l] st) Q E ↔ if l.length ≤ sizeLine then Q (.int l.length) st else False := wp_iteM
@[simp↓] theorem wp_lenT {l : List DV} : wpE (fLen [.tup l] st) Q E ↔ Q (.int l.length) st := Iff.rfl
@[simp↓] theorem wp_lenF {l : List DV} : wpE (fLen [.fl l] st) Q E ↔ Q (.int l.length) st := Iff.rfl
theorem wp_lenL {a : Nat} {xs : List DV} (h : st.get a = some (.lst xs)) : wpE (fLen [.ref a] st) Q E ↔ Q (.int xs.length) st := by
  show wpE (match st.get a with | some (.lst xs) => some (.ok (.int xs.length), st) | _ => none) Q E ↔ _
  rw [h]; exact Iff.rfl
@[simp↓] theorem wp_intI {i : Int} : wpE (fInt [.int i] st) Q E ↔ Q (.int i) st := Iff.rfl
@[simp↓] theorem wp_intB {k : Bool} : wpE (fInt [.bl k] st) Q E ↔ Q (.int (if k then 1 else 0)) st := Iff.rfl
@[simp↓] theorem wp_ixS {l : List Nat} {i : Int} : wpE (fIx (.str l) (.int i) st) Q E ↔ if l.length ≤ sizeLine then wpE (lift ((L2.atI l i).map fun c => DV.str [c]) st) Q E else False := wp_iteM
@[simp↓] theorem wp_ixT {xs : List DV} {i : Int} : wpE (fIx (.tup xs) (.int i) st) Q E ↔ wpE (lift (L2.atI xs i) st) Q E := Iff.rfl
@[simp↓] theorem wp_ixF {xs : List DV} {i : Int} : wpE (fIx (.fl xs) (.int i) st) Q E ↔ wpE (lift (L2.atI xs i) st) Q E := Iff.rfl
theorem wp_ixL {a : Nat} {i : Int} {xs : List DV} (h : st.get a = some (.lst xs)) : wpE (fIx (.ref a) (.int i) st) Q E ↔ wpE (lift (L2.atI xs i) st) Q E := by
  show wpE (match st.get a with | some (.lst xs) => lift (L2.atI xs i) st | _ => none) Q E ↔ _
  rw [h]
@[simp↓] theorem wp_slS {l : List Nat} {lo hi : Option Int} : wpE (fSl (.str l) lo hi st) Q E ↔ if l.length ≤ sizeLine then Q (.str (cutL l lo hi)) st else False := wp_iteM
@[simp↓] theorem wp_slF {l : List DV} {lo hi : Option Int} : wpE (fSl (.fl l) lo hi st) Q E ↔ Q (.ref st.size) (st.push (.lst (cutL l lo hi))) := Iff.rfl
theorem wp_eqT {neg : Bool} {x y : DV} {t u : TV} (hx : rd 60 st x = some t) (hy : rd 60 st y = some u) (ho : (okT 60 t && okT 60 u) = true) : wpE (fEq neg x y st) Q E ↔ Q (.bl (neg != eqT t u)) st := by
  unfold fEq
  rw [hx]
  dsimp only
  rw [hy]
  dsimp only
  rw [if_pos ho]
  exact Iff.rfl
def okS (x : List Nat) : Bool := x.all fun c => Nat.blt c 1114112
theorem wp_eqS0 {neg : Bool} {a b : List Nat} : wpE (fEq neg (.str a) (.str b) st) Q E ↔ if (okS a && okS b) = true then Q (.bl (neg != (a == b))) st else False := by
  by_cases h : (okS a && okS b) = true
  · rw [if_pos h]
    exact wp_eqT (t := .str a) (u := .str b) rfl rfl h
  · rw [if_neg h]
    show wpE (if (okT 60 (.str a) && okT 60 (.str b)) = true then _ else none) Q E ↔ False
    rw [if_neg (show ¬ (okT 60 (.str a) && okT 60 (.str b)) = true from h)]
    exact Iff.rfl
@[simp↓] theorem wp_eqS {neg : Bool} {a b : List Nat} : wpE (fEq neg (.str a) (.str b) st) Q E ↔ if (okS a && okS b) = true then Q (.bl (neg != (a == b))) st else False := wp_eqS0
@[simp↓] theorem wp_eqI {neg : Bool} {a b : Int} : wpE (fEq neg (.int a) (.int b) st) Q E ↔ Q (.bl (neg != (a == b))) st := wp_eqT (t := .int a) (u := .int b) rfl rfl rfl
end
end SE

/-! SE: loops, comprehensions, stores that only grow: rules for plain laws. -/
namespace SE
open PySem PySem.Spec PyProof.Rows L2

@[simp] theorem isNon_non : SE.isNon .non = true := rfl
@[simp] theorem isNon_bl {b : Bool} : SE.isNon (.bl b) = false := rfl
@[simp] theorem isNon_int {b : Int} : SE.isNon (.int b) = false := rfl
@[simp] theorem isNon_str {b : List Nat} : SE.isNon (.str b) = false := rfl
@[simp] theorem isNon_tup {b : List DV} : SE.isNon (.tup b) = false := rfl
@[simp] theorem isNon_ref {b : Nat} : SE.isNon (.ref b) = false := rfl
/-- the store has grown; what stood but at places of r stands -/
structure Ext (r : Nat → Bool) (st st' : Store) : Prop where
  le : st.n ≤ st'.n
  at_ : ∀ k, k < st.n → r k = false → st'.get k = st.get k
abbrev no : Nat → Bool := fun _ => false
abbrev at1 (a : Nat) : Nat → Bool := fun k => k == a
theorem Ext.refl {r : Nat → Bool} {st : Store} : Ext r st st := ⟨Nat.le_refl _, fun _ _ _ => rfl⟩
theorem Ext.trans {r : Nat → Bool} {a b c : Store} (h : Ext r a b) (k : Ext r b c) : Ext r a c := ⟨Nat.le_trans h.le k.le, fun i hi hr => (k.at_ i (Nat.lt_of_lt_of_le hi h.le) hr).trans (h.at_ i hi hr)⟩
theorem Ext.weak {r r' : Nat → Bool} {a b : Store} (h : Ext r a b) (k : ∀ i, r' i = false → r i = false) : Ext r' a b := ⟨h.le, fun i hi hr => h.at_ i hi (k i hr)⟩
theorem Ext.any {r : Nat → Bool} {a b : Store} (h : Ext no a b) : Ext r a b := h.weak fun _ _ => rfl
theorem Ext.push {r : Nat → Bool} {st : Store} {o : DO} : Ext r st (st.push o) := ⟨Nat.le_succ _, fun k hk _ => Store.get_push_lt o hk⟩
theorem Ext.set {r : Nat → Bool} {st : Store} {a : Nat} {o : DO} (h : r a = true) (ha : a < st.n) : Ext r st (st.set a o) := ⟨Nat.le_refl _, fun k hk hr => Store.get_set_ne o (fun e => by subst e; rw [h] at hr; cases hr) hk ha⟩
theorem Ext.get {r : Nat → Bool} {a b : Store} (h : Ext r a b) {k : Nat} {o : DO} (e : a.get k = some o) (hr : r k = false) : b.get k = some o := (h.at_ k (Store.get_lt e) hr).trans e
/-- an older object set beyond what stood -/
theorem Ext.setNew {r : Nat → Bool} {a b : Store} (h : Ext r a b) {k : Nat} {o : DO} (hk : a.n ≤ k) (hb : k < b.n) : Ext r a (b.set k o) :=
  ⟨h.le, fun i hi hr => (Store.get_set_ne o (by omega) (Nat.lt_of_lt_of_le hi h.le) hb).trans (h.at_ i hi hr)⟩
theorem set_push {st : Store} {o o' : DO} : (st.push o).set st.size o' = st.push o' := by
  show (⟨st.n + 1, (o :: st.l).set (st.n + 1 - 1 - st.n) o'⟩ : Store) = ⟨st.n + 1, o' :: st.l⟩
  have : st.n + 1 - 1 - st.n = 0 := by omega
  rw [this]
  rfl
theorem get_new {st : Store} {o : DO} : (st.push o).get st.size = some o := Store.get_push_self st o
theorem get_new' {st : Store} {o : DO} : (st.push o).get st.n = some o := Store.get_push_self st o

/-! ### for -/
def forQ (P : Ev → Store → Prop) (Q : SO → Store → Prop) : SO → Store → Prop
  | .nx e, s => P e s
  | .ct e, s => P e s
  | .bk e, s => Q (.nx e) s
  | .rt v, s => Q (.rt v) s
  | .er C v e, s => Q (.er C v e) s
section
variable {P : Ev → Store → Prop} {Q : SO → Store → Prop} {s : Store} {e : Ev} {v : DV} {C : Nat}
@[simp] theorem forQ_nx : forQ P Q (.nx e) s ↔ P e s := Iff.rfl
@[simp] theorem forQ_ct : forQ P Q (.ct e) s ↔ P e s := Iff.rfl
@[simp] theorem forQ_bk : forQ P Q (.bk e) s ↔ Q (.nx e) s := Iff.rfl
@[simp] theorem forQ_rt : forQ P Q (.rt v) s ↔ Q (.rt v) s := Iff.rfl
@[simp] theorem forQ_er : forQ P Q (.er C v e) s ↔ Q (.er C v e) s := Iff.rfl
end
theorem wp_forI {I : ItD} {B : Bd} {body : DS} {Q : SO → Store → Prop} (xs : List DV) (P : Nat → Ev → Store → Prop)
    (hi : ∀ i env st, P i env st → i ≤ xs.length → itNext I i st = some xs[i]?)
    (hs : ∀ i x env st, xs[i]? = some x → P i env st → match B x st with | none => False | some bs => wpS (body (setsE env bs) st) (forQ (P (i + 1)) Q))
    (he : ∀ env st, P xs.length env st → Q (.nx env) st) : ∀ (f i : Nat) (env : Ev) (st : Store), xs.length - i < f → i ≤ xs.length → P i env st → wpS (forI I B body f i env st) Q
  | 0, i, env, st, hf, _, _ => by omega
  | f + 1, i, env, st, hf, hl, hp => by
    unfold forI
    rw [hi i env st hp hl]
    cases hx : xs[i]? with
    | none =>
      have : i = xs.length := by
        have := List.getElem?_eq_none_iff.mp hx
        omega
      subst this
      exact he env st hp
    | some x =>
      have hlt : i < xs.length := (List.getElem?_eq_some_iff.mp hx).1
      have h := hs i x env st hx hp
      dsimp only
      cases hb : B x st with
      | none => rw [hb] at h; exact h.elim
      | some bs =>
        rw [hb] at h
        dsimp only at h ⊢
        cases hbd : body (setsE env bs) st with
        | none => rw [hbd] at h; exact h.elim
        | some o =>
          obtain ⟨o, st'⟩ := o
          rw [hbd] at h
          cases o with
          | nx e => exact wp_forI xs P hi hs he f (i + 1) e st' (by omega) (by omega) h
          | ct e => exact wp_forI xs P hi hs he f (i + 1) e st' (by omega) (by omega) h
          | bk e => exact h
          | rt v => exact h
          | er C v e => exact h
theorem wps_for {di : DI} {B : Bd} {body : DS} {env : Ev} {st : Store} {Q : SO → Store → Prop} : wpS (sFor di B body env st) Q ↔ wpE (di env st) (fun I s => wpS (forI I B body fuel 0 env s) Q) (fun C v s => Q (.er C v env) s) := wps_ofE
/-- the loop over what is known -/
theorem wp_for {I : ItD} {B : Bd} {body : DS} {Q : SO → Store → Prop} (xs : List DV) (P : Nat → Ev → Store → Prop) {env : Ev} {st : Store} (hf : xs.length < 16777300) (h0 : P 0 env st)
    (hi : ∀ i env st, P i env st → i ≤ xs.length → itNext I i st = some xs[i]?)
    (hs : ∀ i x env st, xs[i]? = some x → P i env st → match B x st with | none => False | some bs => wpS (body (setsE env bs) st) (forQ (P (i + 1)) Q))
    (he : ∀ env st, P xs.length env st → Q (.nx env) st) : wpS (forI I B body fuel 0 env st) Q := wp_forI xs P hi hs he fuel 0 env st (by unfold fuel; omega) (Nat.zero_le _) h0
/-! what is walked -/
theorem nx_seq {xs : List DV} {i : Nat} {st : Store} : itNext (.seq xs) i st = some xs[i]? := rfl
theorem nx_lst {xs : List DV} {a i : Nat} {st : Store} (h : st.get a = some (.lst xs)) : itNext (.lst a) i st = some xs[i]? := by
  show (lstAt st a).map _ = _
  unfold lstAt
  rw [h]
  rfl
def rngL (lo c : Int) (n : Nat) : List DV := (List.range n).map fun i => .int (lo + (i : Nat) * c)
theorem nx_rng {lo c : Int} {n i : Nat} {st : Store} : itNext (.rng lo c n) i st = some (rngL lo c n)[i]? := by
  show some (if i < n then some (DV.int (lo + (i : Nat) * c)) else none) = _
  unfold rngL
  rw [List.getElem?_map]
  by_cases h : i < n
  · rw [if_pos h, List.getElem?_range h]; rfl
  · rw [if_neg h, List.getElem?_eq_none (by simpa using h)]; rfl
def enumSL (xs : List Nat) : List DV := (xs.zipIdx).map fun p => .tup [.int (p.2 : Nat), .str [p.1]]
theorem nx_enumS {xs : List Nat} {i : Nat} {st : Store} (h : i ≤ xs.length) : itNext (.enumS xs) i st = some (enumSL xs)[i]? := by
  show (if i ≤ xs.length then some (xs[i]?.map fun c => DV.tup [.int (i : Nat), .str [c]]) else none) = _
  rw [if_pos h]
  unfold enumSL
  rw [List.getElem?_map, List.getElem?_zipIdx]
  cases xs[i]? <;> simp
def enumL (xs : List DV) : List DV := (xs.zipIdx).map fun p => .tup [.int (p.2 : Nat), p.1]
theorem nx_enumL {xs : List DV} {a i : Nat} {st : Store} (h : st.get a = some (.lst xs)) : itNext (.enumL a) i st = some (enumL xs)[i]? := by
  show (lstAt st a).map _ = _
  unfold lstAt
  rw [h]
  unfold enumL
  rw [List.getElem?_map, List.getElem?_zipIdx]
  show some (xs[i]?.map _) = _
  cases xs[i]? <;> simp
theorem rngL_length {lo c : Int} {n : Nat} : (rngL lo c n).length = n := by simp [rngL]
theorem enumSL_length {xs : List Nat} : (enumSL xs).length = xs.length := by simp [enumSL]
section
variable {QI : ItD → Store → Prop} {E : Nat → DV → Store → Prop} {st : Store} {env : Ev} {d : DE} {da : DA}
theorem wpi_val : wpE (iVal d env st) QI E ↔ wpE (d env st) (fun v s => match itV v s with | some I => QI I s | none => False) E := by
  unfold iVal
  rw [wp_bnd]
  apply iff_of_eq; congr 1; funext v s
  cases itV v s <;> rfl
def itv (v : DV) : MM ItD := fun s => (itV v s).map fun I => (.ok I, s)
@[simp↓] theorem wpi_val' : wpE (iVal d env st) QI E ↔ wpE (d env st) (fun v s => wpE (itv v s) QI E) E := wp_bnd
@[simp↓] theorem wp_itvS {l : List Nat} : wpE (itv (.str l) st) QI E ↔ QI (.seq (l.map fun c => .str [c])) st := Iff.rfl
@[simp↓] theorem wp_itvT {xs : List DV} : wpE (itv (.tup xs) st) QI E ↔ QI (.seq xs) st := Iff.rfl
theorem wp_itvL {a : Nat} {xs : List DV} (h : st.get a = some (.lst xs)) : wpE (itv (.ref a) st) QI E ↔ QI (.lst a) st := by
  show wpE (((lstAt st a).map fun _ => ItD.lst a).map fun I => ((.ok I : Out ItD), st)) QI E ↔ _
  unfold lstAt
  rw [h]
  exact Iff.rfl
def itf (f : List DV → Store → Option ItD) (xs : List DV) : MM ItD := fun s => (f xs s).map fun I => (.ok I, s)
@[simp↓] theorem wpi_arg {f : List DV → Store → Option ItD} : wpE (iArg f da env st) QI E ↔ wpE (da env st) (fun v s => wpE (itf f v s) QI E) E := wp_bnd
@[simp↓] theorem wp_rng1 {j : Int} : wpE (itf (fun vs _ => itRng1 vs) [.int j] st) QI E ↔ if rngOk j = true then QI (.rng 0 1 j.toNat) st else False := by
  show wpE ((if rngOk j = true then some (ItD.rng 0 1 j.toNat) else none).map fun I => ((.ok I : Out ItD), st)) QI E ↔ _
  by_cases h : rngOk j = true
  · rw [if_pos h, if_pos h]; exact Iff.rfl
  · rw [if_neg h, if_neg h]; exact Iff.rfl
@[simp↓] theorem wp_rng2 {i j : Int} : wpE (itf (fun vs _ => itRng2 vs) [.int i, .int j] st) QI E ↔ if (rngOk i && rngOk j) = true then QI (.rng i 1 (j - i).toNat) st else False := by
  show wpE ((if (rngOk i && rngOk j) = true then some (ItD.rng i 1 (j - i).toNat) else none).map fun I => ((.ok I : Out ItD), st)) QI E ↔ _
  by_cases h : (rngOk i && rngOk j) = true
  · rw [if_pos h, if_pos h]; exact Iff.rfl
  · rw [if_neg h, if_neg h]; exact Iff.rfl
@[simp↓] theorem wp_enumS {l : List Nat} : wpE (itf itEnum [.str l] st) QI E ↔ QI (.enumS l) st := Iff.rfl
theorem wp_enumL {a : Nat} {xs : List DV} (h : st.get a = some (.lst xs)) : wpE (itf itEnum [.ref a] st) QI E ↔ QI (.enumL a) st := by
  show wpE (((lstAt st a).map fun _ => ItD.enumL a).map fun I => ((.ok I : Out ItD), st)) QI E ↔ _
  unfold lstAt
  rw [h]
  exact Iff.rfl
end
/-! ### comprehensions -/
@[simp↓] theorem wp_lc {di : DI} {B : Bd} {tt : DT} {te : DE} {vs : List Nat} {env : Ev} {st : Store} {Q : DV → Store → Prop} {E : Nat → DV → Store → Prop} :
    wpE (dLc di B tt te vs env st) Q E ↔ wpE (di env st) (fun I s => wpE (compI I B tt te (wipeE env vs) s.size fuel 0 (s.push (.lst []))) Q E) E := wp_bnd
theorem wp_compI {I : ItD} {B : Bd} {tt : DT} {te : DE} {env : Ev} {n0 : Nat} {Q : DV → Store → Prop} {E : Nat → DV → Store → Prop} (xs : List DV) (P : Nat → List DV → Store → Prop)
    (hi : ∀ i acc st, P i acc st → i ≤ xs.length → itNext I i st = some xs[i]?)
    (hs : ∀ i x acc st, xs[i]? = some x → P i acc st → match B x st with | none => False | some bs => wpE (tt (setsE env bs) st) (fun k s => if k = true then wpE (te (setsE env bs) s) (fun y s' => s'.get n0 = some (.lst acc) ∧ acc.length < sizeLine ∧ P (i + 1) (acc ++ [y]) (s'.set n0 (.lst (acc ++ [y])))) noE else P (i + 1) acc s) noE)
    (he : ∀ acc st, P xs.length acc st → Q (.ref n0) st) : ∀ (f i : Nat) (acc : List DV) (st : Store), xs.length - i < f → i ≤ xs.length → P i acc st → wpE (compI I B tt te env n0 f i st) Q E
  | 0, i, acc, st, hf, _, _ => by omega
  | f + 1, i, acc, st, hf, hl, hp => by
    unfold compI
    rw [hi i acc st hp hl]
    cases hx : xs[i]? with
    | none =>
      have : i = xs.length := by
        have := List.getElem?_eq_none_iff.mp hx
        omega
      subst this
      exact he acc st hp
    | some x =>
      have hlt : i < xs.length := (List.getElem?_eq_some_iff.mp hx).1
      have h := hs i x acc st hx hp
      dsimp only
      cases hb : B x st with
      | none => rw [hb] at h; exact h.elim
      | some bs =>
        rw [hb] at h
        dsimp only at h ⊢
        obtain ⟨k, s, e1, h⟩ := wpE_elim h
        rw [e1]
        cases k with
        | false => exact wp_compI xs P hi hs he f (i + 1) acc s (by omega) (by omega) h
        | true =>
          rw [if_pos rfl] at h
          obtain ⟨y, s', e2, h1, h2, h3⟩ := wpE_elim h
          dsimp only
          rw [e2]
          dsimp only
          rw [h1]
          dsimp only
          rw [if_pos h2]
          exact wp_compI xs P hi hs he f (i + 1) _ _ (by omega) (by omega) h3
/-- .. -/
theorem wp_comp {I : ItD} {B : Bd} {tt : DT} {te : DE} {env : Ev} {n0 : Nat} {st : Store} {Q : DV → Store → Prop} {E : Nat → DV → Store → Prop} (xs : List DV) (P : Nat → List DV → Store → Prop) (hf : xs.length < 16777300) (h0 : P 0 [] st)
    (hi : ∀ i acc st, P i acc st → i ≤ xs.length → itNext I i st = some xs[i]?)
    (hs : ∀ i x acc st, xs[i]? = some x → P i acc st → match B x st with | none => False | some bs => wpE (tt (setsE env bs) st) (fun k s => if k = true then wpE (te (setsE env bs) s) (fun y s' => s'.get n0 = some (.lst acc) ∧ acc.length < sizeLine ∧ P (i + 1) (acc ++ [y]) (s'.set n0 (.lst (acc ++ [y])))) noE else P (i + 1) acc s) noE)
    (he : ∀ acc st, P xs.length acc st → Q (.ref n0) st) : wpE (compI I B tt te env n0 fuel 0 st) Q E := wp_compI xs P hi hs he fuel 0 [] st (by unfold fuel; omega) (Nat.zero_le _) h0
theorem take_succ {α : Type} {l : List α} {i : Nat} {x : α} (h : l[i]? = some x) : l.take (i + 1) = l.take i ++ [x] := by
  rw [List.take_add_one, h]; rfl
/-- a comprehension whose test and element leave the store as it is -/
theorem wp_compP {I : ItD} {B : Bd} {tt : DT} {te : DE} {env : Ev} {st : Store} {Q : DV → Store → Prop} {E : Nat → DV → Store → Prop} (xs : List DV) (p : DV → Bool) (f : DV → DV) (hf : xs.length < 16777216)
    (hi : ∀ i acc, i ≤ xs.length → itNext I i (st.push (.lst acc)) = some xs[i]?)
    (hs : ∀ x acc, x ∈ xs → match B x (st.push (.lst acc)) with | none => False | some bs => wpE (tt (setsE env bs) (st.push (.lst acc))) (fun k s => k = p x ∧ s = st.push (.lst acc)) noE ∧ (p x = true → wpE (te (setsE env bs) (st.push (.lst acc))) (fun y s => y = f x ∧ s = st.push (.lst acc)) noE))
    (he : Q (.ref st.size) (st.push (.lst ((xs.filter p).map f)))) : wpE (compI I B tt te env st.size fuel 0 (st.push (.lst []))) Q E := by
  refine wp_comp xs (fun i acc s => s = st.push (.lst acc) ∧ acc = ((xs.take i).filter p).map f) (by omega) ⟨rfl, by simp⟩ ?_ ?_ ?_
  · rintro i acc s ⟨rfl, _⟩ hl
    exact hi i acc hl
  · rintro i x acc s hx ⟨rfl, ha⟩
    have h := hs x acc (List.mem_of_getElem? hx)
    cases hb : B x (st.push (.lst acc)) with
    | none => rw [hb] at h; exact h.elim
    | some bs =>
      rw [hb] at h
      obtain ⟨h1, h2⟩ := h
      refine wpE_ok h1 ?_
      rintro k s ⟨rfl, rfl⟩
      have hlt : i < xs.length := (List.getElem?_eq_some_iff.mp hx).1
      by_cases hp : p x = true
      · rw [if_pos hp]
        refine wpE_ok (h2 hp) ?_
        rintro y s ⟨rfl, rfl⟩
        refine ⟨get_new, ?_, set_push, ?_⟩
        · rw [ha, List.length_map]
          have h1 := List.length_filter_le p (xs.take i)
          rw [List.length_take] at h1
          have : sizeLine = 16777216 := sizeLine_eq
          omega
        · rw [take_succ hx, List.filter_append, List.map_append, ← ha]
          simp [hp]
      · rw [if_neg hp]
        refine ⟨rfl, ?_⟩
        rw [take_succ hx, List.filter_append, List.map_append, ← ha]
        simp [hp]
  · rintro acc s ⟨rfl, ha⟩
    rw [ha, List.take_length]
    exact he
end SE

namespace K91
open PySem PySem.Spec PyProof.Rows L2 SE
abbrev LET : List Nat := [97, 98, 99, 100, 101, 102, 103, 104, 105, 106, 107, 108, 109, 110, 111, 112, 113, 114, 115, 116, 117, 118, 119, 120, 121, 122]
abbrev FIG : List Nat := [48, 49, 50, 51, 52, 53, 54, 55, 56, 57]
theorem sizeLine_is : sizeLine = 16777216 := sizeLine_eq
theorem let_iff {c : Nat} : LET.contains c = true ↔ 97 ≤ c ∧ c ≤ 122 := by
  simp [LET]
  omega
theorem fig_iff {c : Nat} : FIG.contains c = true ↔ 48 ≤ c ∧ c ≤ 57 := by
  simp [FIG]
  omega
theorem tw_self {p : Nat → Bool} : ∀ {l : List Nat}, l.all p = true → l.takeWhile p = l
  | [], _ => rfl
  | x :: r, h => by
    rw [List.all_cons, Bool.and_eq_true] at h
    rw [List.takeWhile_cons, if_pos h.1, tw_self h.2]
theorem tw_len {p : Nat → Bool} : ∀ l : List Nat, (l.takeWhile p).length ≤ l.length
  | [] => Nat.le_refl _
  | x :: r => by
    rw [List.takeWhile_cons]
    by_cases h : p x = true
    · rw [if_pos h, List.length_cons, List.length_cons]; exact Nat.succ_le_succ (tw_len r)
    · rw [if_neg h]; exact Nat.zero_le _
theorem tw_split {p : Nat → Bool} : ∀ {l : List Nat}, ¬ l.all p = true → ∃ x r, l = l.takeWhile p ++ x :: r ∧ p x = false
  | [], h => absurd rfl h
  | x :: r, h => by
    rw [List.takeWhile_cons]
    by_cases hx : p x = true
    · rw [if_pos hx]
      rw [List.all_cons, hx, Bool.true_and] at h
      obtain ⟨y, t, e, hy⟩ := tw_split h
      exact ⟨y, t, congrArg (x :: ·) e, hy⟩
    · rw [if_neg hx]
      exact ⟨x, r, rfl, Bool.eq_false_iff.mpr hx⟩
theorem tw_app {p : Nat → Bool} {x : Nat} {b : List Nat} (hx : p x = false) : ∀ a : List Nat, ((a ++ x :: b).takeWhile p).length ≤ a.length
  | [] => by rw [List.nil_append, List.takeWhile_cons, if_neg (by rw [hx]; exact Bool.false_ne_true)]; exact Nat.le_refl _
  | y :: a => by
    rw [List.cons_append, List.takeWhile_cons]
    by_cases h : p y = true
    · rw [if_pos h, List.length_cons, List.length_cons]; exact Nat.succ_le_succ (tw_app hx a)
    · rw [if_neg h]; exact Nat.zero_le _
theorem strip_nil {cs l : List Nat} : (stripL cs l == []) = l.all cs.contains := by
  unfold stripL
  by_cases h : l.all cs.contains = true
  · rw [h, tw_self h]
    simp
  · rw [Bool.eq_false_iff.mpr h]
    obtain ⟨x, r, e, hx⟩ := tw_split h
    have e2 : l.drop (l.takeWhile cs.contains).length = x :: r := by
      conv => lhs; rw [e]
      rw [List.drop_append_of_le_length (by have := tw_len (p := cs.contains) l; first | omega | (rw [← e]; exact Nat.le_refl _))]
      rw [← e]
      simp
    rw [e2]
    have h3 : ((x :: r).reverse.takeWhile cs.contains).length ≤ r.length := by
      rw [List.reverse_cons]
      have := tw_app hx r.reverse (b := [])
      rwa [List.length_reverse] at this
    have hl : l.length = (l.takeWhile cs.contains).length + (r.length + 1) := by
      have := congrArg List.length e
      rwa [List.length_append, List.length_cons] at this
    obtain ⟨k, hk⟩ : ∃ k, l.length - ((x :: r).reverse.takeWhile cs.contains).length - (l.takeWhile cs.contains).length = k + 1 := ⟨_, (Nat.succ_pred_eq_of_pos (by omega)).symm⟩
    rw [hk]
    rfl
theorem atI_nn {α : Type} {xs : List α} {i : Int} (h : 0 ≤ i) : L2.atI xs i = xs[i.toNat]? := by
  unfold L2.atI L2.ixN
  rw [if_pos h]
  by_cases h2 : i < xs.length
  · rw [if_pos h2]; rfl
  · rw [if_neg h2, List.getElem?_eq_none (by omega)]; rfl
@[simp] theorem atI_nat {α : Type} {xs : List α} {k : Nat} : L2.atI xs (k : Int) = xs[k]? := atI_nn (Int.natCast_nonneg k)
@[simp] theorem atI_nat1 {α : Type} {xs : List α} {k : Nat} : L2.atI xs ((k : Int) + 1) = xs[k + 1]? := atI_nn (by omega)
@[simp] theorem atI_0 {α : Type} {xs : List α} : L2.atI xs 0 = xs[0]? := atI_nn (Int.le_refl 0)
@[simp] theorem atI_1 {α : Type} {xs : List α} : L2.atI xs 1 = xs[1]? := atI_nn (by decide)
@[simp] theorem atI_2 {α : Type} {xs : List α} : L2.atI xs 2 = xs[2]? := atI_nn (by decide)
theorem strip_ok {cs l : List Nat} (h : okS l = true) : okS (stripL cs l) = true := by
  unfold okS stripL at *
  rw [List.all_eq_true] at h ⊢
  exact fun x hx => h x (List.mem_of_mem_drop (List.mem_of_mem_take hx))
section
variable {Q : DV → Store → Prop} {E : Nat → DV → Store → Prop} {st : Store}
@[simp↓] theorem p_isiI {i : Int} : wpE (isi "int" (.int i) st) Q E ↔ Q (.bl true) st := Iff.rfl
@[simp↓] theorem p_isiIb {i : Bool} : wpE (isi "int" (.bl i) st) Q E ↔ Q (.bl true) st := Iff.rfl
@[simp↓] theorem p_isiB {i : Int} : wpE (isi "bool" (.int i) st) Q E ↔ Q (.bl false) st := Iff.rfl
@[simp↓] theorem p_isiBb {i : Bool} : wpE (isi "bool" (.bl i) st) Q E ↔ Q (.bl true) st := Iff.rfl
@[simp↓] theorem p_isiS {l : List Nat} : wpE (isi "str" (.str l) st) Q E ↔ Q (.bl true) st := Iff.rfl
@[simp↓] theorem p_isiT {l : List DV} : wpE (isi "tuple" (.tup l) st) Q E ↔ Q (.bl true) st := Iff.rfl
@[simp↓] theorem p_tyS {l : List Nat} : tyD "str" (.str l) st = true := rfl
theorem p_isiL {a : Nat} {xs : List DV} (h : st.get a = some (.lst xs)) : wpE (isi "list" (.ref a) st) Q E ↔ Q (.bl true) st := by
  have e : isi "list" (.ref a) st = some (.ok (.bl true), st) := by
    have ht : tyN (.ref a) st = some "list" := by
      show (match st.get a with | some (.lst _) => some "list" | some (.dct _) => some "dict" | _ => none) = some "list"
      rw [h]
    unfold isi
    rw [ht]
    rfl
  rw [e]
  exact Iff.rfl
theorem run_of {r : Option (Out DV × Store)} {v : DV} (h : wpE r (fun a s => a = v ∧ s = st) noE) : r = some (.ok v, st) := by
  obtain ⟨a, s, e, rfl, rfl⟩ := wpE_elim h
  exact e
@[simp] theorem okS_nil : okS [] = true := rfl
@[simp] theorem okS_cons {c : Nat} {r : List Nat} : okS (c :: r) = (decide (c < 1114112) && okS r) := by
  show (Nat.blt c 1114112 && okS r) = _
  congr 1
  by_cases h : c < 1114112
  · rw [decide_eq_true h]; exact Nat.ble_eq_true_of_le h
  · rw [decide_eq_false h]
    exact Bool.eq_false_iff.mpr fun e => h (Nat.le_of_ble_eq_true e)
theorem okS_app {a b : List Nat} : okS (a ++ b) = (okS a && okS b) := by simp [okS, List.all_append]
def low (c : Nat) : Bool := LET.contains c
def fig (c : Nat) : Bool := FIG.contains c
@[simp] theorem low_mem {c : Nat} : decide (c ∈ LET) = low c := by unfold low; simp
theorem low_lt {c : Nat} (h : low c = true) : 97 ≤ c ∧ c ≤ 122 := let_iff.mp h
theorem fig_lt {c : Nat} (h : fig c = true) : 48 ≤ c ∧ c ≤ 57 := fig_iff.mp h
theorem strip_low {l : List Nat} : (stripL [97, 98, 99, 100, 101, 102, 103, 104, 105, 106, 107, 108, 109, 110, 111, 112, 113, 114, 115, 116, 117, 118, 119, 120, 121, 122] l).isEmpty = l.all low := by
  have := strip_nil (cs := LET) (l := l)
  rw [List.beq_nil_eq] at this
  exact this
theorem okS_low {l : List Nat} (h : l.all low = true) : okS l = true := by
  unfold okS
  rw [List.all_eq_true] at h ⊢
  intro x hx
  have := low_lt (h x hx)
  exact Nat.ble_eq_true_of_le (by omega)
@[simp↓] theorem p_whole {i : Int} : wpE (g_is_whole [.int i] st) Q E ↔ Q (.bl true) st := Iff.rfl
@[simp↓] theorem p_wholeB {i : Bool} : wpE (g_is_whole [.bl i] st) Q E ↔ Q (.bl false) st := Iff.rfl
@[simp↓] theorem e_between {v : Int} : g_is_between [.int v, .int 1, .non] st = some (.ok (.bl (decide (1 ≤ v))), st) := run_of <| by
  unfold g_is_between
  rw [wp_def]
  unfold d_is_between
  simp [startE, List.replicate]
@[simp↓] theorem e_betweenB {v : Bool} : g_is_between [.bl v, .int 1, .non] st = some (.ok (.bl false), st) := run_of <| by
  unfold g_is_between
  rw [wp_def]
  unfold d_is_between
  simp [startE, List.replicate]
@[simp↓] theorem p_strip {a b : List Nat} : wpE (mStrip (.str a) [.str b] st) Q E ↔ if a.length ≤ sizeLine then Q (.str (stripL b a)) st else False := wp_iteM
theorem e_letters {l : List Nat} (h1 : okS l = true) (h2 : l.length ≤ 16777216) : g_is_letters_alone [.str l] st = some (.ok (.bl (l.all low)), st) := run_of <| by
  unfold g_is_letters_alone
  rw [wp_def]
  unfold d_is_letters_alone
  simp [startE, sizeLine_is, h2, strip_ok h1, strip_low]
/-- a right or wrong price -/
theorem e_price {c : Nat} {v : Int} (hc : c < 1114112) : g_is_price [.tup [.str [c], .int v]] st = some (.ok (.bl (low c && decide (1 ≤ v))), st) := run_of <| by
  unfold g_is_price
  rw [wp_def]
  unfold d_is_price
  simp [startE, List.replicate, sizeLine_is, hc, L2.atI, L2.ixN, e_letters]
  by_cases h : low c = true <;> simp [h]
/-! lists of prices -/
def prD (p : Nat × Int) : DV := .tup [.str [p.1], .int p.2]
def priceOk (p : Nat × Int) : Bool := low p.1 && decide (1 ≤ p.2)
theorem rdL_all {f : DV → Option TV} {g : DV → TV} : ∀ {xs : List DV}, (∀ x ∈ xs, f x = some (g x)) → rdL f xs = some (xs.map g)
  | [], _ => rfl
  | x :: xs, h => by
    unfold rdL
    rw [h x List.mem_cons_self]
    dsimp only
    rw [rdL_all fun y hy => h y (List.mem_cons_of_mem _ hy)]
    rfl
theorem okTs_all {n : Nat} : ∀ {ts : List TV}, (∀ t ∈ ts, okT n t = true) → okTs n ts = true
  | [], _ => rfl
  | t :: ts, h => by
    show (okT n t && okTs n ts) = true
    rw [h t List.mem_cons_self, okTs_all fun y hy => h y (List.mem_cons_of_mem _ hy)]
    rfl
theorem rd_lst {f : Nat} {a : Nat} {xs : List DV} {g : DV → TV} (h : st.get a = some (.lst xs)) (hg : ∀ x ∈ xs, rd f st x = some (g x)) : rd (f + 1) st (.ref a) = some (.lst (xs.map g)) := by
  show (match st.get a with | some (.lst xs) => (rdL (rd f st) xs).map TV.lst | _ => none) = _
  rw [h]
  dsimp only
  rw [rdL_all hg]
  rfl
/-- a list that is read, against [] -/
theorem e_eqNil {neg : Bool} {a b : Nat} {xs : List DV} {g : DV → TV} (h : st.get a = some (.lst xs)) (hb : st.get b = some (.lst [])) (hg : ∀ x ∈ xs, rd 59 st x = some (g x)) (ho : ∀ x ∈ xs, okT 59 (g x) = true) :
    fEq neg (.ref a) (.ref b) st = some (.ok (.bl (neg != xs.isEmpty)), st) := run_of <| by
  rw [wp_eqT (rd_lst h hg) (rd_lst (g := g) hb (fun x hx => by cases hx)) ?_]
  · refine ⟨?_, rfl⟩
    cases xs <;> rfl
  · show (okTs 59 (xs.map g) && okTs 59 []) = true
    rw [okTs_all fun t ht => by
      obtain ⟨x, hx, rfl⟩ := List.mem_map.mp ht
      exact ho x hx]
    rfl
def tvD : DV → TV
  | .tup [.str c, .int v] => .tup [.str c, .int v]
  | .int i => .int i
  | .str c => .str c
  | .bl b => .bl b
  | _ => .non
def riseP (cs : List Nat) : Bool := ((rngL 1 1 (cs.length - 1)).filter fun x => match x with
  | .int i => !ltS [cs.getD (i.toNat - 1) 0] [cs.getD i.toNat 0]
  | _ => false).isEmpty
theorem g_rises_ok {a : Nat} {cs : List Nat} (h : st.get a = some (.lst (cs.map fun c => .str [c]))) (hl : cs.length < 10000) : wpE (g_rises [.ref a] st) (fun v s => v = .bl (riseP cs) ∧ Ext no st s) noE := by
  unfold g_rises
  rw [wp_def]
  unfold d_rises
  have hr : (rngOk 1 && rngOk (cs.length : Int)) = true := by
    unfold rngOk
    simp
    omega
  simp [startE, List.replicate, wp_lenL h, hr, wipeE]
  refine wp_compP (rngL 1 1 (cs.length - 1)) (fun x => match x with
    | .int i => !ltS [cs.getD (i.toNat - 1) 0] [cs.getD i.toNat 0]
    | _ => false) (fun x => x) (by rw [rngL_length]; omega) (fun i acc _ => nx_rng) (fun x acc hx => ?_) ?_
  · obtain ⟨k, hk, rfl⟩ : ∃ k, k < cs.length - 1 ∧ x = .int ((k : Int) + 1) := by
      unfold rngL at hx
      obtain ⟨k, hk, e⟩ := List.mem_map.mp hx
      exact ⟨k, List.mem_range.mp hk, by rw [← e, show (1 + (k : Int) * 1) = (k : Int) + 1 by omega]⟩
    have hg : ∀ acc, (st.push (.lst acc)).get a = some (.lst (cs.map fun c => .str [c])) := fun acc => Store.get_push_of _ h
    have h0 : k < cs.length := by omega
    have h1 : k + 1 < cs.length := by omega
    have e1 : ((k : Int) + 1).toNat = k + 1 := by omega
    simp [bName, setsE, wp_ixL (hg acc), h0, h1, e1]
  · have hp : ∀ xs : List DV, (st.push (.lst xs)).get st.size = some (.lst xs) := fun xs => get_new
    rw [List.map_id']
    rw [e_eqNil (g := tvD) (Store.get_push_of _ get_new) get_new (fun x hx => ?_) fun x hx => ?_]
    · simp [riseP]
      exact Ext.push.trans Ext.push
    · obtain ⟨k, hk, e⟩ := List.mem_map.mp ((List.mem_filter.mp hx).1)
      subst e; rfl
    · obtain ⟨k, hk, e⟩ := List.mem_map.mp ((List.mem_filter.mp hx).1)
      subst e; rfl
end
end K91

namespace K91
open PySem PySem.Spec PyProof.Rows L2 SE
section
variable {Q : DV → Store → Prop} {E : Nat → DV → Store → Prop} {st : Store}
theorem rd_pr {f : Nat} {p : Nat × Int} : rd (f + 2) st (prD p) = some (tvD (prD p)) := rfl
theorem okT_pr {f : Nat} {p : Nat × Int} (h : p.1 < 1114112) : okT (f + 2) (tvD (prD p)) = true := by
  show (Nat.blt p.1 1114112 && true && (true && true)) = true
  simp [Nat.blt]
  omega
theorem filter_neg {α : Type} {p : α → Bool} : ∀ {l : List α}, (l.filter fun x => !p x).isEmpty = l.all p
  | [] => rfl
  | x :: l => by
    by_cases h : p x = true
    · simp only [List.filter_cons, h, Bool.not_true, Bool.false_eq_true, if_false, List.all_cons, Bool.true_and]
      exact filter_neg
    · simp [List.filter_cons, h]
def badD : DV → Bool
  | .tup [.str [c], .int v] => !(low c && decide (1 ≤ v))
  | _ => false
theorem badD_pr {p : Nat × Int} : badD (prD p) = !priceOk p := rfl
theorem g_price_list_ok {a : Nat} {ps : List (Nat × Int)} (h : st.get a = some (.lst (ps.map prD))) (hl : ps.length < 10000) (hc : ∀ p ∈ ps, p.1 < 1114112) :
    wpE (g_is_price_list [.ref a] st) (fun v s => v = .bl (ps.all priceOk && riseP (ps.map (·.1))) ∧ Ext no st s) noE := by
  unfold g_is_price_list
  rw [wp_def]
  unfold d_is_price_list
  simp [startE, List.replicate, p_isiL h, wp_itvL h, wipeE]
  refine wp_compP (ps.map prD) badD (fun x => x) (by rw [List.length_map]; omega) (fun i acc _ => nx_lst (Store.get_push_of _ h)) (fun x acc hx => ?_) ?_
  · obtain ⟨p, hp, rfl⟩ := List.mem_map.mp hx
    obtain ⟨c, v⟩ := p
    have := hc _ hp
    simp [bName, setsE, prD, badD, e_price (show c < 1114112 from this)]
  · rw [List.map_id']
    have hm : ∀ x ∈ (ps.map prD).filter badD, ∃ p ∈ ps, x = prD p := fun x hx => by
      obtain ⟨p, hp, e⟩ := List.mem_map.mp (List.mem_filter.mp hx).1
      exact ⟨p, hp, e.symm⟩
    rw [e_eqNil (g := tvD) (Store.get_push_of _ get_new) get_new (fun x hx => ?_) fun x hx => ?_]
    · have he : ((ps.map prD).filter badD).isEmpty = ps.all priceOk := by
        rw [List.filter_map, List.isEmpty_map]
        have : (badD ∘ prD) = fun p => !priceOk p := by funext p; rfl
        rw [this, filter_neg]
      rw [he]
      by_cases hb : ps.all priceOk = true
      · have h3 := fun o o' => Store.get_push_of o' (Store.get_push_of o h)
        simp only [hb]
        simp [wp_itvL (h3 _ _), wipeE]
        refine wp_compP (ps.map prD) (fun _ => true) (fun x => match x with | .tup [c, _] => c | _ => .non) (by rw [List.length_map]; omega) (fun i acc _ => nx_lst (Store.get_push_of _ (h3 _ _))) (fun x acc hx => ?_) ?_
        · obtain ⟨p, hp, rfl⟩ := List.mem_map.mp hx
          simp [bTup, bsCons, bsNil, bName, setsE, prD]
        · have hf : ((ps.map prD).filter fun _ => true).map (fun x => match x with | .tup [c, _] => c | _ => .non) = (ps.map (·.1)).map fun c => DV.str [c] := by
            rw [List.filter_eq_self.mpr (fun _ _ => rfl), List.map_map, List.map_map]
            rfl
          rw [hf]
          refine wpE_ok (g_rises_ok get_new (by rw [List.length_map]; exact hl)) ?_
          rintro v s ⟨rfl, x⟩
          refine ⟨?_, Ext.push.trans (Ext.push.trans (Ext.push.trans x))⟩
          simp [hb]
      · have hb' : ps.all priceOk = false := Bool.eq_false_iff.mpr hb
        have hx : ∀ x : Bool, (ps.all priceOk && x) = false := fun x => by rw [hb']; rfl
        simp only [hb', hx]
        simp
        refine ⟨fun hh => absurd (List.all_eq_true.mpr fun p hp => hh p.1 p.2 hp) hb, Ext.push.trans Ext.push⟩
    · obtain ⟨p, hp, rfl⟩ := hm x hx
      exact rd_pr
    · obtain ⟨p, hp, rfl⟩ := hm x hx
      exact okT_pr (hc p hp)
end
end K91

namespace K91
open PySem PySem.Spec PyProof.Rows L2 SE
/-! ### figures -/
def D (n : Nat) : List Nat := (Nat.toDigits 10 n).map Char.toNat
theorem digitChar_toNat : ∀ n : Nat, n < 10 → (Nat.digitChar n).toNat = 48 + n := by decide
theorem D_eq (n : Nat) : D n = if n < 10 then [48 + n] else D (n / 10) ++ [48 + n % 10] := by
  unfold D
  rw [Nat.toDigits_eq_if (by decide)]
  by_cases h : n < 10
  · rw [if_pos h, if_pos h]
    simp [digitChar_toNat n h]
  · rw [if_neg h, if_neg h, List.map_append]
    simp [digitChar_toNat (n % 10) (by omega)]
theorem figs_D (n : Nat) : figs (n : Int) = D n := by
  unfold figs D
  have : toString (n : Int) = Nat.repr n := rfl
  rw [this]
  rw [Str.ofString_eq_toList, Nat.toList_repr]
theorem figVal_app {l : List Nat} {x : Nat} : figVal (l ++ [x]) = figVal l * 10 + (x - 48) := by
  unfold figVal
  rw [List.foldl_append]
  rfl
theorem figVal_D : ∀ (f n : Nat), n < f → figVal (D n) = n
  | 0, n, h => by omega
  | f + 1, n, h => by
    rw [D_eq]
    by_cases h1 : n < 10
    · rw [if_pos h1]
      show 0 * 10 + (48 + n - 48) = n
      omega
    · rw [if_neg h1, figVal_app, figVal_D f (n / 10) (by omega)]
      omega
theorem D_fig : ∀ (f n : Nat), n < f → (D n).all fig = true
  | 0, n, h => by omega
  | f + 1, n, h => by
    rw [D_eq]
    have q : ∀ k, k < 10 → fig (48 + k) = true := by decide
    by_cases h1 : n < 10
    · rw [if_pos h1]
      simp [q n h1]
    · rw [if_neg h1, List.all_append, D_fig f (n / 10) (by omega)]
      simp [q (n % 10) (by omega)]
theorem D_head : ∀ (f n : Nat), n < f → 1 ≤ n → ∃ c r, D n = c :: r ∧ c ≠ 48
  | 0, n, h, _ => by omega
  | f + 1, n, h, h0 => by
    rw [D_eq]
    by_cases h1 : n < 10
    · rw [if_pos h1]
      exact ⟨_, _, rfl, by omega⟩
    · rw [if_neg h1]
      obtain ⟨c, r, e, hc⟩ := D_head f (n / 10) (by omega) (by omega)
      exact ⟨c, r ++ [48 + n % 10], by rw [e]; rfl, hc⟩
theorem figVal_pos {c : Nat} {r : List Nat} (hc : c ≠ 48) (hf : fig c = true) : 1 ≤ figVal (c :: r) := by
  have h1 := fig_lt hf
  have : ∀ (l : List Nat) (a : Nat), 1 ≤ a → 1 ≤ l.foldl (fun acc c => acc * 10 + (c - 48)) a := by
    intro l
    induction l with
    | nil => intro a h; exact h
    | cons x l ih => intro a h; exact ih (a * 10 + (x - 48)) (by omega)
  exact this r (0 * 10 + (c - 48)) (by omega)
theorem D_figVal : ∀ (k : Nat) (d : List Nat), d.length = k → d.all fig = true → (∃ c r, d = c :: r ∧ c ≠ 48) → D (figVal d) = d
  | 0, d, h, _, ⟨c, r, e, _⟩ => by subst e; simp at h
  | k + 1, d, h, hf, ⟨c, r, e, hc⟩ => by
    rcases List.eq_nil_or_concat d with e2 | ⟨l, x, e2⟩
    · subst e2; simp at h
    · have e3 : d = l ++ [x] := by rw [e2]; simp
      rw [e3, List.all_append, Bool.and_eq_true] at hf
      have hx : fig x = true := by simpa using hf.2
      have hx2 := fig_lt hx
      cases l with
      | nil =>
        rw [e3] at e ⊢
        have ex : x = c := by simpa using (List.cons.inj e).1
        have e4 : figVal ([] ++ [x]) = x - 48 := by show 0 * 10 + (x - 48) = _; omega
        rw [e4, D_eq, if_pos (by omega)]
        show [48 + (x - 48)] = [x]
        congr 1; omega
      | cons c' l' =>
        have ec : c' = c := by rw [e3] at e; exact (List.cons.inj e).1
        have hc' : fig c' = true := by
          have := hf.1
          rw [List.all_cons, Bool.and_eq_true] at this
          exact this.1
        have ih := D_figVal k (c' :: l') (by rw [e3, List.length_append] at h; simpa using h) hf.1 ⟨c', l', rfl, by rw [ec]; exact hc⟩
        have hp := figVal_pos (r := l') (show c' ≠ 48 by rw [ec]; exact hc) hc'
        rw [e3, figVal_app, D_eq, if_neg (by omega)]
        have e5 : (figVal (c' :: l') * 10 + (x - 48)) / 10 = figVal (c' :: l') := by omega
        have e6 : (figVal (c' :: l') * 10 + (x - 48)) % 10 = x - 48 := by omega
        rw [e5, e6, ih]
        congr 2
        omega
theorem figVal_lt : ∀ (k : Nat) (d : List Nat), d.length = k → d.all fig = true → figVal d < 10 ^ k
  | 0, d, h, _ => by
    have : d = [] := List.length_eq_zero_iff.mp h
    subst this
    decide
  | k + 1, d, h, hf => by
    rcases List.eq_nil_or_concat d with e2 | ⟨l, x, e2⟩
    · subst e2; simp at h
    · have e3 : d = l ++ [x] := by rw [e2]; simp
      rw [e3, List.all_append, Bool.and_eq_true] at hf
      have hx : fig x = true := by simpa using hf.2
      have hx2 := fig_lt hx
      have ih := figVal_lt k l (by rw [e3, List.length_append] at h; simpa using h) hf.1
      rw [e3, figVal_app, Nat.pow_succ]
      omega
end K91

namespace K91
open PySem PySem.Spec PyProof.Rows L2 SE
/-- the next state -/
def nx (s : Nat) (last : List Nat) (c : Nat) : Option Nat :=
  if s = 0 ∨ s = 4 then (if s = 0 ∧ c = 58 then some 5 else if (low c && ltS last [c]) = true then some 1 else none)
  else if s = 1 then (if c = 61 then some 2 else none)
  else if s = 2 then (if fig c = true ∧ c ≠ 48 then some 3 else none)
  else if s = 5 then (if low c = true then some 5 else none)
  else if fig c = true then some 3 else if c = 44 then (if last ≠ [122] then some 4 else none) else if c = 58 then some 5 else none
def go : Nat → List Nat → Nat → List Nat → Nat × Nat
  | s, _, i, [] => (i, s)
  | s, last, i, c :: r => match nx s last c with
    | none => (i, s)
    | some s' => go s' (if s' = 1 then [c] else last) (i + 1) r
def optD : Option Nat → DV
  | none => .non
  | some k => .int k
section
variable {Q : DV → Store → Prop} {E : Nat → DV → Store → Prop} {st : Store}
@[simp] theorem fig_mem {c : Nat} : decide (c ∈ FIG) = fig c := by unfold fig; simp
theorem low_or {c : Nat} : (c = 97 ∨ c = 98 ∨ c = 99 ∨ c = 100 ∨ c = 101 ∨ c = 102 ∨ c = 103 ∨ c = 104 ∨ c = 105 ∨ c = 106 ∨ c = 107 ∨ c = 108 ∨ c = 109 ∨ c = 110 ∨ c = 111 ∨ c = 112 ∨ c = 113 ∨ c = 114 ∨ c = 115 ∨ c = 116 ∨ c = 117 ∨ c = 118 ∨ c = 119 ∨ c = 120 ∨ c = 121 ∨ c = 122) ↔ low c = true := by
  unfold low; simp
theorem fig_or {c : Nat} : (c = 48 ∨ c = 49 ∨ c = 50 ∨ c = 51 ∨ c = 52 ∨ c = 53 ∨ c = 54 ∨ c = 55 ∨ c = 56 ∨ c = 57) ↔ fig c = true := by
  unfold fig; simp
/-- membership, without the list written out -/
@[simp↓] theorem p_inLow {c : Nat} : wpE (fIn false (.str [c]) (.str [97, 98, 99, 100, 101, 102, 103, 104, 105, 106, 107, 108, 109, 110, 111, 112, 113, 114, 115, 116, 117, 118, 119, 120, 121, 122]) st) Q E ↔ Q (.bl (low c)) st := by
  show Q (.bl (false != low c)) st ↔ _
  rw [Bool.false_bne]
@[simp↓] theorem p_inFig {c : Nat} : wpE (fIn false (.str [c]) (.str [48, 49, 50, 51, 52, 53, 54, 55, 56, 57]) st) Q E ↔ Q (.bl (fig c)) st := by
  show Q (.bl (false != fig c)) st ↔ _
  rw [Bool.false_bne]
theorem e_next {s : Nat} {last : List Nat} {c : Nat} (hs : s < 6) (hl : okS last = true) (hc : c < 1114112) : g_next_state [.int s, .str last, .str [c]] st = some (.ok (optD (nx s last c)), st) := run_of <| by
  unfold g_next_state
  rw [wp_def]
  unfold d_next_state
  match s, hs with
  | 0, _ =>
    simp [-wp_inS, startE, hl, hc, flatD, eqF, sizeLine_is, nx]
    by_cases h1 : c = 58 <;> simp [h1, optD]
    by_cases h2 : low c = true <;> by_cases h3 : ltS last [c] = true <;> simp [h2, h3, optD]
  | 1, _ =>
    simp [-wp_inS, startE, hl, hc, flatD, eqF, sizeLine_is, nx]
    by_cases h1 : c = 61 <;> simp [h1, optD]
  | 2, _ =>
    simp [-wp_inS, startE, hl, hc, flatD, eqF, sizeLine_is, nx]
    by_cases h1 : c = 48 <;> by_cases h2 : fig c = true <;> simp [h1, h2, optD]
  | 3, _ =>
    simp [-wp_inS, startE, hl, hc, flatD, eqF, sizeLine_is, nx, L2.atI, L2.ixN]
    by_cases h1 : fig c = true <;> by_cases h2 : c = 44 <;> by_cases h3 : last = [122] <;> by_cases h4 : c = 58 <;> simp_all [optD, show fig 44 = false from rfl, show fig 58 = false from rfl]
  | 4, _ =>
    simp [-wp_inS, startE, hl, hc, flatD, eqF, sizeLine_is, nx]
    by_cases h2 : low c = true <;> by_cases h3 : ltS last [c] = true <;> simp [h2, h3, optD]
  | 5, _ =>
    simp [-wp_inS, startE, hl, hc, flatD, eqF, sizeLine_is, nx]
    by_cases h2 : low c = true <;> simp [h2, optD]
end
end K91

namespace K91
open PySem PySem.Spec PyProof.Rows L2 SE
section
variable {Q : DV → Store → Prop} {E : Nat → DV → Store → Prop} {st : Store}
theorem drop_cons {α : Type} {l : List α} {i : Nat} {c : α} (h : l[i]? = some c) : l.drop i = c :: l.drop (i + 1) := by
  obtain ⟨h1, h2⟩ := List.getElem?_eq_some_iff.mp h
  rw [List.drop_eq_getElem_cons h1, h2]
theorem enumSL_get {l : List Nat} {i : Nat} {x : DV} (h : (enumSL l)[i]? = some x) : ∃ c, l[i]? = some c ∧ x = .tup [.int (i : Nat), .str [c]] := by
  unfold enumSL at h
  rw [List.getElem?_map, List.getElem?_zipIdx] at h
  cases hc : l[i]? with
  | none => rw [hc] at h; cases h
  | some c =>
    rw [hc] at h
    refine ⟨c, rfl, ?_⟩
    have := Option.some.inj h
    simpa using this.symm
theorem okS_get {l : List Nat} {i c : Nat} (h : okS l = true) (e : l[i]? = some c) : c < 1114112 := by
  unfold okS at h
  have := List.all_eq_true.mp h c (List.mem_of_getElem? e)
  exact Nat.le_of_ble_eq_true this
theorem nx_lt {s : Nat} {last : List Nat} {c k : Nat} (h : nx s last c = some k) : k < 6 := by
  unfold nx at h
  repeat (first | (cases h; decide) | cases h | split at h)
theorem nx_pos {s : Nat} {last : List Nat} {c k : Nat} (h : nx s last c = some k) : k ≠ 0 := by
  unfold nx at h
  repeat (first | (cases h; decide) | cases h | split at h)
theorem go_none {q i c : Nat} {last r : List Nat} (h : nx q last c = none) : go q last i (c :: r) = (i, q) := by
  rw [go, h]
theorem go_some {q i c k : Nat} {last r : List Nat} (h : nx q last c = some k) : go q last i (c :: r) = go k (if k = 1 then [c] else last) (i + 1) r := by
  rw [go, h]
def SzI (l : List Nat) (st : Store) (i : Nat) (env : Ev) (s : Store) : Prop := s = st ∧ ∃ (q : Nat) (last : List Nat) (a b c : Option DV), q < 6 ∧ okS last = true ∧ env = [some (.str l), some (.int (q : Nat)), some (.str last), a, b, c] ∧ go 0 [] 0 l = go q last i (l.drop i)
theorem e_size {l : List Nat} (hok : okS l = true) (hlen : l.length ≤ 10000) : g_right_size [.str l] st = some (.ok (.tup [.int (go 0 [] 0 l).1, .int (go 0 [] 0 l).2]), st) := run_of <| by
  unfold g_right_size
  rw [wp_def]
  unfold d_right_size
  simp [startE, List.replicate, wps_for]
  refine wp_for (enumSL l) (SzI l st) (by rw [enumSL_length]; omega) ?_ ?_ ?_ ?_
  · exact ⟨rfl, 0, [], none, none, none, by decide, rfl, rfl, rfl⟩
  · rintro i env s ⟨rfl, _⟩ hi
    rw [enumSL_length] at hi
    exact nx_enumS hi
  · rintro i x env s hx ⟨rfl, q, last, a, b, c', hq, hl, rfl, hg⟩
    obtain ⟨c, hc, rfl⟩ := enumSL_get hx
    have hc2 := okS_get hok hc
    rw [drop_cons hc] at hg
    simp [bTup, bsCons, bsNil, bName, setsE, e_next hq hl hc2]
    cases hn : nx q last c with
    | none =>
      rw [go_none hn] at hg
      simp [optD, sizeLine_is]
      rw [hg]
      exact ⟨rfl, rfl⟩
    | some k =>
      rw [go_some hn] at hg
      simp [optD]
      have hk := nx_lt hn
      by_cases h1 : k = 1
      · simp [h1]
        exact ⟨rfl, 1, [c], _, _, _, by decide, by simp [hc2], rfl, by rw [hg]; simp [h1]⟩
      · have h1' : ¬ (k : Int) = 1 := by omega
        simp [h1']
        exact ⟨rfl, k, last, _, _, _, hk, hl, rfl, by rw [hg]; simp [h1]⟩
  · rintro env s ⟨rfl, q, last, a, b, c', hq, hl, rfl, hg⟩
    rw [enumSL_length, List.drop_length] at hg
    rw [hg]
    have : l.length ≤ 16777216 := by omega
    simp [this, go, sizeLine_is]
theorem sizeLine_ge {n : Nat} (h : n ≤ 16777216) : n ≤ sizeLine := by rw [sizeLine_is]; exact h
end
end K91

namespace K91
open PySem PySem.Spec PyProof.Rows L2 SE
section
variable {Q : DV → Store → Prop} {E : Nat → DV → Store → Prop} {st s : Store}
@[simp↓] theorem wp_inP {neg : Bool} {d : DV} {xs : List DV} : wpE (fIn neg d (.ref s.size) (s.push (.lst xs))) Q E ↔ if flatD d = true ∧ xs.all flatD = true then Q (.bl (neg != (xs.any fun e => eqF e d))) (s.push (.lst xs)) else False := wp_inL get_new
@[simp↓] theorem wp_ixP {i : Int} {xs : List DV} : wpE (fIx (.ref s.size) (.int i) (s.push (.lst xs))) Q E ↔ wpE (lift (L2.atI xs i) (s.push (.lst xs))) Q E := wp_ixL get_new
def nmS : Nat → List Nat
  | 0 => [115, 116, 97, 114, 116]
  | 1 => [108, 101, 116, 116, 101, 114]
  | 2 => [101, 113, 117, 97, 108]
  | 3 => [102, 105, 103, 117, 114, 101]
  | 4 => [99, 111, 109, 109, 97]
  | _ => [119, 111, 114, 100]
def WkI (l : List Nat) (st : Store) (i : Nat) (env : Ev) (s : Store) : Prop := Ext no st s ∧ ∃ (q : Nat) (last : List Nat) (a b c d e : Option DV), q < 6 ∧ okS last = true ∧ env = [some (.str l), some (.str (nmS q)), some (.str last), a, b, c, d, e] ∧ go 0 [] 0 l = go q last i (l.drop i)
theorem e_walk {l : List Nat} (hok : okS l = true) (hlen : l.length ≤ 10000) : wpE (g__law_walk [.str l] st) (fun v s => v = .tup [.int (go 0 [] 0 l).1, .str (nmS (go 0 [] 0 l).2)] ∧ Ext no st s) noE := by
  unfold g__law_walk
  rw [wp_def]
  unfold d__law_walk
  simp [startE, List.replicate, wps_for, sizeLine_is, bTup, bsCons, bsNil, bName, setsE]
  refine wp_for (enumSL l) (WkI l st) (by rw [enumSL_length]; omega) ?_ ?_ ?_ ?_
  · exact ⟨Ext.refl, 0, [], none, none, none, none, none, by decide, rfl, rfl, rfl⟩
  · rintro i env s ⟨_, _⟩ hi
    rw [enumSL_length] at hi
    exact nx_enumS hi
  · rintro i x env s hx ⟨hx0, q, last, a, b, c', d', e', hq, hl, rfl, hg⟩
    obtain ⟨c, hc, rfl⟩ := enumSL_get hx
    have hc2 := okS_get hok hc
    rw [drop_cons hc] at hg
    -- the end of a turn
    have fin : ∀ (k : Nat) (last' : List Nat) (s' : Store) (x1 x2 x3 x4 x5 : Option DV), nx q last c = some k → last' = (if k = 1 then [c] else last) → Ext no s s' → WkI l st (i + 1) [some (.str l), some (.str (nmS k)), some (.str last'), x1, x2, x3, x4, x5] s' := by
      intro k last' s' x1 x2 x3 x4 x5 hn hl' hx'
      rw [go_some hn] at hg
      refine ⟨hx0.trans hx', k, last', _, _, _, _, _, nx_lt hn, ?_, rfl, by rw [hg, hl']⟩
      rw [hl']
      by_cases h1 : k = 1
      · rw [if_pos h1]; simp [hc2]
      · rw [if_neg h1]; exact hl
    have fin0 : ∀ (s' : Store), nx q last c = none → Ext no s s' → ((i : Int) = ((go 0 [] 0 l).1 : Int) ∧ nmS q = nmS (go 0 [] 0 l).2) ∧ Ext no st s' := by
      intro s' hn hx'
      rw [go_none hn] at hg
      rw [hg]
      exact ⟨⟨rfl, rfl⟩, hx0.trans hx'⟩
    match q, hq with
    | 0, _ =>
      simp [-wp_inS, bTup, bsCons, bsNil, bName, setsE, nmS, hl, hc2, flatD, eqF, sizeLine_is]
      by_cases h1 : c = 58
      · simp [h1]
        exact fin 5 last _ _ _ _ _ _ (by simp [nx, h1]) rfl Ext.refl
      · simp [h1]
        by_cases h2 : low c = true <;> by_cases h3 : ltS last [c] = true <;> simp [h2, h3]
        · exact fin 1 [c] _ _ _ _ _ _ (by simp [nx, h1, h2, h3]) rfl Ext.push
        · exact fin0 _ (by simp [nx, h1, h2, h3]) Ext.push
        · exact fin0 _ (by simp [nx, h1, h2, h3]) Ext.push
        · exact fin0 _ (by simp [nx, h1, h2, h3]) Ext.push
    | 1, _ =>
      simp [-wp_inS, bTup, bsCons, bsNil, bName, setsE, nmS, hl, hc2, flatD, eqF, sizeLine_is]
      by_cases h1 : c = 61
      · simp [h1]
        exact fin 2 last _ _ _ _ _ _ (by simp [nx, h1]) rfl Ext.push
      · simp [h1]
        exact fin0 _ (by simp [nx, h1]) Ext.push
    | 2, _ =>
      simp [-wp_inS, bTup, bsCons, bsNil, bName, setsE, nmS, hl, hc2, flatD, eqF, sizeLine_is]
      by_cases h1 : c = 48 <;> by_cases h2 : fig c = true <;> simp [h1, h2]
      · exact fin0 _ (by simp [nx, h1, h2]) Ext.push
      · exact fin0 _ (by simp [nx, h1, h2]) Ext.push
      · exact fin 3 last _ _ _ _ _ _ (by simp [nx, h1, h2]) rfl Ext.push
      · exact fin0 _ (by simp [nx, h1, h2]) Ext.push
    | 3, _ => 
      simp [-wp_inS, bTup, bsCons, bsNil, bName, setsE, nmS, hl, hc2, flatD, eqF, sizeLine_is]
      by_cases h1 : fig c = true
      · simp [h1]
        exact fin 3 last _ _ _ _ _ _ (by simp [nx, h1]) rfl Ext.push
      · simp [h1]
        by_cases h2 : c = 58
        · simp [h2]
          exact fin 5 last _ _ _ _ _ _ (by simp [nx, h1, h2, show fig 58 = false from rfl]) rfl (Ext.push.trans Ext.push)
        · simp [h2]
          by_cases h3 : c = 44 <;> by_cases h4 : last = [122] <;> simp [h3, h4]
          · exact fin0 _ (by simp [nx, h3, h4, show fig 44 = false from rfl]) Ext.push
          · exact fin 4 last _ _ _ _ _ _ (by simp [nx, h3, h4, show fig 44 = false from rfl]) rfl (Ext.push.trans Ext.push)
          · exact fin0 _ (by simp [nx, h1, h2, h3]) Ext.push
          · exact fin0 _ (by simp [nx, h1, h2, h3]) Ext.push
    | 4, _ =>
      simp [-wp_inS, bTup, bsCons, bsNil, bName, setsE, nmS, hl, hc2, flatD, eqF, sizeLine_is]
      by_cases h2 : low c = true <;> by_cases h3 : ltS last [c] = true <;> simp [h2, h3]
      · exact fin 1 [c] _ _ _ _ _ _ (by simp [nx, h2, h3]) rfl Ext.push
      · exact fin0 _ (by simp [nx, h2, h3]) Ext.push
      · exact fin0 _ (by simp [nx, h2, h3]) Ext.push
      · exact fin0 _ (by simp [nx, h2, h3]) Ext.push
    | 5, _ =>
      simp [-wp_inS, bTup, bsCons, bsNil, bName, setsE, nmS, hl, hc2, flatD, eqF, sizeLine_is]
      by_cases h2 : low c = true <;> simp [h2]
      · exact fin 5 last _ _ _ _ _ _ (by simp [nx, h2]) rfl Ext.push
      · exact fin0 _ (by simp [nx, h2]) Ext.push
  · rintro env s ⟨hx0, q, last, a, b, c', d', e', hq, hl, rfl, hg⟩
    rw [enumSL_length, List.drop_length] at hg
    rw [hg]
    have : l.length ≤ 16777216 := by omega
    simp [this, go, sizeLine_is]
    exact hx0
end
end K91

namespace K91
open PySem PySem.Spec PyProof.Rows L2 SE
/-! ### what is read to its end -/
theorem go_len : ∀ (r : List Nat) (s : Nat) (last : List Nat) (i : Nat), (go s last i r).1 ≤ i + r.length
  | [], s, last, i => Nat.le_refl _
  | c :: r, s, last, i => by
    cases h : nx s last c with
    | none => rw [go_none h]; exact Nat.le_add_right _ _
    | some k =>
      rw [go_some h]
      have := go_len r k (if k = 1 then [c] else last) (i + 1)
      rw [List.length_cons]
      omega
/-- read to the end, in the state of a word -/
def Acc (s : Nat) (last : List Nat) (r : List Nat) : Prop := ∀ i, go s last i r = (i + r.length, 5)
theorem go_shift : ∀ (r : List Nat) (s : Nat) (last : List Nat) (i j : Nat), go s last (i + j) r = ((go s last i r).1 + j, (go s last i r).2)
  | [], s, last, i, j => rfl
  | c :: r, s, last, i, j => by
    cases h : nx s last c with
    | none => rw [go_none h, go_none h]
    | some k =>
      rw [go_some h, go_some h]
      have := go_shift r k (if k = 1 then [c] else last) (i + 1) j
      rw [← this]
      congr 1
      omega
theorem acc_of {s : Nat} {last r : List Nat} {i : Nat} (h : go s last i r = (i + r.length, 5)) : Acc s last r := by
  have h0 : go s last 0 r = (r.length, 5) := by
    have := go_shift r s last 0 i
    rw [Nat.zero_add, h] at this
    have h1 := congrArg Prod.fst this
    have h2 := congrArg Prod.snd this
    refine Prod.ext ?_ h2.symm
    simp at h1
    omega
  intro j
  have := go_shift r s last 0 j
  rw [Nat.zero_add, h0] at this
  rw [this, Nat.add_comm]
theorem acc_cons {s : Nat} {last r : List Nat} {c : Nat} (h : Acc s last (c :: r)) : ∃ k, nx s last c = some k ∧ Acc k (if k = 1 then [c] else last) r := by
  cases hn : nx s last c with
  | none =>
    have := h 0
    rw [go_none hn] at this
    have := congrArg Prod.fst this
    simp at this
  | some k =>
    refine ⟨k, rfl, acc_of (i := 1) ?_⟩
    have := h 0
    rw [go_some hn] at this
    rw [this, List.length_cons]
    congr 1
    omega
theorem acc_nil {s : Nat} {last : List Nat} (h : Acc s last []) : s = 5 := by
  have := congrArg Prod.snd (h 0)
  exact this
theorem acc_word : ∀ (r last : List Nat), Acc 5 last r → r.all low = true
  | [], _, _ => rfl
  | c :: r, last, h => by
    obtain ⟨k, hk, h2⟩ := acc_cons h
    by_cases hc : low c = true
    · have : k = 5 := by simp [nx, hc] at hk; omega
      subst this
      rw [List.all_cons, hc, acc_word r _ h2]
      rfl
    · simp [nx, hc] at hk
def Canon (d : List Nat) : Prop := d.all fig = true ∧ ∃ c r, d = c :: r ∧ c ≠ 48
def partQ (q : Nat × List Nat) : List Nat := q.1 :: 61 :: q.2
def tailQ : List (Nat × List Nat) → List Nat
  | [] => []
  | q :: qs => 44 :: partQ q ++ tailQ qs
/-- strictly rising behind c -/
def Up : Nat → List (Nat × List Nat) → Prop
  | _, [] => True
  | c, q :: qs => c < q.1 ∧ Up q.1 qs
theorem ltS_one {a b : Nat} : ltS [a] [b] = true ↔ a < b := by
  unfold ltS
  rw [decide_eq_true_eq]
  constructor
  · intro h
    cases h with
    | rel h => exact h
    | cons h => cases h
  · exact fun h => .rel h
theorem acc_figs : ∀ (r last : List Nat), Acc 3 last r → ∃ ds rest, r = ds ++ rest ∧ ds.all fig = true ∧ ((∃ w, rest = 58 :: w ∧ w.all low = true) ∨ ∃ r', rest = 44 :: r' ∧ Acc 4 last r')
  | [], last, h => by have := acc_nil h; omega
  | c :: r, last, h => by
    obtain ⟨k, hk, h2⟩ := acc_cons h
    by_cases hf : fig c = true
    · have : k = 3 := by simp [nx, hf] at hk; omega
      subst this
      obtain ⟨ds, rest, e, h3, h4⟩ := acc_figs r last h2
      exact ⟨c :: ds, rest, by rw [e]; rfl, by rw [List.all_cons, hf, h3]; rfl, h4⟩
    · by_cases h44 : c = 44
      · by_cases hz : last = [122]
        · simp [nx, hf, h44, hz, show fig 44 = false from rfl] at hk
        · have : k = 4 := by simp [nx, h44, hz, show fig 44 = false from rfl] at hk; omega
          subst this
          exact ⟨[], c :: r, rfl, rfl, .inr ⟨r, by rw [h44], h2⟩⟩
      · by_cases h58 : c = 58
        · have : k = 5 := by simp [nx, h58, show fig 58 = false from rfl] at hk; omega
          subst this
          exact ⟨[], c :: r, rfl, rfl, .inl ⟨r, by rw [h58], acc_word r _ h2⟩⟩
        · simp [nx, hf, h44, h58] at hk
theorem acc_letter : ∀ (f : Nat) (r : List Nat) (c0 : Nat), r.length < f → Acc 1 [c0] r → ∃ d qs w, r = 61 :: d ++ tailQ qs ++ 58 :: w ∧ Canon d ∧ (∀ q ∈ qs, low q.1 = true ∧ Canon q.2) ∧ Up c0 qs ∧ w.all low = true
  | 0, r, c0, h, _ => by omega
  | f + 1, r, c0, hf, h => by
    cases r with
    | nil => have := acc_nil h; omega
    | cons c r =>
      obtain ⟨k, hk, h2⟩ := acc_cons h
      by_cases h61 : c = 61
      · have : k = 2 := by simp [nx, h61] at hk; omega
        subst this
        have h3 : Acc 2 [c0] r := h2
        cases r with
        | nil => have := acc_nil h3; omega
        | cons d0 r =>
          obtain ⟨k, hk, h4⟩ := acc_cons h3
          by_cases hd : fig d0 = true ∧ d0 ≠ 48
          · have : k = 3 := by simp [nx, hd] at hk; omega
            subst this
            obtain ⟨ds, rest, e, h5, h6⟩ := acc_figs r [c0] h4
            have hcan : Canon (d0 :: ds) := ⟨by rw [List.all_cons, hd.1, h5]; rfl, d0, ds, rfl, hd.2⟩
            rcases h6 with ⟨w, e2, hw⟩ | ⟨r', e2, h7⟩
            · exact ⟨d0 :: ds, [], w, by rw [e, e2, h61]; simp [tailQ], hcan, (fun q hq => by cases hq), trivial, hw⟩
            · cases r' with
              | nil => have := acc_nil h7; omega
              | cons c1 r' =>
                obtain ⟨k, hk, h8⟩ := acc_cons h7
                by_cases hl : (low c1 && ltS [c0] [c1]) = true
                · have : k = 1 := by simp only [nx] at hk; simp [hl] at hk; omega
                  subst this
                  rw [if_pos rfl] at h8
                  rw [Bool.and_eq_true] at hl
                  obtain ⟨d, qs, w, e3, i1, i2, i3, i4⟩ := acc_letter f r' c1 (by
                    rw [e, e2] at hf
                    simp at hf
                    omega) h8
                  refine ⟨d0 :: ds, (c1, d) :: qs, w, ?_, hcan, ?_, ⟨ltS_one.mp hl.2, i3⟩, i4⟩
                  · rw [e, e2, e3, h61]
                    simp [tailQ, partQ]
                  · intro q hq
                    rcases List.mem_cons.mp hq with rfl | hq
                    · exact ⟨hl.1, i1⟩
                    · exact i2 q hq
                · simp only [nx] at hk
                  simp [hl] at hk
          · simp [nx] at hk
            exact absurd ⟨hk.1.1, hk.1.2⟩ hd
      · simp [nx, h61] at hk
/-- the first one's letter is free -/
def UpQ : List (Nat × List Nat) → Prop
  | [] => True
  | q :: qs => Up q.1 qs
theorem join_tail (q : Nat × List Nat) : ∀ qs : List (Nat × List Nat), joinS [44] ((q :: qs).map partQ) = partQ q ++ tailQ qs
  | [] => by simp [joinS, tailQ]
  | p :: qs => by
    have ih := join_tail p qs
    show partQ q ++ [44] ++ joinS [44] (partQ p :: qs.map partQ) = _
    have e : partQ p :: qs.map partQ = (p :: qs).map partQ := rfl
    rw [e, ih]
    simp [tailQ]
def lineQ (qs : List (Nat × List Nat)) (w : List Nat) : List Nat := joinS [44] (qs.map partQ) ++ 58 :: w
def GoodQ (qs : List (Nat × List Nat)) (w : List Nat) : Prop := (∀ q ∈ qs, low q.1 = true ∧ Canon q.2) ∧ UpQ qs ∧ w.all low = true
theorem acc_line {l : List Nat} (h : Acc 0 [] l) : ∃ qs w, l = lineQ qs w ∧ GoodQ qs w := by
  cases l with
  | nil => have := acc_nil h; omega
  | cons c r =>
    obtain ⟨k, hk, h2⟩ := acc_cons h
    by_cases h58 : c = 58
    · have : k = 5 := by simp [nx, h58] at hk; omega
      subst this
      exact ⟨[], r, by rw [h58]; rfl, (fun q hq => by cases hq), trivial, acc_word r _ h2⟩
    · by_cases hl : (low c && ltS [] [c]) = true
      · have : k = 1 := by simp only [nx] at hk; simp [h58, hl] at hk; omega
        subst this
        rw [if_pos rfl] at h2
        rw [Bool.and_eq_true] at hl
        obtain ⟨d, qs, w, e, i1, i2, i3, i4⟩ := acc_letter (r.length + 1) r c (by omega) h2
        refine ⟨(c, d) :: qs, w, ?_, ?_, i3, i4⟩
        · unfold lineQ
          rw [join_tail, e]
          simp [partQ]
        · intro q hq
          rcases List.mem_cons.mp hq with rfl | hq
          · exact ⟨hl.1, i1⟩
          · exact i2 q hq
      · simp only [nx] at hk
        simp [h58, hl] at hk
/-! ### prices as ints -/
def valQ (q : Nat × List Nat) : Nat × Int := (q.1, (figVal q.2 : Nat))
def partP (p : Nat × Int) : List Nat := p.1 :: 61 :: figs p.2
theorem partP_val {q : Nat × List Nat} (h : Canon q.2) : partP (valQ q) = partQ q := by
  unfold partP valQ partQ
  rw [figs_D, D_figVal q.2.length q.2 rfl h.1 h.2]
def prLine (ps : List (Nat × Int)) (w : List Nat) : List Nat := joinS [44] (ps.map partP) ++ 58 :: w
theorem UpP : ∀ {qs : List (Nat × List Nat)} {c : Nat} {i : Nat}, Up c qs → i < qs.length → (c :: qs.map (·.1)).getD i 0 < (c :: qs.map (·.1)).getD (i + 1) 0
  | [], _, _, _, h => by simp at h
  | q :: qs, c, 0, h, _ => by simpa using h.1
  | q :: qs, c, i + 1, h, hl => by
    have := UpP (qs := qs) (c := q.1) (i := i) h.2 (by simpa using hl)
    simpa using this
theorem rise_of {cs : List Nat} (h : ∀ i, i + 1 < cs.length → cs.getD i 0 < cs.getD (i + 1) 0) : riseP cs = true := by
  unfold riseP
  rw [List.isEmpty_iff, List.filter_eq_nil_iff]
  intro x hx
  obtain ⟨k, hk, e⟩ := List.mem_map.mp hx
  have hk := List.mem_range.mp hk
  have e2 : x = .int ((k : Int) + 1) := by rw [← e, show (1 + (k : Int) * 1) = (k : Int) + 1 by omega]
  subst e2
  have e1 : ((k : Int) + 1).toNat = k + 1 := by omega
  have := h k (by omega)
  have h2 := ltS_one.mpr this
  simp only [e1, Nat.add_sub_cancel]
  rw [h2]
  decide
theorem rise_Q {qs : List (Nat × List Nat)} (h : UpQ qs) : riseP (qs.map (·.1)) = true := by
  refine rise_of fun i hi => ?_
  cases qs with
  | nil => simp at hi
  | cons q qs => exact UpP h (by simpa using hi)
/-- good prices and a good word -/
structure GoodP (ps : List (Nat × Int)) (w : List Nat) : Prop where
  ok : ps.all priceOk = true
  up : riseP (ps.map (·.1)) = true
  w : w.all low = true
theorem good_of {qs : List (Nat × List Nat)} {w : List Nat} (h : GoodQ qs w) : GoodP (qs.map valQ) w ∧ prLine (qs.map valQ) w = lineQ qs w := by
  obtain ⟨h1, h2, h3⟩ := h
  refine ⟨⟨?_, ?_, h3⟩, ?_⟩
  · rw [List.all_eq_true]
    intro p hp
    obtain ⟨q, hq, rfl⟩ := List.mem_map.mp hp
    obtain ⟨i1, i2, c, r, e, hc⟩ := h1 q hq
    show (low q.1 && decide (1 ≤ ((figVal q.2 : Nat) : Int))) = true
    rw [i1, Bool.true_and, decide_eq_true_eq]
    have : 1 ≤ figVal q.2 := by
      rw [e] at i2 ⊢
      rw [List.all_cons, Bool.and_eq_true] at i2
      exact figVal_pos hc i2.1
    omega
  · have : (qs.map valQ).map (·.1) = qs.map (·.1) := by rw [List.map_map]; rfl
    rw [this]
    exact rise_Q h2
  · unfold prLine lineQ
    congr 2
    rw [List.map_map]
    exact List.map_congr_left fun q hq => partP_val (h1 q hq).2
theorem acc_good {l : List Nat} (h : Acc 0 [] l) : ∃ ps w, l = prLine ps w ∧ GoodP ps w := by
  obtain ⟨qs, w, e, g⟩ := acc_line h
  obtain ⟨g1, g2⟩ := good_of g
  exact ⟨_, w, by rw [e, g2], g1⟩
end K91

namespace K91
open PySem PySem.Spec PyProof.Rows L2 SE
/-! ### split, join, cut -/
theorem splitS_ne {c x : Nat} {acc l : List Nat} (h : x ≠ c) : splitS c acc (x :: l) = splitS c (acc ++ [x]) l := by
  rw [splitS, if_neg fun e => h (Nat.eq_of_beq_eq_true e)]
theorem splitS_eq {c : Nat} {acc l : List Nat} : splitS c acc (c :: l) = acc :: splitS c [] l := by
  rw [splitS, if_pos (Nat.beq_refl c)]
theorem split_no {c : Nat} : ∀ (l acc : List Nat), (∀ x ∈ l, x ≠ c) → splitS c acc l = [acc ++ l]
  | [], acc, _ => by simp [splitS]
  | x :: l, acc, h => by
    rw [splitS_ne (h x List.mem_cons_self), split_no l _ fun y hy => h y (List.mem_cons_of_mem _ hy)]
    simp
theorem split_at {c : Nat} {r : List Nat} : ∀ (l acc : List Nat), (∀ x ∈ l, x ≠ c) → splitS c acc (l ++ c :: r) = (acc ++ l) :: splitS c [] r
  | [], acc, _ => by
    rw [List.nil_append, splitS_eq, List.append_nil]
  | x :: l, acc, h => by
    rw [List.cons_append, splitS_ne (h x List.mem_cons_self), split_at l _ fun y hy => h y (List.mem_cons_of_mem _ hy)]
    simp
theorem split_join {c : Nat} : ∀ (p : List Nat) (ps : List (List Nat)), (∀ q ∈ p :: ps, ∀ x ∈ q, x ≠ c) → splitS c [] (joinS [c] (p :: ps)) = p :: ps
  | p, [], h => by
    show splitS c [] p = [p]
    rw [split_no p [] (h p List.mem_cons_self), List.nil_append]
  | p, q :: ps, h => by
    show splitS c [] (p ++ [c] ++ joinS [c] (q :: ps)) = _
    rw [List.append_assoc, List.singleton_append, split_at p [] (h p List.mem_cons_self), split_join q ps fun r hr => h r (List.mem_cons_of_mem _ hr)]
    rfl
theorem cut_from {l : List Nat} {k : Nat} (h : k ≤ l.length) : cutL l (some (k : Int)) none = l.drop k := by
  unfold cutL
  rw [HT.sIx_nat, HT.sIx_none, Nat.min_eq_left h]
  exact List.take_of_length_le (by rw [List.length_drop]; exact Nat.le_refl _)
theorem cut_to {l : List Nat} {k : Nat} : cutL l none (some (k : Int)) = l.take k := by
  unfold cutL
  rw [HT.sIx_nat, HT.sIx_none, Nat.sub_zero, List.drop_zero]
  rw [List.take_eq_take_iff]
  omega
theorem asStrs_map : ∀ ys : List (List Nat), asStrs (ys.map DV.str) = some ys
  | [] => rfl
  | y :: ys => by
    show (asStrs (ys.map DV.str)).map (y :: ·) = _
    rw [asStrs_map ys]
    rfl
section
variable {Q : DV → Store → Prop} {E : Nat → DV → Store → Prop} {st s : Store}
theorem wp_join {a : List Nat} {n : Nat} {ys : List (List Nat)} (h : st.get n = some (.lst (ys.map DV.str))) : wpE (mJoin (.str a) [.ref n] st) Q E ↔ if lenSum ys + ys.length * a.length ≤ 16777216 then Q (.str (joinS a ys)) st else False := by
  show wpE (match st.get n with
    | some (.lst xs) => (match asStrs xs with
      | some ys => if lenSum ys + ys.length * a.length ≤ 16777216 then some (.ok (.str (joinS a ys)), st) else none
      | none => none)
    | _ => none) Q E ↔ _
  rw [h]
  dsimp only
  rw [asStrs_map]
  dsimp only
  exact wp_ite
@[simp↓] theorem wp_str {i : Int} : wpE (fStr [.int i] st) Q E ↔ if i.natAbs.log2 < 1920 then Q (.str (figs i)) st else False := wp_iteM
@[simp↓] theorem wp_split {a : List Nat} {c : Nat} : wpE (mSplit (.str a) [.str [c]] st) Q E ↔ if a.length + 2 ≤ sizeLine ∧ Nat.blt c 256 = true then Q (.ref st.size) (st.push (.lst ((splitS c [] a).map .str))) else False := wp_iteM
@[simp↓] theorem wp_intS {l : List Nat} : wpE (fInt [.str l] st) Q E ↔ if (l.all isFig && !l.isEmpty) = true ∧ l.length ≤ 640 then Q (.int (figVal l)) st else False := wp_iteM
theorem isFig_eq : isFig = fig := by
  funext c
  by_cases h : fig c = true
  · rw [h]
    have := fig_lt h
    unfold isFig
    rw [Nat.ble_eq_true_of_le this.1, Nat.ble_eq_true_of_le this.2]
    rfl
  · rw [Bool.eq_false_iff.mpr h, Bool.eq_false_iff]
    intro e
    unfold isFig at e
    rw [Bool.and_eq_true] at e
    exact h (fig_iff.mpr ⟨Nat.le_of_ble_eq_true e.1, Nat.le_of_ble_eq_true e.2⟩)
/-! ### printing -/
structure Fit (ps : List (Nat × Int)) (w : List Nat) : Prop where
  len : (prLine ps w).length ≤ 2000
  fig : ∀ p ∈ ps, p.2.natAbs.log2 < 1920 ∧ (figs p.2).length ≤ 640
theorem lenSum_join {a : List Nat} : ∀ ys : List (List Nat), lenSum ys + ys.length * a.length ≤ (joinS a ys).length + a.length
  | [] => by simp [lenSum, joinS]
  | [y] => by simp [lenSum, joinS]
  | y :: z :: ys => by
    have ih := lenSum_join (a := a) (z :: ys)
    show y.length + lenSum (z :: ys) + (z :: ys).length.succ * a.length ≤ (y ++ a ++ joinS a (z :: ys)).length + a.length
    rw [List.length_append, List.length_append, Nat.succ_mul]
    omega
theorem join_len {a : List Nat} (ys : List (List Nat)) : ys.length * a.length ≤ (joinS a ys).length + a.length := by
  have := lenSum_join (a := a) ys
  omega
theorem prLine_len {ps : List (Nat × Int)} {w : List Nat} : (prLine ps w).length = (joinS [44] (ps.map partP)).length + 1 + w.length := by
  unfold prLine
  rw [List.length_append, List.length_cons]
  omega
theorem Fit.join {ps : List (Nat × Int)} {w : List Nat} (h : Fit ps w) : lenSum (ps.map partP) + (ps.map partP).length * 1 ≤ 2001 := by
  have := lenSum_join (a := [44]) (ps.map partP)
  have h2 := h.len
  rw [prLine_len] at h2
  simp only [List.length_singleton] at this
  omega
theorem Fit.n {ps : List (Nat × Int)} {w : List Nat} (h : Fit ps w) : ps.length ≤ 2001 := by
  have := h.join
  rw [List.length_map] at this
  omega
theorem low_chars {ps : List (Nat × Int)} (h : ps.all priceOk = true) : ∀ p ∈ ps, p.1 < 1114112 := fun p hp => by
  have := List.all_eq_true.mp h p hp
  unfold priceOk at this
  rw [Bool.and_eq_true] at this
  have := low_lt this.1
  omega
theorem g_check_ok {a : Nat} {ps : List (Nat × Int)} (h : st.get a = some (.lst (ps.map prD))) (hl : ps.length < 10000) (h1 : ps.all priceOk = true) (h2 : riseP (ps.map (·.1)) = true) : wpE (g_check_prices [.ref a] st) (fun v s => v = .non ∧ Ext no st s) noE := by
  unfold g_check_prices
  rw [wp_def]
  unfold d_check_prices
  simp [startE]
  refine wpE_ok (g_price_list_ok h hl (low_chars h1)) ?_
  rintro v s ⟨rfl, x⟩
  simp only [h1, h2]
  simp
  exact x
theorem g_check_er {d : DV} (h : wpE (g_is_price_list [d] st) (fun v s => v = .bl false ∧ Ext no st s) noE) : wpE (g_check_prices [d] st) (fun _ _ => False) (fun C v s => C = 2 ∧ v = d ∧ Ext no st s) := by
  unfold g_check_prices
  rw [wp_def]
  unfold d_check_prices
  simp [startE]
  refine wpE_ok h ?_
  rintro v s ⟨rfl, x⟩
  simp
  exact x
theorem e_word {w : List Nat} (h1 : w.all low = true) (h2 : w.length ≤ 16777216) : g_check_word [.str w] st = some (.ok .non, st) := run_of <| by
  unfold g_check_word
  rw [wp_def]
  unfold d_check_word
  simp [startE, e_letters (okS_low h1) h2, h1]
theorem g_word_er {d : DV} (h : g_is_letters_alone [d] st = some (.ok (.bl false), st)) : wpE (g_check_word [d] st) (fun _ _ => False) (fun C v s => C = 1 ∧ v = d ∧ s = st) := by
  unfold g_check_word
  rw [wp_def]
  unfold d_check_word
  simp [startE, h]
/-- the joined parts -/
theorem comp_parts {a : Nat} {ps : List (Nat × Int)} {w : List Nat} {st : Store} (h : st.get a = some (.lst (ps.map prD))) (f : Fit ps w) (hq : Q (.ref st.size) (st.push (.lst ((ps.map partP).map DV.str)))) :
    wpE (compI (.lst a) (bTup 2 (bsCons (bName 2) (bsCons (bName 3) bsNil))) dYes (d2 fAdd (d2 fAdd (dVar 2) (dC (.str [61]))) (dCall fStr (aCons (dVar 3) aNil))) [some (.ref a), some (.str w), none, none] st.size fuel 0 (st.push (.lst []))) Q E := by
  have hn := f.n
  refine wp_compP (ps.map prD) (fun _ => true) (fun x => match x with | .tup [.str [c], .int v] => .str (c :: 61 :: figs v) | _ => .non) (by rw [List.length_map]; omega) (fun i acc _ => nx_lst (Store.get_push_of _ h)) (fun x acc hx => ?_) ?_
  · obtain ⟨p, hp, rfl⟩ := List.mem_map.mp hx
    obtain ⟨f1, f2⟩ := f.fig p hp
    have : (figs p.2).length + 2 ≤ 16777216 := by omega
    simp [bTup, bsCons, bsNil, bName, setsE, prD, sizeLine_is, f1]
    omega
  · have e : ((ps.map prD).filter fun _ => true).map (fun x => match x with | .tup [.str [c], .int v] => DV.str (c :: 61 :: figs v) | _ => .non) = (ps.map partP).map DV.str := by
      rw [List.filter_eq_self.mpr (fun _ _ => rfl), List.map_map, List.map_map]
      rfl
    rw [e]
    exact hq
theorem g_line_of_ok {a : Nat} {ps : List (Nat × Int)} {w : List Nat} (h : st.get a = some (.lst (ps.map prD))) (g : GoodP ps w) (f : Fit ps w) : wpE (g_line_of [.ref a, .str w] st) (fun v s => v = .str (prLine ps w) ∧ Ext no st s) noE := by
  unfold g_line_of
  rw [wp_def]
  unfold d_line_of
  have hn := f.n
  have hl := f.len
  rw [prLine_len] at hl
  have hw : w.length ≤ 16777216 := by omega
  simp [startE, List.replicate]
  refine wpE_ok (g_check_ok h (by omega) g.ok g.up) ?_
  rintro v s ⟨rfl, x⟩
  have h2 := x.get h rfl
  simp [e_word g.w hw, wp_itvL h2, wipeE]
  refine comp_parts h2 f ?_
  have hj := f.join
  simp only [wp_join (get_new (o := .lst ((ps.map partP).map DV.str)))]
  rw [if_pos (by simp only [List.length_singleton]; omega)]
  have h5 : (joinS [44] (ps.map partP)).length + 1 ≤ sizeLine := by rw [sizeLine_is]; omega
  have h6 : (joinS [44] (ps.map partP)).length + 1 + w.length ≤ sizeLine := by rw [sizeLine_is]; omega
  simp [h5, h6]
  refine ⟨?_, x.trans Ext.push⟩
  simp [prLine]
end
end K91

namespace K91
open PySem PySem.Spec PyProof.Rows L2 SE
theorem figs_pos {v : Int} (h : 1 ≤ v) : (figs v).all isFig = true ∧ (figs v).isEmpty = false ∧ ((figVal (figs v) : Nat) : Int) = v ∧ ∀ x ∈ figs v, 48 ≤ x ∧ x ≤ 57 := by
  obtain ⟨n, rfl⟩ : ∃ n : Nat, v = n := ⟨v.toNat, by omega⟩
  rw [figs_D, isFig_eq]
  have h1 := D_fig (n + 1) n (by omega)
  obtain ⟨c, r, e, _⟩ := D_head (n + 1) n (by omega) (by omega)
  refine ⟨h1, by rw [e]; rfl, by rw [figVal_D (n + 1) n (by omega)], fun x hx => fig_lt (List.all_eq_true.mp h1 x hx)⟩
theorem part_no {p : Nat × Int} (h : priceOk p = true) : ∀ x ∈ partP p, x ≠ 58 ∧ x ≠ 44 := by
  unfold priceOk at h
  rw [Bool.and_eq_true, decide_eq_true_eq] at h
  have h1 := low_lt h.1
  intro x hx
  unfold partP at hx
  rcases List.mem_cons.mp hx with rfl | hx
  · omega
  · rcases List.mem_cons.mp hx with rfl | hx
    · omega
    · have := (figs_pos h.2).2.2.2 x hx
      omega
theorem join_no {c : Nat} {ys : List (List Nat)} (hc : c ≠ 44) (h : ∀ y ∈ ys, ∀ x ∈ y, x ≠ c) : ∀ x ∈ joinS [44] ys, x ≠ c := by
  induction ys with
  | nil => intro x hx; cases hx
  | cons y ys ih =>
    cases ys with
    | nil => exact h y List.mem_cons_self
    | cons z ys =>
      intro x hx
      have e : joinS [44] (y :: z :: ys) = y ++ [44] ++ joinS [44] (z :: ys) := rfl
      rw [e] at hx
      rcases List.mem_append.mp hx with hx | hx
      · rcases List.mem_append.mp hx with hx | hx
        · exact h y List.mem_cons_self x hx
        · have : x = 44 := by simpa using hx
          omega
      · exact ih (fun y hy => h y (List.mem_cons_of_mem _ hy)) x hx
section
variable {Q : DV → Store → Prop} {E : Nat → DV → Store → Prop} {st s : Store}
@[simp↓] theorem wp_eqT2 {neg : Bool} {a b c d : Int} : wpE (fEq neg (.tup [.int a, .int b]) (.tup [.int c, .int d]) st) Q E ↔ Q (.bl (neg != (a == c && b == d))) st := by
  rw [wp_eqT (t := .tup [.int a, .int b]) (u := .tup [.int c, .int d]) rfl rfl rfl]
  have : eqT (.tup [.int a, .int b]) (.tup [.int c, .int d]) = (a == c && b == d) := by
    show (a == c && (b == d && true)) = _
    rw [Bool.and_true]
  rw [this]
@[simp↓] theorem wp_itvP {QI : ItD → Store → Prop} {xs : List DV} : wpE (itv (.ref s.size) (s.push (.lst xs))) QI E ↔ QI (.lst s.size) (s.push (.lst xs)) := wp_itvL get_new
/-- the law's own line -/
theorem g_law_line_ok {a : Nat} {ps : List (Nat × Int)} {w : List Nat} (h : st.get a = some (.lst (ps.map prD))) (f : Fit ps w) : wpE (g__law_line [.ref a, .str w] st) (fun v s => v = .str (prLine ps w) ∧ Ext no st s) noE := by
  unfold g__law_line
  rw [wp_def]
  unfold d__law_line
  have hn := f.n
  have hl := f.len
  rw [prLine_len] at hl
  simp [startE, List.replicate, wp_itvL h, wipeE]
  refine comp_parts h f ?_
  have hj := f.join
  simp only [wp_join (get_new (o := .lst ((ps.map partP).map DV.str)))]
  rw [if_pos (by simp only [List.length_singleton]; omega)]
  have h5 : (joinS [44] (ps.map partP)).length + 1 ≤ sizeLine := by rw [sizeLine_is]; omega
  have h6 : (joinS [44] (ps.map partP)).length + 1 + w.length ≤ sizeLine := by rw [sizeLine_is]; omega
  simp [h5, h6]
  refine ⟨?_, Ext.push⟩
  simp [prLine]
/-- what is no line is refused -/
theorem g_of_line_er {l : List Nat} (hok : okS l = true) (hlen : l.length ≤ 10000) (h : ¬ (go 0 [] 0 l = (l.length, 5))) : wpE (g_of_line [.str l] st) (fun _ _ => False) (fun C v s => C = 3 ∧ v = .str l ∧ s = st) := by
  unfold g_of_line
  rw [wp_def]
  unfold d_of_line
  have hl : l.length ≤ sizeLine := sizeLine_ge (by omega)
  simp only [startE, List.replicate]
  simp [e_size hok hlen, hl, sizeLine_is]
  refine ⟨by omega, fun e1 e2 => absurd (Prod.ext (by show (go 0 [] 0 l).1 = l.length; omega) (by show (go 0 [] 0 l).2 = 5; omega)) h⟩
theorem prLine_ok {ps : List (Nat × Int)} {w : List Nat} (g : GoodP ps w) : okS (prLine ps w) = true := by
  unfold okS
  rw [List.all_eq_true]
  have h1 : ∀ p ∈ ps, ∀ x ∈ partP p, x < 123 := fun p hp x hx => by
    have hp := List.all_eq_true.mp g.ok p hp
    unfold priceOk at hp
    rw [Bool.and_eq_true, decide_eq_true_eq] at hp
    have h1 := low_lt hp.1
    unfold partP at hx
    rcases List.mem_cons.mp hx with rfl | hx
    · omega
    · rcases List.mem_cons.mp hx with rfl | hx
      · omega
      · have := (figs_pos hp.2).2.2.2 x hx
        omega
  have h2 : ∀ ys : List (List Nat), (∀ y ∈ ys, ∀ x ∈ y, x < 123) → ∀ x ∈ joinS [44] ys, x < 123 := by
    intro ys
    induction ys with
    | nil => intro _ x hx; cases hx
    | cons y ys ih =>
      intro h
      cases ys with
      | nil => exact h y List.mem_cons_self
      | cons z ys =>
        intro x hx
        have e : joinS [44] (y :: z :: ys) = y ++ [44] ++ joinS [44] (z :: ys) := rfl
        rw [e] at hx
        rcases List.mem_append.mp hx with hx | hx
        · rcases List.mem_append.mp hx with hx | hx
          · exact h y List.mem_cons_self x hx
          · have : x = 44 := by simpa using hx
            omega
        · exact ih (fun y hy => h y (List.mem_cons_of_mem _ hy)) x hx
  intro x hx
  unfold prLine at hx
  refine Nat.ble_eq_true_of_le ?_
  rcases List.mem_append.mp hx with hx | hx
  · have := h2 _ (fun y hy => by obtain ⟨p, hp, rfl⟩ := List.mem_map.mp hy; exact h1 p hp) x hx
    omega
  · rcases List.mem_cons.mp hx with rfl | hx
    · decide
    · have := low_lt (List.all_eq_true.mp g.w x hx)
      omega
theorem getV_set {e : Ev} {i : Nat} {d : DV} (h : i < e.length) : getV (e.set i (some d)) i = some d := by
  unfold getV
  rw [List.getElem?_set_self h]
  rfl
/-- what is a line is read -/
theorem g_of_line_ok {ps : List (Nat × Int)} {w : List Nat} (g : GoodP ps w) (f : Fit ps w) (h : go 0 [] 0 (prLine ps w) = ((prLine ps w).length, 5)) :
    wpE (g_of_line [.str (prLine ps w)] st) (fun v s => ∃ p, v = .tup [.ref p, .str w] ∧ st.n ≤ p ∧ s.get p = some (.lst (ps.map prD)) ∧ Ext no st s) noE := by
  unfold g_of_line
  rw [wp_def]
  unfold d_of_line
  have hf := f.len
  have hl : (prLine ps w).length ≤ 16777216 := by omega
  have hl2 : (prLine ps w).length ≤ 16777214 := by omega
  have hw := prLine_len (ps := ps) (w := w)
  have hsp : splitS 58 [] (prLine ps w) = [joinS [44] (ps.map partP), w] := by
    unfold prLine
    rw [split_at _ [] (join_no (by decide) fun y hy x hx => by
      obtain ⟨p, hp, rfl⟩ := List.mem_map.mp hy
      exact (part_no (List.all_eq_true.mp g.ok p hp) x hx).1)]
    rw [split_no w [] fun x hx => by
      have := low_lt (List.all_eq_true.mp g.w x hx)
      omega]
    rfl
  have hokJ : okS (joinS [44] (ps.map partP)) = true := by
    have := prLine_ok g
    unfold prLine at this
    rw [okS_app, Bool.and_eq_true] at this
    exact this.1
  simp only [startE, List.replicate]
  simp [e_size (prLine_ok g) (show (prLine ps w).length ≤ 10000 by omega), h, hl, hl2, sizeLine_is, hsp, bTup, get_new, bsCons, bsNil, bName, setsE]
  -- the end: from the list of the prices on
  have fin : ∀ (p : Nat) (s' : Store), s'.get p = some (.lst (ps.map prD)) → st.n ≤ p → Ext no st s' → wpE (g_is_price_list [.ref p] s') (fun v s => v = .bl true ∧ Ext no s' s) noE := by
    intro p s' hp _ _
    refine wpE_ok (g_price_list_ok hp (by have := f.n; omega) (low_chars g.ok)) ?_
    rintro v s ⟨rfl, x⟩
    rw [g.ok, g.up]
    exact ⟨rfl, x⟩
  have fin2 : ∀ (p : Nat) (s' : Store), s'.get p = some (.lst (ps.map prD)) → st.n ≤ p → Ext no st s' → p < s'.n → ∀ (Q : DV → Store → Prop) (E : Nat → DV → Store → Prop), (∀ s'', s''.get p = some (.lst (ps.map prD)) → Ext no st s'' → Q (.bl true) s'') → wpE (g_is_price_list [.ref p] s') Q E := by
    intro p s' hp h1 h2 h3 Q E k
    refine wpE_ok (fin p s' hp h1 h2) ?_
    rintro v s ⟨rfl, x⟩
    exact k s (x.get hp rfl) (h2.trans x)
  have hwl : w.length ≤ 16777216 := by omega
  have hlet : g_is_letters_alone [.str w] = fun st => some (.ok (.bl true), st) := by
    funext st
    rw [e_letters (okS_low g.w) hwl, g.w]
  cases ps with
  | nil =>
    simp [joinS]
    refine fin2 _ _ get_new (Nat.le_succ _) (Ext.push.trans Ext.push) (Nat.lt_succ_self _) _ _ fun s'' h1 h2 => ?_
    simp [hlet]
    exact ⟨Nat.le_succ _, h1, h2⟩
  | cons p ps =>
    have hne : joinS [44] ((p :: ps).map partP) ≠ [] := by
      intro e
      have := lenSum_join (a := [44]) ((p :: ps).map partP)
      rw [e] at this
      simp [lenSum, partP] at this
      omega
    have hJ : (joinS [44] ((p :: ps).map partP)).length ≤ 16777214 := by omega
    have hsp2 : splitS 44 [] (joinS [44] ((p :: ps).map partP)) = (p :: ps).map partP := split_join _ _ fun y hy x hx => by
      obtain ⟨q, hq, rfl⟩ := List.mem_map.mp (show y ∈ (p :: ps).map partP from hy)
      exact (part_no (List.all_eq_true.mp g.ok q hq) x hx).2
    generalize hJd : joinS [44] ((p :: ps).map partP) = J at *
    generalize hps : p :: ps = qs at *
    simp [hokJ, hne, hJ, hsp2, wipeE]
    refine wp_compP (qs.map (DV.str ∘ partP)) (fun _ => true) (fun x => match x with | .str (c :: _ :: d) => .tup [.str [c], .int (figVal d : Nat)] | _ => .non) (by have := f.n; rw [List.length_map]; omega) (fun i acc _ => nx_lst (Store.get_push_of _ get_new)) (fun x acc hx => ?_) ?_
    · obtain ⟨q, hq, rfl⟩ := List.mem_map.mp hx
      obtain ⟨f1, f2⟩ := f.fig q hq
      have hq2 := List.all_eq_true.mp g.ok q hq
      unfold priceOk at hq2
      rw [Bool.and_eq_true, decide_eq_true_eq] at hq2
      obtain ⟨i1, i2, i3, i4⟩ := figs_pos hq2.2
      have hcut : cutL (q.1 :: 61 :: figs q.2) (some 2) none = figs q.2 := cut_from (k := 2) (by simp)
      have hlen : (figs q.2).length + 2 ≤ 16777216 := by omega
      simp [bName, setsE, partP, sizeLine_is, hcut, i1, i2, f2]
      omega
    · have e : ((qs.map (DV.str ∘ partP)).filter fun _ => true).map (fun x => match x with | .str (c :: _ :: d) => DV.tup [.str [c], .int (figVal d : Nat)] | _ => .non) = qs.map prD := by
        rw [List.filter_eq_self.mpr (fun _ _ => rfl), List.map_map]
        refine List.map_congr_left fun q hq => ?_
        have hq2 := List.all_eq_true.mp g.ok q hq
        unfold priceOk at hq2
        rw [Bool.and_eq_true, decide_eq_true_eq] at hq2
        show DV.tup [.str [q.1], .int (figVal (figs q.2) : Nat)] = .tup [.str [q.1], .int q.2]
        rw [(figs_pos hq2.2).2.2.1]
      rw [e]
      refine fin2 _ _ get_new (by show st.n ≤ st.n + 1 + 1; omega) (Ext.push.trans (Ext.push.trans Ext.push)) (Nat.lt_succ_self _) _ _ fun s'' h1 h2 => ?_
      simp [hlet]
      exact ⟨by show st.n ≤ st.n + 1 + 1; omega, h1, h2⟩
end
end K91

namespace K91
open PySem PySem.Spec PyProof.Rows L2 SE
theorem go_lt : ∀ (r : List Nat) (s : Nat) (last : List Nat) (i : Nat), s < 6 → (go s last i r).2 < 6
  | [], s, last, i, h => h
  | c :: r, s, last, i, h => by
    cases hn : nx s last c with
    | none => rw [go_none hn]; exact h
    | some k => rw [go_some hn]; exact go_lt r k _ _ (nx_lt hn)
theorem nmS_word : ∀ k, k < 6 → (nmS k == [119, 111, 114, 100]) = (k == 5) := by decide
theorem nmS_ok : ∀ k, k < 6 → okS (nmS k) = true := by decide
theorem okS_take {l : List Nat} {n : Nat} (h : okS l = true) : okS (l.take n) = true := by
  unfold okS at *
  rw [List.all_eq_true] at h ⊢
  exact fun x hx => h x (List.mem_of_mem_take hx)
section
variable {Q : DV → Store → Prop} {E : Nat → DV → Store → Prop} {st s : Store}
theorem tyD_list {a : Nat} {xs : List DV} (h : st.get a = some (.lst xs)) : tyD "list" (.ref a) st = true := by
  show (match st.get a with
    | some (.lst _) => "list" == "list"
    | some (.dct _) => "list" == "dict"
    | _ => false) = true
  rw [h]
  rfl
theorem wp_append {a : Nat} {xs : List DV} {y : DV} (h : st.get a = some (.lst xs)) : wpE (mAppend (.ref a) [y] st) Q E ↔ if xs.length < sizeLine then Q .non (st.set a (.lst (xs ++ [y]))) else False := by
  show wpE (match st.get a with
    | some (.lst xs) => if xs.length < sizeLine then some (.ok .non, st.set a (.lst (xs ++ [y]))) else none
    | _ => none) Q E ↔ _
  rw [h]
  exact wp_ite
theorem e_right {l : List Nat} (hok : okS l = true) (hlen : l.length ≤ 2000) : g_right_part [.str l] st = some (.ok (.str (l.take (go 0 [] 0 l).1)), st) := run_of <| by
  unfold g_right_part
  rw [wp_def]
  unfold d_right_part
  have hl : l.length ≤ 16777216 := by omega
  have h2 : ¬ (2000 : Int) < (l.length : Int) := by omega
  simp [startE, e_size hok (show l.length ≤ 10000 by omega), hl, sizeLine_is, h2, cut_to]
theorem wp_exc {n : Nat} {C : Nat} {v : DV} (h : st.get n = some (.exc C v)) (hc : xCs C = true) : wpE (xv xCs (.ref n) st) Q E ↔ Q v st := by
  show wpE (match st.get n with
    | some (.exc C v) => if xCs C = true then some (.ok v, st) else none
    | _ => none) Q E ↔ _
  rw [h]
  dsimp only
  rw [if_pos hc]
  exact Iff.rfl
@[simp↓] theorem wp_exc3 {v : DV} : wpE (xv xCs (.ref s.size) (s.push (.exc 3 v))) Q E ↔ Q v (s.push (.exc 3 v)) := wp_exc get_new rfl
mutual
theorem eqT_refl : ∀ t : TV, SE.eqT t t = true
  | .non => rfl
  | .bl b => by simp [SE.eqT]
  | .int i => by simp [SE.eqT]
  | .str x => by simp [SE.eqT]
  | .lst xs => by show eqTs xs xs = true; exact eqTs_refl xs
  | .tup xs => by show eqTs xs xs = true; exact eqTs_refl xs
theorem eqTs_refl : ∀ ts : List TV, eqTs ts ts = true
  | [] => rfl
  | t :: ts => by
    show (SE.eqT t t && eqTs ts ts) = true
    rw [eqT_refl t, eqTs_refl ts]
    rfl
end
theorem rd_pair {p : Nat} {ps : List (Nat × Int)} {w : List Nat} (h : st.get p = some (.lst (ps.map prD))) : rd 60 st (.tup [.ref p, .str w]) = some (.tup [.lst ((ps.map prD).map tvD), .str w]) := by
  have h1 : rd 59 st (.ref p) = some (.lst ((ps.map prD).map tvD)) := rd_lst h fun x hx => by
    obtain ⟨q, _, rfl⟩ := List.mem_map.mp hx
    exact rd_pr
  show (rdL (rd 59 st) [.ref p, .str w]).map TV.tup = _
  unfold rdL
  rw [h1]
  rfl
theorem okT_pair {ps : List (Nat × Int)} {w : List Nat} (h1 : ∀ p ∈ ps, p.1 < 1114112) (h2 : okS w = true) : okT 60 (.tup [.lst ((ps.map prD).map tvD), .str w]) = true := by
  have h3 : okTs 58 ((ps.map prD).map tvD) = true := okTs_all fun t ht => by
    obtain ⟨x, hx, rfl⟩ := List.mem_map.mp ht
    obtain ⟨q, hq, rfl⟩ := List.mem_map.mp hx
    exact okT_pr (h1 q hq)
  show (okTs 58 ((ps.map prD).map tvD) && (okS w && true)) = true
  rw [h3, h2]
  rfl
/-- what a line may be due to -/
def Due (st : Store) (l : List Nat) (due : DV) : Prop := go 0 [] 0 l = (l.length, 5) → ∃ ps w, l = prLine ps w ∧ GoodP ps w ∧ Fit ps w ∧ (due = .non ∨ ∃ p, due = .tup [.ref p, .str w] ∧ st.get p = some (.lst (ps.map prD)))
theorem g_line_right {l : List Nat} {due : DV} (hok : okS l = true) (hlen : l.length ≤ 2000) (hd : Due st l due) : wpE (g__law_line_right [.str l, due] st) (fun v s => v = .bl true ∧ Ext no st s) noE := by
  unfold g__law_line_right
  rw [wp_def]
  unfold d__law_line_right
  have hl : l.length ≤ 16777216 := by omega
  have h1 := go_len l 0 [] 0
  have h2 := go_lt l 0 [] 0 (by decide)
  simp only [startE, List.replicate]
  simp
  refine wpE_ok (e_walk hok (show l.length ≤ 10000 by omega)) ?_
  rintro v s ⟨rfl, x⟩
  simp [bTup, bsCons, bsNil, bName, setsE, e_right hok hlen, cut_to, okS_take hok, hl, sizeLine_is, permL]
  by_cases hacc : go 0 [] 0 l = (l.length, 5)
  · obtain ⟨ps, w, rfl, g, f, hdue⟩ := hd hacc
    refine wpE_ok (g_of_line_ok g f hacc) ?_
    rintro v s2 ⟨p, rfl, hp1, hp2, x2⟩
    have hw5 : okS (nmS 5) = true := rfl
    have hn5 : nmS 5 = [119, 111, 114, 100] := rfl
    -- the last part: behind the comparison with what it is due to
    have fin : ∀ s3 : Store, s3.get p = some (.lst (ps.map prD)) → Ext no st s3 → st.n ≤ p → wpE (fIx (.tup [.ref p, .str w]) (.int 0) s3)
        (fun x s => tyD "list" x s = true ∧ wpE (mAppend x [.non] s) (fun x s => wpE (g_of_line [.str (prLine ps w)] s) (fun x s => wpE (fIx x (.int 0) s) (fun x s => wpE (g_of_line [.str (prLine ps w)] s)
          (fun x_2 s => wpE (fIx x_2 (.int 1) s) (fun x_3 s => wpE (g_line_of [x, x_3] s) (fun x s => wpE (fEq false x (.str (prLine ps w)) s) (fun v s => v = .bl true ∧ Ext no st s) noE) noE) noE) noE) noE) noE) noE) noE := by
      intro s3 h3 x3 hp
      have hps := f.n
      have hlt : (ps.map prD).length < sizeLine := by rw [sizeLine_is, List.length_map]; omega
      simp [tyD_list h3, wp_append h3]
      rw [List.length_map] at hlt
      refine ⟨hlt, ?_⟩
      refine wpE_ok (g_of_line_ok g f hacc) ?_
      rintro v s4 ⟨p4, rfl, hp4, hg4, x4⟩
      simp
      refine wpE_ok (g_of_line_ok g f hacc) ?_
      rintro v s5 ⟨p5, rfl, hp5, hg5, x5⟩
      simp
      refine wpE_ok (g_line_of_ok (x5.get hg4 rfl) g f) ?_
      rintro v s6 ⟨rfl, x6⟩
      simp [hok]
      refine (x3.setNew hp (Store.get_lt h3)).trans (x4.trans (x5.trans x6))
    simp [hacc, hw5, hn5]
    refine wpE_ok (g_line_of_ok hp2 g f) ?_
    rintro v s3 ⟨rfl, x3⟩
    simp [hok]
    have hp3 := x3.get hp2 rfl
    have xx := x.trans (x2.trans x3)
    rcases hdue with rfl | ⟨q, rfl, hq⟩
    · simp
      exact fin s3 hp3 xx (Nat.le_trans x.le hp1)
    · simp
      have hq3 := xx.get hq rfl
      have ho := okT_pair (low_chars g.ok) (okS_low g.w)
      rw [wp_eqT (rd_pair hp3) (rd_pair hq3) (by rw [ho]; rfl), eqT_refl]
      have := fin s3 hp3 xx (Nat.le_trans x.le hp1)
      simp at this ⊢
      exact this
  · refine wpE_mono (g_of_line_er hok (show l.length ≤ 10000 by omega) hacc) (fun _ _ z => z.elim) ?_
    rintro C v s2 ⟨rfl, rfl, rfl⟩
    simp [tryK, mEx_InvalidLine, hok, hl, sizeLine_is]
    have xe : Ext no st (s2.push (.exc 3 (.str l))) := x.trans Ext.push
    by_cases hlt : (go 0 [] 0 l).1 < l.length
    · rw [if_pos hlt]
      exact xe
    · rw [if_neg hlt]
      refine ⟨nmS_ok _ h2, fun e => ?_, xe⟩
      have hw := nmS_word _ h2
      rw [e] at hw
      have h5 : ((go 0 [] 0 l).2 == 5) = true := by rw [← hw]; decide
      exact hacc (Prod.ext (by show (go 0 [] 0 l).1 = l.length; omega) (beq_iff_eq.mp h5))
end
end K91

namespace K91
open PySem PySem.Spec PyProof.Rows L2 SE
/-! ### what is drawn -/
theorem lg {i : Int} {k : Nat} (hk : 0 < k) (h : i.natAbs < 2 ^ k) : i.natAbs.log2 < k := by
  by_cases h0 : i.natAbs = 0
  · rw [h0, Nat.log2_zero]; exact hk
  · exact (Nat.log2_lt h0).mpr h
theorem lg64 {i : Int} (h : i.natAbs < 18446744073709551616) : i.natAbs.log2 < 64 := lg (by decide) h
section
variable {Q : DV → Store → Prop} {E : Nat → DV → Store → Prop} {st s : Store}
theorem g_hash_ok {a b : Int} (ha : 0 ≤ a ∧ a < 2147483648) (hb : 0 ≤ b ∧ b < 1000000000000) : wpE (g__law_hash [.int a, .int b] st) (fun v s => s = st ∧ ∃ h : Int, v = .int h ∧ 0 ≤ h ∧ h < 2147483647) noE := by
  unfold g__law_hash
  rw [wp_def]
  unfold d__law_hash
  have l1 : a.natAbs.log2 < 64 := lg64 (by omega)
  have l2 : b.natAbs.log2 < 64 := lg64 (by omega)
  have l3 : (27644437 * b).natAbs.log2 < 128 := lg (by decide) (by omega)
  have l4 : (1140671 : Nat).log2 < 64 := by decide
  have l5 : (27644437 : Nat).log2 < 64 := by decide
  have l6 : (131 : Nat).log2 < 64 := by decide
  have l7 : (62089 : Nat).log2 < 64 := by decide
  have l8 : (48271 : Nat).log2 < 64 := by decide
  have c1 : a.natAbs.log2 + (1140671 : Int).natAbs.log2 < 1000000 := by show _ + (1140671 : Nat).log2 < _; omega
  have c2 : (27644437 : Int).natAbs.log2 + b.natAbs.log2 < 1000000 := by show (27644437 : Nat).log2 + _ < _; omega
  have c3 : (27644437 * b).natAbs.log2 + b.natAbs.log2 < 1000000 := by omega
  have c4 : (131 : Int).natAbs.log2 + b.natAbs.log2 < 1000000 := by show (131 : Nat).log2 + _ < _; omega
  have c5 : (62089 : Int).natAbs.log2 + b.natAbs.log2 < 1000000 := by show (62089 : Nat).log2 + _ < _; omega
  simp only [startE, List.replicate]
  generalize hm : (a * 1140671 + 27644437 * b * b + 131 * b + 19) % 2147483629 = m1
  have hm1 : 0 ≤ m1 ∧ m1 < 2147483629 := by rw [← hm]; omega
  have l9 : m1.natAbs.log2 < 64 := lg64 (by omega)
  have c6 : m1.natAbs.log2 + m1.natAbs.log2 < 1000000 := by omega
  generalize hn : (m1 * m1 + 62089 * b + 32416187) % 2147483587 = m2
  have hm2 : 0 ≤ m2 ∧ m2 < 2147483587 := by rw [← hn]; omega
  have l10 : m2.natAbs.log2 < 64 := lg64 (by omega)
  have c7 : m2.natAbs.log2 + (48271 : Int).natAbs.log2 < 1000000 := by show _ + (48271 : Nat).log2 < _; omega
  simp [c1, c2, c3, c4, c5, hm, c6, hn, c7]
  omega
structure Gen (r : Nat) (c : Int) (st : Store) : Prop where
  ex : ∃ a b n : Int, st.get r = some (.lst [.int a, .int b, .int n]) ∧ 0 ≤ a ∧ 0 ≤ b ∧ b < 2147483648 ∧ 0 ≤ n ∧ n ≤ c
theorem Gen.ext {r : Nat} {c : Int} {k : Nat → Bool} (g : Gen r c st) (x : Ext k st s) (h : k r = false) : Gen r c s := by
  obtain ⟨a, b, n, h1, h2⟩ := g.ex
  exact ⟨a, b, n, x.get h1 h, h2⟩
theorem Gen.mono {r : Nat} {c c' : Int} (g : Gen r c st) (h : c ≤ c') : Gen r c' st := by
  obtain ⟨a, b, n, h1, h2, h3, h4, h5, h6⟩ := g.ex
  exact ⟨a, b, n, h1, h2, h3, h4, h5, by omega⟩
theorem Gen.lt {r : Nat} {c : Int} (g : Gen r c st) : r < st.n := by
  obtain ⟨a, b, n, h1, _⟩ := g.ex
  exact Store.get_lt h1
theorem setI_0 {r : Nat} {a b c v : DV} (h : st.get r = some (.lst [a, b, c])) : setI (.ref r) (.int 0) v st = some (st.set r (.lst [v, b, c])) := by
  show (match st.get r with
    | some (.lst xs) => (match L2.ixN xs.length 0 with
      | some j => some (st.set r (.lst (xs.set j v)))
      | none => none)
    | _ => none) = _
  rw [h]
  rfl
theorem setI_2 {r : Nat} {a b c v : DV} (h : st.get r = some (.lst [a, b, c])) : setI (.ref r) (.int 2) v st = some (st.set r (.lst [a, b, v])) := by
  show (match st.get r with
    | some (.lst xs) => (match L2.ixN xs.length 2 with
      | some j => some (st.set r (.lst (xs.set j v)))
      | none => none)
    | _ => none) = _
  rw [h]
  rfl
theorem get_set {r : Nat} {o o' : DO} (h : st.get r = some o) : (st.set r o').get r = some o' := Store.get_set_self o' h
def RdI (r : Nat) (B : Int) (a b n0 : Int) (st : Store) (i : Nat) (env : Ev) (s : Store) : Prop := ∃ (d n : Int) (t : Option DV), env = [some (.ref r), some (.int B), some (.int d), t] ∧ s.get r = some (.lst [.int a, .int b, .int n]) ∧ n0 ≤ n ∧ n ≤ n0 + i ∧ 0 ≤ d ∧ d.natAbs < 2 ^ (32 * i) ∧ Ext (at1 r) st s
theorem g_random_ok {r : Nat} {c B : Int} (g : Gen r c st) (hc : c ≤ 100000000000) (h1 : 1 ≤ B) (h2 : B.natAbs < 2 ^ 120) :
    wpE (g__law_random [.ref r, .int B] st) (fun v s => ∃ d : Int, v = .int d ∧ 0 ≤ d ∧ d < B ∧ Gen r (c + 5) s ∧ Ext (at1 r) st s) noE := by
  obtain ⟨a, b, n, hr, ha, hb, hb2, hn, hn2⟩ := g.ex
  have hlt := Store.get_lt hr
  unfold g__law_random
  rw [wp_def]
  unfold d__law_random
  have hB9 : B.natAbs.log2 < 120 := lg (by decide) h2
  simp only [startE, List.replicate]
  simp [wp_ixL hr]
  by_cases h0 : 0 < a
  · have c1 : 0 < B ∧ B.natAbs.log2 < 9000 := ⟨by omega, by omega⟩
    have c2 : 0 < B := c1.1
    simp [h0, wp_ixL hr, c1, c2, setI_0 hr]
    refine ⟨Int.emod_nonneg _ (by omega), Int.emod_lt_of_pos _ c2, ⟨_, _, _, get_set hr, Int.ediv_nonneg ha (by omega), hb, hb2, hn, by omega⟩, Ext.set (by simp [at1]) hlt⟩
  · simp [h0, wps_for]
    have hbits : Builtin.Int.intBits B ≤ 120 := by
      unfold Builtin.Int.intBits
      split
      · omega
      · omega
    generalize Builtin.Int.intBits B = m at hbits
    have hN : ((1 : Int) + (m : Int) / 30).toNat ≤ 5 := by omega
    have hrng : rngOk (1 + (m : Int) / 30) = true := by
      unfold rngOk
      rw [Bool.and_eq_true, decide_eq_true_eq, decide_eq_true_eq]
      omega
    refine ⟨by decide, hrng, ?_⟩
    generalize ((1 : Int) + (m : Int) / 30).toNat = N at hN
    refine wp_for (rngL 0 1 N) (RdI r B a b n st) (by rw [rngL_length]; omega) ?_ ?_ ?_ ?_
    · exact ⟨0, n, none, rfl, hr, by omega, by omega, by omega, by decide, Ext.refl⟩
    · exact fun _ _ _ _ _ => nx_rng
    · rintro i x env s hx ⟨d, n', t, rfl, hs, k1, k2, k3, k4, k5⟩
      have hi : i < N := by
        have := (List.getElem?_eq_some_iff.mp hx).1
        rwa [rngL_length] at this
      have e1 := get_set (o' := .lst [.int a, .int b, .int (n' + 1)]) hs
      have l1 : d.natAbs.log2 < 32 * i + 1 := lg (by omega) (Nat.lt_of_lt_of_le k4 (Nat.pow_le_pow_right (by decide) (by omega)))
      have c1 : d.natAbs.log2 + (2147483587 : Int).natAbs.log2 < 1000000 := by
        have : (2147483587 : Nat).log2 < 64 := by decide
        show _ + (2147483587 : Nat).log2 < _
        omega
      simp [bName, setsE, wp_ixL hs, setI_2 hs, c1, wp_ixL e1]
      refine ⟨c1, ?_⟩
      refine wpE_ok (g_hash_ok ⟨hb, hb2⟩ ⟨by omega, by omega⟩) ?_
      rintro v s' ⟨rfl, h, rfl, q1, q2⟩
      simp
      refine ⟨d * 2147483587 + h, n' + 1, _, rfl, e1, by omega, by omega, by omega, ?_, k5.trans (Ext.set (by simp [at1]) (Store.get_lt hs))⟩
      have e2 : 2 ^ (32 * (i + 1)) = 2 ^ (32 * i) * 4294967296 := by rw [Nat.mul_add, Nat.pow_add]
      rw [e2]
      have hp : 0 < 2 ^ (32 * i) := Nat.pow_pos (by decide)
      generalize 2 ^ (32 * i) = X at *
      omega
    · rintro env s ⟨d, n', t, rfl, hs, k1, k2, k3, k4, k5⟩
      rw [rngL_length] at k2
      have c2 : 0 < B := by omega
      simp [c2]
      exact ⟨Int.emod_nonneg _ (by omega), Int.emod_lt_of_pos _ c2, ⟨_, _, _, hs, ha, hb, hb2, by omega, by omega⟩, k5⟩
end
end K91

namespace K91
open PySem PySem.Spec PyProof.Rows L2 SE
section
variable {Q : DV → Store → Prop} {E : Nat → DV → Store → Prop} {st s : Store}
/-- a comprehension that draws -/
theorem wp_compG {I : ItD} {B : Bd} {tt : DT} {te : DE} {env : Ev} {r : Nat} {c K : Int} (xs : List DV) (R : Nat → List DV → Prop) (g : Gen r c st) (hf : xs.length < 16777216) (h0 : R 0 []) (hR : ∀ i acc, R i acc → acc.length ≤ i)
    (hi : ∀ i s, i ≤ xs.length → Ext (at1 r) st s → itNext I i s = some xs[i]?)
    (hs : ∀ i x acc s, xs[i]? = some x → R i acc → Gen r (c + K * i) s → Ext (at1 r) st s → match B x s with | none => False | some bs => wpE (tt (setsE env bs) s) (fun k s1 => Ext (at1 r) s s1 ∧ if k = true then wpE (te (setsE env bs) s1) (fun y s2 => Ext (at1 r) s1 s2 ∧ Gen r (c + K * (i + 1 : Nat)) s2 ∧ R (i + 1) (acc ++ [y])) noE else Gen r (c + K * (i + 1 : Nat)) s1 ∧ R (i + 1) acc) noE)
    (he : ∀ acc s, R xs.length acc → s.get st.size = some (.lst acc) → Gen r (c + K * (xs.length : Nat)) s → Ext (at1 r) st s → Q (.ref st.size) s) : wpE (compI I B tt te env st.size fuel 0 (st.push (.lst []))) Q E := by
  have hr := g.lt
  have hne : at1 r st.size = false := by
    show (st.n == r) = false
    rw [beq_eq_false_iff_ne]
    omega
  refine wp_comp xs (fun i acc s => s.get st.size = some (.lst acc) ∧ Ext (at1 r) st s ∧ Gen r (c + K * (i : Nat)) s ∧ R i acc) (by omega) ⟨get_new, Ext.push, ?_, h0⟩ ?_ ?_ ?_
  · exact (g.ext Ext.push (k := no) rfl).mono (by simp)
  · rintro i acc s ⟨h1, h2, h3, h4⟩ hl
    exact hi i s hl h2
  · rintro i x acc s hx ⟨h1, h2, h3, h4⟩
    have hh := hs i x acc s hx h4 h3 h2
    have hlt : i < xs.length := (List.getElem?_eq_some_iff.mp hx).1
    cases hb : B x s with
    | none => rw [hb] at hh; exact hh.elim
    | some bs =>
      rw [hb] at hh
      refine wpE_ok hh ?_
      rintro k s1 ⟨x1, hh⟩
      by_cases hk : k = true
      · rw [if_pos hk] at hh ⊢
        refine wpE_ok hh ?_
        rintro y s2 ⟨x2, g2, r2⟩
        have hg2 := x2.get (x1.get h1 hne) hne
        refine ⟨hg2, ?_, get_set hg2, ?_, g2.ext (Ext.set (r := at1 st.size) (by simp [at1]) (Store.get_lt hg2)) ?_, r2⟩
        · have := hR _ _ h4
          rw [sizeLine_is]; omega
        · exact (h2.trans (x1.trans x2)).setNew (Nat.le_refl _) (Store.get_lt hg2)
        · show (r == st.n) = false
          rw [beq_eq_false_iff_ne]
          omega
      · rw [if_neg hk] at hh ⊢
        exact ⟨x1.get h1 hne, h2.trans x1, hh.1, hh.2⟩
  · rintro acc s ⟨h1, h2, h3, h4⟩
    exact he acc s h4 h1 h3 h2
theorem let_get : ∀ k, k < 26 → LET[k]? = some (97 + k) := by decide
def LtI (r : Nat) (c : Int) (m : Nat) (st : Store) (i : Nat) (env : Ev) (s : Store) : Prop := ∃ (fs : List Nat) (k : Int) (t : Option DV), env = [some (.ref r), some (.int 1), some (.int 6), some (.int m), some (.str fs), some (.int k), t] ∧ fs.length = i ∧ -1 ≤ k ∧ k ≤ 3 * i - 1 ∧ fs.Pairwise (· < ·) ∧ (∀ x ∈ fs, 97 ≤ x ∧ (x : Int) ≤ 97 + k) ∧ Gen r (c + 5 * i) s ∧ Ext (at1 r) st s
theorem g_letters_ok {r : Nat} {c : Int} (g : Gen r c st) (hc : c ≤ 10000000000) : wpE (g__law_letters [.ref r, .int 1, .int 6] st) (fun v s => ∃ fs : List Nat, v = .str fs ∧ 1 ≤ fs.length ∧ fs.length ≤ 6 ∧ fs.Pairwise (· < ·) ∧ fs.all low = true ∧ Gen r (c + 100) s ∧ Ext (at1 r) st s) noE := by
  unfold g__law_letters
  rw [wp_def]
  unfold d__law_letters
  simp only [startE, List.replicate]
  simp [wps_for]
  refine wpE_ok (g_random_ok g (by omega) (by decide) (by decide)) ?_
  rintro v s ⟨d, rfl, h1, h2, g1, x1⟩
  obtain ⟨m, rfl⟩ : ∃ m : Nat, d = m := ⟨d.toNat, by omega⟩
  have hr : rngOk (1 + (m : Int)) = true := by
    unfold rngOk
    rw [Bool.and_eq_true, decide_eq_true_eq, decide_eq_true_eq]
    omega
  have hm : ((1 : Int) + (m : Int)).toNat = m + 1 := by omega
  simp [hr, hm]
  refine wp_for (rngL 0 1 (m + 1)) (LtI r (c + 5) (m + 1) s) (by rw [rngL_length]; omega) ?_ ?_ ?_ ?_
  · exact ⟨[], -1, none, by simp [Int.add_comm], rfl, by decide, by decide, List.Pairwise.nil, (fun x hx => by cases hx), g1.mono (by omega), Ext.refl⟩
  · exact fun _ _ _ _ _ => nx_rng
  · rintro i x env s2 hx ⟨fs, k, t, rfl, e1, e2, e3, e4, e5, g2, x2⟩
    have hi : i < m + 1 := by
      have := (List.getElem?_eq_some_iff.mp hx).1
      rwa [rngL_length] at this
    simp [bName, setsE]
    refine wpE_ok (g_random_ok g2 (by omega) (by decide) (by decide)) ?_
    rintro v s3 ⟨d, rfl, q1, q2, g3, x3⟩
    obtain ⟨j, hj⟩ : ∃ j : Nat, k + 1 + d = j := ⟨(k + 1 + d).toNat, by omega⟩
    have hj2 : j < 26 := by omega
    have hlj := let_get j hj2
    simp [hj, sizeLine_is, hlj]
    refine ⟨by omega, fs ++ [97 + j], j, _, rfl, by simp [e1], by omega, by omega, ?_, ?_, g3.mono (by omega), x2.trans x3⟩
    · rw [List.pairwise_append]
      refine ⟨e4, List.pairwise_singleton _ _, fun a ha b hb => ?_⟩
      have := e5 a ha
      have : b = 97 + j := by simpa using hb
      omega
    · intro x hx
      rcases List.mem_append.mp hx with hx | hx
      · have := e5 x hx
        omega
      · have : x = 97 + j := by simpa using hx
        omega
  · rintro env s2 ⟨fs, k, t, rfl, e1, e2, e3, e4, e5, g2, x2⟩
    rw [rngL_length] at e1 e3 g2
    simp
    refine ⟨by omega, by omega, e4, fun x hx => ?_, g2.mono (by omega), x1.trans x2⟩
    have := e5 x hx
    exact let_iff.mpr ⟨this.1, by omega⟩
theorem ext_itv {r : Nat} {xs : List Nat} {i : Nat} {st : Store} : itNext (.seq (xs.map fun c => .str [c])) i st = some (xs.map fun c => DV.str [c])[i]? := rfl
theorem asD {js : List Nat} : js.map (fun c => DV.str [c]) = (js.map fun c => [c]).map DV.str := by rw [List.map_map]; rfl
theorem join_ones : ∀ js : List Nat, joinS [] (js.map fun c => [c]) = js
  | [] => rfl
  | [x] => rfl
  | x :: y :: r => by
    show [x] ++ [] ++ joinS [] ((y :: r).map fun c => [c]) = _
    rw [join_ones (y :: r)]
    rfl
theorem lenSum_ones : ∀ js : List Nat, lenSum (js.map fun c => [c]) = js.length
  | [] => rfl
  | x :: r => by
    show 1 + lenSum (r.map fun c => [c]) = _
    rw [lenSum_ones r, List.length_cons]
    omega
theorem sub_take {α : Type} {l js : List α} {i : Nat} {x : α} (h : l[i]? = some x) (s : js.Sublist (l.take i)) : js.Sublist (l.take (i + 1)) ∧ (js ++ [x]).Sublist (l.take (i + 1)) := by
  rw [take_succ h]
  exact ⟨s.trans (List.sublist_append_left _ _), s.append (List.Sublist.refl _)⟩
theorem g_joints_ok {r : Nat} {c : Int} {fs : List Nat} (g : Gen r c st) (hc : c ≤ 10000000000) (hl : fs.length ≤ 6) : wpE (g__law_joints [.ref r, .str fs] st) (fun v s => ∃ js : List Nat, v = .str js ∧ js.Sublist fs ∧ Gen r (c + 100) s ∧ Ext (at1 r) st s) noE := by
  unfold g__law_joints
  rw [wp_def]
  unfold d__law_joints
  simp only [startE, List.replicate]
  simp [wipeE]
  refine wp_compG (c := c) (K := 5) (r := r) (fs.map fun c => .str [c]) (fun i acc => ∃ js : List Nat, acc = js.map (fun c => .str [c]) ∧ js.Sublist (fs.take i)) g (by rw [List.length_map]; omega) ⟨[], rfl, List.Sublist.refl _⟩ ?_ (fun _ _ _ _ => rfl) ?_ ?_
  · rintro i acc ⟨js, rfl, h⟩
    have := h.length_le
    rw [List.length_take] at this
    rw [List.length_map]
    omega
  · rintro i x acc s hx ⟨js, rfl, h⟩ g1 x1
    rw [List.getElem?_map] at hx
    cases hfi : fs[i]? with
    | none => rw [hfi] at hx; cases hx
    | some a =>
      rw [hfi] at hx
      have hx : DV.str [a] = x := Option.some.inj hx
      subst hx
      have hi : i < fs.length := (List.getElem?_eq_some_iff.mp hfi).1
      simp [bName, setsE]
      refine wpE_ok (g_random_ok g1 (by omega) (by decide) (by decide)) ?_
      rintro v s2 ⟨d, rfl, q1, q2, g2, x2⟩
      obtain ⟨h1, h2⟩ := sub_take hfi h
      simp
      refine ⟨x2, ?_⟩
      by_cases hd : d = 0
      · rw [if_pos hd]
        exact ⟨Ext.refl, g2.mono (by omega), js ++ [a], by simp, h2⟩
      · rw [if_neg hd]
        exact ⟨g2.mono (by omega), js, rfl, h1⟩
  · rintro acc s ⟨js, rfl, h⟩ hg g1 x1
    rw [List.length_map] at h g1
    rw [List.take_length] at h
    rw [asD] at hg
    have := h.length_le
    simp [wp_join hg, lenSum_ones, join_ones]
    refine ⟨by omega, h, g1.mono (by omega), x1⟩
theorem g_drawnword_ok {r : Nat} {c : Int} {fs : List Nat} {m : Int} (g : Gen r c st) (hc : c ≤ 10000000000) (hl : fs.length ≤ 6) (h1 : 1 ≤ fs.length) (hlow : fs.all low = true) (hm0 : 0 ≤ m) (hm : m ≤ 30) : wpE (g__law_word [.ref r, .str fs, .int m] st) (fun v s => ∃ ws : List Nat, v = .str ws ∧ ws.length ≤ 30 ∧ ws.all low = true ∧ Gen r (c + 200) s ∧ Ext (at1 r) st s) noE := by
  unfold g__law_word
  rw [wp_def]
  unfold d__law_word
  simp only [startE, List.replicate]
  have hrng : rngOk m = true := by
    unfold rngOk
    rw [Bool.and_eq_true, decide_eq_true_eq, decide_eq_true_eq]
    omega
  simp [wipeE, hrng]
  refine wp_compG (c := c) (K := 5) (r := r) (rngL 0 1 m.toNat) (fun i acc => ∃ ws : List Nat, acc = ws.map (fun c => .str [c]) ∧ ws.length = i ∧ ws.all low = true) g (by rw [rngL_length]; omega) ⟨[], rfl, rfl, rfl⟩ ?_ (fun _ _ _ _ => nx_rng) ?_ ?_
  · rintro i acc ⟨js, rfl, h, _⟩
    rw [List.length_map, h]
    exact Nat.le_refl _
  · rintro i x acc s hx ⟨ws, rfl, hw, hw2⟩ g1 x1
    have hi : i < m.toNat := by
      have := (List.getElem?_eq_some_iff.mp hx).1
      rwa [rngL_length] at this
    have hfl : fs.length ≤ 16777216 := by omega
    simp [bName, setsE, hfl, sizeLine_is]
    refine ⟨Ext.refl, ?_⟩
    refine wpE_ok (g_random_ok g1 (by omega) (by omega) (by omega)) ?_
    rintro v s2 ⟨d, rfl, q1, q2, g2, x2⟩
    obtain ⟨j, rfl⟩ : ∃ j : Nat, d = j := ⟨d.toNat, by omega⟩
    have hj : j < fs.length := by omega
    simp [List.getElem?_eq_getElem hj, sizeLine_is, hfl]
    refine ⟨x2, g2.mono (by omega), ws ++ [fs[j]], by simp, by simp [hw], ?_⟩
    have := List.all_eq_true.mp hlow fs[j] (List.getElem_mem hj)
    intro y hy
    rcases List.mem_append.mp hy with hy | hy
    · exact List.all_eq_true.mp hw2 y hy
    · have e : y = fs[j] := by simpa using hy
      rw [e]; exact this
  · rintro acc s ⟨ws, rfl, h, h2⟩ hg g1 x1
    rw [rngL_length] at h g1
    rw [asD] at hg
    simp [wp_join hg, lenSum_ones, join_ones]
    refine ⟨by omega, by omega, List.all_eq_true.mp h2, g1.mono (by omega), x1⟩
end
end K91

namespace K91
open PySem PySem.Spec PyProof.Rows L2 SE
section
variable {Q : DV → Store → Prop} {E : Nat → DV → Store → Prop} {st s : Store}
theorem asInts_map : ∀ ns : List Int, asInts (ns.map DV.int) = some ns
  | [] => rfl
  | n :: ns => by
    show (asInts (ns.map DV.int)).map (n :: ·) = _
    rw [asInts_map ns]
    rfl
theorem wp_sum {a : Nat} {ns : List Int} (h : st.get a = some (.lst (ns.map DV.int))) : wpE (fSum [.ref a] st) Q E ↔ Q (.int ns.sum) st := by
  show wpE (match st.get a with
    | some (.lst xs) => lift ((asInts xs).map fun ns => DV.int ns.sum) st
    | _ => none) Q E ↔ _
  rw [h]
  dsimp only
  rw [asInts_map]
  exact Iff.rfl
theorem cutD_to {l : List DV} {k : Nat} : cutL l none (some (k : Int)) = l.take k := by
  unfold cutL
  rw [HT.sIx_nat, HT.sIx_none, Nat.sub_zero, List.drop_zero]
  rw [List.take_eq_take_iff]
  omega
theorem g_cell_ok {ns : List Int} {i : Nat} : wpE (g__law_cell [.fl (ns.map .int), .int i] st) (fun v s => (∃ z : Int, v = .int z) ∧ Ext no st s) noE := by
  unfold g__law_cell
  rw [wp_def]
  unfold d__law_cell
  simp only [startE, List.replicate]
  have hc : cutL (ns.map DV.int) none (some 1) = (ns.take 1).map DV.int := by
    rw [show (1 : Int) = ((1 : Nat) : Int) from rfl, cutD_to, List.map_take]
  simp [hc]
  by_cases hi : i < ns.length
  · simp [hi, List.getElem?_eq_getElem hi]
    exact Ext.refl
  · rw [if_neg hi, show (ns.map DV.int).take 1 = (ns.take 1).map DV.int by rw [List.map_take], wp_sum get_new]
    simp
    exact Ext.push
@[simp↓] theorem e_pow18 : fPow (.int 10) (.int 18) st = some (.ok (.int 1000000000000000000), st) := by
  show (if (0 : Int) ≤ 18 ∧ (Builtin.Int.intBits 10 : Int) * 18 ≤ 2 ^ 27 then ret (DV.int (10 ^ (18 : Int).toNat)) else stuck) st = _
  rw [if_pos (by decide)]
  rfl
@[simp↓] theorem e_pow60 : fPow (.int 10) (.int 60) st = some (.ok (.int (10 ^ 60)), st) := by
  show (if (0 : Int) ≤ 60 ∧ (Builtin.Int.intBits 10 : Int) * 60 ≤ 2 ^ 27 then ret (DV.int (10 ^ (60 : Int).toNat)) else stuck) st = _
  rw [if_pos (by decide)]
  rfl
theorem e_pow10 : fPow (.int (10 ^ 60)) (.int 10) st = some (.ok (.int ((10 ^ 60) ^ 10)), st) := by
  show (if (0 : Int) ≤ 10 ∧ (Builtin.Int.intBits (10 ^ 60) : Int) * 10 ≤ 2 ^ 27 then ret (DV.int ((10 ^ 60) ^ (10 : Int).toNat)) else stuck) st = _
  rw [if_pos (by decide +kernel)]
  rfl
@[simp↓] theorem e_pow10' : fPow (.int 1000000000000000000000000000000000000000000000000000000000000) (.int 10) st = some (.ok (.int ((10 ^ 60) ^ 10)), st) := e_pow10
@[simp↓] theorem e_pow29 : fPow (.int 10) (.int 29) st = some (.ok (.int 100000000000000000000000000000), st) := by
  show (if (0 : Int) ≤ 29 ∧ (Builtin.Int.intBits 10 : Int) * 29 ≤ 2 ^ 27 then ret (DV.int (10 ^ (29 : Int).toNat)) else stuck) st = _
  rw [if_pos (by decide)]
  rfl
@[simp↓] theorem wp_max2 {i j : Int} : wpE (fMax2 [.int i, .int j] st) Q E ↔ Q (.int (if j > i then j else i)) st := Iff.rfl
theorem g_gen_ok {ns : List Int} {i : Nat} (hi : i ≤ 2) : wpE (g__law_generator [.fl (ns.map .int), .int i] st) (fun v s => ∃ p, v = .ref p ∧ st.n ≤ p ∧ Gen p 2000 s ∧ Ext no st s) noE := by
  unfold g__law_generator
  rw [wp_def]
  unfold d__law_generator
  simp only [startE, List.replicate]
  simp
  refine wpE_ok g_cell_ok ?_
  rintro v s ⟨⟨z, rfl⟩, x⟩
  generalize hX : (if z - 1000000000000000000 < 0 then (0 : Int) else z - 1000000000000000000) = X
  have hl : Nat.log2 1000 + Nat.log2 i < 1000000 := by
    have : (1000 : Nat).log2 < 64 := by decide
    have h2 : ((i : Int)).natAbs.log2 < 64 := lg64 (by omega)
    simp at h2
    omega
  simp [hl, hX, sizeLine_is]
  have hX0 : 0 ≤ X := by rw [← hX]; split <;> omega
  refine ⟨by decide +kernel, by decide +kernel, by decide +kernel, x.le, ⟨_, _, _, get_new, Int.emod_nonneg _ (by decide +kernel), Int.emod_nonneg _ (by decide), ?_, by omega, by omega⟩, x.trans Ext.push⟩
  have := Int.emod_lt_of_pos z (b := 2147483647) (by decide)
  omega
/-- two lists, one behind the other -/
theorem wp_cat {a b : Nat} {xs ys : List DV} (h1 : st.get a = some (.lst xs)) (h2 : st.get b = some (.lst ys)) : wpE (fAdd (.ref a) (.ref b) st) Q E ↔ if xs.length + ys.length ≤ sizeLine then Q (.ref st.size) (st.push (.lst (xs ++ ys))) else False := by
  show wpE (match st.get a with
    | some (.lst xs) => (match st.get b with
      | some (.lst ys) => if xs.length + ys.length ≤ sizeLine then some (.ok (.ref st.size), st.push (.lst (xs ++ ys))) else none
      | _ => none)
    | _ => none) Q E ↔ _
  rw [h1]
  dsimp only
  rw [h2]
  exact wp_ite
abbrev ALPH : List Nat := [120, 121, 122, 61, 44, 58, 48, 49, 50, 51, 52, 53, 54, 55, 56, 57, 97, 98, 65, 90, 32, 95, 10, 46, 43, 45]
theorem alph_get : ∀ k, k < 26 → ∃ c, ALPH[k]? = some c ∧ c < 1000 := by decide
theorem cutS_from {l : List Nat} {k : Nat} (h : k ≤ l.length) : cutL l (some (k : Int)) none = l.drop k := cut_from h
theorem cutS_from1 {l : List Nat} {k : Nat} (h : k + 1 ≤ l.length) : cutL l (some ((k : Int) + 1)) none = l.drop (k + 1) := cut_from (k := k + 1) h
theorem g_bent_ok {r : Nat} {c : Int} {l : List Nat} (g : Gen r c st) (hc : c ≤ 10000000000) (h1 : 1 ≤ l.length) (h2 : l.length ≤ 230) (hok : okS l = true) : wpE (g__law_bent [.ref r, .str l] st) (fun v s => ∃ (p : Nat) (xs : List (List Nat)), v = .ref p ∧ st.n ≤ p ∧ s.get p = some (.lst (xs.map DV.str)) ∧ xs.length ≤ 8 ∧ (∀ x ∈ xs, okS x = true ∧ x.length ≤ 460) ∧ Gen r (c + 100) s ∧ Ext (at1 r) st s) noE := by
  unfold g__law_bent
  rw [wp_def]
  unfold d__law_bent
  simp only [startE, List.replicate]
  have hl : l.length ≤ 16777216 := by omega
  simp [hl, sizeLine_is]
  refine wpE_ok (g_random_ok g (by omega) (by omega) (by omega)) ?_
  rintro v s1 ⟨d, rfl, q1, q2, g1, x1⟩
  obtain ⟨k, rfl⟩ : ∃ k : Nat, d = k := ⟨d.toNat, by omega⟩
  refine wpE_ok (g_random_ok g1 (by omega) (by decide) (by decide)) ?_
  rintro v s2 ⟨d, rfl, q3, q4, g2, x2⟩
  obtain ⟨j, rfl⟩ : ∃ j : Nat, d = j := ⟨d.toNat, by omega⟩
  obtain ⟨ch, hch, hch2⟩ := alph_get j (by omega)
  have hk : k < l.length := by omega
  simp [hch, hl, sizeLine_is, cut_to, cutS_from (Nat.le_of_lt hk), cutS_from1 (Nat.succ_le_of_lt hk)]
  refine ⟨by omega, by omega, by omega, by omega, by omega, by omega, by omega, by omega, ?_⟩
  rw [wp_cat (Store.get_push_of _ get_new) get_new, if_pos (by rw [sizeLine_is]; simp)]
  have xx : Ext (at1 r) st s2 := x1.trans x2
  refine ⟨_, rfl, Nat.le_trans xx.le (by show s2.n ≤ s2.n + 1 + 1; omega), [List.take k l ++ ch :: List.drop (k + 1) l, List.take k l ++ List.drop (k + 1) l, List.take k l ++ ch :: List.drop k l, List.take k l, l ++ [ch], List.drop k l, List.take k l ++ l, l ++ l], get_new, by simp, ?_, ?_, ?_⟩
  · have hd : ∀ k, okS (l.drop k) = true := fun k => by
      unfold okS at hok ⊢
      rw [List.all_eq_true] at hok ⊢
      exact fun x hx => hok x (List.mem_of_mem_drop hx)
    have ht := okS_take (n := k) hok
    have hc : decide (ch < 1114112) = true := decide_eq_true (by omega)
    intro x hx
    simp only [List.mem_cons, List.not_mem_nil, or_false] at hx
    rcases hx with rfl | rfl | rfl | rfl | rfl | rfl | rfl | rfl <;> simp only [okS_app, okS_cons, okS_nil, hd, ht, hok, hc, List.length_append, List.length_cons, List.length_take, List.length_drop, List.length_nil, Bool.and_self, true_and] <;> omega
  · exact ((g2.ext Ext.push (k := no) rfl).ext Ext.push (k := no) rfl |>.ext Ext.push (k := no) rfl).mono (by omega)
  · exact xx.trans (Ext.push.trans (Ext.push.trans Ext.push))
/-! ### how long -/
theorem join_le {a : List Nat} : ∀ ys : List (List Nat), (joinS a ys).length ≤ lenSum ys + ys.length * a.length
  | [] => by simp [joinS]
  | [y] => by simp [joinS, lenSum]
  | y :: z :: ys => by
    have ih := join_le (a := a) (z :: ys)
    show (y ++ a ++ joinS a (z :: ys)).length ≤ y.length + lenSum (z :: ys) + (z :: ys).length.succ * a.length
    rw [List.length_append, List.length_append, Nat.succ_mul]
    omega
theorem lenSum_le {k : Nat} : ∀ {ys : List (List Nat)}, (∀ y ∈ ys, y.length ≤ k) → lenSum ys ≤ ys.length * k
  | [], _ => Nat.zero_le _
  | y :: ys, h => by
    have h1 := h y List.mem_cons_self
    have h2 := lenSum_le (ys := ys) fun z hz => h z (List.mem_cons_of_mem _ hz)
    show y.length + lenSum ys ≤ (ys.length + 1) * k
    rw [Nat.succ_mul]
    omega
theorem lenSum_mem : ∀ {ys : List (List Nat)} {y : List Nat}, y ∈ ys → y.length ≤ lenSum ys
  | z :: ys, y, h => by
    show y.length ≤ z.length + lenSum ys
    rcases List.mem_cons.mp h with rfl | h
    · omega
    · have := lenSum_mem h
      omega
theorem D_len : ∀ (k n : Nat), 1 ≤ k → n < 10 ^ k → (D n).length ≤ k
  | 0, n, h, _ => by omega
  | k + 1, n, _, h => by
    rw [D_eq]
    by_cases h1 : n < 10
    · rw [if_pos h1]; simp
    · rw [if_neg h1, List.length_append]
      cases k with
      | zero => simp at h; omega
      | succ k =>
        have := D_len (k + 1) (n / 10) (by omega) (by rw [Nat.pow_succ] at h; omega)
        simp
        omega
theorem p1900 : (10 : Nat) ^ 570 < 2 ^ 1900 := by decide +kernel
theorem fit_of {ps : List (Nat × Int)} {w : List Nat} (g : GoodP ps w) (h : (prLine ps w).length ≤ 570) : Fit ps w := by
  refine ⟨by omega, fun p hp => ?_⟩
  have hq := List.all_eq_true.mp g.ok p hp
  unfold priceOk at hq
  rw [Bool.and_eq_true, decide_eq_true_eq] at hq
  have h1 := lenSum_join (a := [44]) (ps.map partP)
  have h2 := lenSum_mem (List.mem_map_of_mem (f := partP) hp)
  rw [prLine_len] at h
  have h3 : (partP p).length = (figs p.2).length + 2 := by unfold partP; simp
  simp only [List.length_singleton] at h1
  have h4 : (figs p.2).length ≤ 570 := by
    rw [List.length_map] at h1
    have : 1 ≤ ps.length := by
      cases ps with
      | nil => cases hp
      | cons _ _ => simp
    omega
  refine ⟨?_, by omega⟩
  obtain ⟨f1, f2, f3, f4⟩ := figs_pos hq.2
  rw [isFig_eq] at f1
  have h5 := figVal_lt _ (figs p.2) rfl f1
  have h6 : p.2.natAbs < 2 ^ 1900 := by
    have : p.2.natAbs = figVal (figs p.2) := by omega
    rw [this]
    exact Nat.lt_trans (Nat.lt_of_lt_of_le h5 (Nat.pow_le_pow_right (by decide) h4)) p1900
  have := lg (by decide) h6
  omega
theorem due_non {l : List Nat} (h : l.length ≤ 570) : Due st l .non := fun hacc => by
  obtain ⟨ps, w, e, g⟩ := acc_good (acc_of (i := 0) (by rw [Nat.zero_add]; exact hacc))
  subst e
  exact ⟨ps, w, rfl, g, fit_of g h, .inl rfl⟩
theorem rise_pair {cs : List Nat} (h : cs.Pairwise (· < ·)) : riseP cs = true := rise_of fun i hi => by
  have := List.pairwise_iff_getElem.mp h i (i + 1) (by omega) hi (by omega)
  rw [List.getD_eq_getElem?_getD, List.getD_eq_getElem?_getD, List.getElem?_eq_getElem (by omega), List.getElem?_eq_getElem hi]
  exact this
end
end K91

namespace K91
open PySem PySem.Spec PyProof.Rows L2 SE
section
variable {Q : DV → Store → Prop} {E : Nat → DV → Store → Prop} {st s : Store}
theorem Gen.to {r : Nat} {c c' : Int} {k : Nat → Bool} (g : Gen r c st) (x : Ext k st s) (h : k r = false) (hc : c ≤ c') : Gen r c' s := (g.ext x h).mono hc
theorem wp_listL {a : Nat} {xs : List DV} (h : st.get a = some (.lst xs)) : wpE (fList [.ref a] st) Q E ↔ Q (.ref st.size) (st.push (.lst xs)) := by
  show wpE (match st.get a with
    | some (.lst xs) => newL xs st
    | _ => none) Q E ↔ _
  rw [h]
  exact Iff.rfl
theorem wp_eqL {neg : Bool} {a b : Nat} {ps : List (Nat × Int)} (h : st.get a = some (.lst (ps.map prD))) (h2 : st.get b = some (.lst (ps.map prD))) (hc : ∀ p ∈ ps, p.1 < 1114112) : wpE (fEq neg (.ref a) (.ref b) st) Q E ↔ Q (.bl (neg != true)) st := by
  have hr : ∀ {a : Nat}, st.get a = some (.lst (ps.map prD)) → rd 60 st (.ref a) = some (.lst ((ps.map prD).map tvD)) := fun h => rd_lst h fun x hx => by
    obtain ⟨q, _, rfl⟩ := List.mem_map.mp hx
    exact rd_pr
  have ho : okT 60 (.lst ((ps.map prD).map tvD)) = true := okTs_all fun t ht => by
    obtain ⟨x, hx, rfl⟩ := List.mem_map.mp ht
    obtain ⟨q, hq, rfl⟩ := List.mem_map.mp hx
    exact okT_pr (hc q hq)
  rw [wp_eqT (hr h) (hr h2) (by rw [ho]; rfl), eqT_refl]
/-- the prices drawn -/
def PrR (js : List Nat) (most : Int) (i : Nat) (acc : List DV) : Prop := ∃ ps : List (Nat × Int), acc = ps.map prD ∧ ps.map (·.1) = js.take i ∧ ∀ p ∈ ps, 1 ≤ p.2 ∧ p.2 ≤ most
def LoI (r : Nat) (c : Int) (st : Store) (mk : Option DV → Option DV → Option DV → Ev) (i : Nat) (env : Ev) (s : Store) : Prop := (∃ a b c', env = mk a b c') ∧ Gen r (c + 100 * (i : Nat)) s ∧ Ext (at1 r) st s
def InI (st : Store) (mk : Option DV → Ev) (i : Nat) (env : Ev) (s : Store) : Prop := (∃ b, env = mk b) ∧ Ext no st s
theorem g_right_ok {r : Nat} {c : Int} (g : Gen r c st) (hc : c ≤ 1000000000) : wpE (g__law_right [.ref r] st) (fun v s => v = .bl true ∧ Ext (at1 r) st s) noE := by
  unfold g__law_right
  rw [wp_def]
  unfold d__law_right
  simp only [startE, List.replicate]
  simp
  refine wpE_ok (g_letters_ok g (by omega)) ?_
  rintro v s1 ⟨fs, rfl, l1, l2, l3, l4, g1, x1⟩
  refine wpE_ok (g_joints_ok g1 (by omega) l2) ?_
  rintro v s2 ⟨js, rfl, j1, g2, x2⟩
  have jl := j1.length_le
  simp [sizeLine_is]
  have g3 : Gen r (c + 300) (s2.push (.lst [.int 20, .int 99999999999999999999999999999])) := g2.to Ext.push (k := no) rfl (by omega)
  have x3 : Ext (at1 r) st (s2.push (.lst [.int 20, .int 99999999999999999999999999999])) := x1.trans (x2.trans Ext.push)
  generalize hs3 : s2.push (.lst [.int 20, .int 99999999999999999999999999999]) = s3 at g3 x3
  have hg3 : s3.get s2.size = some (.lst [.int 20, .int 99999999999999999999999999999]) := by rw [← hs3]; exact get_new
  have hr := g.lt
  have hr2 : at1 r s2.size = false := by
    have := (x1.trans x2).le
    show (s2.n == r) = false
    rw [beq_eq_false_iff_ne]; omega
  refine ⟨by decide +kernel, ?_⟩
  refine wpE_ok (g_random_ok g3 (by omega) (by decide) (by decide)) ?_
  rintro v s4 ⟨d, rfl, d1, d2, g4, x4⟩
  obtain ⟨most, m1, m2, hix⟩ : ∃ most : Int, 1 ≤ most ∧ most ≤ 99999999999999999999999999999 ∧ L2.atI [DV.int 20, DV.int 99999999999999999999999999999] d = some (.int most) := by
    rcases (show d = 0 ∨ d = 1 by omega) with rfl | rfl
    · exact ⟨20, by decide, by decide, rfl⟩
    · exact ⟨_, by decide, Int.le_refl _, rfl⟩
  simp [wp_ixL (x4.get hg3 hr2), hix, bTup, bsCons, bsNil, bName, setsE, wipeE]
  have x34 : Ext (at1 r) st s4 := x3.trans x4
  refine wp_compG (c := c + 305) (K := 5) (r := r) (js.map fun c => .str [c]) (PrR js most) (g4.mono (by omega)) (by rw [List.length_map]; omega) ⟨[], rfl, rfl, fun p hp => by cases hp⟩ ?_ (fun _ _ _ _ => rfl) ?_ ?_
  · rintro i acc ⟨ps, rfl, h, _⟩
    have := congrArg List.length h
    rw [List.length_map, List.length_take] at this
    rw [List.length_map]
    omega
  · rintro i x acc s5 hx ⟨ps, rfl, h, hp⟩ g5 x5
    rw [List.getElem?_map] at hx
    cases hfi : js[i]? with
    | none => rw [hfi] at hx; cases hx
    | some a =>
      rw [hfi] at hx
      have hx : DV.str [a] = x := Option.some.inj hx
      subst hx
      have hi : i < js.length := (List.getElem?_eq_some_iff.mp hfi).1
      simp [bName, setsE]
      refine ⟨Ext.refl, ?_⟩
      refine wpE_ok (g_random_ok g5 (by omega) m1 (by omega)) ?_
      rintro v s6 ⟨d, rfl, q1, q2, g6, x6⟩
      simp [sizeLine_is]
      refine ⟨x6, g6.mono (by omega), ps ++ [(a, 1 + d)], by simp [prD], ?_, ?_⟩
      · rw [take_succ hfi, ← h]
        simp
      · intro p hpp
        rcases List.mem_append.mp hpp with hpp | hpp
        · exact hp p hpp
        · have : p = (a, 1 + d) := by simpa using hpp
          rw [this]
          exact ⟨by show 1 ≤ 1 + d; omega, by show 1 + d ≤ most; omega⟩
  rintro acc s5 ⟨ps, rfl, hps, hp⟩ hg5 g5 x5
  rw [List.length_map] at hps g5
  rw [List.take_length] at hps
  have hjl : js.length ≤ 6 := by omega
  have x45 : Ext (at1 r) st s5 := x34.trans x5
  refine wpE_ok (g_random_ok g5 (by omega) (by decide) (by decide)) ?_
  rintro v s6 ⟨d, rfl, d1, d2, g6, x6⟩
  have g6' : Gen r (c + 400) s6 := g6.mono (by omega)
  have hw := g_drawnword_ok g6' (by omega) l2 l1 l4 d1 (show d ≤ 30 by omega)
  refine wpE_ok hw ?_
  rintro v s7 ⟨w, rfl, hw1, hw2, g7, x7⟩
  have hr4 : at1 r s4.size = false := by
    have := x34.le
    show (s4.n == r) = false
    rw [beq_eq_false_iff_ne]; omega
  have hg7 := x7.get (x6.get hg5 hr4) hr4
  rw [wp_listL hg7]
  have x70 : Ext (at1 r) st s7 := x45.trans (x6.trans x7)
  -- what is printed
  have hpl : ps.length = js.length := by rw [← hps, List.length_map]
  have hlow : ∀ a ∈ js, low a = true := fun a ha => List.all_eq_true.mp l4 a (j1.subset ha)
  have hgood : GoodP ps w := by
    refine ⟨?_, ?_, hw2⟩
    · rw [List.all_eq_true]
      intro p hpp
      have h1 := hlow p.1 (by rw [← hps]; exact List.mem_map_of_mem hpp)
      have h2 := (hp p hpp).1
      show (low p.1 && decide (1 ≤ p.2)) = true
      rw [h1, decide_eq_true h2]
      rfl
    · rw [hps]
      exact rise_pair (l3.sublist j1)
  have hfig : ∀ p ∈ ps, (figs p.2).length ≤ 30 := fun p hpp => by
    obtain ⟨h1, h2⟩ := hp p hpp
    obtain ⟨n, hn⟩ : ∃ n : Nat, p.2 = n := ⟨p.2.toNat, by omega⟩
    rw [hn, figs_D]
    exact D_len 30 n (by decide) (by
      have : (10 : Nat) ^ 30 = 1000000000000000000000000000000 := by decide
      omega)
  have hlen : (prLine ps w).length ≤ 230 := by
    rw [prLine_len]
    have h1 := join_le (a := [44]) (ps.map partP)
    have h2 := lenSum_le (k := 32) (ys := ps.map partP) fun y hy => by
      obtain ⟨p, hpp, rfl⟩ := List.mem_map.mp hy
      have := hfig p hpp
      unfold partP
      simp
      omega
    rw [List.length_map] at h1 h2
    simp only [List.length_singleton] at h1
    omega
  have hfit : Fit ps w := fit_of hgood (by omega)
  have hokl := prLine_ok hgood
  have hpos : 1 ≤ (prLine ps w).length := by rw [prLine_len]; omega
  have hg8 := Store.get_push_of (.lst (ps.map prD)) hg7
  refine wpE_ok (g_law_line_ok hg8 hfit) ?_
  rintro v s9 ⟨rfl, x9⟩
  have hg9 := x9.get hg8 rfl
  refine wpE_ok (g_line_of_ok hg9 hgood hfit) ?_
  rintro v s10 ⟨rfl, x10⟩
  have hg10 := x10.get hg9 rfl
  simp [hokl, permL]
  refine wpE_ok (g_line_of_ok hg10 hgood hfit) ?_
  rintro v s11 ⟨rfl, x11⟩
  have hg11 := x11.get hg10 rfl
  have hk11 : s11.get s7.size = some (.lst (ps.map prD)) := x11.get (x10.get (x9.get get_new rfl) rfl) rfl
  simp [hokl, wp_eqL hg11 hk11 (low_chars hgood.ok)]
  have hx11 : Ext no s7 s11 := Ext.push.trans (x9.trans (x10.trans x11))
  refine wpE_ok (g_line_right hokl (by omega) fun _ => ⟨ps, w, rfl, hgood, hfit, .inr ⟨_, rfl, hg11⟩⟩) ?_
  rintro v s12 ⟨rfl, x12⟩
  have g12 : Gen r (c + 600) s12 := g7.to (hx11.trans x12) rfl (by omega)
  have xx : Ext (at1 r) st s12 := x70.trans (hx11.trans x12).any
  simp [wps_for, show rngOk 4 = true from rfl]
  refine wp_for (rngL 0 1 4) (LoI r (c + 600) st fun a b c' => [some (.ref r), some (.str fs), some (.str js), some (.int most), some (.ref s4.size), some (.str w), some (.ref s7.size), some (.str (prLine ps w)), a, b, c']) (by rw [rngL_length]; decide) ⟨⟨_, _, _, rfl⟩, g12.mono (by omega), xx⟩ (fun _ _ _ _ _ => nx_rng) ?_ ?_
  · rintro i x env s13 hx ⟨⟨a, b, c', rfl⟩, g13, x13⟩
    have hi : i < 4 := by
      have := (List.getElem?_eq_some_iff.mp hx).1
      rwa [rngL_length] at this
    simp [bName, setsE, wps_for]
    refine wpE_ok (g_bent_ok g13 (by omega) hpos hlen hokl) ?_
    rintro v s14 ⟨p, xs, rfl, hp, hgp, hxl, hxs, g14, x14⟩
    rw [wp_itvL hgp]
    refine wp_for (xs.map DV.str) (InI s14 fun b => [some (.ref r), some (.str fs), some (.str js), some (.int most), some (.ref s4.size), some (.str w), some (.ref s7.size), some (.str (prLine ps w)), some x, b, c']) (by rw [List.length_map]; omega) ⟨⟨_, rfl⟩, Ext.refl⟩ (fun i env s h _ => nx_lst (h.2.get hgp rfl)) ?_ ?_
    · rintro i2 y env s15 hy ⟨⟨b, rfl⟩, x15⟩
      rw [List.getElem?_map] at hy
      cases hyi : xs[i2]? with
      | none => rw [hyi] at hy; cases hy
      | some t =>
        rw [hyi] at hy
        have hy : DV.str t = y := Option.some.inj hy
        subst hy
        obtain ⟨t1, t2⟩ := hxs t (List.mem_of_getElem? hyi)
        simp [bName, setsE]
        refine wpE_ok (g_line_right t1 (by omega) (due_non (by omega))) ?_
        rintro v s16 ⟨rfl, x16⟩
        simp
        exact ⟨⟨_, rfl⟩, x15.trans x16⟩
    · rintro env s15 ⟨⟨b, rfl⟩, x15⟩
      simp
      exact ⟨⟨_, _, _, rfl⟩, g14.to x15 rfl (by omega), x13.trans (x14.trans x15.any)⟩
  · rintro env s13 ⟨⟨a, b, c', rfl⟩, g13, x13⟩
    simp
    exact x13
end
end K91

namespace K91
open PySem PySem.Spec PyProof.Rows L2 SE
section
variable {Q : DV → Store → Prop} {E : Nat → DV → Store → Prop} {st s : Store}
theorem wp_isxE {m : TyD → Option Bool} {n C : Nat} {v : DV} (h : st.get n = some (.exc C v)) : wpE (isx m (.ref n) st) Q E ↔ wpE (lift ((m (.c C)).map fun b => DV.bl b) st) Q E := by
  have h1 : tyN (.ref n) st = none := by
    show (match st.get n with | some (.lst _) => some "list" | some (.dct _) => some "dict" | _ => none) = none
    rw [h]
  have h2 : tyO (.ref n) st = some (.c C) := by
    unfold tyO
    rw [h1]
    show (match st.get n with
      | some (.exc C _) => some (TyD.c C)
      | _ => none) = _
    rw [h]
  unfold isx
  rw [h2]
@[simp↓] theorem wp_isxP {m : TyD → Option Bool} {C : Nat} {v : DV} : wpE (isx m (.ref s.size) (s.push (.exc C v))) Q E ↔ wpE (lift ((m (.c C)).map fun b => DV.bl b) (s.push (.exc C v))) Q E := wp_isxE get_new
/-- what is told of a refusal -/
def toldL (C : Nat) (v : DV) : List DV := [.bl (C == 2), .bl (C == 1), .bl (C == 3), v]
theorem g_told_er {door : Int} {a C : Nat} {xs : List DV} {d : DV} (hC : C = 1 ∨ C = 2 ∨ C = 3) (hd : door = 0 ∨ door = 1 ∨ door = 2) (hx : st.get a = some (.lst xs)) (hl : xs.length = 1 ∨ xs.length = 2) (h2 : door = 0 → ∃ x y, xs = [x, y] ∧ wpE (g_line_of [x, y] st) (fun _ _ => False) (fun C' v s => C' = C ∧ v = d ∧ Ext no st s))
    (h1 : door = 1 → ∃ x r, xs = x :: r ∧ wpE (g_of_line [x] st) (fun _ _ => False) (fun C' v s => C' = C ∧ v = d ∧ Ext no st s)) (h0 : door = 2 → ∃ x r, xs = x :: r ∧ wpE (g_right_part [x] st) (fun _ _ => False) (fun C' v s => C' = C ∧ v = d ∧ Ext no st s)) :
    wpE (g__law_told [.int door, .ref a] st) (fun v s => ∃ p, v = .ref p ∧ st.n ≤ p ∧ s.get p = some (.lst (toldL C d)) ∧ Ext no st s) noE := by
  unfold g__law_told
  rw [wp_def]
  unfold d__law_told
  simp only [startE, List.replicate]
  -- the suite
  have fin : ∀ (s1 : Store), Ext no st s1 → tryK 3 mEx_SwapError (sSeq (sSet 2 (dLst (aCons (dIsX mIs_InvalidPrices (dVar 3)) (aCons (dIsX mIs_InvalidWord (dVar 3)) (aCons (dIsX mIs_InvalidLine (dVar 3)) (aNil)))))) (sExpr (dMt "list" mAppend (dVar 2) (aCons (dXv (xCs) (dVar 3)) (aNil))))) (nxt (sRet (dVar 2)) (defK (fun v s => ∃ p, v = .ref p ∧ st.n ≤ p ∧ s.get p = some (.lst (toldL C d)) ∧ Ext no st s) noE)) (.er C d [some (.int door), some (.ref a), some .non, none]) s1 := by
    intro s1 x1
    have hg : ∀ o, ((s1.push (.exc C d)).push o).get s1.size = some (.exc C d) := fun o => Store.get_push_of _ get_new
    have hc : xCs C = true := by rcases hC with rfl | rfl | rfl <;> rfl
    have hl : ∀ xs : List DV, ((s1.push (.exc C d)).push (.lst xs)).get (s1.push (.exc C d)).size = some (.lst xs) := fun xs => get_new
    have key : mEx_SwapError C = some true ∧ mIs_InvalidPrices (.c C) = some (C == 2) ∧ mIs_InvalidWord (.c C) = some (C == 1) ∧ mIs_InvalidLine (.c C) = some (C == 3) := by
      rcases hC with rfl | rfl | rfl <;> exact ⟨rfl, rfl, rfl, rfl⟩
    obtain ⟨k1, k2, k3, k4⟩ := key
    simp only [tryK, k1]
    simp [k2, k3, k4, sizeLine_is, tyD_list (hl _), wp_exc (hg _) hc, wp_append (hl _)]
    refine ⟨Nat.le_trans x1.le (Nat.le_succ _), ?_, ?_⟩
    · rw [get_set (hl _)]
      rfl
    · exact (x1.trans (Ext.push.trans Ext.push)).setNew (Nat.le_trans x1.le (Nat.le_succ _)) (Nat.lt_succ_self _)
  rcases hd with rfl | rfl | rfl
  · obtain ⟨x, y, hxy, hh⟩ := h2 rfl
    subst hxy
    simp [wp_ixL hx]
    refine wpE_mono hh (fun _ _ z => False.elim z) ?_
    rintro C' v s1 ⟨rfl, rfl, x1⟩
    exact fin s1 x1
  · obtain ⟨x, r, hxy, hh⟩ := h1 rfl
    subst hxy
    simp [wp_ixL hx]
    refine wpE_mono hh (fun _ _ z => False.elim z) ?_
    rintro C' v s1 ⟨rfl, rfl, x1⟩
    exact fin s1 x1
  · obtain ⟨x, r, hxy, hh⟩ := h0 rfl
    subst hxy
    simp [wp_ixL hx]
    refine wpE_mono hh (fun _ _ z => False.elim z) ?_
    rintro C' v s1 ⟨rfl, rfl, x1⟩
    exact fin s1 x1
end
end K91

namespace K91
open PySem PySem.Spec PyProof.Rows L2 SE
section
variable {Q : DV → Store → Prop} {E : Nat → DV → Store → Prop} {st s : Store}
abbrev Refuse (st : Store) (C : Nat) (d : DV) : Nat → DV → Store → Prop := fun C' v s => C' = C ∧ v = d ∧ Ext no st s
theorem g_of_line_ns {d : DV} (h : isi "str" d st = some (.ok (.bl false), st)) : wpE (g_of_line [d] st) (fun _ _ => False) (Refuse st 3 d) := by
  unfold g_of_line
  rw [wp_def]
  unfold d_of_line
  simp only [startE, List.replicate]
  simp [h]
  exact ⟨rfl, rfl, Ext.refl⟩
theorem g_right_ns {d : DV} (h : isi "str" d st = some (.ok (.bl false), st)) : wpE (g_right_part [d] st) (fun _ _ => False) (Refuse st 3 d) := by
  unfold g_right_part
  rw [wp_def]
  unfold d_right_part
  simp only [startE, List.replicate]
  simp [h]
  exact ⟨rfl, rfl, Ext.refl⟩
theorem g_right_long {l : List Nat} (h : 2000 < l.length) (h2 : l.length ≤ 10000) : wpE (g_right_part [.str l] st) (fun _ _ => False) (Refuse st 3 (.str l)) := by
  unfold g_right_part
  rw [wp_def]
  unfold d_right_part
  simp only [startE, List.replicate]
  have h3 : l.length ≤ 16777216 := by omega
  have h4 : (2000 : Int) < (l.length : Int) := by omega
  simp [h3, h4, sizeLine_is]
  exact ⟨rfl, rfl, Ext.refl⟩
theorem e_list_ns {d : DV} (h : isi "list" d st = some (.ok (.bl false), st)) : g_is_price_list [d] st = some (.ok (.bl false), st) := run_of <| by
  unfold g_is_price_list
  rw [wp_def]
  unfold d_is_price_list
  simp only [startE, List.replicate]
  simp [h]
theorem e_letters_ns {d : DV} (h : isi "str" d st = some (.ok (.bl false), st)) : g_is_letters_alone [d] st = some (.ok (.bl false), st) := run_of <| by
  unfold g_is_letters_alone
  rw [wp_def]
  unfold d_is_letters_alone
  simp only [startE, List.replicate]
  simp [h]
theorem g_line_of_erP {d y : DV} (h : wpE (g_is_price_list [d] st) (fun v s => v = .bl false ∧ Ext no st s) noE) : wpE (g_line_of [d, y] st) (fun _ _ => False) (Refuse st 2 d) := by
  unfold g_line_of
  rw [wp_def]
  unfold d_line_of
  simp only [startE, List.replicate]
  simp
  refine wpE_mono (g_check_er h) (fun _ _ z => False.elim z) ?_
  rintro C v s ⟨rfl, rfl, x⟩
  exact ⟨rfl, rfl, x⟩
theorem g_line_of_erW {a : Nat} {ps : List (Nat × Int)} {y : DV} (h : st.get a = some (.lst (ps.map prD))) (hl : ps.length < 10000) (h1 : ps.all priceOk = true) (h2 : riseP (ps.map (·.1)) = true) (hw : ∀ s, Ext no st s → g_is_letters_alone [y] s = some (.ok (.bl false), s)) :
    wpE (g_line_of [.ref a, y] st) (fun _ _ => False) (Refuse st 1 y) := by
  unfold g_line_of
  rw [wp_def]
  unfold d_line_of
  simp only [startE, List.replicate]
  simp
  refine wpE_ok (g_check_ok h hl h1 h2) ?_
  rintro v s ⟨rfl, x⟩
  refine wpE_mono (g_word_er (hw s x)) (fun _ _ z => False.elim z) ?_
  rintro C v s ⟨rfl, rfl, rfl⟩
  exact ⟨rfl, rfl, x⟩
/-- equal to itself -/
def EqOk (st : Store) (d : DV) : Prop := (∃ t, rd 59 st d = some t ∧ okT 59 t = true) ∨ (rd 59 st d = none ∧ ∃ n, d = .ref n)
theorem e_eqSame {a b C : Nat} {d : DV} (ha : st.get a = some (.lst (toldL C d))) (hb : st.get b = some (.lst (toldL C d))) (h : EqOk st d) : fEq false (.ref a) (.ref b) st = some (.ok (.bl true), st) := by
  rcases h with ⟨t, h1, h2⟩ | ⟨h1, n, rfl⟩
  · have hr : ∀ {a : Nat}, st.get a = some (.lst (toldL C d)) → rd 60 st (.ref a) = some (.lst [.bl (C == 2), .bl (C == 1), .bl (C == 3), t]) := fun h => by
      show (match st.get _ with | some (.lst xs) => (rdL (rd 59 st) xs).map TV.lst | _ => none) = _
      rw [h]
      show (rdL (rd 59 st) [.bl (C == 2), .bl (C == 1), .bl (C == 3), d]).map TV.lst = _
      unfold rdL
      show (match rdL (rd 59 st) [.bl (C == 1), .bl (C == 3), d] with | none => none | some ts => some (TV.bl (C == 2) :: ts)).map TV.lst = _
      have e : rdL (rd 59 st) [.bl (C == 1), .bl (C == 3), d] = some [.bl (C == 1), .bl (C == 3), t] := by
        show (match rdL (rd 59 st) [.bl (C == 3), d] with | none => none | some ts => some (TV.bl (C == 1) :: ts)) = _
        have e : rdL (rd 59 st) [.bl (C == 3), d] = some [.bl (C == 3), t] := by
          show (match rdL (rd 59 st) [d] with | none => none | some ts => some (TV.bl (C == 3) :: ts)) = _
          have e : rdL (rd 59 st) [d] = some [t] := by
            unfold rdL
            rw [h1]
            rfl
          rw [e]
        rw [e]
      rw [e]
      rfl
    have ho : okT 60 (.lst [.bl (C == 2), .bl (C == 1), .bl (C == 3), t]) = true := by
      show (true && (true && (true && (okT 59 t && true)))) = true
      rw [h2]; rfl
    refine run_of ?_
    rw [wp_eqT (hr ha) (hr hb) (by rw [ho]; rfl), eqT_refl]
    exact ⟨rfl, rfl⟩
  · have hr : ∀ {a : Nat}, st.get a = some (.lst (toldL C (.ref n))) → rd 60 st (.ref a) = none := fun h => by
      show (match st.get _ with | some (.lst xs) => (rdL (rd 59 st) xs).map TV.lst | _ => none) = _
      rw [h]
      show (rdL (rd 59 st) [.bl (C == 2), .bl (C == 1), .bl (C == 3), .ref n]).map TV.lst = _
      have e : rdL (rd 59 st) [.bl (C == 2), .bl (C == 1), .bl (C == 3), .ref n] = none := by
        show (match rdL (rd 59 st) [.bl (C == 1), .bl (C == 3), .ref n] with | none => none | some ts => some (TV.bl (C == 2) :: ts)) = _
        have e : rdL (rd 59 st) [.bl (C == 1), .bl (C == 3), .ref n] = none := by
          show (match rdL (rd 59 st) [.bl (C == 3), .ref n] with | none => none | some ts => some (TV.bl (C == 1) :: ts)) = _
          have e : rdL (rd 59 st) [.bl (C == 3), .ref n] = none := by
            show (match rdL (rd 59 st) [.ref n] with | none => none | some ts => some (TV.bl (C == 3) :: ts)) = _
            have e : rdL (rd 59 st) [.ref n] = none := by
              unfold rdL
              rw [h1]
            rw [e]
          rw [e]
        rw [e]
      rw [e]
      rfl
    unfold fEq
    rw [hr ha]
    dsimp only
    have l1 : lstOf st (.ref a) = some (toldL C (.ref n)) := by
      show (match st.get a with | some (.lst xs) => some xs | _ => none) = _
      rw [ha]
    have l2 : lstOf st (.ref b) = some (toldL C (.ref n)) := by
      show (match st.get b with | some (.lst xs) => some xs | _ => none) = _
      rw [hb]
    rw [l1, l2]
    dsimp only
    have hall : all2 (eqI 40 st) (toldL C (.ref n)) (toldL C (.ref n)) = true := by
      have hb : ∀ k : Bool, eqI 40 st (.bl k) (.bl k) = true := fun k => by cases k <;> rfl
      have hn : eqI 40 st (.ref n) (.ref n) = true := by
        show (n == n || _) = true
        rw [beq_self_eq_true, Bool.true_or]
      show (eqI 40 st (.bl (C == 2)) (.bl (C == 2)) && (eqI 40 st (.bl (C == 1)) (.bl (C == 1)) && (eqI 40 st (.bl (C == 3)) (.bl (C == 3)) && (eqI 40 st (.ref n) (.ref n) && true)))) = true
      rw [hb, hb, hb, hn]
      rfl
    rw [if_neg Bool.false_ne_true, if_pos hall]
end
end K91

namespace K91
open PySem PySem.Spec PyProof.Rows L2 SE
section
variable {Q : DV → Store → Prop} {E : Nat → DV → Store → Prop} {st s : Store}
/-- the verdicts so far -/
def Tr (n : Nat) : List DV := List.replicate n (.bl true)
theorem Tr1 {n : Nat} : Tr n ++ [DV.bl true] = Tr (n + 1) := List.replicate_succ'.symm
theorem Tr2 {n : Nat} : Tr n ++ [DV.bl true, DV.bl true] = Tr (n + 2) := by
  rw [← Tr1 (n := n + 1), ← Tr1 (n := n), List.append_assoc]
  rfl
theorem isi_list {a : Nat} {xs : List DV} (h : st.get a = some (.lst xs)) : isi "str" (.ref a) st = some (.ok (.bl false), st) := by
  have ht : tyN (.ref a) st = some "list" := by
    show (match st.get a with | some (.lst _) => some "list" | some (.dct _) => some "dict" | _ => none) = some "list"
    rw [h]
  unfold isi
  rw [ht]
  rfl
theorem isi_dct {a : Nat} {kvs : List (Sum Int (List Nat) × DV)} (h : st.get a = some (.dct kvs)) : isi "str" (.ref a) st = some (.ok (.bl false), st) := by
  have ht : tyN (.ref a) st = some "dict" := by
    show (match st.get a with | some (.lst _) => some "list" | some (.dct _) => some "dict" | _ => none) = some "dict"
    rw [h]
  unfold isi
  rw [ht]
  rfl
theorem rd_dct {a : Nat} {kvs : List (Sum Int (List Nat) × DV)} (h : st.get a = some (.dct kvs)) : rd 59 st (.ref a) = none := by
  show (match st.get a with | some (.lst xs) => (rdL (rd 58 st) xs).map TV.lst | _ => none) = none
  rw [h]
/-- one verdict: what is told of a refusal is just that -/
theorem told_eq {p C : Nat} {d : DV} {s1 : Store} (h1 : s1.get p = some (.lst (toldL C d))) (he : EqOk (s1.push (.lst (toldL C d))) d) (hq : Q (.bl true) (s1.push (.lst (toldL C d)))) : wpE (fEq false (.ref p) (.ref s1.size) (s1.push (.lst (toldL C d)))) Q E := by
  rw [e_eqSame (Store.get_push_of _ h1) get_new he]
  exact hq
/-- no text, equal to itself, whatever stands beside -/
def Bad (r : Nat → Bool) (st : Store) (x : DV) : Prop := ∀ s, Ext r st s → isi "str" x s = some (.ok (.bl false), s) ∧ EqOk s x
theorem Bad.ext {r : Nat → Bool} {x : DV} (h : Bad r st x) (e : Ext r st s) : Bad r s x := fun s' e' => h s' (e.trans e')
theorem bad_non {r : Nat → Bool} : Bad r st .non := fun s _ => ⟨rfl, .inl ⟨.non, rfl, rfl⟩⟩
theorem bad_int {r : Nat → Bool} {i : Int} : Bad r st (.int i) := fun s _ => ⟨rfl, .inl ⟨.int i, rfl, rfl⟩⟩
theorem bad_bl {r : Nat → Bool} {i : Bool} : Bad r st (.bl i) := fun s _ => ⟨rfl, .inl ⟨.bl i, rfl, rfl⟩⟩
theorem bad_tup0 {r : Nat → Bool} : Bad r st (.tup []) := fun s _ => ⟨rfl, .inl ⟨.tup [], rfl, rfl⟩⟩
theorem bad_dct {r : Nat → Bool} {a : Nat} {kvs : List (Sum Int (List Nat) × DV)} (h : st.get a = some (.dct kvs)) (hr : r a = false) : Bad r st (.ref a) := fun s e => ⟨isi_dct (e.get h hr), .inr ⟨rd_dct (e.get h hr), a, rfl⟩⟩
theorem bad_lst {r : Nat → Bool} {a : Nat} {xs : List DV} {g : DV → TV} (h : st.get a = some (.lst xs)) (hr : r a = false) (h1 : ∀ s, ∀ x ∈ xs, rd 58 s x = some (g x)) (h2 : ∀ x ∈ xs, okT 58 (g x) = true) : Bad r st (.ref a) := fun s e =>
  ⟨isi_list (e.get h hr), .inl ⟨_, rd_lst (e.get h hr) (h1 s), okTs_all fun t ht => by
    obtain ⟨x, hx, rfl⟩ := List.mem_map.mp ht
    exact h2 x hx⟩⟩
/-- refused as prices, equal to itself -/
def BadP (r : Nat → Bool) (st : Store) (x : DV) : Prop := ∀ s, Ext r st s → wpE (g_is_price_list [x] s) (fun v s' => v = .bl false ∧ Ext no s s') noE ∧ EqOk s x
theorem BadP.ext {r : Nat → Bool} {x : DV} (h : BadP r st x) (e : Ext r st s) : BadP r s x := fun s' e' => h s' (e.trans e')
theorem badP_ns {r : Nat → Bool} {x : DV} (h1 : ∀ s, isi "list" x s = some (.ok (.bl false), s)) (h2 : ∀ s, EqOk s x) : BadP r st x := fun s _ => ⟨wpE_of (e_list_ns (h1 s)) ⟨rfl, Ext.refl⟩, h2 s⟩
theorem badP_ps {r : Nat → Bool} {a : Nat} {ps : List (Nat × Int)} (h : st.get a = some (.lst (ps.map prD))) (hr : r a = false) (hl : ps.length < 10000) (hc : ∀ p ∈ ps, p.1 < 1114112) (hf : (ps.all priceOk && riseP (ps.map (·.1))) = false) : BadP r st (.ref a) := fun s e => by
  refine ⟨wpE_ok (g_price_list_ok (e.get h hr) hl hc) ?_, .inl ⟨_, rd_lst (g := tvD) (e.get h hr) (fun x hx => ?_), okTs_all fun t ht => ?_⟩⟩
  · rintro v s' ⟨rfl, x⟩
    rw [hf]
    exact ⟨rfl, x⟩
  · obtain ⟨p, _, rfl⟩ := List.mem_map.mp hx
    exact rd_pr
  · obtain ⟨x, hx, rfl⟩ := List.mem_map.mp ht
    obtain ⟨p, hp, rfl⟩ := List.mem_map.mp hx
    exact okT_pr (hc p hp)
theorem e_priceB {c : Nat} {b : Bool} (hc : c < 1114112) : g_is_price [.tup [.str [c], .bl b]] st = some (.ok (.bl false), st) := run_of <| by
  unfold g_is_price
  rw [wp_def]
  unfold d_is_price
  simp [startE, List.replicate, sizeLine_is, hc, e_letters]
theorem badP_one {r : Nat → Bool} {a : Nat} {x : DV} {t : TV} (h : st.get a = some (.lst [x])) (hr : r a = false) (hx : ∀ s, g_is_price [x] s = some (.ok (.bl false), s)) (ht : ∀ f s, rd (f + 5) s x = some t) (ho : ∀ f, okT (f + 5) t = true) : BadP r st (.ref a) := fun s e => by
  have h' := e.get h hr
  refine ⟨?_, .inl ⟨_, rd_lst (g := fun _ => t) h' (fun y hy => ?_), okTs_all fun u hu => ?_⟩⟩
  · unfold g_is_price_list
    rw [wp_def]
    unfold d_is_price_list
    simp [startE, List.replicate, p_isiL h', wp_itvL h', wipeE]
    refine wp_compP [x] (fun _ => true) (fun x => x) (by simp) (fun i acc _ => nx_lst (Store.get_push_of _ h')) (fun y acc hy => ?_) ?_
    · have : y = x := by simpa using hy
      subst this
      simp [bName, setsE, hx]
    · have e2 : (([x].filter fun _ => true).map fun x => x) = [x] := rfl
      rw [e2]
      rw [e_eqNil (g := fun _ => t) (Store.get_push_of _ get_new) get_new (fun y hy => ?_) fun y hy => ?_]
      · simp
        exact Ext.push.trans Ext.push
      · have : y = x := by simpa using hy
        subst this
        exact ht 54 _
      · exact ho 54
  · have : y = x := by simpa using hy
    subst this
    exact ht 53 _
  · obtain ⟨y, _, rfl⟩ := List.mem_map.mp hu
    exact ho 53
theorem comp_lines {a : Nat} {ts : List (List Nat)} {e0 e1 e2 e3 e4 e5 e6 : Option DV} (h : st.get a = some (.lst (ts.map DV.str))) (hl : ts.length ≤ 1000) (ht : ∀ t ∈ ts, okS t = true ∧ t.length ≤ 500) (hq : ∀ s, Ext no st s → s.get st.size = some (.lst (Tr ts.length)) → Q (.ref st.size) s) :
    wpE (compI (.lst a) (bName 5) dYes (dCall g__law_line_right (aCons (dVar 5) (aCons (dC .non) aNil))) [e0, e1, e2, e3, e4, e5, e6] st.size fuel 0 (st.push (.lst []))) Q E := by
  refine wp_comp (ts.map DV.str) (fun i acc s => s.get st.size = some (.lst acc) ∧ acc = Tr i ∧ Ext no st s) (by rw [List.length_map]; omega) ⟨get_new, rfl, Ext.push⟩ ?_ ?_ ?_
  · rintro i acc s ⟨h1, h2, h3⟩ _
    exact nx_lst (h3.get h rfl)
  · rintro i x acc s hx ⟨h1, rfl, h3⟩
    rw [List.getElem?_map] at hx
    cases hti : ts[i]? with
    | none => rw [hti] at hx; cases hx
    | some t =>
      rw [hti] at hx
      have hx : DV.str t = x := Option.some.inj hx
      subst hx
      obtain ⟨t1, t2⟩ := ht t (List.mem_of_getElem? hti)
      have hi : i < ts.length := (List.getElem?_eq_some_iff.mp hti).1
      simp [bName, setsE]
      refine wpE_ok (g_line_right t1 (by omega) (due_non (by omega))) ?_
      rintro v s2 ⟨rfl, x2⟩
      have hg := x2.get h1 rfl
      refine ⟨hg, ?_, get_set hg, ?_, (h3.trans x2).setNew (Nat.le_refl _) (Store.get_lt hg)⟩
      · unfold Tr
        rw [List.length_replicate, sizeLine_is]
        omega
      · unfold Tr
        rw [List.replicate_succ']
  · rintro acc s ⟨h1, rfl, h3⟩
    rw [List.length_map] at h1
    exact hq s h3 h1
/-- a verdict told and appended -/
theorem told_app {q k C : Nat} {door : Int} {d : DV} {args : List DV} {R : Store → Prop} {E1 E2 E3 : Nat → DV → Store → Prop} (hq : s.get q = some (.lst (Tr k))) (hk : k < 1000)
    (hT : wpE (g__law_told [.int door, .ref s.size] (s.push (.lst args))) (fun v s2 => ∃ p, v = .ref p ∧ (s.push (.lst args)).n ≤ p ∧ s2.get p = some (.lst (toldL C d)) ∧ Ext no (s.push (.lst args)) s2) noE) (he : ∀ s', Ext no s s' → EqOk s' d)
    (hR : ∀ s', Ext (at1 q) s s' → s'.get q = some (.lst (Tr (k + 1))) → R s') :
    wpE (g__law_told [.int door, .ref s.size] (s.push (.lst args))) (fun x1 s1 => wpE (fEq false x1 (.ref s1.size) (s1.push (.lst (toldL C d)))) (fun x2 s2 => wpE (mAppend (.ref q) [x2] s2) (fun _ s3 => R s3) E1) E2) E3 := by
  refine wpE_ok hT ?_
  rintro v s2 ⟨p, rfl, hp, hg, x⟩
  have xx : Ext no s (s2.push (.lst (toldL C d))) := Ext.push.trans (x.trans Ext.push)
  refine told_eq hg (he _ xx) ?_
  have hq2 := xx.get hq rfl
  rw [wp_append hq2, if_pos (by unfold Tr; rw [List.length_replicate, sizeLine_is]; omega), Tr1]
  exact hR _ (xx.any.trans (Ext.set (by simp [at1]) (Store.get_lt hq2))) (get_set hq2)
/-- refused as a word, equal to itself -/
def BadW (r : Nat → Bool) (st : Store) (x : DV) : Prop := ∀ s, Ext r st s → g_is_letters_alone [x] s = some (.ok (.bl false), s) ∧ EqOk s x
theorem BadW.ext {r : Nat → Bool} {x : DV} (h : BadW r st x) (e : Ext r st s) : BadW r s x := fun s' e' => h s' (e.trans e')
theorem badW_ns {r : Nat → Bool} {x : DV} (h : Bad r st x) : BadW r st x := fun s e => ⟨e_letters_ns (h s e).1, (h s e).2⟩
theorem badW_str {r : Nat → Bool} {l : List Nat} (h1 : okS l = true) (h2 : l.length ≤ 1000) (h3 : l.all low = false) : BadW r st (.str l) := fun s e => ⟨by rw [e_letters h1 (by omega), h3], .inl ⟨.str l, rfl, h1⟩⟩
theorem rep_one {c : Nat} : ∀ k : Nat, repS k [c] = List.replicate k c
  | 0 => rfl
  | k + 1 => by
    show (List.replicate (k + 1) [c]).flatten = _
    rw [List.replicate_succ, List.flatten_cons, List.replicate_succ]
    have := rep_one (c := c) k
    show [c] ++ repS k [c] = _
    rw [this]
    rfl
theorem rep_all {c k : Nat} {p : Nat → Bool} (h : p c = true) : (List.replicate k c).all p = true := by
  rw [List.all_eq_true]
  intro x hx
  rw [(List.mem_replicate.mp hx).2]
  exact h
theorem go_word : ∀ (r last : List Nat) (i : Nat), r.all low = true → go 5 last i r = (i + r.length, 5)
  | [], _, _, _ => rfl
  | c :: r, last, i, h => by
    rw [List.all_cons, Bool.and_eq_true] at h
    have hn : nx 5 last c = some 5 := by simp [nx, h.1]
    rw [go_some hn, go_word r _ _ h.2, List.length_cons]
    congr 1
    omega
theorem go_colon {r : List Nat} (h : r.all low = true) : go 0 [] 0 (58 :: r) = ((58 :: r).length, 5) := by
  have hn : nx 0 [] 58 = some 5 := by decide
  rw [go_some hn, go_word r _ _ h, List.length_cons]
  congr 1
  omega
theorem go_nines : ∀ (k i : Nat) (last : List Nat), go 3 last i (List.replicate k 57 ++ [65]) = (i + k, 3)
  | 0, i, last => by
    have hn : nx 3 last 65 = none := by simp [nx, show fig 65 = false from rfl]
    show go 3 last i [65] = _
    rw [go_none hn]
    rfl
  | k + 1, i, last => by
    have hn : nx 3 last 57 = some 3 := by simp [nx, show fig 57 = true from rfl]
    rw [List.replicate_succ, List.cons_append, go_some hn]
    rw [go_nines k (i + 1)]
    congr 1
    omega
theorem go_x9 {k : Nat} : go 0 [] 0 (120 :: 61 :: (List.replicate (k + 1) 57 ++ [65])) = (k + 3, 3) := by
  have h1 : nx 0 [] 120 = some 1 := by decide
  have h2 : nx 1 [120] 61 = some 2 := by decide
  have h3 : nx 2 [120] 57 = some 3 := by decide
  rw [go_some h1, if_pos rfl, go_some h2, if_neg (by decide), List.replicate_succ, List.cons_append, go_some h3, if_neg (by decide), go_nines]
  congr 1
  omega
def LwI (st : Store) (sc : DV) (i : Nat) (env : Ev) (s : Store) : Prop := (∃ a, env = [some sc, a, none, none, none, none, none]) ∧ Ext no st s
/-- behind the drawn part: the verdicts at q -/
def MdI (st : Store) (c0 step : Nat) (mk : Nat → Option DV → Ev) (i : Nat) (env : Ev) (s : Store) : Prop := (∃ q b, env = mk q b ∧ s.get q = some (.lst (Tr (c0 + step * i)))) ∧ Ext no st s
def MeI (q : Nat) (st : Store) (c0 step : Nat) (mk : Option DV → Ev) (i : Nat) (env : Ev) (s : Store) : Prop := (∃ b, env = mk b) ∧ s.get q = some (.lst (Tr (c0 + step * i))) ∧ Ext (at1 q) st s
theorem law_run (ns : List Int) (h : ns.length ≤ 63) : wpE (g_law [.fl (ns.map .int)] ⟨0, []⟩) (fun v _ => v = .bl true) noE := by
  unfold g_law
  rw [wp_def]
  unfold d_law
  simp only [startE, List.replicate]
  simp [wps_for, show rngOk 3 = true from rfl]
  refine wp_for (rngL 0 1 3) (LwI ⟨0, []⟩ (.fl (ns.map .int))) (by rw [rngL_length]; decide) ⟨⟨_, rfl⟩, Ext.refl⟩ (fun _ _ _ _ _ => nx_rng) ?_ ?_
  · rintro i x env s hx ⟨⟨a, rfl⟩, x0⟩
    have hi : i < 3 := by
      have := (List.getElem?_eq_some_iff.mp hx).1
      rwa [rngL_length] at this
    have hxe : x = .int (i : Nat) := by
      unfold rngL at hx
      rw [List.getElem?_map, List.getElem?_range hi] at hx
      have := Option.some.inj hx
      rw [← this]
      show DV.int (0 + (i : Int) * 1) = DV.int (i : Int)
      rw [Int.mul_one, Int.zero_add]
    subst hxe
    simp [bName, setsE]
    refine wpE_ok (g_gen_ok (by omega)) ?_
    rintro v s1 ⟨p, rfl, hp, g, x1⟩
    refine wpE_ok (g_right_ok g (by decide)) ?_
    rintro v s2 ⟨rfl, x2⟩
    simp
    refine ⟨⟨_, rfl⟩, x0.trans ?_⟩
    exact ⟨Nat.le_trans x1.le x2.le, fun k hk _ => (x2.at_ k (Nat.lt_of_lt_of_le hk x1.le) (by show (k == p) = false; rw [beq_eq_false_iff_ne]; omega)).trans (x1.at_ k hk rfl)⟩
  · rintro env s ⟨⟨a, rfl⟩, x0⟩
    simp [sizeLine_is, wipeE]
    refine comp_lines (ts := [[], [58], [58, 58], [120, 61, 51], [120, 61, 48, 51, 58], [122, 61, 49, 44, 121, 61, 49, 58], [120, 61, 49, 44, 120, 61, 50, 58], [120, 61, 51, 44, 58], [44, 120, 61, 49, 58], [97, 58]]) get_new (by decide) (by decide) fun s1 x1 g1 => ?_
    simp [sizeLine_is, wps_for]
    -- the first row of bad values
    generalize hb : s1.push (.lst [.str [58]]) = sb
    generalize hc : sb.push (.dct []) = sc
    have hgb : sb.get s1.size = some (.lst [.str [58]]) := by rw [← hb]; exact get_new
    have hgc : sc.get sb.size = some (.dct []) := by rw [← hc]; exact get_new
    have xb : Ext no s1 sb := by rw [← hb]; exact Ext.push
    have xc : Ext no sb sc := by rw [← hc]; exact Ext.push
    generalize hxs : [DV.non, .int 7, .ref s1.size, .tup [], .ref sb.size, .bl true] = xs
    have hbad : ∀ x ∈ xs, Bad no (sc.push (.lst xs)) x := by
      intro x hx
      rw [← hxs] at hx
      simp only [List.mem_cons, List.not_mem_nil, or_false] at hx
      rcases hx with rfl | rfl | rfl | rfl | rfl | rfl
      · exact bad_non
      · exact bad_int
      · exact bad_lst (g := tvD) (Store.get_push_of _ (xc.get hgb rfl)) rfl (fun s x hx => by
          have : x = .str [58] := by simpa using hx
          subst this; rfl) (fun x hx => by
          have : x = .str [58] := by simpa using hx
          subst this; rfl)
      · exact bad_tup0
      · exact bad_dct (Store.get_push_of _ hgc) rfl
      · exact bad_bl
    have hxl : xs.length = 6 := by rw [← hxs]; rfl
    refine wp_for xs (MdI (sc.push (.lst xs)) 10 2 fun q b => [some (.fl (ns.map .int)), a, some (.ref s.size), some (.ref q), b, none, none]) (by omega) ⟨⟨_, none, rfl, ?_⟩, Ext.refl⟩ ?_ ?_ ?_
    · exact Store.get_push_of _ (xc.get (xb.get g1 rfl) rfl)
    · rintro i env s ⟨_, x2⟩ _
      exact nx_lst (x2.get get_new rfl)
    · rintro i x env s2 hx ⟨⟨q, b, rfl, hq⟩, x2⟩
      have hi : i < 6 := by have := (List.getElem?_eq_some_iff.mp hx).1; omega
      have hB := (hbad x (List.mem_of_getElem? hx)).ext x2
      simp [bName, setsE, sizeLine_is]
      have e1 : Ext no s2 (s2.push (.lst [x])) := Ext.push
      refine wpE_ok (g_told_er (C := 3) (d := x) (xs := [x]) (by decide) (.inr (.inl rfl)) get_new (.inl rfl) (fun z => by cases z) (fun _ => ⟨x, [], rfl, g_of_line_ns (hB _ e1).1⟩) (fun z => by cases z)) ?_
      rintro v s3 ⟨p, rfl, hp, hgp, x3⟩
      have e3 : Ext no s2 (s3.push (.lst (toldL 3 x))) := e1.trans (x3.trans Ext.push)
      refine told_eq hgp (hB _ e3).2 ?_
      have e4 : Ext no s2 ((s3.push (.lst (toldL 3 x))).push (.lst [x])) := e3.trans Ext.push
      refine wpE_ok (g_told_er (C := 3) (d := x) (xs := [x]) (by decide) (.inr (.inr rfl)) get_new (.inl rfl) (fun z => by cases z) (fun z => by cases z) (fun _ => ⟨x, [], rfl, g_right_ns (hB _ e4).1⟩)) ?_
      rintro v s5 ⟨p2, rfl, hp2, hgp2, x5⟩
      have e5 : Ext no s2 (s5.push (.lst (toldL 3 x))) := e4.trans (x5.trans Ext.push)
      refine told_eq hgp2 (hB _ e5).2 ?_
      have hq5 := e5.get hq rfl
      rw [wp_cat (Store.get_push_of _ hq5) get_new, if_pos (by rw [sizeLine_is]; unfold Tr; rw [List.length_replicate]; simp; omega)]
      refine ⟨⟨_, _, rfl, ?_⟩, x2.trans (e5.trans (Ext.push.trans Ext.push))⟩
      have e6 : 10 + 2 * (i + 1) = (10 + 2 * i) + 2 := by omega
      rw [get_new, Tr2, e6]
    · rintro env s2 ⟨⟨q, b, rfl, hq⟩, x2⟩
      rw [hxl] at hq
      simp [sizeLine_is, wps_for]
      generalize hd : s2.push (.lst [.tup [.str [120], .int 0]]) = sd
      generalize he : sd.push (.lst [.tup [.str [121], .int 1], .tup [.str [120], .int 1]]) = se
      generalize hf : se.push (.lst [.tup [.str [120], .bl true]]) = sf
      have hgd : sd.get s2.size = some (.lst ([((120 : Nat), (0 : Int))].map prD)) := by rw [← hd]; exact get_new
      have hge : se.get sd.size = some (.lst ([((121 : Nat), (1 : Int)), (120, 1)].map prD)) := by rw [← he]; exact get_new
      have hgf : sf.get se.size = some (.lst [.tup [.str [120], .bl true]]) := by rw [← hf]; exact get_new
      have xd : Ext no s2 sd := by rw [← hd]; exact Ext.push
      have xe : Ext no sd se := by rw [← he]; exact Ext.push
      have xf : Ext no se sf := by rw [← hf]; exact Ext.push
      have hqn := Store.get_lt hq
      have ne1 : at1 q s2.size = false := by show (s2.n == q) = false; rw [beq_eq_false_iff_ne]; have : q < s2.n := hqn; omega
      have ne2 : at1 q sd.size = false := by show (sd.n == q) = false; rw [beq_eq_false_iff_ne]; have : q < s2.n := hqn; have := xd.le; omega
      have ne3 : at1 q se.size = false := by show (se.n == q) = false; rw [beq_eq_false_iff_ne]; have : q < s2.n := hqn; have := xd.le; have := xe.le; omega
      generalize hys : [DV.non, .int 7, .str [], .ref s2.size, .ref sd.size, .tup [.tup [.str [120], .int 1]], .ref se.size] = ys
      have hbadP : ∀ x ∈ ys, BadP (at1 q) (sf.push (.lst ys)) x := by
        intro x hx
        rw [← hys] at hx
        simp only [List.mem_cons, List.not_mem_nil, or_false] at hx
        rcases hx with rfl | rfl | rfl | rfl | rfl | rfl | rfl
        · exact badP_ns (fun _ => rfl) fun _ => .inl ⟨.non, rfl, rfl⟩
        · exact badP_ns (fun _ => rfl) fun _ => .inl ⟨.int 7, rfl, rfl⟩
        · exact badP_ns (fun _ => rfl) fun _ => .inl ⟨.str [], rfl, rfl⟩
        · exact badP_ps (Store.get_push_of _ (xf.get (xe.get hgd rfl) rfl)) ne1 (by decide) (by decide) (by decide)
        · exact badP_ps (Store.get_push_of _ (xf.get hge rfl)) ne2 (by decide) (by decide) (by decide)
        · exact badP_ns (fun _ => rfl) fun _ => .inl ⟨.tup [.tup [.str [120], .int 1]], rfl, rfl⟩
        · exact badP_one (t := .tup [.str [120], .bl true]) (Store.get_push_of _ hgf) ne3 (fun _ => e_priceB (by decide)) (fun _ _ => rfl) (fun _ => rfl)
      have hyl : ys.length = 7 := by rw [← hys]; rfl
      have hq2 : (sf.push (.lst ys)).get q = some (.lst (Tr 22)) := Store.get_push_of _ (xf.get (xe.get (xd.get hq rfl) rfl) rfl)
      refine wp_for ys (MeI q (sf.push (.lst ys)) 22 2 fun b => [some (.fl (ns.map .int)), a, some (.ref s.size), some (.ref q), b, none, none]) (by omega) ⟨⟨_, rfl⟩, hq2, Ext.refl⟩ ?_ ?_ ?_
      · rintro i env s ⟨_, _, x3⟩ _
        refine nx_lst (x3.get get_new ?_)
        show (sf.n == q) = false
        rw [beq_eq_false_iff_ne]
        have : q < s2.n := hqn
        have := xd.le
        have := xe.le
        have := xf.le
        omega
      · rintro i x env s3 hx ⟨⟨b, rfl⟩, hq3, x3⟩
        have hi : i < 7 := by have := (List.getElem?_eq_some_iff.mp hx).1; omega
        have hB := (hbadP x (List.mem_of_getElem? hx)).ext x3
        simp [bName, setsE, sizeLine_is, tyD_list hq3]
        refine told_app (C := 2) hq3 (by omega) (g_told_er (C := 2) (d := x) (xs := [x, .non]) (by decide) (.inl rfl) get_new (.inr rfl) (fun _ => ⟨x, .non, rfl, g_line_of_erP (hB _ Ext.push).1⟩) (fun z => by cases z) (fun z => by cases z)) (fun s' e' => (hB _ e'.any).2) fun s4 x4 hq4 => ?_
        refine ⟨tyD_list hq4, ?_⟩
        have hB4 := hB.ext x4
        refine told_app (C := 2) hq4 (by omega) (g_told_er (C := 2) (d := x) (xs := [x, .str [120]]) (by decide) (.inl rfl) get_new (.inr rfl) (fun _ => ⟨x, .str [120], rfl, g_line_of_erP (hB4 _ Ext.push).1⟩) (fun z => by cases z) (fun z => by cases z)) (fun s' e' => (hB4 _ e'.any).2) fun s5 x5 hq5 => ?_
        exact ⟨⟨_, rfl⟩, hq5, x3.trans (x4.trans x5)⟩
      · rintro env s3 ⟨⟨b, rfl⟩, hq3, x3⟩
        rw [hyl] at hq3
        simp [sizeLine_is, wps_for]
        generalize hg : s3.push (.lst [.str [120]]) = sg
        have hgg : sg.get s3.size = some (.lst [.str [120]]) := by rw [← hg]; exact get_new
        have xg : Ext no s3 sg := by rw [← hg]; exact Ext.push
        have hqn3 := Store.get_lt hq3
        have ne4 : at1 q s3.size = false := by show (s3.n == q) = false; rw [beq_eq_false_iff_ne]; have : q < s3.n := hqn3; omega
        generalize hzs : [DV.non, .int 7, .str [65], .ref s3.size, .str [97, 32, 98]] = zs
        have hbadW : ∀ x ∈ zs, BadW (at1 q) (sg.push (.lst zs)) x := by
          intro x hx
          rw [← hzs] at hx
          simp only [List.mem_cons, List.not_mem_nil, or_false] at hx
          rcases hx with rfl | rfl | rfl | rfl | rfl
          · exact badW_ns bad_non
          · exact badW_ns bad_int
          · exact badW_str rfl (by decide) (by decide)
          · exact badW_ns (bad_lst (g := tvD) (Store.get_push_of _ hgg) ne4 (fun s x hx => by
              have : x = .str [120] := by simpa using hx
              subst this; rfl) (fun x hx => by
              have : x = .str [120] := by simpa using hx
              subst this; rfl))
          · exact badW_str rfl (by decide) (by decide)
        have hzl : zs.length = 5 := by rw [← hzs]; rfl
        have hq4 : (sg.push (.lst zs)).get q = some (.lst (Tr 36)) := Store.get_push_of _ (xg.get hq3 rfl)
        refine wp_for zs (MeI q (sg.push (.lst zs)) 36 1 fun b => [some (.fl (ns.map .int)), a, some (.ref s.size), some (.ref q), b, none, none]) (by omega) ⟨⟨_, rfl⟩, hq4, Ext.refl⟩ ?_ ?_ ?_
        · rintro i env s ⟨_, _, x3⟩ _
          refine nx_lst (x3.get get_new ?_)
          show (sg.n == q) = false
          rw [beq_eq_false_iff_ne]
          have : q < s3.n := hqn3
          have := xg.le
          omega
        · rintro i x env s4 hx ⟨⟨b, rfl⟩, hq4, x4⟩
          have hi : i < 5 := by have := (List.getElem?_eq_some_iff.mp hx).1; omega
          have hB := (hbadW x (List.mem_of_getElem? hx)).ext x4
          simp [bName, setsE, sizeLine_is, tyD_list hq4]
          have x5 : Ext (at1 q) s4 (s4.push (.lst [.tup [.str [120], .int 1]])) := Ext.push
          have hB5 := hB.ext x5
          refine told_app (C := 1) (Store.get_push_of _ hq4) (by omega) (g_told_er (C := 1) (d := x) (xs := [.ref s4.size, x]) (by decide) (.inl rfl) get_new (.inr rfl) (fun _ => ⟨_, _, rfl, g_line_of_erW (ps := [(120, 1)]) (Store.get_push_of _ get_new) (by decide) (by decide) (by decide) fun s' e' => (hB5 _ ((Ext.push (r := no)).trans e').any).1⟩) (fun z => by cases z) (fun z => by cases z)) (fun s' e' => (hB5 _ e'.any).2) fun s6 x6 hq6 => ?_
          exact ⟨⟨_, rfl⟩, by rw [hq6, Nat.one_mul, Nat.one_mul, Nat.add_assoc], x4.trans (x5.trans x6)⟩
        · rintro env s4 ⟨⟨b, rfl⟩, hq4, x4⟩
          rw [hzl] at hq4
          -- the last four
          have hrng : rngB 1999 = true := by decide
          have hrng2 : rngB 2001 = true := by decide
          have hrng4 : rngB 400 = true := by decide
          simp [sizeLine_is, tyD_list hq4, hrng, hrng2, hrng4]
          generalize hA : repS 1999 [97] = A
          generalize hB : repS 2001 [97] = B
          generalize hN : repS 400 [57] = N
          have hA1 : A.all low = true := by rw [← hA, rep_one]; exact rep_all rfl
          have hA2 : A.length = 1999 := by rw [← hA, rep_one, List.length_replicate]
          have hB2 : B.length = 2001 := by rw [← hB, rep_one, List.length_replicate]
          have hB1 : okS B = true := by rw [← hB, rep_one]; exact okS_low (rep_all rfl)
          have hN1 : N = List.replicate (399 + 1) 57 := by rw [← hN, rep_one]
          have hN2 : N.length = 400 := by rw [hN1, List.length_replicate]
          have hok : okS (58 :: A) = true := by rw [okS_cons, okS_low hA1]; rfl
          have hgo := go_colon hA1
          have eA : ∀ st, g_right_part [.str (58 :: A)] st = some (.ok (.str (58 :: A)), st) := fun st => by
            rw [e_right hok (by rw [List.length_cons]; omega), hgo, List.take_length]
          have hokN : okS N = true := by
            rw [hN1]
            unfold okS
            exact rep_all rfl
          have eN : ∀ st, g_right_part [.str (120 :: 61 :: (N ++ [65]))] st = some (.ok (.str (120 :: 61 :: N)), st) := fun st => by
            have hok2 : okS (120 :: 61 :: (N ++ [65])) = true := by
              rw [okS_cons, okS_cons, okS_app, hokN]; rfl
            rw [e_right hok2 (by simp; omega)]
            have := go_x9 (k := 399)
            rw [← hN1] at this
            rw [this]
            show some (Out.ok (DV.str (120 :: 61 :: (N ++ [65]).take 400)), st) = _
            rw [← hN2, List.take_left']
            rfl
          have hTr : ∀ n, n < 1000 → (Tr n).length < sizeLine := fun n hn => by
            unfold Tr; rw [List.length_replicate, sizeLine_is]; omega
          have hq4' : s4.get q = some (.lst (Tr 41)) := hq4
          refine ⟨by omega, wpE_of (eA _) ⟨by omega, ?_⟩⟩
          rw [wp_eqS, if_pos (by rw [hok]; rfl), beq_self_eq_true, show (false != true) = true from rfl, wp_append hq4', if_pos (hTr _ (by decide)), Tr1]
          have hq5 := get_set (o' := .lst (Tr 42)) hq4'
          generalize s4.set q (.lst (Tr 42)) = s5 at hq5
          refine ⟨tyD_list hq5, by omega, ?_⟩
          have hgood : GoodP [] A := ⟨rfl, rfl, hA1⟩
          have hprl : prLine [] A = 58 :: A := rfl
          refine wpE_ok (g_line_right hok (by rw [List.length_cons]; omega) fun _ => ⟨[], A, rfl, hgood, ⟨by rw [hprl, List.length_cons]; omega, fun p hp => by cases hp⟩, .inr ⟨_, rfl, get_new⟩⟩) ?_
          rintro v s6 ⟨rfl, x6⟩
          have hq6 := x6.get (Store.get_push_of (.lst []) hq5) rfl
          rw [wp_append hq6, if_pos (hTr _ (by decide)), Tr1]
          have hq7 := get_set (o' := .lst (Tr 43)) hq6
          generalize s6.set q (.lst (Tr 43)) = s7 at hq7
          refine ⟨tyD_list hq7, ?_⟩
          refine told_app (C := 3) hq7 (by decide) (g_told_er (C := 3) (d := .str B) (xs := [.str B]) (by decide) (.inr (.inr rfl)) get_new (.inl rfl) (fun z => by cases z) (fun z => by cases z) (fun _ => ⟨_, [], rfl, g_right_long (by omega) (by omega)⟩)) (fun s' e' => .inl ⟨.str B, rfl, hB1⟩) fun s8 x8 hq8 => ?_
          rw [wp_itvL hq8]
          simp only [wipeE]
          refine wp_compP (Tr 44) (fun _ => false) (fun x => x) (by decide) (fun i acc _ => nx_lst (Store.get_push_of _ hq8)) (fun x acc hx => ?_) ?_
          · have : x = .bl true := (List.mem_replicate.mp hx).2
            subst this
            simp [bName, setsE]
          · have e0 : ((Tr 44).filter fun _ => false).map (fun x => x) = [] := rfl
            rw [e0]
            rw [e_eqNil (g := tvD) (Store.get_push_of _ get_new) get_new (fun y hy => by cases hy) fun y hy => by cases hy]
            simp
            refine ⟨by omega, by omega, wpE_of (eN _) ⟨by omega, ?_⟩⟩
            rw [wp_eqS, if_pos (by rw [okS_cons, okS_cons, hokN]; rfl), beq_self_eq_true]
            rfl
end
theorem law_ok (ns : List Int) (h : ns.length ≤ 63) : ∃ st, g_law [.fl (ns.map .int)] ⟨0, []⟩ = some (.ok (.bl true), st) := by
  obtain ⟨v, st, e, rfl⟩ := wpE_elim (law_run ns h)
  exact ⟨st, e⟩
end K91


set_option maxHeartbeats 4000000
namespace K91
open PySem PySem.Spec PyProof.Rows L2 SE
theorem all_mk {P : Program} {w : World} {K : PySem.W.Frag} {h : Heap} {mg : Str → Option Value} {fa : Addr} (X : K.In h) (G : h.Ns mainGlobals mg) (hfa : mg "law" = some (.ref fa))
    {C0 : Addr}
    {C1 : Addr}
    {C2 : Addr}
    {C3 : Addr}
    {nm1 q1 : Str} {N1 : Addr} {bs1 bm1 : List Value} {sn1 : List Str} {sub1 : List Value} {ab1 : Bool} {col1 : Option Bool} {dd1 : Option Addr} {ka1 kb1 kc1 kd1 ke1 : Option Value}
    {fI1 cc1 cda1 dT1 : Addr} {ioc1 : Value} {iod1 : Option Addr} {ikV1 idoc1 ipm1 : Value} {ian1 : Option Addr} {ict1 : Value} {iosl1 : Array (Option Value)} {iccl1 : Value} {icdd1 : Option Addr} {ivs1 : Array Value} {iccs1 : Array (Option Value)} {ifile1 : Str} {itf1 : Tok} {icl1 : Value} {icld1 : Option Addr} {icsl1 : Array (Option Value)} {idc1 : Value} {iddd1 : Option Addr} {idn1 : Nat} {idsl1 : Array (Option Value)}
    {nm2 q2 : Str} {N2 : Addr} {bs2 bm2 : List Value} {sn2 : List Str} {sub2 : List Value} {ab2 : Bool} {col2 : Option Bool} {dd2 : Option Addr} {ka2 kb2 kc2 kd2 ke2 : Option Value}
    {fI2 cc2 cda2 dT2 : Addr} {ioc2 : Value} {iod2 : Option Addr} {ikV2 idoc2 ipm2 : Value} {ian2 : Option Addr} {ict2 : Value} {iosl2 : Array (Option Value)} {iccl2 : Value} {icdd2 : Option Addr} {ivs2 : Array Value} {iccs2 : Array (Option Value)} {ifile2 : Str} {itf2 : Tok} {icl2 : Value} {icld2 : Option Addr} {icsl2 : Array (Option Value)} {idc2 : Value} {iddd2 : Option Addr} {idn2 : Nat} {idsl2 : Array (Option Value)}
    {nm3 q3 : Str} {N3 : Addr} {bs3 bm3 : List Value} {sn3 : List Str} {sub3 : List Value} {ab3 : Bool} {col3 : Option Bool} {dd3 : Option Addr} {ka3 kb3 kc3 kd3 ke3 : Option Value}
    {fI3 cc3 cda3 dT3 : Addr} {ioc3 : Value} {iod3 : Option Addr} {ikV3 idoc3 ipm3 : Value} {ian3 : Option Addr} {ict3 : Value} {iosl3 : Array (Option Value)} {iccl3 : Value} {icdd3 : Option Addr} {ivs3 : Array Value} {iccs3 : Array (Option Value)} {ifile3 : Str} {itf3 : Tok} {icl3 : Value} {icld3 : Option Addr} {icsl3 : Array (Option Value)} {idc3 : Value} {iddd3 : Option Addr} {idn3 : Nat} {idsl3 : Array (Option Value)}
    {tk_COMMA : Tok}
    {tk_EQUAL : Tok}
    {tk_FIGURED : Tok}
    {tk_FIGURES : Tok}
    {tk_LETTER : Tok}
    {tk_LETTERS : Tok}
    {tk_MOST_SIGNS : Tok}
    {tk_START : Tok}
    {tk_WORD : Tok}
    {f__law_cell : Addr} {oc__law_cell : Value} {od__law_cell an__law_cell : Option Addr} {kV__law_cell dc__law_cell pm__law_cell cd__law_cell ct__law_cell : Value} {sl__law_cell : Array (Option Value)}
    {f__law_generator : Addr} {oc__law_generator : Value} {od__law_generator an__law_generator : Option Addr} {kV__law_generator dc__law_generator pm__law_generator cd__law_generator ct__law_generator : Value} {sl__law_generator : Array (Option Value)}
    {f__law_walk : Addr} {oc__law_walk : Value} {od__law_walk an__law_walk : Option Addr} {kV__law_walk dc__law_walk pm__law_walk cd__law_walk ct__law_walk : Value} {sl__law_walk : Array (Option Value)}
    {f_is_whole : Addr} {oc_is_whole : Value} {od_is_whole an_is_whole : Option Addr} {kV_is_whole dc_is_whole pm_is_whole cd_is_whole ct_is_whole : Value} {sl_is_whole : Array (Option Value)}
    {f_is_between : Addr} {oc_is_between : Value} {od_is_between an_is_between : Option Addr} {kV_is_between dc_is_between pm_is_between cd_is_between ct_is_between : Value} {sl_is_between : Array (Option Value)}
    {f_is_letters_alone : Addr} {oc_is_letters_alone : Value} {od_is_letters_alone an_is_letters_alone : Option Addr} {kV_is_letters_alone dc_is_letters_alone pm_is_letters_alone cd_is_letters_alone ct_is_letters_alone : Value} {sl_is_letters_alone : Array (Option Value)}
    {f_is_price : Addr} {oc_is_price : Value} {od_is_price an_is_price : Option Addr} {kV_is_price dc_is_price pm_is_price cd_is_price ct_is_price : Value} {sl_is_price : Array (Option Value)}
    {f_rises : Addr} {oc_rises : Value} {od_rises an_rises : Option Addr} {kV_rises dc_rises pm_rises cd_rises ct_rises : Value} {sl_rises : Array (Option Value)}
    {f_is_price_list : Addr} {oc_is_price_list : Value} {od_is_price_list an_is_price_list : Option Addr} {kV_is_price_list dc_is_price_list pm_is_price_list cd_is_price_list ct_is_price_list : Value} {sl_is_price_list : Array (Option Value)}
    {f_check_prices : Addr} {oc_check_prices : Value} {od_check_prices an_check_prices : Option Addr} {kV_check_prices dc_check_prices pm_check_prices cd_check_prices ct_check_prices : Value} {sl_check_prices : Array (Option Value)}
    {f_check_word : Addr} {oc_check_word : Value} {od_check_word an_check_word : Option Addr} {kV_check_word dc_check_word pm_check_word cd_check_word ct_check_word : Value} {sl_check_word : Array (Option Value)}
    {f_line_of : Addr} {oc_line_of : Value} {od_line_of an_line_of : Option Addr} {kV_line_of dc_line_of pm_line_of cd_line_of ct_line_of : Value} {sl_line_of : Array (Option Value)}
    {f_next_state : Addr} {oc_next_state : Value} {od_next_state an_next_state : Option Addr} {kV_next_state dc_next_state pm_next_state cd_next_state ct_next_state : Value} {sl_next_state : Array (Option Value)}
    {f_right_size : Addr} {oc_right_size : Value} {od_right_size an_right_size : Option Addr} {kV_right_size dc_right_size pm_right_size cd_right_size ct_right_size : Value} {sl_right_size : Array (Option Value)}
    {f_of_line : Addr} {oc_of_line : Value} {od_of_line an_of_line : Option Addr} {kV_of_line dc_of_line pm_of_line cd_of_line ct_of_line : Value} {sl_of_line : Array (Option Value)}
    {f_right_part : Addr} {oc_right_part : Value} {od_right_part an_right_part : Option Addr} {kV_right_part dc_right_part pm_right_part cd_right_part ct_right_part : Value} {sl_right_part : Array (Option Value)}
    {f__law_line_right : Addr} {oc__law_line_right : Value} {od__law_line_right an__law_line_right : Option Addr} {kV__law_line_right dc__law_line_right pm__law_line_right cd__law_line_right ct__law_line_right : Value} {sl__law_line_right : Array (Option Value)}
    {f__law_hash : Addr} {oc__law_hash : Value} {od__law_hash an__law_hash : Option Addr} {kV__law_hash dc__law_hash pm__law_hash cd__law_hash ct__law_hash : Value} {sl__law_hash : Array (Option Value)}
    {f__law_random : Addr} {oc__law_random : Value} {od__law_random an__law_random : Option Addr} {kV__law_random dc__law_random pm__law_random cd__law_random ct__law_random : Value} {sl__law_random : Array (Option Value)}
    {f__law_bent : Addr} {oc__law_bent : Value} {od__law_bent an__law_bent : Option Addr} {kV__law_bent dc__law_bent pm__law_bent cd__law_bent ct__law_bent : Value} {sl__law_bent : Array (Option Value)}
    {f__law_joints : Addr} {oc__law_joints : Value} {od__law_joints an__law_joints : Option Addr} {kV__law_joints dc__law_joints pm__law_joints cd__law_joints ct__law_joints : Value} {sl__law_joints : Array (Option Value)}
    {f__law_letters : Addr} {oc__law_letters : Value} {od__law_letters an__law_letters : Option Addr} {kV__law_letters dc__law_letters pm__law_letters cd__law_letters ct__law_letters : Value} {sl__law_letters : Array (Option Value)}
    {f__law_line : Addr} {oc__law_line : Value} {od__law_line an__law_line : Option Addr} {kV__law_line dc__law_line pm__law_line cd__law_line ct__law_line : Value} {sl__law_line : Array (Option Value)}
    {f__law_word : Addr} {oc__law_word : Value} {od__law_word an__law_word : Option Addr} {kV__law_word dc__law_word pm__law_word cd__law_word ct__law_word : Value} {sl__law_word : Array (Option Value)}
    {f__law_right : Addr} {oc__law_right : Value} {od__law_right an__law_right : Option Addr} {kV__law_right dc__law_right pm__law_right cd__law_right ct__law_right : Value} {sl__law_right : Array (Option Value)}
    {f__law_told : Addr} {oc__law_told : Value} {od__law_told an__law_told : Option Addr} {kV__law_told dc__law_told pm__law_told cd__law_told ct__law_told : Value} {sl__law_told : Array (Option Value)}
    {f_law : Addr} {oc_law : Value} {od_law an_law : Option Addr} {kV_law dc_law pm_law cd_law ct_law : Value} {sl_law : Array (Option Value)}
    (aC0 : PySem.W.nsIn K mainGlobals "SwapError" = some (some (.ref C0)))
    (aC1 : PySem.W.nsIn K mainGlobals "InvalidWord" = some (some (.ref C1)))
    (aC2 : PySem.W.nsIn K mainGlobals "InvalidPrices" = some (some (.ref C2)))
    (aC3 : PySem.W.nsIn K mainGlobals "InvalidLine" = some (some (.ref C3)))
    (hn : PySem.W.specialIn K (.builtin "object.__class__") "__get__" = some (some (.builtin "getset_descriptor.__get__")))
    (ht : PySem.W.takesIn K (.builtin "object.__class__") = some true)
    (opq : PySem.W.nsIn K cStatics "thirdparty.any" = some none)
    (nsup : PySem.W.nsIn K mainGlobals "super" = some none)
    (topq : (P.main.scope.names.lookup ("super" : Str)).isSome = false)
    (ex0 : PySem.W.subIn K (.ref C0) (.type "BaseException") = some true)
    (ty0 : PySem.W.typeIn K (.ref C0) = some (.type "type"))
    (hd0 : PySem.W.hasDictIn K C0 = true)
    (ss0 : PySem.W.subIn K (.ref C0) (.ref C0) = some true)
    (ex1 : PySem.W.subIn K (.ref C1) (.type "BaseException") = some true)
    (ty1 : PySem.W.typeIn K (.ref C1) = some (.type "type"))
    (hd1 : PySem.W.hasDictIn K C1 = true)
    (ss1 : PySem.W.subIn K (.ref C1) (.ref C1) = some true)
    (xL1 : K.lookup C1 = some (excClassObj nm1 q1 C1 N1 bs1 bm1 true sn1 sub1 ab1 col1 dd1 ka1 kb1 kc1 kd1 ke1 "ValueError.__new__"))
    (bm_1 : PySem.HandSPX.refsVE bm1 = true)
    (sa1 : PySem.W.findIn K (.ref C1) "__setattr__" = some (some (.builtin "object.__setattr__")))
    (ga1 : PySem.W.findIn K (.ref C1) "__getattribute__" = some (some (.builtin "BaseException.__getattribute__")))
    (gg1 : PySem.W.findIn K (.ref C1) "__getattr__" = some none)
    (no1 : PySem.W.findIn K (.ref C1) "value" = some none)
    (kC1 : PySem.W.keepIn K (.ref C1) = true)
    (ve1 : PySem.W.subIn K (.ref C1) (.type "ValueError") = some true)
    (su1 : PySem.W.ks_superIn K C1 C1 "__init__" = some (some (.builtin "ValueError.__init__")))
    (se1 : PySem.W.mroIn K C1 (.ref C1) = some true)
    (ic1 : PySem.W.findIn K (.ref C1) "__init__" = some (some (.ref fI1)))
    (ti1 : PySem.W.typeIn K (.ref fI1) = some (.type "function"))
    (li1 : K.lookup fI1 = some ⟨ioc1, iod1, .func (PySem.W.ksFn "__init__" "InvalidWord.__init__" (PySem.SX.iA ⟨⟨6, 17, 6, 21⟩, ⟨6, 23, 6, 28⟩, ⟨6, 29, 6, 33⟩, ⟨7, 8, 7, 13⟩, ⟨7, 8, 7, 15⟩, ⟨7, 8, 7, 24⟩, ⟨7, 25, 7, 30⟩, ⟨7, 8, 7, 31⟩, ⟨7, 8, 7, 31⟩, ⟨8, 8, 8, 12⟩, ⟨8, 8, 8, 18⟩, ⟨8, 21, 8, 26⟩, ⟨8, 8, 8, 26⟩⟩) (PySem.SX.iB ⟨⟨6, 17, 6, 21⟩, ⟨6, 23, 6, 28⟩, ⟨6, 29, 6, 33⟩, ⟨7, 8, 7, 13⟩, ⟨7, 8, 7, 15⟩, ⟨7, 8, 7, 24⟩, ⟨7, 25, 7, 30⟩, ⟨7, 8, 7, 31⟩, ⟨7, 8, 7, 31⟩, ⟨8, 8, 8, 12⟩, ⟨8, 8, 8, 18⟩, ⟨8, 21, 8, 26⟩, ⟨8, 8, 8, 26⟩⟩) PySem.SX.iS (.ref dT1) ikV1 idoc1 ipm1 ian1 (.ref cda1) ict1 cc1), iosl1⟩)
    (ld1 : K.lookup dT1 = some ⟨idc1, iddd1, .seq #[.none] idn1, idsl1⟩)
    (cd1 : PySem.W.codeIn K (.ref cda1) "InvalidWord.__init__" = true)
    (lc1 : K.lookup cda1 = some ⟨iccl1, icdd1, .fields ivs1, iccs1⟩)
    (vs1 : ivs1[2]? = some (.str ifile1 itf1))
    (hf1 : ((P.main.file : Str) == ifile1) = true)
    (ll1 : K.lookup cc1 = some ⟨icl1, icld1, .cell (some (.ref C1)), icsl1⟩)
    (ev1 : PySem.SX.IEv ⟨⟨6, 17, 6, 21⟩, ⟨6, 23, 6, 28⟩, ⟨6, 29, 6, 33⟩, ⟨7, 8, 7, 13⟩, ⟨7, 8, 7, 15⟩, ⟨7, 8, 7, 24⟩, ⟨7, 25, 7, 30⟩, ⟨7, 8, 7, 31⟩, ⟨7, 8, 7, 31⟩, ⟨8, 8, 8, 12⟩, ⟨8, 8, 8, 18⟩, ⟨8, 21, 8, 26⟩, ⟨8, 8, 8, 26⟩⟩)
    (ha1 : PySem.W.findIn K (.ref C1) "__class__" = some (some (.builtin "object.__class__")))
    (hm1 : PySem.W.mroIn K C1 (.type "object") = some true)
    (ex2 : PySem.W.subIn K (.ref C2) (.type "BaseException") = some true)
    (ty2 : PySem.W.typeIn K (.ref C2) = some (.type "type"))
    (hd2 : PySem.W.hasDictIn K C2 = true)
    (ss2 : PySem.W.subIn K (.ref C2) (.ref C2) = some true)
    (xL2 : K.lookup C2 = some (excClassObj nm2 q2 C2 N2 bs2 bm2 true sn2 sub2 ab2 col2 dd2 ka2 kb2 kc2 kd2 ke2 "ValueError.__new__"))
    (bm_2 : PySem.HandSPX.refsVE bm2 = true)
    (sa2 : PySem.W.findIn K (.ref C2) "__setattr__" = some (some (.builtin "object.__setattr__")))
    (ga2 : PySem.W.findIn K (.ref C2) "__getattribute__" = some (some (.builtin "BaseException.__getattribute__")))
    (gg2 : PySem.W.findIn K (.ref C2) "__getattr__" = some none)
    (no2 : PySem.W.findIn K (.ref C2) "value" = some none)
    (kC2 : PySem.W.keepIn K (.ref C2) = true)
    (ve2 : PySem.W.subIn K (.ref C2) (.type "ValueError") = some true)
    (su2 : PySem.W.ks_superIn K C2 C2 "__init__" = some (some (.builtin "ValueError.__init__")))
    (se2 : PySem.W.mroIn K C2 (.ref C2) = some true)
    (ic2 : PySem.W.findIn K (.ref C2) "__init__" = some (some (.ref fI2)))
    (ti2 : PySem.W.typeIn K (.ref fI2) = some (.type "function"))
    (li2 : K.lookup fI2 = some ⟨ioc2, iod2, .func (PySem.W.ksFn "__init__" "InvalidPrices.__init__" (PySem.SX.iA ⟨⟨11, 17, 11, 21⟩, ⟨11, 23, 11, 28⟩, ⟨11, 29, 11, 33⟩, ⟨12, 8, 12, 13⟩, ⟨12, 8, 12, 15⟩, ⟨12, 8, 12, 24⟩, ⟨12, 25, 12, 30⟩, ⟨12, 8, 12, 31⟩, ⟨12, 8, 12, 31⟩, ⟨13, 8, 13, 12⟩, ⟨13, 8, 13, 18⟩, ⟨13, 21, 13, 26⟩, ⟨13, 8, 13, 26⟩⟩) (PySem.SX.iB ⟨⟨11, 17, 11, 21⟩, ⟨11, 23, 11, 28⟩, ⟨11, 29, 11, 33⟩, ⟨12, 8, 12, 13⟩, ⟨12, 8, 12, 15⟩, ⟨12, 8, 12, 24⟩, ⟨12, 25, 12, 30⟩, ⟨12, 8, 12, 31⟩, ⟨12, 8, 12, 31⟩, ⟨13, 8, 13, 12⟩, ⟨13, 8, 13, 18⟩, ⟨13, 21, 13, 26⟩, ⟨13, 8, 13, 26⟩⟩) PySem.SX.iS (.ref dT2) ikV2 idoc2 ipm2 ian2 (.ref cda2) ict2 cc2), iosl2⟩)
    (ld2 : K.lookup dT2 = some ⟨idc2, iddd2, .seq #[.none] idn2, idsl2⟩)
    (cd2 : PySem.W.codeIn K (.ref cda2) "InvalidPrices.__init__" = true)
    (lc2 : K.lookup cda2 = some ⟨iccl2, icdd2, .fields ivs2, iccs2⟩)
    (vs2 : ivs2[2]? = some (.str ifile2 itf2))
    (hf2 : ((P.main.file : Str) == ifile2) = true)
    (ll2 : K.lookup cc2 = some ⟨icl2, icld2, .cell (some (.ref C2)), icsl2⟩)
    (ev2 : PySem.SX.IEv ⟨⟨11, 17, 11, 21⟩, ⟨11, 23, 11, 28⟩, ⟨11, 29, 11, 33⟩, ⟨12, 8, 12, 13⟩, ⟨12, 8, 12, 15⟩, ⟨12, 8, 12, 24⟩, ⟨12, 25, 12, 30⟩, ⟨12, 8, 12, 31⟩, ⟨12, 8, 12, 31⟩, ⟨13, 8, 13, 12⟩, ⟨13, 8, 13, 18⟩, ⟨13, 21, 13, 26⟩, ⟨13, 8, 13, 26⟩⟩)
    (ha2 : PySem.W.findIn K (.ref C2) "__class__" = some (some (.builtin "object.__class__")))
    (hm2 : PySem.W.mroIn K C2 (.type "object") = some true)
    (ex3 : PySem.W.subIn K (.ref C3) (.type "BaseException") = some true)
    (ty3 : PySem.W.typeIn K (.ref C3) = some (.type "type"))
    (hd3 : PySem.W.hasDictIn K C3 = true)
    (ss3 : PySem.W.subIn K (.ref C3) (.ref C3) = some true)
    (xL3 : K.lookup C3 = some (excClassObj nm3 q3 C3 N3 bs3 bm3 true sn3 sub3 ab3 col3 dd3 ka3 kb3 kc3 kd3 ke3 "ValueError.__new__"))
    (bm_3 : PySem.HandSPX.refsVE bm3 = true)
    (sa3 : PySem.W.findIn K (.ref C3) "__setattr__" = some (some (.builtin "object.__setattr__")))
    (ga3 : PySem.W.findIn K (.ref C3) "__getattribute__" = some (some (.builtin "BaseException.__getattribute__")))
    (gg3 : PySem.W.findIn K (.ref C3) "__getattr__" = some none)
    (no3 : PySem.W.findIn K (.ref C3) "value" = some none)
    (kC3 : PySem.W.keepIn K (.ref C3) = true)
    (ve3 : PySem.W.subIn K (.ref C3) (.type "ValueError") = some true)
    (su3 : PySem.W.ks_superIn K C3 C3 "__init__" = some (some (.builtin "ValueError.__init__")))
    (se3 : PySem.W.mroIn K C3 (.ref C3) = some true)
    (ic3 : PySem.W.findIn K (.ref C3) "__init__" = some (some (.ref fI3)))
    (ti3 : PySem.W.typeIn K (.ref fI3) = some (.type "function"))
    (li3 : K.lookup fI3 = some ⟨ioc3, iod3, .func (PySem.W.ksFn "__init__" "InvalidLine.__init__" (PySem.SX.iA ⟨⟨16, 17, 16, 21⟩, ⟨16, 23, 16, 28⟩, ⟨16, 29, 16, 33⟩, ⟨17, 8, 17, 13⟩, ⟨17, 8, 17, 15⟩, ⟨17, 8, 17, 24⟩, ⟨17, 25, 17, 30⟩, ⟨17, 8, 17, 31⟩, ⟨17, 8, 17, 31⟩, ⟨18, 8, 18, 12⟩, ⟨18, 8, 18, 18⟩, ⟨18, 21, 18, 26⟩, ⟨18, 8, 18, 26⟩⟩) (PySem.SX.iB ⟨⟨16, 17, 16, 21⟩, ⟨16, 23, 16, 28⟩, ⟨16, 29, 16, 33⟩, ⟨17, 8, 17, 13⟩, ⟨17, 8, 17, 15⟩, ⟨17, 8, 17, 24⟩, ⟨17, 25, 17, 30⟩, ⟨17, 8, 17, 31⟩, ⟨17, 8, 17, 31⟩, ⟨18, 8, 18, 12⟩, ⟨18, 8, 18, 18⟩, ⟨18, 21, 18, 26⟩, ⟨18, 8, 18, 26⟩⟩) PySem.SX.iS (.ref dT3) ikV3 idoc3 ipm3 ian3 (.ref cda3) ict3 cc3), iosl3⟩)
    (ld3 : K.lookup dT3 = some ⟨idc3, iddd3, .seq #[.none] idn3, idsl3⟩)
    (cd3 : PySem.W.codeIn K (.ref cda3) "InvalidLine.__init__" = true)
    (lc3 : K.lookup cda3 = some ⟨iccl3, icdd3, .fields ivs3, iccs3⟩)
    (vs3 : ivs3[2]? = some (.str ifile3 itf3))
    (hf3 : ((P.main.file : Str) == ifile3) = true)
    (ll3 : K.lookup cc3 = some ⟨icl3, icld3, .cell (some (.ref C3)), icsl3⟩)
    (ev3 : PySem.SX.IEv ⟨⟨16, 17, 16, 21⟩, ⟨16, 23, 16, 28⟩, ⟨16, 29, 16, 33⟩, ⟨17, 8, 17, 13⟩, ⟨17, 8, 17, 15⟩, ⟨17, 8, 17, 24⟩, ⟨17, 25, 17, 30⟩, ⟨17, 8, 17, 31⟩, ⟨17, 8, 17, 31⟩, ⟨18, 8, 18, 12⟩, ⟨18, 8, 18, 18⟩, ⟨18, 21, 18, 26⟩, ⟨18, 8, 18, 26⟩⟩)
    (ha3 : PySem.W.findIn K (.ref C3) "__class__" = some (some (.builtin "object.__class__")))
    (hm3 : PySem.W.mroIn K C3 (.type "object") = some true)
    (sb1_3 : PySem.W.subIn K (.ref C1) (.ref C3) = some false)
    (sb2_3 : PySem.W.subIn K (.ref C2) (.ref C3) = some false)
    (sn3 : PySem.W.subIn K (.type "NoneType") (.ref C3) = some false)
    (sb1_2 : PySem.W.subIn K (.ref C1) (.ref C2) = some false)
    (sb3_2 : PySem.W.subIn K (.ref C3) (.ref C2) = some false)
    (sn2 : PySem.W.subIn K (.type "NoneType") (.ref C2) = some false)
    (sb2_1 : PySem.W.subIn K (.ref C2) (.ref C1) = some false)
    (sb3_1 : PySem.W.subIn K (.ref C3) (.ref C1) = some false)
    (sn1 : PySem.W.subIn K (.type "NoneType") (.ref C1) = some false)
    (sb1_0 : PySem.W.subIn K (.ref C1) (.ref C0) = some true)
    (sb2_0 : PySem.W.subIn K (.ref C2) (.ref C0) = some true)
    (sb3_0 : PySem.W.subIn K (.ref C3) (.ref C0) = some true)
    (b_bool : PySem.W.nsIn K mainGlobals "bool" = some none)
    (b_enumerate : PySem.W.nsIn K mainGlobals "enumerate" = some none)
    (b_int : PySem.W.nsIn K mainGlobals "int" = some none)
    (b_isinstance : PySem.W.nsIn K mainGlobals "isinstance" = some none)
    (b_len : PySem.W.nsIn K mainGlobals "len" = some none)
    (b_list : PySem.W.nsIn K mainGlobals "list" = some none)
    (b_max : PySem.W.nsIn K mainGlobals "max" = some none)
    (b_range : PySem.W.nsIn K mainGlobals "range" = some none)
    (b_str : PySem.W.nsIn K mainGlobals "str" = some none)
    (b_sum : PySem.W.nsIn K mainGlobals "sum" = some none)
    (b_tuple : PySem.W.nsIn K mainGlobals "tuple" = some none)
    (c_COMMA : PySem.W.nsIn K mainGlobals "COMMA" = some (some (.int 4 tk_COMMA)))
    (c_EQUAL : PySem.W.nsIn K mainGlobals "EQUAL" = some (some (.int 2 tk_EQUAL)))
    (c_FIGURED : PySem.W.nsIn K mainGlobals "FIGURED" = some (some (.int 3 tk_FIGURED)))
    (c_FIGURES : PySem.W.nsIn K mainGlobals "FIGURES" = some (some (.str ⟨([48, 49, 50, 51, 52, 53, 54, 55, 56, 57] : List Nat).toArray⟩ tk_FIGURES)))
    (c_LETTER : PySem.W.nsIn K mainGlobals "LETTER" = some (some (.int 1 tk_LETTER)))
    (c_LETTERS : PySem.W.nsIn K mainGlobals "LETTERS" = some (some (.str ⟨([97, 98, 99, 100, 101, 102, 103, 104, 105, 106, 107, 108, 109, 110, 111, 112, 113, 114, 115, 116, 117, 118, 119, 120, 121, 122] : List Nat).toArray⟩ tk_LETTERS)))
    (c_MOST_SIGNS : PySem.W.nsIn K mainGlobals "MOST_SIGNS" = some (some (.int 2000 tk_MOST_SIGNS)))
    (c_START : PySem.W.nsIn K mainGlobals "START" = some (some (.int 0 tk_START)))
    (c_WORD : PySem.W.nsIn K mainGlobals "WORD" = some (some (.int 5 tk_WORD)))
    (a__law_cell : PySem.W.nsIn K mainGlobals "_law_cell" = some (some (.ref f__law_cell)))
    (l__law_cell : K.lookup f__law_cell = some ⟨oc__law_cell, od__law_cell, .func (PySem.W.fnOf "_law_cell" "_law_cell" (defArgs t__law_cell) (defBody t__law_cell) (defScope t__law_cell) .none kV__law_cell dc__law_cell pm__law_cell an__law_cell cd__law_cell ct__law_cell), sl__law_cell⟩)
    (q__law_cell : PySem.W.codeIn K cd__law_cell "_law_cell" = true)
    (k__law_cell : PySem.W.keepIn K (.ref f__law_cell) = true)
    (a__law_generator : PySem.W.nsIn K mainGlobals "_law_generator" = some (some (.ref f__law_generator)))
    (l__law_generator : K.lookup f__law_generator = some ⟨oc__law_generator, od__law_generator, .func (PySem.W.fnOf "_law_generator" "_law_generator" (defArgs t__law_generator) (defBody t__law_generator) (defScope t__law_generator) .none kV__law_generator dc__law_generator pm__law_generator an__law_generator cd__law_generator ct__law_generator), sl__law_generator⟩)
    (q__law_generator : PySem.W.codeIn K cd__law_generator "_law_generator" = true)
    (k__law_generator : PySem.W.keepIn K (.ref f__law_generator) = true)
    (a__law_walk : PySem.W.nsIn K mainGlobals "_law_walk" = some (some (.ref f__law_walk)))
    (l__law_walk : K.lookup f__law_walk = some ⟨oc__law_walk, od__law_walk, .func (PySem.W.fnOf "_law_walk" "_law_walk" (defArgs t__law_walk) (defBody t__law_walk) (defScope t__law_walk) .none kV__law_walk dc__law_walk pm__law_walk an__law_walk cd__law_walk ct__law_walk), sl__law_walk⟩)
    (q__law_walk : PySem.W.codeIn K cd__law_walk "_law_walk" = true)
    (k__law_walk : PySem.W.keepIn K (.ref f__law_walk) = true)
    (a_is_whole : PySem.W.nsIn K mainGlobals "is_whole" = some (some (.ref f_is_whole)))
    (l_is_whole : K.lookup f_is_whole = some ⟨oc_is_whole, od_is_whole, .func (PySem.W.fnOf "is_whole" "is_whole" (defArgs t_is_whole) (defBody t_is_whole) (defScope t_is_whole) .none kV_is_whole dc_is_whole pm_is_whole an_is_whole cd_is_whole ct_is_whole), sl_is_whole⟩)
    (q_is_whole : PySem.W.codeIn K cd_is_whole "is_whole" = true)
    (k_is_whole : PySem.W.keepIn K (.ref f_is_whole) = true)
    (a_is_between : PySem.W.nsIn K mainGlobals "is_between" = some (some (.ref f_is_between)))
    (l_is_between : K.lookup f_is_between = some ⟨oc_is_between, od_is_between, .func (PySem.W.fnOf "is_between" "is_between" (defArgs t_is_between) (defBody t_is_between) (defScope t_is_between) .none kV_is_between dc_is_between pm_is_between an_is_between cd_is_between ct_is_between), sl_is_between⟩)
    (q_is_between : PySem.W.codeIn K cd_is_between "is_between" = true)
    (k_is_between : PySem.W.keepIn K (.ref f_is_between) = true)
    (a_is_letters_alone : PySem.W.nsIn K mainGlobals "is_letters_alone" = some (some (.ref f_is_letters_alone)))
    (l_is_letters_alone : K.lookup f_is_letters_alone = some ⟨oc_is_letters_alone, od_is_letters_alone, .func (PySem.W.fnOf "is_letters_alone" "is_letters_alone" (defArgs t_is_letters_alone) (defBody t_is_letters_alone) (defScope t_is_letters_alone) .none kV_is_letters_alone dc_is_letters_alone pm_is_letters_alone an_is_letters_alone cd_is_letters_alone ct_is_letters_alone), sl_is_letters_alone⟩)
    (q_is_letters_alone : PySem.W.codeIn K cd_is_letters_alone "is_letters_alone" = true)
    (k_is_letters_alone : PySem.W.keepIn K (.ref f_is_letters_alone) = true)
    (a_is_price : PySem.W.nsIn K mainGlobals "is_price" = some (some (.ref f_is_price)))
    (l_is_price : K.lookup f_is_price = some ⟨oc_is_price, od_is_price, .func (PySem.W.fnOf "is_price" "is_price" (defArgs t_is_price) (defBody t_is_price) (defScope t_is_price) .none kV_is_price dc_is_price pm_is_price an_is_price cd_is_price ct_is_price), sl_is_price⟩)
    (q_is_price : PySem.W.codeIn K cd_is_price "is_price" = true)
    (k_is_price : PySem.W.keepIn K (.ref f_is_price) = true)
    (a_rises : PySem.W.nsIn K mainGlobals "rises" = some (some (.ref f_rises)))
    (l_rises : K.lookup f_rises = some ⟨oc_rises, od_rises, .func (PySem.W.fnOf "rises" "rises" (defArgs t_rises) (defBody t_rises) (defScope t_rises) .none kV_rises dc_rises pm_rises an_rises cd_rises ct_rises), sl_rises⟩)
    (q_rises : PySem.W.codeIn K cd_rises "rises" = true)
    (k_rises : PySem.W.keepIn K (.ref f_rises) = true)
    (a_is_price_list : PySem.W.nsIn K mainGlobals "is_price_list" = some (some (.ref f_is_price_list)))
    (l_is_price_list : K.lookup f_is_price_list = some ⟨oc_is_price_list, od_is_price_list, .func (PySem.W.fnOf "is_price_list" "is_price_list" (defArgs t_is_price_list) (defBody t_is_price_list) (defScope t_is_price_list) .none kV_is_price_list dc_is_price_list pm_is_price_list an_is_price_list cd_is_price_list ct_is_price_list), sl_is_price_list⟩)
    (q_is_price_list : PySem.W.codeIn K cd_is_price_list "is_price_list" = true)
    (k_is_price_list : PySem.W.keepIn K (.ref f_is_price_list) = true)
    (a_check_prices : PySem.W.nsIn K mainGlobals "check_prices" = some (some (.ref f_check_prices)))
    (l_check_prices : K.lookup f_check_prices = some ⟨oc_check_prices, od_check_prices, .func (PySem.W.fnOf "check_prices" "check_prices" (defArgs t_check_prices) (defBody t_check_prices) (defScope t_check_prices) .none kV_check_prices dc_check_prices pm_check_prices an_check_prices cd_check_prices ct_check_prices), sl_check_prices⟩)
    (q_check_prices : PySem.W.codeIn K cd_check_prices "check_prices" = true)
    (k_check_prices : PySem.W.keepIn K (.ref f_check_prices) = true)
    (a_check_word : PySem.W.nsIn K mainGlobals "check_word" = some (some (.ref f_check_word)))
    (l_check_word : K.lookup f_check_word = some ⟨oc_check_word, od_check_word, .func (PySem.W.fnOf "check_word" "check_word" (defArgs t_check_word) (defBody t_check_word) (defScope t_check_word) .none kV_check_word dc_check_word pm_check_word an_check_word cd_check_word ct_check_word), sl_check_word⟩)
    (q_check_word : PySem.W.codeIn K cd_check_word "check_word" = true)
    (k_check_word : PySem.W.keepIn K (.ref f_check_word) = true)
    (a_line_of : PySem.W.nsIn K mainGlobals "line_of" = some (some (.ref f_line_of)))
    (l_line_of : K.lookup f_line_of = some ⟨oc_line_of, od_line_of, .func (PySem.W.fnOf "line_of" "line_of" (defArgs t_line_of) (defBody t_line_of) (defScope t_line_of) .none kV_line_of dc_line_of pm_line_of an_line_of cd_line_of ct_line_of), sl_line_of⟩)
    (q_line_of : PySem.W.codeIn K cd_line_of "line_of" = true)
    (k_line_of : PySem.W.keepIn K (.ref f_line_of) = true)
    (a_next_state : PySem.W.nsIn K mainGlobals "next_state" = some (some (.ref f_next_state)))
    (l_next_state : K.lookup f_next_state = some ⟨oc_next_state, od_next_state, .func (PySem.W.fnOf "next_state" "next_state" (defArgs t_next_state) (defBody t_next_state) (defScope t_next_state) .none kV_next_state dc_next_state pm_next_state an_next_state cd_next_state ct_next_state), sl_next_state⟩)
    (q_next_state : PySem.W.codeIn K cd_next_state "next_state" = true)
    (k_next_state : PySem.W.keepIn K (.ref f_next_state) = true)
    (a_right_size : PySem.W.nsIn K mainGlobals "right_size" = some (some (.ref f_right_size)))
    (l_right_size : K.lookup f_right_size = some ⟨oc_right_size, od_right_size, .func (PySem.W.fnOf "right_size" "right_size" (defArgs t_right_size) (defBody t_right_size) (defScope t_right_size) .none kV_right_size dc_right_size pm_right_size an_right_size cd_right_size ct_right_size), sl_right_size⟩)
    (q_right_size : PySem.W.codeIn K cd_right_size "right_size" = true)
    (k_right_size : PySem.W.keepIn K (.ref f_right_size) = true)
    (a_of_line : PySem.W.nsIn K mainGlobals "of_line" = some (some (.ref f_of_line)))
    (l_of_line : K.lookup f_of_line = some ⟨oc_of_line, od_of_line, .func (PySem.W.fnOf "of_line" "of_line" (defArgs t_of_line) (defBody t_of_line) (defScope t_of_line) .none kV_of_line dc_of_line pm_of_line an_of_line cd_of_line ct_of_line), sl_of_line⟩)
    (q_of_line : PySem.W.codeIn K cd_of_line "of_line" = true)
    (k_of_line : PySem.W.keepIn K (.ref f_of_line) = true)
    (a_right_part : PySem.W.nsIn K mainGlobals "right_part" = some (some (.ref f_right_part)))
    (l_right_part : K.lookup f_right_part = some ⟨oc_right_part, od_right_part, .func (PySem.W.fnOf "right_part" "right_part" (defArgs t_right_part) (defBody t_right_part) (defScope t_right_part) .none kV_right_part dc_right_part pm_right_part an_right_part cd_right_part ct_right_part), sl_right_part⟩)
    (q_right_part : PySem.W.codeIn K cd_right_part "right_part" = true)
    (k_right_part : PySem.W.keepIn K (.ref f_right_part) = true)
    (a__law_line_right : PySem.W.nsIn K mainGlobals "_law_line_right" = some (some (.ref f__law_line_right)))
    (l__law_line_right : K.lookup f__law_line_right = some ⟨oc__law_line_right, od__law_line_right, .func (PySem.W.fnOf "_law_line_right" "_law_line_right" (defArgs t__law_line_right) (defBody t__law_line_right) (defScope t__law_line_right) .none kV__law_line_right dc__law_line_right pm__law_line_right an__law_line_right cd__law_line_right ct__law_line_right), sl__law_line_right⟩)
    (q__law_line_right : PySem.W.codeIn K cd__law_line_right "_law_line_right" = true)
    (k__law_line_right : PySem.W.keepIn K (.ref f__law_line_right) = true)
    (a__law_hash : PySem.W.nsIn K mainGlobals "_law_hash" = some (some (.ref f__law_hash)))
    (l__law_hash : K.lookup f__law_hash = some ⟨oc__law_hash, od__law_hash, .func (PySem.W.fnOf "_law_hash" "_law_hash" (defArgs t__law_hash) (defBody t__law_hash) (defScope t__law_hash) .none kV__law_hash dc__law_hash pm__law_hash an__law_hash cd__law_hash ct__law_hash), sl__law_hash⟩)
    (q__law_hash : PySem.W.codeIn K cd__law_hash "_law_hash" = true)
    (k__law_hash : PySem.W.keepIn K (.ref f__law_hash) = true)
    (a__law_random : PySem.W.nsIn K mainGlobals "_law_random" = some (some (.ref f__law_random)))
    (l__law_random : K.lookup f__law_random = some ⟨oc__law_random, od__law_random, .func (PySem.W.fnOf "_law_random" "_law_random" (defArgs t__law_random) (defBody t__law_random) (defScope t__law_random) .none kV__law_random dc__law_random pm__law_random an__law_random cd__law_random ct__law_random), sl__law_random⟩)
    (q__law_random : PySem.W.codeIn K cd__law_random "_law_random" = true)
    (k__law_random : PySem.W.keepIn K (.ref f__law_random) = true)
    (a__law_bent : PySem.W.nsIn K mainGlobals "_law_bent" = some (some (.ref f__law_bent)))
    (l__law_bent : K.lookup f__law_bent = some ⟨oc__law_bent, od__law_bent, .func (PySem.W.fnOf "_law_bent" "_law_bent" (defArgs t__law_bent) (defBody t__law_bent) (defScope t__law_bent) .none kV__law_bent dc__law_bent pm__law_bent an__law_bent cd__law_bent ct__law_bent), sl__law_bent⟩)
    (q__law_bent : PySem.W.codeIn K cd__law_bent "_law_bent" = true)
    (k__law_bent : PySem.W.keepIn K (.ref f__law_bent) = true)
    (a__law_joints : PySem.W.nsIn K mainGlobals "_law_joints" = some (some (.ref f__law_joints)))
    (l__law_joints : K.lookup f__law_joints = some ⟨oc__law_joints, od__law_joints, .func (PySem.W.fnOf "_law_joints" "_law_joints" (defArgs t__law_joints) (defBody t__law_joints) (defScope t__law_joints) .none kV__law_joints dc__law_joints pm__law_joints an__law_joints cd__law_joints ct__law_joints), sl__law_joints⟩)
    (q__law_joints : PySem.W.codeIn K cd__law_joints "_law_joints" = true)
    (k__law_joints : PySem.W.keepIn K (.ref f__law_joints) = true)
    (a__law_letters : PySem.W.nsIn K mainGlobals "_law_letters" = some (some (.ref f__law_letters)))
    (l__law_letters : K.lookup f__law_letters = some ⟨oc__law_letters, od__law_letters, .func (PySem.W.fnOf "_law_letters" "_law_letters" (defArgs t__law_letters) (defBody t__law_letters) (defScope t__law_letters) .none kV__law_letters dc__law_letters pm__law_letters an__law_letters cd__law_letters ct__law_letters), sl__law_letters⟩)
    (q__law_letters : PySem.W.codeIn K cd__law_letters "_law_letters" = true)
    (k__law_letters : PySem.W.keepIn K (.ref f__law_letters) = true)
    (a__law_line : PySem.W.nsIn K mainGlobals "_law_line" = some (some (.ref f__law_line)))
    (l__law_line : K.lookup f__law_line = some ⟨oc__law_line, od__law_line, .func (PySem.W.fnOf "_law_line" "_law_line" (defArgs t__law_line) (defBody t__law_line) (defScope t__law_line) .none kV__law_line dc__law_line pm__law_line an__law_line cd__law_line ct__law_line), sl__law_line⟩)
    (q__law_line : PySem.W.codeIn K cd__law_line "_law_line" = true)
    (k__law_line : PySem.W.keepIn K (.ref f__law_line) = true)
    (a__law_word : PySem.W.nsIn K mainGlobals "_law_word" = some (some (.ref f__law_word)))
    (l__law_word : K.lookup f__law_word = some ⟨oc__law_word, od__law_word, .func (PySem.W.fnOf "_law_word" "_law_word" (defArgs t__law_word) (defBody t__law_word) (defScope t__law_word) .none kV__law_word dc__law_word pm__law_word an__law_word cd__law_word ct__law_word), sl__law_word⟩)
    (q__law_word : PySem.W.codeIn K cd__law_word "_law_word" = true)
    (k__law_word : PySem.W.keepIn K (.ref f__law_word) = true)
    (a__law_right : PySem.W.nsIn K mainGlobals "_law_right" = some (some (.ref f__law_right)))
    (l__law_right : K.lookup f__law_right = some ⟨oc__law_right, od__law_right, .func (PySem.W.fnOf "_law_right" "_law_right" (defArgs t__law_right) (defBody t__law_right) (defScope t__law_right) .none kV__law_right dc__law_right pm__law_right an__law_right cd__law_right ct__law_right), sl__law_right⟩)
    (q__law_right : PySem.W.codeIn K cd__law_right "_law_right" = true)
    (k__law_right : PySem.W.keepIn K (.ref f__law_right) = true)
    (a__law_told : PySem.W.nsIn K mainGlobals "_law_told" = some (some (.ref f__law_told)))
    (l__law_told : K.lookup f__law_told = some ⟨oc__law_told, od__law_told, .func (PySem.W.fnOf "_law_told" "_law_told" (defArgs t__law_told) (defBody t__law_told) (defScope t__law_told) .none kV__law_told dc__law_told pm__law_told an__law_told cd__law_told ct__law_told), sl__law_told⟩)
    (q__law_told : PySem.W.codeIn K cd__law_told "_law_told" = true)
    (k__law_told : PySem.W.keepIn K (.ref f__law_told) = true)
    (a_law : PySem.W.nsIn K mainGlobals "law" = some (some (.ref f_law)))
    (l_law : K.lookup f_law = some ⟨oc_law, od_law, .func (PySem.W.fnOf "law" "law" (defArgs t_law) (defBody t_law) (defScope t_law) .none kV_law dc_law pm_law an_law cd_law ct_law), sl_law⟩)
    (q_law : PySem.W.codeIn K cd_law "law" = true)
    (k_law : PySem.W.keepIn K (.ref f_law) = true) :
    ∃ Z : Cz, Z.K = K ∧ ∃ fd : FuncData, (∀ (s : Shared) (u : Value), BindsTo s fd ⟨[u], []⟩ [("_law_script", u)]) ∧ ∀ base : Heap, K.In base → base.Ns mainGlobals mg → FnOk P w K mg base (L2.CX P w) 10 fa fd ["_law_script"] (spS Z g_law 1) := by
  have hcl : ∃ Z : Cz, Z = ⟨K, fun n => ([C0, C1, C2, C3] : List Addr).getD n 0⟩ := ⟨_, rfl⟩
  obtain ⟨Z, hZe⟩ := hcl
  have hZ : Z.K = K := by rw [hZe]
  have z0 : Z.cl 0 = C0 := by rw [hZe]; rfl
  have z1 : Z.cl 1 = C1 := by rw [hZe]; rfl
  have z2 : Z.cl 2 = C2 := by rw [hZe]; rfl
  have z3 : Z.cl 3 = C3 := by rw [hZe]; rfl
  have x1 : PySem.SX.ITxt P K C1 := { cls := ⟨_, _, _, _, _, _, _, _, _, _, _, _, _, _, _, xL1, bm_1⟩, sa := sa1, ga := ga1, gg := gg1, noN := no1, kC := kC1, exC := ex1, veC := ve1, tyC := ty1, hdC := hd1, sup := su1, self := se1, opq := opq, nsup := nsup, top := topq, fn := ⟨_, _, _, _, _, _, _, _, _, _, _, _, _, _, _, _, _, _, _, _, _, _, _, _, _, _, _, ic1, ti1, li1, ld1, cd1, lc1, vs1, hf1, ll1, ev1⟩ }
  have y1 : PySem.SX.IsC K C1 := ⟨ha1, hn, ht, hm1⟩
  have x2 : PySem.SX.ITxt P K C2 := { cls := ⟨_, _, _, _, _, _, _, _, _, _, _, _, _, _, _, xL2, bm_2⟩, sa := sa2, ga := ga2, gg := gg2, noN := no2, kC := kC2, exC := ex2, veC := ve2, tyC := ty2, hdC := hd2, sup := su2, self := se2, opq := opq, nsup := nsup, top := topq, fn := ⟨_, _, _, _, _, _, _, _, _, _, _, _, _, _, _, _, _, _, _, _, _, _, _, _, _, _, _, ic2, ti2, li2, ld2, cd2, lc2, vs2, hf2, ll2, ev2⟩ }
  have y2 : PySem.SX.IsC K C2 := ⟨ha2, hn, ht, hm2⟩
  have x3 : PySem.SX.ITxt P K C3 := { cls := ⟨_, _, _, _, _, _, _, _, _, _, _, _, _, _, _, xL3, bm_3⟩, sa := sa3, ga := ga3, gg := gg3, noN := no3, kC := kC3, exC := ex3, veC := ve3, tyC := ty3, hdC := hd3, sup := su3, self := se3, opq := opq, nsup := nsup, top := topq, fn := ⟨_, _, _, _, _, _, _, _, _, _, _, _, _, _, _, _, _, _, _, _, _, _, _, _, _, _, _, ic3, ti3, li3, ld3, cd3, lc3, vs3, hf3, ll3, ev3⟩ }
  have y3 : PySem.SX.IsC K C3 := ⟨ha3, hn, ht, hm3⟩
  have e_InvalidLine : ∀ C b, mEx_InvalidLine C = some b → PySem.W.exmOne K (.ref (Z.cl C)) (.ref (Z.cl 3)) = some b := fun C b h => match C, h with
    | 0, h => by cases h
    | 1, h => by cases h; rw [z1, z3]; exact PySem.W.exm_ref ex3 hd3 ty3 sb1_3
    | 2, h => by cases h; rw [z2, z3]; exact PySem.W.exm_ref ex3 hd3 ty3 sb2_3
    | 3, h => by cases h; rw [z3]; exact PySem.W.exm_ref ex3 hd3 ty3 ss3
    | _ + 4, h => by cases h
  have e_SwapError : ∀ C b, mEx_SwapError C = some b → PySem.W.exmOne K (.ref (Z.cl C)) (.ref (Z.cl 0)) = some b := fun C b h => match C, h with
    | 0, h => by cases h
    | 1, h => by cases h; rw [z1, z0]; exact PySem.W.exm_ref ex0 hd0 ty0 sb1_0
    | 2, h => by cases h; rw [z2, z0]; exact PySem.W.exm_ref ex0 hd0 ty0 sb2_0
    | 3, h => by cases h; rw [z3, z0]; exact PySem.W.exm_ref ex0 hd0 ty0 sb3_0
    | _ + 4, h => by cases h
  have is_InvalidLine : ∀ T b, mIs_InvalidLine T = some b → PySem.W.kitOne K (tyVal Z T) (.ref (Z.cl 3)) = some b := fun T b h => match T, h with
    | .b T, h => by
      have h' : (if T = "NoneType" then some false else none) = some b := h
      by_cases q : T = "NoneType"
      · rw [if_pos q] at h'; cases h'; subst q; rw [z3]; exact kit_own hd3 ty3 ss3 sn3
      · rw [if_neg q] at h'; cases h'
    | .c 0, h => by cases h
    | .c 1, h => by cases h; show PySem.W.kitOne K (.ref (Z.cl 1)) _ = _; rw [z1, z3]; exact kit_own hd3 ty3 ss3 sb1_3
    | .c 2, h => by cases h; show PySem.W.kitOne K (.ref (Z.cl 2)) _ = _; rw [z2, z3]; exact kit_own hd3 ty3 ss3 sb2_3
    | .c 3, h => by cases h; show PySem.W.kitOne K (.ref (Z.cl 3)) _ = _; rw [z3]; exact kit_own hd3 ty3 ss3 ss3
    | .c (_ + 4), h => by cases h
  have ist_InvalidLine : ∀ n, mIs_InvalidLine (.c n) ≠ none → PySem.SX.ITxt P K (Z.cl n) ∧ PySem.SX.IsC K (Z.cl n) := fun n h => match n, h with
    | 0, h => by exact absurd rfl h
    | 1, h => by rw [z1]; exact ⟨x1, y1⟩
    | 2, h => by rw [z2]; exact ⟨x2, y2⟩
    | 3, h => by rw [z3]; exact ⟨x3, y3⟩
    | _ + 4, h => by exact absurd rfl h
  have is_InvalidPrices : ∀ T b, mIs_InvalidPrices T = some b → PySem.W.kitOne K (tyVal Z T) (.ref (Z.cl 2)) = some b := fun T b h => match T, h with
    | .b T, h => by
      have h' : (if T = "NoneType" then some false else none) = some b := h
      by_cases q : T = "NoneType"
      · rw [if_pos q] at h'; cases h'; subst q; rw [z2]; exact kit_own hd2 ty2 ss2 sn2
      · rw [if_neg q] at h'; cases h'
    | .c 0, h => by cases h
    | .c 1, h => by cases h; show PySem.W.kitOne K (.ref (Z.cl 1)) _ = _; rw [z1, z2]; exact kit_own hd2 ty2 ss2 sb1_2
    | .c 2, h => by cases h; show PySem.W.kitOne K (.ref (Z.cl 2)) _ = _; rw [z2]; exact kit_own hd2 ty2 ss2 ss2
    | .c 3, h => by cases h; show PySem.W.kitOne K (.ref (Z.cl 3)) _ = _; rw [z3, z2]; exact kit_own hd2 ty2 ss2 sb3_2
    | .c (_ + 4), h => by cases h
  have ist_InvalidPrices : ∀ n, mIs_InvalidPrices (.c n) ≠ none → PySem.SX.ITxt P K (Z.cl n) ∧ PySem.SX.IsC K (Z.cl n) := fun n h => match n, h with
    | 0, h => by exact absurd rfl h
    | 1, h => by rw [z1]; exact ⟨x1, y1⟩
    | 2, h => by rw [z2]; exact ⟨x2, y2⟩
    | 3, h => by rw [z3]; exact ⟨x3, y3⟩
    | _ + 4, h => by exact absurd rfl h
  have is_InvalidWord : ∀ T b, mIs_InvalidWord T = some b → PySem.W.kitOne K (tyVal Z T) (.ref (Z.cl 1)) = some b := fun T b h => match T, h with
    | .b T, h => by
      have h' : (if T = "NoneType" then some false else none) = some b := h
      by_cases q : T = "NoneType"
      · rw [if_pos q] at h'; cases h'; subst q; rw [z1]; exact kit_own hd1 ty1 ss1 sn1
      · rw [if_neg q] at h'; cases h'
    | .c 0, h => by cases h
    | .c 1, h => by cases h; show PySem.W.kitOne K (.ref (Z.cl 1)) _ = _; rw [z1]; exact kit_own hd1 ty1 ss1 ss1
    | .c 2, h => by cases h; show PySem.W.kitOne K (.ref (Z.cl 2)) _ = _; rw [z2, z1]; exact kit_own hd1 ty1 ss1 sb2_1
    | .c 3, h => by cases h; show PySem.W.kitOne K (.ref (Z.cl 3)) _ = _; rw [z3, z1]; exact kit_own hd1 ty1 ss1 sb3_1
    | .c (_ + 4), h => by cases h
  have ist_InvalidWord : ∀ n, mIs_InvalidWord (.c n) ≠ none → PySem.SX.ITxt P K (Z.cl n) ∧ PySem.SX.IsC K (Z.cl n) := fun n h => match n, h with
    | 0, h => by exact absurd rfl h
    | 1, h => by rw [z1]; exact ⟨x1, y1⟩
    | 2, h => by rw [z2]; exact ⟨x2, y2⟩
    | 3, h => by rw [z3]; exact ⟨x3, y3⟩
    | _ + 4, h => by exact absurd rfl h
  have xcs : ∀ n, xCs n = true → PySem.SX.ITxt P K (Z.cl n) := fun n h => match n, h with
    | 0, h => by cases h
    | 1, h => by rw [z1]; exact x1
    | 2, h => by rw [z2]; exact x2
    | 3, h => by rw [z3]; exact x3
    | _ + 4, h => by cases h
  have T : Tx P K mg Z := {
    hZ := hZ,
    b_bool := PySem.W.mg_none_of X G b_bool,
    b_enumerate := PySem.W.mg_none_of X G b_enumerate,
    b_int := PySem.W.mg_none_of X G b_int,
    b_isinstance := PySem.W.mg_none_of X G b_isinstance,
    b_len := PySem.W.mg_none_of X G b_len,
    b_list := PySem.W.mg_none_of X G b_list,
    b_max := PySem.W.mg_none_of X G b_max,
    b_range := PySem.W.mg_none_of X G b_range,
    b_str := PySem.W.mg_none_of X G b_str,
    b_sum := PySem.W.mg_none_of X G b_sum,
    b_tuple := PySem.W.mg_none_of X G b_tuple,
    c_COMMA := ⟨_, PySem.W.mg_of X G c_COMMA⟩,
    c_EQUAL := ⟨_, PySem.W.mg_of X G c_EQUAL⟩,
    c_FIGURED := ⟨_, PySem.W.mg_of X G c_FIGURED⟩,
    c_FIGURES := ⟨_, PySem.W.mg_of X G c_FIGURES⟩,
    c_LETTER := ⟨_, PySem.W.mg_of X G c_LETTER⟩,
    c_LETTERS := ⟨_, PySem.W.mg_of X G c_LETTERS⟩,
    c_MOST_SIGNS := ⟨_, PySem.W.mg_of X G c_MOST_SIGNS⟩,
    c_START := ⟨_, PySem.W.mg_of X G c_START⟩,
    c_WORD := ⟨_, PySem.W.mg_of X G c_WORD⟩,
    k_SwapError := by rw [z0]; exact PySem.W.mg_of X G aC0,
    k_InvalidWord := by rw [z1]; exact PySem.W.mg_of X G aC1,
    x_InvalidWord := by rw [z1]; exact x1,
    k_InvalidPrices := by rw [z2]; exact PySem.W.mg_of X G aC2,
    x_InvalidPrices := by rw [z2]; exact x2,
    k_InvalidLine := by rw [z3]; exact PySem.W.mg_of X G aC3,
    x_InvalidLine := by rw [z3]; exact x3,
    e_InvalidLine := e_InvalidLine,
    e_SwapError := e_SwapError,
    is_InvalidLine := is_InvalidLine,
    ist_InvalidLine := ist_InvalidLine,
    is_InvalidPrices := is_InvalidPrices,
    ist_InvalidPrices := ist_InvalidPrices,
    is_InvalidWord := is_InvalidWord,
    ist_InvalidWord := ist_InvalidWord,
    xcs := xcs,
    d__law_cell := deft (PySem.W.mg_of X G a__law_cell) l__law_cell q__law_cell k__law_cell fun _ _ _ _ _ _ us hl => match us, hl with | [_, _], _ => rfl,
    d__law_generator := deft (PySem.W.mg_of X G a__law_generator) l__law_generator q__law_generator k__law_generator fun _ _ _ _ _ _ us hl => match us, hl with | [_, _], _ => rfl,
    d__law_walk := deft (PySem.W.mg_of X G a__law_walk) l__law_walk q__law_walk k__law_walk fun _ _ _ _ _ _ us hl => match us, hl with | [_], _ => rfl,
    d_is_whole := deft (PySem.W.mg_of X G a_is_whole) l_is_whole q_is_whole k_is_whole fun _ _ _ _ _ _ us hl => match us, hl with | [_], _ => rfl,
    d_is_between := deft (PySem.W.mg_of X G a_is_between) l_is_between q_is_between k_is_between fun _ _ _ _ _ _ us hl => match us, hl with | [_, _, _], _ => rfl,
    d_is_letters_alone := deft (PySem.W.mg_of X G a_is_letters_alone) l_is_letters_alone q_is_letters_alone k_is_letters_alone fun _ _ _ _ _ _ us hl => match us, hl with | [_], _ => rfl,
    d_is_price := deft (PySem.W.mg_of X G a_is_price) l_is_price q_is_price k_is_price fun _ _ _ _ _ _ us hl => match us, hl with | [_], _ => rfl,
    d_rises := deft (PySem.W.mg_of X G a_rises) l_rises q_rises k_rises fun _ _ _ _ _ _ us hl => match us, hl with | [_], _ => rfl,
    d_is_price_list := deft (PySem.W.mg_of X G a_is_price_list) l_is_price_list q_is_price_list k_is_price_list fun _ _ _ _ _ _ us hl => match us, hl with | [_], _ => rfl,
    d_check_prices := deft (PySem.W.mg_of X G a_check_prices) l_check_prices q_check_prices k_check_prices fun _ _ _ _ _ _ us hl => match us, hl with | [_], _ => rfl,
    d_check_word := deft (PySem.W.mg_of X G a_check_word) l_check_word q_check_word k_check_word fun _ _ _ _ _ _ us hl => match us, hl with | [_], _ => rfl,
    d_line_of := deft (PySem.W.mg_of X G a_line_of) l_line_of q_line_of k_line_of fun _ _ _ _ _ _ us hl => match us, hl with | [_, _], _ => rfl,
    d_next_state := deft (PySem.W.mg_of X G a_next_state) l_next_state q_next_state k_next_state fun _ _ _ _ _ _ us hl => match us, hl with | [_, _, _], _ => rfl,
    d_right_size := deft (PySem.W.mg_of X G a_right_size) l_right_size q_right_size k_right_size fun _ _ _ _ _ _ us hl => match us, hl with | [_], _ => rfl,
    d_of_line := deft (PySem.W.mg_of X G a_of_line) l_of_line q_of_line k_of_line fun _ _ _ _ _ _ us hl => match us, hl with | [_], _ => rfl,
    d_right_part := deft (PySem.W.mg_of X G a_right_part) l_right_part q_right_part k_right_part fun _ _ _ _ _ _ us hl => match us, hl with | [_], _ => rfl,
    d__law_line_right := deft (PySem.W.mg_of X G a__law_line_right) l__law_line_right q__law_line_right k__law_line_right fun _ _ _ _ _ _ us hl => match us, hl with | [_, _], _ => rfl,
    d__law_hash := deft (PySem.W.mg_of X G a__law_hash) l__law_hash q__law_hash k__law_hash fun _ _ _ _ _ _ us hl => match us, hl with | [_, _], _ => rfl,
    d__law_random := deft (PySem.W.mg_of X G a__law_random) l__law_random q__law_random k__law_random fun _ _ _ _ _ _ us hl => match us, hl with | [_, _], _ => rfl,
    d__law_bent := deft (PySem.W.mg_of X G a__law_bent) l__law_bent q__law_bent k__law_bent fun _ _ _ _ _ _ us hl => match us, hl with | [_, _], _ => rfl,
    d__law_joints := deft (PySem.W.mg_of X G a__law_joints) l__law_joints q__law_joints k__law_joints fun _ _ _ _ _ _ us hl => match us, hl with | [_, _], _ => rfl,
    d__law_letters := deft (PySem.W.mg_of X G a__law_letters) l__law_letters q__law_letters k__law_letters fun _ _ _ _ _ _ us hl => match us, hl with | [_, _, _], _ => rfl,
    d__law_line := deft (PySem.W.mg_of X G a__law_line) l__law_line q__law_line k__law_line fun _ _ _ _ _ _ us hl => match us, hl with | [_, _], _ => rfl,
    d__law_word := deft (PySem.W.mg_of X G a__law_word) l__law_word q__law_word k__law_word fun _ _ _ _ _ _ us hl => match us, hl with | [_, _, _], _ => rfl,
    d__law_right := deft (PySem.W.mg_of X G a__law_right) l__law_right q__law_right k__law_right fun _ _ _ _ _ _ us hl => match us, hl with | [_], _ => rfl,
    d__law_told := deft (PySem.W.mg_of X G a__law_told) l__law_told q__law_told k__law_told fun _ _ _ _ _ _ us hl => match us, hl with | [_, _], _ => rfl,
    d_law := deft (PySem.W.mg_of X G a_law) l_law q_law k_law fun _ _ _ _ _ _ us hl => match us, hl with | [_], _ => rfl }
  exact ⟨Z, hZ, law_fd hfa (PySem.W.mg_of X G a_law) (fun_mk l_law q_law k_law) (fun _ _ _ _ _ _ _ => rfl) fun base _ _ => ok_all T⟩
end K91
open PySem PySem.W PyProof.Rows in
set_option maxRecDepth 100000 in
set_option maxHeartbeats 0 in
theorem PySem.Challenge.cw_sideswaps_k91_whole_lines_holds : PySem.Challenge.rw_sideswaps_k91_whole_lines.Holds := by
  w_on; o_law; k_head; (case hw => w_witness2)
  k_fill
  refine SE.walk_law (l := PySem.Challenge.rw_sideswaps_k91_whole_lines) (k := 10) (g := K91.g_law) (x := "_law_script") rfl rfl ⟨rfl, by decide, by decide⟩ (fun w h Y => PySem.W.kIn_of Y) ?F K91.law_ok
  case F =>
    intro w mg fa h KX G hmg
    refine' K91.all_mk KX G hmg ?aC0 ?aC1 ?aC2 ?aC3 ?hn ?ht ?opq ?nsup ?topq ?ex0 ?ty0 ?hd0 ?ss0 ?ex1 ?ty1 ?hd1 ?ss1 ?xL1 ?bm_1 ?sa1 ?ga1 ?gg1 ?no1 ?kC1 ?ve1 ?su1 ?se1 ?ic1 ?ti1 ?li1 ?ld1 ?cd1 ?lc1 ?vs1 ?hf1 ?ll1 ?ev1 ?ha1 ?hm1 ?ex2 ?ty2 ?hd2 ?ss2 ?xL2 ?bm_2 ?sa2 ?ga2 ?gg2 ?no2 ?kC2 ?ve2 ?su2 ?se2 ?ic2 ?ti2 ?li2 ?ld2 ?cd2 ?lc2 ?vs2 ?hf2 ?ll2 ?ev2 ?ha2 ?hm2 ?ex3 ?ty3 ?hd3 ?ss3 ?xL3 ?bm_3 ?sa3 ?ga3 ?gg3 ?no3 ?kC3 ?ve3 ?su3 ?se3 ?ic3 ?ti3 ?li3 ?ld3 ?cd3 ?lc3 ?vs3 ?hf3 ?ll3 ?ev3 ?ha3 ?hm3 ?sb1_3 ?sb2_3 ?sn3 ?sb1_2 ?sb3_2 ?sn2 ?sb2_1 ?sb3_1 ?sn1 ?sb1_0 ?sb2_0 ?sb3_0 ?b_bool ?b_enumerate ?b_int ?b_isinstance ?b_len ?b_list ?b_max ?b_range ?b_str ?b_sum ?b_tuple ?c_COMMA ?c_EQUAL ?c_FIGURED ?c_FIGURES ?c_LETTER ?c_LETTERS ?c_MOST_SIGNS ?c_START ?c_WORD ?a__law_cell ?l__law_cell ?q__law_cell ?k__law_cell ?a__law_generator ?l__law_generator ?q__law_generator ?k__law_generator ?a__law_walk ?l__law_walk ?q__law_walk ?k__law_walk ?a_is_whole ?l_is_whole ?q_is_whole ?k_is_whole ?a_is_between ?l_is_between ?q_is_between ?k_is_between ?a_is_letters_alone ?l_is_letters_alone ?q_is_letters_alone ?k_is_letters_alone ?a_is_price ?l_is_price ?q_is_price ?k_is_price ?a_rises ?l_rises ?q_rises ?k_rises ?a_is_price_list ?l_is_price_list ?q_is_price_list ?k_is_price_list ?a_check_prices ?l_check_prices ?q_check_prices ?k_check_prices ?a_check_word ?l_check_word ?q_check_word ?k_check_word ?a_line_of ?l_line_of ?q_line_of ?k_line_of ?a_next_state ?l_next_state ?q_next_state ?k_next_state ?a_right_size ?l_right_size ?q_right_size ?k_right_size ?a_of_line ?l_of_line ?q_of_line ?k_of_line ?a_right_part ?l_right_part ?q_right_part ?k_right_part ?a__law_line_right ?l__law_line_right ?q__law_line_right ?k__law_line_right ?a__law_hash ?l__law_hash ?q__law_hash ?k__law_hash ?a__law_random ?l__law_random ?q__law_random ?k__law_random ?a__law_bent ?l__law_bent ?q__law_bent ?k__law_bent ?a__law_joints ?l__law_joints ?q__law_joints ?k__law_joints ?a__law_letters ?l__law_letters ?q__law_letters ?k__law_letters ?a__law_line ?l__law_line ?q__law_line ?k__law_line ?a__law_word ?l__law_word ?q__law_word ?k__law_word ?a__law_right ?l__law_right ?q__law_right ?k__law_right ?a__law_told ?l__law_told ?q__law_told ?k__law_told ?a_law ?l_law ?q_law ?k_law
    (case aC0 => k_is)
    (case aC1 => k_is)
    (case aC2 => k_is)
    (case aC3 => k_is)
    (case hn => k_is)
    (case ht => k_is)
    (case opq => k_is)
    (case nsup => k_is)
    (case topq => first | rfl | decide +kernel)
    (case ex0 => k_is)
    (case ty0 => k_is)
    (case hd0 => k_is)
    (case ss0 => k_is)
    (case ex1 => k_is)
    (case ty1 => k_is)
    (case hd1 => k_is)
    (case ss1 => k_is)
    (case xL1 => k_is)
    (case bm_1 => first | rfl | decide +kernel)
    (case sa1 => k_is)
    (case ga1 => k_is)
    (case gg1 => k_is)
    (case no1 => k_is)
    (case kC1 => k_is)
    (case ve1 => k_is)
    (case su1 => first | ks_is | kernel_rfl)
    (case se1 => k_is)
    (case ic1 => k_is)
    (case ti1 => k_is)
    (case li1 => k_is)
    (case ld1 => k_is)
    (case cd1 => k_is)
    (case lc1 => k_is)
    (case vs1 => first | rfl | kernel_rfl)
    (case hf1 => first | rfl | decide +kernel)
    (case ll1 => k_is)
    (case ev1 => exact fun _ _ _ _ _ => ⟨_, rfl⟩)
    (case ha1 => k_is)
    (case hm1 => k_is)
    (case ex2 => k_is)
    (case ty2 => k_is)
    (case hd2 => k_is)
    (case ss2 => k_is)
    (case xL2 => k_is)
    (case bm_2 => first | rfl | decide +kernel)
    (case sa2 => k_is)
    (case ga2 => k_is)
    (case gg2 => k_is)
    (case no2 => k_is)
    (case kC2 => k_is)
    (case ve2 => k_is)
    (case su2 => first | ks_is | kernel_rfl)
    (case se2 => k_is)
    (case ic2 => k_is)
    (case ti2 => k_is)
    (case li2 => k_is)
    (case ld2 => k_is)
    (case cd2 => k_is)
    (case lc2 => k_is)
    (case vs2 => first | rfl | kernel_rfl)
    (case hf2 => first | rfl | decide +kernel)
    (case ll2 => k_is)
    (case ev2 => exact fun _ _ _ _ _ => ⟨_, rfl⟩)
    (case ha2 => k_is)
    (case hm2 => k_is)
    (case ex3 => k_is)
    (case ty3 => k_is)
    (case hd3 => k_is)
    (case ss3 => k_is)
    (case xL3 => k_is)
    (case bm_3 => first | rfl | decide +kernel)
    (case sa3 => k_is)
    (case ga3 => k_is)
    (case gg3 => k_is)
    (case no3 => k_is)
    (case kC3 => k_is)
    (case ve3 => k_is)
    (case su3 => first | ks_is | kernel_rfl)
    (case se3 => k_is)
    (case ic3 => k_is)
    (case ti3 => k_is)
    (case li3 => k_is)
    (case ld3 => k_is)
    (case cd3 => k_is)
    (case lc3 => k_is)
    (case vs3 => first | rfl | kernel_rfl)
    (case hf3 => first | rfl | decide +kernel)
    (case ll3 => k_is)
    (case ev3 => exact fun _ _ _ _ _ => ⟨_, rfl⟩)
    (case ha3 => k_is)
    (case hm3 => k_is)
    (case sb1_3 => k_is)
    (case sb2_3 => k_is)
    (case sn3 => first | k_is | kernel_rfl)
    (case sb1_2 => k_is)
    (case sb3_2 => k_is)
    (case sn2 => first | k_is | kernel_rfl)
    (case sb2_1 => k_is)
    (case sb3_1 => k_is)
    (case sn1 => first | k_is | kernel_rfl)
    (case sb1_0 => k_is)
    (case sb2_0 => k_is)
    (case sb3_0 => k_is)
    (case b_bool => k_is)
    (case b_enumerate => k_is)
    (case b_int => k_is)
    (case b_isinstance => k_is)
    (case b_len => k_is)
    (case b_list => k_is)
    (case b_max => k_is)
    (case b_range => k_is)
    (case b_str => k_is)
    (case b_sum => k_is)
    (case b_tuple => k_is)
    (case c_COMMA => k_is)
    (case c_EQUAL => k_is)
    (case c_FIGURED => k_is)
    (case c_FIGURES => first | k_is | kernel_rfl)
    (case c_LETTER => k_is)
    (case c_LETTERS => first | k_is | kernel_rfl)
    (case c_MOST_SIGNS => k_is)
    (case c_START => k_is)
    (case c_WORD => k_is)
    (case a__law_cell => k_is)
    (case l__law_cell => k_is)
    (case q__law_cell => k_is)
    (case k__law_cell => k_is)
    (case a__law_generator => k_is)
    (case l__law_generator => k_is)
    (case q__law_generator => k_is)
    (case k__law_generator => k_is)
    (case a__law_walk => k_is)
    (case l__law_walk => k_is)
    (case q__law_walk => k_is)
    (case k__law_walk => k_is)
    (case a_is_whole => k_is)
    (case l_is_whole => k_is)
    (case q_is_whole => k_is)
    (case k_is_whole => k_is)
    (case a_is_between => k_is)
    (case l_is_between => k_is)
    (case q_is_between => k_is)
    (case k_is_between => k_is)
    (case a_is_letters_alone => k_is)
    (case l_is_letters_alone => k_is)
    (case q_is_letters_alone => k_is)
    (case k_is_letters_alone => k_is)
    (case a_is_price => k_is)
    (case l_is_price => k_is)
    (case q_is_price => k_is)
    (case k_is_price => k_is)
    (case a_rises => k_is)
    (case l_rises => k_is)
    (case q_rises => k_is)
    (case k_rises => k_is)
    (case a_is_price_list => k_is)
    (case l_is_price_list => k_is)
    (case q_is_price_list => k_is)
    (case k_is_price_list => k_is)
    (case a_check_prices => k_is)
    (case l_check_prices => k_is)
    (case q_check_prices => k_is)
    (case k_check_prices => k_is)
    (case a_check_word => k_is)
    (case l_check_word => k_is)
    (case q_check_word => k_is)
    (case k_check_word => k_is)
    (case a_line_of => k_is)
    (case l_line_of => k_is)
    (case q_line_of => k_is)
    (case k_line_of => k_is)
    (case a_next_state => k_is)
    (case l_next_state => k_is)
    (case q_next_state => k_is)
    (case k_next_state => k_is)
    (case a_right_size => k_is)
    (case l_right_size => k_is)
    (case q_right_size => k_is)
    (case k_right_size => k_is)
    (case a_of_line => k_is)
    (case l_of_line => k_is)
    (case q_of_line => k_is)
    (case k_of_line => k_is)
    (case a_right_part => k_is)
    (case l_right_part => k_is)
    (case q_right_part => k_is)
    (case k_right_part => k_is)
    (case a__law_line_right => k_is)
    (case l__law_line_right => k_is)
    (case q__law_line_right => k_is)
    (case k__law_line_right => k_is)
    (case a__law_hash => k_is)
    (case l__law_hash => k_is)
    (case q__law_hash => k_is)
    (case k__law_hash => k_is)
    (case a__law_random => k_is)
    (case l__law_random => k_is)
    (case q__law_random => k_is)
    (case k__law_random => k_is)
    (case a__law_bent => k_is)
    (case l__law_bent => k_is)
    (case q__law_bent => k_is)
    (case k__law_bent => k_is)
    (case a__law_joints => k_is)
    (case l__law_joints => k_is)
    (case q__law_joints => k_is)
    (case k__law_joints => k_is)
    (case a__law_letters => k_is)
    (case l__law_letters => k_is)
    (case q__law_letters => k_is)
    (case k__law_letters => k_is)
    (case a__law_line => k_is)
    (case l__law_line => k_is)
    (case q__law_line => k_is)
    (case k__law_line => k_is)
    (case a__law_word => k_is)
    (case l__law_word => k_is)
    (case q__law_word => k_is)
    (case k__law_word => k_is)
    (case a__law_right => k_is)
    (case l__law_right => k_is)
    (case q__law_right => k_is)
    (case k__law_right => k_is)
    (case a__law_told => k_is)
    (case l__law_told => k_is)
    (case q__law_told => k_is)
    (case k__law_told => k_is)
    (case a_law => k_is)
    (case l_law => k_is)
    (case q_law => k_is)
    (case k_law => k_is)
#print axioms PySem.Challenge.cw_sideswaps_k91_whole_lines_holds
