import PyProof.Rows.All
import Wide.All
import OpenK.AllK
import Wide.FinOn
import HandS.ForMost
import HandS.ForExc
import HandS.Evl
import HandS.Deep
import HandS.IsInst
import HandS.TryMany
import HandS.SortKw
import HandS.SortInts
import HandS.ReplaceLit
import HandS.ReplaceList
import HandS.ExcIs
import HandS.Remove
import HandS.StrMore
import HandS.Replace
import HandS.Style
import HandS.SortRule
import HandS.SetFor
import KE.SortKeyHeap
import KE.GoesMore
import KE.GoesEnum
import HandS.Flow
import HandS.ExcInit
import HandS.TryElse
import HandS.ExcField
import HandS.HotCalls
import KE.GoesRaise
import HandS.Zip
import HandS.Defaults
import HandS.MakeKw
import HandS.TryOnly
import PySem.Challenge.RW_linecaster_k40_broken_matrices_told
set_option Elab.async false
set_option linter.all false
set_option maxRecDepth 100000
set_option maxHeartbeats 4000000
/-! M: a layer of my own over the hand layer: typed mirrors of Python defs (R), data (Enc), frames (Sl, SatG), one judgement a syntax. -/
namespace M
open PySem PySem.Spec PyProof.Rows L2
open Evl (Ex)

/-! ### 1. what a mirror hands back -/
/-- a value; nothing is said; an exception of the program (its class by number, its field) -/
inductive R (α : Type) where
  | ok (a : α)
  | stuck
  | exc (n : Nat) (a : Option Int)
def R.bind {α β : Type} (m : R α) (f : α → R β) : R β := match m with
  | .ok a => f a
  | .stuck => .stuck
  | .exc n a => .exc n a
def R.wp {α : Type} (m : R α) (Q : α → Prop) (E : Nat → Option Int → Prop) : Prop := match m with
  | .ok a => Q a
  | .stuck => False
  | .exc n a => E n a
@[simp] theorem ok_bind {α β : Type} (a : α) (f : α → R β) : (R.ok a).bind f = f a := rfl
@[simp] theorem stuck_bind {α β : Type} (f : α → R β) : (R.stuck : R α).bind f = .stuck := rfl
@[simp] theorem exc_bind {α β : Type} (n : Nat) (x : Option Int) (f : α → R β) : (R.exc n x : R α).bind f = .exc n x := rfl
@[simp] theorem bind_ok {α : Type} (m : R α) : m.bind .ok = m := by cases m <;> rfl
theorem bind_assoc {α β γ : Type} (m : R α) (f : α → R β) (g : β → R γ) : (m.bind f).bind g = m.bind fun a => (f a).bind g := by cases m <;> rfl
theorem wp_bind {α β : Type} {m : R α} {f : α → R β} {Q : β → Prop} {E : Nat → Option Int → Prop} : (m.bind f).wp Q E ↔ m.wp (fun a => (f a).wp Q E) E := by cases m <;> rfl
theorem wp_mono {α : Type} {m : R α} {Q Q' : α → Prop} {E E' : Nat → Option Int → Prop} (h : m.wp Q E) (hq : ∀ a, Q a → Q' a) (he : ∀ n a, E n a → E' n a) : m.wp Q' E' := by
  cases m with
  | ok a => exact hq _ h
  | stuck => exact h
  | exc n a => exact he _ _ h
theorem wp_of_ok {α : Type} {m : R α} {a : α} (e : m = .ok a) {Q : α → Prop} {E : Nat → Option Int → Prop} (h : Q a) : m.wp Q E := by subst e; exact h
/-- a mirror behind which no exception may come (a comprehension's) -/
def R.noexc {α : Type} (m : R α) : R α := match m with
  | .ok a => .ok a
  | .stuck => .stuck
  | .exc _ _ => .stuck
@[simp] theorem noexc_ok {α : Type} (a : α) : (R.ok a).noexc = .ok a := rfl
theorem wp_noexc {α : Type} {m : R α} {Q : α → Prop} {E E' : Nat → Option Int → Prop} (h : m.noexc.wp Q E) : m.wp Q E' := by
  cases m with
  | ok a => exact h
  | stuck => exact h
  | exc n a => exact h.elim

/-! ### 2. data -/
abbrev Tx := List Nat
abbrev D := PyData
class Enc (α : Type) where
  enc : α → D
open Enc (enc)
class EncDep (α : Type) [Enc α] where
  dep : Nat
  hdep : ∀ a : α, (enc a).depth ≤ dep
class EncEq (α : Type) [Enc α] [DecidableEq α] where
  eqv : ∀ a b : α, PyData.eqv (enc a) (enc b) = decide (a = b)
/-- not None -/
class EncNN (α : Type) [Enc α] where
  nn : ∀ a : α, PyData.eqv .none (enc a) = false ∧ PyData.eqv (enc a) .none = false
structure T3 (α β γ : Type) where
  a : α
  b : β
  c : γ
  deriving DecidableEq
structure T4 (α β γ δ : Type) where
  a : α
  b : β
  c : γ
  d : δ
  deriving DecidableEq
structure T5 (α β γ δ ε : Type) where
  a : α
  b : β
  c : γ
  d : δ
  e : ε
  deriving DecidableEq
def txs (t : Tx) : Str := ⟨t.toArray⟩
instance : Enc Int := ⟨.int⟩
instance : Enc Bool := ⟨.bool⟩
instance : Enc Unit := ⟨fun _ => .none⟩
instance : Enc Tx := ⟨fun t => .str (txs t)⟩
instance {α : Type} [Enc α] : Enc (List α) := ⟨fun xs => .list (xs.map enc)⟩
def encO {α : Type} [Enc α] : Option α → D
  | none => .none
  | some a => enc a
instance {α : Type} [Enc α] : Enc (Option α) := ⟨encO⟩
instance {α β : Type} [Enc α] [Enc β] : Enc (α × β) := ⟨fun p => .tuple [enc p.1, enc p.2]⟩
instance {α β γ : Type} [Enc α] [Enc β] [Enc γ] : Enc (T3 α β γ) := ⟨fun p => .tuple [enc p.1, enc p.2, enc p.3]⟩
instance {α β γ δ : Type} [Enc α] [Enc β] [Enc γ] [Enc δ] : Enc (T4 α β γ δ) := ⟨fun p => .tuple [enc p.1, enc p.2, enc p.3, enc p.4]⟩
instance {α β γ δ ε : Type} [Enc α] [Enc β] [Enc γ] [Enc δ] [Enc ε] : Enc (T5 α β γ δ ε) := ⟨fun p => .tuple [enc p.1, enc p.2, enc p.3, enc p.4, enc p.5]⟩
instance : Enc D := ⟨id⟩

instance : EncDep Int := ⟨0, fun _ => by show PyData.depth (.int _) ≤ 0; simp [PyData.depth]⟩
instance : EncDep Bool := ⟨0, fun _ => by show PyData.depth (.bool _) ≤ 0; simp [PyData.depth]⟩
instance : EncDep Unit := ⟨0, fun _ => by show PyData.depth .none ≤ 0; simp [PyData.depth]⟩
instance : EncDep Tx := ⟨0, fun _ => by show PyData.depth (.str _) ≤ 0; simp [PyData.depth]⟩
theorem depthAll_le {n : Nat} : ∀ {ds : List D}, (∀ d ∈ ds, d.depth ≤ n) → PyData.depthAll ds ≤ n
  | [], _ => by simp [PyData.depthAll]
  | d :: ds, h => by
    have h1 := h d List.mem_cons_self
    have h2 := depthAll_le (ds := ds) fun x hx => h x (List.mem_cons_of_mem _ hx)
    simp only [PyData.depthAll]
    omega
open EncDep (dep hdep)
instance {α : Type} [Enc α] [EncDep α] : EncDep (List α) := ⟨dep α + 1, fun xs => by
  show PyData.depth (.list (xs.map enc)) ≤ _
  simp only [PyData.depth]
  have := depthAll_le (n := dep α) (ds := xs.map enc) fun d hd => by
    obtain ⟨a, _, rfl⟩ := List.mem_map.mp hd
    exact hdep a
  omega⟩
instance {α : Type} [Enc α] [EncDep α] : EncDep (Option α) := ⟨dep α, fun o => by
  cases o with
  | none => show PyData.depth .none ≤ _; simp [PyData.depth]
  | some a => exact hdep a⟩
theorem depth_tup {n : Nat} {ds : List D} (h : ∀ d ∈ ds, d.depth ≤ n) : (PyData.tuple ds).depth ≤ n + 1 := by
  have := depthAll_le h
  simp only [PyData.depth]
  omega
instance {α β : Type} [Enc α] [Enc β] [EncDep α] [EncDep β] : EncDep (α × β) := ⟨dep α + dep β + 1, fun p => depth_tup (n := dep α + dep β) fun d hd => by
  have h1 := hdep p.1; have h2 := hdep p.2
  simp only [List.mem_cons, List.mem_singleton, List.not_mem_nil, or_false] at hd
  rcases hd with rfl | rfl <;> omega⟩
instance {α β γ : Type} [Enc α] [Enc β] [Enc γ] [EncDep α] [EncDep β] [EncDep γ] : EncDep (T3 α β γ) := ⟨dep α + dep β + dep γ + 1, fun p => depth_tup (n := dep α + dep β + dep γ) fun d hd => by
  have h1 := hdep p.1; have h2 := hdep p.2; have h3 := hdep p.3
  simp only [List.mem_cons, List.not_mem_nil, or_false] at hd
  rcases hd with rfl | rfl | rfl <;> omega⟩
instance {α β γ δ : Type} [Enc α] [Enc β] [Enc γ] [Enc δ] [EncDep α] [EncDep β] [EncDep γ] [EncDep δ] : EncDep (T4 α β γ δ) := ⟨dep α + dep β + dep γ + dep δ + 1, fun p => depth_tup (n := dep α + dep β + dep γ + dep δ) fun d hd => by
  have h1 := hdep p.1; have h2 := hdep p.2; have h3 := hdep p.3; have h4 := hdep p.4
  simp only [List.mem_cons, List.not_mem_nil, or_false] at hd
  rcases hd with rfl | rfl | rfl | rfl <;> omega⟩
instance {α β γ δ ε : Type} [Enc α] [Enc β] [Enc γ] [Enc δ] [Enc ε] [EncDep α] [EncDep β] [EncDep γ] [EncDep δ] [EncDep ε] : EncDep (T5 α β γ δ ε) := ⟨dep α + dep β + dep γ + dep δ + dep ε + 1, fun p => depth_tup (n := dep α + dep β + dep γ + dep δ + dep ε) fun d hd => by
  have h1 := hdep p.1; have h2 := hdep p.2; have h3 := hdep p.3; have h4 := hdep p.4; have h5 := hdep p.5
  simp only [List.mem_cons, List.not_mem_nil, or_false] at hd
  rcases hd with rfl | rfl | rfl | rfl | rfl <;> omega⟩

theorem txs_inj {s t : Tx} (h : txs s = txs t) : s = t := by
  have e : s.toArray = t.toArray := congrArg Str.cps h
  simpa using congrArg Array.toList e
instance : EncEq Int := ⟨fun a b => by show (a == b) = _; rw [Bool.beq_eq_decide_eq]⟩
instance : EncEq Bool := ⟨fun a b => by show (a == b) = _; rw [Bool.beq_eq_decide_eq]⟩
instance : EncEq Unit := ⟨fun _ _ => rfl⟩
instance : EncEq Tx := ⟨fun a b => by
  show (txs a == txs b) = _
  by_cases h : a = b
  · subst h; simp
  · rw [decide_eq_false h]
    exact beq_eq_false_iff_ne.mpr fun e => h (txs_inj e)⟩
theorem eqvAll_map {α : Type} [Enc α] [DecidableEq α] [EncEq α] : ∀ xs ys : List α, PyData.eqvAll (xs.map enc) (ys.map enc) = decide (xs = ys)
  | [], [] => by simp [PyData.eqvAll]
  | [], _ :: _ => by simp [PyData.eqvAll]
  | _ :: _, [] => by simp [PyData.eqvAll]
  | x :: xs, y :: ys => by
    rw [List.map_cons, List.map_cons, PyData.eqvAll, EncEq.eqv, eqvAll_map xs ys]
    by_cases h1 : x = y <;> by_cases h2 : xs = ys <;> simp [h1, h2]
instance {α : Type} [Enc α] [DecidableEq α] [EncEq α] : EncEq (List α) := ⟨fun a b => by
  show PyData.eqv (.list _) (.list _) = _
  rw [PyData.eqv]
  exact eqvAll_map a b⟩
instance {α : Type} [Enc α] [DecidableEq α] [EncEq α] [EncNN α] : EncEq (Option α) := ⟨fun a b => by
  cases a with
  | none => cases b with
    | none => rfl
    | some b => show PyData.eqv .none (enc b) = _; rw [(EncNN.nn b).1]; simp
  | some a => cases b with
    | none => show PyData.eqv (enc a) .none = _; rw [(EncNN.nn a).2]; simp
    | some b => show PyData.eqv (enc a) (enc b) = _; rw [EncEq.eqv]; simp⟩
instance : EncNN Int := ⟨fun _ => ⟨rfl, rfl⟩⟩
instance : EncNN Bool := ⟨fun _ => ⟨rfl, rfl⟩⟩
instance : EncNN Tx := ⟨fun _ => ⟨rfl, rfl⟩⟩
instance {α : Type} [Enc α] : EncNN (List α) := ⟨fun _ => ⟨rfl, rfl⟩⟩
instance {α β : Type} [Enc α] [Enc β] : EncNN (α × β) := ⟨fun _ => ⟨rfl, rfl⟩⟩
instance {α β γ : Type} [Enc α] [Enc β] [Enc γ] : EncNN (T3 α β γ) := ⟨fun _ => ⟨rfl, rfl⟩⟩
instance {α β γ δ : Type} [Enc α] [Enc β] [Enc γ] [Enc δ] : EncNN (T4 α β γ δ) := ⟨fun _ => ⟨rfl, rfl⟩⟩
instance {α β : Type} [Enc α] [Enc β] [DecidableEq α] [DecidableEq β] [EncEq α] [EncEq β] : EncEq (α × β) := ⟨fun a b => by
  cases a; cases b
  show PyData.eqv (.tuple [_, _]) (.tuple [_, _]) = _
  simp [PyData.eqv, PyData.eqvAll, EncEq.eqv]⟩
instance {α β γ : Type} [Enc α] [Enc β] [Enc γ] [DecidableEq α] [DecidableEq β] [DecidableEq γ] [EncEq α] [EncEq β] [EncEq γ] : EncEq (T3 α β γ) := ⟨fun a b => by
  cases a; cases b
  show PyData.eqv (.tuple [_, _, _]) (.tuple [_, _, _]) = _
  simp [PyData.eqv, PyData.eqvAll, EncEq.eqv]⟩
instance {α β γ δ : Type} [Enc α] [Enc β] [Enc γ] [Enc δ] [DecidableEq α] [DecidableEq β] [DecidableEq γ] [DecidableEq δ] [EncEq α] [EncEq β] [EncEq γ] [EncEq δ] : EncEq (T4 α β γ δ) := ⟨fun a b => by
  cases a; cases b
  show PyData.eqv (.tuple [_, _, _, _]) (.tuple [_, _, _, _]) = _
  simp [PyData.eqv, PyData.eqvAll, EncEq.eqv]⟩
instance {α β γ δ ε : Type} [Enc α] [Enc β] [Enc γ] [Enc δ] [Enc ε] [DecidableEq α] [DecidableEq β] [DecidableEq γ] [DecidableEq δ] [DecidableEq ε] [EncEq α] [EncEq β] [EncEq γ] [EncEq δ] [EncEq ε] : EncEq (T5 α β γ δ ε) := ⟨fun a b => by
  cases a; cases b
  show PyData.eqv (.tuple [_, _, _, _, _]) (.tuple [_, _, _, _, _]) = _
  simp [PyData.eqv, PyData.eqvAll, EncEq.eqv]⟩

/-! ### 3. a value that stands for data -/
def Dk (d : D) : Prop := d.canLay0 = true
def DkA (ds : List D) : Prop := PyData.canLayAll0 ds = true
theorem dkA_iff : ∀ {ds : List D}, DkA ds ↔ ∀ d ∈ ds, Dk d
  | [] => by simp [DkA, PyData.canLayAll0]
  | d :: ds => by
    have ih := dkA_iff (ds := ds)
    unfold DkA at ih ⊢
    simp only [PyData.canLayAll0, Bool.and_eq_true, List.forall_mem_cons, ih]
    rfl
theorem dk_list {ds : List D} : Dk (.list ds) ↔ DkA ds := by unfold Dk DkA; rw [PyData.canLay0]
theorem dk_tuple {ds : List D} : Dk (.tuple ds) ↔ DkA ds := by unfold Dk DkA; rw [PyData.canLay0]
theorem dk_int {i : Int} : Dk (.int i) := by unfold Dk; rw [PyData.canLay0]
theorem dk_bool {i : Bool} : Dk (.bool i) := by unfold Dk; rw [PyData.canLay0]
theorem dk_none : Dk .none := by unfold Dk; rw [PyData.canLay0]
mutual
theorem dp_ex {K : PySem.W.Frag} {H H' : Hp} (e : Ex H H') : ∀ (d : D) (v : V), Dp K H v d → Dp K H' v d
  | .none, _, h => by cases h; exact .non
  | .bool b, _, h => by cases h; exact .bl b
  | .int i, _, h => by cases h; exact .int i
  | .str x, _, h => by cases h; exact .str x
  | .list ds, _, h => by
    cases h with
    | lst hs ha => exact .lst (Evl.ex_l e hs) (dpA_ex e ds _ ha)
  | .tuple ds, _, h => by
    cases h with
    | tup hs ha => exact .tup (Evl.ex_t e hs) (dpA_ex e ds _ ha)
  | .dict _, _, h => by cases h
theorem dpA_ex {K : PySem.W.Frag} {H H' : Hp} (e : Ex H H') : ∀ (ds : List D) (vs : List V), DpAll K H vs ds → DpAll K H' vs ds
  | [], _, h => by cases h; exact .nil
  | d :: ds, _, h => by
    cases h with
    | cons h1 h2 => exact .cons (dp_ex e d _ h1) (dpA_ex e ds _ h2)
end
/-- v stands for d in H -/
structure Rp (K : PySem.W.Frag) (H : Hp) (v : V) (d : D) : Prop where
  dp : Dp K H v d
  dk : Dk d
structure RpA (K : PySem.W.Frag) (H : Hp) (vs : List V) (ds : List D) : Prop where
  dp : DpAll K H vs ds
  dk : DkA ds
section
variable {K : PySem.W.Frag} {H H' : Hp} {v : V} {d : D} {vs ws : List V} {ds es : List D}
theorem Rp.ex (e : Ex H H') (r : Rp K H v d) : Rp K H' v d := ⟨dp_ex e _ _ r.dp, r.dk⟩
theorem RpA.ex (e : Ex H H') (r : RpA K H vs ds) : RpA K H' vs ds := ⟨dpA_ex e _ _ r.dp, r.dk⟩
theorem Rp.int {i : Int} : Rp K H (.int i) (.int i) := ⟨.int i, dk_int⟩
theorem Rp.bl {i : Bool} : Rp K H (.bl i) (.bool i) := ⟨.bl i, dk_bool⟩
theorem Rp.non : Rp K H .non .none := ⟨.non, dk_none⟩
theorem RpA.nil : RpA K H [] [] := ⟨.nil, by unfold DkA; rw [PyData.canLayAll0]⟩
theorem RpA.cons (a : Rp K H v d) (b : RpA K H vs ds) : RpA K H (v :: vs) (d :: ds) := ⟨.cons a.dp b.dp, by
  have h1 := a.dk; have h2 := b.dk
  unfold Dk at h1; unfold DkA at h2 ⊢
  rw [PyData.canLayAll0, h1, h2]; rfl⟩
theorem RpA.hd (r : RpA K H (v :: vs) (d :: ds)) : Rp K H v d := ⟨by cases r.dp with | cons a b => exact a, dkA_iff.mp r.dk _ List.mem_cons_self⟩
theorem RpA.tl (r : RpA K H (v :: vs) (d :: ds)) : RpA K H vs ds := ⟨by cases r.dp with | cons a b => exact b, dkA_iff.mpr fun x hx => dkA_iff.mp r.dk _ (List.mem_cons_of_mem _ hx)⟩
theorem RpA.length (r : RpA K H vs ds) : vs.length = ds.length := by
  have h := r.dp
  clear r
  induction ds generalizing vs with
  | nil => cases h; rfl
  | cons d ds ih => cases h with | cons a b => rw [List.length_cons, List.length_cons, ih b]
theorem RpA.uncons (r : RpA K H vs (d :: ds)) : ∃ w ws, vs = w :: ws ∧ Rp K H w d ∧ RpA K H ws ds := by
  cases vs with
  | nil => cases r.dp
  | cons w ws => exact ⟨w, ws, rfl, r.hd, r.tl⟩
theorem RpA.unnil (r : RpA K H vs []) : vs = [] := by cases r.dp; rfl
theorem RpA.get : ∀ {vs : List V} {ds : List D} {i : Nat} {d : D}, RpA K H vs ds → ds[i]? = some d → ∃ v, vs[i]? = some v ∧ Rp K H v d
  | _, [], _, _, _, e => by simp at e
  | _, x :: ds, i, d, r, e => by
    obtain ⟨w, ws, rfl, r1, r2⟩ := r.uncons
    cases i with
    | zero => simp at e; subst e; exact ⟨w, rfl, r1⟩
    | succ i => exact RpA.get (i := i) r2 (by simpa using e)
theorem RpA.getV {i : Nat} (r : RpA K H vs ds) (e : vs[i]? = some v) : ∃ d, ds[i]? = some d ∧ Rp K H v d := by
  have hl := r.length
  have hi : i < vs.length := (List.getElem?_eq_some_iff.mp e).1
  obtain ⟨v', e', r'⟩ := r.get (i := i) (d := ds[i]) (List.getElem?_eq_getElem (by omega))
  rw [e] at e'; cases e'
  exact ⟨_, List.getElem?_eq_getElem (by omega), r'⟩
theorem RpA.append : ∀ {vs ws : List V} {ds es : List D}, RpA K H vs ds → RpA K H ws es → RpA K H (vs ++ ws) (ds ++ es)
  | vs, _, [], _, a, b => by rw [a.unnil]; exact b
  | vs, _, d :: ds, _, a, b => by
    obtain ⟨w, ws', rfl, r1, r2⟩ := a.uncons
    exact .cons r1 (RpA.append r2 b)
theorem RpA.of (h1 : vs.length = ds.length) (h : ∀ (i : Nat) (v : V) (d : D), vs[i]? = some v → ds[i]? = some d → Rp K H v d) : RpA K H vs ds := by
  induction vs generalizing ds with
  | nil => cases ds with
    | nil => exact .nil
    | cons d ds => simp at h1
  | cons v vs ih => cases ds with
    | nil => simp at h1
    | cons d ds => exact .cons (h 0 v d rfl rfl) (ih (by simpa using h1) fun i v' d' e1 e2 => h (i + 1) v' d' (by simpa using e1) (by simpa using e2))
theorem RpA.take (n : Nat) (r : RpA K H vs ds) : RpA K H (vs.take n) (ds.take n) := .of (by simp [r.length]) fun i v d e1 e2 => by
  rw [List.getElem?_take] at e1 e2
  split at e1
  · obtain ⟨d', e', r'⟩ := r.getV e1
    rw [if_pos ‹_›, e'] at e2; cases e2; exact r'
  · cases e1
theorem RpA.drop (n : Nat) (r : RpA K H vs ds) : RpA K H (vs.drop n) (ds.drop n) := .of (by simp [r.length]) fun i v d e1 e2 => by
  rw [List.getElem?_drop] at e1 e2
  obtain ⟨d', e', r'⟩ := r.getV e1
  rw [e'] at e2; cases e2; exact r'
theorem RpA.set (n : Nat) (r : RpA K H vs ds) (a : Rp K H v d) : RpA K H (vs.set n v) (ds.set n d) := .of (by simp [r.length]) fun i v' d' e1 e2 => by
  rw [List.getElem?_set] at e1 e2
  split at e1
  · rename_i hni
    rw [if_pos hni] at e2
    split at e1
    · cases e1
      split at e2
      · cases e2; exact a
      · cases e2
    · cases e1
  · rw [if_neg ‹_›] at e2
    obtain ⟨d'', e', r'⟩ := r.getV e1
    rw [e'] at e2; cases e2; exact r'
theorem Rp.lst {p : Addr} (h : SqL K H p vs) (r : RpA K H vs ds) : Rp K H (.ref p) (.list ds) := ⟨.lst h r.dp, dk_list.mpr r.dk⟩
theorem Rp.tup {p : Addr} (h : SqT K H p vs) (r : RpA K H vs ds) : Rp K H (.ref p) (.tuple ds) := ⟨.tup h r.dp, dk_tuple.mpr r.dk⟩
theorem Rp.unint {i : Int} (r : Rp K H v (.int i)) : v = .int i := by cases r.dp; rfl
theorem Rp.unbl {i : Bool} (r : Rp K H v (.bool i)) : v = .bl i := by cases r.dp; rfl
theorem Rp.unstr {i : Str} (r : Rp K H v (.str i)) : v = .str i := by cases r.dp; rfl
theorem Rp.unnon (r : Rp K H v .none) : v = .non := by cases r.dp; rfl
theorem Rp.unlst (r : Rp K H v (.list ds)) : ∃ p vs, v = .ref p ∧ SqL K H p vs ∧ RpA K H vs ds := by
  have hk := dk_list.mp r.dk
  cases r.dp with
  | lst h a => exact ⟨_, _, rfl, h, a, hk⟩
theorem Rp.untup (r : Rp K H v (.tuple ds)) : ∃ p vs, v = .ref p ∧ SqT K H p vs ∧ RpA K H vs ds := by
  have hk := dk_tuple.mp r.dk
  cases r.dp with
  | tup h a => exact ⟨_, _, rfl, h, a, hk⟩
end
/-- a value that needs no heap -/
class Scal (α : Type) [Enc α] where
  sc : ∀ {K : PySem.W.Frag} {H H' : Hp} {v : V} {a : α}, Rp K H v (enc a) → Rp K H' v (enc a)
instance : Scal Int := ⟨fun r => by have e := Rp.unint r; subst e; exact .int⟩
instance : Scal Bool := ⟨fun r => by have e := Rp.unbl r; subst e; exact .bl⟩
instance : Scal Unit := ⟨fun r => by have e := Rp.unnon r; subst e; exact .non⟩
instance : Scal Tx := ⟨fun r => by have e := Rp.unstr r; subst e; exact ⟨.str _, r.dk⟩⟩
instance {α : Type} [Enc α] [Scal α] : Scal (Option α) := ⟨fun {K H H' v a} r => by
  cases a with
  | none => have e := Rp.unnon r; subst e; exact .non
  | some a => exact Scal.sc (α := α) (K := K) (H := H) (a := a) r⟩
/-! ### 4. frames -/
/-- what a def's entry gives: the frozen part B of the heap H0; F0: what of H0 it may change; Fl: the frozen part at the entry of the loop around -/
structure Bs where
  B : Hp
  H0 : Hp
  F0 : List Addr
  Fl : Hp
/-- a slot: nothing is known; a value that stands for d in the frozen part; a list of one's own -/
inductive Sl where
  | no
  | va (d : D)
  | ow (ds : List D)
  | rw (v : V)
  | dk (kvs : List (Key × D))
  | gn (R : PySem.W.Frag → Hp → Hp → Option V → List Addr → Prop)
/-- what is said of a slot by hand: kept where the heap grows or changes elsewhere -/
def HOm (u : HO) : Prop := (∃ vs, u = .lst vs) ∨ (∃ kv, u = .dK kv) ∨ ∃ C dx fs, u = .ins C dx fs
structure Gd (R : Hp → Hp → Option V → List Addr → Prop) : Prop where
  cg : ∀ {G H G' H' : Hp} {o : Option V} {f : List Addr}, Ex G G' → (∀ p ∈ f, H' p = H p) → R G H o f → R G' H' o f
  kd : ∀ {G H : Hp} {o : Option V} {f : List Addr}, R G H o f → ∀ p ∈ f, ∃ u, H p = some u ∧ HOm u
theorem Gd.gr {R : Hp → Hp → Option V → List Addr → Prop} (g : Gd R) {G H G' H' : Hp} {o : Option V} {f : List Addr} (e : Ex G G') (h : Ex H H') (r : R G H o f) : R G' H' o f :=
  g.cg e (fun p hp => by obtain ⟨u, hu, _⟩ := g.kd r p hp; rw [hu]; exact h _ _ hu) r
theorem Gd.fr {R : Hp → Hp → Option V → List Addr → Prop} (g : Gd R) {G H : Hp} {o : Option V} {f : List Addr} {p : Addr} {ob : HO} (n : p ∉ f) (r : R G H o f) : R G (upd H p ob) o f :=
  g.cg (Ex.refl _) (fun q hq => upd_ne fun z => n (z ▸ hq)) r
inductive KvA (K : PySem.W.Frag) (G : Hp) : List (Key × V) → List (Key × D) → Prop where
  | nil : KvA K G [] []
  | cons {k : Key} {v : V} {d : D} {r : List (Key × V)} {s : List (Key × D)} : Rp K G v d → KvA K G r s → KvA K G ((k, v) :: r) ((k, d) :: s)
theorem KvA.ex {K : PySem.W.Frag} {G G' : Hp} (e : Ex G G') {r : List (Key × V)} {s : List (Key × D)} (h : KvA K G r s) : KvA K G' r s := by
  induction h with
  | nil => exact .nil
  | cons a _ ih => exact .cons (a.ex e) ih
def SlAt (K : PySem.W.Frag) (G H : Hp) : Sl → Option V → List Addr → Prop
  | .no, _, fp => fp = []
  | .va d, o, fp => fp = [] ∧ ∃ v, o = some v ∧ Rp K G v d
  | .ow ds, o, fp => ∃ p vs, fp = [p] ∧ o = some (.ref p) ∧ H p = some (.lst vs) ∧ RpA K G vs ds
  | .rw v, o, fp => fp = [] ∧ o = some v
  | .dk kvs, o, fp => ∃ p kv, fp = [p] ∧ o = some (.ref p) ∧ H p = some (.dK kv) ∧ KvA K G kv kvs
  | .gn R, o, fp => Gd (R K) ∧ R K G H o fp
inductive SlsAt (K : PySem.W.Frag) (G H : Hp) : List Sl → L2.St → List (List Addr) → Prop where
  | nil : SlsAt K G H [] [] []
  | cons {s : Sl} {o : Option V} {f : List Addr} {Γ : List Sl} {σ : L2.St} {fs : List (List Addr)} : SlAt K G H s o f → SlsAt K G H Γ σ fs → SlsAt K G H (s :: Γ) (o :: σ) (f :: fs)
/-- the heap has grown from G, H to G', H' -/
structure Gr (G H G' H' : Hp) : Prop where
  gg : Ex G G'
  gh : Ex G' H'
  hh : Ex H H'
  nw : ∀ a o, G' a = some o → G a = some o ∨ H a = none
structure SatG (K : PySem.W.Frag) (c : Bs) (Γ : List Sl) (G : Hp) (σ : L2.St) (H : Hp) : Prop where
  bg : Ex c.B G
  gh : Ex G H
  h0 : ∀ a o, c.H0 a = some o → a ∉ c.F0 → H a = some o
  th : ∀ a o, c.H0 a = some o → ∃ u, H a = some u
  sep : ∀ a o, c.H0 a = some o → a ∉ c.F0 → c.B a = none → G a = none
  fl : Ex c.Fl G
  sl : ∃ fs, SlsAt K G H Γ σ fs ∧ fs.flatten.Nodup ∧ ∀ p ∈ fs.flatten, G p = none ∧ (p ∈ c.F0 ∨ c.H0 p = none)
theorem Gr.refl {G H : Hp} (h : Ex G H) : Gr G H G H := ⟨Ex.refl _, h, Ex.refl _, fun _ _ e => .inl e⟩
theorem ex_none {H H' : Hp} (e : Ex H H') {a : Addr} (h : H' a = none) : H a = none := Evl.fresh_back e h
theorem Gr.trans {G H G1 H1 G2 H2 : Hp} (a : Gr G H G1 H1) (b : Gr G1 H1 G2 H2) : Gr G H G2 H2 := ⟨a.gg.trans b.gg, b.gh, a.hh.trans b.hh, fun x o e => by
  rcases b.nw x o e with h | h
  · exact a.nw x o h
  · exact .inr (ex_none a.hh h)⟩
/-- a new object, frozen -/
theorem Gr.new {G H : Hp} {p : Addr} {o : HO} (h : Ex G H) (n : H p = none) : Gr G H (upd G p o) (upd H p o) := ⟨Ex.new (ex_none h n), fun a u e => by
    by_cases ha : a = p
    · subst ha; rw [upd_same] at e ⊢; exact e
    · rw [upd_ne ha] at e ⊢; exact h a u e, Ex.new n, fun a u e => by
    by_cases ha : a = p
    · subst ha; exact .inr n
    · rw [upd_ne ha] at e; exact .inl e⟩
/-- a new object, not frozen -/
theorem Gr.loose {G H : Hp} {p : Addr} {o : HO} (h : Ex G H) (n : H p = none) : Gr G H G (upd H p o) := ⟨Ex.refl _, fun a u e => by
    rw [upd_ne (fun z => by rw [z] at e; have := h _ _ e; rw [n] at this; cases this)]; exact h a u e, Ex.new n, fun a u e => .inl e⟩
theorem SlAt.gr {K : PySem.W.Frag} {G H G' H' : Hp} (g : Gr G H G' H') {s : Sl} {o : Option V} {fp : List Addr} (h : SlAt K G H s o fp) : SlAt K G' H' s o fp := by
  cases s with
  | no => exact h
  | va d => obtain ⟨e, v, h1, h2⟩ := h; exact ⟨e, v, h1, h2.ex g.gg⟩
  | ow ds => obtain ⟨p, vs, e, h1, h2, h3⟩ := h; exact ⟨p, vs, e, h1, g.hh _ _ h2, h3.ex g.gg⟩
  | rw v => exact h
  | dk kvs => obtain ⟨p, kv, e, h1, h2, h3⟩ := h; exact ⟨p, kv, e, h1, g.hh _ _ h2, h3.ex g.gg⟩
  | gn R => exact ⟨h.1, h.1.gr g.gg g.hh h.2⟩
theorem SlsAt.gr {K : PySem.W.Frag} {G H G' H' : Hp} (g : Gr G H G' H') {Γ : List Sl} {σ : L2.St} {fs : List (List Addr)} (h : SlsAt K G H Γ σ fs) : SlsAt K G' H' Γ σ fs := by
  induction h with
  | nil => exact .nil
  | cons a _ ih => exact .cons (a.gr g) ih
theorem SlAt.there {K : PySem.W.Frag} {G H : Hp} {s : Sl} {o : Option V} {fp : List Addr} (h : SlAt K G H s o fp) : ∀ p ∈ fp, ∃ u, H p = some u := by
  cases s with
  | no => rw [show fp = [] from h]; intro p hp; cases hp
  | va d => rw [h.1]; intro p hp; cases hp
  | ow ds => obtain ⟨p, vs, e, h1, h2, h3⟩ := h; rw [e]; intro q hq; rw [List.mem_singleton] at hq; subst hq; exact ⟨_, h2⟩
  | rw v => rw [h.1]; intro p hp; cases hp
  | dk kvs => obtain ⟨p, kv, e, h1, h2, h3⟩ := h; rw [e]; intro q hq; rw [List.mem_singleton] at hq; subst hq; exact ⟨_, h2⟩
  | gn R => exact fun p hp => (h.1.kd h.2 p hp).elim fun u e => ⟨u, e.1⟩
theorem SlsAt.there {K : PySem.W.Frag} {G H : Hp} {Γ : List Sl} {σ : L2.St} {fs : List (List Addr)} (h : SlsAt K G H Γ σ fs) : ∀ p ∈ fs.flatten, ∃ u, H p = some u := by
  induction h with
  | nil => intro p hp; cases hp
  | cons a _ ih =>
    intro p hp
    rw [List.flatten_cons] at hp
    rcases List.mem_append.mp hp with hp | hp
    · exact a.there p hp
    · exact ih p hp
theorem SatG.gr {K : PySem.W.Frag} {c : Bs} {Γ : List Sl} {G H G' H' : Hp} {σ : L2.St} (S : SatG K c Γ G σ H) (g : Gr G H G' H') : SatG K c Γ G' σ H' := by
  obtain ⟨fs, h1, h2, h3⟩ := S.sl
  refine ⟨S.bg.trans g.gg, g.gh, fun a o e n => g.hh _ _ (S.h0 a o e n), fun a o e => ?_, fun a o e nF n => ?_, S.fl.trans g.gg, fs, h1.gr g, h2, fun p hp => ⟨?_, (h3 p hp).2⟩⟩
  · obtain ⟨u, hu⟩ := S.th a o e
    exact ⟨u, g.hh _ _ hu⟩
  · cases q : G' a with
    | none => rfl
    | some u =>
      rcases g.nw a u q with z | z
      · rw [S.sep a o e nF n] at z; cases z
      · obtain ⟨w, hw⟩ := S.th a o e
        rw [z] at hw; cases hw
  · cases q : G' p with
    | none => rfl
    | some u =>
      rcases g.nw p u q with z | z
      · rw [(h3 p hp).1] at z; cases z
      · obtain ⟨w, hw⟩ := h1.there p hp
        rw [z] at hw; cases hw
/-! #### slots -/
section
variable {K : PySem.W.Frag} {c : Bs} {Γ : List Sl} {G H G' H' : Hp} {σ : L2.St}
theorem SlsAt.length {fs : List (List Addr)} (h : SlsAt K G H Γ σ fs) : Γ.length = σ.length := by
  induction h with
  | nil => rfl
  | cons _ _ ih => rw [List.length_cons, List.length_cons, ih]
theorem SlsAt.get {fs : List (List Addr)} (h : SlsAt K G H Γ σ fs) : ∀ {i : Nat} {s : Sl}, Γ[i]? = some s → ∃ o f, σ[i]? = some o ∧ fs[i]? = some f ∧ SlAt K G H s o f := by
  induction h with
  | nil => intro i s e; simp at e
  | cons a _ ih =>
    intro i s e
    cases i with
    | zero => simp at e; subst e; exact ⟨_, _, rfl, rfl, a⟩
    | succ i => obtain ⟨o, f, h1, h2, h3⟩ := ih (i := i) (by simpa using e); exact ⟨o, f, by simpa using h1, by simpa using h2, h3⟩
/-- a slot gets another value; the footprint goes -/
theorem SlsAt.set {fs : List (List Addr)} (h : SlsAt K G H Γ σ fs) : ∀ {i : Nat} {s : Sl} {o : Option V} {f : List Addr}, SlAt K G H s o f → SlsAt K G H (Γ.set i s) (σ.set i o) (fs.set i f) := by
  induction h with
  | nil => intro i s o f _; exact .nil
  | cons a r ih =>
    intro i s o f q
    cases i with
    | zero => exact .cons q r
    | succ i => exact .cons a (ih q)
theorem flatten_set_sub {fs : List (List Addr)} {i : Nat} {f : List Addr} : ∀ p ∈ (fs.set i f).flatten, p ∈ fs.flatten ∨ p ∈ f := by
  intro p hp
  obtain ⟨l, hl, hp⟩ := List.mem_flatten.mp hp
  rcases List.mem_or_eq_of_mem_set hl with h | h
  · exact .inl (List.mem_flatten.mpr ⟨l, h, hp⟩)
  · rw [h] at hp; exact .inr hp
theorem nodup_set : ∀ {fs : List (List Addr)} {i : Nat} {f : List Addr}, fs.flatten.Nodup → f.Nodup → (∀ p ∈ f, p ∉ fs.flatten ∨ ∃ g, fs[i]? = some g ∧ p ∈ g) → (fs.set i f).flatten.Nodup
  | [], i, f, h, _, _ => by simpa using h
  | g :: fs, 0, f, h, hf, hd => by
    rw [List.set_cons_zero, List.flatten_cons]
    rw [List.flatten_cons] at h hd
    obtain ⟨h1, h2, h3⟩ := List.nodup_append.mp h
    refine List.nodup_append.mpr ⟨hf, h2, fun a ha b hb e => ?_⟩
    subst e
    rcases hd a ha with z | ⟨g', e, z⟩
    · exact z (List.mem_append_right _ hb)
    · simp at e; subst e; exact h3 a z a hb rfl
  | g :: fs, i + 1, f, h, hf, hd => by
    rw [List.set_cons_succ, List.flatten_cons]
    rw [List.flatten_cons] at h hd
    obtain ⟨h1, h2, h3⟩ := List.nodup_append.mp h
    have gs : ∀ g', fs[i]? = some g' → ∀ p ∈ g', p ∈ fs.flatten := fun g' e p hp => List.mem_flatten.mpr ⟨g', List.mem_of_getElem? e, hp⟩
    have ih := nodup_set (fs := fs) (i := i) (f := f) h2 hf fun p hp => by
      rcases hd p hp with z | ⟨g', e, z⟩
      · exact .inl fun q => z (List.mem_append_right _ q)
      · exact .inr ⟨g', by simpa using e, z⟩
    refine List.nodup_append.mpr ⟨h1, ih, fun a ha b hb e => ?_⟩
    subst e
    rcases flatten_set_sub a hb with z | z
    · exact h3 a ha a z rfl
    · rcases hd a z with w | ⟨g', e, w⟩
      · exact w (List.mem_append_left _ ha)
      · exact h3 a ha a (gs g' (by simpa using e) a w) rfl
theorem SatG.get (S : SatG K c Γ G σ H) {i : Nat} {s : Sl} (e : Γ[i]? = some s) : ∃ o f, σ[i]? = some o ∧ SlAt K G H s o f ∧ (∀ p ∈ f, G p = none ∧ (p ∈ c.F0 ∨ c.H0 p = none)) := by
  obtain ⟨fs, h1, h2, h3⟩ := S.sl
  obtain ⟨o, f, e1, e2, a⟩ := h1.get e
  exact ⟨o, f, e1, a, fun p hp => h3 p (List.mem_flatten.mpr ⟨f, List.mem_of_getElem? e2, hp⟩)⟩
theorem SatG.va {i : Nat} {d : D} (S : SatG K c Γ G σ H) (e : Γ[i]? = some (.va d)) : ∃ v, σ[i]? = some (some v) ∧ Rp K G v d := by
  obtain ⟨o, f, e1, ⟨_, v, rfl, r⟩, _⟩ := S.get e
  exact ⟨v, e1, r⟩
theorem SatG.ow {i : Nat} {ds : List D} (S : SatG K c Γ G σ H) (e : Γ[i]? = some (.ow ds)) : ∃ p vs, σ[i]? = some (some (.ref p)) ∧ H p = some (.lst vs) ∧ RpA K G vs ds ∧ G p = none := by
  obtain ⟨o, f, e1, ⟨p, vs, rfl, rfl, h1, h2⟩, h3⟩ := S.get e
  exact ⟨p, vs, e1, h1, h2, (h3 p (by simp)).1⟩
/-- x = a value -/
theorem SatG.setva {i : Nat} {v : V} {d : D} (S : SatG K c Γ G σ H) (r : Rp K G v d) : SatG K c (Γ.set i (.va d)) G (σ.set i (some v)) H := by
  obtain ⟨fs, h1, h2, h3⟩ := S.sl
  refine ⟨S.bg, S.gh, S.h0, S.th, S.sep, S.fl, fs.set i [], h1.set ⟨rfl, v, rfl, r⟩, nodup_set h2 List.nodup_nil (fun p hp => by cases hp), fun p hp => ?_⟩
  rcases flatten_set_sub p hp with z | z
  · exact h3 p z
  · cases z
theorem SatG.setno {i : Nat} {o : Option V} (S : SatG K c Γ G σ H) : SatG K c (Γ.set i .no) G (σ.set i o) H := by
  obtain ⟨fs, h1, h2, h3⟩ := S.sl
  refine ⟨S.bg, S.gh, S.h0, S.th, S.sep, S.fl, fs.set i [], h1.set rfl, nodup_set h2 List.nodup_nil (fun p hp => by cases hp), fun p hp => ?_⟩
  rcases flatten_set_sub p hp with z | z
  · exact h3 p z
  · cases z
/-- x = a new list -/
theorem SatG.setow {i : Nat} {p : Addr} {vs : List V} {ds : List D} (S : SatG K c Γ G σ H) (n : ∀ fs, SlsAt K G H Γ σ fs → p ∉ fs.flatten) (n0 : c.H0 p = none) (hp : H p = some (.lst vs)) (gp : G p = none) (r : RpA K G vs ds) :
    SatG K c (Γ.set i (.ow ds)) G (σ.set i (some (.ref p))) H := by
  obtain ⟨fs, h1, h2, h3⟩ := S.sl
  refine ⟨S.bg, S.gh, S.h0, S.th, S.sep, S.fl, fs.set i [p], h1.set ⟨p, vs, rfl, rfl, hp, r⟩, nodup_set h2 (by simp) (fun q hq => .inl ?_), fun q hq => ?_⟩
  · rw [List.mem_singleton] at hq; subst hq; exact n fs h1
  · rcases flatten_set_sub q hq with z | z
    · exact h3 q z
    · rw [List.mem_singleton] at z; subst z; exact ⟨gp, .inr n0⟩
theorem SatG.setow2 {G0 H0 : Hp} {i : Nat} {p : Addr} {vs : List V} {ds : List D} (S : SatG K c Γ G0 σ H0) (g : Gr G0 H0 G H) (n : H0 p = none) (n0 : c.H0 p = none) (hp : H p = some (.lst vs)) (gp : G p = none) (r : RpA K G vs ds) :
    SatG K c (Γ.set i (.ow ds)) G (σ.set i (some (.ref p))) H := by
  have S1 := S.gr g
  obtain ⟨fs, h1, h2, h3⟩ := S.sl
  have hpf : p ∉ fs.flatten := fun z => by
    obtain ⟨u, hu⟩ := h1.there p z
    rw [n] at hu; cases hu
  refine ⟨S1.bg, S1.gh, S1.h0, S1.th, S1.sep, S1.fl, fs.set i [p], (h1.gr g).set ⟨p, vs, rfl, rfl, hp, r⟩, nodup_set h2 (by simp) (fun q hq => .inl ?_), fun q hq => ?_⟩
  · rw [List.mem_singleton] at hq; subst hq; exact hpf
  · rcases flatten_set_sub q hq with z | z
    · refine ⟨?_, (h3 q z).2⟩
      cases q1 : G q with
      | none => rfl
      | some u =>
        rcases g.nw q u q1 with y | y
        · rw [(h3 q z).1] at y; cases y
        · obtain ⟨w, hw⟩ := h1.there q z
          rw [y] at hw; cases hw
    · rw [List.mem_singleton] at z; subst z; exact ⟨gp, .inr n0⟩
/-- x = what is told by hand, its footprint new -/
theorem SatG.setgn {G0 H0 : Hp} {i : Nat} {v : Option V} {s1 : Sl} {f : List Addr} (S : SatG K c Γ G0 σ H0) (g : Gr G0 H0 G H) (n : ∀ p ∈ f, H0 p = none ∧ c.H0 p = none ∧ G p = none) (nd : f.Nodup) (a : SlAt K G H s1 v f) :
    SatG K c (Γ.set i s1) G (σ.set i v) H := by
  have S1 := S.gr g
  obtain ⟨fs, h1, h2, h3⟩ := S.sl
  refine ⟨S1.bg, S1.gh, S1.h0, S1.th, S1.sep, S1.fl, fs.set i f, (h1.gr g).set a, nodup_set h2 nd (fun q hq => .inl fun z => ?_), fun q hq => ?_⟩
  · obtain ⟨u, hu⟩ := h1.there q z
    rw [(n q hq).1] at hu; cases hu
  · rcases flatten_set_sub q hq with z | z
    · refine ⟨?_, (h3 q z).2⟩
      cases q1 : G q with
      | none => rfl
      | some u =>
        rcases g.nw q u q1 with y | y
        · rw [(h3 q z).1] at y; cases y
        · obtain ⟨w, hw⟩ := h1.there q z
          rw [y] at hw; cases hw
    · exact ⟨(n q z).2.2, .inr (n q z).2.1⟩
/-- weakening -/
inductive Wk : List Sl → List Sl → Prop where
  | nil : Wk [] []
  | keep {s : Sl} {Γ Γ' : List Sl} : Wk Γ Γ' → Wk (s :: Γ) (s :: Γ')
  | drop {s : Sl} {Γ Γ' : List Sl} : Wk Γ Γ' → Wk (s :: Γ) (.no :: Γ')
theorem Wk.refl : ∀ Γ : List Sl, Wk Γ Γ
  | [] => .nil
  | _ :: Γ => .keep (Wk.refl Γ)
theorem SlsAt.wk (w : Wk Γ Γ') : ∀ {σ : L2.St} {fs : List (List Addr)}, SlsAt K G H Γ σ fs → ∃ fs', SlsAt K G H Γ' σ fs' ∧ fs'.flatten.Sublist fs.flatten := by
  induction w with
  | nil => intro σ fs h; exact ⟨fs, h, List.Sublist.refl _⟩
  | keep _ ih =>
    intro σ fs h
    cases h with
    | cons a r =>
      obtain ⟨fs', h1, h2⟩ := ih r
      exact ⟨_, .cons a h1, by rw [List.flatten_cons, List.flatten_cons]; exact h2.append_left _⟩
  | drop _ ih =>
    intro σ fs h
    cases h with
    | cons a r =>
      obtain ⟨fs', h1, h2⟩ := ih r
      refine ⟨[] :: fs', .cons rfl h1, ?_⟩
      rw [List.flatten_cons, List.flatten_cons, List.nil_append]
      exact h2.trans (List.sublist_append_right _ _)
theorem SatG.wk {Γ' : List Sl} (S : SatG K c Γ G σ H) (w : Wk Γ Γ') : SatG K c Γ' G σ H := by
  obtain ⟨fs, h1, h2, h3⟩ := S.sl
  obtain ⟨fs', h1', hs⟩ := SlsAt.wk w h1
  exact ⟨S.bg, S.gh, S.h0, S.th, S.sep, S.fl, fs', h1', h2.sublist hs, fun p hp => h3 p (hs.subset hp)⟩
theorem SlsAt.gg (e : Ex G G') {fs : List (List Addr)} (h : SlsAt K G H Γ σ fs) : SlsAt K G' H Γ σ fs := by
  induction h with
  | nil => exact .nil
  | @cons s o f _ _ _ a _ ih =>
    refine .cons ?_ ih
    cases s with
    | no => exact a
    | va d => obtain ⟨e1, v, h1, h2⟩ := a; exact ⟨e1, v, h1, h2.ex e⟩
    | ow ds => obtain ⟨p, vs, e1, h1, h2, h3⟩ := a; exact ⟨p, vs, e1, h1, h2, h3.ex e⟩
    | rw v => exact a
    | dk kvs => obtain ⟨p, kv, e1, h1, h2, h3⟩ := a; exact ⟨p, kv, e1, h1, h2, h3.ex e⟩
    | gn R => exact ⟨a.1, a.1.gr e (Ex.refl _) a.2⟩
theorem flatten_set_nil {i : Nat} {p : Addr} : ∀ {fs : List (List Addr)}, fs.flatten.Nodup → fs[i]? = some [p] → p ∉ (fs.set i []).flatten := by
  induction i with
  | zero =>
    intro fs h e
    cases fs with
    | nil => simp at e
    | cons g fs =>
      simp at e; subst e
      rw [List.set_cons_zero, List.flatten_cons, List.nil_append]
      rw [List.flatten_cons] at h
      intro hp
      exact (List.nodup_append.mp h).2.2 p (by simp) p hp rfl
  | succ i ih =>
    intro fs h e
    cases fs with
    | nil => simp at e
    | cons g fs =>
      rw [List.set_cons_succ, List.flatten_cons]
      rw [List.flatten_cons] at h
      obtain ⟨h1, h2, h3⟩ := List.nodup_append.mp h
      have e' : fs[i]? = some [p] := by simpa using e
      intro hp
      rcases List.mem_append.mp hp with z | z
      · exact h3 p z p (List.mem_flatten.mpr ⟨[p], List.mem_of_getElem? e', by simp⟩) rfl
      · exact ih h2 e' z
/-- a list of one's own is frozen -/
theorem SatG.freeze {i : Nat} {ds : List D} (S : SatG K c Γ G σ H) (e : Γ[i]? = some (.ow ds)) : ∃ G', Ex G G' ∧ SatG K c (Γ.set i (.va (.list ds))) G' σ H := by
  obtain ⟨fs, h1, h2, h3⟩ := S.sl
  obtain ⟨o, f, e1, e2, p, vs, rfl, rfl, hp, r⟩ := h1.get e
  have hpf : p ∈ fs.flatten := List.mem_flatten.mpr ⟨[p], List.mem_of_getElem? e2, by simp⟩
  obtain ⟨gp, n0⟩ := h3 p hpf
  have eg : Ex G (upd G p (.lst vs)) := Ex.new gp
  have hself : σ.set i (some (.ref p)) = σ := by
    obtain ⟨hi, hv⟩ := List.getElem?_eq_some_iff.mp e1
    rw [← hv]; exact List.set_getElem_self hi
  refine ⟨upd G p (.lst vs), eg, S.bg.trans eg, fun a u q => ?_, S.h0, S.th, fun a u q nF n => ?_, S.fl.trans eg, fs.set i [], ?_, nodup_set h2 List.nodup_nil (fun p hp => by cases hp), fun q hq => ?_⟩
  · by_cases ha : a = p
    · subst ha; rw [upd_same] at q; rw [← q]; exact hp
    · rw [upd_ne ha] at q; exact S.gh a u q
  · by_cases ha : a = p
    · subst ha
      rcases n0 with z | z
      · exact absurd z nF
      · rw [z] at q; cases q
    · rw [upd_ne ha]; exact S.sep a u q nF n
  · have h4 := (h1.gg eg).set (i := i) (s := .va (.list ds)) (o := some (.ref p)) (f := []) ⟨rfl, _, rfl, Rp.lst (.inl (.inl upd_same)) (r.ex eg)⟩
    rw [hself] at h4
    exact h4
  · have hne : q ≠ p := fun z => by rw [z] at hq; exact flatten_set_nil h2 e2 hq
    rcases flatten_set_sub q hq with z | z
    · rw [upd_ne hne]; exact h3 q z
    · cases z
/-- a list of one's own changes -/
theorem SatG.mut {i : Nat} {ds ds' : List D} {p : Addr} {vs' : List V} (S : SatG K c Γ G σ H) (e : Γ[i]? = some (.ow ds)) (hs : σ[i]? = some (some (.ref p))) (r : RpA K G vs' ds') :
    SatG K c (Γ.set i (.ow ds')) G σ (upd H p (.lst vs')) := by
  obtain ⟨fs, h1, h2, h3⟩ := S.sl
  obtain ⟨o, f, e1, e2, p', vs0, rfl, rfl, hp, r0⟩ := h1.get e
  rw [hs] at e1
  have : p = p' := by injection e1 with e1; injection e1 with e1; injection e1
  subst this
  have hpf : p ∈ fs.flatten := List.mem_flatten.mpr ⟨[p], List.mem_of_getElem? e2, by simp⟩
  obtain ⟨gp, n0⟩ := h3 p hpf
  have hself : σ.set i (some (.ref p)) = σ := by
    obtain ⟨hi, hv⟩ := List.getElem?_eq_some_iff.mp hs
    rw [← hv]; exact List.set_getElem_self hi
  have fself : fs.set i [p] = fs := by
    obtain ⟨hi, hv⟩ := List.getElem?_eq_some_iff.mp e2
    rw [← hv]; exact List.set_getElem_self hi
  have key : ∀ {Γ : List Sl} {σ : L2.St} {fs : List (List Addr)} {i : Nat}, SlsAt K G H Γ σ fs → fs.flatten.Nodup → fs[i]? = some [p] → SlsAt K G (upd H p (.lst vs')) (Γ.set i (.ow ds')) (σ.set i (some (.ref p))) (fs.set i [p]) := by
    intro Γ σ fs i h
    induction h generalizing i with
    | nil => intro _ e; simp at e
    | @cons s o f Γ σ fs a r ih =>
      intro nd e
      rw [List.flatten_cons] at nd
      obtain ⟨n1, n2, n3⟩ := List.nodup_append.mp nd
      cases i with
      | zero =>
        simp at e; subst e
        refine .cons ⟨p, vs', rfl, rfl, upd_same, ‹RpA K G vs' ds'›⟩ ?_
        have nm : p ∉ fs.flatten := fun z => n3 p (by simp) p z rfl
        clear ih n3 nd n2 a e2 h3 h1 fself
        induction r with
        | nil => exact .nil
        | @cons s o f Γ σ fs a r ih =>
          rw [List.flatten_cons] at nm
          refine .cons ?_ (ih fun z => nm (List.mem_append_right _ z))
          cases s with
          | no => exact a
          | va d => exact a
          | rw v => exact a
          | dk kvs => obtain ⟨q, ws, e1, e2, h1, h2⟩ := a; exact ⟨q, ws, e1, e2, by rw [upd_ne (fun z => nm (List.mem_append_left _ (by rw [e1, ← z]; simp)))]; exact h1, h2⟩
          | gn R => exact ⟨a.1, a.1.fr (fun z => nm (List.mem_append_left _ z)) a.2⟩
          | ow ds => obtain ⟨q, ws, e1, e2, h1, h2⟩ := a; exact ⟨q, ws, e1, e2, by rw [upd_ne (fun z => nm (List.mem_append_left _ (by rw [e1, ← z]; simp)))]; exact h1, h2⟩
      | succ i =>
        have e' : fs[i]? = some [p] := by simpa using e
        refine .cons ?_ (ih n2 e')
        have nm : p ∉ f := fun z => n3 p z p (List.mem_flatten.mpr ⟨[p], List.mem_of_getElem? e', by simp⟩) rfl
        cases s with
        | no => exact a
        | va d => exact a
        | rw v => exact a
        | dk kvs => obtain ⟨q, ws, e1, e2, h1, h2⟩ := a; exact ⟨q, ws, e1, e2, by rw [upd_ne (fun z => nm (by rw [e1, ← z]; simp))]; exact h1, h2⟩
        | gn R => exact ⟨a.1, a.1.fr nm a.2⟩
        | ow ds => obtain ⟨q, ws, e1, e2, h1, h2⟩ := a; exact ⟨q, ws, e1, e2, by rw [upd_ne (fun z => nm (by rw [e1, ← z]; simp))]; exact h1, h2⟩
  have h4 := key h1 h2 e2
  rw [hself, fself] at h4
  refine ⟨S.bg, fun a u q => ?_, fun a u q n => ?_, fun a u q => ?_, S.sep, S.fl, fs, h4, h2, h3⟩
  · rw [upd_ne (fun z => by rw [z, gp] at q; cases q)]; exact S.gh a u q
  · have hne : a ≠ p := fun z => by
      subst z
      rcases n0 with w | w
      · exact n w
      · rw [w] at q; cases q
    rw [upd_ne hne]; exact S.h0 a u q n
  · by_cases ha : a = p
    · subst ha; exact ⟨_, upd_same⟩
    · rw [upd_ne ha]; exact S.th a u q
/-- what is one's own changes -/
theorem SatG.mutG {i : Nat} {s0 s1 : Sl} {p : Addr} {ob : HO} (S : SatG K c Γ G σ H) (e : Γ[i]? = some s0) (hs : σ[i]? = some (some (.ref p))) (hfp : ∀ f, SlAt K G H s0 (some (.ref p)) f → f = [p]) (hnew : SlAt K G (upd H p ob) s1 (some (.ref p)) [p]) :
    SatG K c (Γ.set i s1) G σ (upd H p ob) := by
  obtain ⟨fs, h1, h2, h3⟩ := S.sl
  obtain ⟨o, f, e1, e2, a0⟩ := h1.get e
  rw [hs] at e1
  have e1 := Option.some.inj e1
  subst e1
  have ef := hfp f a0
  subst ef
  have hpf : p ∈ fs.flatten := List.mem_flatten.mpr ⟨[p], List.mem_of_getElem? e2, by simp⟩
  obtain ⟨gp, n0⟩ := h3 p hpf
  have hself : σ.set i (some (.ref p)) = σ := by
    obtain ⟨hi, hv⟩ := List.getElem?_eq_some_iff.mp hs
    rw [← hv]; exact List.set_getElem_self hi
  have fself : fs.set i [p] = fs := by
    obtain ⟨hi, hv⟩ := List.getElem?_eq_some_iff.mp e2
    rw [← hv]; exact List.set_getElem_self hi
  have key : ∀ {Γ : List Sl} {σ : L2.St} {fs : List (List Addr)} {i : Nat}, SlsAt K G H Γ σ fs → fs.flatten.Nodup → fs[i]? = some [p] → SlsAt K G (upd H p ob) (Γ.set i s1) (σ.set i (some (.ref p))) (fs.set i [p]) := by
    intro Γ σ fs i h
    induction h generalizing i with
    | nil => intro _ e; simp at e
    | @cons s o f Γ σ fs a r ih =>
      intro nd e
      rw [List.flatten_cons] at nd
      obtain ⟨n1, n2, n3⟩ := List.nodup_append.mp nd
      cases i with
      | zero =>
        simp at e; subst e
        refine .cons hnew ?_
        have nm : p ∉ fs.flatten := fun z => n3 p (by simp) p z rfl
        clear ih n3 nd n2 a e2 h3 h1 fself
        induction r with
        | nil => exact .nil
        | @cons s o f Γ σ fs a r ih =>
          rw [List.flatten_cons] at nm
          refine .cons ?_ (ih fun z => nm (List.mem_append_right _ z))
          cases s with
          | no => exact a
          | va d => exact a
          | rw v => exact a
          | dk kvs => obtain ⟨q, ws, e1, e2, h1, h2⟩ := a; exact ⟨q, ws, e1, e2, by rw [upd_ne (fun z => nm (List.mem_append_left _ (by rw [e1, ← z]; simp)))]; exact h1, h2⟩
          | gn R => exact ⟨a.1, a.1.fr (fun z => nm (List.mem_append_left _ z)) a.2⟩
          | ow ds => obtain ⟨q, ws, e1, e2, h1, h2⟩ := a; exact ⟨q, ws, e1, e2, by rw [upd_ne (fun z => nm (List.mem_append_left _ (by rw [e1, ← z]; simp)))]; exact h1, h2⟩
      | succ i =>
        have e' : fs[i]? = some [p] := by simpa using e
        refine .cons ?_ (ih n2 e')
        have nm : p ∉ f := fun z => n3 p z p (List.mem_flatten.mpr ⟨[p], List.mem_of_getElem? e', by simp⟩) rfl
        cases s with
        | no => exact a
        | va d => exact a
        | rw v => exact a
        | dk kvs => obtain ⟨q, ws, e1, e2, h1, h2⟩ := a; exact ⟨q, ws, e1, e2, by rw [upd_ne (fun z => nm (by rw [e1, ← z]; simp))]; exact h1, h2⟩
        | gn R => exact ⟨a.1, a.1.fr nm a.2⟩
        | ow ds => obtain ⟨q, ws, e1, e2, h1, h2⟩ := a; exact ⟨q, ws, e1, e2, by rw [upd_ne (fun z => nm (by rw [e1, ← z]; simp))]; exact h1, h2⟩
  have h4 := key h1 h2 e2
  rw [hself, fself] at h4
  refine ⟨S.bg, fun a u q => ?_, fun a u q n => ?_, fun a u q => ?_, S.sep, S.fl, fs, h4, h2, h3⟩
  · rw [upd_ne (fun z => by rw [z, gp] at q; cases q)]; exact S.gh a u q
  · have hne : a ≠ p := fun z => by
      subst z
      rcases n0 with w | w
      · exact n w
      · rw [w] at q; cases q
    rw [upd_ne hne]; exact S.h0 a u q n
  · by_cases ha : a = p
    · subst ha; exact ⟨_, upd_same⟩
    · rw [upd_ne ha]; exact S.th a u q
/-- x = a new object of one's own -/
theorem SatG.setO {i : Nat} {p : Addr} {s1 : Sl} (S : SatG K c Γ G σ H) (n : ∀ fs, SlsAt K G H Γ σ fs → p ∉ fs.flatten) (n0 : c.H0 p = none) (gp : G p = none) (a : SlAt K G H s1 (some (.ref p)) [p]) :
    SatG K c (Γ.set i s1) G (σ.set i (some (.ref p))) H := by
  obtain ⟨fs, h1, h2, h3⟩ := S.sl
  refine ⟨S.bg, S.gh, S.h0, S.th, S.sep, S.fl, fs.set i [p], h1.set a, nodup_set h2 (by simp) (fun q hq => .inl ?_), fun q hq => ?_⟩
  · rw [List.mem_singleton] at hq; subst hq; exact n fs h1
  · rcases flatten_set_sub q hq with z | z
    · exact h3 q z
    · rw [List.mem_singleton] at z; subst z; exact ⟨gp, .inr n0⟩
/-- a list of one's own is held still: its place is known, it stands in the heap ahead -/
theorem SatG.hold {i : Nat} {ds : List D} (S : SatG K c Γ G σ H) (e : Γ[i]? = some (.ow ds)) (nf : c.F0 = []) :
    ∃ p vs, σ[i]? = some (some (.ref p)) ∧ H p = some (.lst vs) ∧ RpA K G vs ds ∧ G p = none ∧ c.H0 p = none ∧ SatG K ⟨G, upd c.H0 p (.lst vs), [], G⟩ (Γ.set i (.rw (.ref p))) G σ H := by
  obtain ⟨fs, h1, h2, h3⟩ := S.sl
  obtain ⟨o, f, e1, e2, p, vs, rfl, rfl, hp, r⟩ := h1.get e
  have hpf : p ∈ fs.flatten := List.mem_flatten.mpr ⟨[p], List.mem_of_getElem? e2, by simp⟩
  obtain ⟨gp, n0⟩ := h3 p hpf
  have n0 : c.H0 p = none := by
    rcases n0 with z | z
    · rw [nf] at z; cases z
    · exact z
  have hself : σ.set i (some (.ref p)) = σ := by
    obtain ⟨hi, hv⟩ := List.getElem?_eq_some_iff.mp e1
    rw [← hv]; exact List.set_getElem_self hi
  refine ⟨p, vs, e1, hp, r, gp, n0, Ex.refl _, S.gh, fun a u q _ => ?_, fun a u q => ?_, fun a u q _ n => n, Ex.refl _, fs.set i [], ?_, nodup_set h2 List.nodup_nil (fun p hp => by cases hp), fun q hq => ?_⟩
  · have q : upd c.H0 p (.lst vs) a = some u := q
    by_cases ha : a = p
    · rw [ha] at q ⊢; rw [upd_same] at q; rw [← q]; exact hp
    · rw [upd_ne ha] at q; exact S.h0 a u q (by rw [nf]; simp)
  · have q : upd c.H0 p (.lst vs) a = some u := q
    by_cases ha : a = p
    · subst ha; exact ⟨_, hp⟩
    · rw [upd_ne ha] at q; exact S.th a u q
  · have h4 := h1.set (i := i) (s := .rw (.ref p)) (o := some (.ref p)) (f := []) ⟨rfl, rfl⟩
    rw [hself] at h4
    exact h4
  · have hne : q ≠ p := fun z => by rw [z] at hq; exact flatten_set_nil h2 e2 hq
    rcases flatten_set_sub q hq with z | z
    · refine ⟨(h3 q z).1, .inr ?_⟩
      show upd c.H0 p (.lst vs) q = none
      rw [upd_ne hne]
      rcases (h3 q z).2 with y | y
      · rw [nf] at y; cases y
      · exact y
    · cases z
/-- .. and is one's own again -/
theorem SatG.unhold {i : Nat} {ds : List D} {p : Addr} {vs : List V} {F : Hp} (S : SatG K ⟨F, upd c.H0 p (.lst vs), [], F⟩ (Γ.set i (.rw (.ref p))) G σ H) (e : Γ[i]? = some (.ow ds)) (nf : c.F0 = []) (eb : Ex c.B F) (el : Ex c.Fl F) (n0 : c.H0 p = none)
    (se : ∀ a o, c.H0 a = some o → c.B a = none → F a = none) (gp : F p = none) (r : RpA K F vs ds) : SatG K c Γ G σ H := by
  obtain ⟨fs, h1, h2, h3⟩ := S.sl
  have hi : i < Γ.length := (List.getElem?_eq_some_iff.mp e).1
  obtain ⟨o, f, e1, e2, q⟩ := h1.get (i := i) (s := .rw (.ref p)) (by rw [List.getElem?_set_self hi])
  obtain ⟨rfl, rfl⟩ := q
  have hp : H p = some (.lst vs) := S.h0 p (.lst vs) (show upd c.H0 p (.lst vs) p = _ from upd_same) (by simp)
  have gp' : G p = none := S.sep p (.lst vs) (show upd c.H0 p (.lst vs) p = _ from upd_same) (by simp) gp
  have hold : ∀ a u, c.H0 a = some u → (upd c.H0 p (.lst vs)) a = some u := fun a u q => by rw [upd_ne (fun z => by rw [z, n0] at q; cases q)]; exact q
  have hself : σ.set i (some (.ref p)) = σ := by
    obtain ⟨hi, hv⟩ := List.getElem?_eq_some_iff.mp e1
    rw [← hv]; exact List.set_getElem_self hi
  have hpn : p ∉ fs.flatten := fun z => by
    rcases (h3 p z).2 with y | y
    · cases y
    · have y : upd c.H0 p (.lst vs) p = none := y
      rw [upd_same] at y; cases y
  refine ⟨eb.trans S.bg, S.gh, fun a u q _ => S.h0 a u (hold a u q) (by simp), fun a u q => S.th a u (hold a u q), fun a u q _ n => S.sep a u (hold a u q) (by simp) (se a u q n), el.trans S.fl, fs.set i [p], ?_, nodup_set h2 (by simp) (fun q hq => .inl ?_), fun q hq => ?_⟩
  · have h4 := h1.set (i := i) (s := .ow ds) (o := some (.ref p)) (f := [p]) ⟨p, vs, rfl, rfl, hp, r.ex S.bg⟩
    rw [hself, List.set_set] at h4
    have e5 : Γ.set i (.ow ds) = Γ := by
      obtain ⟨hi, hv⟩ := List.getElem?_eq_some_iff.mp e
      rw [← hv]; exact List.set_getElem_self hi
    rw [e5] at h4
    exact h4
  · rw [List.mem_singleton] at hq; subst hq; exact hpn
  · rcases flatten_set_sub q hq with z | z
    · refine ⟨(h3 q z).1, .inr ?_⟩
      have hne : q ≠ p := fun y => by subst y; exact hpn z
      rcases (h3 q z).2 with y | y
      · cases y
      · have y : upd c.H0 p (.lst vs) q = none := y
        rwa [upd_ne hne] at y
    · rw [List.mem_singleton] at z; subst z; exact ⟨gp', .inr n0⟩
end
/-! ### 5. the judgements -/
/-- the program's exception classes by number: where they stand, their field -/
structure CT where
  cls : Nat → Addr
  fld : Nat → Option Str
def ExOk (T : CT) (n : Nat) (a : Option Int) (cls : Value) (d : Option Addr) (H : Hp) : Prop :=
  cls = .ref (T.cls n) ∧ match a with
    | none => d = none
    | some i => ∃ dx f, d = some dx ∧ T.fld n = some f ∧ H dx = some (.xd [(f, .int i)])
structure Jd where
  X : Cx
  c : Bs
  W : WX
  tk : Takes X W
  Pe : L2.St → Hp → Prop
  T : CT
  po : PassesOwn (model X.prog X.w) X.A X.env X.xe
abbrev Jd.K (J : Jd) : PySem.W.Frag := J.X.K
abbrev Sat (J : Jd) (Γ : List Sl) (G : Hp) (σ : L2.St) (H : Hp) : Prop := SatG J.K J.c Γ G σ H
def ErE (J : Jd) (Γ : List Sl) (σ : L2.St) : Nat → Option Int → Prop := fun n a => ∀ G' H' cls d, Sat J Γ G' σ H' → ExOk J.T n a cls d H' → J.W cls d σ H'
/-- an expression that hands back what stands for a value, frozen -/
def tS (J : Jd) (Γ : List Sl) {α : Type} [Enc α] (m : R α) : TE := fun σ H Q => ∃ G, Sat J Γ G σ H ∧ m.wp (fun a => ∀ v G' H', Gr G H G' H' → Rp J.K G' v (enc a) → Q v H') (ErE J Γ σ)
/-- .. what stands for it now -/
def tT (J : Jd) (Γ : List Sl) {α : Type} [Enc α] (m : R α) : TE := fun σ H Q => ∃ G, Sat J Γ G σ H ∧ m.wp (fun a => ∀ v G' H', Gr G H G' H' → Rp J.K H' v (enc a) → Q v H') (ErE J Γ σ)
/-- a list that may be read, its items frozen -/
def tL (J : Jd) (Γ : List Sl) {α : Type} [Enc α] (m : R (List α)) : TE := fun σ H Q => ∃ G, Sat J Γ G σ H ∧ m.wp (fun a => ∀ p vs G' H', Gr G H G' H' → SqL J.K H' p vs → RpA J.K G' vs (a.map enc) → Q (.ref p) H') (ErE J Γ σ)
/-- a new list -/
def tF (J : Jd) (Γ : List Sl) {α : Type} [Enc α] (m : R (List α)) : TE := fun σ H Q => ∃ G, Sat J Γ G σ H ∧
  m.wp (fun a => ∀ p vs G' H', Gr G H G' H' → H p = none → G' p = none → H' p = some (.lst vs) → RpA J.K G' vs (a.map enc) → Q (.ref p) H') (ErE J Γ σ)
def tB (J : Jd) (Γ : List Sl) (m : R Bool) : TT := fun σ H Q => ∃ G, Sat J Γ G σ H ∧ m.wp (fun a => ∀ G' H', Gr G H G' H' → Q a H') (ErE J Γ σ)
def tAr (J : Jd) (Γ : List Sl) {τ : Type} (m : R τ) (encs : τ → List D) : TA := fun σ H Q => ∃ G, Sat J Γ G σ H ∧ m.wp (fun a => ∀ vs G' H', Gr G H G' H' → RpA J.K G' vs (encs a) → Q vs H') (ErE J Γ σ)
/-- arguments that stand now -/
def tArT (J : Jd) (Γ : List Sl) {τ : Type} (m : R τ) (encs : τ → List D) : TA := fun σ H Q => ∃ G, Sat J Γ G σ H ∧ m.wp (fun a => ∀ vs G' H', Gr G H G' H' → RpA J.K H' vs (encs a) → Q vs H') (ErE J Γ σ)
structure ES (J : Jd) (Γ : List Sl) (e : Expr) {α : Type} [Enc α] (m : R α) : Prop where
  pe : PE J.X e (tS J Γ m)
structure EV (J : Jd) (Γ : List Sl) (e : Expr) {α : Type} [Enc α] (m : R α) : Prop where
  pe : PE J.X e (tT J Γ m)
structure EL (J : Jd) (Γ : List Sl) (e : Expr) {α : Type} [Enc α] (m : R (List α)) : Prop where
  pe : PE J.X e (tL J Γ m)
structure EF (J : Jd) (Γ : List Sl) (e : Expr) {α : Type} [Enc α] (m : R (List α)) : Prop where
  pe : PE J.X e (tF J Γ m)
structure ET (J : Jd) (Γ : List Sl) (e : Expr) (m : R Bool) : Prop where
  pt : PT J.X e (tB J Γ m)
structure EA0 (J : Jd) (Γ : List Sl) (es : List Expr) {τ : Type} (m : R τ) (encs : τ → List D) : Prop where
  pa : PA J.X es (tAr J Γ m encs)
  len : ∀ t, (encs t).length = es.length
structure EAT0 (J : Jd) (Γ : List Sl) (es : List Expr) {τ : Type} (m : R τ) (encs : τ → List D) : Prop where
  pa : PA J.X es (tArT J Γ m encs)
  len : ∀ t, (encs t).length = es.length

theorem pe_wk {X : Cx} {e : Expr} {t t' : TE} (h : PE X e t) (i : ∀ σ H Q, t' σ H Q → t σ H Q) : PE X e t' := ⟨fun pins s σ H Q I q => h.run pins s σ H Q I (i σ H Q q)⟩
theorem pt_wk {X : Cx} {e : Expr} {t t' : TT} (h : PT X e t) (i : ∀ σ H Q, t' σ H Q → t σ H Q) : PT X e t' := ⟨fun pins s σ H Q I q => h.run pins s σ H Q I (i σ H Q q)⟩
theorem pw_wk {X : Cx} {e : Expr} {t t' : TT} (h : PW X e t) (i : ∀ σ H Q, t' σ H Q → t σ H Q) : PW X e t' := ⟨fun wh pins s σ H Q I q => h.run wh pins s σ H Q I (i σ H Q q)⟩
theorem pa_wk {X : Cx} {e : List Expr} {t t' : TA} (h : PA X e t) (i : ∀ σ H Q, t' σ H Q → t σ H Q) : PA X e t' := ⟨fun pos pins s σ H Q I q => h.run pos pins s σ H Q I (i σ H Q q)⟩
theorem ps_wk {X : Cx} {e : Stmt} {t t' : TS} (h : PS X e t) (i : ∀ D σ H, t' D σ H → t D σ H) : PS X e t' := ⟨fun pins s σ H D I q => h.run pins s σ H D I (i D σ H q)⟩
theorem pss_wk {X : Cx} {e : List Stmt} {t t' : TS} (h : PSs X e t) (i : ∀ D σ H, t' D σ H → t D σ H) : PSs X e t' := ⟨fun pins s σ H D I q => h.run pins s σ H D I (i D σ H q)⟩

section
variable {J : Jd} {Γ : List Sl} {a b c e : Expr} {pos : Pos} {α β γ : Type} [Enc α] [Enc β] [Enc γ]

theorem ES.wp {m : R α} (h : ES J Γ e m) {σ : L2.St} {H G : Hp} {Q : VK} (S : Sat J Γ G σ H) (hw : m.wp (fun a => ∀ v G' H', Gr G H G' H' → Sat J Γ G' σ H' → Rp J.K G' v (enc a) → Q v H') (ErE J Γ σ)) : tS J Γ m σ H Q :=
  ⟨G, S, wp_mono hw (fun a k v G' H' g r => k v G' H' g (S.gr g) r) fun _ _ x => x⟩
theorem ES.val {m : R α} (h : ES J Γ e m) : EV J Γ e m := ⟨pe_wk h.pe fun σ H Q ⟨G, S, w⟩ => ⟨G, S, wp_mono w (fun a k v G' H' g r => k v G' H' g (r.ex g.gh)) fun _ _ x => x⟩⟩
/-- a value that needs no heap -/
theorem EV.scal [Scal α] {m : R α} (h : EV J Γ e m) : ES J Γ e m := ⟨pe_wk h.pe fun σ H Q ⟨G, S, w⟩ => ⟨G, S, wp_mono w (fun a k v G' H' g r => k v G' H' g (Scal.sc r)) fun _ _ x => x⟩⟩
theorem EF.st {m : R (List α)} (h : EF J Γ e m) : ES J Γ e m := ⟨pe_wk h.pe fun σ H Q ⟨G, S, w⟩ => ⟨G, S, wp_mono w (fun a k p vs G' H' g n n' hp r => by
  have eg : Ex G' (upd G' p (.lst vs)) := Ex.new n'
  exact k (.ref p) (upd G' p (.lst vs)) H' ⟨g.gg.trans eg, fun x u q => by
      by_cases hx : x = p
      · subst hx; rw [upd_same] at q; rw [← q]; exact hp
      · rw [upd_ne hx] at q; exact g.gh x u q, g.hh, fun x u q => by
      by_cases hx : x = p
      · subst hx; exact .inr n
      · rw [upd_ne hx] at q; exact g.nw x u q⟩ (Rp.lst (.inl (.inl upd_same)) (r.ex eg))) fun _ _ x => x⟩⟩
theorem ES.li {m : R (List α)} (h : ES J Γ e m) : EL J Γ e m := ⟨pe_wk h.pe fun σ H Q ⟨G, S, w⟩ => ⟨G, S, wp_mono w (fun a k v G' H' g r => by
  obtain ⟨p, vs, rfl, hs, hr⟩ := Rp.unlst r
  exact k p vs G' H' g (Evl.ex_l g.gh hs) hr) fun _ _ x => x⟩⟩
theorem EF.li {m : R (List α)} (h : EF J Γ e m) : EL J Γ e m := h.st.li
theorem EL.val {m : R (List α)} (h : EL J Γ e m) : EV J Γ e m := ⟨pe_wk h.pe fun σ H Q ⟨G, S, w⟩ => ⟨G, S, wp_mono w (fun a k p vs G' H' g hs r => k (.ref p) G' H' g (Rp.lst hs (r.ex g.gh))) fun _ _ x => x⟩⟩
theorem EA0.val {τ : Type} {es : List Expr} {m : R τ} {encs : τ → List D} (h : EA0 J Γ es m encs) : EAT0 J Γ es m encs := ⟨pa_wk h.pa fun σ H Q ⟨G, S, w⟩ => ⟨G, S, wp_mono w (fun a k v G' H' g r => k v G' H' g (r.ex g.gh)) fun _ _ x => x⟩, h.len⟩

/-! #### names, constants -/
theorem ES.name {i : Nat} {x : Str} {a : α} (hN : J.X.N[i]? = some x) (hG : Γ[i]? = some (.va (enc a))) (hv : Vis J.X.env.scope x := by first | exact Or.inl rfl | exact Or.inr (Or.inl rfl) | exact Or.inr (Or.inr rfl))
    (hd : (x == ("__debug__" : Str)) = false := by decide) (hcd : (x == ("__classdict__" : Str)) = false := by decide) : ES J Γ (.Name x pos) (.ok a) :=
  ⟨pe_wk (pe_var hN hv hd hcd) fun σ H Q ⟨G, S, w⟩ => by
    obtain ⟨v, e1, r⟩ := S.va hG
    exact ⟨v, e1, w v G H (Gr.refl S.gh) r⟩⟩
theorem EL.own {i : Nat} {x : Str} {a : List α} (hN : J.X.N[i]? = some x) (hG : Γ[i]? = some (.ow (a.map enc))) (hv : Vis J.X.env.scope x := by first | exact Or.inl rfl | exact Or.inr (Or.inl rfl) | exact Or.inr (Or.inr rfl))
    (hd : (x == ("__debug__" : Str)) = false := by decide) (hcd : (x == ("__classdict__" : Str)) = false := by decide) : EL J Γ (.Name x pos) (.ok a) :=
  ⟨pe_wk (pe_var hN hv hd hcd) fun σ H Q ⟨G, S, w⟩ => by
    obtain ⟨p, vs, e1, hp, r, _⟩ := S.ow hG
    exact ⟨.ref p, e1, w p vs G H (Gr.refl S.gh) (.inl (.inl hp)) r⟩⟩
theorem ES.int {i : Int} {j} : ES J Γ (.Constant (.int i) j pos) (.ok i) := ⟨pe_wk pe_int fun σ H Q ⟨G, S, w⟩ => w _ G H (Gr.refl S.gh) .int⟩
theorem ES.bl {i : Bool} {j} : ES J Γ (.Constant (.bool i) j pos) (.ok i) := ⟨pe_wk pe_bl fun σ H Q ⟨G, S, w⟩ => w _ G H (Gr.refl S.gh) .bl⟩
theorem ES.non {j} : ES J Γ (.Constant .none j pos) (.ok ()) := ⟨pe_wk pe_non fun σ H Q ⟨G, S, w⟩ => w _ G H (Gr.refl S.gh) .non⟩
theorem ES.noneV {j} : ES J Γ (.Constant .none j pos) (.ok (none : Option α)) := ⟨pe_wk pe_non fun σ H Q ⟨G, S, w⟩ => w _ G H (Gr.refl S.gh) .non⟩
theorem ES.someV {m : R α} (h : ES J Γ e m) : ES J Γ e (m.bind fun a => .ok (some a)) := ⟨pe_wk h.pe fun σ H Q ⟨G, S, w⟩ => ⟨G, S, wp_mono (wp_bind.mp w) (fun a k => k) fun _ _ x => x⟩⟩
/-- a value that is not None -/
def ofO (o : Option α) : R α := match o with
  | some a => .ok a
  | none => .stuck
theorem ES.getO {m : R (Option α)} (h : ES J Γ e m) : ES J Γ e (m.bind ofO) := ⟨pe_wk h.pe fun σ H Q ⟨G, S, w⟩ => ⟨G, S, wp_mono (wp_bind.mp w) (fun a k => by
  cases a with
  | none => exact k.elim
  | some a => exact k) fun _ _ x => x⟩⟩
/-- a written text -/
def TxOk (t : Tx) : Prop := ∀ c ∈ t, c < 0x110000
def TxIs (x : Str) (t : Tx) : Prop := x = txs t ∧ PyData.strOk x = true
theorem dk_str {x : Str} (h : PyData.strOk x = true) : Dk (.str x) := by unfold Dk; rw [PyData.canLay0]; exact h
theorem ES.str {x : Str} {t : Tx} {j} (h : TxIs x t) : ES J Γ (.Constant (.str x) j pos) (.ok t) := ⟨pe_wk pe_str fun σ H Q ⟨G, S, w⟩ => by
  obtain ⟨rfl, h2⟩ := h
  exact w (.str (txs t)) G H (Gr.refl S.gh) ⟨.str _, dk_str h2⟩⟩
end
/-! ### 6. operators -/
section
variable {J : Jd} {Γ : List Sl} {a b c e : Expr} {pos : Pos} {α β γ : Type} [Enc α] [Enc β] [Enc γ]
/-- two values, then an operation on them -/
theorem op2 {ta tb : TE} {m1 : R α} {m2 : R β} {f : α → β → R γ} {r : R2} (hr : ∀ (x : α) (y : β) (G H : Hp) (σ : L2.St) (v u : V) (Q : VK), Sat J Γ G σ H → Rp J.K H v (enc x) → Rp J.K H u (enc y) →
      (f x y).wp (fun z => ∀ w G' H', Gr G H G' H' → Rp J.K G' w (enc z) → Q w H') (ErE J Γ σ) → r v u H Q)
    (i1 : ∀ σ H Q, tT J Γ m1 σ H Q → ta σ H Q) (i2 : ∀ σ H Q, tT J Γ m2 σ H Q → tb σ H Q) : ∀ σ H Q, tS J Γ (m1.bind fun x => m2.bind fun y => f x y) σ H Q → tOp r ta tb σ H Q := by
  intro σ H Q ⟨G, S, w⟩
  refine i1 _ _ _ ⟨G, S, wp_mono (wp_bind.mp w) (fun x k v G1 H1 g1 r1 => ?_) fun _ _ z => z⟩
  refine i2 _ _ _ ⟨G1, S.gr g1, wp_mono (wp_bind.mp k) (fun y k2 u G2 H2 g2 r2 => ?_) fun _ _ z => z⟩
  exact hr x y G2 H2 σ v u Q (S.gr (g1.trans g2)) (r1.ex g2.hh) r2 (wp_mono k2 (fun z k3 w' G' H' g3 => k3 w' G' H' ((g1.trans g2).trans g3)) fun _ _ z => z)
theorem op2B {ta tb : TE} {m1 : R α} {m2 : R β} {f : α → β → R Bool} {r : R2} (hr : ∀ (x : α) (y : β) (G H : Hp) (σ : L2.St) (v u : V) (Q : VK), Sat J Γ G σ H → Rp J.K H v (enc x) → Rp J.K H u (enc y) →
      (f x y).wp (fun z => ∀ G' H', Gr G H G' H' → Q (.bl z) H') (ErE J Γ σ) → r v u H Q)
    (i1 : ∀ σ H Q, tT J Γ m1 σ H Q → ta σ H Q) (i2 : ∀ σ H Q, tT J Γ m2 σ H Q → tb σ H Q) : ∀ σ H Q, tB J Γ (m1.bind fun x => m2.bind fun y => f x y) σ H Q → tTest (tOp r ta tb) σ H Q := by
  intro σ H Q ⟨G, S, w⟩
  refine i1 _ _ _ ⟨G, S, wp_mono (wp_bind.mp w) (fun x k v G1 H1 g1 r1 => ?_) fun _ _ z => z⟩
  refine i2 _ _ _ ⟨G1, S.gr g1, wp_mono (wp_bind.mp k) (fun y k2 u G2 H2 g2 r2 => ?_) fun _ _ z => z⟩
  refine hr x y G2 H2 σ v u _ (S.gr (g1.trans g2)) (r1.ex g2.hh) r2 (wp_mono k2 (fun z k3 G' H' g3 => ?_) fun _ _ z => z)
  exact ⟨z, rfl, k3 G' H' ((g1.trans g2).trans g3)⟩
theorem i_id {α : Type} [Enc α] {m : R α} : ∀ σ H Q, tT J Γ m σ H Q → tT J Γ m σ H Q := fun _ _ _ x => x
theorem int2 {x y : Int} {H : Hp} {v u : V} (r1 : Rp J.K H v (enc x)) (r2 : Rp J.K H u (enc y)) : v = .int x ∧ u = .int y := ⟨Rp.unint r1, Rp.unint r2⟩
theorem ES.opI0 {op : Operator} {g : Int → Int → Int} (ho : ∀ X : Cx, OpR X (binaryOp op) (rI0 fun i j => .int (g i j))) {m1 m2 : R Int} (ha : ES J Γ a m1) (hb : ES J Γ b m2) : ES J Γ (.BinOp a op b pos) (m1.bind fun x => m2.bind fun y => .ok (g x y)) :=
  ⟨pe_wk (pe_op (ho _) ha.val.pe hb.val.pe) (op2 (f := fun x y => .ok (g x y)) (fun x y G H σ v u Q S r1 r2 w => by
    obtain ⟨rfl, rfl⟩ := int2 r1 r2
    exact ⟨x, y, rfl, rfl, w _ G H (Gr.refl S.gh) .int⟩) i_id i_id)⟩
theorem ES.add {m1 m2 : R Int} (ha : ES J Γ a m1) (hb : ES J Γ b m2) : ES J Γ (.BinOp a .Add b pos) (m1.bind fun x => m2.bind fun y => .ok (x + y)) := ES.opI0 (fun _ => op_add) ha hb
theorem ES.sub {m1 m2 : R Int} (ha : ES J Γ a m1) (hb : ES J Γ b m2) : ES J Γ (.BinOp a .Sub b pos) (m1.bind fun x => m2.bind fun y => .ok (x - y)) := ES.opI0 (fun _ => op_sub) ha hb
theorem ES.band {m1 m2 : R Int} (ha : ES J Γ a m1) (hb : ES J Γ b m2) : ES J Γ (.BinOp a .BitAnd b pos) (m1.bind fun x => m2.bind fun y => .ok (Builtin.bitAnd x y)) := ES.opI0 (fun _ => op_and) ha hb
theorem ES.opI {op : Operator} {C : Int → Int → Prop} {f : Int → Int → R Int} {g : Int → Int → Int} (ho : ∀ X : Cx, OpR X (binaryOp op) (rI C fun i j => .int (g i j))) (hf : ∀ x y, f x y = .stuck ∨ (C x y ∧ f x y = .ok (g x y))) {m1 m2 : R Int} (ha : ES J Γ a m1) (hb : ES J Γ b m2) :
    ES J Γ (.BinOp a op b pos) (m1.bind fun x => m2.bind fun y => f x y) :=
  ⟨pe_wk (pe_op (ho _) ha.val.pe hb.val.pe) (op2 (f := f) (fun x y G H σ v u Q S r1 r2 w => by
    obtain ⟨rfl, rfl⟩ := int2 r1 r2
    rcases hf x y with e | ⟨hc, e⟩
    · rw [e] at w; exact w.elim
    · rw [e] at w; exact ⟨x, y, rfl, rfl, hc, w _ G H (Gr.refl S.gh) .int⟩) i_id i_id)⟩
/-- a product: one side within 64 bits -/
noncomputable def mulM (x y : Int) : R Int := @ite _ ((-(2 ^ 64) < x ∧ x < 2 ^ 64) ∨ (-(2 ^ 64) < y ∧ y < 2 ^ 64)) (Classical.propDecidable _) (.ok (x * y)) .stuck
theorem ES.mul {m1 m2 : R Int} (ha : ES J Γ a m1) (hb : ES J Γ b m2) : ES J Γ (.BinOp a .Mult b pos) (m1.bind fun x => m2.bind fun y => mulM x y) := ES.opI (fun _ => op_mul) (fun x y => by
  unfold mulM
  by_cases h : (-(2 ^ 64) < x ∧ x < 2 ^ 64) ∨ (-(2 ^ 64) < y ∧ y < 2 ^ 64)
  · rw [if_pos h]; exact .inr ⟨h, rfl⟩
  · rw [if_neg h]; exact .inl rfl) ha hb
noncomputable def fdivM (x y : Int) : R Int := @ite _ (0 < y ∧ y < 1073741824) (Classical.propDecidable _) (.ok (x / y)) .stuck
noncomputable def modM (x y : Int) : R Int := @ite _ (0 < y) (Classical.propDecidable _) (.ok (x % y)) .stuck
noncomputable def powM (x y : Int) : R Int := @ite _ (0 ≤ y ∧ y ≤ 1000000 ∧ x.natAbs < 2 ^ 64) (Classical.propDecidable _) (.ok (x ^ y.toNat)) .stuck
noncomputable def shlM (x y : Int) : R Int := @ite _ (0 ≤ y ∧ y ≤ 1000000 ∧ x.natAbs < 2 ^ 64) (Classical.propDecidable _) (.ok (x * 2 ^ y.toNat)) .stuck
theorem if_alt {p q : Prop} {i : Decidable p} {x : α} (hq : p → q) : (@ite _ p i (R.ok x) .stuck) = .stuck ∨ (q ∧ (@ite _ p i (R.ok x) .stuck) = .ok x) := by
  by_cases h : p
  · rw [if_pos h]; exact .inr ⟨hq h, rfl⟩
  · rw [if_neg h]; exact .inl rfl
theorem ES.fdiv {m1 m2 : R Int} (ha : ES J Γ a m1) (hb : ES J Γ b m2) : ES J Γ (.BinOp a .FloorDiv b pos) (m1.bind fun x => m2.bind fun y => fdivM x y) := ES.opI (fun _ => op_fdiv) (fun x y => if_alt (p := 0 < y ∧ y < 1073741824) fun h => h) ha hb
theorem ES.mod {m1 m2 : R Int} (ha : ES J Γ a m1) (hb : ES J Γ b m2) : ES J Γ (.BinOp a .Mod b pos) (m1.bind fun x => m2.bind fun y => modM x y) := ES.opI (fun _ => op_mod) (fun _ _ => if_alt fun h => h) ha hb
theorem ES.pow {m1 m2 : R Int} (ha : ES J Γ a m1) (hb : ES J Γ b m2) : ES J Γ (.BinOp a .Pow b pos) (m1.bind fun x => m2.bind fun y => powM x y) := ES.opI (fun _ => op_pow) (fun x y => if_alt (p := 0 ≤ y ∧ y ≤ 1000000 ∧ x.natAbs < 2 ^ 64) fun h => h) ha hb
theorem ES.shl {m1 m2 : R Int} (ha : ES J Γ a m1) (hb : ES J Γ b m2) : ES J Γ (.BinOp a .LShift b pos) (m1.bind fun x => m2.bind fun y => shlM x y) := ES.opI (fun _ => op_shl) (fun x y => if_alt (p := 0 ≤ y ∧ y ≤ 1000000 ∧ x.natAbs < 2 ^ 64) fun h => h) ha hb
/-- by written numbers -/
theorem ES.opIk {op : Operator} {C : Int → Int → Prop} {g : Int → Int → Int} (ho : ∀ X : Cx, OpR X (binaryOp op) (rI C fun i j => .int (g i j))) {k : Int} (hk : ∀ x, C x k) {m1 : R Int} {j : Nat} {p : Pos} (ha : ES J Γ a m1) :
    ES J Γ (.BinOp a op (.Constant (.int k) j p) pos) (m1.bind fun x => .ok (g x k)) :=
  ⟨pe_wk (pe_op (ho _) ha.pe pe_int) fun σ H Q ⟨G, S, w⟩ => ⟨G, S, wp_mono (wp_bind.mp w) (fun x q v G1 H1 g1 r1 => by
    have e := Rp.unint r1
    subst e
    exact ⟨x, k, rfl, rfl, hk x, q _ G1 H1 g1 .int⟩) fun _ _ z => z⟩⟩
theorem ES.modk {k : Int} {m1 : R Int} {j : Nat} {p : Pos} (ha : ES J Γ a m1) (hk : 0 < k := by decide) : ES J Γ (.BinOp a .Mod (.Constant (.int k) j p) pos) (m1.bind fun x => .ok (x % k)) := ES.opIk (fun _ => op_mod) (fun _ => hk) ha
theorem ES.fdivk {k : Int} {m1 : R Int} {j : Nat} {p : Pos} (ha : ES J Γ a m1) (hk : 0 < k ∧ k < 1073741824 := by decide) : ES J Γ (.BinOp a .FloorDiv (.Constant (.int k) j p) pos) (m1.bind fun x => .ok (x / k)) := ES.opIk (fun _ => op_fdiv) (fun _ => hk) ha
theorem ES.mulk {k : Int} {m1 : R Int} {j : Nat} {p : Pos} (ha : ES J Γ a m1) (hk : -(2 ^ 64) < k ∧ k < 2 ^ 64 := by decide) : ES J Γ (.BinOp a .Mult (.Constant (.int k) j p) pos) (m1.bind fun x => .ok (x * k)) := ES.opIk (fun _ => op_mul) (fun _ => .inr hk) ha
theorem ES.kmul {k : Int} {m1 : R Int} {j : Nat} {p : Pos} (ha : ES J Γ a m1) (hk : -(2 ^ 64) < k ∧ k < 2 ^ 64 := by decide) : ES J Γ (.BinOp (.Constant (.int k) j p) .Mult a pos) (m1.bind fun x => .ok (k * x)) :=
  ⟨pe_wk (pe_op op_mul pe_int ha.pe) fun σ H Q ⟨G, S, w⟩ => ⟨G, S, wp_mono (wp_bind.mp w) (fun x q v G1 H1 g1 r1 => by
    have e := Rp.unint r1
    subst e
    exact ⟨k, x, rfl, rfl, .inl hk, q _ G1 H1 g1 .int⟩) fun _ _ z => z⟩⟩
theorem ES.neg {m1 : R Int} (ha : ES J Γ a m1) : ES J Γ (.UnaryOp .USub a pos) (m1.bind fun x => .ok (-x)) :=
  ⟨pe_wk (pe_un un_neg ha.pe) fun σ H Q ⟨G, S, w⟩ => ⟨G, S, wp_mono (wp_bind.mp w) (fun x q v G1 H1 g1 r1 => by
    have e := Rp.unint r1
    subst e
    exact ⟨x, rfl, q _ G1 H1 g1 .int⟩) fun _ _ z => z⟩⟩

/-! #### comparisons of ints -/
theorem ES.cmpI {op : CmpOp} {g : Int → Int → Bool} (ho : ∀ X : Cx, OpR X (compareOp op) (rI0 fun i j => .bl (g i j))) (hm : behindInMarks op b = false) {m1 m2 : R Int} (ha : ES J Γ a m1) (hb : ES J Γ b m2) : ES J Γ (.Compare a [op] [b] pos) (m1.bind fun x => m2.bind fun y => .ok (g x y)) :=
  ⟨pe_wk (pe_cmpR (ho _) ha.val.pe hb.val.pe hm) (op2 (f := fun x y => .ok (g x y)) (fun x y G H σ v u Q S r1 r2 w => by
    obtain ⟨rfl, rfl⟩ := int2 r1 r2
    exact ⟨x, y, rfl, rfl, w _ G H (Gr.refl S.gh) .bl⟩) i_id i_id)⟩
theorem ET.cmpI {op : CmpOp} {g : Int → Int → Bool} (ho : ∀ X : Cx, OpR X (compareOp op) (rI0 fun i j => .bl (g i j))) (hm : behindInMarks op b = false) {m1 m2 : R Int} (ha : ES J Γ a m1) (hb : ES J Γ b m2) : ET J Γ (.Compare a [op] [b] pos) (m1.bind fun x => m2.bind fun y => .ok (g x y)) :=
  ⟨pt_wk (pt_cmpR (ho _) ha.val.pe hb.val.pe hm) (op2B (f := fun x y => .ok (g x y)) (fun x y G H σ v u Q S r1 r2 w => by
    obtain ⟨rfl, rfl⟩ := int2 r1 r2
    exact ⟨x, y, rfl, rfl, w G H (Gr.refl S.gh)⟩) i_id i_id)⟩
theorem ES.lt {m1 m2 : R Int} (ha : ES J Γ a m1) (hb : ES J Γ b m2) : ES J Γ (.Compare a [.Lt] [b] pos) (m1.bind fun x => m2.bind fun y => .ok (decide (x < y))) := ES.cmpI (fun _ => op_lt) (nomark _) ha hb
theorem ES.le {m1 m2 : R Int} (ha : ES J Γ a m1) (hb : ES J Γ b m2) : ES J Γ (.Compare a [.LtE] [b] pos) (m1.bind fun x => m2.bind fun y => .ok (decide (x ≤ y))) := ES.cmpI (fun _ => op_le) (nomark _) ha hb
theorem ES.gt {m1 m2 : R Int} (ha : ES J Γ a m1) (hb : ES J Γ b m2) : ES J Γ (.Compare a [.Gt] [b] pos) (m1.bind fun x => m2.bind fun y => .ok (decide (y < x))) := ES.cmpI (fun _ => op_gt) (nomark _) ha hb
theorem ES.ge {m1 m2 : R Int} (ha : ES J Γ a m1) (hb : ES J Γ b m2) : ES J Γ (.Compare a [.GtE] [b] pos) (m1.bind fun x => m2.bind fun y => .ok (decide (y ≤ x))) := ES.cmpI (fun _ => op_ge) (nomark _) ha hb
theorem ET.lt {m1 m2 : R Int} (ha : ES J Γ a m1) (hb : ES J Γ b m2) : ET J Γ (.Compare a [.Lt] [b] pos) (m1.bind fun x => m2.bind fun y => .ok (decide (x < y))) := ET.cmpI (fun _ => op_lt) (nomark _) ha hb
theorem ET.le {m1 m2 : R Int} (ha : ES J Γ a m1) (hb : ES J Γ b m2) : ET J Γ (.Compare a [.LtE] [b] pos) (m1.bind fun x => m2.bind fun y => .ok (decide (x ≤ y))) := ET.cmpI (fun _ => op_le) (nomark _) ha hb
theorem ET.gt {m1 m2 : R Int} (ha : ES J Γ a m1) (hb : ES J Γ b m2) : ET J Γ (.Compare a [.Gt] [b] pos) (m1.bind fun x => m2.bind fun y => .ok (decide (y < x))) := ET.cmpI (fun _ => op_gt) (nomark _) ha hb
theorem ET.ge {m1 m2 : R Int} (ha : ES J Γ a m1) (hb : ES J Γ b m2) : ET J Γ (.Compare a [.GtE] [b] pos) (m1.bind fun x => m2.bind fun y => .ok (decide (y ≤ x))) := ET.cmpI (fun _ => op_ge) (nomark _) ha hb
/-! #### == and != of data -/
theorem shaped_of {x : α} [EncDep α] (hd : dep α ≤ 64) {K : PySem.W.Frag} {H : Hp} {v : V} (r : Rp K H v (enc x)) : SeqAt.shaped (enc x) = true := by
  unfold SeqAt.shaped
  rw [show (enc x).canLay0 = true from r.dk]
  have := hdep x
  simp only [Bool.true_and, decide_eq_true_eq]
  omega
theorem ES.eq [DecidableEq α] [EncEq α] [EncDep α] (hu : J.X.A.units + 64 < cLine) {m1 m2 : R α} (ha : EV J Γ a m1) (hb : EV J Γ b m2) (hd : dep α ≤ 64 := by decide) : ES J Γ (.Compare a [.Eq] [b] pos) (m1.bind fun x => m2.bind fun y => .ok (decide (x = y))) :=
  ⟨pe_wk (pe_cmpR (op_eqD hu) ha.pe hb.pe (nomark _)) (op2 (f := fun x y => .ok (decide (x = y))) (fun x y G H σ v u Q S r1 r2 w =>
    ⟨enc x, enc y, r1.dp, r2.dp, shaped_of hd r1, shaped_of hd r2, w (.bl (PyData.eqv (enc x) (enc y))) G H (Gr.refl S.gh) (by rw [EncEq.eqv]; exact .bl)⟩) i_id i_id)⟩
theorem ET.eq [DecidableEq α] [EncEq α] [EncDep α] (hu : J.X.A.units + 64 < cLine) {m1 m2 : R α} (ha : EV J Γ a m1) (hb : EV J Γ b m2) (hd : dep α ≤ 64 := by decide) : ET J Γ (.Compare a [.Eq] [b] pos) (m1.bind fun x => m2.bind fun y => .ok (decide (x = y))) :=
  ⟨pt_wk (pt_cmpR (op_eqD hu) ha.pe hb.pe (nomark _)) (op2B (f := fun x y => .ok (decide (x = y))) (fun x y G H σ v u Q S r1 r2 w =>
    ⟨enc x, enc y, r1.dp, r2.dp, shaped_of hd r1, shaped_of hd r2, by rw [EncEq.eqv]; exact w G H (Gr.refl S.gh)⟩) i_id i_id)⟩
theorem ES.ne [DecidableEq α] [EncEq α] [EncDep α] (hu : J.X.A.units + 64 < cLine) {m1 m2 : R α} (ha : EV J Γ a m1) (hb : EV J Γ b m2) (hd : dep α ≤ 64 := by decide) : ES J Γ (.Compare a [.NotEq] [b] pos) (m1.bind fun x => m2.bind fun y => .ok (!decide (x = y))) :=
  ⟨pe_wk (pe_cmpR (op_neD hu) ha.pe hb.pe (nomark _)) (op2 (f := fun x y => .ok (!decide (x = y))) (fun x y G H σ v u Q S r1 r2 w =>
    ⟨enc x, enc y, r1.dp, r2.dp, shaped_of hd r1, shaped_of hd r2, w (.bl (!PyData.eqv (enc x) (enc y))) G H (Gr.refl S.gh) (by rw [EncEq.eqv]; exact .bl)⟩) i_id i_id)⟩
theorem ET.ne [DecidableEq α] [EncEq α] [EncDep α] (hu : J.X.A.units + 64 < cLine) {m1 m2 : R α} (ha : EV J Γ a m1) (hb : EV J Γ b m2) (hd : dep α ≤ 64 := by decide) : ET J Γ (.Compare a [.NotEq] [b] pos) (m1.bind fun x => m2.bind fun y => .ok (!decide (x = y))) :=
  ⟨pt_wk (pt_cmpR (op_neD hu) ha.pe hb.pe (nomark _)) (op2B (f := fun x y => .ok (!decide (x = y))) (fun x y G H σ v u Q S r1 r2 w =>
    ⟨enc x, enc y, r1.dp, r2.dp, shaped_of hd r1, shaped_of hd r2, by rw [EncEq.eqv]; exact w G H (Gr.refl S.gh)⟩) i_id i_id)⟩
/-- is None -/
theorem isn {x : Option α} [EncNN α] {K : PySem.W.Frag} {H : Hp} {v : V} (r : Rp K H v (enc x)) : decide (v = .non) = x.isNone := by
  cases x with
  | none => have e := Rp.unnon r; subst e; rfl
  | some x =>
    rw [Option.isNone_some, decide_eq_false_iff_not]
    intro e
    subst e
    have h := r.dp
    have h1 : enc x = .none := by
      have h2 : Dp K H .non (enc x) := h
      cases h3 : enc x with
      | none => rfl
      | _ => rw [h3] at h2; cases h2
    have h2 := (EncNN.nn x).1
    rw [h1] at h2
    cases h2
theorem ES.isN [EncNN α] {m : R (Option α)} {j : Nat} {p : Pos} (h : EV J Γ a m) : ES J Γ (.Compare a [.Is] [.Constant .none j p] pos) (m.bind fun x => .ok x.isNone) :=
  ⟨pe_wk (pe_cmpR op_isN h.pe pe_non (nomark _)) fun σ H Q ⟨G, S, w⟩ => ⟨G, S, wp_mono (wp_bind.mp w) (fun x k v G' H' g r => ⟨rfl, by rw [isn r]; exact k _ G' H' g .bl⟩) fun _ _ z => z⟩⟩
theorem ET.isN [EncNN α] {m : R (Option α)} {j : Nat} {p : Pos} (h : EV J Γ a m) : ET J Γ (.Compare a [.Is] [.Constant .none j p] pos) (m.bind fun x => .ok x.isNone) :=
  ⟨pt_wk (pt_cmpR op_isN h.pe pe_non (nomark _)) fun σ H Q ⟨G, S, w⟩ => ⟨G, S, wp_mono (wp_bind.mp w) (fun x k v G' H' g r => ⟨rfl, _, rfl, by rw [isn r]; exact k G' H' g⟩) fun _ _ z => z⟩⟩
theorem ES.notN [EncNN α] {m : R (Option α)} {j : Nat} {p : Pos} (h : EV J Γ a m) : ES J Γ (.Compare a [.IsNot] [.Constant .none j p] pos) (m.bind fun x => .ok (!x.isNone)) :=
  ⟨pe_wk (pe_cmpR op_notN h.pe pe_non (nomark _)) fun σ H Q ⟨G, S, w⟩ => ⟨G, S, wp_mono (wp_bind.mp w) (fun x k v G' H' g r => ⟨rfl, by rw [isn r]; exact k _ G' H' g .bl⟩) fun _ _ z => z⟩⟩
theorem ET.notN [EncNN α] {m : R (Option α)} {j : Nat} {p : Pos} (h : EV J Γ a m) : ET J Γ (.Compare a [.IsNot] [.Constant .none j p] pos) (m.bind fun x => .ok (!x.isNone)) :=
  ⟨pt_wk (pt_cmpR op_notN h.pe pe_non (nomark _)) fun σ H Q ⟨G, S, w⟩ => ⟨G, S, wp_mono (wp_bind.mp w) (fun x k v G' H' g r => ⟨rfl, _, rfl, by rw [isn r]; exact k G' H' g⟩) fun _ _ z => z⟩⟩
/-! #### tests -/
/-- a bool as a test -/
theorem ET.val {m : R Bool} (h : ES J Γ e m) (he : ∀ whole, isTrue e J.X.env whole = (do let v ← whole; standAt e.pos; holding [v] (truthy v)) := by intro _; rfl) : ET J Γ e m :=
  ⟨pt_wk (pt_val h.pe he) fun σ H Q ⟨G, S, w⟩ => ⟨G, S, wp_mono w (fun x k v G' H' g r => by
    have e := Rp.unbl r
    subst e
    exact ⟨x, rfl, k G' H' g⟩) fun _ _ z => z⟩⟩
theorem ET.not {m : R Bool} (h : ET J Γ a m) : ET J Γ (.UnaryOp .Not a pos) (m.bind fun x => .ok (!x)) :=
  ⟨pt_wk (pt_not h.pt) fun σ H Q ⟨G, S, w⟩ => ⟨G, S, wp_mono (wp_bind.mp w) (fun x k G' H' g => k G' H' g) fun _ _ z => z⟩⟩
/-- several joined by and, or -/
structure EW (J : Jd) (Γ : List Sl) (e : Expr) (m : R Bool) : Prop where
  pw : PW J.X e (tB J Γ m)
theorem EW.et {m : R Bool} (h : EW J Γ e m) : ET J Γ e m := ⟨h.pw.pt⟩
theorem EW.and1 {m : R Bool} (h : ET J Γ a m) : EW J Γ (.BoolOp .And [a] pos) m := ⟨pw_and1 h.pt⟩
theorem EW.or1 {m : R Bool} (h : ET J Γ a m) : EW J Γ (.BoolOp .Or [a] pos) m := ⟨pw_or1 h.pt⟩
variable {rest : List Expr}
theorem EW.and {m1 m2 : R Bool} (ha : ET J Γ a m1) (hb : EW J Γ (.BoolOp .And (b :: rest) pos) m2) : EW J Γ (.BoolOp .And (a :: b :: rest) pos) (m1.bind fun x => if x = true then m2 else .ok false) :=
  ⟨pw_wk (pw_and ha.pt hb.pw) fun σ H Q ⟨G, S, w⟩ => ⟨G, S, wp_mono (wp_bind.mp w) (fun x k G' H' g => by
    cases x with
    | true => exact ⟨G', S.gr g, wp_mono k (fun y k2 G2 H2 g2 => k2 G2 H2 (g.trans g2)) fun _ _ z => z⟩
    | false => exact k G' H' g) fun _ _ z => z⟩⟩
theorem EW.or {m1 m2 : R Bool} (ha : ET J Γ a m1) (hb : EW J Γ (.BoolOp .Or (b :: rest) pos) m2) : EW J Γ (.BoolOp .Or (a :: b :: rest) pos) (m1.bind fun x => if x = true then .ok true else m2) :=
  ⟨pw_wk (pw_or ha.pt hb.pw) fun σ H Q ⟨G, S, w⟩ => ⟨G, S, wp_mono (wp_bind.mp w) (fun x k G' H' g => by
    cases x with
    | false => exact ⟨G', S.gr g, wp_mono k (fun y k2 G2 H2 g2 => k2 G2 H2 (g.trans g2)) fun _ _ z => z⟩
    | true => exact k G' H' g) fun _ _ z => z⟩⟩
theorem and_pure {x y : Bool} : (if x = true then R.ok y else R.ok false) = R.ok (x && y) := by cases x <;> rfl
theorem or_pure {x y : Bool} : (if x = true then R.ok true else R.ok y) = R.ok (x || y) := by cases x <;> rfl
theorem if_pure {x : Bool} {y z : α} : (if x = true then R.ok y else R.ok z) = R.ok (if x = true then y else z) := by cases x <;> rfl
theorem EW.andP {m1 : R Bool} {y : Bool} (ha : ET J Γ a m1) (hb : EW J Γ (.BoolOp .And (b :: rest) pos) (.ok y)) : EW J Γ (.BoolOp .And (a :: b :: rest) pos) (m1.bind fun x => .ok (x && y)) := by
  have h := EW.and ha hb
  simp only [and_pure] at h
  exact h
theorem EW.orP {m1 : R Bool} {y : Bool} (ha : ET J Γ a m1) (hb : EW J Γ (.BoolOp .Or (b :: rest) pos) (.ok y)) : EW J Γ (.BoolOp .Or (a :: b :: rest) pos) (m1.bind fun x => .ok (x || y)) := by
  have h := EW.or ha hb
  simp only [or_pure] at h
  exact h
/-- .. as values -/
theorem ES.one {op} {m : R Bool} (h : ES J Γ a m) : ES J Γ (.BoolOp op [a] pos) m := ⟨pe_one h.pe⟩
theorem ES.and {m1 m2 : R Bool} (ha : ES J Γ a m1) (hb : ES J Γ (.BoolOp .And (b :: rest) pos) m2) : ES J Γ (.BoolOp .And (a :: b :: rest) pos) (m1.bind fun x => if x = true then m2 else .ok false) :=
  ⟨pe_wk (pe_and ha.pe hb.pe) fun σ H Q ⟨G, S, w⟩ => ⟨G, S, wp_mono (wp_bind.mp w) (fun x k v G' H' g r => by
    have e := Rp.unbl r
    subst e
    refine ⟨x, rfl, ?_⟩
    cases x with
    | true => exact ⟨G', S.gr g, wp_mono k (fun y k2 v G2 H2 g2 => k2 v G2 H2 (g.trans g2)) fun _ _ z => z⟩
    | false => exact k _ G' H' g .bl) fun _ _ z => z⟩⟩
theorem ES.or {m1 m2 : R Bool} (ha : ES J Γ a m1) (hb : ES J Γ (.BoolOp .Or (b :: rest) pos) m2) : ES J Γ (.BoolOp .Or (a :: b :: rest) pos) (m1.bind fun x => if x = true then .ok true else m2) :=
  ⟨pe_wk (pe_or ha.pe hb.pe) fun σ H Q ⟨G, S, w⟩ => ⟨G, S, wp_mono (wp_bind.mp w) (fun x k v G' H' g r => by
    have e := Rp.unbl r
    subst e
    refine ⟨x, rfl, ?_⟩
    cases x with
    | false => exact ⟨G', S.gr g, wp_mono k (fun y k2 v G2 H2 g2 => k2 v G2 H2 (g.trans g2)) fun _ _ z => z⟩
    | true => exact k _ G' H' g .bl) fun _ _ z => z⟩⟩
theorem ES.andP {m1 : R Bool} {y : Bool} (ha : ES J Γ a m1) (hb : ES J Γ (.BoolOp .And (b :: rest) pos) (.ok y)) : ES J Γ (.BoolOp .And (a :: b :: rest) pos) (m1.bind fun x => .ok (x && y)) := by
  have h := ES.and ha hb
  simp only [and_pure] at h
  exact h
theorem ES.orP {m1 : R Bool} {y : Bool} (ha : ES J Γ a m1) (hb : ES J Γ (.BoolOp .Or (b :: rest) pos) (.ok y)) : ES J Γ (.BoolOp .Or (a :: b :: rest) pos) (m1.bind fun x => .ok (x || y)) := by
  have h := ES.or ha hb
  simp only [or_pure] at h
  exact h
theorem ES.not {m : R Bool} (h : ES J Γ a m) : ES J Γ (.UnaryOp .Not a pos) (m.bind fun x => .ok (!x)) :=
  ⟨pe_wk (pe_not h.pe) fun σ H Q ⟨G, S, w⟩ => ⟨G, S, wp_mono (wp_bind.mp w) (fun x k v G' H' g r => by
    have e := Rp.unbl r
    subst e
    exact ⟨x, rfl, k _ G' H' g .bl⟩) fun _ _ z => z⟩⟩
theorem ES.ifExp {mc : R Bool} {m1 m2 : R α} (hc : ET J Γ c mc) (ha : ES J Γ a m1) (hb : ES J Γ b m2) : ES J Γ (.IfExp c a b pos) (mc.bind fun x => if x = true then m1 else m2) :=
  ⟨pe_wk (pe_ifExp hc.pt ha.pe hb.pe) fun σ H Q ⟨G, S, w⟩ => ⟨G, S, wp_mono (wp_bind.mp w) (fun x k G' H' g => by
    cases x with
    | true => exact ⟨G', S.gr g, wp_mono k (fun y k2 v G2 H2 g2 => k2 v G2 H2 (g.trans g2)) fun _ _ z => z⟩
    | false => exact ⟨G', S.gr g, wp_mono k (fun y k2 v G2 H2 g2 => k2 v G2 H2 (g.trans g2)) fun _ _ z => z⟩) fun _ _ z => z⟩⟩
theorem ES.ifExpP {mc : R Bool} {y z : α} (hc : ET J Γ c mc) (ha : ES J Γ a (.ok y)) (hb : ES J Γ b (.ok z)) : ES J Γ (.IfExp c a b pos) (mc.bind fun x => .ok (if x = true then y else z)) := by
  have h := ES.ifExp (pos := pos) hc ha hb
  simp only [if_pure] at h
  exact h
end
/-! ### 7. displays, items, slices, calls -/
section
variable {J : Jd} {Γ : List Sl} {a b c e : Expr} {es : List Expr} {pos p p2 : Pos} {α β γ τ : Type} [Enc α] [Enc β] [Enc γ] {x : Str}
theorem EA0.nil : EA0 J Γ [] (.ok ()) (fun _ => []) := ⟨pa_wk pa_nil fun σ H Q ⟨G, S, w⟩ => w [] G H (Gr.refl S.gh) .nil, fun _ => rfl⟩
theorem EA0.cons {m1 : R α} {m2 : R τ} {encs : τ → List D} (h : ES J Γ e m1) (hs : EA0 J Γ es m2 encs) (hst : starEach (e :: es) J.X.env = (false, eval e J.X.env) :: starEach es J.X.env := by rfl) :
    EA0 J Γ (e :: es) (m1.bind fun a => m2.bind fun t => .ok (a, t)) (fun t => enc t.1 :: encs t.2) := ⟨pa_wk (pa_cons h.pe hs.pa hst) fun σ H Q ⟨G, S, w⟩ => ⟨G, S, wp_mono (wp_bind.mp w) (fun x k v G1 H1 g1 r1 =>
      ⟨G1, S.gr g1, wp_mono (wp_bind.mp k) (fun t k2 vs G2 H2 g2 r2 => k2 (v :: vs) G2 H2 (g1.trans g2) (.cons (r1.ex g2.gg) r2)) fun _ _ z => z⟩) fun _ _ z => z⟩, fun t => by rw [List.length_cons, List.length_cons, hs.len]⟩
theorem EAT0.nil : EAT0 J Γ [] (.ok ()) (fun _ => []) := EA0.nil.val
theorem EAT0.cons {m1 : R α} {m2 : R τ} {encs : τ → List D} (h : EV J Γ e m1) (hs : EAT0 J Γ es m2 encs) (hst : starEach (e :: es) J.X.env = (false, eval e J.X.env) :: starEach es J.X.env := by rfl) :
    EAT0 J Γ (e :: es) (m1.bind fun a => m2.bind fun t => .ok (a, t)) (fun t => enc t.1 :: encs t.2) := ⟨pa_wk (pa_cons h.pe hs.pa hst) fun σ H Q ⟨G, S, w⟩ => ⟨G, S, wp_mono (wp_bind.mp w) (fun x k v G1 H1 g1 r1 =>
      ⟨G1, S.gr g1, wp_mono (wp_bind.mp k) (fun t k2 vs G2 H2 g2 r2 => k2 (v :: vs) G2 H2 (g1.trans g2) (.cons (r1.ex g2.hh) r2)) fun _ _ z => z⟩) fun _ _ z => z⟩, fun t => by rw [List.length_cons, List.length_cons, hs.len]⟩
theorem sz1000 {n : Nat} (h : n ≤ 1000) : n ≤ sizeLine := Nat.le_trans h (by decide)
theorem ES.tup0 {m : R τ} {encs : τ → List D} {k} (h : EA0 J Γ es m encs) (f : τ → α) (hf : ∀ t, enc (f t) = .tuple (encs t) := by intro _; rfl) (hl : es.length ≤ 1000 := by exact Nat.le_of_ble_eq_true rfl) : ES J Γ (.Tuple es k pos) (m.bind fun t => .ok (f t)) :=
  ⟨pe_wk (pe_tup h.pa) fun σ H Q ⟨G, S, w⟩ => ⟨G, S, wp_mono (wp_bind.mp w) (fun t k vs G' H' g r => ⟨sz1000 (by rw [r.length, h.len]; exact hl), fun p hp => by
    have eg := Gr.new (o := .tup vs) g.gh hp
    exact k (.ref p) _ _ (g.trans eg) (by rw [hf]; exact Rp.tup (.inl (.inl upd_same)) (r.ex eg.gg))⟩) fun _ _ z => z⟩⟩
theorem EF.lst0 {m : R τ} {encs : τ → List D} (h : EA0 J Γ es m encs) (f : τ → List α) (hf : ∀ t, (f t).map enc = encs t := by intro _; rfl) (hl : es.length ≤ 1000 := by exact Nat.le_of_ble_eq_true rfl) : EF J Γ (.List es pos) (m.bind fun t => .ok (f t)) :=
  ⟨pe_wk (pe_lst h.pa) fun σ H Q ⟨G, S, w⟩ => ⟨G, S, wp_mono (wp_bind.mp w) (fun t k vs G' H' g r => ⟨sz1000 (by rw [r.length, h.len]; exact hl), fun p hp => by
    have eg := Gr.loose (o := .lst vs) g.gh hp
    exact k p vs G' _ (g.trans eg) (ex_none g.hh hp) (ex_none g.gh hp) upd_same (by rw [hf]; exact r)⟩) fun _ _ z => z⟩⟩
theorem EF.nil : EF J Γ (.List [] pos) (.ok ([] : List α)) := EF.lst0 (m := .ok ()) EA0.nil (fun _ => [])
/-! #### items -/
def ixM {α : Type} (xs : List α) (i : Int) : R α := match atI xs i with
  | some a => .ok a
  | none => .stuck
theorem atI_rp {K : PySem.W.Frag} {H : Hp} {vs : List V} {ds : List D} {i : Int} {d : D} (r : RpA K H vs ds) (h : atI ds i = some d) : ∃ v, atI vs i = some v ∧ Rp K H v d := by
  unfold atI at h ⊢
  rw [r.length]
  cases q : ixN ds.length i with
  | none => rw [q] at h; cases h
  | some j => rw [q] at h; exact r.get (i := j) h
theorem atI_map {α β : Type} {f : α → β} {xs : List α} {i : Int} : atI (xs.map f) i = (atI xs i).map f := by
  unfold atI
  rw [List.length_map]
  cases ixN xs.length i with
  | none => rfl
  | some j => simp
theorem ixM_wp {α : Type} {xs : List α} {i : Int} {Q : α → Prop} {E : Nat → Option Int → Prop} (h : (ixM xs i).wp Q E) : ∃ a, atI xs i = some a ∧ Q a := by
  unfold ixM at h
  cases q : atI xs i with
  | none => rw [q] at h; exact h.elim
  | some a => rw [q] at h; exact ⟨a, rfl, h⟩
theorem ES.ix {m1 : R (List α)} {m2 : R Int} (ha : EL J Γ a m1) (hb : ES J Γ b m2) (hs : PlainIx b := by intro _ _; rfl) : ES J Γ (.Subscript a b pos) (m1.bind fun xs => m2.bind fun i => ixM xs i) :=
  ⟨pe_wk (pe_ix ix_list ha.pe hb.pe hs) fun σ H Q ⟨G, S, w⟩ => ⟨G, S, wp_mono (wp_bind.mp w) (fun xs k p vs G1 H1 g1 hl r1 => ⟨G1, S.gr g1, wp_mono (wp_bind.mp k) (fun i k2 v G2 H2 g2 r2 => by
    obtain ⟨z, hz, k3⟩ := ixM_wp k2
    have e := Rp.unint r2
    subst e
    obtain ⟨v, hv, rv⟩ := atI_rp (r1.ex g2.gg) (show atI (xs.map enc) i = some (enc z) by rw [atI_map, hz]; rfl)
    exact ⟨p, vs, i, v, rfl, rfl, Evl.ex_l g2.hh hl, hv, k3 v G2 H2 (g1.trans g2) rv⟩) fun _ _ z => z⟩) fun _ _ z => z⟩⟩
/-- an item of a tuple of a known kind at a written place -/
theorem ES.it {m : R α} {k : Int} {j : Nat} (ha : ES J Γ a m) (f : α → β) (hf : ∀ t, ∃ ds, enc t = .tuple ds ∧ atI ds k = some (enc (f t)) := by intro _; exact ⟨_, rfl, rfl⟩) : ES J Γ (.Subscript a (.Constant (.int k) j p) pos) (m.bind fun t => .ok (f t)) :=
  ⟨pe_wk (pe_ix ix_tup ha.pe pe_int (fun _ _ => rfl)) fun σ H Q ⟨G, S, w⟩ => ⟨G, S, wp_mono (wp_bind.mp w) (fun t q v G1 H1 g1 r1 => by
    obtain ⟨ds, e1, e2⟩ := hf t
    rw [e1] at r1
    obtain ⟨p, vs, rfl, ht, r2⟩ := r1.untup
    obtain ⟨v, hv, rv⟩ := atI_rp r2 e2
    exact ⟨p, vs, k, v, rfl, rfl, Evl.ex_t g1.gh ht, hv, q v G1 H1 g1 rv⟩) fun _ _ z => z⟩⟩
/-- a sign of a text -/
noncomputable def ixTxM (t : Tx) (i : Int) : R Tx := @ite _ (t.length ≤ 16777216) (Classical.propDecidable _) (match atI t i with
  | some c => .ok [c]
  | none => .stuck) .stuck
theorem txs_length {t : Tx} : (txs t).length = t.length := by show t.toArray.size = _; simp
theorem txs_cps {t : Tx} : (txs t).cps.toList = t := by show t.toArray.toList = _; simp
theorem txok_iff {t : Tx} : PyData.strOk (txs t) = true ↔ TxOk t := by
  unfold PyData.strOk TxOk
  show (t.toArray.all fun c => decide (c < 1114112)) = true ↔ _
  rw [List.all_toArray, List.all_eq_true]
  simp
theorem rp_tx {K : PySem.W.Frag} {H : Hp} {v : V} {t : Tx} (r : Rp K H v (enc t)) : v = .str (txs t) ∧ TxOk t := ⟨Rp.unstr r, by
  have h := r.dk
  have h2 : Dk (.str (txs t)) := h
  unfold Dk at h2
  rw [PyData.canLay0] at h2
  exact txok_iff.mp h2⟩
theorem Rp.tx {K : PySem.W.Frag} {H : Hp} {t : Tx} (h : TxOk t) : Rp K H (.str (txs t)) (enc t) := ⟨.str _, dk_str (txok_iff.mpr h)⟩
theorem szl {n : Nat} : n ≤ sizeLine ↔ n ≤ 16777216 := by rw [sizeLine_eq]
theorem szlt {n : Nat} : n < sizeLine ↔ n < 16777216 := by rw [sizeLine_eq]
theorem ES.ixTx {m1 : R Tx} {m2 : R Int} (ha : ES J Γ a m1) (hb : ES J Γ b m2) (hs : PlainIx b := by intro _ _; rfl) : ES J Γ (.Subscript a b pos) (m1.bind fun xs => m2.bind fun i => ixTxM xs i) :=
  ⟨pe_wk (pe_ix ix_str ha.val.pe hb.val.pe hs) (op2 (f := ixTxM) (fun t i G H σ v u Q S r1 r2 w => by
    obtain ⟨rfl, ok⟩ := rp_tx r1
    have e := Rp.unint r2
    subst e
    unfold ixTxM at w
    by_cases hz : t.length ≤ 16777216
    · rw [if_pos hz] at w
      cases q : atI t i with
      | none => rw [q] at w; exact w.elim
      | some c =>
        rw [q] at w
        refine ⟨txs t, i, c, rfl, rfl, by rw [txs_length]; exact szl.mpr hz, by rw [txs_cps]; exact q, w _ G H (Gr.refl S.gh) (Rp.tx (t := [c]) fun x hx => ?_)⟩
        rw [List.mem_singleton] at hx
        subst hx
        obtain ⟨j, _, h2, _⟩ := atI_get q
        exact ok _ (List.mem_of_getElem? h2)
    · rw [if_neg hz] at w; exact w.elim) i_id i_id)⟩
/-! #### slices -/
def tO (J : Jd) (Γ : List Sl) (m : R (Option Int)) : TO := fun σ H Q => ∃ G, Sat J Γ G σ H ∧ m.wp (fun o => ∀ G' H', Gr G H G' H' → Q o H') (ErE J Γ σ)
structure EO (J : Jd) (Γ : List Sl) (e : Option Expr) (m : R (Option Int)) : Prop where
  po : PO J.X e (tO J Γ m)
theorem po_wk {X : Cx} {e : Option Expr} {t t' : TO} (h : PO X e t) (i : ∀ σ H Q, t' σ H Q → t σ H Q) : PO X e t' := ⟨fun pins s σ H Q I q => h.run pins s σ H Q I (i σ H Q q)⟩
theorem EO.nn : EO J Γ none (.ok none) := ⟨po_wk po_none fun σ H Q ⟨G, S, w⟩ => w G H (Gr.refl S.gh)⟩
theorem EO.sm {m : R Int} (h : ES J Γ e m) : EO J Γ (some e) (m.bind fun i => .ok (some i)) := ⟨po_wk (po_some h.pe) fun σ H Q ⟨G, S, w⟩ => ⟨G, S, wp_mono (wp_bind.mp w) (fun i k v G' H' g r => by
  have e := Rp.unint r
  subst e
  exact ⟨i, rfl, k G' H' g⟩) fun _ _ z => z⟩⟩
/-- xs[lo:hi] -/
def cutL {α : Type} (xs : List α) (lo hi : Option Int) : List α := (xs.drop (HT.sIx xs.length 0 lo)).take (HT.sIx xs.length xs.length hi - HT.sIx xs.length 0 lo)
theorem cutL_map {α β : Type} {f : α → β} {xs : List α} {lo hi : Option Int} : cutL (xs.map f) lo hi = (cutL xs lo hi).map f := by
  unfold cutL
  rw [List.length_map, List.map_take, List.map_drop]
theorem EF.slice {m : R (List α)} {lo hi : Option Expr} {ml mh : R (Option Int)} (ha : EL J Γ a m) (hl : EO J Γ lo ml) (hh : EO J Γ hi mh) : EF J Γ (.Subscript a (.Slice lo hi none p2) pos) (m.bind fun xs => ml.bind fun l => mh.bind fun h => .ok (cutL xs l h)) :=
  ⟨pe_wk (pe_slice sl_list ha.pe hl.po hh.po) fun σ H Q ⟨G, S, w⟩ => ⟨G, S, wp_mono (wp_bind.mp w) (fun xs k p vs G1 H1 g1 hq r1 => ⟨G1, S.gr g1, wp_mono (wp_bind.mp k) (fun l k2 G2 H2 g2 => ⟨G2, S.gr (g1.trans g2), wp_mono (wp_bind.mp k2) (fun h k3 G3 H3 g3 =>
    ⟨p, vs, rfl, Evl.ex_l (g2.hh.trans g3.hh) hq, fun q nq => by
      have g := g1.trans (g2.trans g3)
      have eg := Gr.loose (o := .lst (cutV vs l h)) g3.gh nq
      refine k3 q _ G3 _ (g.trans eg) (ex_none g.hh nq) (ex_none g.gh nq) upd_same ?_
      rw [← cutL_map]
      unfold cutV cutL
      rw [r1.length]
      exact ((r1.ex (g2.gg.trans g3.gg)).drop _).take _⟩) fun _ _ z => z⟩) fun _ _ z => z⟩) fun _ _ z => z⟩⟩
noncomputable def sliceTxM (t : Tx) (l h : Option Int) : R Tx := @ite _ (t.length ≤ 16777216) (Classical.propDecidable _) (.ok (cutL t l h)) .stuck
theorem ES.sliceTx {m : R Tx} {lo hi : Option Expr} {ml mh : R (Option Int)} (ha : ES J Γ a m) (hl : EO J Γ lo ml) (hh : EO J Γ hi mh) : ES J Γ (.Subscript a (.Slice lo hi none p2) pos) (m.bind fun t => ml.bind fun l => mh.bind fun h => sliceTxM t l h) :=
  ⟨pe_wk (pe_slice sl_str ha.pe hl.po hh.po) fun σ H Q ⟨G, S, w⟩ => ⟨G, S, wp_mono (wp_bind.mp w) (fun t k v G1 H1 g1 r1 => ⟨G1, S.gr g1, wp_mono (wp_bind.mp k) (fun l k2 G2 H2 g2 => ⟨G2, S.gr (g1.trans g2), wp_mono (wp_bind.mp k2) (fun h k3 G3 H3 g3 => by
    obtain ⟨rfl, ok⟩ := rp_tx r1
    have g := g1.trans (g2.trans g3)
    unfold sliceTxM at k3
    by_cases hz : t.length ≤ 16777216
    · rw [if_pos hz] at k3
      refine ⟨txs t, rfl, by rw [txs_length]; exact szl.mpr hz, ?_⟩
      have e : cutS (txs t) l h = txs (cutL t l h) := by unfold cutS cutL; rw [txs_cps, txs_length]; rfl
      rw [e]
      exact k3 _ G3 H3 g (Rp.tx fun c hc => ok c (List.mem_of_mem_drop (List.mem_of_mem_take hc)))
    · rw [if_neg hz] at k3; exact k3.elim) fun _ _ z => z⟩) fun _ _ z => z⟩) fun _ _ z => z⟩⟩
/-! #### len, in -/
theorem ES.len {m : R (List α)} (h : EL J Γ a m) (hm : J.X.mg "len" = none) (hg : Gl J.X "len" := by rfl) (he : starEach [a] J.X.env = (false, eval a J.X.env) :: starEach [] J.X.env := by rfl) : ES J Γ (.Call (.Name "len" p) [a] [] pos) (m.bind fun xs => .ok (xs.length : Int)) :=
  ⟨pe_wk (pe_callB call_len_seq hg hm PySem.boot_len (pa_cons h.pe pa_nil he) (he := he)) fun σ H Q ⟨G, S, w⟩ => ⟨G, S, wp_mono (wp_bind.mp w) (fun xs k q vs G' H' g hl r => ⟨q, vs, rfl, .inl hl, by
    rw [r.length, List.length_map]
    exact k _ G' H' g .int⟩) fun _ _ z => z⟩⟩
noncomputable def lenTxM (t : Tx) : R Int := @ite _ (t.length ≤ 16777216) (Classical.propDecidable _) (.ok (t.length : Int)) .stuck
theorem ES.lenTx {m : R Tx} (h : ES J Γ a m) (hm : J.X.mg "len" = none) (hg : Gl J.X "len" := by rfl) (he : starEach [a] J.X.env = (false, eval a J.X.env) :: starEach [] J.X.env := by rfl) : ES J Γ (.Call (.Name "len" p) [a] [] pos) (m.bind lenTxM) :=
  ⟨pe_wk (pe_callB call_len_str hg hm PySem.boot_len (pa_cons h.pe pa_nil he) (he := he)) fun σ H Q ⟨G, S, w⟩ => ⟨G, S, wp_mono (wp_bind.mp w) (fun t k v G' H' g r => by
    obtain ⟨rfl, ok⟩ := rp_tx r
    unfold lenTxM at k
    by_cases hz : t.length ≤ 16777216
    · rw [if_pos hz] at k
      exact ⟨txs t, rfl, by rw [txs_length]; exact szl.mpr hz, by rw [txs_length]; exact k _ G' H' g .int⟩
    · rw [if_neg hz] at k; exact k.elim) fun _ _ z => z⟩⟩
theorem any_eqv [DecidableEq α] [EncEq α] {x : α} {xs : List α} : ((xs.map enc).any fun z => PyData.eqv z (enc x)) = decide (x ∈ xs) := by
  rw [List.any_map, Bool.eq_iff_iff, List.any_eq_true, decide_eq_true_iff]
  constructor
  · rintro ⟨y, h1, h2⟩
    have h3 : PyData.eqv (enc y) (enc x) = true := h2
    rw [EncEq.eqv, decide_eq_true_iff] at h3
    subst h3; exact h1
  · intro h
    exact ⟨x, h, by show PyData.eqv (enc x) (enc x) = true; rw [EncEq.eqv]; simp⟩
variable [DecidableEq α] [EncEq α] [EncDep α]
theorem ET.inL (hu : J.X.A.units + 65 < cLine) {m1 : R α} {m2 : R (List α)} (ha : EV J Γ a m1) (hb : EV J Γ b m2) (hm : behindInMarks .In b = false := by rfl) (hd : dep (List α) ≤ 64 := by decide) : ET J Γ (.Compare a [.In] [b] pos) (m1.bind fun x => m2.bind fun xs => .ok (decide (x ∈ xs))) :=
  ⟨pt_wk (pt_cmpR (op_inD hu) ha.pe hb.pe hm) (op2B (f := fun x xs => .ok (decide (x ∈ xs))) (fun x xs G H σ v u Q S r1 r2 w =>
    ⟨enc x, xs.map enc, r1.dp, r2.dp, shaped_of (Nat.le_trans (Nat.le_succ _) hd) r1, shaped_of hd r2, by rw [any_eqv]; exact w G H (Gr.refl S.gh)⟩) i_id i_id)⟩
theorem ET.ninL (hu : J.X.A.units + 65 < cLine) {m1 : R α} {m2 : R (List α)} (ha : EV J Γ a m1) (hb : EV J Γ b m2) (hm : behindInMarks .NotIn b = false := by rfl) (hd : dep (List α) ≤ 64 := by decide) : ET J Γ (.Compare a [.NotIn] [b] pos) (m1.bind fun x => m2.bind fun xs => .ok (!decide (x ∈ xs))) :=
  ⟨pt_wk (pt_cmpR (op_notInD hu) ha.pe hb.pe hm) (op2B (f := fun x xs => .ok (!decide (x ∈ xs))) (fun x xs G H σ v u Q S r1 r2 w =>
    ⟨enc x, xs.map enc, r1.dp, r2.dp, shaped_of (Nat.le_trans (Nat.le_succ _) hd) r1, shaped_of hd r2, by rw [any_eqv]; exact w G H (Gr.refl S.gh)⟩) i_id i_id)⟩
theorem ES.inL (hu : J.X.A.units + 65 < cLine) {m1 : R α} {m2 : R (List α)} (ha : EV J Γ a m1) (hb : EV J Γ b m2) (hm : behindInMarks .In b = false := by rfl) (hd : dep (List α) ≤ 64 := by decide) : ES J Γ (.Compare a [.In] [b] pos) (m1.bind fun x => m2.bind fun xs => .ok (decide (x ∈ xs))) :=
  ⟨pe_wk (pe_cmpR (op_inD hu) ha.pe hb.pe hm) (op2 (f := fun x xs => .ok (decide (x ∈ xs))) (fun x xs G H σ v u Q S r1 r2 w =>
    ⟨enc x, xs.map enc, r1.dp, r2.dp, shaped_of (Nat.le_trans (Nat.le_succ _) hd) r1, shaped_of hd r2, by rw [any_eqv]; exact w _ G H (Gr.refl S.gh) .bl⟩) i_id i_id)⟩
theorem ES.ninL (hu : J.X.A.units + 65 < cLine) {m1 : R α} {m2 : R (List α)} (ha : EV J Γ a m1) (hb : EV J Γ b m2) (hm : behindInMarks .NotIn b = false := by rfl) (hd : dep (List α) ≤ 64 := by decide) : ES J Γ (.Compare a [.NotIn] [b] pos) (m1.bind fun x => m2.bind fun xs => .ok (!decide (x ∈ xs))) :=
  ⟨pe_wk (pe_cmpR (op_notInD hu) ha.pe hb.pe hm) (op2 (f := fun x xs => .ok (!decide (x ∈ xs))) (fun x xs G H σ v u Q S r1 r2 w =>
    ⟨enc x, xs.map enc, r1.dp, r2.dp, shaped_of (Nat.le_trans (Nat.le_succ _) hd) r1, shaped_of hd r2, by rw [any_eqv]; exact w _ G H (Gr.refl S.gh) .bl⟩) i_id i_id)⟩
end
/-! ### 8. promises and calls -/
/-- a def that hands back a value / a new list; its mirror f of arguments laid out by encs -/
def PrS (T : CT) (K : PySem.W.Frag) {τ ρ : Type} [Enc ρ] (encs : τ → List D) (f : τ → R ρ) : Sp := fun vs H Q E => ∃ (B : Hp) (x : τ), Ex B H ∧ RpA K B vs (encs x) ∧
  (f x).wp (fun r => ∀ v G' H', Gr B H G' H' → Rp K G' v (enc r) → Q v H') (fun n a => ∀ G' H' cls d, Gr B H G' H' → ExOk T n a cls d H' → E cls d H')
def PrF (T : CT) (K : PySem.W.Frag) {τ ρ : Type} [Enc ρ] (encs : τ → List D) (f : τ → R (List ρ)) : Sp := fun vs H Q E => ∃ (B : Hp) (x : τ), Ex B H ∧ RpA K B vs (encs x) ∧
  (f x).wp (fun r => ∀ p vs G' H', Gr B H G' H' → H p = none → G' p = none → H' p = some (.lst vs) → RpA K G' vs (r.map enc) → Q (.ref p) H') (fun n a => ∀ G' H' cls d, Gr B H G' H' → ExOk T n a cls d H' → E cls d H')
section
variable {J : Jd} {Γ : List Sl} {a b c e : Expr} {es : List Expr} {pos p p2 : Pos} {α β γ τ ρ : Type} [Enc α] [Enc β] [Enc γ] [Enc ρ] {x : Str} {k : Nat} {f : Addr} {fd : FuncData} {ps : List Str} {encs : τ → List D}
theorem erE_gr {σ : L2.St} {G H G1 H1 : Hp} (S : Sat J Γ G σ H) (g : Gr G H G1 H1) {n : Nat} {a : Option Int} (w : ErE J Γ σ n a) : ∀ G' H' cls d, Gr G1 H1 G' H' → ExOk J.T n a cls d H' → WE J.W σ cls d H' :=
  fun G' H' cls d g' ok => w G' H' cls d (S.gr (g.trans g')) ok
/-- the arguments stand by themselves: all is let be -/
theorem gr_top {G H H' G' : Hp} (e : Ex G H) (g : Gr H H G' H') : Gr G H G H' := ⟨Ex.refl _, e.trans g.hh, g.hh, fun _ _ z => .inl z⟩
theorem ES.call0 {m : R τ} {fM : τ → R ρ} (F : FnOk J.X.prog J.X.w J.X.K J.X.mg J.X.base (L2.CX J.X.prog J.X.w) k f fd ps (PrS J.T J.K encs fM)) (hr : Room k J.X.A) (hm : J.X.mg x = some (.ref f)) (hk : PySem.W.keepIn J.X.K (.ref f) = true) (hb : Binds J.X.K fd ps [])
    (ha : EA0 J Γ (e :: es) m encs) (hg : Gl J.X x := by rfl) (hdb : (x == ("__debug__" : Str)) = false := by decide) (he : starEach (e :: es) J.X.env = (false, eval e J.X.env) :: starEach es J.X.env := by rfl) (hpl : (backTo pos (starEach es J.X.env)).any (·.1) = false := by rfl) :
    ES J Γ (.Call (.Name x p) (e :: es) [] pos) (m.bind fM) :=
  ⟨pe_wk (pe_callS F hr hg hm hk hb (passAt J.tk) ha.pa hdb he hpl) fun σ H Q ⟨G, S, w⟩ => ⟨G, S, wp_mono (wp_bind.mp w) (fun t q vs G1 H1 g1 r1 =>
    ⟨G1, t, g1.gh, r1, wp_mono q (fun r q2 v G' H' g' rr => q2 v G' H' (g1.trans g') rr) fun n a z => erE_gr S g1 z⟩) fun _ _ z => z⟩⟩
theorem EF.call0 {m : R τ} {fM : τ → R (List ρ)} (F : FnOk J.X.prog J.X.w J.X.K J.X.mg J.X.base (L2.CX J.X.prog J.X.w) k f fd ps (PrF J.T J.K encs fM)) (hr : Room k J.X.A) (hm : J.X.mg x = some (.ref f)) (hk : PySem.W.keepIn J.X.K (.ref f) = true) (hb : Binds J.X.K fd ps [])
    (ha : EA0 J Γ (e :: es) m encs) (hg : Gl J.X x := by rfl) (hdb : (x == ("__debug__" : Str)) = false := by decide) (he : starEach (e :: es) J.X.env = (false, eval e J.X.env) :: starEach es J.X.env := by rfl) (hpl : (backTo pos (starEach es J.X.env)).any (·.1) = false := by rfl) :
    EF J Γ (.Call (.Name x p) (e :: es) [] pos) (m.bind fM) :=
  ⟨pe_wk (pe_callS F hr hg hm hk hb (passAt J.tk) ha.pa hdb he hpl) fun σ H Q ⟨G, S, w⟩ => ⟨G, S, wp_mono (wp_bind.mp w) (fun t q vs G1 H1 g1 r1 =>
    ⟨G1, t, g1.gh, r1, wp_mono q (fun r q2 l ls G' H' g' n1 n2 hp rr => q2 l ls G' H' (g1.trans g') (ex_none g1.hh n1) n2 hp rr) fun n a z => erE_gr S g1 z⟩) fun _ _ z => z⟩⟩
/-- arguments that stand now, an answer that needs no heap -/
theorem ES.callT0 [Scal ρ] {m : R τ} {fM : τ → R ρ} (F : FnOk J.X.prog J.X.w J.X.K J.X.mg J.X.base (L2.CX J.X.prog J.X.w) k f fd ps (PrS J.T J.K encs fM)) (hr : Room k J.X.A) (hm : J.X.mg x = some (.ref f)) (hk : PySem.W.keepIn J.X.K (.ref f) = true) (hb : Binds J.X.K fd ps [])
    (ha : EAT0 J Γ (e :: es) m encs) (hg : Gl J.X x := by rfl) (hdb : (x == ("__debug__" : Str)) = false := by decide) (he : starEach (e :: es) J.X.env = (false, eval e J.X.env) :: starEach es J.X.env := by rfl) (hpl : (backTo pos (starEach es J.X.env)).any (·.1) = false := by rfl) :
    ES J Γ (.Call (.Name x p) (e :: es) [] pos) (m.bind fM) :=
  ⟨pe_wk (pe_callS F hr hg hm hk hb (passAt J.tk) ha.pa hdb he hpl) fun σ H Q ⟨G, S, w⟩ => ⟨G, S, wp_mono (wp_bind.mp w) (fun t q vs G1 H1 g1 r1 =>
    ⟨H1, t, Ex.refl _, r1, wp_mono q (fun r q2 v G' H' g' rr => q2 v G1 H' (g1.trans (gr_top g1.gh g')) (Scal.sc rr)) fun n a z G' H' cls d g' ok => z G1 H' cls d (S.gr (g1.trans (gr_top g1.gh g'))) ok⟩) fun _ _ z => z⟩⟩
theorem scal_all [Scal ρ] {K : PySem.W.Frag} {H H' : Hp} : ∀ {xs : List ρ} {vs : List V}, RpA K H vs (xs.map enc) → RpA K H' vs (xs.map enc)
  | [], _, r => by rw [List.map_nil] at r; rw [r.unnil]; exact .nil
  | x :: xs, _, r => by
    rw [List.map_cons] at r ⊢
    obtain ⟨w, ws, rfl, r1, r2⟩ := r.uncons
    exact .cons (Scal.sc r1) (scal_all r2)
theorem EF.callT0 [Scal ρ] {m : R τ} {fM : τ → R (List ρ)} (F : FnOk J.X.prog J.X.w J.X.K J.X.mg J.X.base (L2.CX J.X.prog J.X.w) k f fd ps (PrF J.T J.K encs fM)) (hr : Room k J.X.A) (hm : J.X.mg x = some (.ref f)) (hk : PySem.W.keepIn J.X.K (.ref f) = true) (hb : Binds J.X.K fd ps [])
    (ha : EAT0 J Γ (e :: es) m encs) (hg : Gl J.X x := by rfl) (hdb : (x == ("__debug__" : Str)) = false := by decide) (he : starEach (e :: es) J.X.env = (false, eval e J.X.env) :: starEach es J.X.env := by rfl) (hpl : (backTo pos (starEach es J.X.env)).any (·.1) = false := by rfl) :
    EF J Γ (.Call (.Name x p) (e :: es) [] pos) (m.bind fM) :=
  ⟨pe_wk (pe_callS F hr hg hm hk hb (passAt J.tk) ha.pa hdb he hpl) fun σ H Q ⟨G, S, w⟩ => ⟨G, S, wp_mono (wp_bind.mp w) (fun t q vs G1 H1 g1 r1 =>
    ⟨H1, t, Ex.refl _, r1, wp_mono q (fun r q2 l ls G' H' g' n1 n2 hp rr => q2 l ls G1 H' (g1.trans (gr_top g1.gh g')) (ex_none g1.hh n1) (ex_none g1.gh n1) hp (scal_all rr)) fun n a z G' H' cls d g' ok => z G1 H' cls d (S.gr (g1.trans (gr_top g1.gh g'))) ok⟩) fun _ _ z => z⟩⟩
/-- a def that hands back a new list hands back a value -/
theorem prF_S {T : CT} {K : PySem.W.Frag} {fM : τ → R (List ρ)} {P : Program} {w : World} {mg : Str → Option Value} {base : Heap} {CX : CXT} (F : FnOk P w K mg base CX k f fd ps (PrF T K encs fM)) : FnOk P w K mg base CX k f fd ps (PrS T K encs fM) :=
  F.imp fun vs H Q E ⟨B, x, h1, h2, h3⟩ => ⟨B, x, h1, h2, wp_mono h3 (fun r q p ws G' H' g n n' hp rr => by
    have eg : Ex G' (upd G' p (.lst ws)) := Ex.new n'
    exact q (.ref p) (upd G' p (.lst ws)) H' ⟨g.gg.trans eg, fun x u z => by
      by_cases hx : x = p
      · subst hx; rw [upd_same] at z; rw [← z]; exact hp
      · rw [upd_ne hx] at z; exact g.gh x u z, g.hh, fun x u z => by
      by_cases hx : x = p
      · subst hx; exact .inr n
      · rw [upd_ne hx] at z; exact g.nw x u z⟩ (Rp.lst (.inl (.inl upd_same)) (rr.ex eg))) fun _ _ z => z⟩
end
/-! #### arguments, what follows handed in -/
structure EA (J : Jd) (Γ : List Sl) (es : List Expr) {τ : Type} (Mk : ∀ {β : Type}, (τ → R β) → R β) (encs : τ → List D) : Prop where
  ea : EA0 J Γ es (Mk R.ok) encs
  eq : ∀ {β : Type} (k : τ → R β), Mk k = (Mk R.ok).bind k
structure EAT (J : Jd) (Γ : List Sl) (es : List Expr) {τ : Type} (Mk : ∀ {β : Type}, (τ → R β) → R β) (encs : τ → List D) : Prop where
  ea : EAT0 J Γ es (Mk R.ok) encs
  eq : ∀ {β : Type} (k : τ → R β), Mk k = (Mk R.ok).bind k
section
variable {J : Jd} {Γ : List Sl} {a b c e : Expr} {es : List Expr} {pos p p2 : Pos} {α β γ τ ρ : Type} [Enc α] [Enc β] [Enc γ] [Enc ρ] {x : Str} {k : Nat} {f : Addr} {fd : FuncData} {ps : List Str} {encs : τ → List D}
theorem EA.nil : EA J Γ [] (fun {β : Type} (k : Unit → R β) => k ()) (fun _ => []) := ⟨EA0.nil, fun _ => rfl⟩
theorem EA.cons {m1 : R α} {Mk : ∀ {β : Type}, (τ → R β) → R β} (h : ES J Γ e m1) (hs : EA J Γ es Mk encs) (hst : starEach (e :: es) J.X.env = (false, eval e J.X.env) :: starEach es J.X.env := by rfl) :
    EA J Γ (e :: es) (fun {β : Type} (k : α × τ → R β) => m1.bind fun a => Mk fun t => k (a, t)) (fun t => enc t.1 :: encs t.2) := ⟨by
      have h2 := EA0.cons h hs.ea hst
      have e2 : (m1.bind fun a => (Mk R.ok).bind fun t => R.ok (a, t)) = m1.bind fun a => Mk fun t => R.ok (a, t) := congrArg _ (funext fun a => (hs.eq _).symm)
      rw [e2] at h2
      exact h2, fun k => by
      rw [bind_assoc]
      congr 1
      funext a
      rw [hs.eq, hs.eq fun t => R.ok (a, t), bind_assoc]
      rfl⟩
theorem EAT.nil : EAT J Γ [] (fun {β : Type} (k : Unit → R β) => k ()) (fun _ => []) := ⟨EAT0.nil, fun _ => rfl⟩
theorem EAT.cons {m1 : R α} {Mk : ∀ {β : Type}, (τ → R β) → R β} (h : EV J Γ e m1) (hs : EAT J Γ es Mk encs) (hst : starEach (e :: es) J.X.env = (false, eval e J.X.env) :: starEach es J.X.env := by rfl) :
    EAT J Γ (e :: es) (fun {β : Type} (k : α × τ → R β) => m1.bind fun a => Mk fun t => k (a, t)) (fun t => enc t.1 :: encs t.2) := ⟨by
      have h2 := EAT0.cons h hs.ea hst
      have e2 : (m1.bind fun a => (Mk R.ok).bind fun t => R.ok (a, t)) = m1.bind fun a => Mk fun t => R.ok (a, t) := congrArg _ (funext fun a => (hs.eq _).symm)
      rw [e2] at h2
      exact h2, fun k => by
      rw [bind_assoc]
      congr 1
      funext a
      rw [hs.eq, hs.eq fun t => R.ok (a, t), bind_assoc]
      rfl⟩
theorem ES.tup {Mk : ∀ {β : Type}, (τ → R β) → R β} {k} (h : EA J Γ es Mk encs) (f : τ → α) (hf : ∀ t, enc (f t) = .tuple (encs t) := by intro _; rfl) (hl : es.length ≤ 1000 := by exact Nat.le_of_ble_eq_true rfl) : ES J Γ (.Tuple es k pos) (Mk fun t => .ok (f t)) := by
  rw [h.eq]; exact ES.tup0 h.ea f hf hl
theorem EF.lst {Mk : ∀ {β : Type}, (τ → R β) → R β} (h : EA J Γ es Mk encs) (f : τ → List α) (hf : ∀ t, (f t).map enc = encs t := by intro _; rfl) (hl : es.length ≤ 1000 := by exact Nat.le_of_ble_eq_true rfl) : EF J Γ (.List es pos) (Mk fun t => .ok (f t)) := by
  rw [h.eq]; exact EF.lst0 h.ea f hf hl
theorem ES.call {Mk : ∀ {β : Type}, (τ → R β) → R β} {fM : τ → R ρ} (F : FnOk J.X.prog J.X.w J.X.K J.X.mg J.X.base (L2.CX J.X.prog J.X.w) k f fd ps (PrS J.T J.K encs fM)) (hr : Room k J.X.A) (hm : J.X.mg x = some (.ref f)) (hk : PySem.W.keepIn J.X.K (.ref f) = true) (hb : Binds J.X.K fd ps [])
    (ha : EA J Γ (e :: es) Mk encs) (hg : Gl J.X x := by rfl) (hdb : (x == ("__debug__" : Str)) = false := by decide) (he : starEach (e :: es) J.X.env = (false, eval e J.X.env) :: starEach es J.X.env := by rfl) (hpl : (backTo pos (starEach es J.X.env)).any (·.1) = false := by rfl) :
    ES J Γ (.Call (.Name x p) (e :: es) [] pos) (Mk fM) := by
  rw [ha.eq]; exact ES.call0 F hr hm hk hb ha.ea hg hdb he hpl
theorem EF.call {Mk : ∀ {β : Type}, (τ → R β) → R β} {fM : τ → R (List ρ)} (F : FnOk J.X.prog J.X.w J.X.K J.X.mg J.X.base (L2.CX J.X.prog J.X.w) k f fd ps (PrF J.T J.K encs fM)) (hr : Room k J.X.A) (hm : J.X.mg x = some (.ref f)) (hk : PySem.W.keepIn J.X.K (.ref f) = true) (hb : Binds J.X.K fd ps [])
    (ha : EA J Γ (e :: es) Mk encs) (hg : Gl J.X x := by rfl) (hdb : (x == ("__debug__" : Str)) = false := by decide) (he : starEach (e :: es) J.X.env = (false, eval e J.X.env) :: starEach es J.X.env := by rfl) (hpl : (backTo pos (starEach es J.X.env)).any (·.1) = false := by rfl) :
    EF J Γ (.Call (.Name x p) (e :: es) [] pos) (Mk fM) := by
  rw [ha.eq]; exact EF.call0 F hr hm hk hb ha.ea hg hdb he hpl
theorem ES.callT [Scal ρ] {Mk : ∀ {β : Type}, (τ → R β) → R β} {fM : τ → R ρ} (F : FnOk J.X.prog J.X.w J.X.K J.X.mg J.X.base (L2.CX J.X.prog J.X.w) k f fd ps (PrS J.T J.K encs fM)) (hr : Room k J.X.A) (hm : J.X.mg x = some (.ref f)) (hk : PySem.W.keepIn J.X.K (.ref f) = true) (hb : Binds J.X.K fd ps [])
    (ha : EAT J Γ (e :: es) Mk encs) (hg : Gl J.X x := by rfl) (hdb : (x == ("__debug__" : Str)) = false := by decide) (he : starEach (e :: es) J.X.env = (false, eval e J.X.env) :: starEach es J.X.env := by rfl) (hpl : (backTo pos (starEach es J.X.env)).any (·.1) = false := by rfl) :
    ES J Γ (.Call (.Name x p) (e :: es) [] pos) (Mk fM) := by
  rw [ha.eq]; exact ES.callT0 F hr hm hk hb ha.ea hg hdb he hpl
theorem EF.callT [Scal ρ] {Mk : ∀ {β : Type}, (τ → R β) → R β} {fM : τ → R (List ρ)} (F : FnOk J.X.prog J.X.w J.X.K J.X.mg J.X.base (L2.CX J.X.prog J.X.w) k f fd ps (PrF J.T J.K encs fM)) (hr : Room k J.X.A) (hm : J.X.mg x = some (.ref f)) (hk : PySem.W.keepIn J.X.K (.ref f) = true) (hb : Binds J.X.K fd ps [])
    (ha : EAT J Γ (e :: es) Mk encs) (hg : Gl J.X x := by rfl) (hdb : (x == ("__debug__" : Str)) = false := by decide) (he : starEach (e :: es) J.X.env = (false, eval e J.X.env) :: starEach es J.X.env := by rfl) (hpl : (backTo pos (starEach es J.X.env)).any (·.1) = false := by rfl) :
    EF J Γ (.Call (.Name x p) (e :: es) [] pos) (Mk fM) := by
  rw [ha.eq]; exact EF.callT0 F hr hm hk hb ha.ea hg hdb he hpl
end
/-! ### 9. blocks -/
/-- how a block ends: what follows, out of a loop, a value, a new list -/
inductive Fl where
  | nx (Γ : List Sl)
  | bk (Γ : List Sl)
  | ct (Γ : List Sl)
  | rt (d : D)
  | rf (ds : List D)
  | rg (R : PySem.W.Frag → Hp → Hp → Option V → List Addr → Prop)
  | bad
/-- what a def's end must know of the heap -/
structure Ed (c : Bs) (G H : Hp) : Prop where
  bg : Ex c.B G
  gh : Ex G H
  h0 : ∀ a o, c.H0 a = some o → a ∉ c.F0 → H a = some o
  sep : ∀ a o, c.H0 a = some o → a ∉ c.F0 → c.B a = none → G a = none
  th : ∀ a o, c.H0 a = some o → ∃ u, H a = some u
theorem SatG.ed {K : PySem.W.Frag} {c : Bs} {Γ : List Sl} {G H : Hp} {σ : L2.St} (S : SatG K c Γ G σ H) : Ed c G H := ⟨S.bg, S.gh, S.h0, S.sep, S.th⟩
def FlP (J : Jd) (D : Ends) : Fl → Prop
  | .nx Γ => ∀ G σ H, Sat J Γ G σ H → D.nx σ H
  | .bk Γ => ∀ G σ H, Sat J Γ G σ H → D.bk σ H
  | .ct Γ => ∀ G σ H, Sat J Γ G σ H → D.ct σ H
  | .rt d => ∀ v G H, Ed J.c G H → Rp J.K G v d → D.rt v H
  | .rf ds => ∀ p vs G H, Ed J.c G H → J.c.H0 p = none → G p = none → H p = some (.lst vs) → RpA J.K G vs ds → D.rt (.ref p) H
  | .rg R => ∀ v f G H, Ed J.c G H → R J.K G H (some v) f → f.Nodup → (∀ p ∈ f, (p ∈ J.c.F0 ∨ J.c.H0 p = none) ∧ G p = none) → D.rt v H
  | .bad => False
def ErB (J : Jd) : Nat → Option Int → Prop := fun n a => ∀ σ H cls d, J.Pe σ H → ExOk J.T n a cls d H → J.W cls d σ H
def tBD (J : Jd) (Γ : List Sl) {β : Type} (m : R β) (out : β → Fl) : TS := fun D σ H => ∃ G, Sat J Γ G σ H ∧ m.wp (fun b => FlP J D (out b)) (ErB J)
structure BD (J : Jd) (Γ : List Sl) (sts : List Stmt) {β : Type} (m : R β) (out : β → Fl) : Prop where
  ps : PSs J.X sts (tBD J Γ m out)
/-- one statement -/
structure BS (J : Jd) (Γ : List Sl) (st : Stmt) {β : Type} (m : R β) (out : β → Fl) : Prop where
  ps : PS J.X st (tBD J Γ m out)
/-- what is known of Γ where an exception is met -/
def PeOk (J : Jd) (Γ : List Sl) : Prop := ∀ G σ H, Sat J Γ G σ H → J.Pe σ H
theorem erE_of {J : Jd} {Γ : List Sl} (hp : PeOk J Γ) {n : Nat} {a : Option Int} (w : ErB J n a) (σ : L2.St) : ErE J Γ σ n a := fun G' H' cls d S ok => w σ H' cls d (hp G' σ H' S) ok
def noNx {β : Type} (out : β → Fl) : β → Fl := fun b => match out b with
  | .nx _ => .bad
  | .bk Γ => .bk Γ
  | .ct Γ => .ct Γ
  | .rt d => .rt d
  | .rf d => .rf d
  | .rg R => .rg R
  | .bad => .bad
theorem flP_noNx {J : Jd} {D : Ends} {nx : L2.St → Hp → Prop} {β : Type} {out : β → Fl} {b : β} (h : FlP J D (out b)) (hn : ∀ Γ, out b ≠ .nx Γ ∨ True) : True := trivial
section
variable {J : Jd} {Γ Γ' : List Sl} {a b c e : Expr} {st : Stmt} {sts rest : List Stmt} {pos p p2 : Pos} {α β γ τ ρ : Type} [Enc α] [Enc γ] [Enc ρ] {x : Str} {out : β → Fl}
/-- what follows is Γ' -/
theorem BD.nil {b : β} (ho : out b = .nx Γ') (w : Wk Γ Γ') : BD J Γ [] (.ok b) out := ⟨pss_wk pss_nil fun D σ H ⟨G, S, q⟩ => by
  have q' : FlP J D (out b) := q
  rw [ho] at q'
  exact q' G σ H (S.wk w)⟩
/-- a statement that only goes on, then the rest -/
theorem BD.seq {δ : Type} {m1 : R δ} {out1 : δ → Fl} {k : δ → R β} {G1 : δ → List Sl} (h1 : BS J Γ st m1 out1) (ho : ∀ a, out1 a = .nx (G1 a)) (h2 : ∀ a, BD J (G1 a) rest (k a) out) : BD J Γ (st :: rest) (m1.bind k) out := by
  have key : ∃ u : TS, PSs J.X rest u ∧ ∀ D σ H a, (∃ G, Sat J (G1 a) G σ H) → (k a).wp (fun b => FlP J D (out b)) (ErB J) → u D σ H := by
    refine ⟨fun D σ H => ∃ a, tBD J (G1 a) (k a) out D σ H, ⟨fun pins s σ H D I ⟨a, q⟩ => (h2 a).ps.run pins s σ H D I q⟩, fun D σ H a ⟨G, S⟩ q => ⟨a, G, S, q⟩⟩
  obtain ⟨u, hu, hk⟩ := key
  refine ⟨pss_wk (pss_cons h1.ps hu) fun D σ H ⟨G, S, q⟩ => ⟨G, S, wp_mono (wp_bind.mp q) (fun a q2 => ?_) fun _ _ z => z⟩⟩
  rw [ho]
  exact fun G' σ' H' S' => hk D σ' H' a ⟨G', S'⟩ q2
/-- a statement that may leave: l says how its end goes on -/
theorem BD.seqX {δ : Type} {m1 : R δ} {out1 : δ → Fl} {k : δ → R β} (h1 : BS J Γ st m1 out1) (h2 : ∀ a, (∃ Γ1, out1 a = .nx Γ1 ∧ BD J Γ1 rest (k a) out) ∨ (∃ b, k a = .ok b ∧ out b = out1 a ∧ noNx out1 a = out1 a)) : BD J Γ (st :: rest) (m1.bind k) out := by
  have key : ∃ u : TS, PSs J.X rest u ∧ ∀ D σ H a Γ1, out1 a = .nx Γ1 → BD J Γ1 rest (k a) out → (∃ G, Sat J Γ1 G σ H) → (k a).wp (fun b => FlP J D (out b)) (ErB J) → u D σ H := by
    refine ⟨fun D σ H => ∃ a Γ1, BD J Γ1 rest (k a) out ∧ tBD J Γ1 (k a) out D σ H, ⟨fun pins s σ H D I ⟨a, Γ1, hb, q⟩ => hb.ps.run pins s σ H D I q⟩, fun D σ H a Γ1 e hb ⟨G, S⟩ q => ⟨a, Γ1, hb, G, S, q⟩⟩
  obtain ⟨u, hu, hk⟩ := key
  refine ⟨pss_wk (pss_cons h1.ps hu) fun D σ H ⟨G, S, q⟩ => ⟨G, S, wp_mono (wp_bind.mp q) (fun a q2 => ?_) fun _ _ z => z⟩⟩
  rcases h2 a with ⟨Γ1, e, hb⟩ | ⟨b, e1, e2, e3⟩
  · rw [e]
    exact fun G' σ' H' S' => hk D σ' H' a Γ1 e hb ⟨G', S'⟩ q2
  · rw [e1] at q2
    have q3 : FlP J D (out b) := q2
    rw [e2] at q3
    cases q : out1 a with
    | nx Γ1 => unfold noNx at e3; rw [q] at e3; cases e3
    | bk Γ1 => rw [q] at q3; exact q3
    | ct Γ1 => rw [q] at q3; exact q3
    | rt d => rw [q] at q3; exact q3
    | rf d => rw [q] at q3; exact q3
    | rg R => rw [q] at q3; exact q3
    | bad => rw [q] at q3; exact q3
theorem BD.one (h : BS J Γ st (m := m) out) : BD J Γ [st] m out := ⟨pss_one h.ps⟩
/-- weaker slots -/
theorem BD.wk {m : R β} (h : BD J Γ' sts m out) (w : Wk Γ Γ') : BD J Γ sts m out := ⟨pss_wk h.ps fun D σ H ⟨G, S, q⟩ => ⟨G, S.wk w, q⟩⟩
/-- a list of one's own is frozen -/
theorem BD.freeze {i : Nat} {xs : List α} {m : R β} (e : Γ[i]? = some (.ow (xs.map enc))) (h : BD J (Γ.set i (.va (enc xs))) sts m out) : BD J Γ sts m out := ⟨pss_wk h.ps fun D σ H ⟨G, S, q⟩ => by
  obtain ⟨G', _, S'⟩ := S.freeze e
  exact ⟨G', S', q⟩⟩
/-! #### assignments -/
theorem BS.asg {i : Nat} {m : R α} (h : ES J Γ e m) (hp : PeOk J Γ) (hN : J.X.N.Nodup) (hi : J.X.N[i]? = some x) (hx : Loc J.X.env.scope x) (hs : swapsWith e (some (.Name x p)) pos.line J.X.env = pure false := by rfl)
    (hf : J.X.fn x = true ∨ J.X.env.scope.names.lookup x = some .local := by first | exact .inl rfl | exact .inr rfl) : BS J Γ (.Assign [.Name x p] e pos) m (fun a => .nx (Γ.set i (.va (enc a)))) :=
  ⟨ps_wk (ps_set hN hi hx h.pe hs hf) fun D σ H ⟨G, S, q⟩ => ⟨G, S, wp_mono q (fun a k v G' H' g r => k G' _ H' ((S.gr g).setva r)) fun n a z => erE_of hp z σ⟩⟩
theorem BS.asgF {i : Nat} {m : R (List α)} (h : EF J Γ e m) (hp : PeOk J Γ) (hN : J.X.N.Nodup) (hi : J.X.N[i]? = some x) (hx : Loc J.X.env.scope x) (hs : swapsWith e (some (.Name x p)) pos.line J.X.env = pure false := by rfl)
    (hf : J.X.fn x = true ∨ J.X.env.scope.names.lookup x = some .local := by first | exact .inl rfl | exact .inr rfl) : BS J Γ (.Assign [.Name x p] e pos) m (fun a => .nx (Γ.set i (.ow (a.map enc)))) :=
  ⟨ps_wk (ps_set hN hi hx h.pe hs hf) fun D σ H ⟨G, S, q⟩ => ⟨G, S, wp_mono q (fun a k l vs G' H' g n n' hl r => by
    refine k G' _ H' (S.setow2 g n ?_ hl n' r)
    cases q0 : J.c.H0 l with
    | none => rfl
    | some o =>
      obtain ⟨u, hu⟩ := S.th l o q0
      rw [n] at hu; cases hu) fun n a z => erE_of hp z σ⟩⟩
end
/-! ### 10. what is walked; targets -/
structure ItOk {α : Type} [Enc α] (K : PySem.W.Frag) (I : It) (G1 : Hp) (xs : List α) : Prop where
  go : ∀ i H, Ex G1 H → i < xs.length → I.go i H
  stop : ∀ H, Ex G1 H → I.stop xs.length H
  yld : ∀ i H x H' a, Ex G1 H → I.yld i H x H' → xs[i]? = some a → ∀ G, Ex G1 G → Ex G H → ∃ G', Gr G H G' H' ∧ Rp K G' x (enc a)
def tI (J : Jd) (Γ : List Sl) {α : Type} [Enc α] (m : R (List α)) : TI := fun σ H Q => ∃ G, Sat J Γ G σ H ∧ m.wp (fun xs => ∀ I G' H', Gr G H G' H' → ItOk J.K I G' xs → Q I H') (ErE J Γ σ)
structure IT (J : Jd) (Γ : List Sl) (tg it : Expr) {α : Type} [Enc α] (m : R (List α)) : Prop where
  pi : PI J.X tg it (tI J Γ m)
theorem pi_wk {X : Cx} {tg it : Expr} {t t' : TI} (h : PI X tg it t) (i : ∀ σ H Q, t' σ H Q → t σ H Q) : PI X tg it t' := ⟨fun pins s σ H Q I q => h.run pins s σ H Q I (i σ H Q q)⟩
def irange (lo : Int) (n : Nat) : List Int := (List.range n).map fun (k : Nat) => lo + (k : Int)
noncomputable def rangeM (n : Int) : R (List Int) := @ite _ (-(2 ^ 62) ≤ n ∧ n < 2 ^ 62) (Classical.propDecidable _) (.ok (irange 0 n.toNat)) .stuck
noncomputable def rangeM2 (m n : Int) : R (List Int) := @ite _ ((-(2 ^ 62) ≤ m ∧ m < 2 ^ 62) ∧ -(2 ^ 62) ≤ n ∧ n < 2 ^ 62) (Classical.propDecidable _) (.ok (irange m (n - m).toNat)) .stuck
/-- m, m - 1, .. above n -/
def drange (m n : Int) : List Int := (List.range (m - n).toNat).map fun (k : Nat) => m + (k : Int) * (-1)
noncomputable def rangeM3 (m n : Int) : R (List Int) := @ite _ ((-(2 ^ 62) ≤ m ∧ m < 2 ^ 62) ∧ -(2 ^ 62) ≤ n ∧ n < 2 ^ 62) (Classical.propDecidable _) (.ok (drange m n)) .stuck
section
variable {J : Jd} {Γ : List Sl} {a b c e tg : Expr} {pos p p2 : Pos} {α β γ : Type} [Enc α] [Enc β] [Enc γ]
theorem itok_list {K : PySem.W.Frag} {G1 : Hp} {p : Addr} {vs : List V} {xs : List α} (h : SqL K G1 p vs) (r : RpA K G1 vs (xs.map enc)) : ItOk K (Itl K p) G1 xs := by
  have hl : vs.length = xs.length := by rw [r.length, List.length_map]
  refine ⟨fun i H e hi => ⟨vs, vs[i]'(by omega), Evl.ex_l e h, by simp⟩, fun H e => ⟨vs, Evl.ex_l e h, by omega⟩, fun i H x H' a e y ha G eg egh => ?_⟩
  obtain ⟨rfl, hy⟩ := y
  have hx := hy vs (Evl.ex_l e h)
  obtain ⟨d, hd, rd⟩ := r.getV hx
  rw [List.getElem?_map, ha] at hd
  cases hd
  exact ⟨G, Gr.refl egh, rd.ex eg⟩
theorem IT.list {m : R (List α)} (h : ES J Γ e m) : IT J Γ tg e m := ⟨pi_wk (pi_list h.pe) fun σ H Q ⟨G, S, w⟩ => ⟨G, S, wp_mono w (fun xs k v G' H' g r => by
  obtain ⟨p, vs, rfl, hs, hr⟩ := Rp.unlst r
  exact ⟨p, rfl, ⟨vs, Evl.ex_l g.gh hs⟩, k _ G' H' g (itok_list hs hr)⟩) fun _ _ z => z⟩⟩
theorem irange_get {lo : Int} {n i : Nat} (h : i < n) : (irange lo n)[i]? = some (lo + (i : Int)) := by
  unfold irange
  rw [List.getElem?_map, List.getElem?_range h]
  rfl
theorem irange_length {lo : Int} {n : Nat} : (irange lo n).length = n := by unfold irange; simp
theorem itok_range {K : PySem.W.Frag} {G1 : Hp} {lo : Int} {n : Nat} : ItOk K (Itr lo n) G1 (irange lo n) := by
  refine ⟨fun i H _ hi => by rw [irange_length] at hi; exact hi, fun H _ => Nat.le_of_eq irange_length.symm, fun i H x H' a e y ha G eg egh => ?_⟩
  obtain ⟨rfl, rfl⟩ := y
  have hi : i < n := by
    have := (List.getElem?_eq_some_iff.mp ha).1
    rw [irange_length] at this; exact this
  rw [irange_get hi] at ha
  cases ha
  exact ⟨G, Gr.refl egh, .int⟩
theorem IT.range {m : R Int} (h : ES J Γ a m) (hm : J.X.mg "range" = none) (hg : Gl J.X "range" := by rfl) (he : starEach [a] J.X.env = (false, eval a J.X.env) :: starEach [] J.X.env := by rfl) : IT J Γ tg (.Call (.Name "range" p) [a] [] pos) (m.bind rangeM) :=
  ⟨pi_wk (pi_range1 hg hm (EA0.cons h EA0.nil he).pa he) fun σ H Q ⟨G, S, w⟩ => ⟨G, S, wp_bind.mpr (wp_mono (wp_bind.mp w) (fun n k vs G' H' g r => by
    obtain ⟨v, ws, rfl, r1, r2⟩ := r.uncons
    have e1 := Rp.unint r1
    have e2 := r2.unnil
    subst e1 e2
    unfold rangeM at k
    by_cases hb : -(2 ^ 62) ≤ n ∧ n < 2 ^ 62
    · rw [if_pos hb] at k
      exact ⟨n, rfl, hb.1, hb.2, k _ G' H' g itok_range⟩
    · rw [if_neg hb] at k; exact k.elim) fun _ _ z => z)⟩⟩
theorem IT.rangek {n : Int} {j : Nat} {q : Pos} (hm : J.X.mg "range" = none) (hn : -(2 ^ 62) ≤ n ∧ n < 2 ^ 62 := by decide) (hg : Gl J.X "range" := by rfl) (he : starEach [Expr.Constant (.int n) j q] J.X.env = (false, eval (Expr.Constant (.int n) j q) J.X.env) :: starEach [] J.X.env := by rfl) :
    IT J Γ tg (.Call (.Name "range" p) [.Constant (.int n) j q] [] pos) (.ok (irange 0 n.toNat)) := by
  have h := IT.range (tg := tg) (p := p) (pos := pos) (J := J) (Γ := Γ) (ES.int (i := n) (j := j) (pos := q)) hm hg he
  have e : (R.ok n).bind rangeM = .ok (irange 0 n.toNat) := by show rangeM n = _; unfold rangeM; rw [if_pos hn]
  rw [e] at h
  exact h
theorem IT.range2 {m1 m2 : R Int} (h1 : ES J Γ a m1) (h2 : ES J Γ b m2) (hm : J.X.mg "range" = none) (hg : Gl J.X "range" := by rfl) (he : starEach [a, b] J.X.env = (false, eval a J.X.env) :: starEach [b] J.X.env := by rfl) (he2 : starEach [b] J.X.env = (false, eval b J.X.env) :: starEach [] J.X.env := by rfl)
    (hs : starEach [a, b] J.X.env = [(false, eval a J.X.env), (false, eval b J.X.env)] := by rfl) : IT J Γ tg (.Call (.Name "range" p) [a, b] [] pos) (m1.bind fun x => m2.bind fun y => rangeM2 x y) :=
  ⟨pi_wk (pi_range2 hg hm (EA0.cons h1 (EA0.cons h2 EA0.nil he2) he).pa hs he2) fun σ H Q ⟨G, S, w⟩ => ⟨G, S, wp_bind.mpr (wp_mono (wp_bind.mp w) (fun x k => wp_bind.mpr (wp_bind.mpr (wp_mono (wp_bind.mp k) (fun y k vs G' H' g r => by
    obtain ⟨v, ws, rfl, r1, r2⟩ := r.uncons
    obtain ⟨v2, ws2, rfl, r3, r4⟩ := r2.uncons
    have e1 := Rp.unint r1
    have e2 := Rp.unint r3
    have e3 := r4.unnil
    subst e1 e2 e3
    unfold rangeM2 at k
    by_cases hb : (-(2 ^ 62) ≤ x ∧ x < 2 ^ 62) ∧ -(2 ^ 62) ≤ y ∧ y < 2 ^ 62
    · rw [if_pos hb] at k
      exact ⟨x, y, rfl, ⟨hb.1.1, hb.1.2, hb.2.1, hb.2.2⟩, k _ G' H' g itok_range⟩
    · rw [if_neg hb] at k; exact k.elim) fun _ _ z => z))) fun _ _ z => z)⟩⟩
theorem drange_length {m n : Int} : (drange m n).length = (m - n).toNat := by unfold drange; simp
theorem itok_drange {K : PySem.W.Frag} {G1 : Hp} {m n : Int} : ItOk K (Itc m (-1) (m - n).toNat) G1 (drange m n) := by
  refine ⟨fun i H _ hi => by rw [drange_length] at hi; exact hi, fun H _ => Nat.le_of_eq drange_length.symm, fun i H x H' a e y ha G eg egh => ?_⟩
  obtain ⟨rfl, rfl⟩ := y
  have hi : i < (m - n).toNat := by
    have := (List.getElem?_eq_some_iff.mp ha).1
    rw [drange_length] at this; exact this
  unfold drange at ha
  rw [List.getElem?_map, List.getElem?_range hi] at ha
  cases ha
  exact ⟨G, Gr.refl egh, .int⟩
theorem IT.down {m1 m2 : R Int} (h1 : ES J Γ a m1) (h2 : ES J Γ b m2) (h3 : ES J Γ c (.ok (-1 : Int))) (hm : J.X.mg "range" = none) (hg : Gl J.X "range" := by rfl) (he : starEach [a, b, c] J.X.env = (false, eval a J.X.env) :: starEach [b, c] J.X.env := by rfl) (he2 : starEach [b, c] J.X.env = (false, eval b J.X.env) :: starEach [c] J.X.env := by rfl)
    (he3 : starEach [c] J.X.env = (false, eval c J.X.env) :: starEach [] J.X.env := by rfl) (hpl : (backTo pos (starEach [b, c] J.X.env)).any (·.1) = false := by rfl) : IT J Γ tg (.Call (.Name "range" p) [a, b, c] [] pos) (m1.bind fun x => m2.bind fun y => rangeM3 x y) :=
  ⟨pi_wk (pi_range3 hg hm (EA0.cons h1 (EA0.cons h2 (EA0.cons h3 EA0.nil he3) he2) he).pa he hpl) fun σ H Q ⟨G, S, w⟩ => ⟨G, S, wp_bind.mpr (wp_mono (wp_bind.mp w) (fun x k => wp_bind.mpr (wp_bind.mpr (wp_mono (wp_bind.mp k) (fun y k vs G' H' g r => by
    obtain ⟨v, ws, rfl, r1, r2⟩ := r.uncons
    obtain ⟨v2, ws2, rfl, r3, r4⟩ := r2.uncons
    obtain ⟨v3, ws3, rfl, r5, r6⟩ := r4.uncons
    have e1 := Rp.unint r1
    have e2 := Rp.unint r3
    have e3 := Rp.unint r5
    have e4 := r6.unnil
    subst e1 e2 e3 e4
    unfold rangeM3 at k
    by_cases hb : (-(2 ^ 62) ≤ x ∧ x < 2 ^ 62) ∧ -(2 ^ 62) ≤ y ∧ y < 2 ^ 62
    · rw [if_pos hb] at k
      exact ⟨x, y, -1, (x - y).toNat, rfl, RgC.neg hb.1.1 hb.1.2 hb.2.1 hb.2.2, k _ G' H' g itok_drange⟩
    · rw [if_neg hb] at k; exact k.elim) fun _ _ z => z))) fun _ _ z => z)⟩⟩
/-- the signs of a text -/
def signs (t : Tx) : List Tx := t.map fun c => [c]
theorem itok_str {K : PySem.W.Frag} {G1 : Hp} {t : Tx} (ok : TxOk t) : ItOk K (Its (txs t)) G1 (signs t) := by
  have hz : (txs t).cps.size = t.length := txs_length
  refine ⟨fun i H _ hi => by show i < (txs t).cps.size; rw [hz]; unfold signs at hi; simpa using hi, fun H _ => by show (txs t).cps.size ≤ _; rw [hz]; unfold signs; simp, fun i H x H' a e y ha G eg egh => ?_⟩
  obtain ⟨rfl, c, hc, rfl⟩ := y
  have hc' : t[i]? = some c := by
    have : (txs t).cps[i]? = t[i]? := by show t.toArray[i]? = _; simp
    rw [← this]; exact hc
  unfold signs at ha
  rw [List.getElem?_map, hc'] at ha
  cases ha
  exact ⟨G, Gr.refl egh, Rp.tx (t := [c]) fun x hx => by rw [List.mem_singleton] at hx; subst hx; exact ok _ (List.mem_of_getElem? hc')⟩
theorem IT.str {m : R Tx} (h : ES J Γ e m) : IT J Γ tg e (m.bind fun t => .ok (signs t)) := ⟨pi_wk (pi_str h.pe) fun σ H Q ⟨G, S, w⟩ => ⟨G, S, wp_mono (wp_bind.mp w) (fun t k v G' H' g r => by
  obtain ⟨rfl, ok⟩ := rp_tx r
  exact ⟨txs t, rfl, k _ G' H' g (itok_str ok)⟩) fun _ _ z => z⟩⟩
/-- items with their numbers -/
def enumL {α : Type} (xs : List α) : List (Int × α) := xs.zipIdx.map fun p => ((p.2 : Int), p.1)
theorem enumL_get {α : Type} {xs : List α} {i : Nat} : (enumL xs)[i]? = (xs[i]?).map fun a => ((i : Int), a) := by
  unfold enumL
  rw [List.getElem?_map, List.getElem?_zipIdx]
  cases xs[i]? with
  | none => rfl
  | some a => simp
theorem enumL_length {α : Type} {xs : List α} : (enumL xs).length = xs.length := by unfold enumL; simp
theorem itok_enum {K : PySem.W.Frag} {G1 : Hp} {p : Addr} {vs : List V} {xs : List α} (h : SqL K G1 p vs) (r : RpA K G1 vs (xs.map enc)) : ItOk K (Ite K p) G1 (enumL xs) := by
  have hl : vs.length = xs.length := by rw [r.length, List.length_map]
  refine ⟨fun i H e hi => ⟨vs, vs[i]'(by rw [enumL_length] at hi; omega), Evl.ex_l e h, by simp⟩, fun H e => ⟨vs, Evl.ex_l e h, by rw [enumL_length]; omega⟩, fun i H x H' a e y ha G eg egh => ?_⟩
  obtain ⟨T, x, rfl, hT, rfl, hy⟩ := y
  have hx := hy vs (Evl.ex_l e h)
  obtain ⟨d, hd, rd⟩ := r.getV hx
  rw [enumL_get] at ha
  cases q : xs[i]? with
  | none => rw [q] at ha; cases ha
  | some a' =>
    rw [q] at ha
    cases ha
    rw [List.getElem?_map, q] at hd
    cases hd
    have g := Gr.new (o := .tup [.int (i : Nat), x]) egh hT
    exact ⟨_, g, Rp.tup (.inl (.inl upd_same)) (.cons .int (.cons (rd.ex (eg.trans g.gg)) .nil))⟩
theorem IT.enum {es : List Expr} {kk : Nat} {tp : Pos} {m : R (List α)} (h : ES J Γ e m) (hm : J.X.mg "enumerate" = none) (hg : Gl J.X "enumerate" := by rfl) (he : starEach [e] J.X.env = (false, eval e J.X.env) :: starEach [] J.X.env := by rfl) : IT J Γ (.Tuple es kk tp) (.Call (.Name "enumerate" p) [e] [] pos) (m.bind fun xs => .ok (enumL xs)) :=
  ⟨pi_wk (pi_enum hg hm (EA0.cons h EA0.nil he).pa he) fun σ H Q ⟨G, S, w⟩ => ⟨G, S, wp_bind.mpr (wp_mono (wp_bind.mp w) (fun xs k vs G' H' g r => by
    obtain ⟨v, ws, rfl, r1, r2⟩ := r.uncons
    have e2 := r2.unnil
    subst e2
    obtain ⟨p, us, rfl, hs, hr⟩ := Rp.unlst r1
    exact ⟨p, us, rfl, Evl.ex_l g.gh hs, k _ G' H' g (itok_enum hs hr)⟩) fun _ _ z => z)⟩⟩
theorem itok_zip {K : PySem.W.Frag} {G1 : Hp} {p q : Addr} {vs us : List V} {xs : List α} {ys : List β} (h : SqL K G1 p vs) (r : RpA K G1 vs (xs.map enc)) (h' : SqL K G1 q us) (r' : RpA K G1 us (ys.map enc)) : ItOk K (Itz K p q) G1 (xs.zip ys) := by
  have hl : vs.length = xs.length := by rw [r.length, List.length_map]
  have hl' : us.length = ys.length := by rw [r'.length, List.length_map]
  have hz : (xs.zip ys).length = min xs.length ys.length := List.length_zip
  refine ⟨fun i H e hi => ⟨vs, us, vs[i]'(by omega), us[i]'(by omega), Evl.ex_l e h, Evl.ex_l e h', by simp, by simp⟩, fun H e => ⟨vs, us, Evl.ex_l e h, Evl.ex_l e h', by omega⟩, fun i H x H' a e y ha G eg egh => ?_⟩
  obtain ⟨T, x, y, rfl, hT, rfl, hy, hy'⟩ := y
  have hx := hy vs (Evl.ex_l e h)
  have hx' := hy' us (Evl.ex_l e h')
  obtain ⟨d, hd, rd⟩ := r.getV hx
  obtain ⟨d', hd', rd'⟩ := r'.getV hx'
  obtain ⟨a1, a2⟩ := a
  obtain ⟨h1, h2⟩ := List.getElem?_zip_eq_some.mp ha
  rw [List.getElem?_map, h1] at hd
  rw [List.getElem?_map, h2] at hd'
  cases hd; cases hd'
  have g := Gr.new (o := .tup [x, y]) egh hT
  exact ⟨_, g, Rp.tup (.inl (.inl upd_same)) (.cons (rd.ex (eg.trans g.gg)) (.cons (rd'.ex (eg.trans g.gg)) .nil))⟩
theorem IT.zip {es : List Expr} {kk : Nat} {tp : Pos} {m : R (List α)} {m2 : R (List β)} (h : ES J Γ a m) (h2 : ES J Γ b m2) (hm : J.X.mg "zip" = none) (hg : Gl J.X "zip" := by rfl) (he : starEach [a, b] J.X.env = (false, eval a J.X.env) :: starEach [b] J.X.env := by rfl) (he2 : starEach [b] J.X.env = (false, eval b J.X.env) :: starEach [] J.X.env := by rfl)
    (hpl : (backTo pos (starEach [b] J.X.env)).any (·.1) = false := by rfl) : IT J Γ (.Tuple es kk tp) (.Call (.Name "zip" p) [a, b] [] pos) (m.bind fun xs => m2.bind fun ys => .ok (xs.zip ys)) :=
  ⟨pi_wk (pi_zip hg hm (EA0.cons h (EA0.cons h2 EA0.nil he2) he).pa he hpl) fun σ H Q ⟨G, S, w⟩ => ⟨G, S, wp_bind.mpr (wp_mono (wp_bind.mp w) (fun xs k => wp_bind.mpr (wp_bind.mpr (wp_mono (wp_bind.mp k) (fun ys k vs G' H' g r => by
    obtain ⟨v, ws, rfl, r1, r2⟩ := r.uncons
    obtain ⟨v2, ws2, rfl, r3, r4⟩ := r2.uncons
    have e2 := r4.unnil
    subst e2
    obtain ⟨p, us, rfl, hs, hr⟩ := Rp.unlst r1
    obtain ⟨q, us', rfl, hs', hr'⟩ := Rp.unlst r3
    exact ⟨p, q, us, us', rfl, Evl.ex_l g.gh hs, Evl.ex_l g.gh hs', k _ G' H' g (itok_zip hs hr hs' hr')⟩) fun _ _ z => z))) fun _ _ z => z)⟩⟩
end
/-! #### targets -/
def Off (js : List Nat) (σ σ' : L2.St) : Prop := σ'.length = σ.length ∧ ∀ i, i ∉ js → σ'[i]? = σ[i]?
structure TgS {α : Type} [Enc α] (K : PySem.W.Frag) (g : TG) (js : List Nat) (up : List Sl → α → List Sl) : Prop where
  sem : ∀ (c : Bs) (σ : L2.St) (H G : Hp) (v : V) (a : α) (Γ : List Sl) (Q : L2.St → Hp → Prop), SatG K c Γ G σ H → Rp K G v (enc a) → (∀ σ', Off js σ σ' → SatG K c (up Γ a) G σ' H → Q σ' H) → g v σ H Q
structure TgsS (K : PySem.W.Frag) (g : TGs) (n : Nat) (js : List Nat) (up : List Sl → List D → List Sl) : Prop where
  sem : ∀ (c : Bs) (σ : L2.St) (H G : Hp) (vs : List V) (ds : List D) (Γ : List Sl) (Q : L2.St → Hp → Prop), SatG K c Γ G σ H → RpA K G vs ds → ds.length = n → (∀ σ', Off js σ σ' → SatG K c (up Γ ds) G σ' H → Q σ' H) → g vs σ H Q
theorem TgS.name {α : Type} [Enc α] {K : PySem.W.Frag} {i : Nat} : TgS (α := α) K (gName i) [i] (fun Γ a => Γ.set i (.va (enc a))) :=
  ⟨fun c σ H G v a Γ Q S r k => k _ ⟨by simp, fun j hj => by rw [List.getElem?_set_ne (fun e => hj (by simp [e]))]⟩ (S.setva r)⟩
theorem TgsS.nil {K : PySem.W.Frag} : TgsS K gNil 0 [] (fun Γ _ => Γ) := ⟨fun c σ H G vs ds Γ Q S r hl k => by
  cases ds with
  | nil => exact ⟨r.unnil, k σ ⟨rfl, fun _ _ => rfl⟩ S⟩
  | cons d ds => simp at hl⟩
theorem TgsS.cons {K : PySem.W.Frag} {i n : Nat} {gs : TGs} {js : List Nat} {up : List Sl → List D → List Sl} (h : TgsS K gs n js up) : TgsS K (gCons (gName i) gs) (n + 1) (i :: js) (fun Γ ds => match ds with
    | [] => Γ
    | d :: ds => up (Γ.set i (.va d)) ds) := ⟨fun c σ H G vs ds Γ Q S r hl k => by
  cases ds with
  | nil => simp at hl
  | cons d ds =>
    obtain ⟨w, ws, rfl, r1, r2⟩ := r.uncons
    refine ⟨w, ws, rfl, h.sem c _ H G ws ds _ Q (S.setva r1) r2 (by simpa using hl) fun σ' o S' => k σ' ⟨by rw [o.1]; simp, fun j hj => ?_⟩ S'⟩
    rw [o.2 j (fun z => hj (List.mem_cons_of_mem _ z)), List.getElem?_set_ne (fun e => hj (by simp [e]))]⟩
theorem TgS.tup {α : Type} [Enc α] {K : PySem.W.Frag} {n : Nat} {gs : TGs} {js : List Nat} {up : List Sl → List D → List Sl} (h : TgsS K gs n js up) (ds : α → List D) (he : ∀ a, enc a = .tuple (ds a) ∧ (ds a).length = n := by intro _; exact ⟨rfl, rfl⟩) : TgS (α := α) K (gTup K n gs) js (fun Γ a => up Γ (ds a)) :=
  ⟨fun c σ H G v a Γ Q S r k => by
    rw [(he a).1] at r
    obtain ⟨p, vs, rfl, ht, r2⟩ := r.untup
    exact ⟨p, vs, rfl, Evl.ex_t S.gh ht, by rw [r2.length]; exact (he a).2, h.sem c σ H G vs _ Γ Q S r2 (he a).2 k⟩⟩
/-! ### 11. loops -/
inductive Ct (σ ρ : Type) where
  | nx (s : σ)
  | bk (s : σ)
  | rt (r : ρ)
def loopC {α σ ρ : Type} (f : σ → α → R (Ct σ ρ)) : List α → σ → R (Ct σ ρ)
  | [], s => .ok (.nx s)
  | x :: xs, s => (f s x).bind fun r => match r with
    | .nx s' => loopC f xs s'
    | .bk s' => .ok (.bk s')
    | .rt r => .ok (.rt r)
def loopF {α σ : Type} (f : σ → α → R σ) : List α → σ → R σ
  | [], s => .ok s
  | x :: xs, s => (f s x).bind (loopF f xs)
def loopS {α ρ : Type} (f : α → R (Option ρ)) : List α → R (Option ρ)
  | [] => .ok none
  | x :: xs => (f x).bind fun r => match r with
    | some r => .ok (some r)
    | none => loopS f xs
def whileC {σ ρ : Type} (c : σ → R Bool) (f : σ → R (Ct σ ρ)) : Nat → σ → R (Ct σ ρ)
  | 0, _ => .stuck
  | n + 1, s => (c s).bind fun b => if b = true then (f s).bind fun r => match r with
    | .nx s' => whileC c f n s'
    | .bk s' => .ok (.bk s')
    | .rt r => .ok (.rt r)
    else .ok (.nx s)
def whileF {σ : Type} (c : σ → R Bool) (f : σ → R σ) : Nat → σ → R σ
  | 0, _ => .stuck
  | n + 1, s => (c s).bind fun b => if b = true then (f s).bind (whileF c f n) else .ok s
def ctB {σ ρ : Type} (Gf : σ → List Sl) (ro : ρ → Fl) : Ct σ ρ → Fl
  | .nx s => .nx (Gf s)
  | .bk s => .bk (Gf s)
  | .rt r => ro r
def ctA {σ ρ : Type} (Gf : σ → List Sl) (ro : ρ → Fl) : Ct σ ρ → Fl
  | .nx s => .nx (Gf s)
  | .bk s => .nx (Gf s)
  | .rt r => ro r
def IsR : Fl → Prop
  | .rt _ => True
  | .rf _ => True
  | .rg _ => True
  | _ => False
abbrev Jd.fl (J : Jd) (F : Hp) : Jd := { J with c := { J.c with Fl := F } }
theorem flP_fl {J : Jd} {F : Hp} {D D' : Ends} {o : Fl} (ho : IsR o) (h : FlP J D o) (e : D'.rt = D.rt) : FlP (J.fl F) D' o := by
  cases o with
  | rt d => exact fun v G H ed r => by rw [e]; exact h v G H ⟨ed.bg, ed.gh, ed.h0, ed.sep, ed.th⟩ r
  | rf d => exact fun p vs G H ed n g q r => by rw [e]; exact h p vs G H ⟨ed.bg, ed.gh, ed.h0, ed.sep, ed.th⟩ n g q r
  | rg R => exact fun v f G H ed r nd n => by rw [e]; exact h v f G H ⟨ed.bg, ed.gh, ed.h0, ed.sep, ed.th⟩ r nd n
  | _ => exact ho.elim
theorem SatG.flo {K : PySem.W.Frag} {c : Bs} {Γ : List Sl} {G H F : Hp} {σ : L2.St} (S : SatG K c Γ G σ H) (e : Ex F G) : SatG K { c with Fl := F } Γ G σ H := ⟨S.bg, S.gh, S.h0, S.th, S.sep, e, S.sl⟩
theorem SatG.unflo {K : PySem.W.Frag} {c : Bs} {Γ : List Sl} {G H F : Hp} {σ : L2.St} (S : SatG K { c with Fl := F } Γ G σ H) (e : Ex c.Fl F) : SatG K c Γ G σ H := ⟨S.bg, S.gh, S.h0, S.th, S.sep, e.trans S.fl, S.sl⟩
section
variable {J : Jd} {Γ : List Sl} {a b c e tg it : Expr} {body : List Stmt} {pos p p2 : Pos} {α σ ρ : Type} [Enc α]
/-- a loop over what is walked, in full -/
theorem BS.forC {mi : R (List α)} {g : TG} {js : List Nat} {up : List Sl → α → List Sl} {f : σ → α → R (Ct σ ρ)} (hit : IT J Γ tg it mi) (hg : PG J.X tg g) (ht : TgS J.K g js up) (Gf : σ → List Sl) (ro : ρ → Fl) (s0 : σ) (hr : ∀ r, IsR (ro r)) (w : Wk Γ (Gf s0))
    (hp : PeOk J Γ) (hb : ∀ (F : Hp) (s : σ) (x : α), BD (J.fl F) (up (Gf s) x) body (f s x) (ctB Gf ro)) (hc : J.X.calm = true := by rfl) (hs : ∀ x, foldedSetIterable it J.X.env x = pure x := by intro _; rfl) :
    BS J Γ (.For tg it body [] pos) (mi.bind fun xs => loopC f xs s0) (ctA Gf ro) := by
  have hb' : PSs J.X body (fun D σ' H => ∃ F s x, tBD (J.fl F) (up (Gf s) x) (f s x) (ctB Gf ro) D σ' H) := ⟨fun pins s σ H D I ⟨F, s', x, q⟩ => (hb F s' x).ps.run pins s σ H D I q⟩
  refine ⟨ps_wk (ps_for J.po hc hit.pi hg hb' hs) fun D σ' H ⟨G, S, q⟩ => ⟨G, S, wp_mono (wp_bind.mp q) (fun xs k I G1 H1 g1 ok => ?_) fun n a z => erE_of hp z σ'⟩⟩
  refine ⟨fun i m σ2 H2 => m = xs.length - i ∧ i ≤ xs.length ∧ ∃ s G2, Sat (J.fl G1) (Gf s) G2 σ2 H2 ∧ (loopC f (xs.drop i) s).wp (fun b => FlP J D (ctA Gf ro b)) (ErB J),
    ⟨xs.length, by simp, Nat.zero_le _, s0, G1, ((S.gr g1).wk w).flo (Ex.refl _), k⟩, ?_⟩
  rintro i m σ2 H2 ⟨rfl, hi, s, G2, S2, k2⟩
  have e1 : Ex G1 H2 := S2.fl.trans S2.gh
  by_cases hlt : i < xs.length
  · refine .inr ⟨ok.go i H2 e1 hlt, fun σ' H' => xs.length - (i + 1) = xs.length - (i + 1) ∧ i + 1 ≤ xs.length ∧ ∃ s G2, Sat (J.fl G1) (Gf s) G2 σ' H' ∧ (loopC f (xs.drop (i + 1)) s).wp (fun b => FlP J D (ctA Gf ro b)) (ErB J),
      fun σ' H' h => ⟨xs.length - (i + 1), by omega, h⟩, fun x H' hy => ?_⟩
    obtain ⟨G3, g3, r3⟩ := ok.yld i H2 x H' xs[i] e1 hy (List.getElem?_eq_getElem hlt) G2 S2.fl S2.gh
    refine ht.sem _ σ2 H' G3 x xs[i] (Gf s) _ (S2.gr g3) r3 fun σ4 _ S4 => ⟨G1, s, xs[i], G3, S4, ?_⟩
    rw [List.drop_eq_getElem_cons hlt] at k2
    refine wp_mono (wp_bind.mp k2) (fun r k3 => ?_) fun _ _ z => z
    cases r with
    | nx s' => exact fun G σ H S => ⟨rfl, hlt, s', G, S, k3⟩
    | bk s' => exact fun G σ H S' => k3 G σ H (S'.unflo (S.fl.trans g1.gg))
    | rt r => exact flP_fl (hr r) k3 rfl
  · have ei : i = xs.length := by omega
    subst ei
    rw [List.drop_length] at k2
    exact .inl ⟨ok.stop H2 e1, k2 G2 σ2 H2 (S2.unflo (S.fl.trans g1.gg))⟩
/-- .. that only folds -/
theorem BS.forF {mi : R (List α)} {g : TG} {js : List Nat} {up : List Sl → α → List Sl} {f : σ → α → R σ} (hit : IT J Γ tg it mi) (hg : PG J.X tg g) (ht : TgS J.K g js up) (Gf : σ → List Sl) (s0 : σ) (w : Wk Γ (Gf s0))
    (hp : PeOk J Γ) (hb : ∀ (F : Hp) (s : σ) (x : α), BD (J.fl F) (up (Gf s) x) body (f s x) (fun s' => .nx (Gf s'))) (hc : J.X.calm = true := by rfl) (hs : ∀ x, foldedSetIterable it J.X.env x = pure x := by intro _; rfl) :
    BS J Γ (.For tg it body [] pos) (mi.bind fun xs => loopF f xs s0) (fun s => .nx (Gf s)) := by
  have hb' : PSs J.X body (fun D σ' H => ∃ F s x, tBD (J.fl F) (up (Gf s) x) (f s x) (fun s' => .nx (Gf s')) D σ' H) := ⟨fun pins s σ H D I ⟨F, s', x, q⟩ => (hb F s' x).ps.run pins s σ H D I q⟩
  refine ⟨ps_wk (ps_for J.po hc hit.pi hg hb' hs) fun D σ' H ⟨G, S, q⟩ => ⟨G, S, wp_mono (wp_bind.mp q) (fun xs k I G1 H1 g1 ok => ?_) fun n a z => erE_of hp z σ'⟩⟩
  refine ⟨fun i m σ2 H2 => m = xs.length - i ∧ i ≤ xs.length ∧ ∃ s G2, Sat (J.fl G1) (Gf s) G2 σ2 H2 ∧ (loopF f (xs.drop i) s).wp (fun b => FlP J D (.nx (Gf b))) (ErB J),
    ⟨xs.length, by simp, Nat.zero_le _, s0, G1, ((S.gr g1).wk w).flo (Ex.refl _), k⟩, ?_⟩
  rintro i m σ2 H2 ⟨rfl, hi, s, G2, S2, k2⟩
  have e1 : Ex G1 H2 := S2.fl.trans S2.gh
  by_cases hlt : i < xs.length
  · refine .inr ⟨ok.go i H2 e1 hlt, fun σ' H' => xs.length - (i + 1) = xs.length - (i + 1) ∧ i + 1 ≤ xs.length ∧ ∃ s G2, Sat (J.fl G1) (Gf s) G2 σ' H' ∧ (loopF f (xs.drop (i + 1)) s).wp (fun b => FlP J D (.nx (Gf b))) (ErB J),
      fun σ' H' h => ⟨xs.length - (i + 1), by omega, h⟩, fun x H' hy => ?_⟩
    obtain ⟨G3, g3, r3⟩ := ok.yld i H2 x H' xs[i] e1 hy (List.getElem?_eq_getElem hlt) G2 S2.fl S2.gh
    refine ht.sem _ σ2 H' G3 x xs[i] (Gf s) _ (S2.gr g3) r3 fun σ4 _ S4 => ⟨G1, s, xs[i], G3, S4, ?_⟩
    rw [List.drop_eq_getElem_cons hlt] at k2
    exact wp_mono (wp_bind.mp k2) (fun s' k3 => fun G σ H S => ⟨rfl, hlt, s', G, S, k3⟩) fun _ _ z => z
  · have ei : i = xs.length := by omega
    subst ei
    rw [List.drop_length] at k2
    exact .inl ⟨ok.stop H2 e1, k2 G2 σ2 H2 (S2.unflo (S.fl.trans g1.gg))⟩
def opB {ρ : Type} (Γ : List Sl) (ro : ρ → Fl) : Option ρ → Fl
  | none => .nx Γ
  | some r => ro r
/-- .. that searches: nothing is carried from turn to turn -/
theorem BS.forS {mi : R (List α)} {g : TG} {js : List Nat} {up : List Sl → α → List Sl} {f : α → R (Option ρ)} (hit : IT J Γ tg it mi) (hg : PG J.X tg g) (ht : TgS J.K g js up) (Γ1 : List Sl) (ro : ρ → Fl) (hr : ∀ r, IsR (ro r)) (w : Wk Γ Γ1)
    (hp : PeOk J Γ) (hb : ∀ (F : Hp) (x : α), BD (J.fl F) (up Γ1 x) body (f x) (opB Γ1 ro)) (hc : J.X.calm = true := by rfl) (hs : ∀ x, foldedSetIterable it J.X.env x = pure x := by intro _; rfl) :
    BS J Γ (.For tg it body [] pos) (mi.bind fun xs => loopS f xs) (opB Γ1 ro) := by
  have hb' : PSs J.X body (fun D σ' H => ∃ F x, tBD (J.fl F) (up Γ1 x) (f x) (opB Γ1 ro) D σ' H) := ⟨fun pins s σ H D I ⟨F, x, q⟩ => (hb F x).ps.run pins s σ H D I q⟩
  refine ⟨ps_wk (ps_for J.po hc hit.pi hg hb' hs) fun D σ' H ⟨G, S, q⟩ => ⟨G, S, wp_mono (wp_bind.mp q) (fun xs k I G1 H1 g1 ok => ?_) fun n a z => erE_of hp z σ'⟩⟩
  refine ⟨fun i m σ2 H2 => m = xs.length - i ∧ i ≤ xs.length ∧ ∃ G2, Sat (J.fl G1) Γ1 G2 σ2 H2 ∧ (loopS f (xs.drop i)).wp (fun b => FlP J D (opB Γ1 ro b)) (ErB J),
    ⟨xs.length, by simp, Nat.zero_le _, G1, ((S.gr g1).wk w).flo (Ex.refl _), k⟩, ?_⟩
  rintro i m σ2 H2 ⟨rfl, hi, G2, S2, k2⟩
  have e1 : Ex G1 H2 := S2.fl.trans S2.gh
  by_cases hlt : i < xs.length
  · refine .inr ⟨ok.go i H2 e1 hlt, fun σ' H' => xs.length - (i + 1) = xs.length - (i + 1) ∧ i + 1 ≤ xs.length ∧ ∃ G2, Sat (J.fl G1) Γ1 G2 σ' H' ∧ (loopS f (xs.drop (i + 1))).wp (fun b => FlP J D (opB Γ1 ro b)) (ErB J),
      fun σ' H' h => ⟨xs.length - (i + 1), by omega, h⟩, fun x H' hy => ?_⟩
    obtain ⟨G3, g3, r3⟩ := ok.yld i H2 x H' xs[i] e1 hy (List.getElem?_eq_getElem hlt) G2 S2.fl S2.gh
    refine ht.sem _ σ2 H' G3 x xs[i] Γ1 _ (S2.gr g3) r3 fun σ4 _ S4 => ⟨G1, xs[i], G3, S4, ?_⟩
    rw [List.drop_eq_getElem_cons hlt] at k2
    refine wp_mono (wp_bind.mp k2) (fun r k3 => ?_) fun _ _ z => z
    cases r with
    | none => exact fun G σ H S => ⟨rfl, hlt, G, S, k3⟩
    | some r => exact flP_fl (hr r) k3 rfl
  · have ei : i = xs.length := by omega
    subst ei
    rw [List.drop_length] at k2
    exact .inl ⟨ok.stop H2 e1, k2 G2 σ2 H2 (S2.unflo (S.fl.trans g1.gg))⟩
/-! #### while -/
theorem BS.whC {c : Expr} {cM : σ → R Bool} {f : σ → R (Ct σ ρ)} (Gf : σ → List Sl) (ro : ρ → Fl) (s0 : σ) (n : Nat) (hr : ∀ r, IsR (ro r)) (w : Wk Γ (Gf s0)) (hp : ∀ s, PeOk J (Gf s)) (ht : ∀ s, ET J (Gf s) c (cM s)) (hb : ∀ s, BD J (Gf s) body (f s) (ctB Gf ro)) :
    BS J Γ (.While c body [] pos) (whileC cM f n s0) (ctA Gf ro) := by
  have ht' : PT J.X c (fun σ' H Q => ∃ s, tB J (Gf s) (cM s) σ' H Q) := ⟨fun pins s σ H Q I ⟨s', q⟩ => (ht s').pt.run pins s σ H Q I q⟩
  have hb' : PSs J.X body (fun D σ' H => ∃ s, tBD J (Gf s) (f s) (ctB Gf ro) D σ' H) := ⟨fun pins s σ H D I ⟨s', q⟩ => (hb s').ps.run pins s σ H D I q⟩
  refine ⟨ps_wk (ps_while J.po ht' hb') fun D σ' H ⟨G, S, q⟩ => ?_⟩
  refine ⟨fun m σ2 H2 => ∃ s G2, Sat J (Gf s) G2 σ2 H2 ∧ (whileC cM f m s).wp (fun b => FlP J D (ctA Gf ro b)) (ErB J), ⟨n, s0, G, S.wk w, q⟩, ?_⟩
  rintro m σ2 H2 ⟨s, G2, S2, k2⟩
  cases m with
  | zero => exact k2.elim
  | succ m =>
    refine ⟨s, G2, S2, wp_mono (wp_bind.mp k2) (fun b k3 G3 H3 g3 => ?_) fun n a z => erE_of (hp s) z σ2⟩
    cases b with
    | true =>
      refine ⟨fun σ4 H4 => ∃ s G2, Sat J (Gf s) G2 σ4 H4 ∧ (whileC cM f m s).wp (fun b => FlP J D (ctA Gf ro b)) (ErB J), fun σ4 H4 h => ⟨m, Nat.lt_succ_self _, h⟩, s, G3, S2.gr g3, wp_mono (wp_bind.mp k3) (fun r k4 => ?_) fun _ _ z => z⟩
      cases r with
      | nx s' => exact fun G σ H S => ⟨s', G, S, k4⟩
      | bk s' => exact k4
      | rt r =>
        have h := hr r
        have k5 : FlP J D (ro r) := k4
        show FlP J _ (ro r)
        revert k5 h
        cases ro r with
        | rt d => exact fun _ k => k
        | rf d => exact fun _ k => k
        | rg d => exact fun _ k => k
        | _ => exact fun h _ => h.elim
    | false => exact k3 G3 σ2 H3 (S2.gr g3)
theorem BS.whF {c : Expr} {cM : σ → R Bool} {f : σ → R σ} (Gf : σ → List Sl) (s0 : σ) (n : Nat) (w : Wk Γ (Gf s0)) (hp : ∀ s, PeOk J (Gf s)) (ht : ∀ s, ET J (Gf s) c (cM s)) (hb : ∀ s, BD J (Gf s) body (f s) (fun s' => .nx (Gf s'))) :
    BS J Γ (.While c body [] pos) (whileF cM f n s0) (fun s => .nx (Gf s)) := by
  have ht' : PT J.X c (fun σ' H Q => ∃ s, tB J (Gf s) (cM s) σ' H Q) := ⟨fun pins s σ H Q I ⟨s', q⟩ => (ht s').pt.run pins s σ H Q I q⟩
  have hb' : PSs J.X body (fun D σ' H => ∃ s, tBD J (Gf s) (f s) (fun s' => .nx (Gf s')) D σ' H) := ⟨fun pins s σ H D I ⟨s', q⟩ => (hb s').ps.run pins s σ H D I q⟩
  refine ⟨ps_wk (ps_while J.po ht' hb') fun D σ' H ⟨G, S, q⟩ => ?_⟩
  refine ⟨fun m σ2 H2 => ∃ s G2, Sat J (Gf s) G2 σ2 H2 ∧ (whileF cM f m s).wp (fun b => FlP J D (.nx (Gf b))) (ErB J), ⟨n, s0, G, S.wk w, q⟩, ?_⟩
  rintro m σ2 H2 ⟨s, G2, S2, k2⟩
  cases m with
  | zero => exact k2.elim
  | succ m =>
    refine ⟨s, G2, S2, wp_mono (wp_bind.mp k2) (fun b k3 G3 H3 g3 => ?_) fun n a z => erE_of (hp s) z σ2⟩
    cases b with
    | true => exact ⟨fun σ4 H4 => ∃ s G2, Sat J (Gf s) G2 σ4 H4 ∧ (whileF cM f m s).wp (fun b => FlP J D (.nx (Gf b))) (ErB J), fun σ4 H4 h => ⟨m, Nat.lt_succ_self _, h⟩, s, G3, S2.gr g3, wp_mono (wp_bind.mp k3) (fun s' k4 => fun G σ H S => ⟨s', G, S, k4⟩) fun _ _ z => z⟩
    | false => exact k3 G3 σ2 H3 (S2.gr g3)
end
/-! ### 12. returns, ifs, changes of lists -/
/-- a block that leaves: its end is none that goes on -/
def Lv : Fl → Prop
  | .nx _ => False
  | _ => True
structure BX (J : Jd) (Γ : List Sl) (sts : List Stmt) {β : Type} (m : R β) (out : β → Fl) : Prop where
  bd : BD J Γ sts m out
  lv : ∀ b, m = .ok b → Lv (out b)
theorem bind_eq {α β : Type} {m : R α} {k : α → R β} {b : β} (h : m.bind k = .ok b) : ∃ a, m = .ok a ∧ k a = .ok b := by
  cases m with
  | ok a => exact ⟨a, rfl, h⟩
  | stuck => cases h
  | exc n a => cases h
theorem flP_lv {J : Jd} {D D' : Ends} {o : Fl} (hl : Lv o) (h : FlP J D o) (e1 : D'.rt = D.rt) (e2 : D'.bk = D.bk) (e3 : D'.ct = D.ct) : FlP J D' o := by
  cases o with
  | nx _ => exact hl.elim
  | bk Γ => exact fun G σ H S => by rw [e2]; exact h G σ H S
  | ct Γ => exact fun G σ H S => by rw [e3]; exact h G σ H S
  | rt d => exact fun v G H ed r => by rw [e1]; exact h v G H ed r
  | rf d => exact fun p vs G H ed n g q r => by rw [e1]; exact h p vs G H ed n g q r
  | rg R => exact fun v f G H ed r nd n => by rw [e1]; exact h v f G H ed r nd n
  | bad => exact h
section
variable {J : Jd} {Γ Γ' : List Sl} {a b c e : Expr} {st : Stmt} {A B sts rest : List Stmt} {pos p p2 : Pos} {α β γ τ ρ : Type} [Enc α] [Enc γ] [Enc ρ] {x : Str} {out : β → Fl}
theorem BD.ret {m : R α} (h : ES J Γ e m) (hp : PeOk J Γ) (j : α → β) (hj : ∀ a, out (j a) = .rt (enc a) := by intro _; rfl) : BD J Γ [.Return (some e) pos] (m.bind fun a => .ok (j a)) out :=
  ⟨pss_one (ps_wk (ps_ret h.pe) fun D σ H ⟨G, S, q⟩ => ⟨G, S, wp_mono (wp_bind.mp q) (fun a k v G' H' g r => by
    have k' : FlP J D (out (j a)) := k
    rw [hj] at k'
    exact k' v G' H' (S.gr g).ed r) fun n a z => erE_of hp z σ⟩)⟩
theorem BD.ret0 {out : α → Fl} {m : R α} (h : ES J Γ e m) (hp : PeOk J Γ) (hj : ∀ a, out a = .rt (enc a) := by intro _; rfl) : BD J Γ [.Return (some e) pos] m out := by
  have h := BD.ret (pos := pos) (out := out) h hp (fun a => a) hj
  rw [show (m.bind fun a => R.ok a) = m from bind_ok m] at h
  exact h
theorem BX.ret0 {out : α → Fl} {m : R α} (h : ES J Γ e m) (hp : PeOk J Γ) (hj : ∀ a, out a = .rt (enc a) := by intro _; rfl) : BX J Γ [.Return (some e) pos] m out := ⟨BD.ret0 h hp hj, fun b _ => by rw [hj]; trivial⟩
theorem BX.ret {m : R α} (h : ES J Γ e m) (hp : PeOk J Γ) (j : α → β) (hj : ∀ a, out (j a) = .rt (enc a) := by intro _; rfl) : BX J Γ [.Return (some e) pos] (m.bind fun a => .ok (j a)) out :=
  ⟨BD.ret h hp j hj, fun b hb => by
    obtain ⟨a, _, e⟩ := bind_eq hb
    cases e
    rw [hj]; trivial⟩
theorem BD.retF {m : R (List α)} (h : EF J Γ e m) (hp : PeOk J Γ) (j : List α → β) (hj : ∀ a, out (j a) = .rf (a.map enc) := by intro _; rfl) : BD J Γ [.Return (some e) pos] (m.bind fun a => .ok (j a)) out :=
  ⟨pss_one (ps_wk (ps_ret h.pe) fun D σ H ⟨G, S, q⟩ => ⟨G, S, wp_mono (wp_bind.mp q) (fun a k p vs G' H' g n n' hq r => by
    have k' : FlP J D (out (j a)) := k
    rw [hj] at k'
    refine k' p vs G' H' (S.gr g).ed ?_ n' hq r
    cases q0 : J.c.H0 p with
    | none => rfl
    | some o =>
      obtain ⟨u, hu⟩ := S.th p o q0
      rw [n] at hu; cases hu) fun n a z => erE_of hp z σ⟩)⟩
theorem BD.retF0 {out : List α → Fl} {m : R (List α)} (h : EF J Γ e m) (hp : PeOk J Γ) (hj : ∀ a, out a = .rf (a.map enc) := by intro _; rfl) : BD J Γ [.Return (some e) pos] m out := by
  have h := BD.retF (pos := pos) (out := out) h hp (fun a => a) hj
  rw [show (m.bind fun a => R.ok a) = m from bind_ok m] at h
  exact h
theorem BX.retF0 {out : List α → Fl} {m : R (List α)} (h : EF J Γ e m) (hp : PeOk J Γ) (hj : ∀ a, out a = .rf (a.map enc) := by intro _; rfl) : BX J Γ [.Return (some e) pos] m out := ⟨BD.retF0 h hp hj, fun b _ => by rw [hj]; trivial⟩
theorem BX.retF {m : R (List α)} (h : EF J Γ e m) (hp : PeOk J Γ) (j : List α → β) (hj : ∀ a, out (j a) = .rf (a.map enc) := by intro _; rfl) : BX J Γ [.Return (some e) pos] (m.bind fun a => .ok (j a)) out :=
  ⟨BD.retF h hp j hj, fun b hb => by
    obtain ⟨a, _, e⟩ := bind_eq hb
    cases e
    rw [hj]; trivial⟩
/-- a list of one's own is handed back -/
theorem BD.retO {i : Nat} {xs : List α} (hN : J.X.N[i]? = some x) (hG : Γ[i]? = some (.ow (xs.map enc))) (nf : J.c.F0 = []) (j : β) (hj : out j = .rf (xs.map enc) := by rfl) (hv : Vis J.X.env.scope x := by first | exact Or.inl rfl | exact Or.inr (Or.inl rfl) | exact Or.inr (Or.inr rfl))
    (hd : (x == ("__debug__" : Str)) = false := by decide) (hcd : (x == ("__classdict__" : Str)) = false := by decide) : BD J Γ [.Return (some (.Name x p)) pos] (.ok j) out :=
  ⟨pss_one (ps_wk (ps_ret (pe_var hN hv hd hcd)) fun D σ H ⟨G, S, q⟩ => by
    have q' : FlP J D (out j) := q
    rw [hj] at q'
    obtain ⟨o, f, e1, ⟨l, vs, rfl, rfl, h1, h2⟩, h3⟩ := S.get hG
    obtain ⟨g1, n1⟩ := h3 l (by simp)
    refine ⟨.ref l, e1, q' l vs G H S.ed ?_ g1 h1 h2⟩
    rcases n1 with z | z
    · rw [nf] at z; cases z
    · exact z)⟩
theorem BX.retO {i : Nat} {xs : List α} (hN : J.X.N[i]? = some x) (hG : Γ[i]? = some (.ow (xs.map enc))) (nf : J.c.F0 = []) (j : β) (hj : out j = .rf (xs.map enc) := by rfl) (hv : Vis J.X.env.scope x := by first | exact Or.inl rfl | exact Or.inr (Or.inl rfl) | exact Or.inr (Or.inr rfl))
    (hd : (x == ("__debug__" : Str)) = false := by decide) (hcd : (x == ("__classdict__" : Str)) = false := by decide) : BX J Γ [.Return (some (.Name x p)) pos] (.ok j) out := ⟨BD.retO hN hG nf j hj hv hd hcd, fun b hb => by cases hb; rw [hj]; trivial⟩
theorem BX.brk {b0 : β} (ho : out b0 = .bk Γ') (w : Wk Γ Γ') : BX J Γ [.Break pos] (.ok b0) out := ⟨⟨pss_one (ps_wk ps_break fun D σ H ⟨G, S, q⟩ => by
  have q' : FlP J D (out b0) := q
  rw [ho] at q'
  exact q' G σ H (S.wk w))⟩, fun b hb => by cases hb; rw [ho]; trivial⟩
theorem BX.seq {δ : Type} {m1 : R δ} {out1 : δ → Fl} {k : δ → R β} {G1 : δ → List Sl} (h1 : BS J Γ st m1 out1) (ho : ∀ a, out1 a = .nx (G1 a)) (h2 : ∀ a, BX J (G1 a) rest (k a) out) : BX J Γ (st :: rest) (m1.bind k) out :=
  ⟨BD.seq h1 ho fun a => (h2 a).bd, fun b hb => by
    obtain ⟨a, _, e⟩ := bind_eq hb
    exact (h2 a).lv b e⟩
theorem BX.wk {m : R β} (h : BX J Γ' sts m out) (w : Wk Γ Γ') : BX J Γ sts m out := ⟨h.bd.wk w, h.lv⟩
/-- where no end goes on -/
theorem BD.bx {m : R β} (h : BD J Γ sts m out) (hl : ∀ b, Lv (out b)) : BX J Γ sts m out := ⟨h, fun b _ => hl b⟩
/-- if c: A, which leaves; then the rest -/
theorem BD.ifR {mc : R Bool} {mA mR : R β} (hc : ET J Γ c mc) (hp : PeOk J Γ) (hA : BX J Γ A mA out) (hR : BD J Γ rest mR out) : BD J Γ (.If c A [] pos :: rest) (mc.bind fun b => if b = true then mA else mR) out :=
  ⟨pss_wk (pss_cons (ps_if hc.pt hA.bd.ps pss_nil) hR.ps) fun D σ H ⟨G, S, q⟩ => ⟨G, S, wp_mono (wp_bind.mp q) (fun b k G' H' g => by
    cases b with
    | true =>
      show tBD J Γ mA out _ σ H'
      have k' : mA.wp (fun b => FlP J D (out b)) (ErB J) := k
      refine ⟨G', S.gr g, ?_⟩
      cases hm : mA with
      | ok b => rw [hm] at k'; exact flP_lv (hA.lv b hm) k' rfl rfl rfl
      | stuck => rw [hm] at k'; exact k'
      | exc n a => rw [hm] at k'; exact k'
    | false => exact ⟨G', S.gr g, k⟩) fun n a z => erE_of hp z σ⟩⟩
theorem BX.ifR {mc : R Bool} {mA mR : R β} (hc : ET J Γ c mc) (hp : PeOk J Γ) (hA : BX J Γ A mA out) (hR : BX J Γ rest mR out) : BX J Γ (.If c A [] pos :: rest) (mc.bind fun b => if b = true then mA else mR) out :=
  ⟨BD.ifR hc hp hA hR.bd, fun b hb => by
    obtain ⟨d, _, e⟩ := bind_eq hb
    cases d with
    | true => exact hA.lv b e
    | false => exact hR.lv b e⟩
/-- if c: A else: B -/
theorem BS.ifE {mc : R Bool} {mA mB : R β} (hc : ET J Γ c mc) (hp : PeOk J Γ) (hA : BD J Γ A mA out) (hB : BD J Γ B mB out) : BS J Γ (.If c A B pos) (mc.bind fun b => if b = true then mA else mB) out :=
  ⟨ps_wk (ps_if hc.pt hA.ps hB.ps) fun D σ H ⟨G, S, q⟩ => ⟨G, S, wp_mono (wp_bind.mp q) (fun b k G' H' g => by
    cases b with
    | true => exact ⟨G', S.gr g, k⟩
    | false => exact ⟨G', S.gr g, k⟩) fun n a z => erE_of hp z σ⟩⟩
theorem BS.toBD {m : R β} (h : BS J Γ st m out) : BD J Γ [st] m out := ⟨pss_one h.ps⟩
theorem BX.ifE {mc : R Bool} {mA mB : R β} (hc : ET J Γ c mc) (hp : PeOk J Γ) (hA : BX J Γ A mA out) (hB : BX J Γ B mB out) : BX J Γ [.If c A B pos] (mc.bind fun b => if b = true then mA else mB) out :=
  ⟨(BS.ifE hc hp hA.bd hB.bd).toBD, fun b hb => by
    obtain ⟨d, _, e⟩ := bind_eq hb
    cases d with
    | true => exact hA.lv b e
    | false => exact hB.lv b e⟩
/-- x, y = e -/
theorem BS.asgT {m : R α} {g : TG} {js : List Nat} {up : List Sl → α → List Sl} {tg : Expr} (h : ES J Γ e m) (hg : PG J.X tg g) (ht : TgS J.K g js up) (hp : PeOk J Γ) (hs : swapsWithSole [tg] e pos.line J.X.env = pure false := by rfl) (hw : swappedStores [tg] e J.X.env = pure none := by rfl)
    (h1 : (assignEach [tg] J.X.env).map (·.2) = [assign tg J.X.env] := by rfl) : BS J Γ (.Assign [tg] e pos) m (fun a => .nx (up Γ a)) :=
  ⟨ps_wk (ps_asg h.pe hg hs hw h1) fun D σ H ⟨G, S, q⟩ => ⟨G, S, wp_mono q (fun a k v G' H' g' r => ht.sem _ σ H' G' v a Γ _ (S.gr g') r fun σ' _ S' => k G' σ' H' S') fun n a z => erE_of hp z σ⟩⟩
/-- x += e of ints -/
theorem BS.aug {op : Operator} {f : Int → Int → Int} {i : Nat} {y : Int} {m : R Int} (ho : PIp J.X op (ipI f)) (h : ES J Γ e m) (hp : PeOk J Γ) (hG : Γ[i]? = some (.va (enc y))) (hN : J.X.N.Nodup) (hi : J.X.N[i]? = some x) (hx : Loc J.X.env.scope x) (hf : J.X.fn x = true ∨ J.X.env.scope.names.lookup x = some .local := by first | exact .inl rfl | exact .inr rfl) :
    BS J Γ (.AugAssign (.Name x p) op e pos) (m.bind fun z => .ok (f y z)) (fun a => .nx (Γ.set i (.va (enc a)))) :=
  ⟨ps_wk (ps_aug hN hi hx h.pe ho hf) fun D σ H ⟨G, S, q⟩ => by
    obtain ⟨v, e1, r1⟩ := S.va hG
    have e2 := Rp.unint r1
    subst e2
    refine ⟨.int y, e1, G, S, wp_mono (wp_bind.mp q) (fun z k v G' H' g r => ?_) fun n a z => erE_of hp z σ⟩
    have e3 := Rp.unint r
    subst e3
    exact ⟨y, z, rfl, rfl, k G' _ H' ((S.gr g).setva (d := .int (f y z)) .int)⟩⟩
/-- an expression whose value is dropped -/
theorem BS.drop {m : R α} (h : ES J Γ e m) (hp : PeOk J Γ) (hs : swapsWith e none pos.line J.X.env = pure false := by rfl) : BS J Γ (.Expr e pos) m (fun _ => .nx Γ) :=
  ⟨ps_wk (ps_expr h.pe hs) fun D σ H ⟨G, S, q⟩ => ⟨G, S, wp_mono q (fun a k v G' H' g r => k G' σ H' (S.gr g)) fun n a z => erE_of hp z σ⟩⟩
/-- a list may still grow -/
noncomputable def pushM {α : Type} (xs : List α) (a : α) : R (List α) := @ite _ (xs.length < 16777216) (Classical.propDecidable _) (.ok (xs ++ [a])) .stuck
/-- xs.append(e); hc: the call's own rule -/
theorem BS.app {i : Nat} {xs : List α} {m : R α} {call : Expr} (hc : ∀ te, PE J.X e te → PE J.X call (tBM J.X.K "list" rAppend (tVar i) (tCons te tNil))) (h : ES J Γ e m) (hp : PeOk J Γ) (hG : Γ[i]? = some (.ow (xs.map enc))) (hs : swapsWith call none p2.line J.X.env = pure false := by rfl) :
    BS J Γ (.Expr call p2) (m.bind fun a => pushM xs a) (fun ys => .nx (Γ.set i (.ow (ys.map enc)))) :=
  ⟨ps_wk (ps_expr (hc _ h.pe) hs) fun D σ H ⟨G, S, q⟩ => by
    obtain ⟨l, vs, e1, hl, r, gl⟩ := S.ow hG
    refine ⟨.ref l, e1, .inl ⟨rfl, _, .inl (.inl hl)⟩, G, S, wp_mono (wp_bind.mp q) (fun a k v G' H' g ra => ?_) fun n a z => erE_of hp z σ⟩
    unfold pushM at k
    by_cases hz : xs.length < 16777216
    · rw [if_pos hz] at k
      refine ⟨l, vs, v, rfl, rfl, g.hh _ _ hl, szlt.mpr (by rw [r.length, List.length_map]; exact hz), ?_⟩
      refine k G' σ _ ((S.gr g).mut hG e1 ?_)
      rw [List.map_append]
      exact (r.ex g.gg).append (.cons ra .nil)
    · rw [if_neg hz] at k; exact k.elim⟩
/-- xs[k] = e -/
def setM {α : Type} (xs : List α) (i : Int) (a : α) : R (List α) := match ixN xs.length i with
  | some j => .ok (xs.set j a)
  | none => .stuck
theorem BS.setI {i : Nat} {xs : List α} {m : R α} {mk : R Int} (h : ES J Γ e m) (h2 : ES J Γ b mk) (hp : PeOk J Γ) (hN : J.X.N[i]? = some x) (hG : Γ[i]? = some (.ow (xs.map enc))) (hv : Vis J.X.env.scope x := by first | exact Or.inl rfl | exact Or.inr (Or.inl rfl) | exact Or.inr (Or.inr rfl))
    (hd : (x == ("__debug__" : Str)) = false := by decide) (hcd : (x == ("__classdict__" : Str)) = false := by decide)
    (ha : ∀ v, assign (.Subscript (.Name x p) b p2) J.X.env v = (do
      let ov ← holding [v] (eval (.Name x p) J.X.env)
      let iv ← holding [v, ov] (eval b J.X.env)
      standAt p2
      holding [v, ov, iv] (setItem ov iv v)
      release [v, ov, iv] []) := by intro _; rfl) (hs : swapsWithSole [.Subscript (.Name x p) b p2] e pos.line J.X.env = pure false := by rfl) (hw : swappedStores [.Subscript (.Name x p) b p2] e J.X.env = pure none := by rfl)
    (h1 : (assignEach [.Subscript (.Name x p) b p2] J.X.env).map (·.2) = [assign (.Subscript (.Name x p) b p2) J.X.env] := by rfl) :
    BS J Γ (.Assign [.Subscript (.Name x p) b p2] e pos) (m.bind fun a => mk.bind fun k => setM xs k a) (fun ys => .nx (Γ.set i (.ow (ys.map enc)))) :=
  ⟨ps_wk (ps_asg h.pe (pg_sub (pe_var hN hv hd hcd) h2.pe set_list ha) hs hw h1) fun D σ H ⟨G, S, q⟩ => ⟨G, S, wp_mono (wp_bind.mp q) (fun a k v G1 H1 g1 ra => by
    have S1 := S.gr g1
    obtain ⟨l, vs, e1, hl, r, gl⟩ := S1.ow hG
    refine ⟨.ref l, e1, G1, S1, wp_mono (wp_bind.mp k) (fun z k2 w G2 H2 g2 rz => ?_) fun n a z => erE_of hp z σ⟩
    have ez := Rp.unint rz
    subst ez
    unfold setM at k2
    cases hj : ixN xs.length z with
    | none => rw [hj] at k2; exact k2.elim
    | some j =>
      rw [hj] at k2
      refine ⟨l, vs, z, j, rfl, rfl, g2.hh _ _ hl, by rw [r.length, List.length_map]; exact hj, ?_⟩
      refine k2 G2 σ _ ((S1.gr g2).mut hG e1 ?_)
      rw [List.map_set]
      exact (r.ex g2.gg).set j (ra.ex g2.gg)) fun n a z => erE_of hp z σ⟩⟩
end
/-! #### behind a loop that may hand back -/
def opK {ρ β : Type} (k : R β) (j : ρ → β) : Option ρ → R β
  | none => k
  | some r => .ok (j r)
def ctK {σ ρ β : Type} (k : σ → R β) (j : ρ → β) : Ct σ ρ → R β
  | .nx s => k s
  | .bk s => k s
  | .rt r => .ok (j r)
/-- behind a loop that may break alone -/
def ctV {σ : Type} : Ct σ Empty → σ
  | .nx s => s
  | .bk s => s
  | .rt r => nomatch r
theorem isR_noNx {β : Type} {out : β → Fl} {b : β} (h : IsR (out b)) : noNx out b = out b := by
  unfold noNx
  revert h
  cases out b with
  | rt d => exact fun _ => rfl
  | rf d => exact fun _ => rfl
  | rg d => exact fun _ => rfl
  | _ => exact fun h => h.elim
section
variable {J : Jd} {Γ Γ' : List Sl} {st : Stmt} {rest sts : List Stmt} {β ρ σ : Type} {out : β → Fl}
theorem BD.seqS {Γ1 : List Sl} {ro : ρ → Fl} {m1 : R (Option ρ)} {k : R β} (j : ρ → β) (h1 : BS J Γ st m1 (opB Γ1 ro)) (h2 : BD J Γ1 rest k out) (hr : ∀ r, IsR (ro r) := by intro _; trivial) (hj : ∀ r, out (j r) = ro r := by intro _; rfl) : BD J Γ (st :: rest) (m1.bind (opK k j)) out :=
  BD.seqX h1 fun a => match a with
    | none => .inl ⟨Γ1, rfl, h2⟩
    | some r => .inr ⟨j r, rfl, hj r, isR_noNx (out := opB Γ1 ro) (b := some r) (hr r)⟩
theorem BX.seqS {Γ1 : List Sl} {ro : ρ → Fl} {m1 : R (Option ρ)} {k : R β} (j : ρ → β) (h1 : BS J Γ st m1 (opB Γ1 ro)) (h2 : BX J Γ1 rest k out) (hr : ∀ r, IsR (ro r) := by intro _; trivial) (hj : ∀ r, out (j r) = ro r := by intro _; rfl) : BX J Γ (st :: rest) (m1.bind (opK k j)) out :=
  ⟨BD.seqS j h1 h2.bd hr hj, fun b hb => by
    obtain ⟨a, _, e⟩ := bind_eq hb
    cases a with
    | none => exact h2.lv b e
    | some r =>
      cases e
      have h := hr r
      rw [← hj r] at h
      revert h
      cases out (j r) with
      | rt d => exact fun _ => trivial
      | rf d => exact fun _ => trivial
      | rg d => exact fun _ => trivial
      | _ => exact fun h => h.elim⟩
theorem BD.seqC {Gf : σ → List Sl} {ro : ρ → Fl} {m1 : R (Ct σ ρ)} {k : σ → R β} (j : ρ → β) (h1 : BS J Γ st m1 (ctA Gf ro)) (h2 : ∀ s, BD J (Gf s) rest (k s) out) (hr : ∀ r, IsR (ro r) := by intro _; trivial) (hj : ∀ r, out (j r) = ro r := by intro _; rfl) : BD J Γ (st :: rest) (m1.bind (ctK k j)) out :=
  BD.seqX h1 fun a => match a with
    | .nx s => .inl ⟨Gf s, rfl, h2 s⟩
    | .bk s => .inl ⟨Gf s, rfl, h2 s⟩
    | .rt r => .inr ⟨j r, rfl, hj r, isR_noNx (out := ctA Gf ro) (b := .rt r) (hr r)⟩
theorem BX.seqC {Gf : σ → List Sl} {ro : ρ → Fl} {m1 : R (Ct σ ρ)} {k : σ → R β} (j : ρ → β) (h1 : BS J Γ st m1 (ctA Gf ro)) (h2 : ∀ s, BX J (Gf s) rest (k s) out) (hr : ∀ r, IsR (ro r) := by intro _; trivial) (hj : ∀ r, out (j r) = ro r := by intro _; rfl) : BX J Γ (st :: rest) (m1.bind (ctK k j)) out :=
  ⟨BD.seqC j h1 (fun s => (h2 s).bd) hr hj, fun b hb => by
    obtain ⟨a, _, e⟩ := bind_eq hb
    cases a with
    | nx s => exact (h2 s).lv b e
    | bk s => exact (h2 s).lv b e
    | rt r =>
      cases e
      have h := hr r
      rw [← hj r] at h
      revert h
      cases out (j r) with
      | rt d => exact fun _ => trivial
      | rf d => exact fun _ => trivial
      | rg d => exact fun _ => trivial
      | _ => exact fun h => h.elim⟩
/-- a loop that may break: what it carries -/
theorem BS.ctv {Gf : σ → List Sl} {ro : Empty → Fl} {m1 : R (Ct σ Empty)} (h1 : BS J Γ st m1 (ctA Gf ro)) : BS J Γ st (m1.bind fun c => .ok (ctV c)) (fun s => .nx (Gf s)) :=
  ⟨ps_wk h1.ps fun D σ H ⟨G, S, q⟩ => ⟨G, S, wp_mono (wp_bind.mp q) (fun a k => by
    cases a with
    | nx s => exact k
    | bk s => exact k
    | rt r => exact nomatch r) fun _ _ z => z⟩⟩
/-- the mirror in another form -/
theorem BD.cast {m m' : R β} (h : BD J Γ sts m' out) (e : m' = m) : BD J Γ sts m out := by subst e; exact h
end
/-! ### 13. comprehensions -/
def lcGo {α β : Type} (p : α → R Bool) (f : α → R β) : List α → R (List β)
  | [] => .ok []
  | x :: xs => (p x).noexc.bind fun b => if b = true then (f x).noexc.bind fun y => (lcGo p f xs).bind fun ys => .ok (y :: ys) else lcGo p f xs
def mpGo {α β : Type} (f : α → R β) : List α → R (List β)
  | [] => .ok []
  | x :: xs => (f x).noexc.bind fun y => (mpGo f xs).bind fun ys => .ok (y :: ys)
noncomputable def lcM {α β : Type} (p : α → R Bool) (f : α → R β) (xs : List α) : R (List β) := @ite _ (xs.length < 16777216) (Classical.propDecidable _) (lcGo p f xs) .stuck
noncomputable def mpM {α β : Type} (f : α → R β) (xs : List α) : R (List β) := @ite _ (xs.length < 16777216) (Classical.propDecidable _) (mpGo f xs) .stuck
theorem mpM_eq {α β : Type} (f : α → R β) (xs : List α) : mpM f xs = lcM (fun _ => .ok true) f xs := by
  have h : ∀ xs, mpGo f xs = lcGo (fun _ => .ok true) f xs := by
    intro xs
    induction xs with
    | nil => rfl
    | cons x xs ih => simp only [mpGo, lcGo, noexc_ok, ok_bind, if_true, ih]
  unfold mpM lcM
  rw [h]
def wipeG (Γ : List Sl) : List Nat → List Sl
  | [] => Γ
  | v :: vs => (wipeG Γ vs).set v .no
theorem SatG.wipe {K : PySem.W.Frag} {c : Bs} {Γ : List Sl} {G H : Hp} {σ : L2.St} (S : SatG K c Γ G σ H) : ∀ vs : List Nat, SatG K c (wipeG Γ vs) G (wipe σ vs) H
  | [] => S
  | v :: vs => (SatG.wipe S vs).setno
theorem wipe_get {σ : L2.St} {i : Nat} : ∀ {vs : List Nat}, (wipe σ vs)[i]? = if i ∈ vs then (if i < σ.length then some none else none) else σ[i]?
  | [] => by simp [wipe]
  | v :: vs => by
    unfold wipe
    rw [List.getElem?_set, wipe_length, wipe_get (vs := vs)]
    by_cases h1 : v = i
    · subst h1; simp
    · rw [if_neg h1]
      by_cases h2 : i ∈ vs
      · rw [if_pos h2, if_pos (List.mem_cons_of_mem _ h2)]
      · rw [if_neg h2, if_neg (by simp [h2, Ne.symm h1])]
theorem wipe_off {σ σ' : L2.St} {js vs : List Nat} (o : Off js (wipe σ vs) σ') (h : ∀ j ∈ js, j ∈ vs) : wipe σ' vs = wipe σ vs := by
  apply List.ext_getElem?
  intro i
  rw [wipe_get, wipe_get, o.1, wipe_length]
  by_cases hi : i ∈ vs
  · rw [if_pos hi, if_pos hi]
  · rw [if_neg hi, if_neg hi, o.2 i (fun z => hi (h i z)), wipe_get, if_neg hi]
abbrev Jd.bl (J : Jd) (F : Hp) (s : Shared) (H : Hp) (scope : Scope) (C : Addr) (cl : List (Str × Addr)) (fp : List Addr) : Jd :=
  ⟨J.X.blk s H scope (compEnvC scope cl C J.X.env) fp, { J.c with Fl := F }, fun _ _ _ _ => False, takes0, fun _ _ => True, J.T, PassesOwn.never⟩
/-- the tests of a comprehension -/
structure EI (J : Jd) (Γ : List Sl) (ifs : List Expr) (m : R Bool) : Prop where
  pt : PTs J.X ifs (tB J Γ m)
theorem EI.nil {J : Jd} {Γ : List Sl} : EI J Γ [] (.ok true) := ⟨⟨fun pins s σ H Q I ⟨G, S, w⟩ => pts_nil.run pins s σ H Q I (w G H (Gr.refl S.gh))⟩⟩
theorem EI.one {J : Jd} {Γ : List Sl} {c : Expr} {m : R Bool} (h : ET J Γ c m) : EI J Γ [c] m := ⟨pts_one h.pt⟩
section
variable {J : Jd} {Γ : List Sl} {elt tg it : Expr} {ifs : List Expr} {scope : Scope} {pos : Pos} {α β : Type} [Enc α] [Enc β]
def tSk (K : PySem.W.Frag) (c : Bs) (T : CT) (Γ : List Sl) {α : Type} [Enc α] (m : R α) : TE := fun σ H Q => ∃ G, SatG K c Γ G σ H ∧ m.wp (fun a => ∀ v G' H', Gr G H G' H' → Rp K G' v (enc a) → Q v H') (fun n a => ∀ G' H' cls d, SatG K c Γ G' σ H' → ExOk T n a cls d H' → False)
def tBk (K : PySem.W.Frag) (c : Bs) (T : CT) (Γ : List Sl) (m : R Bool) : TT := fun σ H Q => ∃ G, SatG K c Γ G σ H ∧ m.wp (fun a => ∀ G' H', Gr G H G' H' → Q a H') (fun n a => ∀ G' H' cls d, SatG K c Γ G' σ H' → ExOk T n a cls d H' → False)
theorem lc_go {mi : R (List α)} {g : TG} {js : List Nat} {up : List Sl → α → List Sl} {p : α → R Bool} {f : α → R β} (vs : List Nat) (ht : TgS J.K g js up) (hjs : ∀ j ∈ js, j ∈ vs) :
    ∀ σ H Q, tF J Γ (mi.bind fun xs => lcM p f xs) σ H Q → tLc (tI J Γ mi) g (fun σ H Q => ∃ F x, tBk J.K { J.c with Fl := F } J.T (up (wipeG Γ vs) x) (p x) σ H Q) (fun σ H Q => ∃ F x, tSk J.K { J.c with Fl := F } J.T (up (wipeG Γ vs) x) (f x) σ H Q) vs σ H Q := by
  intro σ H Q ⟨G, S, q⟩
  refine ⟨G, S, wp_mono (wp_bind.mp q) (fun xs k I G1 H1 g1 ok => ?_) fun n a z => z⟩
  intro Dl hD
  unfold lcM at k
  by_cases hz : xs.length < 16777216
  · rw [if_pos hz] at k
    have S1 := S.gr g1
    have hD0 : H Dl = none := ex_none g1.hh hD
    have gD : G1 Dl = none := ex_none g1.gh hD
    -- the invariant
    refine ⟨fun i m H' => m = xs.length - i ∧ i ≤ xs.length ∧ ∃ (ys : List β) (G' : Hp) (acc : List V), Gr G1 H1 G' H' ∧ G' Dl = none ∧ H' Dl = some (.lst acc) ∧ RpA J.K G' acc (ys.map enc) ∧ ys.length ≤ i ∧
      (lcGo p f (xs.drop i)).wp (fun zs => ∀ (l : Addr) (vs : List V) (G' H' : Hp), Gr G H G' H' → H l = none → G' l = none → H' l = some (.lst vs) → RpA J.K G' vs ((ys ++ zs).map enc) → Q (.ref l) H') (ErE J Γ σ), ⟨xs.length, by simp, Nat.zero_le _, [], G1, [], ?_, gD, upd_same, .nil, Nat.le_refl _, ?_⟩, ?_⟩
    · exact Gr.loose g1.gh hD
    · exact wp_mono k (fun zs k l vs G' H' g n n' hl r => k l vs G' H' g n n' hl (by simpa using r)) fun _ _ z => z
    rintro i m H' ⟨rfl, hi, ys, G', acc, g', gl, hl, hr, hys, k2⟩
    have e1 : Ex G1 H' := g'.gg.trans g'.gh
    by_cases hlt : i < xs.length
    · refine .inr ⟨ok.go i H' e1 hlt, fun H' => xs.length - (i + 1) = xs.length - (i + 1) ∧ i + 1 ≤ xs.length ∧ ∃ (ys : List β) (G' : Hp) (acc : List V), Gr G1 H1 G' H' ∧ G' Dl = none ∧ H' Dl = some (.lst acc) ∧ RpA J.K G' acc (ys.map enc) ∧ ys.length ≤ i + 1 ∧
          (lcGo p f (xs.drop (i + 1))).wp (fun zs => ∀ (l : Addr) (vs : List V) (G' H' : Hp), Gr G H G' H' → H l = none → G' l = none → H' l = some (.lst vs) → RpA J.K G' vs ((ys ++ zs).map enc) → Q (.ref l) H') (ErE J Γ σ),
        fun H' h => ⟨xs.length - (i + 1), by omega, h⟩, fun x H2 hy => ?_⟩
      obtain ⟨G2, g2, r2⟩ := ok.yld i H' x H2 xs[i] e1 hy (List.getElem?_eq_getElem hlt) G' g'.gg g'.gh
      have gg2 := g'.trans g2
      have S2 := ((S1.gr gg2).wipe vs).flo (F := G1) gg2.gg
      refine ht.sem _ _ H2 G2 x xs[i] _ _ S2 r2 fun σ4 off S4 => ⟨wipe_off off hjs, G1, xs[i], G2, S4, ?_⟩
      rw [List.drop_eq_getElem_cons hlt] at k2
      refine wp_noexc (wp_mono (wp_bind.mp k2) (fun b k3 G3 H3 g3 => ?_) (fun _ _ z => z))
      have gl2 : G2 Dl = none := by
        cases q2 : G2 Dl with
        | none => rfl
        | some u =>
          rcases g2.nw Dl u q2 with z | z
          · rw [gl] at z; cases z
          · rw [hl] at z; cases z
      have hl2 : H2 Dl = some (.lst acc) := g2.hh _ _ hl
      have gl3 : G3 Dl = none := by
        cases q2 : G3 Dl with
        | none => rfl
        | some u =>
          rcases g3.nw Dl u q2 with z | z
          · rw [gl2] at z; cases z
          · rw [hl2] at z; cases z
      have hl3 : H3 Dl = some (.lst acc) := g3.hh _ _ hl2
      cases b with
      | true =>
        refine ⟨G1, xs[i], G3, S4.gr g3, wp_noexc (wp_mono (wp_bind.mp k3) (fun y k4 v G4 H4 g4 r4 => ?_) (fun _ _ z => z))⟩
        have gl4 : G4 Dl = none := by
          cases q2 : G4 Dl with
          | none => rfl
          | some u =>
            rcases g4.nw Dl u q2 with z | z
            · rw [gl3] at z; cases z
            · rw [hl3] at z; cases z
        have gg4 := (gg2.trans g3).trans g4
        have gr4 := (g2.trans g3).trans g4
        refine ⟨acc, g4.hh _ _ hl3, szlt.mpr ?_, rfl, hlt, ys ++ [y], G4, acc ++ [v], ⟨gg4.gg, fun a u e => ?_, fun a u e => ?_, gg4.nw⟩, gl4, upd_same, ?_, by rw [List.length_append]; simpa using hys, ?_⟩
        · have := hr.length
          rw [List.length_map] at this
          omega
        · rw [upd_ne (fun z => by rw [z, gl4] at e; cases e)]; exact gg4.gh a u e
        · rw [upd_ne (fun z => by rw [z, hD] at e; cases e)]; exact gg4.hh a u e
        · rw [List.map_append]
          exact (hr.ex gr4.gg).append (.cons r4 .nil)
        · exact wp_mono (wp_bind.mp k4) (fun zs k l vs G' H' g n n' hl r => k l vs G' H' g n n' hl (by simpa using r)) fun _ _ z => z
      | false =>
        exact ⟨rfl, hlt, ys, G3, acc, gg2.trans g3, gl3, hl3, hr.ex (g2.trans g3).gg, Nat.le_succ_of_le hys, k3⟩
    · have ei : i = xs.length := by omega
      subst ei
      rw [List.drop_length] at k2
      refine .inl ⟨ok.stop H' e1, ?_⟩
      have k3 := k2 Dl acc G' H' (g1.trans g') hD0 gl hl
      simp only [List.append_nil] at k3
      exact k3 hr
  · rw [if_neg hz] at k; exact k.elim
abbrev oix (own : List (Str × Nat)) : List Nat := own.map (fun q => q.2)
theorem EF.lc {mi : R (List α)} {g : TG} {js : List Nat} {up : List Sl → α → List Sl} {p : α → R Bool} {f : α → R β} (own : List (Str × Nat)) (hc : J.X.calm = true) (hN : J.X.N.Nodup) (hit : IT J Γ tg it mi) (ok : BlkOk J.X.N J.X.env.scope scope own)
    (hg : ∀ (s : Shared) (H : Hp) (C : Addr) (cl : List (Str × Addr)) (fp : List Addr), PG (J.X.blk s H scope (compEnvC scope cl C J.X.env) fp) tg g) (ht : TgS J.K g js up) (hjs : ∀ j ∈ js, j ∈ oix own)
    (hi : ∀ (F : Hp) (s : Shared) (H : Hp) (C : Addr) (cl : List (Str × Addr)) (fp : List Addr) (x : α), EI (J.bl F s H scope C cl fp) (up (wipeG Γ (oix own)) x) ifs (p x))
    (he : ∀ (F : Hp) (s : Shared) (H : Hp) (C : Addr) (cl : List (Str × Addr)) (fp : List Addr) (x : α), ES (J.bl F s H scope C cl fp) (up (wipeG Γ (oix own)) x) elt (f x)) (hs : ∀ x, foldedSetIterable it J.X.env x = pure x := by intro _; rfl) :
    EF J Γ (.ListComp elt [⟨tg, it, ifs, 0⟩] scope pos) (mi.bind fun xs => lcM p f xs) :=
  ⟨pe_wk (pe_lc (own := own) hc hN hit.pi ok hg
    (tt := fun σ H Q => ∃ F x, tBk J.K { J.c with Fl := F } J.T (up (wipeG Γ (oix own)) x) (p x) σ H Q) (te := fun σ H Q => ∃ F x, tSk J.K { J.c with Fl := F } J.T (up (wipeG Γ (oix own)) x) (f x) σ H Q)
    (fun s H C cl fp => ⟨fun pins s' σ H' Q I ⟨F, x, q⟩ => (hi F s H C cl fp x).pt.run pins s' σ H' Q I q⟩) (fun s H C cl fp => ⟨fun pins s' σ H' Q I ⟨F, x, q⟩ => (he F s H C cl fp x).pe.run pins s' σ H' Q I q⟩) hs) (lc_go (oix own) ht hjs)⟩
theorem EF.mp {mi : R (List α)} {g : TG} {js : List Nat} {up : List Sl → α → List Sl} {f : α → R β} (own : List (Str × Nat)) (hc : J.X.calm = true) (hN : J.X.N.Nodup) (hit : IT J Γ tg it mi) (ok : BlkOk J.X.N J.X.env.scope scope own)
    (hg : ∀ (s : Shared) (H : Hp) (C : Addr) (cl : List (Str × Addr)) (fp : List Addr), PG (J.X.blk s H scope (compEnvC scope cl C J.X.env) fp) tg g) (ht : TgS J.K g js up) (hjs : ∀ j ∈ js, j ∈ oix own)
    (he : ∀ (F : Hp) (s : Shared) (H : Hp) (C : Addr) (cl : List (Str × Addr)) (fp : List Addr) (x : α), ES (J.bl F s H scope C cl fp) (up (wipeG Γ (oix own)) x) elt (f x)) (hs : ∀ x, foldedSetIterable it J.X.env x = pure x := by intro _; rfl) :
    EF J Γ (.ListComp elt [⟨tg, it, [], 0⟩] scope pos) (mi.bind fun xs => mpM f xs) := by
  have h := EF.lc (pos := pos) (p := fun _ => .ok true) own hc hN hit ok hg ht hjs (fun F s H C cl fp x => EI.nil) he hs
  have e : (fun xs => mpM f xs) = fun xs => lcM (fun _ => .ok true) f xs := funext fun xs => mpM_eq f xs
  rw [e]
  exact h
/-- y = [..]: the list goes to the slot i, as one's own -/
theorem BS.lc {mi : R (List α)} {g : TG} {js : List Nat} {up : List Sl → α → List Sl} {p : α → R Bool} {f : α → R β} {i : Nat} {y : Str} {py spos : Pos} (own : List (Str × Nat)) (hp : PeOk J Γ) (hc : J.X.calm = true) (hN : J.X.N.Nodup) (hi0 : J.X.N[i]? = some y) (hl0 : J.X.env.scope.names.lookup y = some .local)
    (hsw : swapsWith (.ListComp elt [⟨tg, it, ifs, 0⟩] scope pos) (some (.Name y py)) spos.line J.X.env = pure true) (hit : IT J Γ tg it mi) (ok : BlkOk J.X.N J.X.env.scope scope own)
    (hg : ∀ (s : Shared) (H : Hp) (C : Addr) (cl : List (Str × Addr)) (fp : List Addr), PG (J.X.blk s H scope (compEnvC scope cl C J.X.env) fp) tg g) (ht : TgS J.K g js up) (hjs : ∀ j ∈ js, j ∈ oix own)
    (hi : ∀ (F : Hp) (s : Shared) (H : Hp) (C : Addr) (cl : List (Str × Addr)) (fp : List Addr) (x : α), EI (J.bl F s H scope C cl fp) (up (wipeG Γ (oix own)) x) ifs (p x))
    (he : ∀ (F : Hp) (s : Shared) (H : Hp) (C : Addr) (cl : List (Str × Addr)) (fp : List Addr) (x : α), ES (J.bl F s H scope C cl fp) (up (wipeG Γ (oix own)) x) elt (f x)) (hs : ∀ x, foldedSetIterable it J.X.env x = pure x := by intro _; rfl) :
    BS J Γ (.Assign [.Name y py] (.ListComp elt [⟨tg, it, ifs, 0⟩] scope pos) spos) (mi.bind fun xs => lcM p f xs) (fun a => .nx (Γ.set i (.ow (a.map enc)))) :=
  ⟨ps_wk (ps_setLc (i := i) (own := own) hc hN hi0 hl0 hsw hit.pi ok hg
    (tt := fun σ H Q => ∃ F x, tBk J.K { J.c with Fl := F } J.T (up (wipeG Γ (oix own)) x) (p x) σ H Q) (te := fun σ H Q => ∃ F x, tSk J.K { J.c with Fl := F } J.T (up (wipeG Γ (oix own)) x) (f x) σ H Q)
    (fun s H C cl fp => ⟨fun pins s' σ H' Q I ⟨F, x, q⟩ => (hi F s H C cl fp x).pt.run pins s' σ H' Q I q⟩) (fun s H C cl fp => ⟨fun pins s' σ H' Q I ⟨F, x, q⟩ => (he F s H C cl fp x).pe.run pins s' σ H' Q I q⟩) hs) fun D σ H ⟨G, S, q⟩ =>
      lc_go (oix own) ht hjs σ H (fun x H1 => D.nx (σ.set i (some x)) H1) ⟨G, S, wp_mono q (fun a k l vs G' H' g n n' hl r => by
        refine k G' _ H' (S.setow2 g n ?_ hl n' r)
        cases q0 : J.c.H0 l with
        | none => rfl
        | some o =>
          obtain ⟨u, hu⟩ := S.th l o q0
          rw [n] at hu; cases hu) fun n a z => erE_of hp z σ⟩⟩
theorem BS.mp {mi : R (List α)} {g : TG} {js : List Nat} {up : List Sl → α → List Sl} {f : α → R β} {i : Nat} {y : Str} {py spos : Pos} (own : List (Str × Nat)) (hp : PeOk J Γ) (hc : J.X.calm = true) (hN : J.X.N.Nodup) (hi0 : J.X.N[i]? = some y) (hl0 : J.X.env.scope.names.lookup y = some .local)
    (hsw : swapsWith (.ListComp elt [⟨tg, it, [], 0⟩] scope pos) (some (.Name y py)) spos.line J.X.env = pure true) (hit : IT J Γ tg it mi) (ok : BlkOk J.X.N J.X.env.scope scope own)
    (hg : ∀ (s : Shared) (H : Hp) (C : Addr) (cl : List (Str × Addr)) (fp : List Addr), PG (J.X.blk s H scope (compEnvC scope cl C J.X.env) fp) tg g) (ht : TgS J.K g js up) (hjs : ∀ j ∈ js, j ∈ oix own)
    (he : ∀ (F : Hp) (s : Shared) (H : Hp) (C : Addr) (cl : List (Str × Addr)) (fp : List Addr) (x : α), ES (J.bl F s H scope C cl fp) (up (wipeG Γ (oix own)) x) elt (f x)) (hs : ∀ x, foldedSetIterable it J.X.env x = pure x := by intro _; rfl) :
    BS J Γ (.Assign [.Name y py] (.ListComp elt [⟨tg, it, [], 0⟩] scope pos) spos) (mi.bind fun xs => mpM f xs) (fun a => .nx (Γ.set i (.ow (a.map enc)))) := by
  have h := BS.lc (pos := pos) (spos := spos) (py := py) (p := fun _ => .ok true) own hp hc hN hi0 hl0 hsw hit ok hg ht hjs (fun F s H C cl fp x => EI.nil) he hs
  have e : (fun xs => mpM f xs) = fun xs => lcM (fun _ => .ok true) f xs := funext fun xs => mpM_eq f xs
  rw [e]
  exact h
end
/-! ### 14. a def by its body; the law -/
theorem ed_gr {c : Bs} {G H' : Hp} (h : Ed c G H') (nf : c.F0 = []) : Gr c.B c.H0 G H' := ⟨h.bg, h.gh, fun a o e => h.h0 a o e (by rw [nf]; simp), fun a o e => by
  cases q : c.H0 a with
  | none => exact .inr rfl
  | some u =>
    cases q2 : c.B a with
    | none => rw [h.sep a u q (by rw [nf]; simp) q2] at e; cases e
    | some w =>
      have := h.bg a w q2
      rw [e] at this
      exact .inl this.symm⟩
/-- Ed, by its parts -/
abbrev Ed0 (B H0 : Hp) (F0 : List Addr) (G H : Hp) : Prop := Ed ⟨B, H0, F0, fun _ => none⟩ G H
/-- the judgements' context at a def's body -/
abbrev dj (P : Program) (w : World) (K : PySem.W.Frag) (mg : Str → Option Value) (base : Heap) (T : CT) (N : List Str) (qual : Str) (scope : Scope) (f : Addr) (cd : Value) (A : Around) (outer : List Env) (s : Shared) (H : Hp) (E : XK) (B : Hp) : Jd where
  X := cxOf (L2.CX P w) P w K mg base N qual scope f cd A outer s H E
  c := ⟨B, H, [], B⟩
  W := fun cls d _ H => E cls d H
  tk := takes_of rfl rfl rfl rfl
  Pe := fun _ H' => ∃ G, Ed0 B H [] G H'
  T := T
  po := passes_of rfl
theorem sls_start {K : PySem.W.Frag} {G H : Hp} : ∀ {vs : List V} {ds : List D} (n : Nat), RpA K G vs ds → SlsAt K G H (ds.map Sl.va ++ List.replicate n .no) (vs.map some ++ List.replicate n none) (List.replicate (ds.length + n) [])
  | vs, [], n, r => by
    rw [r.unnil]
    induction n with
    | zero => exact .nil
    | succ n ih => exact .cons rfl ih
  | vs, d :: ds, n, r => by
    obtain ⟨w, ws, rfl, r1, r2⟩ := r.uncons
    have ih := sls_start (H := H) n r2
    rw [List.length_cons, show ds.length + 1 + n = (ds.length + n) + 1 by omega, List.replicate_succ]
    exact .cons ⟨rfl, w, rfl, r1⟩ ih
theorem flat_rep {α : Type} (n : Nat) : (List.replicate n ([] : List α)).flatten = [] := by simp
theorem sat_start {K : PySem.W.Frag} {B H : Hp} {vs : List V} {ds : List D} {N : List Str} (e : Ex B H) (r : RpA K B vs ds) : SatG K ⟨B, H, [], B⟩ (ds.map Sl.va ++ List.replicate (N.length - ds.length) .no) B (L2.start N vs) H := by
  refine ⟨Ex.refl _, e, fun a o h _ => h, fun a o h => ⟨o, h⟩, fun a o _ _ h => h, Ex.refl _, List.replicate (ds.length + (N.length - ds.length)) [], ?_, by simp, fun p hp => by simp at hp⟩
  unfold L2.start
  rw [r.length]
  exact sls_start _ r
/-- the slots at a def's entry -/
abbrev G0 (ds : List D) (n : Nat) : List Sl := ds.map Sl.va ++ List.replicate n .no
section
variable {P : Program} {w : World} {K : PySem.W.Frag} {mg : Str → Option Value} {base : Heap}
theorem fn_S {x qual : Str} {st : Stmt} {f : Addr} {fd : FuncData} {N ps : List Str} {k : Nat} {τ ρ : Type} [Enc ρ] {T : CT} {encs : τ → List D} {fM : τ → R ρ} (F : Fun K x qual st f fd) (S : FnScope N ps (defScope st)) (hlen : ∀ t, (encs t).length = ps.length) (out : ρ → Fl) (ho : ∀ r, out r = .rt (enc r) ∨ (enc r = .none ∧ ∃ Γ, out r = .nx Γ))
    (body : ∀ (cdv : Value) (A : Around) (outer : List Env) (s : Shared) (H : Hp) (E : XK) (B : Hp) (t : τ), Room k (A.deeper (envOfC qual (defScope st) s.heap.objs.size f cdv)) →
      BD (dj P w K mg base T N qual (defScope st) f cdv A outer s H E B) (G0 (encs t) (N.length - ps.length)) (defBody st) (fM t) out) : FnOk P w K mg base (L2.CX P w) (k + 1) f fd ps (PrS T K encs fM) := by
  refine F.okX S (fun vs H Q E ⟨B, t, _, r, _⟩ => by rw [r.length, hlen]) fun cdv A outer s H vs Q E hr ⟨B, t, eB, r, q⟩ => ⟨_, (body cdv A outer s H E B t hr).ps, B, ?_, wp_mono q (fun v k => ?_) fun n a z => ?_⟩
  · have h := sat_start (N := N) eB r
    rw [hlen] at h
    exact h
  · rcases ho v with e | ⟨e, Γ, e2⟩
    · rw [e]
      exact fun v G H' ed rv => k v G H' (ed_gr ed rfl) rv
    · rw [e2]
      exact fun G σ H' S => k .non G H' (ed_gr S.ed rfl) (by rw [e]; exact .non)
  · exact fun σ H' cls d ⟨G, ed⟩ ok => z G H' cls d (ed_gr (c := ⟨B, H, [], fun _ => none⟩) ed rfl) ok
theorem fn_F {x qual : Str} {st : Stmt} {f : Addr} {fd : FuncData} {N ps : List Str} {k : Nat} {τ ρ : Type} [Enc ρ] {T : CT} {encs : τ → List D} {fM : τ → R (List ρ)} (F : Fun K x qual st f fd) (S : FnScope N ps (defScope st)) (hlen : ∀ t, (encs t).length = ps.length)
    (body : ∀ (cdv : Value) (A : Around) (outer : List Env) (s : Shared) (H : Hp) (E : XK) (B : Hp) (t : τ), Room k (A.deeper (envOfC qual (defScope st) s.heap.objs.size f cdv)) →
      BD (dj P w K mg base T N qual (defScope st) f cdv A outer s H E B) (G0 (encs t) (N.length - ps.length)) (defBody st) (fM t) (fun r => .rf (r.map enc))) : FnOk P w K mg base (L2.CX P w) (k + 1) f fd ps (PrF T K encs fM) := by
  refine F.okX S (fun vs H Q E ⟨B, t, _, r, _⟩ => by rw [r.length, hlen]) fun cdv A outer s H vs Q E hr ⟨B, t, eB, r, q⟩ => ⟨_, (body cdv A outer s H E B t hr).ps, B, ?_, wp_mono q (fun v k => ?_) fun n a z => ?_⟩
  · have h := sat_start (N := N) eB r
    rw [hlen] at h
    exact h
  · exact fun p vs G H' ed n n' hp rv => k p vs G H' (ed_gr ed rfl) n n' hp rv
  · exact fun σ H' cls d ⟨G, ed⟩ ok => z G H' cls d (ed_gr (c := ⟨B, H, [], fun _ => none⟩) ed rfl) ok
/-- the script is data -/
theorem rp_ints {H : Hp} : ∀ ns : List Int, RpA K H (ns.map V.int) (ns.map enc)
  | [] => .nil
  | n :: ns => .cons .int (rp_ints ns)
/-- the law's promise is kept where its mirror says True -/
theorem law_sp {T : CT} {fM : List Int × Unit → R Bool} {H : Hp} {a : Addr} {ns : List Int} (h : fM (ns, ()) = .ok true) (hS : SqL K H a (ns.map V.int)) : PrS T K (fun t : List Int × Unit => [enc t.1]) fM [.ref a] H (fun v _ => v = .bl true) fun _ _ _ => False :=
  ⟨H, (ns, ()), Ex.refl _, .cons (Rp.lst hS (rp_ints ns)) .nil, wp_of_ok h fun v G' H' _ r => Rp.unbl r⟩
/-- the law's promise, whatever its classes -/
def SpL (K : PySem.W.Frag) : Sp := fun vs H Q _ => ∃ (a : Addr) (ns : List Int), vs = [.ref a] ∧ SqL K H a (ns.map V.int) ∧ ns.length ≤ 63 ∧ ∀ H', Q (.bl true) H'
theorem law_imp {T : CT} {fM : List Int × Unit → R Bool} (h : ∀ ns : List Int, ns.length ≤ 63 → fM (ns, ()) = .ok true) {vs : List V} {H : Hp} {Q : VK} {E : XK} (q : SpL K vs H Q E) : PrS T K (fun t : List Int × Unit => [enc t.1]) fM vs H Q E := by
  obtain ⟨a, ns, rfl, hS, hl, k⟩ := q
  exact ⟨H, (ns, ()), Ex.refl _, .cons (Rp.lst hS (rp_ints ns)) .nil, wp_of_ok (h ns hl) fun v G' H' _ r => by
    have e := Rp.unbl r
    subst e
    exact k H'⟩
theorem cx_law {H : Hp} {s : Shared} {e : Value} {s' : Shared} (h : L2.CX P w [] H s (fun _ _ _ => False) e s') : False := by
  obtain ⟨_, _, _, _, _, _, _, _, _, _, _, _, z⟩ := h
  exact z
end
/-- what is known where an exception is met, at a def's own level -/
theorem pdl {J : Jd} {Γ : List Sl} (h : ∀ σ H, (∃ G, Ed0 J.c.B J.c.H0 J.c.F0 G H) → J.Pe σ H) : PeOk J Γ := fun G σ H S => h σ H ⟨G, S.bg, S.gh, S.h0, S.sep, S.th⟩
/-! ### 15. built-ins -/
inductive PT where
  | non | bl | int | str | lst | tup | dct
def ptOf : D → PT
  | .none => .non
  | .bool _ => .bl
  | .int _ => .int
  | .str _ => .str
  | .list _ => .lst
  | .tuple _ => .tup
  | .dict _ => .dct
def PT.nm : PT → String
  | .non => "NoneType"
  | .bl => "bool"
  | .int => "int"
  | .str => "str"
  | .lst => "list"
  | .tup => "tuple"
  | .dct => "dict"
/-- a value of the first is one of the second -/
def ptIs : PT → PT → Bool
  | .non, .non => true
  | .bl, .bl => true
  | .bl, .int => true
  | .int, .int => true
  | .str, .str => true
  | .lst, .lst => true
  | .tup, .tup => true
  | .dct, .dct => true
  | _, _ => false
def isi (d : D) (T : PT) : Bool := ptIs (ptOf d) T
theorem tyx_of {K : PySem.W.Frag} {H : Hp} {v : V} {d : D} (r : Rp K H v d) : TyX K H v (.type (ptOf d).nm) := by
  have h := r.dp
  cases h with
  | non => exact .base .non
  | bl b => exact .base (.bl b)
  | int i => exact .base (.int i)
  | str x => exact .base (.str x)
  | lst hs _ =>
    rcases hs with (h | ⟨o, h⟩) | ⟨o, its, n, hk, hc, _⟩
    · exact .base (.lst h)
    · exact .base (.frz h)
    · exact .kList hk hc
  | tup hs _ =>
    rcases hs with (h | ⟨o, h⟩) | ⟨o, its, n, hk, hc, _⟩
    · exact .base (.tup h)
    · exact .fTuple h
    · exact .kTuple hk hc
theorem kit_pt (K : PySem.W.Frag) (a : PT) (b : PT) (hb : b = .int ∨ b = .bl ∨ b = .str ∨ b = .lst ∨ b = .tup) : PySem.W.kitOne K (.type a.nm) (.type b.nm) = some (ptIs a b) := by
  rcases hb with rfl | rfl | rfl | rfl | rfl <;> cases a <;> exact kit_ty (by decide +kernel)
section
variable {J : Jd} {Γ : List Sl} {a b c e : Expr} {pos p p2 q : Pos} {α β γ : Type} [Enc α] [Enc β] [Enc γ]
theorem ES.isi {x : Str} {m : R α} (T : PT) (h : EV J Γ a m) (hm : J.X.mg "isinstance" = none) (hm2 : J.X.mg x = none) (hv : bootBuiltins x = some (.type T.nm) := by decide +kernel) (hT : T = .int ∨ T = .bl ∨ T = .str ∨ T = .lst ∨ T = .tup := by first | exact .inl rfl | exact .inr (.inl rfl) | exact .inr (.inr (.inl rfl)) | exact .inr (.inr (.inr (.inl rfl))) | exact .inr (.inr (.inr (.inr rfl))))
    (hg : Gl J.X "isinstance" := by rfl) (hg2 : Gl J.X x := by rfl) (hn : x ≠ "__name__" := by decide) (hdb : (x == ("__debug__" : Str)) = false := by decide)
    (he : starEach (a :: [.Name x q]) J.X.env = (false, eval a J.X.env) :: starEach [.Name x q] J.X.env := by rfl) (he2 : starEach (.Name x q :: []) J.X.env = (false, eval (.Name x q) J.X.env) :: starEach [] J.X.env := by rfl) (hpl : (backTo pos (starEach [.Name x q] J.X.env)).any (·.1) = false := by rfl) :
    ES J Γ (.Call (.Name "isinstance" p) [a, .Name x q] [] pos) (m.bind fun v => .ok (isi (enc v) T)) :=
  ⟨pe_wk (pe_callB call_isi hg hm (by decide +kernel) (pa_cons h.pe (pa_cons (pe_bltn (v := .ty T.nm) (u := .type T.nm) hg2 hm2 hv rfl hn hdb) pa_nil he2) he) (he := he) (hpl := hpl)) fun σ H Q ⟨G, S, w⟩ => ⟨G, S, wp_mono (wp_bind.mp w) (fun v k u G' H' g r =>
    ⟨u, .ty T.nm, .type (ptOf (enc v)).nm, .type T.nm, ptIs (ptOf (enc v)) T, rfl, .ty _, tyx_of r, kit_pt J.K _ T hT, k _ G' H' g .bl⟩) fun _ _ z => z⟩⟩
/-- list(xs) -/
theorem EF.list {m : R (List α)} (h : EL J Γ a m) (hm : J.X.mg "list" = none) (hg : Gl J.X "list" := by rfl) (he : starEach (a :: []) J.X.env = (false, eval a J.X.env) :: starEach [] J.X.env := by rfl) : EF J Γ (.Call (.Name "list" p) [a] [] pos) m :=
  ⟨pe_wk (pe_callTy call_list_of hg hm (by decide +kernel) (pa_cons h.pe pa_nil he) (he := he)) fun σ H Q ⟨G, S, w⟩ => ⟨G, S, wp_mono w (fun xs k l vs G' H' g hl r => ⟨l, vs, rfl, .inl hl, fun l' hn => by
    have g2 := Gr.loose (o := .lst vs) g.gh hn
    exact k l' vs G' _ (g.trans g2) (ex_none g.hh hn) (ex_none g.gh hn) upd_same r⟩) fun _ _ z => z⟩⟩
/-- xs + ys -/
def rCatS (K : PySem.W.Frag) : R2 := fun x y H Q => ∃ l b xs zs, x = .ref l ∧ y = .ref b ∧ SqL K H l xs ∧ SqL K H b zs ∧ xs.length + zs.length ≤ sizeLine ∧ ∀ p, H p = none → Q (.ref p) (upd H p (.lst (xs ++ zs)))
theorem op_catS {X : Cx} : OpR X (binaryOp .Add) (rCatS X.K) := by
  intro pins s σ H x y v u Q I rx ry h
  obtain ⟨l, b, xs, zs, rfl, rfl, hH, hB, hz, q⟩ := h
  cases rx
  cases ry
  obtain ⟨its, r, pl, z⟩ := I.list hH
  obtain ⟨its2, r2, pl2, z2⟩ := I.list hB
  have hl := r.length
  have hl2 := r2.length
  obtain ⟨⟨cls, dd, data, sl⟩, ho, hc, n, hd⟩ := id pl.isList
  obtain ⟨⟨cls2, dd2, data2, sl2⟩, ho2, hc2, n2, hd2⟩ := id pl2.isList
  simp only at hc hd hc2 hd2
  subst hc hd hc2 hd2
  have e : its.toArray ++ its2.toArray = (its ++ its2).toArray := by simp
  refine concat_meets ⟨_, ho, rfl⟩ ⟨_, ho2, rfl⟩ noFill_list_add seq_list_add PySem.F.slot_list_add PySem.F.entry_list_add (PySem.F.args_list_add_2 _ _) (list_addW l b its.toArray its2.toArray n n2 dd dd2 sl sl2 (by simp only [List.size_toArray]; omega)) ⟨ho, ho2, ?_⟩
  rw [e]
  exact ⟨.ref _, _, I.lnew (t' := s.toks) (r.append r2) (by rw [List.length_append]; omega), rfl, q _ I.fresh⟩
noncomputable def catM {α : Type} (xs ys : List α) : R (List α) := @ite _ (xs.length + ys.length ≤ 16777216) (Classical.propDecidable _) (.ok (xs ++ ys)) .stuck
theorem EF.cat {m1 m2 : R (List α)} (ha : EL J Γ a m1) (hb : EL J Γ b m2) : EF J Γ (.BinOp a .Add b pos) (m1.bind fun xs => m2.bind fun ys => catM xs ys) :=
  ⟨pe_wk (pe_op op_catS ha.pe hb.pe) fun σ H Q ⟨G, S, w⟩ => ⟨G, S, wp_mono (wp_bind.mp w) (fun xs k l vs G1 H1 g1 h1 r1 => ⟨G1, S.gr g1, wp_mono (wp_bind.mp k) (fun ys k2 l2 vs2 G2 H2 g2 h2 r2 => by
    unfold catM at k2
    by_cases hz : xs.length + ys.length ≤ 16777216
    · rw [if_pos hz] at k2
      refine ⟨l, l2, vs, vs2, rfl, rfl, Evl.ex_l g2.hh h1, h2, szl.mpr (by rw [r1.length, r2.length, List.length_map, List.length_map]; exact hz), fun p hn => ?_⟩
      have g := g1.trans g2
      have g3 := Gr.loose (o := .lst (vs ++ vs2)) g.gh hn
      refine k2 p _ G2 _ (g.trans g3) (ex_none g.hh hn) (ex_none g.gh hn) upd_same ?_
      rw [List.map_append]
      exact (r1.ex g2.gg).append r2
    · rw [if_neg hz] at k2; exact k2.elim) fun _ _ z => z⟩) fun _ _ z => z⟩⟩
end
/-! ### 16. sums, least and greatest, sorts, lists turned about -/
theorem rpA_ints {K : PySem.W.Frag} {H : Hp} : ∀ {xs : List Int} {vs : List V}, RpA K H vs (xs.map enc) → vs = xs.map V.int
  | [], _, r => r.unnil
  | x :: xs, _, r => by
    obtain ⟨w, ws, rfl, r1, r2⟩ := RpA.uncons r
    rw [Rp.unint r1, rpA_ints (xs := xs) r2]; rfl
theorem ints_rpA {K : PySem.W.Frag} {H : Hp} : ∀ {xs : List Int}, RpA K H (xs.map V.int) (xs.map enc)
  | [] => .nil
  | x :: xs => .cons .int ints_rpA
theorem RpA.reverse {K : PySem.W.Frag} {H : Hp} {vs : List V} {ds : List D} (r : RpA K H vs ds) : RpA K H vs.reverse ds.reverse := by
  induction ds generalizing vs with
  | nil => rw [r.unnil]; exact .nil
  | cons d ds ih =>
    obtain ⟨w, ws, rfl, r1, r2⟩ := r.uncons
    rw [List.reverse_cons, List.reverse_cons]
    exact (ih r2).append (.cons r1 .nil)
/-- the least, the greatest of what isn't empty -/
def lowG : Int → List Int → Int
  | a, [] => a
  | a, x :: xs => lowG (if x < a then x else a) xs
def topG : Int → List Int → Int
  | a, [] => a
  | a, x :: xs => topG (if a < x then x else a) xs
theorem lowG_mem : ∀ (xs : List Int) (a : Int), lowG a xs = a ∨ lowG a xs ∈ xs
  | [], a => .inl rfl
  | x :: xs, a => by
    unfold lowG
    rcases lowG_mem xs (if x < a then x else a) with h | h
    · rw [h]
      split
      · exact .inr List.mem_cons_self
      · exact .inl rfl
    · exact .inr (List.mem_cons_of_mem _ h)
theorem lowG_le : ∀ (xs : List Int) (a : Int), lowG a xs ≤ a ∧ ∀ y ∈ xs, lowG a xs ≤ y
  | [], a => ⟨Int.le_refl _, fun _ h => by cases h⟩
  | x :: xs, a => by
    unfold lowG
    obtain ⟨h1, h2⟩ := lowG_le xs (if x < a then x else a)
    by_cases hx : x < a
    · rw [if_pos hx] at h1 h2 ⊢
      exact ⟨by omega, fun y hy => (List.mem_cons.mp hy).elim (fun e => by subst e; omega) (h2 y)⟩
    · rw [if_neg hx] at h1 h2 ⊢
      exact ⟨by omega, fun y hy => (List.mem_cons.mp hy).elim (fun e => by subst e; omega) (h2 y)⟩
theorem topG_mem : ∀ (xs : List Int) (a : Int), topG a xs = a ∨ topG a xs ∈ xs
  | [], a => .inl rfl
  | x :: xs, a => by
    unfold topG
    rcases topG_mem xs (if a < x then x else a) with h | h
    · rw [h]
      split
      · exact .inr List.mem_cons_self
      · exact .inl rfl
    · exact .inr (List.mem_cons_of_mem _ h)
theorem topG_le : ∀ (xs : List Int) (a : Int), a ≤ topG a xs ∧ ∀ y ∈ xs, y ≤ topG a xs
  | [], a => ⟨Int.le_refl _, fun _ h => by cases h⟩
  | x :: xs, a => by
    unfold topG
    obtain ⟨h1, h2⟩ := topG_le xs (if a < x then x else a)
    by_cases hx : a < x
    · rw [if_pos hx] at h1 h2 ⊢
      exact ⟨by omega, fun y hy => (List.mem_cons.mp hy).elim (fun e => by subst e; omega) (h2 y)⟩
    · rw [if_neg hx] at h1 h2 ⊢
      exact ⟨by omega, fun y hy => (List.mem_cons.mp hy).elim (fun e => by subst e; omega) (h2 y)⟩
def lowM : List Int → R Int
  | [] => .stuck
  | x :: xs => .ok (lowG x xs)
def topM : List Int → R Int
  | [] => .stuck
  | x :: xs => .ok (topG x xs)
def low2 (i j : Int) : Int := if j < i then j else i
def top2 (i j : Int) : Int := if j > i then j else i
section
variable {J : Jd} {Γ : List Sl} {a b c e : Expr} {pos p p2 p3 p4 q : Pos} {α β γ : Type} [Enc α] [Enc β] [Enc γ]
theorem ES.sum {m : R (List Int)} (h : EL J Γ a m) (hm : J.X.mg "sum" = none) (hc : J.X.calm = true := by rfl) (hg : Gl J.X "sum" := by rfl) (he : starEach (a :: []) J.X.env = (false, eval a J.X.env) :: starEach [] J.X.env := by rfl) :
    ES J Γ (.Call (.Name "sum" p) [a] [] pos) (m.bind fun xs => .ok (List.sum xs)) :=
  ⟨pe_wk (pe_callB (cr_sum hc) hg hm (by decide +kernel) (pa_cons h.pe pa_nil he) (he := he)) fun σ H Q ⟨G, S, w⟩ => ⟨G, S, wp_mono (wp_bind.mp w) (fun xs k l vs G' H' g hl r => by
    have e := rpA_ints r
    subst e
    exact ⟨l, xs, rfl, hl, k _ G' H' g .int⟩) fun _ _ z => z⟩⟩
theorem ES.low {m : R (List Int)} (h : EL J Γ a m) (hm : J.X.mg "min" = none) (hc : J.X.calm = true := by rfl) (hg : Gl J.X "min" := by rfl) (he : starEach (a :: []) J.X.env = (false, eval a J.X.env) :: starEach [] J.X.env := by rfl) :
    ES J Γ (.Call (.Name "min" p) [a] [] pos) (m.bind lowM) :=
  ⟨pe_wk (pe_callB (cr_min hc) hg hm (by decide +kernel) (pa_cons h.pe pa_nil he) (he := he)) fun σ H Q ⟨G, S, w⟩ => ⟨G, S, wp_mono (wp_bind.mp w) (fun xs k l vs G' H' g hl r => by
    have e := rpA_ints r
    subst e
    cases xs with
    | nil => exact k.elim
    | cons x xs =>
      refine ⟨l, x :: xs, rfl, hl, by simp, fun m hm hle => ?_⟩
      have e : m = lowG x xs := by
        have h1 := lowG_le xs x
        have h2 : lowG x xs ∈ x :: xs := by
          rcases lowG_mem xs x with z | z
          · rw [z]; exact List.mem_cons_self
          · exact List.mem_cons_of_mem _ z
        have h3 := hle _ h2
        rcases List.mem_cons.mp hm with z | z
        · omega
        · have := h1.2 m z; omega
      subst e
      exact k _ G' H' g .int) fun _ _ z => z⟩⟩
theorem ES.top {m : R (List Int)} (h : EL J Γ a m) (hm : J.X.mg "max" = none) (hc : J.X.calm = true := by rfl) (hg : Gl J.X "max" := by rfl) (he : starEach (a :: []) J.X.env = (false, eval a J.X.env) :: starEach [] J.X.env := by rfl) :
    ES J Γ (.Call (.Name "max" p) [a] [] pos) (m.bind topM) :=
  ⟨pe_wk (pe_callB (cr_max hc) hg hm (by decide +kernel) (pa_cons h.pe pa_nil he) (he := he)) fun σ H Q ⟨G, S, w⟩ => ⟨G, S, wp_mono (wp_bind.mp w) (fun xs k l vs G' H' g hl r => by
    have e := rpA_ints r
    subst e
    cases xs with
    | nil => exact k.elim
    | cons x xs =>
      refine ⟨l, x :: xs, rfl, hl, by simp, fun m hm hle => ?_⟩
      have e : m = topG x xs := by
        have h1 := topG_le xs x
        have h2 : topG x xs ∈ x :: xs := by
          rcases topG_mem xs x with z | z
          · rw [z]; exact List.mem_cons_self
          · exact List.mem_cons_of_mem _ z
        have h3 := hle _ h2
        rcases List.mem_cons.mp hm with z | z
        · omega
        · have := h1.2 m z; omega
      subst e
      exact k _ G' H' g .int) fun _ _ z => z⟩⟩
theorem ES.min2 {m1 m2 : R Int} (h1 : ES J Γ a m1) (h2 : ES J Γ b m2) (hm : J.X.mg "min" = none) (hc : J.X.calm = true := by rfl) (hg : Gl J.X "min" := by rfl) (he : starEach (a :: [b]) J.X.env = (false, eval a J.X.env) :: starEach [b] J.X.env := by rfl) (he2 : starEach (b :: []) J.X.env = (false, eval b J.X.env) :: starEach [] J.X.env := by rfl) (hpl : (backTo pos (starEach [b] J.X.env)).any (·.1) = false := by rfl) :
    ES J Γ (.Call (.Name "min" p) [a, b] [] pos) (m1.bind fun x => m2.bind fun y => .ok (low2 x y)) :=
  ⟨pe_wk (pe_callB (call_min2 hc) hg hm (by decide +kernel) (EA0.cons h1 (EA0.cons h2 EA0.nil he2) he).pa (he := he) (hpl := hpl)) fun σ H Q ⟨G, S, w⟩ => ⟨G, S, wp_bind.mpr (wp_mono (wp_bind.mp w) (fun x k => wp_bind.mpr (wp_bind.mpr (wp_mono (wp_bind.mp k) (fun y k vs G' H' g r => by
    obtain ⟨v, ws, rfl, r1, r2⟩ := r.uncons
    obtain ⟨v2, ws2, rfl, r3, r4⟩ := r2.uncons
    have e1 := Rp.unint r1
    have e2 := Rp.unint r3
    have e3 := r4.unnil
    subst e1 e2 e3
    exact ⟨x, y, rfl, k _ G' H' g .int⟩) fun _ _ z => z))) fun _ _ z => z)⟩⟩
theorem ES.max2 {m1 m2 : R Int} (h1 : ES J Γ a m1) (h2 : ES J Γ b m2) (hm : J.X.mg "max" = none) (hc : J.X.calm = true := by rfl) (hg : Gl J.X "max" := by rfl) (he : starEach (a :: [b]) J.X.env = (false, eval a J.X.env) :: starEach [b] J.X.env := by rfl) (he2 : starEach (b :: []) J.X.env = (false, eval b J.X.env) :: starEach [] J.X.env := by rfl) (hpl : (backTo pos (starEach [b] J.X.env)).any (·.1) = false := by rfl) :
    ES J Γ (.Call (.Name "max" p) [a, b] [] pos) (m1.bind fun x => m2.bind fun y => .ok (top2 x y)) :=
  ⟨pe_wk (pe_callB (call_max2 hc) hg hm (by decide +kernel) (EA0.cons h1 (EA0.cons h2 EA0.nil he2) he).pa (he := he) (hpl := hpl)) fun σ H Q ⟨G, S, w⟩ => ⟨G, S, wp_bind.mpr (wp_mono (wp_bind.mp w) (fun x k => wp_bind.mpr (wp_bind.mpr (wp_mono (wp_bind.mp k) (fun y k vs G' H' g r => by
    obtain ⟨v, ws, rfl, r1, r2⟩ := r.uncons
    obtain ⟨v2, ws2, rfl, r3, r4⟩ := r2.uncons
    have e1 := Rp.unint r1
    have e2 := Rp.unint r3
    have e3 := r4.unnil
    subst e1 e2 e3
    exact ⟨x, y, rfl, k _ G' H' g .int⟩) fun _ _ z => z))) fun _ _ z => z)⟩⟩
theorem ES.intB {m : R Bool} (h : ES J Γ a m) (hm : J.X.mg "int" = none) (hg : Gl J.X "int" := by rfl) (he : starEach (a :: []) J.X.env = (false, eval a J.X.env) :: starEach [] J.X.env := by rfl) : ES J Γ (.Call (.Name "int" p) [a] [] pos) (m.bind fun x => .ok (if x = true then (1 : Int) else 0)) :=
  ⟨pe_wk (pe_callTy call_int1 hg hm (by decide +kernel) (pa_cons h.pe pa_nil he) (he := he)) fun σ H Q ⟨G, S, w⟩ => ⟨G, S, wp_mono (wp_bind.mp w) (fun x k v G' H' g r => by
    have e := Rp.unbl r
    subst e
    exact .inr ⟨x, rfl, k _ G' H' g .int⟩) fun _ _ z => z⟩⟩
/-- xs[::-1] -/
theorem EF.rev {m : R (List α)} {k : Nat} (h : EL J Γ a m) : EF J Γ (.Subscript a (.Slice none none (some (.UnaryOp .USub (.Constant (.int 1) k p) p2)) p3) pos) (m.bind fun xs => .ok (List.reverse xs)) :=
  ⟨pe_wk (pe_revL h.pe) fun σ H Q ⟨G, S, w⟩ => ⟨G, S, wp_mono (wp_bind.mp w) (fun xs k l vs G' H' g hl r => ⟨l, vs, rfl, hl, fun l' hn => by
    refine k l' _ G' _ (g.trans (Gr.loose g.gh hn)) (ex_none g.hh hn) (ex_none g.gh hn) upd_same ?_
    rw [List.map_reverse]
    exact r.reverse⟩) fun _ _ z => z⟩⟩
/-- is True, is False -/
theorem ES.isB {m : R Bool} {j : Nat} {v : Bool} (h : EV J Γ a m) : ES J Γ (.Compare a [.Is] [.Constant (.bool v) j p] pos) (m.bind fun x => .ok (decide (x = v))) :=
  ⟨pe_wk (pe_cmpR op_isBl h.pe pe_bl (nomark _)) fun σ H Q ⟨G, S, w⟩ => ⟨G, S, wp_mono (wp_bind.mp w) (fun x k u G' H' g r => by
    have e := Rp.unbl r
    subst e
    exact ⟨x, v, rfl, rfl, k _ G' H' g .bl⟩) fun _ _ z => z⟩⟩
theorem ET.isB {m : R Bool} {j : Nat} {v : Bool} (h : EV J Γ a m) : ET J Γ (.Compare a [.Is] [.Constant (.bool v) j p] pos) (m.bind fun x => .ok (decide (x = v))) :=
  ⟨pt_wk (pt_cmpR op_isBl h.pe pe_bl (nomark _)) fun σ H Q ⟨G, S, w⟩ => ⟨G, S, wp_mono (wp_bind.mp w) (fun x k u G' H' g r => by
    have e := Rp.unbl r
    subst e
    exact ⟨x, v, rfl, rfl, _, rfl, k G' H' g⟩) fun _ _ z => z⟩⟩
theorem ES.notB {m : R Bool} {j : Nat} {v : Bool} (h : EV J Γ a m) : ES J Γ (.Compare a [.IsNot] [.Constant (.bool v) j p] pos) (m.bind fun x => .ok (!decide (x = v))) :=
  ⟨pe_wk (pe_cmpR op_notBl h.pe pe_bl (nomark _)) fun σ H Q ⟨G, S, w⟩ => ⟨G, S, wp_mono (wp_bind.mp w) (fun x k u G' H' g r => by
    have e := Rp.unbl r
    subst e
    exact ⟨x, v, rfl, rfl, k _ G' H' g .bl⟩) fun _ _ z => z⟩⟩
theorem ET.notB {m : R Bool} {j : Nat} {v : Bool} (h : EV J Γ a m) : ET J Γ (.Compare a [.IsNot] [.Constant (.bool v) j p] pos) (m.bind fun x => .ok (!decide (x = v))) :=
  ⟨pt_wk (pt_cmpR op_notBl h.pe pe_bl (nomark _)) fun σ H Q ⟨G, S, w⟩ => ⟨G, S, wp_mono (wp_bind.mp w) (fun x k u G' H' g r => by
    have e := Rp.unbl r
    subst e
    exact ⟨x, v, rfl, rfl, _, rfl, k G' H' g⟩) fun _ _ z => z⟩⟩
/-- x < y < z and the like, of ints -/
theorem chain_imp {g1 g2 : Int → Int → Bool} {m1 : R Int} {m2 : R Int} {m3 : R Int} {r1 r2 : R2} (e1 : r1 = rI0 fun i j => .bl (g1 i j)) (e2 : r2 = rI0 fun i j => .bl (g2 i j)) :
    ∀ σ H Q, tS J Γ (m1.bind fun x => m2.bind fun y => if g1 x y = true then m3.bind fun z => .ok (g2 y z) else .ok false) σ H Q → tChain r1 r2 (tS J Γ m1) (tS J Γ m2) (tS J Γ m3) σ H Q := by
  subst e1 e2
  intro σ H Q ⟨G, S, w⟩
  refine ⟨G, S, wp_mono (wp_bind.mp w) (fun x k v G1 H1 g1' q1 => ?_) fun _ _ z => z⟩
  have e := Rp.unint q1
  subst e
  refine ⟨G1, S.gr g1', wp_mono (wp_bind.mp k) (fun y k2 v G2 H2 g2' q2 => ?_) fun _ _ z => z⟩
  have e := Rp.unint q2
  subst e
  refine ⟨x, y, rfl, rfl, g1 x y, rfl, ?_⟩
  cases hg : g1 x y with
  | false =>
    rw [hg] at k2
    rw [if_neg (by decide)]
    exact k2 _ G2 H2 (g1'.trans g2') .bl
  | true =>
    rw [hg, if_pos rfl] at k2
    rw [if_pos rfl]
    refine ⟨G2, S.gr (g1'.trans g2'), wp_mono (wp_bind.mp k2) (fun z k3 v G3 H3 g3' q3 => ?_) fun _ _ z => z⟩
    have e := Rp.unint q3
    subst e
    exact ⟨y, z, rfl, rfl, k3 _ G3 H3 ((g1'.trans g2').trans g3') .bl⟩
theorem chain_impB {g1 g2 : Int → Int → Bool} {m1 : R Int} {m2 : R Int} {m3 : R Int} {r1 r2 : R2} (e1 : r1 = rI0 fun i j => .bl (g1 i j)) (e2 : r2 = rI0 fun i j => .bl (g2 i j)) :
    ∀ σ H Q, tB J Γ (m1.bind fun x => m2.bind fun y => if g1 x y = true then m3.bind fun z => .ok (g2 y z) else .ok false) σ H Q → tTest (tChain r1 r2 (tS J Γ m1) (tS J Γ m2) (tS J Γ m3)) σ H Q := by
  subst e1 e2
  intro σ H Q ⟨G, S, w⟩
  refine ⟨G, S, wp_mono (wp_bind.mp w) (fun x k v G1 H1 g1' q1 => ?_) fun _ _ z => z⟩
  have e := Rp.unint q1
  subst e
  refine ⟨G1, S.gr g1', wp_mono (wp_bind.mp k) (fun y k2 v G2 H2 g2' q2 => ?_) fun _ _ z => z⟩
  have e := Rp.unint q2
  subst e
  refine ⟨x, y, rfl, rfl, g1 x y, rfl, ?_⟩
  cases hg : g1 x y with
  | false =>
    rw [hg] at k2
    rw [if_neg (by decide)]
    exact ⟨false, rfl, k2 G2 H2 (g1'.trans g2')⟩
  | true =>
    rw [hg, if_pos rfl] at k2
    rw [if_pos rfl]
    refine ⟨G2, S.gr (g1'.trans g2'), wp_mono (wp_bind.mp k2) (fun z k3 v G3 H3 g3' q3 => ?_) fun _ _ z => z⟩
    have e := Rp.unint q3
    subst e
    exact ⟨y, z, rfl, rfl, _, rfl, k3 G3 H3 ((g1'.trans g2').trans g3')⟩
theorem ES.chain {o1 o2 : CmpOp} {g1 g2 : Int → Int → Bool} (h1 : ∀ X : Cx, OpR X (compareOp o1) (rI0 fun i j => .bl (g1 i j))) (h2 : ∀ X : Cx, OpR X (compareOp o2) (rI0 fun i j => .bl (g2 i j))) {m1 m2 m3 : R Int} (ha : ES J Γ a m1) (hb : ES J Γ b m2) (hc : ES J Γ c m3)
    (hm : lastMarks [o1, o2] [b, c] = false := by with_unfolding_all rfl) : ES J Γ (.Compare a [o1, o2] [b, c] pos) (m1.bind fun x => m2.bind fun y => if g1 x y = true then m3.bind fun z => .ok (g2 y z) else .ok false) :=
  ⟨pe_wk (pe_chain (h1 _) (h2 _) ha.pe hb.pe hc.pe hm) (chain_imp rfl rfl)⟩
theorem ET.chain {o1 o2 : CmpOp} {g1 g2 : Int → Int → Bool} (h1 : ∀ X : Cx, OpR X (compareOp o1) (rI0 fun i j => .bl (g1 i j))) (h2 : ∀ X : Cx, OpR X (compareOp o2) (rI0 fun i j => .bl (g2 i j))) {m1 m2 m3 : R Int} (ha : ES J Γ a m1) (hb : ES J Γ b m2) (hc : ES J Γ c m3)
    (hm : lastMarks [o1, o2] [b, c] = false := by with_unfolding_all rfl) : ET J Γ (.Compare a [o1, o2] [b, c] pos) (m1.bind fun x => m2.bind fun y => if g1 x y = true then m3.bind fun z => .ok (g2 y z) else .ok false) :=
  ⟨pt_wk (pt_chain (h1 _) (h2 _) ha.pe hb.pe hc.pe hm) (chain_impB rfl rfl)⟩
/-- .. where the third is known without a step -/
theorem ES.chainP {o1 o2 : CmpOp} {g1 g2 : Int → Int → Bool} (h1 : ∀ X : Cx, OpR X (compareOp o1) (rI0 fun i j => .bl (g1 i j))) (h2 : ∀ X : Cx, OpR X (compareOp o2) (rI0 fun i j => .bl (g2 i j))) {m1 m2 : R Int} {z : Int} (ha : ES J Γ a m1) (hb : ES J Γ b m2) (hc : ES J Γ c (.ok z))
    (hm : lastMarks [o1, o2] [b, c] = false := by with_unfolding_all rfl) : ES J Γ (.Compare a [o1, o2] [b, c] pos) (m1.bind fun x => m2.bind fun y => .ok (g1 x y && g2 y z)) := by
  have h := ES.chain (pos := pos) h1 h2 ha hb hc hm
  simp only [ok_bind, and_pure] at h
  exact h
theorem ET.chainP {o1 o2 : CmpOp} {g1 g2 : Int → Int → Bool} (h1 : ∀ X : Cx, OpR X (compareOp o1) (rI0 fun i j => .bl (g1 i j))) (h2 : ∀ X : Cx, OpR X (compareOp o2) (rI0 fun i j => .bl (g2 i j))) {m1 m2 : R Int} {z : Int} (ha : ES J Γ a m1) (hb : ES J Γ b m2) (hc : ES J Γ c (.ok z))
    (hm : lastMarks [o1, o2] [b, c] = false := by with_unfolding_all rfl) : ET J Γ (.Compare a [o1, o2] [b, c] pos) (m1.bind fun x => m2.bind fun y => .ok (g1 x y && g2 y z)) := by
  have h := ET.chain (pos := pos) h1 h2 ha hb hc hm
  simp only [ok_bind, and_pure] at h
  exact h
end
/-! #### texts -/
section
variable {J : Jd} {Γ : List Sl} {a b c e : Expr} {pos p p2 p3 p4 q : Pos}
theorem txs_append {s t : Tx} : txs s ++ txs t = txs (s ++ t) := by
  show (⟨s.toArray ++ t.toArray⟩ : Str) = ⟨(s ++ t).toArray⟩
  simp
noncomputable def catTxM (s t : Tx) : R Tx := @ite _ (s.length + t.length ≤ 16777216) (Classical.propDecidable _) (.ok (s ++ t)) .stuck
theorem ES.catTx {m1 m2 : R Tx} (ha : ES J Γ a m1) (hb : ES J Γ b m2) : ES J Γ (.BinOp a .Add b pos) (m1.bind fun s => m2.bind fun t => catTxM s t) :=
  ⟨pe_wk (pe_op op_add_str ha.val.pe hb.val.pe) (op2 (f := catTxM) (fun s t G H σ v u Q S r1 r2 w => by
    obtain ⟨rfl, ok1⟩ := rp_tx r1
    obtain ⟨rfl, ok2⟩ := rp_tx r2
    unfold catTxM at w
    by_cases hz : s.length + t.length ≤ 16777216
    · rw [if_pos hz] at w
      refine ⟨txs s, txs t, rfl, rfl, by rw [txs_length, txs_length]; exact szl.mpr hz, ?_⟩
      rw [txs_append]
      exact w _ G H (Gr.refl S.gh) (Rp.tx fun c hc => (List.mem_append.mp hc).elim (ok1 c) (ok2 c))
    · rw [if_neg hz] at w; exact w.elim) i_id i_id)⟩
/-- a sign in a text -/
def inTxM (s t : Tx) : R Bool := match s with
  | [c] => .ok (decide (c ∈ t))
  | _ => .stuck
def ninTxM (s t : Tx) : R Bool := match s with
  | [c] => .ok (!decide (c ∈ t))
  | _ => .stuck
theorem txs_one {c : Nat} : txs [c] = ⟨#[c]⟩ := rfl
theorem ES.inTx {m1 m2 : R Tx} (ha : ES J Γ a m1) (hb : ES J Γ b m2) (hm : behindInMarks .In b = false := by rfl) : ES J Γ (.Compare a [.In] [b] pos) (m1.bind fun s => m2.bind fun t => inTxM s t) :=
  ⟨pe_wk (pe_cmpR op_in_sign ha.val.pe hb.val.pe hm) (op2 (f := inTxM) (fun s t G H σ v u Q S r1 r2 w => by
    obtain ⟨rfl, ok1⟩ := rp_tx r1
    obtain ⟨rfl, ok2⟩ := rp_tx r2
    match s, w with
    | [c], w => exact ⟨c, txs t, rfl, rfl, by rw [txs_cps]; exact w _ G H (Gr.refl S.gh) .bl⟩
    | [], w => exact w.elim
    | _ :: _ :: _, w => exact w.elim) i_id i_id)⟩
theorem ET.inTx {m1 m2 : R Tx} (ha : ES J Γ a m1) (hb : ES J Γ b m2) (hm : behindInMarks .In b = false := by rfl) : ET J Γ (.Compare a [.In] [b] pos) (m1.bind fun s => m2.bind fun t => inTxM s t) :=
  ⟨pt_wk (pt_cmpR op_in_sign ha.val.pe hb.val.pe hm) (op2B (f := inTxM) (fun s t G H σ v u Q S r1 r2 w => by
    obtain ⟨rfl, ok1⟩ := rp_tx r1
    obtain ⟨rfl, ok2⟩ := rp_tx r2
    match s, w with
    | [c], w => exact ⟨c, txs t, rfl, rfl, by rw [txs_cps]; exact w G H (Gr.refl S.gh)⟩
    | [], w => exact w.elim
    | _ :: _ :: _, w => exact w.elim) i_id i_id)⟩
theorem ES.ninTx {m1 m2 : R Tx} (ha : ES J Γ a m1) (hb : ES J Γ b m2) (hm : behindInMarks .NotIn b = false := by rfl) : ES J Γ (.Compare a [.NotIn] [b] pos) (m1.bind fun s => m2.bind fun t => ninTxM s t) :=
  ⟨pe_wk (pe_cmpR op_notIn_sign ha.val.pe hb.val.pe hm) (op2 (f := ninTxM) (fun s t G H σ v u Q S r1 r2 w => by
    obtain ⟨rfl, ok1⟩ := rp_tx r1
    obtain ⟨rfl, ok2⟩ := rp_tx r2
    match s, w with
    | [c], w => exact ⟨c, txs t, rfl, rfl, by rw [txs_cps]; exact w _ G H (Gr.refl S.gh) .bl⟩
    | [], w => exact w.elim
    | _ :: _ :: _, w => exact w.elim) i_id i_id)⟩
theorem ET.ninTx {m1 m2 : R Tx} (ha : ES J Γ a m1) (hb : ES J Γ b m2) (hm : behindInMarks .NotIn b = false := by rfl) : ET J Γ (.Compare a [.NotIn] [b] pos) (m1.bind fun s => m2.bind fun t => ninTxM s t) :=
  ⟨pt_wk (pt_cmpR op_notIn_sign ha.val.pe hb.val.pe hm) (op2B (f := ninTxM) (fun s t G H σ v u Q S r1 r2 w => by
    obtain ⟨rfl, ok1⟩ := rp_tx r1
    obtain ⟨rfl, ok2⟩ := rp_tx r2
    match s, w with
    | [c], w => exact ⟨c, txs t, rfl, rfl, by rw [txs_cps]; exact w G H (Gr.refl S.gh)⟩
    | [], w => exact w.elim
    | _ :: _ :: _, w => exact w.elim) i_id i_id)⟩
/-- a constant of the module that is a text -/
theorem ES.glob {x : Str} {t : Tx} (hm : ∃ k, J.X.mg x = some (.str (txs t) k)) (ht : TxOk t) (hg : Gl J.X x := by rfl) (hd : (x == ("__debug__" : Str)) = false := by decide) : ES J Γ (.Name x pos) (.ok t) := by
  obtain ⟨k, hm⟩ := hm
  exact ⟨pe_wk (pe_glob (v := .str (txs t)) hg hm ⟨k, rfl⟩ hd) fun σ H Q ⟨G, S, w⟩ => w _ G H (Gr.refl S.gh) (Rp.tx ht)⟩
theorem ES.globI {x : Str} {i : Int} (hm : ∃ k, J.X.mg x = some (.int i k)) (hg : Gl J.X x := by rfl) (hd : (x == ("__debug__" : Str)) = false := by decide) : ES J Γ (.Name x pos) (.ok i) := by
  obtain ⟨k, hm⟩ := hm
  exact ⟨pe_wk (pe_glob (v := .int i) hg hm ⟨k, rfl⟩ hd) fun σ H Q ⟨G, S, w⟩ => w _ G H (Gr.refl S.gh) .int⟩
end
/-! #### sorts of data -/
/-- data that can be put in order -/
class EncSort (α : Type) [Enc α] where
  al : ∀ a b : α, PySem.W.alike (enc a) (enc b) = true
  so : (∀ a : α, ∃ x r, enc a = .tuple (x :: r)) ∨ ∀ a : α, enc a ≠ .none ∧ ∀ xs, enc a ≠ .tuple xs
  le : α → α → Bool
  eq : PySem.W.dataLe false (enc : α → D) = le
instance : EncSort Int := ⟨fun a b => by show PySem.W.alike (.int a) (.int b) = true; simp [PySem.W.alike], .inr fun a => ⟨(by intro e; cases e), (by intro xs e; cases e)⟩, fun a b => decide (a ≤ b), PySem.W.dataLe_int (β := Int) (fun b => b)⟩
instance : EncSort (Int × Int) := ⟨fun a b => by show PySem.W.alike (.tuple [.int a.1, .int a.2]) (.tuple [.int b.1, .int b.2]) = true; simp [PySem.W.alike, PySem.W.alikeAll], .inl fun a => ⟨_, _, rfl⟩, fun p q => decide (p.1 < q.1 ∨ (p.1 = q.1 ∧ p.2 ≤ q.2)), PySem.W.dataLe_ii (β := Int × Int) (fun b => b.1) (fun b => b.2)⟩
/-- rising -/
def upD {α : Type} [Enc α] [EncSort α] (xs : List α) : List α := xs.mergeSort EncSort.le
theorem upD_perm {α : Type} [Enc α] [EncSort α] {xs : List α} : (upD xs).Perm xs := List.mergeSort_perm _ _
theorem upI_sorted {xs : List Int} : (upD xs).Pairwise (· ≤ ·) := by
  have h := List.pairwise_mergeSort (le := fun a b : Int => decide (a ≤ b)) (by intro a b c; simp only [decide_eq_true_eq]; omega) (by intro a b; simp only [Bool.or_eq_true, decide_eq_true_eq]; omega) xs
  exact h.imp fun h => by simpa using h
theorem upP_sorted {xs : List (Int × Int)} : (upD xs).Pairwise fun p q => p.1 < q.1 ∨ (p.1 = q.1 ∧ p.2 ≤ q.2) := by
  have h := List.pairwise_mergeSort (le := fun p q : Int × Int => decide (p.1 < q.1 ∨ (p.1 = q.1 ∧ p.2 ≤ q.2))) (by intro a b c; simp only [decide_eq_true_eq]; omega) (by intro a b; simp only [Bool.or_eq_true, decide_eq_true_eq]; omega) xs
  exact h.imp fun h => by simpa using h
section
variable {X : Cx} {α : Type} [Enc α] [EncSort α] [EncDep α]
def rSortD (K : PySem.W.Frag) (α : Type) [Enc α] [EncSort α] : List V → Hp → VK → Prop := fun vs H Q => ∃ (a : Addr) (xs : List V) (ds : List α) (G : Hp), vs = [V.ref a] ∧ SqL K H a xs ∧ Ex G H ∧ RpA K G xs (ds.map enc) ∧
  ∀ ys p, RpA K G ys ((upD ds).map enc) → H p = none → Q (.ref p) (upd H p (.lst ys))
theorem each_back {K : PySem.W.Frag} {G : Hp} : ∀ {out : List Value} {bs : List α}, PySem.W.EachIs (fun v b => ∃ x : V, RelV x v ∧ Rp K G x (enc b)) out bs → ∃ ys : List V, Vals ys out ∧ RpA K G ys (bs.map enc)
  | _, _, .nil => ⟨[], .nil, .nil⟩
  | _, _, .cons ⟨x, h1, h2⟩ t => by
    obtain ⟨ys, h3, h4⟩ := each_back t
    exact ⟨x :: ys, .cons h1 h3, .cons h2 h4⟩
theorem each_forth {K : PySem.W.Frag} {G : Hp} : ∀ {xs : List V} {us : List Value} {bs : List α}, Vals xs us → RpA K G xs (bs.map enc) → PySem.W.EachIs (fun v b => ∃ x : V, RelV x v ∧ Rp K G x (enc b)) us bs
  | _, us, [], r, h => by
    have e := RpA.unnil h
    subst e
    cases r
    exact .nil
  | _, us, b :: bs, r, h => by
    obtain ⟨w, ws, rfl, r1, r2⟩ := RpA.uncons h
    cases r with
    | cons a t => exact .cons ⟨w, a, r1⟩ (each_forth t r2)
theorem cr_sortD (hu : X.A.units + 66 < cLine) (hd : dep α ≤ 60) : CallR X (.builtin "sorted") (rSortD X.K α) := by
  intro pins s σ H vs us Q I r h
  obtain ⟨a, xs, ds, G, rfl, hs, eG, rp, q⟩ := h
  obtain ⟨its, rv, hl, hz⟩ := I.list hs
  rw [Vals.ref1 r]
  have e1 := each_forth rv rp
  have hlen : ds.length = xs.length := by rw [rp.length, List.length_map]
  refine PySem.W.sorted_data (enc := (enc : α → D)) hl.isList e1 (e1.mono fun v b ⟨x, h1, h2⟩ => Dp.reads I (enc b) x v (h2.ex eG).dp h1) (PySem.W.AllAlike.of fun a b => EncSort.al a b)
    ((EncSort.so (α := α)).elim (fun h => PySem.W.Sortable.tuples h) fun h => PySem.W.Sortable.others h) (by rw [hlen]; exact hz) (fun b _ => by have := hdep b; omega) fun out ho he => ?_
  rw [EncSort.eq] at he
  obtain ⟨ys, h1, h2⟩ := each_back he
  obtain ⟨ep, he'⟩ := PyProof.Rows.sortedAll_at s.heap its out.toArray
  have hl2 : ys.length ≤ sizeLine := by
    rw [h1.length, ho, hlen]
    exact hz
  exact ⟨.ref _, upd H (s.heap.objs.size + 1) (.lst ys), I.laid (t' := s.toks) (fun _ _ => PyProof.Rows.sortedAll_old) (Nat.le_succ _) ⟨hl2, out, ep, h1, he'⟩, rfl, q _ _ h2 (I.hok.fresh (Nat.le_succ _))⟩
end
section
variable {J : Jd} {Γ : List Sl} {a b c e : Expr} {pos p p2 p3 p4 q : Pos} {α β γ : Type} [Enc α] [EncSort α] [EncDep α] [Enc β]
/-- sorted(xs) -/
theorem EF.sortD {m : R (List α)} (hu : J.X.A.units + 66 < cLine) (h : EL J Γ a m) (hm : J.X.mg "sorted" = none) (hd : dep α ≤ 60 := by decide) (hg : Gl J.X "sorted" := by rfl) (he : starEach (a :: []) J.X.env = (false, eval a J.X.env) :: starEach [] J.X.env := by rfl) : EF J Γ (.Call (.Name "sorted" p) [a] [] pos) (m.bind fun xs => .ok (upD xs)) :=
  ⟨pe_wk (pe_callB (cr_sortD (α := α) hu hd) hg hm (by decide +kernel) (pa_cons h.pe pa_nil he) (he := he)) fun σ H Q ⟨G, S, w⟩ => ⟨G, S, wp_mono (wp_bind.mp w) (fun xs k l vs G' H' g hl r => ⟨l, vs, xs, G', rfl, hl, g.gh, r, fun ys l' ry hn =>
    k l' ys G' _ (g.trans (Gr.loose g.gh hn)) (ex_none g.hh hn) (ex_none g.gh hn) upd_same ry⟩) fun _ _ z => z⟩⟩
theorem rpA_scal {γ : Type} [Enc γ] [Scal γ] {K : PySem.W.Frag} {H H' : Hp} : ∀ {xs : List γ} {vs : List V}, RpA K H vs (xs.map enc) → RpA K H' vs (xs.map enc)
  | [], _, r => by rw [RpA.unnil r]; exact .nil
  | y :: ys, _, r => by
    obtain ⟨w, ws, rfl, r1, r2⟩ := RpA.uncons r
    exact .cons (Scal.sc r1) (rpA_scal r2)
/-- an expression over a list of one's own, its value of things that need no heap -/
theorem EF.borrow {i : Nat} {xs : List β} {γ : Type} [Enc γ] [Scal γ] {m : R (List γ)} (hG : Γ[i]? = some (.ow (xs.map enc))) (h : EF J (Γ.set i (.va (.list (xs.map enc)))) e m) (hne : ∀ n a, m ≠ .exc n a) : EF J Γ e m :=
  ⟨pe_wk h.pe fun σ H Q ⟨G, S, w⟩ => by
    obtain ⟨G2, eg, S2⟩ := S.freeze hG
    refine ⟨G2, S2, ?_⟩
    cases m with
    | stuck => exact w
    | exc n a => exact absurd rfl (hne n a)
    | ok a =>
      intro l vs G' H' g n n' hl r
      refine w l vs G H' ⟨Ex.refl _, S.gh.trans g.hh, g.hh, fun _ _ e => .inl e⟩ n (ex_none S.gh n) hl ?_
      exact rpA_scal r⟩
theorem lcGo_ne {α β : Type} {p : α → R Bool} {f : α → R β} : ∀ {xs : List α} (n : Nat) (a : Option Int), lcGo p f xs ≠ .exc n a
  | [], n, a => by intro h; cases h
  | x :: xs, n, a => by
    have ih := lcGo_ne (p := p) (f := f) (xs := xs) n a
    unfold lcGo
    cases p x with
    | stuck => intro h; cases h
    | exc n a => intro h; cases h
    | ok b =>
      rw [noexc_ok, ok_bind]
      split
      · cases f x with
        | stuck => intro h; cases h
        | exc n a => intro h; cases h
        | ok y =>
          rw [noexc_ok, ok_bind]
          cases h2 : lcGo p f xs with
          | stuck => intro h; cases h
          | exc n a => intro h; rw [h2] at ih; cases h; exact ih rfl
          | ok ys => intro h; cases h
      · exact ih
theorem lcM_ne {α β : Type} {p : α → R Bool} {f : α → R β} {xs : List α} (n : Nat) (a : Option Int) : lcM p f xs ≠ .exc n a := by
  unfold lcM
  by_cases h : xs.length < 16777216
  · rw [if_pos h]; exact lcGo_ne n a
  · rw [if_neg h]; intro h; cases h
theorem mpM_ne {α β : Type} {f : α → R β} {xs : List α} (n : Nat) (a : Option Int) : mpM f xs ≠ .exc n a := by rw [mpM_eq]; exact lcM_ne n a
end
/-! #### remove -/
def remM (xs : List Int) (k : Int) : R (List Int) := if k ∈ xs then .ok (xs.erase k) else .stuck
theorem erase_at {k : Int} : ∀ {xs : List Int}, k ∈ xs → ∃ j : Nat, xs[j]? = some k ∧ (∀ m : Nat, m < j → xs[m]? ≠ some k) ∧ xs.eraseIdx j = xs.erase k
  | [], h => by cases h
  | x :: xs, h => by
    by_cases e : x = k
    · subst e
      exact ⟨0, rfl, fun m hm => by omega, by simp⟩
    · have h2 : k ∈ xs := by
        rcases List.mem_cons.mp h with z | z
        · exact absurd z.symm e
        · exact z
      obtain ⟨j, h3, h4, h5⟩ := erase_at h2
      refine ⟨j + 1, by simpa using h3, fun m hm => ?_, ?_⟩
      · cases m with
        | zero => simpa using e
        | succ m => simpa using h4 m (by omega)
      · rw [List.eraseIdx_cons_succ, h5, List.erase_cons_tail (by simpa using e)]
section
variable {J : Jd} {Γ : List Sl} {a b c e : Expr} {pos p p2 : Pos}
theorem BS.rem {i : Nat} {xs : List Int} {m : R Int} {call : Expr} (hc : ∀ te, PE J.X e te → PE J.X call (tBM J.X.K "list" rRemI (tVar i) (tCons te tNil))) (h : ES J Γ e m) (hp : PeOk J Γ) (hG : Γ[i]? = some (.ow (xs.map enc))) (hs : swapsWith call none p2.line J.X.env = pure false := by rfl) :
    BS J Γ (.Expr call p2) (m.bind fun k => remM xs k) (fun ys => .nx (Γ.set i (.ow (ys.map enc)))) :=
  ⟨ps_wk (ps_expr (hc _ h.pe) hs) fun D σ H ⟨G, S, q⟩ => by
    obtain ⟨l, vs, e1, hl, r, gl⟩ := S.ow hG
    refine ⟨.ref l, e1, .inl ⟨rfl, _, .inl (.inl hl)⟩, G, S, wp_mono (wp_bind.mp q) (fun a k v G' H' g ra => ?_) fun n a z => erE_of hp z σ⟩
    have e2 := Rp.unint ra
    have e3 := rpA_ints r
    subst e2 e3
    unfold remM at k
    by_cases hz : a ∈ xs
    · rw [if_pos hz] at k
      obtain ⟨j, h1, h2, h3⟩ := erase_at hz
      refine ⟨l, xs, a, j, rfl, rfl, g.hh _ _ hl, h1, h2, ?_⟩
      rw [h3]
      exact k G' σ _ ((S.gr g).mut hG e1 ints_rpA)
    · rw [if_neg hz] at k; exact k.elim⟩
end
/-! #### join, split -/
section
variable {J : Jd} {Γ : List Sl} {a b c e : Expr} {pos p p2 apos : Pos}
theorem rpA_txs {K : PySem.W.Frag} {H : Hp} : ∀ {xs : List Tx} {vs : List V}, RpA K H vs (xs.map enc) → vs = (xs.map txs).map V.str ∧ ∀ x ∈ xs, TxOk x
  | [], _, r => ⟨r.unnil, fun _ h => by cases h⟩
  | x :: xs, _, r => by
    obtain ⟨w, ws, rfl, r1, r2⟩ := RpA.uncons r
    obtain ⟨rfl, h1⟩ := rp_tx r1
    obtain ⟨e, h2⟩ := rpA_txs (xs := xs) r2
    refine ⟨by rw [e]; rfl, fun y hy => ?_⟩
    rcases List.mem_cons.mp hy with rfl | hy
    · exact h1
    · exact h2 y hy
theorem txs_rpA {K : PySem.W.Frag} {H : Hp} : ∀ {xs : List Tx}, (∀ x ∈ xs, TxOk x) → RpA K H ((xs.map txs).map V.str) (xs.map enc)
  | [], _ => .nil
  | x :: xs, h => .cons (Rp.tx (h x List.mem_cons_self)) (txs_rpA fun y hy => h y (List.mem_cons_of_mem _ hy))
theorem tl_txs {t : Tx} : TL.tl (txs t) = t := txs_cps
theorem txs_tl {s : Str} : txs (TL.tl s) = s := by
  cases s with
  | mk a => show (⟨a.toList.toArray⟩ : Str) = ⟨a⟩; simp
theorem map_tl_txs : ∀ xs : List Tx, (xs.map txs).map TL.tl = xs
  | [] => rfl
  | x :: xs => by rw [List.map_cons, List.map_cons, map_tl_txs xs, tl_txs]
noncomputable def joinM (s : Tx) (xs : List Tx) : R Tx := @ite _ ((xs.map List.length).sum + xs.length * s.length ≤ 16777216) (Classical.propDecidable _) (.ok (TL.joinL s xs)) .stuck
theorem TL.joinL_ok {s : Tx} (hs : TxOk s) : ∀ {xs : List Tx}, (∀ x ∈ xs, TxOk x) → TxOk (TL.joinL s xs)
  | [], _ => fun c h => by cases h
  | [p], h => h p (by simp)
  | p :: q :: r, h => fun c hc => by
    unfold TL.joinL at hc
    rcases List.mem_append.mp hc with z | z
    · exact h p (by simp) c z
    · rcases List.mem_append.mp z with z | z
      · exact hs c z
      · exact TL.joinL_ok hs (xs := q :: r) (fun y hy => h y (List.mem_cons_of_mem _ hy)) c z
theorem ES.join {m1 : R Tx} {m2 : R (List Tx)} (h1 : ES J Γ a m1) (h2 : EL J Γ b m2) (hs : starEach [b] J.X.env = [(false, eval b J.X.env)] := by rfl) (hbase : attributeBase a "join" J.X.env (eval a J.X.env) = eval a J.X.env := by rfl) (hline : (apos.endLine == pos.line) = true := by rfl) :
    ES J Γ (.Call (.Attribute a "join" apos) [b] [] pos) (m1.bind fun s => m2.bind fun xs => joinM s xs) :=
  ⟨pe_wk (pe_join h1.pe h2.pe hs hbase hline) fun σ H Q ⟨G, S, w⟩ => ⟨G, S, wp_mono (wp_bind.mp w) (fun s k v G1 H1 g1 r1 => by
    obtain ⟨rfl, ok1⟩ := rp_tx r1
    refine ⟨⟨_, rfl⟩, G1, S.gr g1, wp_mono (wp_bind.mp k) (fun xs k2 l vs G2 H2 g2 hl r2 => ?_) fun _ _ z => z⟩
    obtain ⟨rfl, ok2⟩ := rpA_txs r2
    unfold joinM at k2
    by_cases hz : (xs.map List.length).sum + xs.length * s.length ≤ 16777216
    · rw [if_pos hz] at k2
      have el : ((xs.map txs).map (fun x => x.length)) = xs.map List.length := by
        rw [List.map_map]
        exact List.map_congr_left fun x _ => txs_length
      refine ⟨txs s, l, xs.map txs, rfl, rfl, .inl hl, by rw [el, List.length_map, txs_length]; exact hz, ?_⟩
      have e : Txt.join (txs s) (xs.map txs) = txs (TL.joinL s xs) := by
        rw [← txs_tl (s := Txt.join (txs s) (xs.map txs))]
        congr 1
        refine (congrArg TL.tl (TL.join_eq (txs s) (xs.map txs))).trans ((TL.tl_join (txs s) (xs.map txs)).trans ?_)
        rw [tl_txs, map_tl_txs]
      rw [e]
      exact k2 _ G2 H2 (g1.trans g2) (Rp.tx (TL.joinL_ok ok1 ok2))
    · rw [if_neg hz] at k2; exact k2.elim) fun _ _ z => z⟩⟩
end
/-! #### a search over a list of one's own -/
abbrev Jd.hd (J : Jd) (F : Hp) (p : Addr) (vs : List V) : Jd := { J with c := ⟨F, upd J.c.H0 p (.lst vs), [], F⟩ }
theorem ed_hd {c : Bs} {F G H : Hp} {p : Addr} {vs : List V} {F0 : List Addr} {Fl : Hp} (h : Ed ⟨F, upd c.H0 p (.lst vs), [], Fl⟩ G H) (eb : Ex c.B F) (n0 : c.H0 p = none) (se : ∀ a o, c.H0 a = some o → c.B a = none → F a = none) : Ed c G H :=
  have hold : ∀ a u, c.H0 a = some u → (upd c.H0 p (.lst vs)) a = some u := fun a u q => by rw [upd_ne (fun z => by rw [z, n0] at q; cases q)]; exact q
  ⟨eb.trans h.bg, h.gh, fun a o e _ => h.h0 a o (hold a o e) (by simp), fun a o e _ n => h.sep a o (hold a o e) (by simp) (se a o e n), fun a o e => h.th a o (hold a o e)⟩
theorem flP_hd {J : Jd} {F : Hp} {p : Addr} {vs : List V} {D D' : Ends} {o : Fl} (ho : IsR o) (h : FlP J D o) (e : D'.rt = D.rt) (eb : Ex J.c.B F) (n0 : J.c.H0 p = none) (se : ∀ a o, J.c.H0 a = some o → J.c.B a = none → F a = none) : FlP (J.hd F p vs) D' o := by
  cases o with
  | rt d => exact fun v G H ed r => by rw [e]; exact h v G H (ed_hd (F0 := []) ed eb n0 se) r
  | rf d =>
      intro q ws G H ed n g hq r
      rw [e]
      refine h q ws G H (ed_hd (F0 := []) ed eb n0 se) ?_ g hq r
      have n' : upd J.c.H0 p (.lst vs) q = none := n
      by_cases hq' : q = p
      · rw [hq', upd_same] at n'; cases n'
      · rwa [upd_ne hq'] at n'
  | rg R =>
      intro v f G H ed r nd n
      rw [e]
      refine h v f G H (ed_hd (F0 := []) ed eb n0 se) r nd fun q hq => ⟨.inr ?_, (n q hq).2⟩
      have n' : upd J.c.H0 p (.lst vs) q = none := (n q hq).1.elim (fun z => nomatch z) fun z => z
      by_cases hq' : q = p
      · rw [hq', upd_same] at n'; cases n'
      · rwa [upd_ne hq'] at n'
  | _ => exact ho.elim
section
variable {J : Jd} {Γ : List Sl} {tg : Expr} {body : List Stmt} {pos px : Pos} {α ρ : Type} [Enc α]
theorem BS.forSO {i : Nat} {x : Str} {xs : List α} {g : TG} {js : List Nat} {up : List Sl → α → List Sl} {f : α → R (Option ρ)} (hN : J.X.N[i]? = some x) (nf : J.c.F0 = []) (hg : PG J.X tg g) (ht : TgS J.K g js up) (Γ1 : List Sl) (ro : ρ → Fl) (hr : ∀ r, IsR (ro r)) (w : Wk Γ Γ1) (hi : Γ1[i]? = some (.ow (xs.map enc)))
    (hp : ∀ σ H, (∃ G, Ed0 J.c.B J.c.H0 J.c.F0 G H) → J.Pe σ H)
    (hb : ∀ (F : Hp) (p : Addr) (vs : List V) (y : α), (∀ σ H, (∃ G, Ed0 F (upd J.c.H0 p (.lst vs)) [] G H) → J.Pe σ H) → BD (J.hd F p vs) (up (Γ1.set i (.rw (.ref p))) y) body (f y) (opB (Γ1.set i (.rw (.ref p))) ro))
    (hc : J.X.calm = true := by rfl) (hs : ∀ z, foldedSetIterable (.Name x px) J.X.env z = pure z := by intro _; rfl) (hv : Vis J.X.env.scope x := by first | exact Or.inl rfl | exact Or.inr (Or.inl rfl) | exact Or.inr (Or.inr rfl))
    (hd : (x == ("__debug__" : Str)) = false := by decide) (hcd : (x == ("__classdict__" : Str)) = false := by decide) : BS J Γ (.For tg (.Name x px) body [] pos) (loopS f xs) (opB Γ1 ro) := by
  have hb' : PSs J.X body (fun D σ' H => ∃ F p vs y, (∀ σ H, (∃ G, Ed0 F (upd J.c.H0 p (.lst vs)) [] G H) → J.Pe σ H) ∧ tBD (J.hd F p vs) (up (Γ1.set i (.rw (.ref p))) y) (f y) (opB (Γ1.set i (.rw (.ref p))) ro) D σ' H) :=
    ⟨fun pins s σ H D I ⟨F, p, vs, y, hpe, q⟩ => (hb F p vs y hpe).ps.run pins s σ H D I q⟩
  refine ⟨ps_wk (ps_for J.po hc (pi_list (pe_var hN hv hd hcd)) hg hb' hs) fun D σ' H ⟨G, S, q⟩ => ?_⟩
  have S1 := S.wk w
  obtain ⟨p, vs, e1, hl, r, gp, n0, S2⟩ := S1.hold hi nf
  have hlen : vs.length = xs.length := by rw [r.length, List.length_map]
  have hpe : ∀ σ H, (∃ G', Ed0 G (upd J.c.H0 p (.lst vs)) [] G' H) → J.Pe σ H := fun σ H ⟨G', ed⟩ => hp σ H ⟨G', by
    have h := ed_hd (c := J.c) (F0 := []) ed S1.bg n0 (fun a o e n => S1.sep a o e (by rw [nf]; simp) n)
    exact ⟨h.bg, h.gh, h.h0, h.sep, h.th⟩⟩
  refine ⟨.ref p, e1, p, rfl, ⟨vs, .inl (.inl hl)⟩, ?_⟩
  refine ⟨fun t m σ2 H2 => m = xs.length - t ∧ t ≤ xs.length ∧ ∃ G2, Sat (J.hd G p vs) (Γ1.set i (.rw (.ref p))) G2 σ2 H2 ∧ (loopS f (xs.drop t)).wp (fun b => FlP J D (opB Γ1 ro b)) (ErB J), ⟨xs.length, by simp, Nat.zero_le _, G, S2, q⟩, ?_⟩
  rintro t m σ2 H2 ⟨rfl, hti, G2, S3, k2⟩
  have hH : H2 p = some (.lst vs) := S3.h0 p (.lst vs) (show upd J.c.H0 p (.lst vs) p = _ from upd_same) (by simp)
  by_cases hlt : t < xs.length
  · refine .inr ⟨⟨vs, vs[t]'(by omega), .inl (.inl hH), by simp⟩, fun σ' H' => xs.length - (t + 1) = xs.length - (t + 1) ∧ t + 1 ≤ xs.length ∧ ∃ G2, Sat (J.hd G p vs) (Γ1.set i (.rw (.ref p))) G2 σ' H' ∧ (loopS f (xs.drop (t + 1))).wp (fun b => FlP J D (opB Γ1 ro b)) (ErB J),
      fun σ' H' h => ⟨xs.length - (t + 1), by omega, h⟩, fun x H' hy => ?_⟩
    obtain ⟨rfl, hy⟩ := hy
    have hx := hy vs (.inl (.inl hH))
    obtain ⟨d, hd', rd⟩ := (r.ex S3.bg).getV hx
    rw [List.getElem?_map, List.getElem?_eq_getElem hlt] at hd'
    cases hd'
    refine ht.sem _ σ2 H' G2 x xs[t] (Γ1.set i (.rw (.ref p))) _ S3 rd fun σ4 _ S4 => ⟨G, p, vs, xs[t], hpe, G2, S4, ?_⟩
    rw [List.drop_eq_getElem_cons hlt] at k2
    refine wp_mono (wp_bind.mp k2) (fun r' k3 => ?_) fun _ _ z => z
    cases r' with
    | none => exact fun G σ H S => ⟨rfl, hlt, G, S, k3⟩
    | some r' => exact flP_hd (hr r') k3 rfl S1.bg n0 (fun a o e n => S1.sep a o e (by rw [nf]; simp) n)
  · have ei : t = xs.length := by omega
    subst ei
    rw [List.drop_length] at k2
    exact .inl ⟨⟨vs, .inl (.inl hH), by omega⟩, k2 G2 σ2 H2 (S3.unhold hi nf S1.bg S1.fl n0 (fun a o e n => S1.sep a o e (by rw [nf]; simp) n) gp r)⟩
end
/-! ### 17. ranges with a step -/
/-- x in xs, by the equality alone -/
@[reducible] def memB {α : Type} [DecidableEq α] (x : α) (xs : List α) : Bool := decide (x ∈ xs)
theorem memB_iff {α : Type} [DecidableEq α] {x : α} {xs : List α} : memB x xs = true ↔ x ∈ xs := decide_eq_true_iff
theorem memB_no {α : Type} [DecidableEq α] {x : α} {xs : List α} : memB x xs = false ↔ x ∉ xs := decide_eq_false_iff_not
/-- m, m + c, .. below n -/
def srange (m n c : Int) : List Int := (List.range (Builtin.Range.rangeSize m n c).toNat).map fun (k : Nat) => m + (k : Int) * c
noncomputable def rangeMS (c m n : Int) : R (List Int) := @ite _ (((-(2 ^ 62) ≤ m ∧ m < 2 ^ 62) ∧ -(2 ^ 62) ≤ n ∧ n < 2 ^ 62) ∧ 0 < c ∧ c < 1000) (Classical.propDecidable _) (.ok (srange m n c)) .stuck
theorem rsize_pos {m n c : Int} (hc : 0 < c) : 0 ≤ Builtin.Range.rangeSize m n c ∧ (m < n → Builtin.Range.rangeSize m n c ≤ n - m) ∧ (Builtin.Range.rangeSize m n c ≠ 0 → m < n) := by
  unfold Builtin.Range.rangeSize
  rw [if_pos hc]
  by_cases h : m < n
  · rw [if_pos h]
    have h1 : 0 ≤ (n - m - 1) / c := Int.ediv_nonneg (by omega) (by omega)
    have h2 : (n - m - 1) / c ≤ n - m - 1 := Int.ediv_le_self _ (by omega)
    omega
  · rw [if_neg h]
    omega
theorem rgc_pos {m n c : Int} (h : ((-(2 ^ 62) ≤ m ∧ m < 2 ^ 62) ∧ -(2 ^ 62) ≤ n ∧ n < 2 ^ 62) ∧ 0 < c ∧ c < 1000) : RgC m n c (Builtin.Range.rangeSize m n c).toNat := by
  obtain ⟨h1, h2, h3⟩ := rsize_pos (m := m) (n := n) h.2.1
  refine ⟨by omega, by omega, ?_, by omega⟩
  unfold Builtin.Range.small
  generalize hk : Builtin.Range.rangeSize m n c = k at *
  simp only [Builtin.Range.rangeFitsLong, Bool.and_eq_true, Bool.or_eq_true, decide_eq_true_eq, beq_iff_eq]
  rw [if_pos h.2.1]
  simp only [Bool.and_eq_true, decide_eq_true_eq]
  by_cases hk0 : k = 0
  · subst hk0; omega
  · have := h3 hk0
    have := h2 this
    omega
theorem srange_length {m n c : Int} : (srange m n c).length = (Builtin.Range.rangeSize m n c).toNat := by unfold srange; simp
theorem itok_srange {K : PySem.W.Frag} {G1 : Hp} {m n c : Int} : ItOk K (Itc m c (Builtin.Range.rangeSize m n c).toNat) G1 (srange m n c) := by
  refine ⟨fun i H _ hi => by rw [srange_length] at hi; exact hi, fun H _ => Nat.le_of_eq srange_length.symm, fun i H x H' a e y ha G eg egh => ?_⟩
  obtain ⟨rfl, rfl⟩ := y
  have hi : i < (Builtin.Range.rangeSize m n c).toNat := by
    have := (List.getElem?_eq_some_iff.mp ha).1
    rw [srange_length] at this; exact this
  unfold srange at ha
  rw [List.getElem?_map, List.getElem?_range hi] at ha
  cases ha
  exact ⟨G, Gr.refl egh, .int⟩
theorem srange_mem {m n c x : Int} (hc : 0 < c) (h : x ∈ srange m n c) : m ≤ x ∧ x < n := by
  unfold srange at h
  obtain ⟨k, hk, rfl⟩ := List.mem_map.mp h
  rw [List.mem_range] at hk
  have h0 : 0 ≤ (k : Int) * c := Int.mul_nonneg (by omega) (by omega)
  refine ⟨by omega, ?_⟩
  unfold Builtin.Range.rangeSize at hk
  rw [if_pos hc] at hk
  by_cases hmn : m < n
  · rw [if_pos hmn] at hk
    have h1 : (k : Int) ≤ (n - m - 1) / c := by omega
    have h2 := Int.mul_le_of_le_ediv hc h1
    omega
  · rw [if_neg hmn] at hk
    simp at hk
section
variable {J : Jd} {Γ : List Sl} {a b c e tg : Expr} {pos p p2 : Pos}
theorem IT.step {k : Int} {m1 m2 : R Int} (h1 : ES J Γ a m1) (h2 : ES J Γ b m2) (h3 : ES J Γ c (.ok k)) (hm : J.X.mg "range" = none) (hg : Gl J.X "range" := by rfl) (he : starEach [a, b, c] J.X.env = (false, eval a J.X.env) :: starEach [b, c] J.X.env := by rfl) (he2 : starEach [b, c] J.X.env = (false, eval b J.X.env) :: starEach [c] J.X.env := by rfl)
    (he3 : starEach [c] J.X.env = (false, eval c J.X.env) :: starEach [] J.X.env := by rfl) (hpl : (backTo pos (starEach [b, c] J.X.env)).any (·.1) = false := by rfl) : IT J Γ tg (.Call (.Name "range" p) [a, b, c] [] pos) (m1.bind fun x => m2.bind fun y => rangeMS k x y) :=
  ⟨pi_wk (pi_range3 hg hm (EA0.cons h1 (EA0.cons h2 (EA0.cons h3 EA0.nil he3) he2) he).pa he hpl) fun σ H Q ⟨G, S, w⟩ => ⟨G, S, wp_bind.mpr (wp_mono (wp_bind.mp w) (fun x k1 => wp_bind.mpr (wp_bind.mpr (wp_mono (wp_bind.mp k1) (fun y k2 vs G' H' g r => by
    obtain ⟨v, ws, rfl, r1, r2⟩ := r.uncons
    obtain ⟨v2, ws2, rfl, r3, r4⟩ := r2.uncons
    obtain ⟨v3, ws3, rfl, r5, r6⟩ := r4.uncons
    have e1 := Rp.unint r1
    have e2 := Rp.unint r3
    have e3 := Rp.unint r5
    have e4 := r6.unnil
    subst e1 e2 e3 e4
    unfold rangeMS at k2
    by_cases hb : ((-(2 ^ 62) ≤ x ∧ x < 2 ^ 62) ∧ -(2 ^ 62) ≤ y ∧ y < 2 ^ 62) ∧ 0 < k ∧ k < 1000
    · rw [if_pos hb] at k2
      exact ⟨x, y, k, _, rfl, rgc_pos hb, k2 _ G' H' g itok_srange⟩
    · rw [if_neg hb] at k2; exact k2.elim) fun _ _ z => z))) fun _ _ z => z)⟩⟩
end
/-! ### 18. enumerate of a text -/
/-- each sign of x with its number, in a new pair -/
def IteT (x : Str) : It :=
  ⟨fun i _ => i < x.cps.size, fun i H v H' => ∃ (T : Addr) (c : Nat), v = .ref T ∧ H T = none ∧ H' = upd H T (.tup [.int (i : Nat), .str ⟨#[c]⟩]) ∧ x.cps[i]? = some c, fun i _ => i = x.cps.size⟩
theorem turn_enumT {P : Program} {w : World} {K : PySem.W.Frag} {elts : List Expr} {kk : Nat} {tpos : Pos} (x : Str) (t : Tok) (e it : Addr) :
    Turn P w K (.Tuple elts kk tpos) (IteT x) [e, it] e (fun i h => (∃ o, IsEnum h e it ((i : Nat) : Int) o) ∧ h.IsStrIter it (PySem.strIterType x) x t i ∧ e ≠ it) where
  mem := by simp
  obj := by
    rintro i h ⟨⟨o, h1⟩, ⟨o2, h2, h3, h4⟩, _⟩ b hb
    have hb' : b = e ∨ b = it := by simpa using hb
    rcases hb' with rfl | rfl
    · exact ⟨_, h1, fun v q => nomatch q⟩
    · exact ⟨o2, h2, fun v q => by rw [h4] at q; cases q⟩
  keep := by
    rintro i h h' ⟨⟨o, h1⟩, ⟨o2, h2, h3⟩, h4⟩ k
    exact ⟨⟨o, k e (by simp) _ h1⟩, ⟨o2, k it (by simp) o2 h2, h3⟩, h4⟩
  item := by
    intro X hP hw hK hc i pins s σ H E I hf st hg
    subst hP hw hK
    obtain ⟨⟨o, h1⟩, h2, h4⟩ := st
    have el : e < s.heap.objs.size := Heap.lt_size h1
    have il : it < s.heap.objs.size := by obtain ⟨_, q, _⟩ := h2; exact Heap.lt_size q
    have dr := PySem.Draws.text (prog := X.prog) (w := X.w) (A := X.A.in1) (I.ok.hd hc) it x t
    refine PySem.wpAny_pyNext_enum_itemC dr h1 h2 hg h4 (by simpa using h4) fun v h' tk hv ho h2' hT hsz hk => ?_
    obtain ⟨c, u, hcx, rfl⟩ := hv
    refine ⟨_, rfl, wpAny_letOwnedTupleGo_enum (s := { s with heap := h', toks := tk + 1 }) ho fun g he' sb => ?_⟩
    have hT2 : g.get? s.heap.objs.size = some { cls := .type "tuple", data := .seq #[.int i tk, .str ⟨#[c]⟩ u] } := (sb.2 _ (Nat.ne_of_gt el)).trans hT
    have new : ObjOk X.prog X.w (upd H s.heap.objs.size (.tup [.int (i : Nat), .str ⟨#[c]⟩])) g s.heap.objs.size (.tup [.int (i : Nat), .str ⟨#[c]⟩]) :=
      ⟨sz1000 (n := 2) (by decide), [.int i tk, .str ⟨#[c]⟩ u], .cons ⟨_, rfl⟩ (.cons ⟨_, rfl⟩ .nil), ⟨_, hT2, rfl, _, rfl⟩⟩
    have I1 : Inv X pins σ (upd H s.heap.objs.size (.tup [.int (i : Nat), .str ⟨#[c]⟩])) { s with heap := g, toks := tk + 1 } :=
      I.turnedNew (ch := [e, it]) (fun b ob hb q => (sb.2 b (fun z => hb (by simp [z]))).trans (hk b ob (fun z => hb (by simp [z])) (fun z => hb (by simp [z])) q)) hf (Nat.le_refl _) new
    refine ⟨.ref s.heap.objs.size, _, I1, rfl, ⟨_, c, rfl, I.hok.fresh (Nat.le_refl _), rfl, hcx⟩, ⟨⟨.str ⟨#[c]⟩ u, ?_⟩, ?_, h4⟩, fun b hb => ?_⟩
    · have e1 : ((i + 1 : Nat) : Int) = (i : Int) + 1 := by omega
      rw [e1]; exact he'
    · obtain ⟨o2, q1, q2⟩ := h2'
      exact ⟨o2, (sb.2 it (Ne.symm h4)).trans q1, q2⟩
    · have hb' : b < s.heap.objs.size := by
        have z : b = e ∨ b = it := by simpa using hb
        rcases z with rfl | rfl
        · exact el
        · exact il
      rw [upd_ne (Nat.ne_of_lt hb')]
      exact (hf b hb).1
  done := by
    intro X hP hw hK hc i pins s σ H E I hf st hg
    subst hP hw hK
    obtain ⟨⟨o, h1⟩, h2, h4⟩ := st
    obtain ⟨f0, f1, f2, f3, f4, f5⟩ := hf it (by simp)
    have dr := PySem.Draws.text (prog := X.prog) (w := X.w) (A := X.A.in1) (I.ok.hd hc) it x t
    have hg : i = x.cps.size := hg
    subst hg
    exact PySem.wpAny_pyNext_enum_endD dr h1 h2 fun h' eb => ⟨rfl, I.turned (t' := s.toks) (fun b o hb q => eb b o hb q) f0 f1 f3 f4 f5⟩
  self := fun A i s Q E st h => by
    obtain ⟨⟨_, h1⟩, _⟩ := st
    exact wpAny_pyIter_enum h1 h
def iEnumT (ta : TA) : TI := fun σ H R => ta σ H fun vs H1 => ∃ x, vs = [.str x] ∧ R (IteT x) H1
theorem pi_enumT {X : Cx} {e : Expr} {ta : TA} {p pos tpos : Pos} {elts : List Expr} {kk : Nat} (hg : Gl X "enumerate") (hm : X.mg "enumerate" = none) (ha : PA X [e] ta) (hs : starEach [e] X.env = [(false, eval e X.env)] := by rfl) :
    PI X (.Tuple elts kk tpos) (.Call (.Name "enumerate" p) [e] [] pos) (iEnumT ta) := by
  refine ⟨fun pins s σ H R I h => ?_⟩
  refine Call_ (ld_blt I hg hm (u := .type "enumerate") (by decide +kernel) (PyProof.Rows.callWith_type1 (thn (ha.run pos pins s σ H _ I h) fun us s1 ⟨vs, H1, I1, r1, x, ev, q⟩ => ?_) hs rfl))
  subst ev
  cases r1 with
  | cons r rr =>
    cases rr
    obtain ⟨t, rfl⟩ := r
    refine PySem.call_enumerate_str fun h' he hit hsz hk => wpAny_pyIter_enum he ?_
    have I2 : Inv X pins σ H1 { s1 with heap := h' } := I1.kept (t' := s1.toks) hk
    refine ⟨s1.heap.objs.size + 1, [s1.heap.objs.size + 1, s1.heap.objs.size], _, _, H1, rfl, I2, turn_enumT x t (s1.heap.objs.size + 1) s1.heap.objs.size, ⟨⟨_, he⟩, hit, Nat.succ_ne_self _⟩, fun b hb => ?_, q⟩
    have hle : s1.heap.objs.size ≤ b := by
      have z : b = s1.heap.objs.size + 1 ∨ b = s1.heap.objs.size := by simpa using hb
      rcases z with rfl | rfl
      · exact Nat.le_succ _
      · exact Nat.le_refl _
    exact I1.fpOk hle (I1.hok.fresh hle)
section
variable {J : Jd} {Γ : List Sl} {a b c e tg : Expr} {pos p p2 : Pos}
theorem itok_enumT {K : PySem.W.Frag} {G1 : Hp} {t : Tx} (ok : TxOk t) : ItOk K (IteT (txs t)) G1 (enumL (M.signs t)) := by
  have hz : (txs t).cps.size = t.length := txs_length
  have hl : (enumL (M.signs t)).length = t.length := by rw [enumL_length]; unfold M.signs; simp
  refine ⟨fun i H _ hi => by show i < (txs t).cps.size; omega, fun H _ => by show _ = (txs t).cps.size; omega, fun i H x H' a e y ha G eg egh => ?_⟩
  obtain ⟨T, c, rfl, hT, rfl, hc⟩ := y
  have hc' : t[i]? = some c := by
    have : (txs t).cps[i]? = t[i]? := by show t.toArray[i]? = _; simp
    rw [← this]; exact hc
  rw [enumL_get] at ha
  unfold M.signs at ha
  rw [List.getElem?_map, hc'] at ha
  cases ha
  have g := Gr.new (o := .tup [.int (i : Nat), .str ⟨#[c]⟩]) egh hT
  exact ⟨_, g, Rp.tup (.inl (.inl upd_same)) (.cons .int (.cons (Rp.tx (t := [c]) fun x hx => by rw [List.mem_singleton] at hx; subst hx; exact ok _ (List.mem_of_getElem? hc')) .nil))⟩
theorem IT.enumTx {es : List Expr} {kk : Nat} {tp : Pos} {m : R Tx} (h : ES J Γ e m) (hm : J.X.mg "enumerate" = none) (hg : Gl J.X "enumerate" := by rfl) (he : starEach [e] J.X.env = (false, eval e J.X.env) :: starEach [] J.X.env := by rfl) : IT J Γ (.Tuple es kk tp) (.Call (.Name "enumerate" p) [e] [] pos) (m.bind fun t => .ok (enumL (M.signs t))) :=
  ⟨pi_wk (pi_enumT hg hm (EA0.cons h EA0.nil he).pa he) fun σ H Q ⟨G, S, w⟩ => ⟨G, S, wp_bind.mpr (wp_mono (wp_bind.mp w) (fun t k vs G' H' g r => by
    obtain ⟨v, ws, rfl, r1, r2⟩ := r.uncons
    have e2 := r2.unnil
    subst e2
    obtain ⟨rfl, ok⟩ := rp_tx r1
    exact ⟨txs t, rfl, k _ G' H' g (itok_enumT ok)⟩) fun _ _ z => z)⟩⟩
end
/-! ### 19. a raise that is never met -/
section
variable {J : Jd} {Γ : List Sl} {sts : List Stmt} {β : Type} {out : β → Fl}
theorem BX.never : BX J Γ sts (.stuck : R β) out := ⟨⟨⟨fun pins s σ H D I q => by obtain ⟨G, S, w⟩ := q; exact w.elim⟩⟩, fun b hb => by cases hb⟩
theorem BD.never : BD J Γ sts (.stuck : R β) out := BX.never.bd
end
/-! ### 20. dicts of one's own -/
class DKey (κ : Type) [Enc κ] where
  key : κ → Key
  inj : ∀ a b : κ, key a = key b → a = b
  rel : ∀ {K : PySem.W.Frag} {H : Hp} {v : V} {a : κ}, Rp K H v (enc a) → v = kV (key a)
instance : DKey Int := ⟨Sum.inl, fun _ _ h => Sum.inl.inj h, fun r => Rp.unint r⟩
instance : DKey Tx := ⟨fun t => Sum.inr (txs t), fun _ _ h => txs_inj (Sum.inr.inj h), fun r => Rp.unstr r⟩
/-- what stands at k -/
def dfind {κ β : Type} [DecidableEq κ] (d : List (κ × β)) (k : κ) : Option β := (d.find? fun p => decide (p.1 = k)).map fun p => p.2
def dput {κ β : Type} [DecidableEq κ] (d : List (κ × β)) (k : κ) (b : β) : List (κ × β) :=
  if (d.any fun p => decide (p.1 = k)) = true then d.map (fun p => if p.1 = k then (p.1, b) else p) else d ++ [(k, b)]
def encKV {κ β : Type} [Enc κ] [DKey κ] [Enc β] (d : List (κ × β)) : List (Key × D) := d.map fun p => (DKey.key p.1, enc p.2)
section
variable {κ β : Type} [DecidableEq κ] [Enc κ] [DKey κ] [Enc β]
theorem key_iff {a b : κ} : (DKey.key a = DKey.key b) ↔ a = b := ⟨DKey.inj a b, fun e => by rw [e]⟩
theorem dfind_cons {k q : κ} {b : β} {d : List (κ × β)} : dfind ((q, b) :: d) k = if q = k then some b else dfind d k := by
  unfold dfind
  rw [List.find?_cons]
  by_cases h : q = k <;> simp [h]
theorem valV_cons {k q : Key} {v : V} {r : List (Key × V)} : valV ((q, v) :: r) k = if q = k then some v else valV r k := by
  unfold valV
  rw [List.find?_cons]
  by_cases h : q = k <;> simp [h]
theorem kva_find {K : PySem.W.Frag} {G : Hp} {k : κ} : ∀ {d : List (κ × β)} {r : List (Key × V)}, KvA K G r (encKV d) → (valV r (DKey.key k) = none ∧ dfind d k = none) ∨ ∃ v b, valV r (DKey.key k) = some v ∧ dfind d k = some b ∧ Rp K G v (enc b)
  | [], _, h => by
    cases h
    exact .inl ⟨rfl, rfl⟩
  | (q, b) :: d, _, h => by
    cases h with
    | cons a t =>
      rw [dfind_cons, valV_cons]
      by_cases e : q = k
      · subst e
        rw [if_pos rfl, if_pos rfl]
        exact .inr ⟨_, b, rfl, rfl, a⟩
      · rw [if_neg e, if_neg (fun z => e (DKey.inj _ _ z))]
        exact kva_find t
theorem kva_app {K : PySem.W.Frag} {G : Hp} {r r' : List (Key × V)} {s s' : List (Key × D)} (h : KvA K G r s) (h' : KvA K G r' s') : KvA K G (r ++ r') (s ++ s') := by
  induction h with
  | nil => exact h'
  | cons a _ ih => exact .cons a ih
theorem kva_any {K : PySem.W.Frag} {G : Hp} {k : κ} : ∀ {d : List (κ × β)} {r : List (Key × V)}, KvA K G r (encKV d) → (r.any fun kv => decide (kv.1 = DKey.key k)) = (d.any fun p => decide (p.1 = k))
  | [], _, h => by cases h; rfl
  | (q, b) :: d, _, h => by
    cases h with
    | cons a t =>
      rw [List.any_cons, List.any_cons, kva_any t]
      congr 1
      exact decide_eq_decide.mpr key_iff
theorem kva_set {K : PySem.W.Frag} {G : Hp} {k : κ} {v : V} {b : β} (hv : Rp K G v (enc b)) : ∀ {d : List (κ × β)} {r : List (Key × V)}, KvA K G r (encKV d) → KvA K G (r.map fun kv => if kv.1 = DKey.key k then (kv.1, v) else kv) (encKV (d.map fun p => if p.1 = k then (p.1, b) else p))
  | [], _, h => by cases h; exact .nil
  | (q, c) :: d, _, h => by
    cases h with
    | cons a t =>
      have ih := kva_set (k := k) hv t
      by_cases e : q = k
      · subst e
        simp only [List.map_cons, if_true, encKV]
        exact .cons hv ih
      · have e2 : ¬ (DKey.key q = DKey.key k) := fun z => e (DKey.inj _ _ z)
        simp only [List.map_cons, if_neg e, if_neg e2, encKV]
        exact .cons a ih
theorem kva_put {K : PySem.W.Frag} {G : Hp} {k : κ} {v : V} {b : β} {d : List (κ × β)} {r : List (Key × V)} (h : KvA K G r (encKV d)) (hv : Rp K G v (enc b)) : KvA K G (putK r (DKey.key k) v) (encKV (dput d k b)) := by
  unfold putK dput
  rw [kva_any (k := k) h]
  by_cases e : (d.any fun p => decide (p.1 = k)) = true
  · rw [if_pos e, if_pos e]
    exact kva_set hv h
  · rw [if_neg e, if_neg e]
    unfold encKV at h ⊢
    rw [List.map_append]
    exact kva_app h (.cons hv .nil)
theorem kva_len {K : PySem.W.Frag} {G : Hp} : ∀ {d : List (κ × β)} {r : List (Key × V)}, KvA K G r (encKV d) → r.length = d.length
  | [], _, h => by cases h; rfl
  | _ :: d, _, h => by
    cases h with
    | cons a t => rw [List.length_cons, List.length_cons, kva_len t]
end
def dgetM {κ β : Type} [DecidableEq κ] (d : List (κ × β)) (k : κ) : R β := match dfind d k with
  | some b => .ok b
  | none => .stuck
noncomputable def dputM {κ β : Type} [DecidableEq κ] (d : List (κ × β)) (k : κ) (b : β) : R (List (κ × β)) := @ite _ (d.length < 16777216) (Classical.propDecidable _) (.ok (dput d k b)) .stuck
section
variable {J : Jd} {Γ : List Sl} {a b c e : Expr} {pos p p2 p3 : Pos} {x : Str} {κ β : Type} [DecidableEq κ] [Enc κ] [DKey κ] [Enc β]
theorem SatG.dk {K : PySem.W.Frag} {c : Bs} {Γ : List Sl} {G H : Hp} {σ : L2.St} {i : Nat} {kvs : List (Key × D)} (S : SatG K c Γ G σ H) (e : Γ[i]? = some (.dk kvs)) : ∃ p kv, σ[i]? = some (some (.ref p)) ∧ H p = some (.dK kv) ∧ KvA K G kv kvs ∧ G p = none := by
  obtain ⟨o, f, e1, ⟨p, kv, rfl, rfl, h1, h2⟩, h3⟩ := S.get e
  exact ⟨p, kv, e1, h1, h2, (h3 p (by simp)).1⟩
theorem BS.dnew {i : Nat} (hp : PeOk J Γ) (hN : J.X.N.Nodup) (hi : J.X.N[i]? = some x) (hx : Loc J.X.env.scope x) (hs : swapsWith (.Dict [] [] p2) (some (.Name x p)) pos.line J.X.env = pure false := by rfl)
    (hf : J.X.fn x = true ∨ J.X.env.scope.names.lookup x = some .local := by first | exact .inl rfl | exact .inr rfl) : BS J Γ (.Assign [.Name x p] (.Dict [] [] p2) pos) (.ok ([] : List (κ × β))) (fun a => .nx (Γ.set i (.dk (encKV a)))) :=
  ⟨ps_wk (ps_set hN hi hx pe_dnewK hs hf) fun D σ H ⟨G, S, q⟩ => fun l n => by
    have g := Gr.loose (o := .dK []) S.gh n
    have h0 : J.c.H0 l = none := by
      cases q0 : J.c.H0 l with
      | none => rfl
      | some o =>
        obtain ⟨u, hu⟩ := S.th l o q0
        rw [n] at hu; cases hu
    exact q G _ _ (S.setgn (f := [l]) g (fun p hp => by rw [List.mem_singleton] at hp; subst hp; exact ⟨n, h0, ex_none S.gh n⟩) (by simp) ⟨l, [], rfl, rfl, upd_same, .nil⟩)⟩
/-- d[k] = e -/
theorem BS.dput {i : Nat} {d : List (κ × β)} {m : R β} {mk : R κ} (hu : J.X.A.units + 1 < cLine) (h : ES J Γ e m) (h2 : ES J Γ b mk) (hp : PeOk J Γ) (hN : J.X.N[i]? = some x) (hG : Γ[i]? = some (.dk (encKV d))) (hv : Vis J.X.env.scope x := by first | exact Or.inl rfl | exact Or.inr (Or.inl rfl) | exact Or.inr (Or.inr rfl))
    (hd : (x == ("__debug__" : Str)) = false := by decide) (hcd : (x == ("__classdict__" : Str)) = false := by decide) (hs : swapsWith e (some (.Subscript (.Name x p) b p2)) pos.line J.X.env = pure false := by rfl) :
    BS J Γ (.Assign [.Subscript (.Name x p) b p2] e pos) (m.bind fun v => mk.bind fun k => dputM d k v) (fun a => .nx (Γ.set i (.dk (encKV a)))) :=
  ⟨ps_wk (ps_dput hu (pe_var hN hv hd hcd) h2.pe h.pe hs) fun D σ H ⟨G, S, q⟩ => ⟨G, S, wp_mono (wp_bind.mp q) (fun v k w G1 H1 g1 rw1 => by
    have S1 := S.gr g1
    obtain ⟨l, kv, e1, hl, r, gl⟩ := S1.dk hG
    refine ⟨.ref l, e1, G1, S1, wp_mono (wp_bind.mp k) (fun z k2 y G2 H2 g2 rz => ?_) fun n a z => erE_of hp z σ⟩
    have ez := DKey.rel rz
    subst ez
    unfold dputM at k2
    by_cases hz : d.length < 16777216
    · rw [if_pos hz] at k2
      refine ⟨l, _, rfl, DPut.k (g2.hh _ _ hl) (szlt.mpr (by rw [kva_len r]; exact hz)), ?_⟩
      refine k2 G2 σ _ ((S1.gr g2).mutG hG e1 (fun f ⟨p, kv, e3, e4, _⟩ => by rw [e3]; injection e4 with e4; injection e4 with e4; rw [e4]) ?_)
      exact ⟨l, _, rfl, rfl, upd_same, kva_put (r.ex g2.gg) (rw1.ex g2.gg)⟩
    · rw [if_neg hz] at k2; exact k2.elim) fun n a z => erE_of hp z σ⟩⟩
/-- d[k] -/
theorem ES.dget {i : Nat} {d : List (κ × β)} {mk : R κ} (hu : J.X.A.units + 1 < cLine) (h : ES J Γ b mk) (hN : J.X.N[i]? = some x) (hG : Γ[i]? = some (.dk (encKV d))) (hns : NoSl b := by intro _ _; rfl) (hv : Vis J.X.env.scope x := by first | exact Or.inl rfl | exact Or.inr (Or.inl rfl) | exact Or.inr (Or.inr rfl))
    (hd : (x == ("__debug__" : Str)) = false := by decide) (hcd : (x == ("__classdict__" : Str)) = false := by decide) : ES J Γ (.Subscript (.Name x p) b pos) (mk.bind fun k => dgetM d k) :=
  ⟨pe_wk (pe_dget hu (pe_var hN hv hd hcd) h.pe hns) fun σ H Q ⟨G, S, w⟩ => by
    obtain ⟨l, kv, e1, hl, r, gl⟩ := S.dk hG
    refine ⟨.ref l, e1, G, S, wp_mono (wp_bind.mp w) (fun z k y G2 H2 g2 rz => ?_) fun _ _ z => z⟩
    have ez := DKey.rel rz
    subst ez
    unfold dgetM at k
    rcases kva_find (k := z) (r.ex g2.gg) with ⟨h1, h2⟩ | ⟨v, b, h1, h2, h3⟩
    · rw [h2] at k; exact k.elim
    · rw [h2] at k
      refine ⟨l, v, rfl, ?_, k v G2 H2 g2 h3⟩
      rw [← h1]
      exact DGet.k (g2.hh _ _ hl)⟩
/-- k in d -/
theorem din_imp {i : Nat} {d : List (κ × β)} {mk : R κ} (hG : Γ[i]? = some (.dk (encKV d))) (f : Bool → Bool) {tx : TE} (ht : ∀ σ H Q, (∃ v, σ[i]? = some (some v) ∧ Q v H) → tx σ H Q) :
    ∀ (σ : L2.St) (H : Hp) (Q : VK), tS J Γ (mk.bind fun k => R.ok (f (dfind d k).isSome)) σ H Q → tS J Γ mk σ H fun y H1 => tx σ H1 fun x H2 => ∃ (a : Addr) (o : Option V), x = .ref a ∧ DGet H2 a y o ∧ Q (.bl (f o.isSome)) H2 := by
  intro σ H Q ⟨G, S, w⟩
  refine ⟨G, S, wp_mono (wp_bind.mp w) (fun z k y G2 H2 g2 rz => ?_) fun _ _ z => z⟩
  have ez := DKey.rel rz
  subst ez
  obtain ⟨l, kv, e1, hl, r, gl⟩ := (S.gr g2).dk hG
  refine ht _ _ _ ⟨.ref l, e1, l, _, rfl, DGet.k hl, ?_⟩
  rcases kva_find (k := z) r with ⟨h1, h2⟩ | ⟨v, b, h1, h2, h3⟩
  · rw [h1]; rw [h2] at k; exact k _ G2 H2 g2 .bl
  · rw [h1]; rw [h2] at k; exact k _ G2 H2 g2 .bl
theorem ES.din {i : Nat} {d : List (κ × β)} {mk : R κ} (hu : J.X.A.units + 1 < cLine) (h : ES J Γ a mk) (hN : J.X.N[i]? = some x) (hG : Γ[i]? = some (.dk (encKV d))) (hv : Vis J.X.env.scope x := by first | exact Or.inl rfl | exact Or.inr (Or.inl rfl) | exact Or.inr (Or.inr rfl))
    (hd : (x == ("__debug__" : Str)) = false := by decide) (hcd : (x == ("__classdict__" : Str)) = false := by decide) : ES J Γ (.Compare a [.In] [.Name x p] pos) (mk.bind fun k => .ok (dfind d k).isSome) :=
  ⟨pe_wk (pe_cmp (pc_din hu h.pe (pe_var hN hv hd hcd))) fun σ H Q q => din_imp hG (fun b => b) (tx := tVar i) (fun _ _ _ z => z) σ H Q q⟩
theorem ET.ofS {m : R Bool} {op : CmpOp} {b : Expr} {t : TE} (h : PC J.X op a b t) (hb : behindInMarks op b = false) (hi : ∀ σ H Q, tS J Γ m σ H Q → t σ H Q) : ET J Γ (.Compare a [op] [b] pos) m :=
  ⟨pt_wk (pt_cmp h hb) fun σ H Q ⟨G, S, w⟩ => hi σ H _ ⟨G, S, wp_mono w (fun z k v G2 H2 g2 r => by
    have e := Rp.unbl r
    subst e
    exact ⟨z, rfl, k G2 H2 g2⟩) fun _ _ z => z⟩⟩
theorem ET.din {i : Nat} {d : List (κ × β)} {mk : R κ} (hu : J.X.A.units + 1 < cLine) (h : ES J Γ a mk) (hN : J.X.N[i]? = some x) (hG : Γ[i]? = some (.dk (encKV d))) (hv : Vis J.X.env.scope x := by first | exact Or.inl rfl | exact Or.inr (Or.inl rfl) | exact Or.inr (Or.inr rfl))
    (hd : (x == ("__debug__" : Str)) = false := by decide) (hcd : (x == ("__classdict__" : Str)) = false := by decide) (hb : behindInMarks .In (.Name x p) = false := by rfl) : ET J Γ (.Compare a [.In] [.Name x p] pos) (mk.bind fun k => .ok (dfind d k).isSome) :=
  ET.ofS (pc_din hu h.pe (pe_var hN hv hd hcd)) hb fun σ H Q q => din_imp hG (fun b => b) (tx := tVar i) (fun _ _ _ z => z) σ H Q q
end
/-! ### 21. exceptions of one's own -/
section
variable {X : Cx} {o e : Expr} {es : List Expr} {te : TE} {ta : TA} {f x : Str} {p p1 p2 pos : Pos}
/-- B.__init__(self, ..), B an own class over ValueError without own __init__ -/
theorem pe_oinit {B : Addr} {mc : Value} {pl : Sem Bool} (hg : Gl X x) (hm : X.mg x = some (.ref B)) (h1 : PySem.W.specialIn X.K (.ref B) "__getattribute__" = some (some (.builtin "type.__getattribute__"))) (h2 : PySem.W.readsIn X.K B mc = true)
    (h3 : PySem.W.findCls X.K (.ref B) mc "__init__" = some (.val (.builtin "ValueError.__init__"))) (ha : PA X (e :: es) ta) (hdb : (x == ("__debug__" : Str)) = false := by decide)
    (hc : eval (.Call (.Attribute (.Name x p1) "__init__" p2) (e :: es) [] pos) X.env = (do
      let cv ← eval (.Name x p1) X.env
      standAt p2.atName
      let (g, fst) ← holding [cv] (getMethod cv "__init__" pl)
      callWith pos g fst (backTo pos (starEach (e :: es) X.env)) (backToKw pos (keywordEach [] X.env))) := by rfl)
    (he : starEach (e :: es) X.env = (false, eval e X.env) :: starEach es X.env := by rfl) (hpl : (backTo pos (starEach es X.env)).any (·.1) = false := by rfl) : PE X (.Call (.Attribute (.Name x p1) "__init__" p2) (e :: es) [] pos) (tVeI X.K ta) := by
  refine ⟨fun pins s σ H Q I h => PySem.W.methodCall_KW (ld_glob I hg hm ?_ hdb) hc⟩
  refine PySem.W.method_cls I.kIn h1 (PySem.W.cls_value I.kIn h2 h3 (by decide +kernel) ?_)
  show wpAny _ _ (callWith pos (Value.builtin "ValueError.__init__") [] (backTo pos (starEach (e :: es) X.env)) []) _ _ _
  refine PyProof.Rows.callWith_method1 (thn (ha.run pos pins _ σ H _ (I.tok _) h) fun vals s' hv => ?_) he hpl
  obtain ⟨ys, H', J, rs, a, C, zs, rfl, hl, T, hx, q⟩ := hv
  cases rs with
  | @cons _ u _ us ra rr =>
    obtain rfl : u = Value.ref a := ra
    have hn : us.length ≤ sizeLine := by rw [← Paired.length rr]; exact sz1000 hl
    exact oinit_ok T J hx hn fun s2 J2 => ⟨.non, H', J2, rfl, q⟩
end
/-- what an __init__ of such a class keeps: its one field is laid -/
def initSp (C : Addr) (f : Str) : Sp := fun vs H Q _ => ∃ (a : Addr) (v : V), vs = [.ref a, v] ∧ H a = some (exo a C none) ∧ ∀ dx, H dx = none → dx ≠ a → Q .non (upd (upd H dx (exd dx [(f, v)])) a (exo a C (some dx)))
theorem init_go {P : Program} {w : World} {K : PySem.W.Frag} {mg : Str → Option Value} {base : Heap} {x qual : Str} {st : Stmt} {g : Addr} {fd : FuncData} {N ps : List Str} {C : Addr} {f : Str} (F : Fun K x qual st g fd) (S : FnScope N ps (defScope st)) (hl : ps.length = 2)
    (body : ∀ (cdv : Value) (A : Around) (outer : List Env) (s : Shared) (H : Hp) (E : XK), ∃ t, PSs (cxOf (L2.CX P w) P w K mg base N qual (defScope st) g cdv A outer s H E) (defBody st) t ∧
      ∀ (a : Addr) (v : V) (Q : VK), H a = some (exo a C none) → (∀ dx, H dx = none → dx ≠ a → Q .non (upd (upd H dx (exd dx [(f, v)])) a (exo a C (some dx)))) → t { nx := fun _ H' => Q .non H', rt := Q } (L2.start N [.ref a, v]) H) :
    FnOk P w K mg base (L2.CX P w) 1 g fd ps (initSp C f) := by
  refine F.okX S (fun vs H Q E ⟨a, v, e, _⟩ => by rw [e, hl]; rfl) fun cdv A outer s H vs Q E hr ⟨a, v, e, h1, h2⟩ => ?_
  subst e
  obtain ⟨t, h3, h4⟩ := body cdv A outer s H E
  exact ⟨t, h3, h4 a v Q h1 h2⟩
section
variable {J : Jd} {Γ : List Sl} {e : Expr} {pos p p2 : Pos} {x : Str} {β : Type} {out : β → Fl}
theorem del_upd {H : Hp} {a dx : Addr} {o1 o2 o3 o4 : HO} (ha : H a = none) (hd : H dx = none) (hne : dx ≠ a) : upd (del (upd (upd (upd H a o1) dx o2) a o3) a) dx o4 = upd H dx o4 := by
  funext b
  by_cases h1 : b = dx
  · subst h1; rw [upd_same, upd_same]
  · rw [upd_ne h1, upd_ne h1]
    by_cases h2 : b = a
    · subst h2; rw [del_same, ha]
    · rw [del_ne h2, upd_ne h2, upd_ne h1, upd_ne h2]
/-- raise C(e), C with a field -/
theorem BX.raise {C fI : Addr} {fd : FuncData} {ps : List Str} {f : Str} {n : Nat} {m : R Int} (T : OexC J.K C) (iC : PySem.W.findIn J.K (.ref C) "__init__" = some (some (.ref fI))) (tI : PySem.W.typeIn J.K (.ref fI) = some (.type "function"))
    (F1 : FnOk J.X.prog J.X.w J.K J.X.mg J.X.base (L2.CX J.X.prog J.X.w) 1 fI fd ps (initSp C f)) (hr : Room 2 J.X.A) (hb : Binds J.K fd ps []) (hx : Passes (L2.CX J.X.prog J.X.w) J.X (fun _ _ _ => False)) (hm : J.X.mg x = some (.ref C)) (hn : J.T.cls n = C) (hf : J.T.fld n = some f) (h : ES J Γ e m) (hp : PeOk J Γ) (hg : Gl J.X x := by rfl)
    (hc : J.X.calm = true := by rfl) (hdb : (x == ("__debug__" : Str)) = false := by decide) (he : starEach (e :: []) J.X.env = (false, eval e J.X.env) :: starEach [] J.X.env := by rfl) :
    BX J Γ [.Raise (some (.Call (.Name x p) [e] [] p2)) none pos] (m.bind fun i => (.exc n (some i) : R β)) out :=
  ⟨⟨pss_one (ps_wk (ps_raise hc J.tk (pmk_oex T iC tI F1 hr hb .nil hx hg hm (pa_cons h.pe pa_nil he) hdb he)) fun D σ H ⟨G, S, q⟩ => ⟨G, S, wp_mono (wp_bind.mp q) (fun i k v G1 H1 g1 r1 => by
    have e1 := Rp.unint r1
    subst e1
    refine ⟨by simp, fun a ha => ⟨a, .int i, rfl, upd_same, fun dx hdx hne => ⟨rfl, dx, [(f, .int i)], upd_same, ?_, ?_, ?_⟩⟩⟩
    · rw [upd_ne hne, upd_same]
    · rwa [upd_ne hne] at hdx
    · rw [upd_ne hne] at hdx
      rw [del_upd ha hdx hne]
      have g := Gr.loose (o := .xd [(f, .int i)]) g1.gh hdx
      have S2 := (S.gr g1).gr g
      have k' : ErB J n (some i) := k
      exact k' σ _ (.ref C) (some dx) (hp G1 σ _ S2) ⟨by rw [hn], dx, f, rfl, hf, upd_same⟩) fun n a z => erE_of hp z σ⟩)⟩, fun b hb => by
    obtain ⟨a, _, e⟩ := bind_eq hb
    cases e⟩
end
theorem passF {X : Cx} : Passes (L2.CX X.prog X.w) X (fun _ _ _ => False) := fun _ _ _ _ _ _ _ c => by
  obtain ⟨_, _, _, _, _, _, _, _, _, _, _, _, z⟩ := c
  exact z.elim
section
variable {J : Jd} {Γ : List Sl} {pos p p2 p3 : Pos} {x : Str} {β : Type} {out : β → Fl}
/-- raise C('..'), C without a field -/
theorem BX.raise0 {C : Addr} {n : Nat} {bm : List Value} {msg : Str} {j : Nat} (hq : PySem.W.excIn J.K C bm "ValueError.__new__" = true) (gC : J.X.mg x = some (.ref C)) (kC : PySem.W.keepIn J.K (.ref C) = true) (r : Raises J.X (.ref C)) (hn : J.T.cls n = C) (hp : PeOk J Γ)
    (F : PySem.ExcBaseFacts "ValueError" "ValueError.__new__" "ValueError.__init__" bm := by exact PySem.F.excBase_ValueError) (hg : Gl J.X x := by rfl) (hc : J.X.calm = true := by rfl) (hdb : (x == ("__debug__" : Str)) = false := by decide) :
    BX J Γ [.Raise (some (.Call (.Name x p) [.Constant (.str msg) j p3] [] p2)) none pos] (.exc n none : R β) out :=
  ⟨⟨pss_one (ps_wk (ps_raise hc J.tk (pmk_own F hq gC kC r hg hdb)) fun D σ H ⟨G, S, q⟩ => by
    have k' : ErB J n none := q
    exact k' σ H (.ref C) none (hp G σ H S) ⟨by rw [hn], rfl⟩)⟩, fun b hb => by cases hb⟩
end
/-! ### 22. try -/
def tryM {α β : Type} (m : R α) (k : α → R β) (h : Nat → Option (R β)) : R β := match m with
  | .ok a => k a
  | .stuck => .stuck
  | .exc n _ => match h n with
    | some r => r.noexc
    | none => .stuck
/-- the first clause whose numbers hold n -/
def pick {β : Type} : List (List Nat × R β) → Nat → Option (R β)
  | [], _ => none
  | (ns, r) :: cl, n => if n ∈ ns then some r else pick cl n
abbrev Jd.tr (J : Jd) (Γ1 : List Sl) (W : WX) (pn : List (Addr × Obj)) (xe : Value → Shared → Prop) (tk : Takes (J.X.tr pn xe) W) (po : PassesOwn (model J.X.prog J.X.w) J.X.A J.X.env xe) : Jd :=
  ⟨J.X.tr pn xe, J.c, W, tk, fun σ H => ∃ G, SatG J.K J.c Γ1 G σ H, J.T, po⟩
abbrev Jd.su (J : Jd) (a : Addr) (pn : List (Addr × Obj)) : Jd := ⟨J.X.suite a pn, J.c, fun _ _ _ _ => False, takes_none5, fun _ _ => True, J.T, PassesOwn.never⟩
/-- the clauses of a try, their mirrors -/
def ClOk (J : Jd) (Γ1 : List Sl) (hds : List ExceptHandler) {β : Type} (cl : List (List Nat × R β)) (out : β → Fl) : Prop := ∃ l, HdsOk J.X hds l ∧
  ∀ (n : Nat) (r : R β) (D : Ends) (σ : L2.St) (H : Hp) (d : Option Addr), pick cl n = some r → (∃ G, SatG J.K J.c Γ1 G σ H) → r.noexc.wp (fun b => FlP J D (out b)) (ErB J) → wMany J.K J.W D l (.ref (J.T.cls n)) d σ H
theorem ClOk.nil {J : Jd} {Γ1 : List Sl} {β : Type} {out : β → Fl} : ClOk J Γ1 [] ([] : List (List Nat × R β)) out := ⟨[], .nil, fun n r D σ H d h => by cases h⟩
theorem ClOk.cons {J : Jd} {Γ1 : List Sl} {β : Type} {out : β → Fl} {x : Str} {c : Value} {b0 : Stmt} {suite : List Stmt} {np pos : Pos} {hds : List ExceptHandler} {cl : List (List Nat × R β)} {ns : List Nat} {r : R β} (hc : Names J.X x c)
    (hs : ∀ (a : Addr) (pn : List (Addr × Obj)), BD (J.su a pn) Γ1 (b0 :: suite) r out) (yes : ∀ n ∈ ns, PySem.W.exmOne J.K (.ref (J.T.cls n)) c = some true) (no : ∀ n, n ∉ ns → (pick cl n).isSome = true → PySem.W.exmOne J.K (.ref (J.T.cls n)) c = some false) (rest : ClOk J Γ1 hds cl out) :
    ClOk J Γ1 (.ExceptHandler (some (.Name x np)) none (b0 :: suite) pos :: hds) ((ns, r) :: cl) out := by
  obtain ⟨l, h1, h2⟩ := rest
  refine ⟨(c, fun _ _ _ D σ H => ∃ G, SatG J.K J.c Γ1 G σ H ∧ r.noexc.wp (fun b => FlP J D (out b)) (ErB J)) :: l, .cons hc (fun a oe cls d pn _ _ => ?_) h1, fun n r' D σ H d hp hG hw => ?_⟩
  · exact pss_wk (hs a ((a, oe) :: pn)).ps fun D σ H ⟨G, S, q⟩ => ⟨G, S, wp_noexc q⟩
  · unfold pick at hp
    by_cases hn : n ∈ ns
    · rw [if_pos hn] at hp
      cases hp
      obtain ⟨G, S⟩ := hG
      exact ⟨true, yes n hn, fun _ a ha => ⟨G, S, hw⟩, (fun z => by cases z)⟩
    · rw [if_neg hn] at hp
      refine ⟨false, no n hn (by rw [hp]; rfl), (fun z => by cases z), fun _ => h2 n r' D σ H d hp hG hw⟩
section
variable {J : Jd} {Γ Γ1 : List Sl} {body orelse : List Stmt} {h0 : ExceptHandler} {hds : List ExceptHandler} {pos : Pos} {α β : Type} {out : β → Fl}
/-- try: .. except ..: .. else: .. -/
theorem BS.tryE {m : R α} {k : α → R β} {G1 : α → List Sl} {cl : List (List Nat × R β)} (hb : ∀ (W : WX) (pn : List (Addr × Obj)) (xe : Value → Shared → Prop) (tk : Takes (J.X.tr pn xe) W) (po : PassesOwn (model J.X.prog J.X.w) J.X.A J.X.env xe), BD (J.tr Γ1 W pn xe tk po) Γ body m (fun a => .nx (G1 a)))
    (hcl : ClOk J Γ1 (h0 :: hds) cl out) (ho : ∀ a, BD J (G1 a) orelse (k a) out) (hs : J.X.stack = J.X.env :: J.X.outer := by rfl) (hf : J.X.env.frame = some J.X.env.locals := by rfl) : BS J Γ (.Try body (h0 :: hds) orelse [] pos) (tryM m k (pick cl)) out := by
  obtain ⟨l, h1, h2⟩ := hcl
  have ho' : PSs J.X orelse (fun D σ H => ∃ a, tBD J (G1 a) (k a) out D σ H) := ⟨fun pins s σ H D I ⟨a, q⟩ => (ho a).ps.run pins s σ H D I q⟩
  refine ⟨ps_wk (ps_try_manyE (tb := fun W D σ H => ∃ G, SatG J.K J.c Γ G σ H ∧ m.wp (fun a => FlP J D (.nx (G1 a))) (fun n a => ∀ σ H cls d, (∃ G, SatG J.K J.c Γ1 G σ H) → ExOk J.T n a cls d H → W cls d σ H)) ho' hs hf J.tk (fun W pn xe tk po => (hb W pn xe tk po).ps) h1) fun D σ H ⟨G, S, q⟩ => ⟨G, S, ?_⟩⟩
  cases m with
  | ok a => exact fun G' σ' H' S' => ⟨a, G', S', q⟩
  | stuck => exact q
  | exc n i =>
    intro σ' H' cls d hG ok
    rw [ok.1]
    have q' : (match pick cl n with
      | some r => r.noexc
      | none => .stuck : R β).wp (fun b => FlP J D (out b)) (ErB J) := q
    cases hp : pick cl n with
    | none => rw [hp] at q'; exact q'.elim
    | some r => rw [hp] at q'; exact h2 n r D σ' H' d hp hG q'
end
/-- what is known where an exception is met, within a try -/
theorem pdw {J : Jd} {Γ Γ1 : List Sl} {W : WX} {pn : List (Addr × Obj)} {xe : Value → Shared → Prop} {tk : Takes (J.X.tr pn xe) W} {po : PassesOwn (model J.X.prog J.X.w) J.X.A J.X.env xe} (w : Wk Γ Γ1) : PeOk (J.tr Γ1 W pn xe tk po) Γ := fun G σ H S => ⟨G, S.wk w⟩
theorem pdt {J : Jd} {Γ : List Sl} {a : Addr} {pn : List (Addr × Obj)} : PeOk (J.su a pn) Γ := fun _ _ _ _ => trivial
/-! ### 23. numbers of exceptions, the end of an __init__ -/
abbrev veB : List Value := [.type "ValueError", .type "Exception", .type "BaseException", .type "object"]
theorem yes0 {p : Nat → Prop} : ∀ n ∈ ([] : List Nat), p n := fun _ h => by cases h
theorem yesC {p : Nat → Prop} {k : Nat} {l : List Nat} (h : p k) (hs : ∀ n ∈ l, p n) : ∀ n ∈ k :: l, p n := fun n hn => (List.mem_cons.mp hn).elim (fun e => e ▸ h) (hs n)
theorem pick_some {β : Type} : ∀ {cl : List (List Nat × R β)} {n : Nat}, (pick cl n).isSome = true → n ∈ cl.flatMap (·.1)
  | [], n, h => by cases h
  | (ns, r) :: cl, n, h => by
    unfold pick at h
    by_cases c : n ∈ ns
    · exact List.mem_append_left _ c
    · rw [if_neg c] at h
      exact List.mem_append_right _ (pick_some h)
theorem no_of {β : Type} {p : Nat → Prop} {cl : List (List Nat × R β)} {ns : List Nat} (h : ∀ n ∈ cl.flatMap (·.1), n ∉ ns → p n) : ∀ n, n ∉ ns → (pick cl n).isSome = true → p n := fun n hn hs => h n (pick_some hs) hn
theorem exm_own {K : PySem.W.Frag} {S D : Addr} {b : Bool} (h1 : PySem.W.subIn K (.ref D) (.type "BaseException") = some true) (h2 : PySem.W.isClsIn K D = true) (h3 : PySem.W.typeIn K (.ref D) = some (.type "type")) (h4 : PySem.W.subIn K (.ref S) (.ref D) = some b) :
    PySem.W.exmOne K (.ref S) (.ref D) = some b := by
  have a1 : (PySem.W.subIn K (.ref D) (.type "BaseException") == some true) = true := by rw [h1]; rfl
  have a2 : ((PySem.W.clsIn K D).isSome && PySem.W.typeIn K (.ref D) == some (.type "type")) = true := by
    have h2' : (PySem.W.clsIn K D).isSome = true := h2
    rw [h2', h3]; rfl
  show (if (PySem.W.subIn K (.ref D) (.type "BaseException") == some true) = true then (if ((PySem.W.clsIn K D).isSome && PySem.W.typeIn K (.ref D) == some (.type "type")) = true then PySem.W.subIn K (.ref S) (.ref D) else none) else none) = some b
  rw [if_pos a1, if_pos a2]
  exact h4
theorem init_end {K : PySem.W.Frag} {C a : Addr} {f s1 : Str} {v m : V} {Q : VK} {H : Hp} (T : OexC K C) (hno : PySem.W.findIn K (.ref C) f = some none) (e : H a = some (exo a C none)) (k : ∀ dx, H dx = none → dx ≠ a → Q .non (upd (upd H dx (exd dx [(f, v)])) a (exo a C (some dx)))) :
    tSeq (tDrop (tVeI K (tCons (tVar 0) (tCons (tC m) tNil)))) (tOst K f (tVar 0) (tVar 1)) { nx := fun _ H' => Q .non H', rt := Q } (L2.start [s1, f] [.ref a, v]) H :=
  ⟨_, rfl, a, C, [m], rfl, by simp, T, e, _, rfl, _, rfl, a, C, rfl, T, hno, .inl ⟨e, k⟩⟩
/-! ### 24. lists of things of several kinds, of a known length -/
structure W2 (α β : Type) where
  a : α
  b : β
  deriving DecidableEq
structure W3 (α β γ : Type) where
  a : α
  b : β
  c : γ
  deriving DecidableEq
structure W4 (α β γ δ : Type) where
  a : α
  b : β
  c : γ
  d : δ
  deriving DecidableEq
section
variable {α β γ δ : Type} [Enc α] [Enc β] [Enc γ] [Enc δ]
instance : Enc (W2 α β) := ⟨fun p => .list [enc p.1, enc p.2]⟩
instance : Enc (W3 α β γ) := ⟨fun p => .list [enc p.1, enc p.2, enc p.3]⟩
instance : Enc (W4 α β γ δ) := ⟨fun p => .list [enc p.1, enc p.2, enc p.3, enc p.4]⟩
theorem depth_lst {n : Nat} {ds : List D} (h : ∀ d ∈ ds, d.depth ≤ n) : (PyData.list ds).depth ≤ n + 1 := depth_tup h
instance [EncDep α] [EncDep β] : EncDep (W2 α β) := ⟨dep α + dep β + 1, fun p => depth_lst (n := dep α + dep β) fun d hd => by
  have h1 := hdep p.1; have h2 := hdep p.2
  simp only [List.mem_cons, List.mem_singleton, List.not_mem_nil, or_false] at hd
  rcases hd with rfl | rfl <;> omega⟩
instance [EncDep α] [EncDep β] [EncDep γ] : EncDep (W3 α β γ) := ⟨dep α + dep β + dep γ + 1, fun p => depth_lst (n := dep α + dep β + dep γ) fun d hd => by
  have h1 := hdep p.1; have h2 := hdep p.2; have h3 := hdep p.3
  simp only [List.mem_cons, List.not_mem_nil, or_false] at hd
  rcases hd with rfl | rfl | rfl <;> omega⟩
instance : EncNN (W2 α β) := ⟨fun _ => ⟨rfl, rfl⟩⟩
instance : EncNN (W3 α β γ) := ⟨fun _ => ⟨rfl, rfl⟩⟩
instance [DecidableEq α] [DecidableEq β] [EncEq α] [EncEq β] : EncEq (W2 α β) := ⟨fun a b => by
  cases a; cases b
  show PyData.eqv (.list [_, _]) (.list [_, _]) = _
  simp [PyData.eqv, PyData.eqvAll, EncEq.eqv]⟩
instance [DecidableEq α] [DecidableEq β] [DecidableEq γ] [EncEq α] [EncEq β] [EncEq γ] : EncEq (W3 α β γ) := ⟨fun a b => by
  cases a; cases b
  show PyData.eqv (.list [_, _, _]) (.list [_, _, _]) = _
  simp [PyData.eqv, PyData.eqvAll, EncEq.eqv]⟩
end
section
variable {J : Jd} {Γ : List Sl} {a : Expr} {es : List Expr} {pos p : Pos} {α β τ : Type} [Enc α] [Enc β] {encs : τ → List D}
theorem ES.hl0 {m : R τ} (h : EA0 J Γ es m encs) (f : τ → α) (hf : ∀ t, enc (f t) = .list (encs t)) (hl : es.length ≤ 1000) : ES J Γ (.List es pos) (m.bind fun t => .ok (f t)) :=
  ⟨pe_wk (pe_lst h.pa) fun σ H Q ⟨G, S, w⟩ => ⟨G, S, wp_mono (wp_bind.mp w) (fun t k vs G' H' g r => ⟨sz1000 (by rw [r.length, h.len]; exact hl), fun p hp => by
    have eg := Gr.new (o := .lst vs) g.gh hp
    exact k (.ref p) _ _ (g.trans eg) (by rw [hf]; exact Rp.lst (.inl (.inl upd_same)) (r.ex eg.gg))⟩) fun _ _ z => z⟩⟩
/-- a list of a known length, its items of several kinds -/
theorem ES.hl {Mk : ∀ {β : Type}, (τ → R β) → R β} (h : EA J Γ es Mk encs) (f : τ → α) (hf : ∀ t, enc (f t) = .list (encs t) := by intro _; rfl) (hl : es.length ≤ 1000 := by exact Nat.le_of_ble_eq_true rfl) : ES J Γ (.List es pos) (Mk fun t => .ok (f t)) := by
  rw [h.eq]; exact ES.hl0 h.ea f hf hl
/-- an item of such a list at a written place -/
theorem ES.hit {m : R α} {k : Int} {j : Nat} (ha : ES J Γ a m) (f : α → β) (hf : ∀ t, ∃ ds, enc t = .list ds ∧ atI ds k = some (enc (f t)) := by intro _; exact ⟨_, rfl, rfl⟩) : ES J Γ (.Subscript a (.Constant (.int k) j p) pos) (m.bind fun t => .ok (f t)) :=
  ⟨pe_wk (pe_ix ix_list ha.pe pe_int (fun _ _ => rfl)) fun σ H Q ⟨G, S, w⟩ => ⟨G, S, wp_mono (wp_bind.mp w) (fun t q v G1 H1 g1 r1 => by
    obtain ⟨ds, e1, e2⟩ := hf t
    rw [e1] at r1
    obtain ⟨p, vs, rfl, hs, r2⟩ := Rp.unlst r1
    obtain ⟨v, hv, rv⟩ := atI_rp r2 e2
    exact ⟨p, vs, k, v, rfl, rfl, Evl.ex_l g1.gh hs, hv, q v G1 H1 g1 rv⟩) fun _ _ z => z⟩⟩
end
section
variable {J : Jd} {Γ : List Sl} {a b : Expr} {rest : List Expr} {pos p : Pos} {α β τ : Type} [Enc α] [Enc β] {encs : τ → List D}
theorem ES.oneV {op} {m : R α} (h : ES J Γ a m) : ES J Γ (.BoolOp op [a] pos) m := ⟨pe_one h.pe⟩
/-- xs or ys -/
theorem ES.orL {m1 m2 : R (List α)} (ha : ES J Γ a m1) (hb : ES J Γ (.BoolOp .Or (b :: rest) pos) m2) : ES J Γ (.BoolOp .Or (a :: b :: rest) pos) (m1.bind fun x => if x.isEmpty = true then m2 else .ok x) :=
  ⟨pe_wk (pe_orT ha.pe hb.pe) fun σ H Q ⟨G, S, w⟩ => ⟨G, S, wp_mono (wp_bind.mp w) (fun x k v G' H' g r => by
    obtain ⟨p, vs, rfl, hs, hr⟩ := Rp.unlst r
    refine ⟨!vs.isEmpty, .inl ⟨vs, Evl.ex_l g.gh hs, rfl⟩, ?_⟩
    have hl := hr.length
    cases x with
    | nil =>
      cases vs with
      | nil => exact ⟨G', S.gr g, wp_mono k (fun y k2 v G2 H2 g2 => k2 v G2 H2 (g.trans g2)) fun _ _ z => z⟩
      | cons v vs => simp at hl
    | cons y ys =>
      cases vs with
      | nil => simp at hl
      | cons v vs => exact k _ G' H' g r) fun _ _ z => z⟩⟩
theorem ES.orLP {m1 m2 : R (List α)} {y : List α} (ha : ES J Γ a m1) (hb : ES J Γ (.BoolOp .Or (b :: rest) pos) m2) (hy : m2 = .ok y) : ES J Γ (.BoolOp .Or (a :: b :: rest) pos) (m1.bind fun x => .ok (if x.isEmpty = true then y else x)) := by
  subst hy
  have h := ES.orL ha hb
  have e : (m1.bind fun x => if x.isEmpty = true then R.ok y else .ok x) = m1.bind fun x => .ok (if x.isEmpty = true then y else x) := congrArg _ (funext fun x => by split <;> rfl)
  rw [e] at h
  exact h
end
section
variable {J : Jd} {Γ : List Sl} {a b : Expr} {α β τ : Type} [Enc α] [Enc β] {encs : τ → List D} {i j : Nat} {x y : Str} {px py pt pos : Pos} {kt k2 pt2}
/-- x, y = a, b -/
theorem BS.par {Mk : ∀ {β : Type}, (τ → R β) → R β} (h : EA J Γ [a, b] Mk encs) (f : τ → α × β) (hp : PeOk J Γ) (hN : J.X.N.Nodup) (hi : J.X.N[i]? = some x) (hj : J.X.N[j]? = some y) (hij : i ≠ j) (hf : ∀ t, encs t = [enc (f t).1, enc (f t).2] := by intro _; rfl) (hc : J.X.calm = true := by rfl)
    (hx : J.X.env.scope.names.lookup x = some .local := by rfl) (hy : J.X.env.scope.names.lookup y = some .local := by rfl)
    (hw : swappedStores [.Tuple [.Name x px, .Name y py] kt pt] (.Tuple [a, b] k2 pt2) J.X.env = pure (some [x, y]) := by rfl)
    (hs : swapsWithSole [.Tuple [.Name x px, .Name y py] kt pt] (.Tuple [a, b] k2 pt2) pos.line J.X.env = pure false := by rfl) :
    BS J Γ (.Assign [.Tuple [.Name x px, .Name y py] kt pt] (.Tuple [a, b] k2 pt2) pos) (Mk fun t => .ok (f t)) (fun p => .nx ((Γ.set i (.va (enc p.1))).set j (.va (enc p.2)))) := by
  rw [h.eq]
  exact ⟨ps_wk (ps_par hc hN hi hj hij hx hy h.ea.pa hw hs) fun D σ H ⟨G, S, q⟩ => ⟨G, S, wp_mono (wp_bind.mp q) (fun t k vs G' H' g r => by
    rw [hf t] at r
    obtain ⟨v, ws, rfl, r1, r2⟩ := RpA.uncons r
    obtain ⟨w, ws, rfl, r3, r4⟩ := RpA.uncons r2
    cases RpA.unnil r4
    exact ⟨v, w, rfl, k G' _ H' (((S.gr g).setva r1).setva r3)⟩) fun n a z => erE_of hp z σ⟩⟩
end
/-! ### 25. sorted by a key, the key a def of one's own -/
section
variable {X : Cx} {pins : List (Addr × Obj)} {σ : L2.St} {H : Hp} {s : Shared} {h' : Heap}
theorem unpinX {p : Addr × Obj} (I : Inv X (p :: pins) σ H s) : Inv X pins σ H s := I.pins_of fun r hr => I.pin r (List.mem_append_right _ (List.mem_cons_of_mem _ hr))
theorem pinX {p : Addr × Obj} (hp : p ∈ pins) (I : Inv X pins σ H s) : s.heap.get? p.1 = some p.2 ∧ H p.1 = none := ⟨(I.pin p (List.mem_append_right _ hp)).1, (I.pin p (List.mem_append_right _ hp)).2.1⟩
/-- several records of ours have turned, one of them is tracked from here on -/
theorem turnedAt {t' : Nat} {ch : List Addr} {T : Addr} {ob : HO} (I : Inv X pins σ H s) (k : ∀ b o, b ∉ ch → s.heap.get? b = some o → h'.get? b = some o) (hf : ∀ b ∈ ch, FpOk X pins H b) (hT : T ∈ ch)
    (new : ObjOk X.prog X.w (upd H T ob) h' T ob) : Inv X pins σ (upd H T ob) { s with heap := h', toks := t' } := by
  have hn : H T = none := (hf T hT).1
  have away : ∀ b u, H b = some u → b ∉ ch := fun b u e z => by rw [(hf b z).1] at e; cases e
  have neT : ∀ {b u}, H b = some u → b ≠ T := fun {b u} e z => by rw [z, hn] at e; cases e
  refine I.step (g' := s.gens) (d' := s.drawn) (ch := ch) (fun b hb => ⟨(hf b hb).2.2.2.1, (hf b hb).2.1, (hf b hb).2.2.2.2.1, (hf b hb).2.2.2.2.2⟩) (fun b o _ _ hc e _ => k b o hc e)
    (fun b o _ _ hc e _ => ⟨o.slots, k b o hc e⟩) (fun b o hc e n => ?_) (fun b o hc e => ⟨o, k b o hc e⟩) (fun b xs e => ?_) (fun b o u e => ?_) (fun b ps e => ⟨#[], ?_⟩) (fun m hm => ?_) (fun b u e => ?_) I.bare
  · rw [upd_ne (fun z : b = T => hc (by rw [z]; exact hT))]; exact n
  · rw [upd_ne (neT e)]; exact e
  · rw [upd_ne (neT e)]; exact e
  · rw [upd_ne (neT e), e]; simp
  · obtain ⟨o, es, ep, ho, r⟩ := hm
    exact ⟨o, es, ep, k _ o (fun z => (hf _ z).2.1 rfl) ho, r⟩
  · by_cases hb : b = T
    · subst hb
      rw [upd_same] at e
      cases e
      exact new
    · rw [upd_ne hb] at e
      refine (I.hok b u e).stay (fun c v hc q => k c v ?_ q) (fun c q => by rw [upd_ne (neT q)]; exact q) fun c xs q => by rw [upd_ne (neT q)]; exact q
      rcases hc with z | z
      · rw [z]; exact away b u e
      · exact away c _ z
end
/-- rising by the key -/
def srtK {α κ : Type} [Enc κ] [EncSort κ] (g : α → κ) (xs : List α) : List α := xs.mergeSort fun x y => EncSort.le (g x) (g y)
theorem srtK_perm {α κ : Type} [Enc κ] [EncSort κ] {g : α → κ} {xs : List α} : (srtK g xs).Perm xs := List.mergeSort_perm _ _
theorem srtK_sorted {α : Type} {g : α → Int × Int} {xs : List α} : (srtK g xs).Pairwise fun x y => (g x).1 < (g y).1 ∨ ((g x).1 = (g y).1 ∧ (g x).2 ≤ (g y).2) := by
  have h := List.pairwise_mergeSort (le := fun x y : α => decide ((g x).1 < (g y).1 ∨ ((g x).1 = (g y).1 ∧ (g x).2 ≤ (g y).2))) (by intro a b c; simp only [decide_eq_true_eq]; omega) (by intro a b; simp only [Bool.or_eq_true, decide_eq_true_eq]; omega) xs
  exact h.imp fun h => by simpa using h
theorem eachB {K : PySem.W.Frag} {G : Hp} {α : Type} [Enc α] : ∀ {out : List Value} {bs : List α}, PySem.W.EachIs (fun v b => ∃ x : V, RelV x v ∧ Rp K G x (enc b)) out bs → ∃ ys : List V, Vals ys out ∧ RpA K G ys (bs.map enc)
  | _, _, .nil => ⟨[], .nil, .nil⟩
  | _, _, .cons ⟨x, h1, h2⟩ t => by
    obtain ⟨ys, h3, h4⟩ := eachB t
    exact ⟨x :: ys, .cons h1 h3, .cons h2 h4⟩
theorem eachF {K : PySem.W.Frag} {G : Hp} {α : Type} [Enc α] : ∀ {xs : List V} {us : List Value} {bs : List α}, Vals xs us → RpA K G xs (bs.map enc) → PySem.W.EachIs (fun v b => ∃ x : V, RelV x v ∧ Rp K G x (enc b)) us bs
  | _, us, [], r, h => by
    have e := RpA.unnil h
    subst e
    cases r
    exact .nil
  | _, us, b :: bs, r, h => by
    obtain ⟨w, ws, rfl, r1, r2⟩ := RpA.uncons h
    cases r with
    | cons a t => exact .cons ⟨w, a, r1⟩ (eachF t r2)
theorem each_reads {X : Cx} {pins : List (Addr × Obj)} {σ : L2.St} {H G : Hp} {s : Shared} {κ : Type} [Enc κ] [EncSort κ] [EncDep κ] {kvs : List V} {us : List Value} {ks : List κ} (I : Inv X pins σ H s) (eG : Ex G H) (r : Vals kvs us) (rp : RpA X.K G kvs (ks.map enc)) :
    PySem.W.EachIs (fun v k => ∃ as, PySem.Reads s.heap v k as) us (ks.map (enc : κ → D)) :=
  PySem.W.each_map (R := fun v d => ∃ as, PySem.Reads s.heap v d as) (enc : κ → D) ((eachF r rp).mono fun v b ⟨x, h1, h2⟩ => Dp.reads I (enc b) x v ((h2.ex eG).dp) h1)
section
variable {X : Cx} {α κ : Type} [Enc α] [Enc κ] [EncSort κ] [EncDep κ] {T : CT} {k : Nat} {f : Addr} {fd : FuncData} {ps : List Str} {fM : α → R κ}
def rSortK (K : PySem.W.Frag) (f : Addr) (fM : α → R κ) : List V → List V → Hp → VK → Prop := fun vs zs H Q => ∃ (a : Addr) (ys : List V) (ds : List α) (G : Hp) (g : α → κ), vs = [V.ref a] ∧ zs = [V.ref f] ∧ SqL K H a ys ∧ Ex G H ∧ RpA K G ys (ds.map enc) ∧
  (∀ d ∈ ds, fM d = .ok (g d)) ∧ ∀ G' H' os p, Gr G H G' H' → RpA K G' os ((srtK g ds).map enc) → H' p = none → Q (.ref p) (upd H' p (.lst os))
/-- one key -/
theorem key_turn {pins : List (Addr × Obj)} {σ : L2.St} {H G : Hp} {s : Shared} {A : Around} {E : Value → Shared → Prop} {x : V} {v : Value} {d : α} {y : κ} (F : FnOk X.prog X.w X.K X.mg X.base (L2.CX X.prog X.w) k f fd ps (PrS T X.K (fun t : α × Unit => [enc t.1]) fun t => fM t.1)) (hr : Room k A) (hA : Env0 X.prog X.w X.K X.mg X.base A X.stack s H) (hb : Binds X.K fd ps [])
    (I : Inv X pins σ H s) (r : RelV x v) (eG : Ex G H) (rp : Rp X.K G x (enc d)) (hg : fM d = .ok y) : wpAny (model X.prog X.w) A (call (.ref f) [v]) (EP X pins σ fun u H' => ∃ G', Gr G H G' H' ∧ Rp X.K G' u (enc y)) E s := by
  have hsp : PrS T X.K (fun t : α × Unit => [enc t.1]) (fun t => fM t.1) [x] H (fun u H' => ∃ G', Gr G H G' H' ∧ Rp X.K G' u (enc y)) (fun _ _ _ => False) := by
    refine ⟨G, (d, ()), eG, .cons rp .nil, ?_⟩
    show (fM d).wp _ _
    rw [hg]
    exact fun u G' H' g r => ⟨G', g, r⟩
  have hl : [v].length = ps.length := F.len _ _ _ _ hsp
  refine wpAny_call (codeAny_mono (F.run A X.stack s H ⟨[v], []⟩ [v] [x] _ _ hr hA (by have := hb s [v] I.kIn (by simpa using hl); simpa using this) (.cons r .nil) hsp) fun r s' hq => ?_)
  cases r with
  | error e =>
    obtain ⟨_, _, _, _, _, _, _, _, _, _, _, _, z⟩ := hq
    exact z.elim
  | ok fl =>
    cases fl with
    | ret u => exact I.after hq
    | next => exact False.elim hq
    | brk => exact False.elim hq
    | cont => exact False.elim hq
theorem cr_sortK (F : FnOk X.prog X.w X.K X.mg X.base (L2.CX X.prog X.w) k f fd ps (PrS T X.K (fun t : α × Unit => [enc t.1]) fun t => fM t.1)) (hr : Room (k + 2) X.A) (hb : Binds X.K fd ps []) (hu : X.A.units + 66 < cLine) (hd : dep κ ≤ 60) :
    CallRK X (.builtin "sorted") [Str.ofString "key"] (rSortK X.K f fM) := by
  intro pins s σ H vs zs us ws Q I r rz h
  obtain ⟨a, ys, ds, G, g, rfl, rfl, hs, eG, rp, hg, q⟩ := h
  obtain ⟨its, rv, hl, hz⟩ := I.list hs
  rw [Vals.ref1 r, Vals.ref1 rz]
  have hlen : ds.length = its.length := by rw [← rv.length, rp.length, List.length_map]
  have hzi : its.length ≤ sizeLine := by rw [← rv.length]; exact hz
  refine PySem.W.sorted_of_sort hl.isList hzi (PyProof.Rows.ksk_s1 _ _) (fun _ => PyProof.Rows.ksk_l1 _ _) fun E' => ?_
  show wpAny _ _ (Builtin.«list.sort» ⟨[.ref _], [(Str.ofString "key", .ref f)]⟩) _ _ _
  rw [PyProof.Rows.ksk_t1]
  obtain ⟨a1, ea1⟩ : ∃ a1, a1 = s.heap.objs.size + 1 := ⟨_, rfl⟩
  rw [← ea1]
  have ho : (PySem.W.copyHeap s.heap its).get? a1 = some (seqObj "list" its.toArray 0) := by rw [ea1]; exact PySem.W.copyHeap_at _ _
  have hlt : a1 < (PySem.W.copyHeap s.heap its).objs.size := Heap.lt_size ho
  obtain ⟨e1, ho1⟩ : ∃ e1, ((PySem.W.copyHeap s.heap its).update a1 (Obj.mapSeq fun _ => (#[] : Array Value))).get? a1 = some (seqObj "list" #[] e1) := ⟨_, get?_update_seq ho fun _ => #[]⟩
  unfold PyProof.Rows.ksk_tree
  refine wpAny_bind (listItems_at ho rfl ?_)
  refine wpAny_bind (listUpdate_at ho rfl ?_ (by rw [List.size_toArray]; exact hzi) (Nat.zero_le _))
  refine wpAny_bind (seqEpoch_at ho1 rfl ?_)
  refine wpAny_bind (wpAny_newTuple ?_ hzi)
  refine wpAny_bind (wpAny_newList ?_ (Nat.zero_le _))
  refine wpAny_holding ?_
  -- the keys' list
  obtain ⟨kS, ekS⟩ : ∃ kS, kS = (((PySem.W.copyHeap s.heap its).update a1 (Obj.mapSeq fun _ => (#[] : Array Value))).push (seqObj "tuple" its.toArray 0)).objs.size := ⟨_, rfl⟩
  rw [← ekS]
  have hkS : kS = (PySem.W.copyHeap s.heap its).objs.size + 1 := by rw [ekS, PyProof.Rows.size_push', Heap.size_update]
  have hka : kS ≠ a1 := by omega
  have hsz : s.heap.objs.size ≤ a1 := by omega
  have hsk : s.heap.objs.size ≤ kS := by omega
  obtain ⟨h0, eh0⟩ : ∃ h0, h0 = PySem.W.sortingHeap (PySem.W.copyHeap s.heap its) a1 its := ⟨_, rfl⟩
  show wpAny _ _ _ _ _ { s with heap := PySem.W.sortingHeap (PySem.W.copyHeap s.heap its) a1 its }
  rw [← eh0]
  have nk0 : h0.get? kS = some (seqObj "list" #[] 0) := by rw [eh0, ekS]; exact Heap.get?_push_size _ rfl
  have na0 : h0.get? a1 = some (seqObj "list" #[] e1) := by rw [eh0]; exact Heap.get?_push_of_some _ (Heap.get?_push_of_some _ ho1)
  have I0 : Inv X ((kS, seqObj "list" #[] 0) :: (a1, seqObj "list" #[] e1) :: pins) σ H { s with heap := h0, toks := s.toks } := by
    have I1 := I.kept (t' := s.toks) (h' := h0) fun b u e => by rw [eh0, ea1]; exact PySem.W.sorting_copy_old e
    refine I1.pins_of fun p hp => ?_
    rcases List.mem_cons.mp hp with e | e
    · subst e
      exact ⟨nk0, I.hok.fresh hsk, Nat.ne_of_gt (Nat.lt_of_lt_of_le I.lt hsk), I.nofs hsk, fun v z => by cases z⟩
    rcases List.mem_cons.mp e with e | e
    · subst e
      exact ⟨na0, I.hok.fresh hsz, Nat.ne_of_gt (Nat.lt_of_lt_of_le I.lt hsz), I.nofs hsz, fun v z => by cases z⟩
    · exact I1.pin p (List.mem_append_right _ e)
  have fpk : FpOk X pins H kS := I.fpOk hsk (I.hok.fresh hsk)
  have fpa : FpOk X pins H a1 := I.fpOk hsz (I.hok.fresh hsz)
  have hr2 : Room k X.A.in1.in1 := hr.in1.in1
  unfold PyProof.Rows.ksk_rest
  refine wpAny_bind (wpAny_rule ?_)
  rw [List.forIn_toArray]
  refine wpAny_bind (PyProof.Rows.ksk_fold (fun i s' => ∃ Gj Hj kA e kvs, Inv X ((kS, seqObj "list" kA e) :: (a1, seqObj "list" #[] e1) :: pins) σ Hj s' ∧ Gr G H Gj Hj ∧ Vals kvs kA.toList ∧ RpA X.K Gj kvs (((ds.take i).map g).map enc)) its 0 _
    ⟨G, H, #[], 0, [], I0, Gr.refl eG, .nil, .nil⟩ ?step ?done)
  case step =>
    rintro j v s' hx ⟨Gj, Hj, kA, e, kvs, I', gr, rk, rpk⟩
    simp only [Nat.zero_add] at rpk ⊢
    have hj : j < its.length := (List.getElem?_eq_some_iff.mp hx).1
    have hjd : j < ds.length := by omega
    have hdj : ds[j]? = some ds[j] := List.getElem?_eq_getElem hjd
    obtain ⟨x, hxj, rx⟩ := rp.get (i := j) (d := enc ds[j]) (by rw [List.getElem?_map, hdj]; rfl)
    obtain ⟨v', hv', rxv⟩ := rv.get hxj
    rw [hx] at hv'
    cases hv'
    have hkl : kA.size = j := by
      have a1 := rk.length
      have a2 := rpk.length
      have a3 : kA.toList.length = kA.size := by simp
      simp only [List.length_map, List.length_take] at a2
      omega
    refine wpAny_bind (wpAny_attempt (wpAny_mono (key_turn (E := fun _ _ => False) F hr2 I'.env0.in1.in1 hb I' rxv gr.gh (rx.ex gr.gg) (hg ds[j] (List.getElem_mem _))) (fun u s2 hu => ?_) fun _ _ hF => hF.elim))
    obtain ⟨kv, H2, I2, rkv, G2, gr2, rp2⟩ := hu
    have nk2 : s2.heap.get? kS = some (seqObj "list" kA e) := (pinX (p := (kS, seqObj "list" kA e)) List.mem_cons_self I2).1
    have hn2 : H2 kS = none := (pinX (p := (kS, seqObj "list" kA e)) List.mem_cons_self I2).2
    obtain ⟨c2, hc2⟩ : ∃ c2, (s2.heap.update kS (Obj.mapSeq (·.push u))).get? kS = some (seqObj "list" (kA.push u) c2) := ⟨_, get?_update_seq nk2 (·.push u)⟩
    refine wpAny_bind (listUpdate_at nk2 rfl ?_ (by omega) (by rw [Array.size_push]; omega))
    refine wpAny_pure ⟨rfl, G2, H2, kA.push u, c2, kvs ++ [kv], ?_, gr.trans gr2, ?_, ?_⟩
    · have I3 := unpinX I2
      have s1 := Heap.SameBut.update s2.heap kS (Obj.mapSeq (·.push u))
      have I4 := Inv.turnedL (t' := s2.toks) (ch := [kS]) (h' := s2.heap.update kS (Obj.mapSeq (·.push u))) I3 (fun b o hb e => (s1.2 b (by simpa using hb)).trans e) fun b hb => by
        obtain rfl : b = kS := by simpa using hb
        refine ⟨hn2, fpk.2.1, fpk.2.2.1, fpk.2.2.2.1, fpk.2.2.2.2.1, fun p hp => ?_⟩
        rcases List.mem_append.mp hp with z | z
        · exact fpk.2.2.2.2.2 p (List.mem_append_left _ z)
        · rcases List.mem_cons.mp z with z | z
          · rw [z]; exact fun q => hka q.symm
          · exact fpk.2.2.2.2.2 p (List.mem_append_right _ z)
      refine I4.pins_of fun p hp => ?_
      rcases List.mem_cons.mp hp with z | z
      · subst z
        exact ⟨hc2, hn2, fpk.2.1, fpk.2.2.1, fun v z => by cases z⟩
      · exact I4.pin p (List.mem_append_right _ z)
    · rw [show (kA.push u).toList = kA.toList ++ [u] by simp]
      exact rk.append (.cons rkv .nil)
    · have et : ds.take (j + 1) = ds.take j ++ [ds[j]] := by rw [List.take_add_one, hdj]; rfl
      rw [et, List.map_append, List.map_append]
      exact (rpk.ex gr2.gg).append (.cons rp2 .nil)
  case done =>
    rintro s' ⟨Gj, Hj, kA, e, kvs, I', gr, rk, rpk⟩
    rw [Nat.zero_add, List.take_of_length_le (by omega)] at rpk
    have nk2 : s'.heap.get? kS = some (seqObj "list" kA e) := (pinX (p := (kS, seqObj "list" kA e)) List.mem_cons_self I').1
    have hnk : Hj kS = none := (pinX (p := (kS, seqObj "list" kA e)) List.mem_cons_self I').2
    have na2 := (pinX (p := (a1, seqObj "list" #[] e1)) (List.mem_cons_of_mem _ List.mem_cons_self) I').1
    have hna : Hj a1 = none := (pinX (p := (a1, seqObj "list" #[] e1)) (List.mem_cons_of_mem _ List.mem_cons_self) I').2
    have er := each_reads I' gr.gh rk rpk
    have hkl : kA.size = its.length := by
      have a1 := rk.length
      have a2 := rpk.length
      have a3 : kA.toList.length = kA.size := by simp
      simp only [List.length_map] at a2
      omega
    refine wpAny_bind (listItems_at nk2 rfl ?_)
    obtain ⟨hG, g1, g2⟩ := L2.restrict s'.heap fun b => decide (b ≠ kS)
    have gk : ∀ b, b ≠ kS → hG.get? b = s'.heap.get? b := fun b hb => g1 b (decide_eq_true hb)
    have gn : hG.get? kS = none := g2 kS (by simp)
    have al : PySem.W.AllAlike ((ds.map g).map (enc : κ → D)) := PySem.W.AllAlike.of fun a b => EncSort.al a b
    have so : PySem.W.Sortable ((ds.map g).map (enc : κ → D)) := (EncSort.so (α := κ)).elim (fun h => PySem.W.Sortable.tuples h) fun h => PySem.W.Sortable.others h
    refine PySem.W.keyH_end (κ := PySem.W.dataKind s'.heap ((ds.map g).map (enc : κ → D))) (h₁ := hG) (fun b o _ q => ?_) gn nk2 na2 hka (PySem.W.SortsAt.data er al so fun d hd' => ?_) hkl hzi fun h' tk c kp' ha' => ?_
    · by_cases hb : b = kS
      · rw [hb, gn] at q; cases q
      · exact (gk b hb).symm.trans q
    · obtain ⟨y, hy, rfl⟩ := List.mem_map.mp hd'
      have := hdep y
      show X.A.in1.in1.units + _ < cLine
      have eu : X.A.in1.in1.units = X.A.units + 2 := rfl
      omega
    · have ko : PySem.W.KeyedOut false (ds.map fun d => (enc (g d) : D)) its (PySem.W.sortVals (PySem.W.dataKind s'.heap ((ds.map g).map (enc : κ → D))) false kA.toList its) := ⟨s'.heap, kA.toList, by rw [List.map_map] at al; exact al, by rw [List.map_map]; rfl, by rw [List.map_map] at er; exact er⟩
      have ke := PySem.W.keyedOut_each (fun d : α => (enc (g d) : D)) ko (eachF rv rp)
      have hol := ko.length (by rw [List.length_map]; omega)
      have e2 : (PySem.W.dataLe false fun d : α => (enc (g d) : D)) = fun x y => EncSort.le (g x) (g y) := by
        funext x y
        exact congrFun (congrFun (EncSort.eq (α := κ)) (g x)) (g y)
      rw [e2] at ke
      obtain ⟨os, h1, h2⟩ := eachB ke
      have hl2 : os.length ≤ sizeLine := by rw [h1.length, hol]; exact hzi
      have fin := turnedAt (t' := tk) (ch := [kS, a1]) (h' := h') (T := a1) (ob := .lst os) (unpinX (unpinX I')) (fun b o hb q => kp' b o (fun z => hb (by simp [z])) ((gk b fun z => hb (by simp [z])).trans q)) (fun b hb => ?_) (by simp) ⟨hl2, _, c, h1, ha'⟩
      · exact ⟨rfl, .ref a1, _, fin, rfl, q Gj Hj os a1 gr (h2.ex gr.gg) hna⟩
      · rcases List.mem_cons.mp hb with z | z
        · subst z; exact ⟨hnk, fpk.2⟩
        · obtain rfl : b = a1 := by simpa using z
          exact ⟨hna, fpa.2⟩
end
section
variable {J : Jd} {Γ : List Sl} {a : Expr} {pos p p2 p3 : Pos} {α κ : Type} [Enc α] [Enc κ] [EncSort κ] [EncDep κ] {k : Nat} {x : Str} {f : Addr} {fd : FuncData} {ps : List Str} {fM : α → R κ}
def okD {κ : Type} [Inhabited κ] : R κ → κ
  | .ok a => a
  | _ => default
/-- put in order by the keys, where each has one -/
noncomputable def keysM [Inhabited κ] (fM : α → R κ) (xs : List α) : R (List α) := @ite _ (∀ x ∈ xs, ∃ y, fM x = .ok y) (Classical.propDecidable _) (.ok (srtK (fun x => okD (fM x)) xs)) .stuck
theorem okD_of {m : R κ} [Inhabited κ] (h : ∃ y, m = .ok y) : m = .ok (okD m) := by
  obtain ⟨y, rfl⟩ := h
  rfl
/-- sorted(xs, key=f) -/
theorem EF.sortK [Inhabited κ] {m : R (List α)} (F : FnOk J.X.prog J.X.w J.X.K J.X.mg J.X.base (L2.CX J.X.prog J.X.w) k f fd ps (PrS J.T J.K (fun t : α × Unit => [enc t.1]) fun t => fM t.1)) (hr : Room (k + 2) J.X.A) (hb : Binds J.K fd ps []) (hx : J.X.mg x = some (.ref f)) (h : EL J Γ a m) (hm : J.X.mg "sorted" = none)
    (hu : J.X.A.units + 66 < cLine) (hd : dep κ ≤ 60 := by decide) (hgx : Gl J.X x := by rfl) (hg : Gl J.X "sorted" := by rfl) (hdx : (x == ("__debug__" : Str)) = false := by decide)
    (he : backTo pos (starEach (a :: []) J.X.env) = (false, eval a J.X.env) :: backTo pos (starEach [] J.X.env) := by rfl) (hs : starEach (a :: []) J.X.env = (false, eval a J.X.env) :: starEach [] J.X.env := by rfl) (hpl : (backTo pos (starEach (a :: []) J.X.env)).any (·.1) = false := by rfl)
    (hall : (backToKw pos (keywordEach [⟨some "key", .Name x p2, p3⟩] J.X.env)).all (·.1.isSome) = true := by rfl) (hnone : (backToKw pos (keywordEach [⟨some "key", .Name x p2, p3⟩] J.X.env)).any (·.1.isNone) = false := by rfl) (hks : (backToKw pos (keywordEach [⟨some "key", .Name x p2, p3⟩] J.X.env)).filterMap (·.1) = [Str.ofString "key"] := by rfl) :
    EF J Γ (.Call (.Name "sorted" p) [a] [⟨some "key", .Name x p2, p3⟩] pos) (m.bind fun xs => keysM fM xs) :=
  ⟨pe_wk (pe_callBK (cr_sortK F hr hb hu hd) hg hm (by decide +kernel) (pa_cons h.pe pa_nil hs) (pk_cons (pe_glob (v := .ref f) hgx hx rfl hdx) pk_nil) (he := he) (hpl := hpl) (hall := hall) (hnone := hnone) (hks := hks)) fun σ H Q ⟨G, S, w⟩ => ⟨G, S, wp_mono (wp_bind.mp w) (fun xs k l vs G' H' g hl r => by
    unfold keysM at k
    by_cases hz : ∀ x ∈ xs, ∃ y, fM x = .ok y
    · rw [if_pos hz] at k
      exact ⟨l, vs, xs, G', fun x => okD (fM x), rfl, rfl, hl, g.gh, r, fun d hd => okD_of (hz d hd), fun G2 H2 os p g2 ro hn => k p os G2 _ ((g.trans g2).trans (Gr.loose g2.gh hn)) (ex_none (g.trans g2).hh hn) (ex_none g2.gh hn) upd_same ro⟩
    · rw [if_neg hz] at k; exact k.elim) fun _ _ z => z⟩⟩
end
/-! ### 26. xs * k, xs.clear() -/
section
theorem list_mulW (l : Addr) (items : Array Value) (n : Nat) (dd : Option Addr) (sl : Array (Option Value)) (x : Int) (u : Tok) (hc0 : ¬(!Builtin.List.listFitsIndex x) = true) (hc1 : ¬items.size * x.toNat > (2 ^ 63 - 1) / 8) (hc2 : ¬Builtin.List.listTooLong (items.size * x.toNat) = true) :
    Meets (Builtin.«list.__mul__» ⟨[.ref l, .int x u], []⟩) (fun _ R s => s.heap.get? l = some ({ cls := .type "list", dict := dd, data := .seq items n, slots := sl } : Obj) ∧
      R (.ok (.ret (Value.ref s.heap.objs.size))) { s with heap := s.heap.push { cls := Value.type "list", data := Data.seq (List.foldl (fun x1 x2 => x1 ++ x2) #[] (List.replicate (if items.isEmpty = true then 0 else x.toNat) items)) }, toks := s.toks }) :=
  .of_wp fun prog w A R s h => by
    obtain ⟨hp, g, d, tk, os⟩ := s
    obtain ⟨hl, h⟩ := h
    have hsz := PySem.AutoListH.joined_fits hc2
    wp_walk using wpAny_loadPart' hl
    refine wpAny_ite_false (decide_eq_false (Nat.not_lt.mpr hsz)) ?_
    wp_walk
    exact ⟨_, rfl, h⟩
theorem int_rmulW (a : Int) (t : Tok) (l : Addr) (items : Array Value) (n : Nat) (dd : Option Addr) (sl : Array (Option Value)) :
    Meets (Builtin.«int.__rmul__» ⟨[.int a t, .ref l], []⟩) (fun _ R s => s.heap.get? l = some ({ cls := .type "list", dict := dd, data := .seq items n, slots := sl } : Obj) ∧ R (.ok (.ret Value.notImplemented)) s) :=
  .of_wp fun prog w A R s h => by
    obtain ⟨hp, g, d, tk, os⟩ := s
    obtain ⟨hl, h⟩ := h
    wp_walk using wpAny_loadPart' hl
    exact ⟨_, rfl, h⟩
end
def rRepS (K : PySem.W.Frag) : R2 := fun x y H Q => ∃ l k xs, x = .ref l ∧ y = .int k ∧ SqL K H l xs ∧ -(2 ^ 63) ≤ k ∧ k < 2 ^ 63 ∧ xs.length * k.toNat ≤ sizeLine ∧ ∀ p, H p = none → Q (.ref p) (upd H p (.lst (List.replicate k.toNat xs).flatten))
theorem op_repS {X : Cx} : OpR X (binaryOp .Mult) (rRepS X.K) := by
  intro pins s σ H x y v u Q I rx ry h
  obtain ⟨l, k, xs, rfl, rfl, hH, h1, h2, hz, q⟩ := h
  cases rx
  obtain ⟨t, rfl⟩ := ry
  obtain ⟨its, r, pl, z⟩ := I.list hH
  have hl := r.length
  obtain ⟨⟨cls, dd, data, sl⟩, ho, hc, n, hd⟩ := id pl.isList
  simp only at hc hd
  subst hc hd
  have hlen : its.toArray.size * k.toNat ≤ sizeLine := by rw [List.size_toArray, ← hl]; exact hz
  have hcap : ¬ its.toArray.size * k.toNat > (2 ^ 63 - 1) / 8 := by
    have : (sizeLine : Nat) ≤ (2 ^ 63 - 1) / 8 := by decide
    omega
  have hfit : ¬ (!Builtin.List.listFitsIndex k) = true := by
    rw [fitsIndex_both h1 h2]
    exact Bool.false_ne_true
  have hlong : ¬ Builtin.List.listTooLong (its.toArray.size * k.toNat) = true := by
    rw [notLongL hlen]
    exact Bool.false_ne_true
  have hnew : List.foldl (fun x1 x2 => x1 ++ x2) #[] (List.replicate (if its.toArray.isEmpty = true then 0 else k.toNat) its.toArray) = (List.replicate k.toNat its).flatten.toArray := by
    have f0 : ∀ m : Nat, List.foldl (fun x1 x2 => x1 ++ x2) #[] (List.replicate m its.toArray) = (List.replicate m its).flatten.toArray := fun m => by
      have := foldl_rep its m []
      rw [List.nil_append] at this
      exact this
    rw [f0]
    cases its with
    | nil => simp
    | cons a r' => rw [if_neg (by simp)]
  refine wpAny_binaryOp_repeat_ref (T := "list") (U := "int") (by decide) ⟨_, ho, rfl⟩ (fun s' => typeIs_int s' k t) noFill_list_mul PySem.F.fills_int_mul PySem.F.slot_int_rmul repeat_list PySem.F.slot_int_index.lookup
    (call_meets PySem.F.slot_int_rmul (typeIs_int s k t) PySem.F.entry_int_rmul (PySem.F.args_int_rmul_2 _ _) (int_rmulW k t l its.toArray n dd sl)
      ⟨ho, rfl, ⟨_, ho, rfl⟩, call_meets PySem.F.slot_list_mul ⟨_, ho, rfl⟩ PySem.F.entry_list_mul (PySem.F.args_list_mul_2 _ _) (list_mulW l its.toArray n dd sl k t hfit hcap hlong) ⟨ho, ?_⟩⟩)
  rw [hnew]
  exact ⟨.ref _, _, I.lnew (t' := s.toks) (r.rep k.toNat) (by rw [PyProof.Rows.lm_len_rep_flat, Nat.mul_comm]; exact hz), rfl, q _ I.fresh⟩
noncomputable def repM {α : Type} (xs : List α) (k : Int) : R (List α) := @ite _ (-(2 ^ 62) ≤ k ∧ k < 2 ^ 62 ∧ xs.length * k.toNat ≤ 16777216) (Classical.propDecidable _) (.ok (List.replicate k.toNat xs).flatten) .stuck
theorem RpA.rep {K : PySem.W.Frag} {H : Hp} {vs : List V} {ds : List D} (r : RpA K H vs ds) : ∀ n : Nat, RpA K H (List.replicate n vs).flatten (List.replicate n ds).flatten
  | 0 => .nil
  | n + 1 => by
    rw [List.replicate_succ, List.replicate_succ, List.flatten_cons, List.flatten_cons]
    exact r.append (RpA.rep r n)
theorem map_rep {α β : Type} {f : α → β} {xs : List α} : ∀ n : Nat, ((List.replicate n xs).flatten).map f = (List.replicate n (xs.map f)).flatten
  | 0 => rfl
  | n + 1 => by rw [List.replicate_succ, List.replicate_succ, List.flatten_cons, List.flatten_cons, List.map_append, map_rep n]
section
variable {J : Jd} {Γ : List Sl} {a b : Expr} {pos p2 : Pos} {α : Type} [Enc α]
theorem EF.rep {m1 : R (List α)} {m2 : R Int} (ha : EL J Γ a m1) (hb : ES J Γ b m2) : EF J Γ (.BinOp a .Mult b pos) (m1.bind fun xs => m2.bind fun k => repM xs k) :=
  ⟨pe_wk (pe_op op_repS ha.pe hb.pe) fun σ H Q ⟨G, S, w⟩ => ⟨G, S, wp_mono (wp_bind.mp w) (fun xs k l vs G1 H1 g1 h1 r1 => ⟨G1, S.gr g1, wp_mono (wp_bind.mp k) (fun n k2 v G2 H2 g2 r2 => by
    have e := Rp.unint r2
    subst e
    unfold repM at k2
    by_cases hz : -(2 ^ 62) ≤ n ∧ n < 2 ^ 62 ∧ xs.length * n.toNat ≤ 16777216
    · rw [if_pos hz] at k2
      refine ⟨l, n, vs, rfl, rfl, Evl.ex_l g2.hh h1, by omega, by omega, szl.mpr (by rw [r1.length, List.length_map]; exact hz.2.2), fun p hn => ?_⟩
      have g := g1.trans g2
      have g3 := Gr.loose (o := .lst (List.replicate n.toNat vs).flatten) g.gh hn
      refine k2 p _ G2 _ (g.trans g3) (ex_none g.hh hn) (ex_none g.gh hn) upd_same ?_
      rw [map_rep]
      exact (r1.ex g2.gg).rep _
    · rw [if_neg hz] at k2; exact k2.elim) fun _ _ z => z⟩) fun _ _ z => z⟩⟩
/-- xs.clear() -/
theorem BS.clear {i : Nat} {xs : List α} {call : Expr} (hc : PE J.X call (tBM0 J.X.K "list" rClear (tVar i))) (hp : PeOk J Γ) (hG : Γ[i]? = some (.ow (xs.map enc))) (hs : swapsWith call none p2.line J.X.env = pure false := by rfl) :
    BS J Γ (.Expr call p2) (.ok ([] : List α)) (fun ys => .nx (Γ.set i (.ow (ys.map enc)))) :=
  ⟨ps_wk (ps_expr hc hs) fun D σ H ⟨G, S, q⟩ => by
    obtain ⟨l, vs, e1, hl, r, gl⟩ := S.ow hG
    refine ⟨.ref l, e1, .inl ⟨rfl, _, .inl (.inl hl)⟩, l, vs, rfl, rfl, hl, ?_⟩
    exact q G σ _ (S.mut hG e1 .nil)⟩
end
/-! ### 27. try, its clauses named or not -/
abbrev unD (i : Nat) (D : Ends) : Ends := { nx := fun σ' H' => D.nx (σ'.set i none) H', rt := D.rt, bk := fun σ' H' => D.bk (σ'.set i none) H', ct := fun σ' H' => D.ct (σ'.set i none) H' }
abbrev ClT := Value × Option Nat × (Addr → Value → Option Addr → TS)
def wN (K : PySem.W.Frag) (Wout : WX) (D : Ends) : List ClT → WX
  | [] => Wout
  | (c, s, ts) :: l => fun cls d σ H => ∃ b, PySem.W.exmOne K cls c = some b ∧ (b = true → ∀ a, H a = none → (match s with
    | none => ts a cls d D σ H
    | some i => ts a cls d (unD i D) (σ.set i (some (.ref a))) H)) ∧ (b = false → wN K Wout D l cls d σ H)
inductive HdsN (X : Cx) : List ExceptHandler → List ClT → Prop
  | nil : HdsN X [] []
  | cons {x : Str} {c : Value} {ts : Addr → Value → Option Addr → TS} {b0 : Stmt} {suite : List Stmt} {np q : Pos} {hds : List ExceptHandler} {l : List ClT} (hc : Names X x c)
      (hsu : ∀ (a : Addr) (oe : Obj) (cls : Value) (d : Option Addr) (pn : List (Addr × Obj)), Zc cls d oe → (∃ vs, oe.data = .fields vs) → PSs (X.suite a ((a, oe) :: pn)) (b0 :: suite) (ts a cls d)) (r : HdsN X hds l) :
      HdsN X (.ExceptHandler (some (.Name x np)) none (b0 :: suite) q :: hds) ((c, none, ts) :: l)
  | named {x n : Str} {i : Nat} {c : Value} {ts : Addr → Value → Option Addr → TS} {b0 : Stmt} {suite : List Stmt} {np q : Pos} {hds : List ExceptHandler} {l : List ClT} (hN : X.N.Nodup) (hi : X.N[i]? = some n) (hln : X.env.kindOf n = some .local) (hc : Names X x c)
      (hsu : ∀ (a : Addr) (oe : Obj) (cls : Value) (d : Option Addr) (pn : List (Addr × Obj)), Zc cls d oe → (∃ vs, oe.data = .fields vs) → PSs (X.suite a ((a, oe) :: pn)) (b0 :: suite) (ts a cls d)) (r : HdsN X hds l) :
      HdsN X (.ExceptHandler (some (.Name x np)) (some n) (b0 :: suite) q :: hds) ((c, some i, ts) :: l)
section
variable {X : Cx} {body orelse : List Stmt} {g0 : ExceptHandler} {hds : List ExceptHandler} {l : List ClT} {pos : Pos} {tb : WX → TS} {u : TS} {Wout : WX}
theorem ps_tryN (ho : PSs X orelse u) (es : X.stack = X.env :: X.outer) (ef : X.env.frame = some X.env.locals) (tk : Takes X Wout)
    (hb : ∀ (W : WX) (pn : List (Addr × Obj)) (xe : Value → Shared → Prop), Takes (X.tr pn xe) W → PassesOwn (model X.prog X.w) X.A X.env xe → PSs (X.tr pn xe) body (tb W)) (hh : HdsN X (g0 :: hds) l) :
    PS X (.Try body (g0 :: hds) orelse [] pos) (fun D σ H => tb (wN X.K Wout D l) { D with nx := u D } σ H) := by
  refine ⟨fun pins s σ H D I w0 => ?_⟩
  have ok := I.ok
  have efr : X.A.frames = some (X.env :: X.outer) := by rw [ok.frames, es]
  refine wpAny_Try_except (wpAny_mono ((hb (wN X.K Wout D l) (X.pn ++ pins) (fun e s1 => wpAny (model X.prog X.w) X.A (noteFrame e X.env) (fun _ s2 => wpAny (model X.prog X.w) X.A (setFlight e none) (fun _ s3 =>
    wpAny (model X.prog X.w) X.A (handleBy e X.env (g0 :: hds)) (SP X pins D) X.xe s3) X.xe s2) X.xe s1) (fun _ z xx => ?_) PassesOwn.looking).run [] s σ H { D with nx := u D } (I.toTry _) w0) (fun f s1 hsp => ?_) fun _ _ he => he)
  · obtain ⟨a, B, sI, p2, σ', H', cls, d, rfl, Jt, nb, up, sky, na, os, ag, w⟩ := xx
    have J : Inv X pins σ' H' sI := Jt.ofTry ok
    have sky2 : Sky B (X.env :: X.outer) a (Zc cls d) X.env.locals z.heap := by rw [← es]; exact sky
    show wpAny (model X.prog X.w) X.A (noteFrame (.ref a) X.env) _ _ _
    refine Sky.land Zc.steady efr ef sky2 fun g3 fl3 up3 => ?_
    have J3 : Inv X pins σ' H' { z with heap := g3 } := J.landed nb fl3.1 (up.trans up3) os ag
    obtain ⟨o3, v3, e3, z3, d3⟩ := fl3.there
    have nfr : a ∉ frs (X.env :: X.outer) := fun hm => by
      obtain ⟨_, o', e', hnf⟩ := fl3.2.2.1.mem hm
      rw [e3] at e'; cases e'
      exact hnf _ d3
    have nL : a ≠ X.env.locals := fun q => nfr (List.mem_filterMap.mpr ⟨X.env, List.mem_cons_self, by rw [ef, q]⟩)
    have nF : a ∉ X.fs := fun hm => by
      obtain ⟨e, he, q⟩ := List.mem_filterMap.mp hm
      exact nfr (List.mem_filterMap.mpr ⟨e, List.mem_cons_of_mem _ he, q⟩)
    have S3 := J3.suite e3 d3 na nL nF
    have asks : ∀ {x : Str} {c : Value} {np : Pos} {Q : Value → Shared → Prop} {E : Value → Shared → Prop}, Names X x c → Q c { z with heap := g3 } → wpAny (model X.prog X.w) (X.A.mark (some (.ref a))) (eval (.Name x np) X.env) Q E { z with heap := g3 } := fun {x c np Q E} hc q => by
      obtain ⟨k1, k2, k3 | ⟨k3, k4, k5⟩⟩ := hc
      · exact ld_glob (X := X.suite a ((a, o3) :: (X.pn ++ pins))) S3 k1 k3 q k2
      · exact ld_blt (X := X.suite a ((a, o3) :: (X.pn ++ pins))) S3 k1 k3 k4 q k5 k2
    have LT : PySem.W.Looks (model X.prog X.w) g3 (typeOf (.ref a)) cls := fun A Q E s k q => wpAny_typeOf_ref (k _ _ e3) (by rw [z3.1]; exact q)
    have go : ∀ {hs2 : List ExceptHandler} {l2 : List ClT}, HdsN X hs2 l2 → wN X.K Wout D l2 cls d σ' H' → wpAny (model X.prog X.w) X.A (handleBy (.ref a) X.env hs2) (SP X pins D) X.xe { z with heap := g3 } := by
      intro hs2 l2 hk
      induction hk with
      | nil =>
        intro w
        refine wpAny_handleBy_nil ?_
        obtain ⟨k1, k2, k3, oe, vs, T, oT, t2, he, hz, hd, h1, hr⟩ := id fl3
        have last : wpAny (model X.prog X.w) X.A (setFlight (.ref a) X.env.frame) (fun _ s4 => wpAny (model X.prog X.w) X.A (throw (.ref a) : Sem Flow) (SP X pins D) X.xe s4) X.xe { z with heap := g3 } := by
          rw [ef]
          exact HandSPX.setFlight_upZ fl3 fun g4 k4 up4 => wpAny_throw (tk _ _ ⟨a, B, sI, pins, σ', H', cls, d, rfl, J, nb, (up.trans up3).trans up4, .inr (.inr (by rw [es]; exact k4)), na, os, ag, w⟩)
        unfold PySem.passOn
        refine wpAny_bind (wpAny_field he hd h1 ?_)
        rw [if_neg (show ¬ ((Value.ref T == Value.none) = true) from by simp)]
        first | exact wpAny_bind (wpAny_pure (wpAny_bind last)) | exact wpAny_bind last
      | @cons x c ts b0 suite np q hs3 l3 hc hsu r ih =>
        intro w
        obtain ⟨b, t1, t2, t3⟩ := w
        refine wpAny_handleBy_cons (codeAny_handlers_test (asks hc ((PySem.W.exm_one (M := model X.prog X.w) J3.kIn LT t1).here ?_))) (by intro q; cases q)
        cases b with
        | false => exact ih (t3 rfl)
        | true =>
          refine codeAny_handlers_suite (HandSPX.lands_againZ fl3 fun g4 fl4 up4 => ?_)
          have J4 : Inv X pins σ' H' { z with heap := g4 } := J.landed nb fl4.1 ((up.trans up3).trans up4) os ag
          obtain ⟨o4, v4, e4, z4, d4⟩ := fl4.there
          refine wpAny_mono ((hsu a o4 cls d (X.pn ++ pins) z4 ⟨_, d4⟩).run [] _ _ H' _ (J4.suite e4 d4 na nL nF) (t2 rfl a na)) (fun f s6 hsp => ?_) (fun _ _ z => False.elim z)
          cases f with
          | next => obtain ⟨σ6, H6, S6, q6⟩ := hsp; exact ⟨_, _, S6.unsuite ok, q6⟩
          | brk => obtain ⟨σ6, H6, S6, q6⟩ := hsp; exact ⟨_, _, S6.unsuite ok, q6⟩
          | cont => obtain ⟨σ6, H6, S6, q6⟩ := hsp; exact ⟨_, _, S6.unsuite ok, q6⟩
          | ret v => obtain ⟨v6, σ6, H6, S6, r6, q6⟩ := hsp; exact ⟨_, _, _, S6.unsuite ok, r6, q6⟩
      | @named x n i c ts b0 suite np q hs3 l3 hN hi hln hc hsu r ih =>
        intro w
        obtain ⟨b, t1, t2, t3⟩ := w
        refine wpAny_handleBy_cons (codeAny_handlers_test (asks hc ((PySem.W.exm_one (M := model X.prog X.w) J3.kIn LT t1).here ?_))) (by intro q; cases q)
        cases b with
        | false => exact ih (t3 rfl)
        | true =>
          refine codeAny_handlers_suite_as (HandSPX.lands_againZ fl3 fun g4 fl4 up4 => ?_)
          have J4 : Inv X pins σ' H' { z with heap := g4 } := J.landed nb fl4.1 ((up.trans up3).trans up4) os ag
          obtain ⟨o4, v4, e4, z4, d4⟩ := fl4.there
          refine store_ok (X := X.suite a ((a, o4) :: (X.pn ++ pins))) (v := .ref a) (J4.suite e4 d4 na nL nF) hN hi (.inl hln) rfl (fun s5 S5 => ?_) (.inr hln)
          refine wpAny_mono ((hsu a o4 cls d (X.pn ++ pins) z4 ⟨_, d4⟩).run [] s5 _ H' _ S5 (t2 rfl a na)) (fun f s6 hsp => ?_) (fun _ _ z => False.elim z)
          have gone : ∀ {σ6 : L2.St} {H6 : Hp} {Q : Shared → Prop}, Inv (X.suite a ((a, o4) :: (X.pn ++ pins))) [] σ6 H6 s6 → (∀ s7, Inv X pins (σ6.set i none) H6 s7 → Q s7) → wpAny (model X.prog X.w) X.A (do bindName X.env n .none; unbindBehindTheSuite X.env n q) (fun _ s7 => Q s7) X.xe s6 := fun {σ6 H6 Q} S6 hq => gone_ok (S6.unsuite ok) hN hi hln hq
          cases f with
          | next => obtain ⟨σ6, H6, S6, q6⟩ := hsp; exact gone S6 fun s7 J7 => ⟨_, _, J7, q6⟩
          | brk => obtain ⟨σ6, H6, S6, q6⟩ := hsp; exact gone S6 fun s7 J7 => ⟨_, _, J7, q6⟩
          | cont => obtain ⟨σ6, H6, S6, q6⟩ := hsp; exact gone S6 fun s7 J7 => ⟨_, _, J7, q6⟩
          | ret v => obtain ⟨v6, σ6, H6, S6, r6, q6⟩ := hsp; exact gone S6 fun s7 J7 => ⟨_, _, _, J7, r6, q6⟩
    exact go hh w
  · cases f with
    | next => obtain ⟨σ', H', Jt, q⟩ := hsp; exact ho.run pins s1 σ' H' D (Jt.ofTry ok) q
    | brk => obtain ⟨σ', H', Jt, q⟩ := hsp; exact ⟨σ', H', Jt.ofTry ok, q⟩
    | cont => obtain ⟨σ', H', Jt, q⟩ := hsp; exact ⟨σ', H', Jt.ofTry ok, q⟩
    | ret v => obtain ⟨v, σ', H', Jt, r, q⟩ := hsp; exact ⟨v, σ', H', Jt.ofTry ok, r, q⟩
end
/-! ### 28. a suite that has the exception by name -/
structure Sub (c c' : Bs) : Prop where
  b : c'.B = c.B
  f : c'.F0 = c.F0
  h : Ex c.H0 c'.H0
  l : Ex c.Fl c'.Fl
theorem Sub.none {c c' : Bs} (s : Sub c c') {a : Addr} (e : c'.H0 a = none) : c.H0 a = none := ex_none s.h e
theorem SatG.less {K : PySem.W.Frag} {c c' : Bs} {Γ : List Sl} {G H : Hp} {σ : L2.St} (s : Sub c c') (S : SatG K c' Γ G σ H) : SatG K c Γ G σ H :=
  ⟨by rw [← s.b]; exact S.bg, S.gh, fun a o e n => S.h0 a o (s.h _ _ e) (by rw [s.f]; exact n), fun a o e => S.th a o (s.h _ _ e), fun a o e nF n => S.sep a o (s.h _ _ e) (by rw [s.f]; exact nF) (by rw [s.b]; exact n), s.l.trans S.fl, let ⟨fs, h1, h2, h3⟩ := S.sl
    ⟨fs, h1, h2, fun p hp => ⟨(h3 p hp).1, (h3 p hp).2.imp (fun z => by rw [← s.f]; exact z) s.none⟩⟩⟩
theorem Ed.less {c c' : Bs} {G H : Hp} (s : Sub c c') (S : Ed c' G H) : Ed c G H := ⟨by rw [← s.b]; exact S.bg, S.gh, fun a o e n => S.h0 a o (s.h _ _ e) (by rw [s.f]; exact n), fun a o e nF n => S.sep a o (s.h _ _ e) (by rw [s.f]; exact nF) (by rw [s.b]; exact n), fun a o e => S.th a o (s.h _ _ e)⟩
/-- what stands through the suite -/
def Kp (c : Bs) (a : Addr) (o : HO) : Prop := (c.H0 a = some o ∧ a ∉ c.F0) ∨ c.Fl a = some o
theorem SatG.kp {K : PySem.W.Frag} {c : Bs} {Γ : List Sl} {G H : Hp} {σ : L2.St} (S : SatG K c Γ G σ H) {a : Addr} {o : HO} (k : Kp c a o) : H a = some o := k.elim (fun e => S.h0 a o e.1 e.2) fun e => S.gh _ _ (S.fl _ _ e)
theorem sls_own {K : PySem.W.Frag} {G H : Hp} {Γ : List Sl} {σ : L2.St} {fs : List (List Addr)} (h : SlsAt K G H Γ σ fs) : ∀ p ∈ fs.flatten, ∃ u, H p = some u ∧ HOm u := by
  induction h with
  | nil => intro p hp; simp at hp
  | @cons s o f Γ σ fs a r ih =>
    intro p hp
    rw [List.flatten_cons, List.mem_append] at hp
    rcases hp with hp | hp
    · cases s with
      | no => cases (show f = [] from a); simp at hp
      | va d => obtain ⟨e, _⟩ := a; rw [e] at hp; simp at hp
      | rw v => obtain ⟨e, _⟩ := a; rw [e] at hp; simp at hp
      | ow ds => obtain ⟨q, vs, e, _, h1, _⟩ := a; rw [e, List.mem_singleton] at hp; subst hp; exact ⟨_, h1, .inl ⟨vs, rfl⟩⟩
      | dk ds => obtain ⟨q, vs, e, _, h1, _⟩ := a; rw [e, List.mem_singleton] at hp; subst hp; exact ⟨_, h1, .inr (.inl ⟨vs, rfl⟩)⟩
      | gn R => exact a.1.kd a.2 p hp
    · exact ih p hp
theorem SatG.keep {K : PySem.W.Frag} {c : Bs} {Γ : List Sl} {G H : Hp} {σ : L2.St} (S : SatG K c Γ G σ H) (nf : c.F0 = []) {a : Addr} {x : List (Str × V)} (e : H a = some (.xd x)) : ∃ c', Sub c c' ∧ Kp c' a (.xd x) ∧ SatG K c' Γ G σ H := by
  cases hz : c.H0 a with
  | some o =>
    have h1 := S.h0 a o hz (by rw [nf]; simp)
    rw [e] at h1
    cases h1
    exact ⟨c, ⟨rfl, rfl, Ex.refl _, Ex.refl _⟩, .inl ⟨hz, by rw [nf]; simp⟩, S⟩
  | none =>
    cases hg : G a with
    | some u =>
      have h1 := S.gh a u hg
      rw [e] at h1
      cases h1
      refine ⟨{ c with Fl := upd c.Fl a (.xd x) }, ⟨rfl, rfl, Ex.refl _, fun b o q => ?_⟩, .inr upd_same, ⟨S.bg, S.gh, S.h0, S.th, S.sep, fun b o q => ?_, S.sl⟩⟩
      · by_cases hb : b = a
        · subst hb
          have h2 := S.fl b o q
          rw [hg] at h2
          cases h2
          exact upd_same
        · exact (upd_ne hb).trans q
      · by_cases hb : b = a
        · subst hb
          have q' : upd c.Fl b (.xd x) b = some o := q
          rw [upd_same] at q'
          cases q'
          exact hg
        · exact S.fl b o ((upd_ne hb).symm.trans q)
    | none =>
      obtain ⟨fs, h1, h2, h3⟩ := S.sl
      have nfs : a ∉ fs.flatten := fun z => by
        obtain ⟨u, h4, ⟨vs, rfl⟩ | ⟨vs, rfl⟩ | ⟨C, dx, fs, rfl⟩⟩ := sls_own h1 a z
        · rw [e] at h4; cases h4
        · rw [e] at h4; cases h4
        · rw [e] at h4; cases h4
      refine ⟨{ c with H0 := upd c.H0 a (.xd x) }, ⟨rfl, rfl, fun b o q => (upd_ne fun z => by rw [z, hz] at q; cases q).trans q, Ex.refl _⟩, .inl ⟨upd_same, by rw [nf]; simp⟩, ⟨S.bg, S.gh, fun b o q n => ?_, fun b o q => ?_, fun b o q nF n => ?_, S.fl, fs, h1, h2, fun p hp => ⟨(h3 p hp).1, (h3 p hp).2.imp id fun z => (upd_ne fun y => nfs (by rw [← y]; exact hp)).trans z⟩⟩⟩
      · by_cases hb : b = a
        · subst hb
          have q' : upd c.H0 b (.xd x) b = some o := q
          rw [upd_same] at q'
          cases q'
          exact e
        · exact S.h0 b o ((upd_ne hb).symm.trans q) n
      · by_cases hb : b = a
        · subst hb; exact ⟨_, e⟩
        · exact S.th b o ((upd_ne hb).symm.trans q)
      · by_cases hb : b = a
        · subst hb; exact hg
        · exact S.sep b o ((upd_ne hb).symm.trans q) nF n
theorem SatG.setrw {K : PySem.W.Frag} {c : Bs} {Γ : List Sl} {G H : Hp} {σ : L2.St} {i : Nat} {v : V} (S : SatG K c Γ G σ H) : SatG K c (Γ.set i (.rw v)) G (σ.set i (some v)) H := by
  obtain ⟨fs, h1, h2, h3⟩ := S.sl
  refine ⟨S.bg, S.gh, S.h0, S.th, S.sep, S.fl, fs.set i [], h1.set ⟨rfl, rfl⟩, nodup_set h2 List.nodup_nil (fun p hp => by cases hp), fun p hp => ?_⟩
  rcases flatten_set_sub p hp with z | z
  · exact h3 p z
  · cases z
abbrev Jd.sn (J : Jd) (a : Addr) (oe : Obj) (pn : List (Addr × Obj)) (c' : Bs) : Jd := ⟨J.X.suite a ((a, oe) :: pn), c', fun _ _ _ _ => False, takes_none5, fun _ _ => True, J.T, PassesOwn.never⟩
theorem pdn {J : Jd} {Γ : List Sl} {a : Addr} {oe : Obj} {pn : List (Addr × Obj)} {c' : Bs} : PeOk (J.sn a oe pn c') Γ := fun _ _ _ _ => trivial
/-- what is known of the exception -/
structure ExH (J : Jd) (c' : Bs) (oe : Obj) (d : Option Addr) (n : Nat) (v : Option Int) : Prop where
  z : Zc (.ref (J.T.cls n)) d oe
  fs : ∃ vs, oe.data = .fields vs
  d : match v with
    | none => d = none
    | some i => ∃ dx f, d = some dx ∧ J.T.fld n = some f ∧ Kp c' dx (.xd [(f, .int i)])
def flI (i : Nat) : Fl → Prop
  | .nx Γ => Γ.set i .no = Γ
  | .bk Γ => Γ.set i .no = Γ
  | .ct Γ => Γ.set i .no = Γ
  | _ => True
theorem flP_sn {J : Jd} {a : Addr} {oe : Obj} {pn : List (Addr × Obj)} {c' : Bs} {D : Ends} {i : Nat} {fl : Fl} (s : Sub J.c c') (hi : flI i fl) (h : FlP J D fl) : FlP (J.sn a oe pn c') (unD i D) fl := by
  cases fl with
  | nx Γ => exact fun G σ H S => h G _ H (by have := (S.less s).setno (i := i) (o := none); rw [show Γ.set i .no = Γ from hi] at this; exact this)
  | bk Γ => exact fun G σ H S => h G _ H (by have := (S.less s).setno (i := i) (o := none); rw [show Γ.set i .no = Γ from hi] at this; exact this)
  | ct Γ => exact fun G σ H S => h G _ H (by have := (S.less s).setno (i := i) (o := none); rw [show Γ.set i .no = Γ from hi] at this; exact this)
  | rt d => exact fun v G H e r => h v G H (e.less s) r
  | rf ds => exact fun p vs G H e n gn hp r => h p vs G H (e.less s) (s.none n) gn hp r
  | rg R => exact fun v f G H e r nd n => h v f G H (e.less s) r nd fun p hp => ⟨(n p hp).1.elim (fun z => .inl (s.f ▸ z)) fun z => .inr (s.none z), (n p hp).2⟩
  | bad => exact h
def tryN {α β : Type} (m : R α) (k : α → R β) (h : Nat → Option Int → Option (R β)) : R β := match m with
  | .ok a => k a
  | .stuck => .stuck
  | .exc n v => match h n v with
    | some r => r.noexc
    | none => .stuck
/-- the first clause whose numbers hold n -/
def pickN {β : Type} : List (List Nat × (Nat → Option Int → R β)) → Nat → Option Int → Option (R β)
  | [], _, _ => none
  | (ns, r) :: cl, n, v => if n ∈ ns then some (r n v) else pickN cl n v
theorem pickN_some {β : Type} : ∀ {cl : List (List Nat × (Nat → Option Int → R β))} {n : Nat} {v : Option Int}, (pickN cl n v).isSome = true → n ∈ cl.flatMap (·.1)
  | [], n, v, h => by cases h
  | (ns, r) :: cl, n, v, h => by
    unfold pickN at h
    by_cases c : n ∈ ns
    · exact List.mem_append_left _ c
    · rw [if_neg c] at h
      exact List.mem_append_right _ (pickN_some h)
theorem noN_of {β : Type} {p : Nat → Prop} {cl : List (List Nat × (Nat → Option Int → R β))} {ns : List Nat} (h : ∀ n ∈ cl.flatMap (·.1), n ∉ ns → p n) : ∀ n v, n ∉ ns → (pickN cl n v).isSome = true → p n := fun n v hn hs => h n (pickN_some hs) hn
def ClN (J : Jd) (Γ1 : List Sl) (hds : List ExceptHandler) {β : Type} (cl : List (List Nat × (Nat → Option Int → R β))) (out : β → Fl) : Prop := ∃ l, HdsN J.X hds l ∧
  ∀ (n : Nat) (v : Option Int) (r : R β) (D : Ends) (σ : L2.St) (H : Hp) (d : Option Addr), pickN cl n v = some r → (∃ G, SatG J.K J.c Γ1 G σ H) → ExOk J.T n v (.ref (J.T.cls n)) d H → r.noexc.wp (fun b => FlP J D (out b)) (ErB J) → wN J.K J.W D l (.ref (J.T.cls n)) d σ H
theorem ClN.nil {J : Jd} {Γ1 : List Sl} {β : Type} {out : β → Fl} : ClN J Γ1 [] ([] : List (List Nat × (Nat → Option Int → R β))) out := ⟨[], .nil, fun n v r D σ H d h => by cases h⟩
section
variable {J : Jd} {Γ1 : List Sl} {β : Type} {out : β → Fl} {x y : Str} {c : Value} {b0 : Stmt} {suite : List Stmt} {np pos : Pos} {hds : List ExceptHandler} {cl : List (List Nat × (Nat → Option Int → R β))} {ns : List Nat} {r : Nat → Option Int → R β}
theorem ClN.cons (hc : Names J.X x c) (hs : ∀ (a : Addr) (pn : List (Addr × Obj)) (n : Nat) (v : Option Int), BD (J.su a pn) Γ1 (b0 :: suite) (r n v) out)
    (yes : ∀ n ∈ ns, PySem.W.exmOne J.K (.ref (J.T.cls n)) c = some true) (no : ∀ n v, n ∉ ns → (pickN cl n v).isSome = true → PySem.W.exmOne J.K (.ref (J.T.cls n)) c = some false) (rest : ClN J Γ1 hds cl out) :
    ClN J Γ1 (.ExceptHandler (some (.Name x np)) none (b0 :: suite) pos :: hds) ((ns, r) :: cl) out := by
  obtain ⟨l, h1, h2⟩ := rest
  refine ⟨(c, none, fun _ _ _ D σ H => ∃ n v, ∃ G, SatG J.K J.c Γ1 G σ H ∧ (r n v).noexc.wp (fun b => FlP J D (out b)) (ErB J)) :: l, .cons hc (fun a oe cls d pn _ _ => ?_) h1, fun n v r' D σ H d hp hG ok hw => ?_⟩
  · exact ⟨fun pins s σ H D I ⟨n, v, G, S, q⟩ => (hs a ((a, oe) :: pn) n v).ps.run pins s σ H D I ⟨G, S, wp_noexc q⟩⟩
  · unfold pickN at hp
    by_cases hn : n ∈ ns
    · rw [if_pos hn] at hp
      cases hp
      obtain ⟨G, S⟩ := hG
      exact ⟨true, yes n hn, fun _ a ha => ⟨n, v, G, S, hw⟩, (fun z => by cases z)⟩
    · rw [if_neg hn] at hp
      exact ⟨false, no n v hn (by rw [hp]; rfl), (fun z => by cases z), fun _ => h2 n v r' D σ H d hp hG ok hw⟩
theorem ClN.named {i : Nat} (nf : J.c.F0 = []) (hN : J.X.N.Nodup) (hi : J.X.N[i]? = some y) (hln : J.X.env.kindOf y = some .local) (hfl : ∀ b, flI i (out b)) (hc : Names J.X x c)
    (hs : ∀ (a : Addr) (oe : Obj) (pn : List (Addr × Obj)) (c' : Bs) (d : Option Addr) (n : Nat) (v : Option Int), n ∈ ns → ExH J c' oe d n v → BD (J.sn a oe pn c') (Γ1.set i (.rw (.ref a))) (b0 :: suite) (r n v) out)
    (yes : ∀ n ∈ ns, PySem.W.exmOne J.K (.ref (J.T.cls n)) c = some true) (no : ∀ n v, n ∉ ns → (pickN cl n v).isSome = true → PySem.W.exmOne J.K (.ref (J.T.cls n)) c = some false) (rest : ClN J Γ1 hds cl out) :
    ClN J Γ1 (.ExceptHandler (some (.Name x np)) (some y) (b0 :: suite) pos :: hds) ((ns, r) :: cl) out := by
  obtain ⟨l, h1, h2⟩ := rest
  refine ⟨(c, some i, fun a cls d D2 σ H => ∃ n v c' D, n ∈ ns ∧ cls = .ref (J.T.cls n) ∧ (match v with
      | none => d = none
      | some i => ∃ dx f, d = some dx ∧ J.T.fld n = some f ∧ Kp c' dx (.xd [(f, .int i)])) ∧ Sub J.c c' ∧ D2 = unD i D ∧ (∃ G, SatG J.K c' (Γ1.set i (.rw (.ref a))) G σ H) ∧ (r n v).noexc.wp (fun b => FlP J D (out b)) (ErB J)) :: l,
    .named hN hi hln hc (fun a oe cls d pn hz hf => ?_) h1, fun n v r' D σ H d hp hG ok hw => ?_⟩
  · refine ⟨fun pins s σ H D2 I ⟨n, v, c', D, hn, ec, hd, sb, eD, ⟨G, S⟩, q⟩ => ?_⟩
    subst ec eD
    exact (hs a oe pn c' d n v hn ⟨hz, hf, hd⟩).ps.run pins s σ H _ I ⟨G, S, wp_mono (wp_noexc (E' := ErB (J.sn a oe pn c')) q) (fun b hb => flP_sn sb (hfl b) hb) fun _ _ z => z⟩
  · unfold pickN at hp
    by_cases hn : n ∈ ns
    · rw [if_pos hn] at hp
      cases hp
      obtain ⟨G, S⟩ := hG
      refine ⟨true, yes n hn, fun _ a ha => ?_, (fun z => by cases z)⟩
      cases v with
      | none => exact ⟨n, none, J.c, D, hn, rfl, ok.2, ⟨rfl, rfl, Ex.refl _, Ex.refl _⟩, rfl, ⟨G, S.setrw⟩, hw⟩
      | some j =>
        obtain ⟨dx, f, e1, e2, e3⟩ := ok.2
        obtain ⟨c', s1, s2, s3⟩ := S.keep nf e3
        exact ⟨n, some j, c', D, hn, rfl, ⟨dx, f, e1, e2, s2⟩, s1, rfl, ⟨G, s3.setrw⟩, hw⟩
    · rw [if_neg hn] at hp
      exact ⟨false, no n v hn (by rw [hp]; rfl), (fun z => by cases z), fun _ => h2 n v r' D σ H d hp hG ok hw⟩
end
section
variable {J : Jd} {Γ Γ1 : List Sl} {body orelse : List Stmt} {g0 : ExceptHandler} {hds : List ExceptHandler} {pos : Pos} {α β : Type} {out : β → Fl}
theorem BS.tryN {m : R α} {k : α → R β} {G1 : α → List Sl} {cl : List (List Nat × (Nat → Option Int → R β))} (hb : ∀ (W : WX) (pn : List (Addr × Obj)) (xe : Value → Shared → Prop) (tk : Takes (J.X.tr pn xe) W) (po : PassesOwn (model J.X.prog J.X.w) J.X.A J.X.env xe), BD (J.tr Γ1 W pn xe tk po) Γ body m (fun a => .nx (G1 a)))
    (hcl : ClN J Γ1 (g0 :: hds) cl out) (ho : ∀ a, BD J (G1 a) orelse (k a) out) (hs : J.X.stack = J.X.env :: J.X.outer := by rfl) (hf : J.X.env.frame = some J.X.env.locals := by rfl) : BS J Γ (.Try body (g0 :: hds) orelse [] pos) (tryN m k (pickN cl)) out := by
  obtain ⟨l, h1, h2⟩ := hcl
  have ho' : PSs J.X orelse (fun D σ H => ∃ a, tBD J (G1 a) (k a) out D σ H) := ⟨fun pins s σ H D I ⟨a, q⟩ => (ho a).ps.run pins s σ H D I q⟩
  refine ⟨ps_wk (ps_tryN (tb := fun W D σ H => ∃ G, SatG J.K J.c Γ G σ H ∧ m.wp (fun a => FlP J D (.nx (G1 a))) (fun n a => ∀ σ H cls d, (∃ G, SatG J.K J.c Γ1 G σ H) → ExOk J.T n a cls d H → W cls d σ H)) ho' hs hf J.tk (fun W pn xe tk po => (hb W pn xe tk po).ps) h1) fun D σ H ⟨G, S, q⟩ => ⟨G, S, ?_⟩⟩
  cases m with
  | ok a => exact fun G' σ' H' S' => ⟨a, G', S', q⟩
  | stuck => exact q
  | exc n i =>
    intro σ' H' cls d hG ok
    have e1 := ok.1
    subst e1
    have q' : (match pickN cl n i with
      | some r => r.noexc
      | none => .stuck : R β).wp (fun b => FlP J D (out b)) (ErB J) := q
    cases hp : pickN cl n i with
    | none => rw [hp] at q'; exact q'.elim
    | some r => rw [hp] at q'; exact h2 n i r D σ' H' d hp hG ok q'
end
/-! ### 29. what a suite asks of its exception -/
section
open PySem.W PySem.Calls
open Builtin Builtin.ObjectAttr
variable {prog : Program} {w : World} {A : Around} {E : Value → Shared → Prop} {s : Shared} {K : Frag} {x C : Addr} {ox : Obj} {od : Option Obj}
theorem find_data {name : Str} {a g : Value} (hc : (clsIn K C).isSome = true) (ha : findIn K (.ref C) name = some (some a)) (hg : specialIn K a "__get__" = some (some g)) (ht : takesIn K a = some true) : findObj K C od name = some (.bind g a) := by
  obtain ⟨cd, e⟩ := Option.isSome_iff_exists.mp hc
  unfold findObj
  rw [e, Option.bind_some, ha, Option.bind_some]
  simp [hg, ht]
theorem kin_cls {Q : Option Value → Shared → Prop} (T : ExcC K C) (Y : K.In s.heap) (I : InstAt s.heap x ox C od) (h : Q (some (.ref C)) { s with toks := s.toks + 1 }) : wpAny (model prog w) A (getAttr? (.ref x) "__class__") Q E s := by
  have hf : findObj K C od "__class__" = some (.bind (.builtin "getset_descriptor.__get__") (.builtin "object.__class__")) := find_data (by obtain ⟨cd, e, _⟩ := any_some T.hd; rw [e]; rfl) T.ha T.hn T.ht
  obtain ⟨hp, g, d, t, os⟩ := s
  have q0 := I.type (M := model prog w)
  have q1 := looks_findIn (M := model prog w) Y T.hg
  have q2 := looks_findIn (M := model prog w) Y T.hk
  have q3 := looks_find (M := model prog w) Y I hf
  have sb : Looks (model prog w) hp (isInstance (.ref x) (.type "BaseException")) true := q0.andThen (looks_subIn Y T.hs)
  have y2 : (Value.builtin "BaseException.__getattribute__" == Value.builtin "object.__getattribute__") = false := by decide +kernel
  have y1 : (onTheHeap (Value.ref C) && Value.builtin "BaseException.__getattribute__" == Value.builtin "object.__getattribute__") = false := by rw [y2]; rfl
  unfold getAttr? getAttrBy? getAttrBy
  refine wpAny_bind (wpAny_mkText (wpAny_bind (wpAny_attempt (wpAny_holding (wpAny_bind (q0.at (wpAny_bind (q1.at ?_))))))))
  show wpAny _ _ (if (onTheHeap (Value.ref C) && Value.builtin "BaseException.__getattribute__" == Value.builtin "object.__getattribute__") = true then _ else _) _ _ _
  rw [y1, if_neg Bool.false_ne_true]
  unfold getAttrByItsOwn hookBefore
  refine wpAny_bind ?_
  rw [if_pos (show onTheHeap (Value.ref C) = true from rfl)]
  refine q2.at (wpAny_bind (wpAny_attempt (wpAny_holding ?_)))
  unfold callGetattribute
  rw [show (false && onTheHeap (Value.builtin "BaseException.__getattribute__")) = false from rfl, if_neg Bool.false_ne_true]
  unfold boundAndCalled
  rw [PySem.F.excAttr_ValueError.ga.bind (.ref x)]
  refine wpAny_bind (wpAny_pure ?_)
  show wpAny _ _ (call (.builtin "BaseException.__getattribute__") [.ref x, .str "__class__" t]) _ _ _
  refine wpAny_call (codeAny_call_builtin PySem.F.excAttr_ValueError.ga.plain PySem.F.entry_bexc_ga (@check_slot (model prog w) _ _ ⟨hp, g, d, t + 1, os⟩ "BaseException.__getattribute__" "BaseException" "__getattribute__" (.ref x) [.str "__class__" t] [] _ (by decide +kernel) (by decide +kernel) sb (PySem.F.args_bexc_ga (.ref x) (.str "__class__" t)) ?_))
  unfold Builtin.«object.__getattribute__»
  refine wpAny_bind (wpAny_of_eq (a := ((Value.ref x : Value), [Value.str "__class__" t])) (by first | rfl | (simp only [slotArgs]; rfl)) ?_)
  refine wpAny_bind (wpAny_pure (wpAny_bind (q0.at (wpAny_bind (q3.at ?_)))))
  show wpAny _ _ (holding [Value.builtin "object.__class__"] (call (.builtin "getset_descriptor.__get__") [.builtin "object.__class__", .ref x, .ref C]) >>= ret) _ _ _
  refine wpAny_bind (wpAny_holding (wpAny_call (class_get (s := ⟨hp, g, d, t + 1, os⟩) (ox := ox) (od := od) Y I T.hm (wpAny_pure ?_))))
  show wpAny _ _ (handedOut (.ref C)) _ _ _
  rw [handedOut_of (v := .ref C) rfl]
  first | exact wpAny_pure (wpAny_pure h) | exact wpAny_pure h | exact wpAny_pure (wpAny_bind (wpAny_pure (wpAny_pure h)))
theorem kitx_excD (T : ExcC K C) : KitX K (.ref x) (.ref C) (fun h => InstAt h x ox C od) where
  ty := fun _ _ _ I => I.type
  it := fun _ _ Y _ => by
    obtain ⟨cd, e, _⟩ := any_some T.hd
    unfold clsIn at e
    split at e
    · rename_i c' d' cd' sl' ho
      intro A' Q' E' s' k q
      unfold isType loadHead
      exact wpAny_bind (wpAny_loadPart (k _ _ (Y _ _ ho)) (wpAny_pure q))
    · cases e
  ne := fun h tp dd its n sl Y htp => by
    obtain ⟨cd, e, _⟩ := any_some T.hd
    refine Bool.eq_false_iff.mpr fun q => ?_
    obtain rfl : C = tp := Value.ref.inj (beq_iff_eq.mp q)
    unfold clsIn at e
    split at e
    · rename_i c' d' cd' sl' ho
      cases (Y _ _ ho).symm.trans htp
    · cases e
  ca := fun Y I k => kin_cls T Y I k
end
def Kq (c' : Bs) (v : Option Int) (H : Hp) : Prop := match v with
  | none => True
  | some i => ∀ dx f, Kp c' dx (.xd [(f, .int i)]) → H dx = some (.xd [(f, .int i)])
theorem SatG.rw {K : PySem.W.Frag} {c : Bs} {Γ : List Sl} {G H : Hp} {σ : L2.St} {i : Nat} {v : V} (S : SatG K c Γ G σ H) (hG : Γ[i]? = some (.rw v)) : σ[i]? = some (some v) := by
  obtain ⟨fs, h1, _⟩ := S.sl
  obtain ⟨o, f, e1, e2, e3, e4⟩ := h1.get hG
  rw [e1, e4]
section
variable {J : Jd} {Γ : List Sl} {G H : Hp} {σ : L2.St} {a : Addr} {oe : Obj} {pn pins : List (Addr × Obj)} {c' : Bs} {s : Shared} {d : Option Addr} {n : Nat} {v : Option Int}
/-- the exception as an instance -/
theorem exc_inst (X : ExH J c' oe d n v) (I : Inv (J.X.suite a ((a, oe) :: pn)) pins σ H s) (hk : Kq c' v H) : ∃ od, PySem.W.InstAt s.heap a oe (J.T.cls n) od := by
  obtain ⟨hget, _⟩ := I.pin (a, oe) (List.mem_append_left _ List.mem_cons_self)
  obtain ⟨vs, hv⟩ := X.fs
  obtain ⟨hz1, hz2⟩ := X.z
  have hd := X.d
  have nc : PySem.W.notCls oe = true := by unfold PySem.W.notCls; rw [hv] <;> rfl
  cases v with
  | none =>
    have hd : d = none := hd
    refine ⟨none, ⟨hget, hz1, nc, ?_⟩⟩
    rw [hz2, hd]
    trivial
  | some i =>
    obtain ⟨dx, f, e1, e2, e3⟩ := hd
    have hx : ObjOk _ _ H s.heap dx (.xd [(f, .int i)]) := I.hok dx _ (hk dx f e3)
    obtain ⟨mA, hns, hr⟩ := hx
    obtain ⟨od, ho, hl⟩ := lookIn_ns hns
    refine ⟨some od, ⟨hget, hz1, nc, ?_⟩⟩
    rw [hz2, e1]
    exact ho
end
def rIsX (K : PySem.W.Frag) (C a : Addr) (P : Hp → Prop) : List V → Hp → VK → Prop := fun xs H Q => ∃ (c : V) (u : Value) (b : Bool), xs = [.ref a, c] ∧ ClsV c u ∧ P H ∧ PySem.W.kitOne K (.ref C) u = some b ∧ Q (.bl b) H
def rIsXT (K : PySem.W.Frag) (C a : Addr) (P : Hp → Prop) : List V → Hp → VK → Prop := fun xs H Q => ∃ (tp : Addr) (cs : List V) (us : List Value) (b : Bool), xs = [.ref a, .ref tp] ∧ H tp = some (.tup cs) ∧ Paired ClsV cs us ∧ P H ∧ PySem.W.kitAny K (.ref C) us = some b ∧ Q (.bl b) H
section
variable {J : Jd} {Γ : List Sl} {a : Addr} {oe : Obj} {pn : List (Addr × Obj)} {c' : Bs} {d : Option Addr} {n : Nat} {v : Option Int} {P : Hp → Prop}
theorem call_isX (X : ExH J c' oe d n v) (T : ExcC J.K (J.T.cls n)) (hP : ∀ H, P H → Kq c' v H) : CallR (J.X.suite a ((a, oe) :: pn)) (.builtin "isinstance") (rIsX J.K (J.T.cls n) a P) := by
  intro pins s σ H xs us Q I r h
  obtain ⟨c, u, b, rfl, k, p, e, q⟩ := h
  obtain ⟨u1, u2, rfl, r1, r2⟩ := vals2 r
  obtain rfl := k.eq r2
  obtain rfl : u1 = Value.ref a := r1
  obtain ⟨od, Y⟩ := exc_inst X I (hP H p)
  exact PySem.W.kia_one (kitx_excD T) I.kIn Y e (fun z => nomatch z) fun tk => ⟨.bl b, H, I.tok tk, rfl, q⟩
theorem call_isXT (X : ExH J c' oe d n v) (T : ExcC J.K (J.T.cls n)) (hP : ∀ H, P H → Kq c' v H) : CallR (J.X.suite a ((a, oe) :: pn)) (.builtin "isinstance") (rIsXT J.K (J.T.cls n) a P) := by
  intro pins s σ H xs us Q I r h
  obtain ⟨tp, cs, ws, b, rfl, hT, k, p, e, q⟩ := h
  obtain ⟨u1, u2, rfl, r1, r2⟩ := vals2 r
  obtain rfl : u1 = Value.ref a := r1
  cases (show u2 = Value.ref tp from r2)
  obtain ⟨od, Y⟩ := exc_inst X I (hP H p)
  obtain ⟨_, its, rv, o, h1, h2, m, h3⟩ := (show ObjOk _ _ H s.heap tp (.tup cs) from I.hok tp _ hT)
  obtain rfl := ClsV.all k rv
  obtain ⟨oc, od2, dt, sl⟩ := o
  simp only at h2 h3
  subst h2 h3
  exact PySem.W.kia_tup (kitx_excD T) I.kIn Y h1 e (fun z => nomatch z) fun tk => ⟨.bl b, H, I.tok tk, rfl, q⟩
end
section
variable {J : Jd} {Γ : List Sl} {a : Addr} {oe : Obj} {pn : List (Addr × Obj)} {c' : Bs} {d : Option Addr} {n i : Nat} {v : Option Int} {e x : Str} {p p2 p3 p4 pos : Pos} {b : Bool} {C : Addr}
theorem kq_of {K : PySem.W.Frag} {G H : Hp} {σ : L2.St} (S : SatG K c' Γ G σ H) : Kq c' v H := by
  cases v with
  | none => trivial
  | some i => exact fun dx f k => S.kp k
/-- isinstance(e, C), C an own class -/
theorem ES.isE (X : ExH J c' oe d n v) (T : ExcC J.K (J.T.cls n)) (hG : Γ[i]? = some (.rw (.ref a))) (hN : J.X.N[i]? = some e) (hm : J.X.mg "isinstance" = none) (hC : J.X.mg x = some (.ref C)) (hk : PySem.W.kitOne J.K (.ref (J.T.cls n)) (.ref C) = some b)
    (hv : Vis J.X.env.scope e := by first | exact Or.inl rfl | exact Or.inr (Or.inl rfl) | exact Or.inr (Or.inr rfl)) (hde : (e == ("__debug__" : Str)) = false := by decide) (hce : (e == ("__classdict__" : Str)) = false := by decide) (hg : Gl J.X "isinstance" := by rfl) (hgx : Gl J.X x := by rfl) (hdx : (x == ("__debug__" : Str)) = false := by decide)
    (h1 : starEach (.Name e p2 :: [.Name x p3]) J.X.env = (false, eval (.Name e p2) J.X.env) :: starEach [.Name x p3] J.X.env := by rfl) (h2 : starEach (.Name x p3 :: []) J.X.env = (false, eval (.Name x p3) J.X.env) :: starEach [] J.X.env := by rfl) (hpl : (backTo pos (starEach [.Name x p3] J.X.env)).any (·.1) = false := by rfl) :
    ES (J.sn a oe pn c') Γ (.Call (.Name "isinstance" p) [.Name e p2, .Name x p3] [] pos) (.ok b) :=
  ⟨pe_wk (pe_callB (X := J.X.suite a ((a, oe) :: pn)) (call_isX (P := Kq c' v) X T fun _ h => h) hg hm (by decide +kernel) (pa_cons (pe_var (i := i) hN hv hde hce) (pa_cons (pe_glob (v := .ref C) hgx hC rfl hdx) pa_nil h2) h1) (he := h1) (hpl := hpl)) fun σ H Q ⟨G, S, w⟩ =>
    ⟨.ref a, S.rw hG, .ref C, .ref C, b, rfl, .own C, kq_of S, hk, w _ G H (Gr.refl S.gh) .bl⟩⟩
/-- .. a built-in class -/
theorem ES.isEB {nm : String} (X : ExH J c' oe d n v) (T : ExcC J.K (J.T.cls n)) (hG : Γ[i]? = some (.rw (.ref a))) (hN : J.X.N[i]? = some e) (hm : J.X.mg "isinstance" = none) (hC : J.X.mg x = none) (hk : PySem.W.kitOne J.K (.ref (J.T.cls n)) (.type nm) = some b) (hbx : bootBuiltins x = some (.type nm) := by decide +kernel) (hnx : x ≠ "__name__" := by decide)
    (hv : Vis J.X.env.scope e := by first | exact Or.inl rfl | exact Or.inr (Or.inl rfl) | exact Or.inr (Or.inr rfl)) (hde : (e == ("__debug__" : Str)) = false := by decide) (hce : (e == ("__classdict__" : Str)) = false := by decide) (hg : Gl J.X "isinstance" := by rfl) (hgx : Gl J.X x := by rfl) (hdx : (x == ("__debug__" : Str)) = false := by decide)
    (h1 : starEach (.Name e p2 :: [.Name x p3]) J.X.env = (false, eval (.Name e p2) J.X.env) :: starEach [.Name x p3] J.X.env := by rfl) (h2 : starEach (.Name x p3 :: []) J.X.env = (false, eval (.Name x p3) J.X.env) :: starEach [] J.X.env := by rfl) (hpl : (backTo pos (starEach [.Name x p3] J.X.env)).any (·.1) = false := by rfl) :
    ES (J.sn a oe pn c') Γ (.Call (.Name "isinstance" p) [.Name e p2, .Name x p3] [] pos) (.ok b) :=
  ⟨pe_wk (pe_callB (X := J.X.suite a ((a, oe) :: pn)) (call_isX (P := Kq c' v) X T fun _ h => h) hg hm (by decide +kernel) (pa_cons (pe_var (i := i) hN hv hde hce) (pa_cons (pe_bltn (v := .ty nm) (u := .type nm) hgx hC hbx rfl hnx hdx) pa_nil h2) h1) (he := h1) (hpl := hpl)) fun σ H Q ⟨G, S, w⟩ =>
    ⟨.ref a, S.rw hG, .ty nm, .type nm, b, rfl, .ty nm, kq_of S, hk, w _ G H (Gr.refl S.gh) .bl⟩⟩
/-- names of own classes -/
structure PaC (Y : Cx) (es : List Expr) (cs : List V) (us : List Value) : Prop where
  pa : PA Y es (fun _ H Q => Q cs H)
  pr : Paired ClsV cs us
  ln : cs.length = es.length
theorem PaC.nil {Y : Cx} : PaC Y [] [] [] := ⟨pa_nil, .nil, rfl⟩
theorem PaC.cons {Y : Cx} {es : List Expr} {cs : List V} {us : List Value} (hC : Y.mg x = some (.ref C)) (r : PaC Y es cs us) (hgx : Gl Y x := by rfl) (hdx : (x == ("__debug__" : Str)) = false := by decide) (h2 : starEach (.Name x p3 :: es) Y.env = (false, eval (.Name x p3) Y.env) :: starEach es Y.env := by rfl) : PaC Y (.Name x p3 :: es) (.ref C :: cs) (.ref C :: us) :=
  ⟨pa_cons (pe_glob (v := .ref C) hgx hC rfl hdx) r.pa h2, .cons (.own C) r.pr, by rw [List.length_cons, List.length_cons, r.ln]⟩
/-- isinstance(e, (C1, C2, ..)) -/
theorem ES.isET {es : List Expr} {cs : List V} {us : List Value} {k1} (X : ExH J c' oe d n v) (T : ExcC J.K (J.T.cls n)) (hG : Γ[i]? = some (.rw (.ref a))) (hN : J.X.N[i]? = some e) (hm : J.X.mg "isinstance" = none) (hC : PaC (J.X.suite a ((a, oe) :: pn)) es cs us) (hk : PySem.W.kitAny J.K (.ref (J.T.cls n)) us = some b) (hl : es.length ≤ 1000 := by exact Nat.le_of_ble_eq_true rfl)
    (hv : Vis J.X.env.scope e := by first | exact Or.inl rfl | exact Or.inr (Or.inl rfl) | exact Or.inr (Or.inr rfl)) (hde : (e == ("__debug__" : Str)) = false := by decide) (hce : (e == ("__classdict__" : Str)) = false := by decide) (hg : Gl J.X "isinstance" := by rfl)
    (h1 : starEach (.Name e p2 :: [.Tuple es k1 p3]) J.X.env = (false, eval (.Name e p2) J.X.env) :: starEach [.Tuple es k1 p3] J.X.env := by rfl) (h2 : starEach (.Tuple es k1 p3 :: []) J.X.env = (false, eval (.Tuple es k1 p3) J.X.env) :: starEach [] J.X.env := by rfl) (hpl : (backTo pos (starEach [.Tuple es k1 p3] J.X.env)).any (·.1) = false := by rfl) :
    ES (J.sn a oe pn c') Γ (.Call (.Name "isinstance" p) [.Name e p2, .Tuple es k1 p3] [] pos) (.ok b) :=
  ⟨pe_wk (pe_callB (X := J.X.suite a ((a, oe) :: pn)) (call_isXT (P := Kq c' v) X T fun _ h => h) hg hm (by decide +kernel) (pa_cons (pe_var (i := i) hN hv hde hce) (pa_cons (pe_tup hC.pa) pa_nil h2) h1) (he := h1) (hpl := hpl)) fun σ H Q ⟨G, S, w⟩ =>
    ⟨.ref a, S.rw hG, sz1000 (by rw [hC.ln]; exact hl), fun q hq => ⟨q, cs, us, b, rfl, upd_same, hC.pr, kq_of (S.gr (Gr.loose (o := .tup cs) S.gh hq)), hk, w _ G _ (Gr.loose S.gh hq) .bl⟩⟩⟩
def payM (v : Option Int) : R Int := match v with
  | some i => .ok i
  | none => .stuck
/-- e.f -/
theorem ES.xf {f : Str} {g : Bool} (X : ExH J c' oe d n v) (T : ExcC J.K (J.T.cls n)) (hG : Γ[i]? = some (.rw (.ref a))) (hN : J.X.N[i]? = some e) (hf : g = true → J.T.fld n = some f ∧ PySem.W.findIn J.K (.ref (J.T.cls n)) f = some none)
    (hv : Vis J.X.env.scope e := by first | exact Or.inl rfl | exact Or.inr (Or.inl rfl) | exact Or.inr (Or.inr rfl)) (hde : (e == ("__debug__" : Str)) = false := by decide) (hce : (e == ("__classdict__" : Str)) = false := by decide)
    (hb : attributeBase (.Name e p2) f J.X.env (eval (.Name e p2) J.X.env) = eval (.Name e p2) J.X.env := by rfl) : ES (J.sn a oe pn c') Γ (.Attribute (.Name e p2) f pos) (if g = true then payM v else .stuck) := by
  cases g with
  | false => exact ⟨⟨fun pins s σ H Q I ⟨G, S, w⟩ => w.elim⟩⟩
  | true =>
    obtain ⟨h1, h2⟩ := hf rfl
    cases v with
    | none => exact ⟨⟨fun pins s σ H Q I ⟨G, S, w⟩ => w.elim⟩⟩
    | some k =>
      refine ⟨pe_wk (pe_xf (X := J.X) ⟨T.hg, T.hk, T.hs, T.hd⟩ h2 X.z X.fs (pe_var (X := J.X.suite a ((a, oe) :: pn)) (i := i) hN hv hde hce) hb) fun σ H Q ⟨G, S, w⟩ => ?_⟩
      obtain ⟨dx, f', e1, e2, e3⟩ := X.d
      rw [h1] at e2
      cases e2
      exact ⟨.ref a, S.rw hG, rfl, rfl, dx, [(f, .int k)], .int k, e1, S.kp e3, by simp [List.lookup], w _ G H (Gr.refl S.gh) .int⟩
end
theorem kany_nil {K : PySem.W.Frag} {t : Value} : PySem.W.kitAny K t [] = some false := rfl
theorem kany_cons {K : PySem.W.Frag} {t c : Value} {us : List Value} {b r : Bool} (h : PySem.W.kitOne K t c = some b) (hr : PySem.W.kitAny K t us = some r) : PySem.W.kitAny K t (c :: us) = some (b || r) := by
  unfold PySem.W.kitAny
  rw [h]
  cases b with
  | true => rfl
  | false => exact hr
theorem kone_own {K : PySem.W.Frag} {S D : Addr} {b : Bool} (h2 : PySem.W.isClsIn K D = true) (h3 : PySem.W.typeIn K (.ref D) = some (.type "type")) (h5 : PySem.W.subIn K (.ref D) (.ref D) = some true) (h4 : PySem.W.subIn K (.ref S) (.ref D) = some b) : PySem.W.kitOne K (.ref S) (.ref D) = some b := by
  have a2 : ((PySem.W.clsIn K D).isSome && PySem.W.typeIn K (.ref D) == some (.type "type")) = true := by
    have h2' : (PySem.W.clsIn K D).isSome = true := h2
    rw [h2', h3]; rfl
  show (if (Value.ref S == Value.ref D) = true then some true else if ((PySem.W.clsIn K D).isSome && PySem.W.typeIn K (.ref D) == some (.type "type")) = true then PySem.W.subIn K (.ref S) (.ref D) else none) = some b
  by_cases e : S = D
  · subst e
    rw [if_pos (beq_self_eq_true _), ← h4, h5]
  · rw [if_neg (fun z => e (Value.ref.inj (beq_iff_eq.mp z))), if_pos a2]
    exact h4
theorem kone_ty {K : PySem.W.Frag} {S : Addr} {nm : String} {b : Bool} (hm : PySem.W.kitMeta nm = true) (h4 : PySem.W.subIn K (.ref S) (.type nm) = some b) : PySem.W.kitOne K (.ref S) (.type nm) = some b := by
  show (if (Value.ref S == Value.type nm) = true then some true else if PySem.W.kitMeta nm = true then PySem.W.subIn K (.ref S) (.type nm) else none) = some b
  rw [if_neg (fun z => by cases beq_iff_eq.mp z), if_pos hm]
  exact h4
def inN : List Nat → Nat → Bool
  | [], _ => false
  | x :: xs, n => Nat.beq x n || inN xs n
/-! ### 30. the items of a tuple -/
section
variable {J : Jd} {Γ : List Sl} {e tg : Expr} {α β : Type} [Enc α] [Enc β]
theorem itok_tup {K : PySem.W.Frag} {G1 : Hp} {p : Addr} {vs : List V} {xs : List α} (h : SqT K G1 p vs) (r : RpA K G1 vs (xs.map enc)) : ItOk K (Itt K p) G1 xs := by
  have hl : vs.length = xs.length := by rw [r.length, List.length_map]
  refine ⟨fun i H e hi => ⟨vs, vs[i]'(by omega), Evl.ex_t e h, by simp⟩, fun H e => ⟨vs, Evl.ex_t e h, by omega⟩, fun i H x H' a e y ha G eg egh => ?_⟩
  obtain ⟨rfl, hy⟩ := y
  have hx := hy vs (Evl.ex_t e h)
  obtain ⟨d, hd, rd⟩ := r.getV hx
  rw [List.getElem?_map, ha] at hd
  cases hd
  exact ⟨G, Gr.refl egh, rd.ex eg⟩
theorem IT.tupV {m : R α} (h : ES J Γ e m) (f : α → List β) (hf : ∀ t, enc t = .tuple ((f t).map enc) := by intro _; rfl) : IT J Γ tg e (m.bind fun t => .ok (f t)) := ⟨pi_wk (pi_tup h.pe) fun σ H Q ⟨G, S, w⟩ => ⟨G, S, wp_mono (wp_bind.mp w) (fun t k v G' H' g r => by
  rw [hf] at r
  obtain ⟨p, vs, rfl, hs, hr⟩ := r.untup
  exact ⟨p, rfl, ⟨vs, Evl.ex_t g.gh hs⟩, k _ G' H' g (itok_tup hs hr)⟩) fun _ _ z => z⟩⟩
end
/-! ### 31. a def that is handed the exception -/
theorem mark_same {A : Around} {a : Addr} (h : A.handled = some (.ref a)) : A.mark (some (.ref a)) = A := by
  obtain ⟨hd, _, _, _, _⟩ := A
  have e : hd = some (.ref a) := h
  subst e
  rfl
/-- what a def promises that is handed an exception of the n-th class -/
def FnE (P : Program) (w : World) (K : PySem.W.Frag) (mg : Str → Option Value) (base : Heap) (T : CT) (k : Nat) (f : Addr) (fd : FuncData) (ps : List Str) (nn : List Nat) {ρ : Type} [Enc ρ] (fM : Nat → Option Int → R ρ) : Prop :=
  ∀ (A : Around) (outer : List Env) (s : Shared) (B H : Hp) (args : Args) (us : List Value) (Q : VK) (E : XK) (a : Addr) (oe : Obj) (d : Option Addr) (n : Nat) (v : Option Int), n ∈ nn → L2H.RoomH k A → A.handled = some (.ref a) → L2H.PinOk outer H s (a, oe) → Ex B H → Zc (.ref (T.cls n)) d oe → (∃ vs, oe.data = .fields vs) →
    (match v with | none => d = none | some i => ∃ dx f, d = some dx ∧ T.fld n = some f ∧ H dx = some (.xd [(f, .int i)])) → Env0 P w K mg base A outer s H → BindsTo s fd args (ps.zip us) → Vals [.ref a] us →
    (fM n v).wp (fun r => ∀ u G' H', Gr B H G' H' → Rp K G' u (enc r) → Q u H') (fun _ _ => False) → codeAny (model P w) A (.call (.ref f) args) (CR (L2.CX P w) outer P w H s Q E) s
section
variable {P : Program} {w : World} {K : PySem.W.Frag} {mg : Str → Option Value} {base : Heap}
theorem sls_none {K : PySem.W.Frag} {G H : Hp} : ∀ n : Nat, SlsAt K G H (List.replicate n .no) (List.replicate n none) (List.replicate n [])
  | 0 => .nil
  | n + 1 => .cons rfl (sls_none n)
theorem fn_E {x qual : Str} {st : Stmt} {f : Addr} {fd : FuncData} {N ps : List Str} {k : Nat} {T : CT} {nn : List Nat} {ρ : Type} [Enc ρ] {fM : Nat → Option Int → R ρ} (F : Fun K x qual st f fd) (S : FnScope N ps (defScope st)) (hl : ps.length = 1)
    (body : ∀ (cdv : Value) (A : Around) (outer : List Env) (s : Shared) (H B : Hp) (a : Addr) (oe : Obj) (d : Option Addr) (n : Nat) (v : Option Int), n ∈ nn → L2H.RoomH k (A.deeper (envOfC qual (defScope st) s.heap.objs.size f cdv)) →
      ExH (dj P w K mg base T N qual (defScope st) f cdv A outer s H (fun _ _ _ => False) B) ⟨B, H, [], B⟩ oe d n v →
      BD ((dj P w K mg base T N qual (defScope st) f cdv A outer s H (fun _ _ _ => False) B).sn a oe [] ⟨B, H, [], B⟩) (.rw (.ref a) :: List.replicate (N.length - 1) .no) (defBody st) (fM n v) (fun r => .rt (enc r))) :
    FnE P w K mg base T (k + 1) f fd ps nn fM := by
  intro A outer s B H args us Q E a oe d n v hn room hot pin eB hz hfs hdx e0 bnd rel q
  obtain ⟨oc, od, kV, doc, pm, an, cdv, ct, osl, rfl, lk, hcd⟩ := F.ex
  have inK : K.In s.heap := e0.mod.kin.keeps fun b o z => (e0.bs b o z).1
  have noL : s.heap.NoLimit := e0.mod.nolimit.keeps fun b o z => (e0.bs b o z).1
  have kinds : ∀ y ∈ ps.zip us, (defScope st).names.lookup y.1 = some .local ∨ ((defScope st).names.lookup y.1 = some .cell ∧ ((cellsFrom (s.heap.objs.size + 1) (defScope st).names []).lookup y.1).isSome = true) := by
    rintro ⟨m, z⟩ hy
    exact (S.par m (List.of_mem_zip hy).1).imp id fun c => ⟨c, PySem.W.cellsFrom_some _ _ _ (.inl c)⟩
  have N1 : N = N.take 1 ++ N.drop 1 := (List.take_append_drop 1 N).symm
  have Nl : 1 ≤ N.length := by have := congrArg List.length S.pre; rw [List.length_take] at this; omega
  refine codeAny_call_function room.depth (inK _ _ lk) rfl S.co S.gen rfl (PySem.W.codeRec_of inK hcd) (bnd _ _ _ _ ?_)
  refine wpAny_newFunctionEnv_cells S.kind kinds fun env0 he0 s1 X0 => ?_
  subst he0
  refine ⟨noL.keeps X0.toInCall.keep, codeAny_func ?_⟩
  have b0 := (body cdv A outer s H B a oe d n v hn (room.deeper _) ⟨hz, hfs, by
    cases v with
    | none => exact hdx
    | some i => obtain ⟨dx, g, z1, z2, z3⟩ := hdx; exact ⟨dx, g, z1, z2, .inl ⟨z3, by simp⟩⟩⟩).ps
  have hot2 : (A.deeper (envOfC qual (defScope st) s.heap.objs.size f cdv)).mark (some (.ref a)) = A.deeper (envOfC qual (defScope st) s.heap.objs.size f cdv) := mark_same hot
  have same : ((cxOf (L2.CX P w) P w K mg base N qual (defScope st) f cdv A outer s H (fun _ _ _ => False)).suite a [(a, oe)]) = (L2H.cxH (L2.CX P w) P w K mg base N qual (defScope st) f cdv A outer s H E (a, oe)).nox := by
    show ({ (cxOf (L2.CX P w) P w K mg base N qual (defScope st) f cdv A outer s H (fun _ _ _ => False)) with A := (A.deeper (envOfC qual (defScope st) s.heap.objs.size f cdv)).mark (some (.ref a)), calm := false, pn := [(a, oe)], xe := fun _ _ => False } : Cx) = _
    rw [hot2]
    rfl
  have b1 : PSs (L2H.cxH (L2.CX P w) P w K mg base N qual (defScope st) f cdv A outer s H E (a, oe)).nox (defBody st) (tBD ((dj P w K mg base T N qual (defScope st) f cdv A outer s H (fun _ _ _ => False) B).sn a oe [] ⟨B, H, [], B⟩) (.rw (.ref a) :: List.replicate (N.length - 1) .no) (fM n v) (fun r => .rt (enc r))) := by
    rw [← same]
    exact b0
  have I0 : Inv (L2H.cxH (L2.CX P w) P w K mg base N qual (defScope st) f cdv A outer s H E (a, oe)) [] (L2.start N [.ref a]) H s1 := L2H.inv_startH S pin e0 hl.symm rel X0
  have st0 : SatG K ⟨B, H, [], B⟩ (.rw (.ref a) :: List.replicate (N.length - 1) .no) B (L2.start N [.ref a]) H := by
    refine ⟨Ex.refl _, eB, fun b o z _ => z, fun b o z => ⟨o, z⟩, fun b o _ _ z => z, Ex.refl _, [] :: List.replicate (N.length - 1) [], ?_, by simp, fun p hp => by simp at hp⟩
    exact .cons ⟨rfl, rfl⟩ (sls_none _)
  refine wpAny_mono (b1.nox.run [] s1 (L2.start N [.ref a]) H { nx := fun _ H' => Q .non H', rt := Q } I0 ⟨B, st0, wp_mono q (fun r z => fun u G H' ed rv => z u G H' (ed_gr ed rfl) rv) (fun _ _ z => z.elim)⟩) (fun fl s' hs => ?_) fun _ _ z => z
  have done : ∀ {σ' : L2.St} {H' : Hp} {y : V} {u : Value}, Inv (L2H.cxH (L2.CX P w) P w K mg base N qual (defScope st) f cdv A outer s H E (a, oe)) [] σ' H' s' → RelV y u → Q y H' → CE outer P w H s Q u s' := fun {σ' H' y u} I1 r1 q1 => ⟨y, H', I1.os, I1.bare, I1.base, I1.hok, r1, q1⟩
  cases fl with
  | ret u => obtain ⟨y, σ', H', I1, r1, q1⟩ := hs; exact done I1 r1 q1
  | next => obtain ⟨σ', H', I1, q1⟩ := hs; exact done (y := V.non) (u := Value.none) I1 rfl q1
  | brk => obtain ⟨_, _, _, q1⟩ := hs; exact q1.elim
  | cont => obtain ⟨_, _, _, q1⟩ := hs; exact q1.elim
end
section
variable {J : Jd} {Γ : List Sl} {a : Addr} {oe : Obj} {pn : List (Addr × Obj)} {c' : Bs} {d : Option Addr} {n i k : Nat} {v : Option Int} {e x : Str} {p p2 pos : Pos} {f : Addr} {fd : FuncData} {ps : List Str} {nn : List Nat} {ρ : Type} [Enc ρ] {fM : Nat → Option Int → R ρ}
theorem ES.callE (X : ExH J c' oe d n v) (F : FnE J.X.prog J.X.w J.X.K J.X.mg J.X.base J.T k f fd ps nn fM) (hn : n ∈ nn) (hr : Room k J.X.A) (hl : ps.length = 1) (hb : Binds J.X.K fd ps []) (hk : PySem.W.keepIn J.X.K (.ref f) = true) (hm : J.X.mg x = some (.ref f)) (hG : Γ[i]? = some (.rw (.ref a))) (hN : J.X.N[i]? = some e)
    (hv : Vis J.X.env.scope e := by first | exact Or.inl rfl | exact Or.inr (Or.inl rfl) | exact Or.inr (Or.inr rfl)) (hde : (e == ("__debug__" : Str)) = false := by decide) (hce : (e == ("__classdict__" : Str)) = false := by decide) (hg : Gl J.X x := by rfl) (hdb : (x == ("__debug__" : Str)) = false := by decide)
    (h1 : starEach (.Name e p2 :: []) J.X.env = (false, eval (.Name e p2) J.X.env) :: starEach [] J.X.env := by rfl) (hpl : (backTo pos (starEach [] J.X.env)).any (·.1) = false := by rfl) :
    ES (J.sn a oe pn c') Γ (.Call (.Name x p) [.Name e p2] [] pos) (fM n v).noexc := by
  refine ⟨⟨fun pins s σ H Q I ⟨G, S, q⟩ => ?_⟩⟩
  have I : Inv (J.X.suite a ((a, oe) :: pn)) pins σ H s := I
  have S : SatG J.K c' Γ G σ H := S
  refine wpAny_Call_Name_kw (ld_glob (X := J.X.suite a ((a, oe) :: pn)) I hg hm ?_ hdb)
  refine PySem.W.callWith_K (h₀ := J.X.base) I.ok.mod.kin hk (thn ((pa_cons (pe_var (X := J.X.suite a ((a, oe) :: pn)) (i := i) hN hv hde hce) pa_nil h1).run pos pins s σ H (fun vs H1 => vs = [.ref a] ∧ H1 = H) I ⟨.ref a, S.rw hG, rfl, rfl⟩) fun us s1 ⟨vs, H1, I1, r, q1, q2⟩ => ⟨I1.kIn, ?_⟩) h1 hpl
  subst q1 q2
  have ul : us.length = 1 := by rw [← r.length]; rfl
  have bb := hb s1 us I1.kIn (by rw [List.append_nil, ul, hl])
  rw [List.append_nil] at bb
  obtain ⟨g1, g2, g3, g4, g5⟩ := I1.pin (a, oe) (List.mem_append_left _ List.mem_cons_self)
  have pin : L2H.PinOk (J.X.suite a ((a, oe) :: pn)).stack H1 s1 (a, oe) := ⟨g1, g2, fun z => (List.mem_cons.mp (I1.stkSub a z)).elim g3 g4, g5⟩
  refine wpAny_call (codeAny_mono (F (J.X.suite a ((a, oe) :: pn)).A (J.X.suite a ((a, oe) :: pn)).stack s1 G H1 ⟨us, []⟩ us Q (fun _ _ _ => False) a oe d n v hn ⟨hr.dp, hr.un⟩ rfl pin S.gh X.z X.fs ?_ I1.env0 bb r ?_) fun fl s' hq => ?_)
  · have xd := X.d
    cases v with
    | none => exact xd
    | some j => obtain ⟨dx, g, z1, z2, z3⟩ := xd; exact ⟨dx, g, z1, z2, S.kp z3⟩
  · revert q
    cases hf : fM n v with
    | ok r => exact fun q u G' H' gr rp => q u G' H' gr rp
    | stuck => exact fun q => q.elim
    | exc m u => exact fun q => q.elim
  · cases fl with
    | error z =>
      obtain ⟨_, _, _, _, _, _, _, _, _, _, _, _, bad⟩ := hq
      exact bad.elim
    | ok fl =>
      cases fl with
      | ret u => exact I1.after hq
      | next => exact hq.elim
      | brk => exact hq.elim
      | cont => exact hq.elim
end
/-! ### 32. values of several kinds -/
structure Dy where
  d : D
  h : d.depth ≤ 8
instance : Enc Dy := ⟨Dy.d⟩
instance : EncDep Dy := ⟨8, Dy.h⟩
def up {α : Type} [Enc α] [EncDep α] (a : α) (h : dep α ≤ 8 := by decide) : Dy := ⟨enc a, Nat.le_trans (hdep a) h⟩
noncomputable def dnM {α : Type} [Enc α] (y : Dy) : R α := @dite _ (∃ a : α, enc a = y.d) (Classical.propDecidable _) (fun h => .ok (Classical.choose h)) (fun _ => .stuck)
theorem enc_inj {α : Type} [Enc α] [DecidableEq α] [EncEq α] {a b : α} (h : enc a = enc b) : a = b := by
  have e := EncEq.eqv a b
  rw [h, EncEq.eqv b b, decide_eq_true rfl] at e
  exact of_decide_eq_true e.symm
theorem dnM_up {α : Type} [Enc α] [DecidableEq α] [EncEq α] {y : Dy} {a : α} (h : enc a = y.d) : (dnM y : R α) = .ok a := by
  have hx : ∃ a : α, enc a = y.d := ⟨a, h⟩
  unfold dnM
  rw [dif_pos hx]
  congr 1
  exact enc_inj ((Classical.choose_spec hx).trans h.symm)
theorem dys_inj : ∀ {xs ys : List Dy}, xs.map Dy.d = ys.map Dy.d → xs = ys
  | [], [], _ => rfl
  | [], _ :: _, h => by cases h
  | _ :: _, [], h => by cases h
  | ⟨x, hx⟩ :: xs, ⟨y, hy⟩ :: ys, h => by
    rw [List.map_cons, List.map_cons] at h
    injection h with h1 h2
    dsimp only at h1
    subst h1
    rw [dys_inj h2]
theorem dnM_list {y : Dy} {xs : List Dy} (h : .list (xs.map Dy.d) = y.d) : (dnM y : R (List Dy)) = .ok xs := by
  have hx : ∃ a : List Dy, enc a = y.d := ⟨xs, h⟩
  unfold dnM
  rw [dif_pos hx]
  congr 1
  have e : enc (Classical.choose hx) = .list (xs.map Dy.d) := (Classical.choose_spec hx).trans h.symm
  injection e with e
  exact dys_inj e
section
variable {J : Jd} {Γ : List Sl} {a b c e : Expr} {pos p : Pos} {α β : Type} [Enc α] [Enc β]
theorem ES.up [EncDep α] {m : R α} (h : ES J Γ e m) (hd : dep α ≤ 8 := by decide) : ES J Γ e (m.bind fun a => .ok (M.up a hd)) := ⟨pe_wk h.pe fun σ H Q ⟨G, S, w⟩ => ⟨G, S, wp_mono (wp_bind.mp w) (fun _ k => k) fun _ _ x => x⟩⟩
theorem ES.dn {m : R Dy} (h : ES J Γ e m) : ES J Γ e (m.bind (dnM : Dy → R α)) := ⟨pe_wk h.pe fun σ H Q ⟨G, S, w⟩ => ⟨G, S, wp_mono (wp_bind.mp w) (fun y k => by
  unfold dnM at k
  by_cases hx : ∃ a : α, enc a = y.d
  · rw [dif_pos hx] at k
    exact fun v G' H' g r => k v G' H' g (by rw [Classical.choose_spec hx]; exact r)
  · rw [dif_neg hx] at k
    exact k.elim) fun _ _ x => x⟩⟩
theorem ES.eqY [EncDep α] [EncDep β] (hu : J.X.A.units + 64 < cLine) {m1 : R α} {m2 : R β} (ha : EV J Γ a m1) (hb : EV J Γ b m2) (hd : dep α ≤ 64 := by decide) (hd2 : dep β ≤ 64 := by decide) : ES J Γ (.Compare a [.Eq] [b] pos) (m1.bind fun x => m2.bind fun y => .ok (PyData.eqv (enc x) (enc y))) :=
  ⟨pe_wk (pe_cmpR (op_eqD hu) ha.pe hb.pe (nomark _)) (op2 (f := fun x y => .ok (PyData.eqv (enc x) (enc y))) (fun x y G H σ v u Q S r1 r2 w =>
    ⟨enc x, enc y, r1.dp, r2.dp, shaped_of hd r1, shaped_of hd2 r2, w (.bl (PyData.eqv (enc x) (enc y))) G H (Gr.refl S.gh) .bl⟩) i_id i_id)⟩
theorem ET.eqY [EncDep α] [EncDep β] (hu : J.X.A.units + 64 < cLine) {m1 : R α} {m2 : R β} (ha : EV J Γ a m1) (hb : EV J Γ b m2) (hd : dep α ≤ 64 := by decide) (hd2 : dep β ≤ 64 := by decide) : ET J Γ (.Compare a [.Eq] [b] pos) (m1.bind fun x => m2.bind fun y => .ok (PyData.eqv (enc x) (enc y))) :=
  ⟨pt_wk (pt_cmpR (op_eqD hu) ha.pe hb.pe (nomark _)) (op2B (f := fun x y => .ok (PyData.eqv (enc x) (enc y))) (fun x y G H σ v u Q S r1 r2 w =>
    ⟨enc x, enc y, r1.dp, r2.dp, shaped_of hd r1, shaped_of hd2 r2, w G H (Gr.refl S.gh)⟩) i_id i_id)⟩
theorem ES.neY [EncDep α] [EncDep β] (hu : J.X.A.units + 64 < cLine) {m1 : R α} {m2 : R β} (ha : EV J Γ a m1) (hb : EV J Γ b m2) (hd : dep α ≤ 64 := by decide) (hd2 : dep β ≤ 64 := by decide) : ES J Γ (.Compare a [.NotEq] [b] pos) (m1.bind fun x => m2.bind fun y => .ok (!PyData.eqv (enc x) (enc y))) :=
  ⟨pe_wk (pe_cmpR (op_neD hu) ha.pe hb.pe (nomark _)) (op2 (f := fun x y => .ok (!PyData.eqv (enc x) (enc y))) (fun x y G H σ v u Q S r1 r2 w =>
    ⟨enc x, enc y, r1.dp, r2.dp, shaped_of hd r1, shaped_of hd2 r2, w (.bl (!PyData.eqv (enc x) (enc y))) G H (Gr.refl S.gh) .bl⟩) i_id i_id)⟩
theorem ET.neY [EncDep α] [EncDep β] (hu : J.X.A.units + 64 < cLine) {m1 : R α} {m2 : R β} (ha : EV J Γ a m1) (hb : EV J Γ b m2) (hd : dep α ≤ 64 := by decide) (hd2 : dep β ≤ 64 := by decide) : ET J Γ (.Compare a [.NotEq] [b] pos) (m1.bind fun x => m2.bind fun y => .ok (!PyData.eqv (enc x) (enc y))) :=
  ⟨pt_wk (pt_cmpR (op_neD hu) ha.pe hb.pe (nomark _)) (op2B (f := fun x y => .ok (!PyData.eqv (enc x) (enc y))) (fun x y G H σ v u Q S r1 r2 w =>
    ⟨enc x, enc y, r1.dp, r2.dp, shaped_of hd r1, shaped_of hd2 r2, w G H (Gr.refl S.gh)⟩) i_id i_id)⟩
/-- len of a tuple -/
theorem ES.lenT {m : R α} (n : Nat) (h : ES J Γ a m) (hm : J.X.mg "len" = none) (hf : ∀ t : α, ∃ ds, enc t = .tuple ds ∧ ds.length = n := by intro _; exact ⟨_, rfl, rfl⟩) (hg : Gl J.X "len" := by rfl) (he : starEach [a] J.X.env = (false, eval a J.X.env) :: starEach [] J.X.env := by rfl) : ES J Γ (.Call (.Name "len" p) [a] [] pos) (m.bind fun _ => .ok (n : Int)) :=
  ⟨pe_wk (pe_callB call_len_seq hg hm PySem.boot_len (pa_cons h.pe pa_nil he) (he := he)) fun σ H Q ⟨G, S, w⟩ => ⟨G, S, wp_mono (wp_bind.mp w) (fun t k v G' H' g r => by
    obtain ⟨ds, e, hl⟩ := hf t
    rw [e] at r
    obtain ⟨q, vs, rfl, hs, hr⟩ := r.untup
    exact ⟨q, vs, rfl, .inr (Evl.ex_t g.gh hs), by
      rw [hr.length, hl]
      exact k _ G' H' g .int⟩) fun _ _ z => z⟩⟩
end
/-! ### 33. split, lists of values of several kinds, sets, ranges asked -/
noncomputable def splitM (t s : Tx) : R (List Tx) := @ite _ (t.length + 2 ≤ 16777216 ∧ s ≠ [] ∧ ∀ c ∈ s, c < 256) (Classical.propDecidable _) (.ok (TL.spl s 0 [] t)) .stuck
theorem spl_mem {S : Tx} : ∀ {t acc : Tx} {k : Nat} {p : Tx}, p ∈ TL.spl S k acc t → ∀ c ∈ p, c ∈ acc ∨ c ∈ t
  | [], acc, k, p, h, c, hc => by
    rw [TL.spl_nil, List.mem_singleton] at h
    subst h
    exact .inl hc
  | d :: t, acc, 0, p, h, c, hc => by
    cases hp : TL.pre S (d :: t) with
    | true =>
      rw [TL.spl_hit hp] at h
      rcases List.mem_cons.mp h with rfl | h
      · exact .inl hc
      · rcases spl_mem h c hc with z | z
        · cases z
        · exact .inr (List.mem_cons_of_mem _ z)
    | false =>
      rw [TL.spl_miss hp] at h
      rcases spl_mem h c hc with z | z
      · rcases List.mem_append.mp z with z | z
        · exact .inl z
        · rw [List.mem_singleton] at z
          rw [z]
          exact .inr List.mem_cons_self
      · exact .inr (List.mem_cons_of_mem _ z)
  | d :: t, acc, k + 1, p, h, c, hc => (spl_mem (t := t) (acc := acc) (k := k) h c hc).imp id (List.mem_cons_of_mem _)
theorem split_txs {t s : Tx} (h1 : s ≠ []) (h2 : ∀ c ∈ s, c < 256) : Txt.split (txs t) (txs s) = (TL.spl s 0 [] t).map txs := by
  refine TL.map_tl_inj ?_
  rw [map_tl_txs, TL.split_spl (txs t) (txs s) (by rw [tl_txs]; exact h1) (TL.kind_ok (by unfold txs; simpa using h2)), tl_txs, tl_txs]
section
variable {J : Jd} {Γ : List Sl} {a b c e : Expr} {pos p p2 q apos : Pos} {α β : Type} [Enc α] [Enc β]
theorem EF.split {m1 m2 : R Tx} (h1 : ES J Γ a m1) (h2 : ES J Γ b m2) (hs : starEach [b] J.X.env = [(false, eval b J.X.env)] := by rfl) (hbase : attributeBase a "split" J.X.env (eval a J.X.env) = eval a J.X.env := by rfl) (hline : (apos.endLine == pos.line) = true := by rfl) :
    EF J Γ (.Call (.Attribute a "split" apos) [b] [] pos) (m1.bind fun t => m2.bind fun s => splitM t s) :=
  ⟨pe_wk (pe_split h1.pe h2.pe hs hbase hline) fun σ H Q ⟨G, S, w⟩ => ⟨G, S, wp_mono (wp_bind.mp w) (fun t k v G1 H1 g1 r1 => by
    obtain ⟨rfl, ok1⟩ := rp_tx r1
    refine ⟨⟨_, rfl⟩, G1, S.gr g1, wp_mono (wp_bind.mp k) (fun s k2 u G2 H2 g2 r2 => ?_) fun _ _ z => z⟩
    obtain ⟨rfl, ok2⟩ := rp_tx r2
    unfold splitM at k2
    by_cases hz : t.length + 2 ≤ 16777216 ∧ s ≠ [] ∧ ∀ c ∈ s, c < 256
    · rw [if_pos hz] at k2
      refine ⟨txs t, txs s, rfl, rfl, ?_, ?_, fun l hl => ?_⟩
      · rw [txs_length]
        cases s with
        | nil => exact absurd rfl hz.2.1
        | cons x s => rfl
      · rw [txs_length]
        exact hz.1
      · rw [split_txs hz.2.1 hz.2.2]
        have g := g1.trans g2
        have eg := Gr.loose (o := .lst (((TL.spl s 0 [] t).map txs).map V.str)) g2.gh hl
        exact k2 l _ G2 _ (g.trans eg) (ex_none g.hh hl) (ex_none g.gh hl) upd_same (txs_rpA fun x hx c hc => (spl_mem hx c hc).elim (fun z => by cases z) (ok1 c))
    · rw [if_neg hz] at k2
      exact k2.elim) fun _ _ z => z⟩⟩
theorem map_up [EncDep α] (hd : dep α ≤ 8) (xs : List α) : (xs.map fun a => M.up a hd).map (enc (α := Dy)) = xs.map enc := by
  rw [List.map_map]
  rfl
theorem ES.upL [EncDep α] {m : R (List α)} (h : ES J Γ e m) (hd : dep α ≤ 8 := by decide) : ES J Γ e (m.bind fun xs => .ok (xs.map fun a => M.up a hd)) := ⟨pe_wk h.pe fun σ H Q ⟨G, S, w⟩ => ⟨G, S, wp_mono (wp_bind.mp w) (fun xs k v G' H' g r => k v G' H' g (by
  show Rp J.K G' v (.list ((xs.map fun a => M.up a hd).map enc))
  rw [map_up]
  exact r)) fun _ _ x => x⟩⟩
theorem EL.upL [EncDep α] {m : R (List α)} (h : EL J Γ e m) (hd : dep α ≤ 8 := by decide) : EL J Γ e (m.bind fun xs => .ok (xs.map fun a => M.up a hd)) := ⟨pe_wk h.pe fun σ H Q ⟨G, S, w⟩ => ⟨G, S, wp_mono (wp_bind.mp w) (fun xs k p vs G' H' g hs r => k p vs G' H' g hs (by
  rw [map_up]
  exact r)) fun _ _ x => x⟩⟩
theorem EF.upL [EncDep α] {m : R (List α)} (h : EF J Γ e m) (hd : dep α ≤ 8 := by decide) : EF J Γ e (m.bind fun xs => .ok (xs.map fun a => M.up a hd)) := ⟨pe_wk h.pe fun σ H Q ⟨G, S, w⟩ => ⟨G, S, wp_mono (wp_bind.mp w) (fun xs k p vs G' H' g n n' hp r => k p vs G' H' g n n' hp (by
  rw [map_up]
  exact r)) fun _ _ x => x⟩⟩
/-- x in range(lo, hi) -/
theorem ES.inR2 {m m1 m2 : R Int} (ha : ES J Γ a m) (h1 : ES J Γ b m1) (h2 : ES J Γ c m2) (hm : J.X.mg "range" = none) (hg : Gl J.X "range" := by rfl) (hk : behindInMarks .In (.Call (.Name "range" p) [b, c] [] p2) = false := by rfl)
    (he : starEach (b :: [c]) J.X.env = (false, eval b J.X.env) :: starEach [c] J.X.env := by rfl) (he2 : starEach (c :: []) J.X.env = (false, eval c J.X.env) :: starEach [] J.X.env := by rfl) (hpl : (backTo p2 (starEach [c] J.X.env)).any (·.1) = false := by rfl) :
    ES J Γ (.Compare a [.In] [.Call (.Name "range" p) [b, c] [] p2] pos) (m.bind fun x => m1.bind fun lo => m2.bind fun hi => .ok (decide (lo ≤ x ∧ x < hi))) :=
  ⟨pe_wk (pe_cmpR op_in_rng ha.pe (pe_callTy cr_range2 hg hm (by decide +kernel) (pa_cons h1.pe (pa_cons h2.pe pa_nil he2) he) (he := he) (hpl := hpl)) hk) fun σ H Q ⟨G, S, w⟩ => ⟨G, S, wp_mono (wp_bind.mp w) (fun x k v G1 H1 g1 r1 => ⟨G1, S.gr g1, wp_mono (wp_bind.mp k) (fun lo k2 v2 G2 H2 g2 r2 =>
    ⟨G2, S.gr (g1.trans g2), wp_mono (wp_bind.mp k2) (fun hi k3 v3 G3 H3 g3 r3 => by
      have e1 := Rp.unint r1
      have e2 := Rp.unint r2
      have e3 := Rp.unint r3
      subst e1 e2 e3
      refine ⟨lo, hi, rfl, fun l hl => ⟨x, l, lo, hi, rfl, rfl, upd_same, ?_⟩⟩
      exact k3 _ G3 _ ((g1.trans (g2.trans g3)).trans (Gr.loose g3.gh hl)) .bl) fun _ _ z => z⟩) fun _ _ z => z⟩) fun _ _ z => z⟩⟩
theorem cr_range1_ {X : Cx} : CallR X (.type "range") (fun vs H Q => ∃ j, vs = [V.int j] ∧ ∀ l, H l = none → Q (.ref l) (upd H l (.rng 0 j))) := by
  intro pins s σ H vs us Q I r h
  obtain ⟨j, rfl, k⟩ := h
  cases r with
  | cons rj rr =>
    cases rr
    obtain ⟨t, rfl⟩ := rj
    refine call_range_1 ⟨.ref s.heap.objs.size, upd H s.heap.objs.size (.rng 0 j), I.laid (t' := s.toks + 1 + 1) (fun b o e => Heap.get?_push_of_some _ e) (Nat.le_refl _) ?_, rfl, k _ (I.hok.fresh (Nat.le_refl _))⟩
    exact ⟨s.toks, t, s.toks + 1, Heap.get?_push_size _ rfl⟩
theorem ES.inR1 {m m2 : R Int} (ha : ES J Γ a m) (h2 : ES J Γ c m2) (hm : J.X.mg "range" = none) (hg : Gl J.X "range" := by rfl) (hk : behindInMarks .In (.Call (.Name "range" p) [c] [] p2) = false := by rfl)
    (he2 : starEach (c :: []) J.X.env = (false, eval c J.X.env) :: starEach [] J.X.env := by rfl) (hpl : (backTo p2 (starEach [] J.X.env)).any (·.1) = false := by rfl) :
    ES J Γ (.Compare a [.In] [.Call (.Name "range" p) [c] [] p2] pos) (m.bind fun x => m2.bind fun hi => .ok (decide (0 ≤ x ∧ x < hi))) :=
  ⟨pe_wk (pe_cmpR op_in_rng ha.pe (pe_callTy cr_range1_ hg hm (by decide +kernel) (pa_cons h2.pe pa_nil he2) (he := he2) (hpl := hpl)) hk) fun σ H Q ⟨G, S, w⟩ => ⟨G, S, wp_mono (wp_bind.mp w) (fun x k v G1 H1 g1 r1 => ⟨G1, S.gr g1, wp_mono (wp_bind.mp k) (fun hi k3 v3 G3 H3 g3 r3 => by
      have e1 := Rp.unint r1
      have e3 := Rp.unint r3
      subst e1 e3
      refine ⟨hi, rfl, fun l hl => ⟨x, l, 0, hi, rfl, rfl, upd_same, ?_⟩⟩
      exact k3 _ G3 _ ((g1.trans g3).trans (Gr.loose g3.gh hl)) .bl) fun _ _ z => z⟩) fun _ _ z => z⟩⟩
theorem op_nin_rng_ {X : Cx} : OpR X (compareOp .NotIn) (fun x y H Q => ∃ i l lo hi, x = V.int i ∧ y = V.ref l ∧ H l = some (.rng lo hi) ∧ Q (.bl (!decide (lo ≤ i ∧ i < hi))) H) := by
  intro pins s σ H x y v u Q I rx ry h
  obtain ⟨i, l, lo, hi, rfl, rfl, hl, k⟩ := h
  obtain ⟨t0, rfl⟩ := rx
  obtain rfl : u = Value.ref l := ry
  obtain ⟨t1, t2, t3, ho⟩ := I.hok l _ hl
  show wpAny _ _ (do return Value.bool (!(← contains (Value.ref l) (Value.int i t0)))) _ _ s
  refine wpAny_bind (wpAny_contains_slot (T := "range") ⟨_, ho, rfl⟩ F.slot_range_contains (call_meets F.slot_range_contains ⟨_, ho, rfl⟩ F.entry_range_contains (F.args_range_contains_2 _ _) (q_contains l lo hi i t1 t2 t3 t0)
    ⟨ho, wpAny_truthy_bool (wpAny_pure ⟨.bl _, H, I, rfl, by rw [place1]; exact k⟩)⟩))
theorem ES.ninR1 {m m2 : R Int} (ha : ES J Γ a m) (h2 : ES J Γ c m2) (hm : J.X.mg "range" = none) (hg : Gl J.X "range" := by rfl) (hk : behindInMarks .NotIn (.Call (.Name "range" p) [c] [] p2) = false := by rfl)
    (he2 : starEach (c :: []) J.X.env = (false, eval c J.X.env) :: starEach [] J.X.env := by rfl) (hpl : (backTo p2 (starEach [] J.X.env)).any (·.1) = false := by rfl) :
    ES J Γ (.Compare a [.NotIn] [.Call (.Name "range" p) [c] [] p2] pos) (m.bind fun x => m2.bind fun hi => .ok (!decide (0 ≤ x ∧ x < hi))) :=
  ⟨pe_wk (pe_cmpR op_nin_rng_ ha.pe (pe_callTy cr_range1_ hg hm (by decide +kernel) (pa_cons h2.pe pa_nil he2) (he := he2) (hpl := hpl)) hk) fun σ H Q ⟨G, S, w⟩ => ⟨G, S, wp_mono (wp_bind.mp w) (fun x k v G1 H1 g1 r1 => ⟨G1, S.gr g1, wp_mono (wp_bind.mp k) (fun hi k3 v3 G3 H3 g3 r3 => by
      have e1 := Rp.unint r1
      have e3 := Rp.unint r3
      subst e1 e3
      refine ⟨hi, rfl, fun l hl => ⟨x, l, 0, hi, rfl, rfl, upd_same, ?_⟩⟩
      exact k3 _ G3 _ ((g1.trans g3).trans (Gr.loose g3.gh hl)) .bl) fun _ _ z => z⟩) fun _ _ z => z⟩⟩
theorem ET.ninR1 {m m2 : R Int} (ha : ES J Γ a m) (h2 : ES J Γ c m2) (hm : J.X.mg "range" = none) (hg : Gl J.X "range" := by rfl) (hk : behindInMarks .NotIn (.Call (.Name "range" p) [c] [] p2) = false := by rfl)
    (he2 : starEach (c :: []) J.X.env = (false, eval c J.X.env) :: starEach [] J.X.env := by rfl) (hpl : (backTo p2 (starEach [] J.X.env)).any (·.1) = false := by rfl) :
    ET J Γ (.Compare a [.NotIn] [.Call (.Name "range" p) [c] [] p2] pos) (m.bind fun x => m2.bind fun hi => .ok (!decide (0 ≤ x ∧ x < hi))) :=
  ⟨pt_wk (pt_cmpR op_nin_rng_ ha.pe (pe_callTy cr_range1_ hg hm (by decide +kernel) (pa_cons h2.pe pa_nil he2) (he := he2) (hpl := hpl)) hk) fun σ H Q ⟨G, S, w⟩ => ⟨G, S, wp_mono (wp_bind.mp w) (fun x k v G1 H1 g1 r1 => ⟨G1, S.gr g1, wp_mono (wp_bind.mp k) (fun hi k3 v3 G3 H3 g3 r3 => by
      have e1 := Rp.unint r1
      have e3 := Rp.unint r3
      subst e1 e3
      refine ⟨hi, rfl, fun l hl => ⟨x, l, 0, hi, rfl, rfl, upd_same, _, rfl, ?_⟩⟩
      exact k3 G3 _ ((g1.trans g3).trans (Gr.loose g3.gh hl))) fun _ _ z => z⟩) fun _ _ z => z⟩⟩
end
/-! ### 34. the size of a set, great letters, None among several kinds -/
open PyProof.Rows in
def setI (xs : List Int) : List Int := firstMet (fun i => xs.getD i 0) xs.length
noncomputable def lenSetM (xs : List Int) : R Int := @ite _ (xs.length ≤ 4000) (Classical.propDecidable _) (.ok ((setI xs).length : Int)) .stuck
noncomputable def upperM (t : Tx) : R Tx := @ite _ (t.length ≤ 5592405 ∧ TxOk (TL.tl (Txt.upper (txs t)))) (Classical.propDecidable _) (.ok (TL.tl (Txt.upper (txs t)))) .stuck
def Dy.isN (y : Dy) : Bool := match y.d with
  | .none => true
  | _ => false
theorem isnY {y : Dy} {K : PySem.W.Frag} {H : Hp} {v : V} (r : Rp K H v y.d) : decide (v = .non) = y.isN := by
  unfold Dy.isN
  cases q : y.d with
  | none =>
    rw [q] at r
    have e := Rp.unnon r
    subst e
    rfl
  | _ =>
    rw [decide_eq_false_iff_not]
    intro e
    subst e
    have h2 : Dp K H .non y.d := r.dp
    rw [q] at h2
    cases h2
def intsOf (K : PySem.W.Frag) (ta : TE) : TE := fun σ H Q => ta σ H fun x H1 => ∃ (l : Addr) (ns : List Int), x = .ref l ∧ SqL K H1 l (ns.map V.int) ∧ ns.length ≤ 4000 ∧ Q (.int ((setI ns).length : Int)) H1
theorem vals_ints : ∀ {ns : List Int} {us : List Value}, Vals (ns.map V.int) us → PyProof.Rows.IntsAre us ns
  | [], _, r => by cases r; exact .nil
  | n :: ns, _, r => by
    cases r with
    | cons a b =>
      obtain ⟨k, rfl⟩ := a
      exact .cons n k (vals_ints b)
theorem setI_le (xs : List Int) : (setI xs).length ≤ xs.length := PyProof.Rows.firstMet_length_le _ _
theorem pe_lenSetD {X : Cx} {a : Expr} {ta : TE} {p p2 q pos : Pos} (hg : Gl X "len") (hm : X.mg "len" = none) (hg2 : Gl X "set") (hm2 : X.mg "set" = none) (ha : PE X a ta) (calm : X.calm = true := by rfl)
    (one : starEach [a] X.env = (false, eval a X.env) :: starEach [] X.env := by rfl) : PE X (.Call (.Name "len" p) [.Call (.Name "set" p2) [a] [] q] [] pos) (intsOf X.K ta) := by
  refine ⟨fun pins s σ H Q I w => Call_ (ld_blt I hg hm boot_len (PyProof.Rows.callWith_builtin1 (PyProof.Rows.args_cons ?_ rfl) rfl rfl))⟩
  refine Call_ (ld_blt I hg2 hm2 PyProof.Rows.boot_set (PyProof.Rows.callWith_type1 (PyProof.Rows.args_cons (thn (ha.run pins s σ H _ I w) fun v s1 ⟨x, H1, I1, rx, k⟩ => PyProof.Rows.args_nil ?_) one) one rfl))
  obtain ⟨l, ns, rfl, sq, small, k⟩ := k
  cases rx
  obtain ⟨its, rel, isl, _⟩ := I1.list sq
  have size : its.toArray.size = ns.length := by rw [List.size_toArray, ← rel.length, List.length_map]
  have le := setI_le ns
  refine call_set_list (I1.ok.hd calm) isl.isList (by simpa using vals_ints rel) (by rw [size]; unfold scanBound; omega) fun h' tk made keeps => PyProof.Rows.args_nil ?_
  rw [size] at made
  obtain ⟨o, es, ep, t, o1, o2, o3, _, _, _, o4, o5⟩ := made
  have o5 : es.size = (setI ns).length := o5
  have I2 : Inv X pins σ H1 { s1 with heap := h', toks := tk } := I1.kept fun b o z => keeps b o (Heap.lt_size z) z
  exact call_len_set o1 o2 o3 o4 (by rw [o5]; omega) ⟨.int ((setI ns).length : Int), H1, I2.tok _, ⟨_, by rw [o5]⟩, k⟩
section
variable {J : Jd} {Γ : List Sl} {a b c e : Expr} {pos p p2 q apos : Pos}
theorem ES.lenSet {m : R (List Int)} (h : EL J Γ a m) (hm : J.X.mg "len" = none) (hm2 : J.X.mg "set" = none) (hg : Gl J.X "len" := by rfl) (hg2 : Gl J.X "set" := by rfl) (hc : J.X.calm = true := by rfl) (he : starEach [a] J.X.env = (false, eval a J.X.env) :: starEach [] J.X.env := by rfl) :
    ES J Γ (.Call (.Name "len" p) [.Call (.Name "set" p2) [a] [] q] [] pos) (m.bind lenSetM) :=
  ⟨pe_wk (pe_lenSetD hg hm hg2 hm2 h.pe hc he) fun σ H Q ⟨G, S, w⟩ => ⟨G, S, wp_mono (wp_bind.mp w) (fun xs k l vs G' H' g sq r => by
    unfold lenSetM at k
    by_cases hz : xs.length ≤ 4000
    · rw [if_pos hz] at k
      have e := rpA_ints r
      subst e
      exact ⟨l, xs, rfl, sq, hz, k _ G' H' g .int⟩
    · rw [if_neg hz] at k
      exact k.elim) fun _ _ z => z⟩⟩
theorem ES.upper {m : R Tx} (h : ES J Γ a m) (hbase : attributeBase a "upper" J.X.env (eval a J.X.env) = eval a J.X.env := by rfl) (hline : (apos.endLine == pos.line) = true := by rfl) :
    ES J Γ (.Call (.Attribute a "upper" apos) [] [] pos) (m.bind upperM) :=
  ⟨pe_wk (pe_upper h.pe hbase hline) fun σ H Q ⟨G, S, w⟩ => ⟨G, S, wp_mono (wp_bind.mp w) (fun t k v G1 H1 g1 r1 => by
    obtain ⟨rfl, ok1⟩ := rp_tx r1
    unfold upperM at k
    by_cases hz : t.length ≤ 5592405 ∧ TxOk (TL.tl (Txt.upper (txs t)))
    · rw [if_pos hz] at k
      refine ⟨⟨_, rfl⟩, txs t, rfl, rfl, by rw [txs_length]; exact hz.1, ?_⟩
      have e := k (.str (txs (TL.tl (Txt.upper (txs t))))) G1 H1 g1 (Rp.tx hz.2)
      rw [txs_tl] at e
      exact e
    · rw [if_neg hz] at k
      exact k.elim) fun _ _ z => z⟩⟩
theorem ES.isNY {m : R Dy} {j : Nat} (h : EV J Γ a m) : ES J Γ (.Compare a [.Is] [.Constant .none j p] pos) (m.bind fun x => .ok x.isN) :=
  ⟨pe_wk (pe_cmpR op_isN h.pe pe_non (nomark _)) fun σ H Q ⟨G, S, w⟩ => ⟨G, S, wp_mono (wp_bind.mp w) (fun x k v G' H' g r => ⟨rfl, by rw [isnY r]; exact k _ G' H' g .bl⟩) fun _ _ z => z⟩⟩
theorem ET.isNY {m : R Dy} {j : Nat} (h : EV J Γ a m) : ET J Γ (.Compare a [.Is] [.Constant .none j p] pos) (m.bind fun x => .ok x.isN) :=
  ⟨pt_wk (pt_cmpR op_isN h.pe pe_non (nomark _)) fun σ H Q ⟨G, S, w⟩ => ⟨G, S, wp_mono (wp_bind.mp w) (fun x k v G' H' g r => ⟨rfl, _, rfl, by rw [isnY r]; exact k G' H' g⟩) fun _ _ z => z⟩⟩
/-- is None, of nothing else -/
theorem ET.isU {m : R Unit} {j : Nat} (h : EV J Γ a m) : ET J Γ (.Compare a [.Is] [.Constant .none j p] pos) (m.bind fun _ => .ok true) :=
  ⟨pt_wk (pt_cmpR op_isN h.pe pe_non (nomark _)) fun σ H Q ⟨G, S, w⟩ => ⟨G, S, wp_mono (wp_bind.mp w) (fun x k v G' H' g r => ⟨rfl, _, rfl, by
    have e := Rp.unnon r
    subst e
    exact k G' H' g⟩) fun _ _ z => z⟩⟩
theorem ES.isU {m : R Unit} {j : Nat} (h : EV J Γ a m) : ES J Γ (.Compare a [.Is] [.Constant .none j p] pos) (m.bind fun _ => .ok true) :=
  ⟨pe_wk (pe_cmpR op_isN h.pe pe_non (nomark _)) fun σ H Q ⟨G, S, w⟩ => ⟨G, S, wp_mono (wp_bind.mp w) (fun x k v G' H' g r => ⟨rfl, by
    have e := Rp.unnon r
    subst e
    exact k _ G' H' g .bl⟩) fun _ _ z => z⟩⟩
end
/-! ### 35. numbers as texts -/
noncomputable def strM (i : Int) : R Tx := @ite _ (0 ≤ i ∧ i < 1000000000) (Classical.propDecidable _) (.ok (TL.numL i.toNat)) .stuck
def intM (t : Tx) : R Int := match intText? (txs t) with
  | some n => if t.length ≤ 640 then .ok n else .stuck
  | none => .stuck
theorem txs_num {i : Int} (h : 0 ≤ i) : (Str.ofString (toString i) : Str) = txs (TL.numL i.toNat) := by
  have e := TL.tl_num i.toNat
  rw [Int.toNat_of_nonneg h] at e
  rw [← e, txs_tl]
theorem num_ok (n : Nat) : TxOk (TL.numL n) := fun c hc => by
  have := TL.numL_digits n c hc
  omega
theorem log_small {i : Int} (h : 0 ≤ i ∧ i < 1000000000) : i.natAbs.log2 < 1920 := by
  by_cases hz : i.natAbs = 0
  · rw [hz]; decide
  · have h1 : i.natAbs < 2 ^ 30 := by omega
    have := (Nat.log2_lt hz).mpr h1
    omega
section
variable {J : Jd} {Γ : List Sl} {a e : Expr} {pos p : Pos}
theorem ES.str1 {m : R Int} (h : ES J Γ a m) (hm : J.X.mg "str" = none) (hg : Gl J.X "str" := by rfl) (he : starEach (a :: []) J.X.env = (false, eval a J.X.env) :: starEach [] J.X.env := by rfl) : ES J Γ (.Call (.Name "str" p) [a] [] pos) (m.bind strM) :=
  ⟨pe_wk (pe_callTy call_str_int hg hm (by decide +kernel) (pa_cons h.pe pa_nil he) (he := he)) fun σ H Q ⟨G, S, w⟩ => ⟨G, S, wp_mono (wp_bind.mp w) (fun x k v G' H' g r => by
    have e := Rp.unint r
    subst e
    unfold strM at k
    by_cases hz : 0 ≤ x ∧ x < 1000000000
    · rw [if_pos hz] at k
      refine ⟨x, rfl, log_small hz, ?_⟩
      have e2 := k (.str (txs (TL.numL x.toNat))) G' H' g (Rp.tx (num_ok _))
      rw [← txs_num hz.1] at e2
      exact e2
    · rw [if_neg hz] at k
      exact k.elim) fun _ _ z => z⟩⟩
theorem ES.int1 {m : R Tx} (h : ES J Γ a m) (hm : J.X.mg "int" = none) (hg : Gl J.X "int" := by rfl) (he : starEach (a :: []) J.X.env = (false, eval a J.X.env) :: starEach [] J.X.env := by rfl) : ES J Γ (.Call (.Name "int" p) [a] [] pos) (m.bind intM) :=
  ⟨pe_wk (pe_callTy call_int_str hg hm (by decide +kernel) (pa_cons h.pe pa_nil he) (he := he)) fun σ H Q ⟨G, S, w⟩ => ⟨G, S, wp_mono (wp_bind.mp w) (fun t k v G' H' g r => by
    obtain ⟨rfl, ok1⟩ := rp_tx r
    unfold intM at k
    cases q : intText? (txs t) with
    | none => rw [q] at k; exact k.elim
    | some n =>
      rw [q] at k
      dsimp only at k
      by_cases hz : t.length ≤ 640
      · rw [if_pos hz] at k
        exact ⟨txs t, n, rfl, q, by rw [txs_length]; exact hz, k _ G' H' g .int⟩
      · rw [if_neg hz] at k
        exact k.elim) fun _ _ z => z⟩⟩
end
/-! ### 36. items of several kinds -/
structure Dz where
  d : D
  h : d.depth ≤ 4
instance : Enc Dz := ⟨Dz.d⟩
instance : EncDep Dz := ⟨4, Dz.h⟩
def upZ {α : Type} [Enc α] [EncDep α] (a : α) (h : dep α ≤ 4 := by decide) : Dz := ⟨enc a, Nat.le_trans (hdep a) h⟩
section
variable {J : Jd} {Γ : List Sl} {e : Expr} {α : Type} [Enc α]
theorem ES.upZ [EncDep α] {m : R α} (h : ES J Γ e m) (hd : dep α ≤ 4 := by decide) : ES J Γ e (m.bind fun a => .ok (M.upZ a hd)) := ⟨pe_wk h.pe fun σ H Q ⟨G, S, w⟩ => ⟨G, S, wp_mono (wp_bind.mp w) (fun _ k => k) fun _ _ x => x⟩⟩
theorem map_upZ [EncDep α] (hd : dep α ≤ 4) (xs : List α) : (xs.map fun a => upZ a hd).map (enc (α := Dz)) = xs.map enc := by
  rw [List.map_map]
  rfl
theorem ES.upLZ [EncDep α] {m : R (List α)} (h : ES J Γ e m) (hd : dep α ≤ 4 := by decide) : ES J Γ e (m.bind fun xs => .ok (xs.map fun a => M.upZ a hd)) := ⟨pe_wk h.pe fun σ H Q ⟨G, S, w⟩ => ⟨G, S, wp_mono (wp_bind.mp w) (fun xs k v G' H' g r => k v G' H' g (by
  show Rp J.K G' v (.list ((xs.map fun a => M.upZ a hd).map enc))
  rw [map_upZ]
  exact r)) fun _ _ x => x⟩⟩
theorem EL.upLZ [EncDep α] {m : R (List α)} (h : EL J Γ e m) (hd : dep α ≤ 4 := by decide) : EL J Γ e (m.bind fun xs => .ok (xs.map fun a => M.upZ a hd)) := ⟨pe_wk h.pe fun σ H Q ⟨G, S, w⟩ => ⟨G, S, wp_mono (wp_bind.mp w) (fun xs k p vs G' H' g hs r => k p vs G' H' g hs (by
  rw [map_upZ]
  exact r)) fun _ _ x => x⟩⟩
theorem EF.upLZ [EncDep α] {m : R (List α)} (h : EF J Γ e m) (hd : dep α ≤ 4 := by decide) : EF J Γ e (m.bind fun xs => .ok (xs.map fun a => M.upZ a hd)) := ⟨pe_wk h.pe fun σ H Q ⟨G, S, w⟩ => ⟨G, S, wp_mono (wp_bind.mp w) (fun xs k p vs G' H' g n n' hp r => k p vs G' H' g n n' hp (by
  rw [map_upZ]
  exact r)) fun _ _ x => x⟩⟩
end
/-! ### 37. an exception out of a list comprehension -/
theorem noted_elsewhere {M : Model} {A : Around} {E : Value → Shared → Prop} {s : Shared} {Z : Obj → Prop} {base : Heap} {env : Env} {outer : List Env} {L C e : Addr} {Q : Unit → Shared → Prop} (hZ : HandSPX.Steady Z) (hfr : A.frames = some (env :: outer)) (hf : env.frame = some L)
    (hfl : HandSPX.HeldZ base (env :: outer) e Z C s.heap) (hQ : ∀ h', HandSPX.HeldZ base (env :: outer) e Z L h' → s.heap.UpToSlots h' → Q () { s with heap := h' }) : wpAny M A (noteFrame (.ref e) env) Q E s := by
  by_cases hC : C = L
  · subst hC
    exact HandSPX.againZ hf hfl.2.2.2 (hQ s.heap hfl (Heap.UpToSlots.refl _))
  obtain ⟨hkb, hen, hl, oe, vs, T, oT, ts, he, hz, hd, h1, hnT, hTe, hT, hdT, h3⟩ := hfl
  unfold noteFrame
  simp only [hf]
  refine wpAny_bind (wpAny_field he hd h1 ?_)
  rw [if_pos (show (Value.ref T != Value.none) = true from by simp)]
  refine wpAny_bind (wpAny_field hT hdT h3 ?_)
  rw [if_neg (show ¬ ((rawInt C == rawInt L) = true) from fun z => hC (Int.ofNat.inj (by simpa [rawInt] using z)))]
  refine wpAny_bind (wpAny_setField hT hdT (Array.getElem?_eq_some_iff.mp h3).1 ?_)
  have other : ∀ b, b ≠ T → (s.heap.update T (Obj.mapFields (·.setIfInBounds 3 Value.none))).get? b = s.heap.get? b := fun b hb => Heap.get?_update_other _ _ (Ne.symm hb)
  have noRecord : ∀ b o, s.heap.get? b = some o → (∀ vs, o.data ≠ .fields vs) → b ≠ T := fun b o hb hnf q => by
    rw [q, hT] at hb; injection hb with hb; subst hb; exact hnf ts hdT
  refine HandSPX.wpAny_entryZ hZ hfr (hl.of_keeps fun b o hb hnf => ⟨o, (other b (noRecord b o hb hnf)).trans hb, rfl⟩) hf ((other e (Ne.symm hTe)).trans he)
    (fun b o hbo => (other b fun q => by rw [q, hnT] at hbo; cases hbo).trans (hkb b o hbo)) hen hd (Array.getElem?_eq_some_iff.mp h1).1 hz fun h' hN => ?_
  obtain ⟨x1, x2, x3, x4⟩ := hN
  exact hQ h' ⟨x1, hen, x2, x3⟩ fun b o hb hnf => x4 b o ((other b (noRecord b o hb hnf)).trans hb) hnf
theorem note_same (e : Value) {c env : Env} (h : c.frame = env.frame) : noteFrame e c = noteFrame e env := by
  unfold noteFrame PySem.frameOf
  rw [h]
/-- in the air of a block: noted by whomever -/
def XB (X : Cx) (W : WX) (u : Value) (s' : Shared) : Prop :=
  ∃ (a : Addr) (B : Heap) (sI : Shared) (pins : List (Addr × Obj)) (σ : L2.St) (H : Hp) (cls : Value) (d : Option Addr) (L : Addr),
    u = .ref a ∧ Inv X pins σ H sI ∧ (∀ b o, sI.heap.get? b = some o → b ∉ frs X.stack → B.get? b = some o) ∧ sI.heap.UpToSlots s'.heap ∧
      Sky B X.stack a (Zc cls d) L s'.heap ∧ H a = none ∧ s'.os = sI.os ∧ AllBare s'.gens ∧ W cls d σ H
abbrev Cx.blx (X : Cx) (s : Shared) (H : Hp) (scope : Scope) (cenv : Env) (fp : List Addr) (W : WX) : Cx := (X.blk s H scope cenv fp).wish (XB (X.blk s H scope cenv fp) W)
section
variable {X : Cx} {s : Shared} {H : Hp} {scope : Scope} {cenv : Env} {fp : List Addr} {W : WX}
theorem takes_blx : Takes (Cx.blx X s H scope cenv fp W) W := fun u s' ⟨a, B, sI, pins, σ, H', cls, d, e, I, nb, up, sky, na, os, ag, w⟩ => ⟨a, B, sI, pins, σ, H', cls, d, _, e, I.unwish, nb, up, sky, na, os, ag, w⟩
theorem XB.noted (hs : X.stack = X.env :: X.outer) (hf : X.env.frame = some X.env.locals) (hce : cenv.frame = X.env.frame) {u : Value} {s' : Shared} {Q : Shared → Prop} {E : Value → Shared → Prop} (x : XB (X.blk s H scope cenv fp) W u s')
    (h : ∀ a B sI pins σ H' cls d h1, u = .ref a → Inv (X.blk s H scope cenv fp) pins σ H' sI → (∀ b o, sI.heap.get? b = some o → b ∉ frs X.stack → B.get? b = some o) → sI.heap.UpToSlots h1 → HandSPX.HeldZ B (X.env :: X.outer) a (Zc cls d) X.env.locals h1 → H' a = none → s'.os = sI.os → AllBare s'.gens → W cls d σ H' → Q { s' with heap := h1 }) :
    wpAny (model X.prog X.w) X.A (noteFrame u cenv) (fun _ s'' => Q s'') E s' := by
  obtain ⟨a, B, sI, pins, σ, H', cls, d, L, rfl, I, nb, up, sky, na, os, ag, w⟩ := x
  have hfr : X.A.frames = some (X.env :: X.outer) := by rw [← hs]; exact I.ok.frames
  have sky : Sky B (X.env :: X.outer) a (Zc cls d) L s'.heap := by rw [← hs]; exact sky
  rw [note_same _ hce]
  have fin : ∀ h1, HandSPX.HeldZ B (X.env :: X.outer) a (Zc cls d) X.env.locals h1 → s'.heap.UpToSlots h1 → Q { s' with heap := h1 } := fun h1 hh up1 => h a B sI pins σ H' cls d h1 rfl I nb (up.trans up1) hh na os ag w
  rcases sky with ⟨hB, hn, hl, oe, vs, he, hz, hd, h1⟩ | fl | hd
  · exact HandSPX.look_newZ Zc.steady hfr hl hf he hB hn hd h1 hz fin
  · exact HandSPX.looks_onZ Zc.steady hfr hf fl fin
  · exact noted_elsewhere Zc.steady hfr hf hd fin
theorem po_blx (hs : X.stack = X.env :: X.outer) (hf : X.env.frame = some X.env.locals) (hce : cenv.frame = X.env.frame) : PassesOwn (model X.prog X.w) X.A cenv (XB (X.blk s H scope cenv fp) W) := fun e s' x =>
  XB.noted hs hf hce x fun a B sI pins σ H' cls d h1 ea I nb up hh na os ag w => by
    subst ea
    obtain ⟨b1, b0, f1, oe, vs, T, oT, ts, he, hz, hd, h1', r⟩ := id hh
    show wpAny _ _ _ _ _ _
    refine wpAny_bind (wpAny_field he hd h1' ?_)
    rw [if_neg (show ¬ ((Value.ref T == Value.none) = true) from by simp)]
    rw [hce, hf]
    refine HandSPX.setFlight_onZ (s := { s' with heap := h1 }) hh fun h2 hh2 up2 => ?_
    exact ⟨a, B, sI, pins, σ, H', cls, d, X.env.locals, rfl, I, nb, up.trans up2, by rw [show (X.blk s H scope cenv fp).stack = X.env :: X.outer from hs]; exact .inr (.inr hh2), na, os, ag, w⟩
/-- .. leaves the block -/
theorem XB.fails {pins : List (Addr × Obj)} {σ : L2.St} {Wo : WX} (hs : X.stack = X.env :: X.outer) (hf : X.env.frame = some X.env.locals) (hce : cenv.frame = X.env.frame) (cL : cenv.locals = s.heap.objs.size) (tk : Takes X Wo) (I3 : Inv X pins σ H s) (f3 : ∀ b ∈ fp, FpOk X pins H b ∧ b < s.heap.objs.size)
    (hW : ∀ cls d σ' H', W cls d σ' H' → Wo cls d σ H') {u : Value} {s' : Shared} (x : XB (X.blk s H scope cenv fp) W u s') : notedBy (model X.prog X.w) X.A cenv (fun e s' => CompFails (model X.prog X.w) X.A X.xe cenv e s') u s' :=
  XB.noted hs hf hce x fun a B sI pins' σ' H' cls d h1 ea I' nb up hh na os ag w => by
    subst ea
    obtain ⟨m, hn, _⟩ := I'.loc
    have hn : sI.heap.Ns cenv.locals m := hn
    have hn1 : h1.Ns cenv.locals m := up.ns hn
    refine ⟨m, hn1, fun h2 m2 hn2 sb => ?_⟩
    obtain ⟨b1, b0, f1, oe, vs, T, oT, ts, he, hz, hd, h1', hnT, hTe, hT, hdT, h3⟩ := id hh
    have keep : ∀ b o, b ≠ cenv.locals → h1.get? b = some o → h2.get? b = some o := fun b o hb e => (sb.2 b hb).trans e
    obtain ⟨oC, es, ep, hoC, hdC, -⟩ := id hn1
    have ne1 : ∀ b o vs, h1.get? b = some o → o.data = .fields vs → b ≠ cenv.locals := fun b o vs e q z => by
      rw [z, hoC] at e
      injection e with e
      rw [← e, hdC] at q
      cases q
    have hB' : ∀ b o, (PySem.W.hideAll B [cenv.locals]).get? b = some o → B.get? b = some o ∧ b ≠ cenv.locals := fun b o e => ⟨PySem.W.of_hideAll _ e, fun z => by
      rw [PySem.W.hideAll_none [cenv.locals] (by rw [z]; simp)] at e; cases e⟩
    have hBn : ∀ b, B.get? b = none → (PySem.W.hideAll B [cenv.locals]).get? b = none := fun b e => by
      cases q : (PySem.W.hideAll B [cenv.locals]).get? b with
      | none => rfl
      | some o => rw [(hB' b o q).1] at e; cases e
    have b2 : (PySem.W.hideAll B [cenv.locals]).StaysIn h2 := fun b o e => keep b o (hB' b o e).2 (b1 b o (hB' b o e).1)
    have f2 : h2.FunFrames (PySem.W.hideAll B [cenv.locals]) (X.env :: X.outer) := funFrames_none (Heap.FunFrames.sameBut sb hn2 f1) fun L hL => hBn L (f1.mem hL).1
    have t2 : HandSPX.TracedZ h2 (PySem.W.hideAll B [cenv.locals]) a (Zc cls d) (rawInt X.env.locals) := ⟨oe, vs, T, oT, ts, keep a oe (ne1 a oe vs he hd) he, hz, hd, h1', hBn T hnT, hTe, keep T oT (ne1 T oT ts hT hdT) hT, hdT, h3⟩
    unfold PySem.passOn
    refine wpAny_bind (wpAny_field (keep a oe (ne1 a oe vs he hd) he) hd h1' ?_)
    rw [if_neg (show ¬ ((Value.ref T == Value.none) = true) from by simp)]
    rw [hce, hf]
    refine wpAny_bind (HandSPX.setFlight_onZ (s := { s' with heap := h2 }) (L := X.env.locals) ⟨b2, hBn a b0, f2, t2⟩ fun h3 hh3 up3 => ?_)
    refine wpAny_throw ?_
    have I7 : Inv X pins σ H' sI := I3.call' (ch := fp) I'.os I'.base I'.hok I'.bare fun b hb => ⟨(f3 b hb).1.2.2.2.1, (f3 b hb).1.2.1, (f3 b hb).1.2.2.2.2.1, (f3 b hb).1.2.2.2.2.2⟩
    have nC : H' cenv.locals = none := I'.free
    obtain ⟨g0, g1, g2, g3, g4, g5⟩ := I3.fpOk (H' := H') (b := cenv.locals) (by rw [cL]; exact Nat.le_refl _) nC
    have I8 := I7.turned (t' := sI.toks) (it := cenv.locals) (h' := PySem.W.hideAll sI.heap [cenv.locals]) (fun b o hb e => PySem.W.hideAll_get _ e (by simpa using hb)) g0 g1 g3 g4 g5
    have hI' : ∀ b o, (PySem.W.hideAll sI.heap [cenv.locals]).get? b = some o → sI.heap.get? b = some o ∧ b ≠ cenv.locals := fun b o e => ⟨PySem.W.of_hideAll _ e, fun z => by
      rw [PySem.W.hideAll_none [cenv.locals] (by rw [z]; simp)] at e; cases e⟩
    refine tk _ _ ⟨a, PySem.W.hideAll B [cenv.locals], { sI with heap := PySem.W.hideAll sI.heap [cenv.locals], toks := sI.toks }, pins, σ, H', cls, d, rfl, I8, fun b o e hb => PySem.W.hideAll_get _ (nb b o (hI' b o e).1 hb) (by simpa using (hI' b o e).2), fun b o e hnf => ?_, by rw [hs]; exact .inr (.inr hh3), na, os, ag, hW _ _ _ _ w⟩
    obtain ⟨sl, q⟩ := up b o (hI' b o e).1 hnf
    obtain ⟨sl2, q2⟩ := up3 b _ (keep b _ (hI' b o e).2 q) hnf
    exact ⟨sl2, q2⟩
end

section
variable {X : Cx}
/-- [elt for target in iter], the element may let an exception out -/
def tLcX (wi : TI) (g : TG) (te : L2.St → TE) (vs : List Nat) : TE := fun σ H Q => wi σ H fun J H1 => ∀ D, H1 D = none → ∃ W : Nat → Nat → Hp → Prop, (∃ m, W 0 m (upd H1 D (.lst []))) ∧ ∀ i m H, W i m H →
  (J.stop i H ∧ Q (.ref D) H) ∨ (J.go i H ∧ ∃ Nx : Hp → Prop, (∀ H', Nx H' → ∃ m', m' < m ∧ W (i + 1) m' H') ∧ ∀ x H', J.yld i H x H' → g x (L2.wipe σ vs) H' fun σ2 H2 => L2.wipe σ2 vs = L2.wipe σ vs ∧
    te σ σ2 H2 fun y H4 => ∃ acc, H4 D = some (.lst acc) ∧ acc.length < sizeLine ∧ Nx (upd H4 D (.lst (acc ++ [y]))))
theorem lc_coreX {pins : List (Addr × Obj)} {s : Shared} {σ : L2.St} {H : Hp} {Q : VK} {elt tg iter : Expr} {scope : Scope} {own : List (Str × Nat)} {pos pos' : Pos} {wi : TI} {g : TG} {te : L2.St → TE} {use : Option (Value → Sem Unit)} {Qf : Value → Shared → Prop} {Wo : WX}
    (hs0 : X.stack = X.env :: X.outer) (hf0 : X.env.frame = some X.env.locals) (tk : Takes X Wo)
    (hc : X.calm = true) (hN : X.N.Nodup) (I : Inv X pins σ H s) (hi : PI X tg iter wi) (ok : BlkOk X.N X.env.scope scope own)
    (hg : ∀ (s : Shared) (H : Hp) (C : Addr) (cl : List (Str × Addr)) (fp : List Addr), PG (X.blk s H scope (compEnvC scope cl C X.env) fp) tg g)
    (he : ∀ (σ : L2.St) (s : Shared) (H : Hp) (C : Addr) (cl : List (Str × Addr)) (fp : List Addr), PE (Cx.blx X s H scope (compEnvC scope cl C X.env) fp (fun cls d _ H' => Wo cls d σ H')) elt (te σ)) (hs : ∀ x, foldedSetIterable iter X.env x = pure x)
    (h : tLcX wi g te (own.map (·.2)) σ H Q)
    (hRR : ∀ D cenv s' m H', Inv X pins σ H' s' → Q (.ref D) H' → s'.heap.Ns cenv.locals m → FpOk X pins H' cenv.locals → compEnds (model X.prog X.w) X.A X.xe use Qf (.ref D) cenv (.ok .next) s') :
    wpAny (model X.prog X.w) X.A (comprehension (.ListComp elt [⟨tg, iter, [], 0⟩] scope pos) scope X.env pos' (newList []) false (eval iter X.env) use) Qf X.xe s := by
  have hfree : ∀ y ∈ scope.names, y.2 = .free → ∃ c, X.env.cells.lookup y.1 = some c := fun y hy e => by
    rcases ok.free y hy e with k | k
    · exact I.ok.has _ (.inl k)
    · exact I.ok.has _ (.inr k)
  refine comprehension_at (use := use) rfl hs (closure_ok hfree) ok.kind (fun y hy e => by rw [ok.uniq y hy, e])
    (thn (hi.run pins s σ H _ I h) fun xv s1 hx => thn hx fun itv s2 h2 => ?_)
  obtain ⟨it, fp, tn, J, H2, e, I2, T, st2, f2, q⟩ := h2
  subst e
  refine wpAny_newObj_type (newEnv_comp ?_) (by show 0 ≤ sizeLine; decide)
  generalize hD : s2.heap.objs.size = D
  have hDn : H2 D = none := I2.hok.fresh (Nat.le_of_eq hD)
  obtain ⟨W, ⟨m0, w0⟩, turn⟩ := q D hDn
  generalize hs3 : ({ s2 with heap := s2.heap.push { cls := .type "list", data := .seq ([] : List Value).toArray } } : Shared) = s3
  have I3 : Inv X pins σ (upd H2 D (.lst [])) s3 := by
    rw [← hs3]
    refine I2.laid (t' := s2.toks) (fun b o e => Heap.get?_push_of_some _ e) (Nat.le_of_eq hD) ⟨Nat.zero_le _, [], 0, .nil, ?_⟩
    rw [← hD]
    exact Heap.get?_push_size _ rfl
  have h3 : s3.heap = s2.heap.push { cls := .type "list", data := .seq ([] : List Value).toArray } := by rw [← hs3]
  have sz : ∀ b ∈ fp, b < s2.heap.objs.size := fun b hb => by
    obtain ⟨o, e, _⟩ := T.obj _ _ st2 b hb
    exact Heap.lt_size e
  have f3 : ∀ b ∈ fp, FpOk X pins (upd H2 D (.lst [])) b ∧ b < s3.heap.objs.size := fun b hb => by
    have hlt := sz b hb
    refine ⟨⟨?_, (f2 b hb).2⟩, by rw [h3, Heap.size_push]; exact Nat.lt_succ_of_lt hlt⟩
    rw [upd_ne (by rw [← hD]; exact Nat.ne_of_lt hlt)]
    exact (f2 b hb).1
  have st3 : tn 0 s3.heap := T.keep _ _ _ st2 fun b _ o e => by rw [h3]; exact Heap.get?_push_of_some _ e
  have I4 := block_start I3 ok hN f3
  have pg := hg s3 (upd H2 D (.lst [])) s3.heap.objs.size (cellsFrom (s3.heap.objs.size + 1) scope.names (cloFrom X.env.cells scope.names [])) fp
  have pe := he σ s3 (upd H2 D (.lst [])) s3.heap.objs.size (cellsFrom (s3.heap.objs.size + 1) scope.names (cloFrom X.env.cells scope.names [])) fp
  show codeAny _ _ (.compStart (.ListComp elt [⟨tg, iter, [], 0⟩] scope pos) 0 (.ref it) (.ref D) (compEnvC scope (cellsFrom (s3.heap.objs.size + 1) scope.names (cloFrom X.env.cells scope.names [])) s3.heap.objs.size X.env)) (compEnds (model X.prog X.w) X.A X.xe use Qf (.ref D) (compEnvC scope (cellsFrom (s3.heap.objs.size + 1) scope.names (cloFrom X.env.cells scope.names [])) s3.heap.objs.size X.env)) { s3 with heap := pushCells (s3.heap.push { cls := .type "dict", data := .dict #[] }) scope.names }
  have nfp : ∀ b ∈ fp, (upd H2 D (.lst [])) b = none := fun b hb => (f3 b hb).1.1
  have hce0 : (compEnvC scope (cellsFrom (s3.heap.objs.size + 1) scope.names (cloFrom X.env.cells scope.names [])) s3.heap.objs.size X.env).frame = X.env.frame := rfl
  generalize hce : compEnvC scope (cellsFrom (s3.heap.objs.size + 1) scope.names (cloFrom X.env.cells scope.names [])) s3.heap.objs.size X.env = ce at I4 pg pe hce0 ⊢
  have cL : ce.locals = s3.heap.objs.size := by subst hce; rfl
  generalize hH3 : upd H2 D (.lst []) = H3 at I3 I4 pg pe w0 nfp f3
  generalize hs4 : ({ s3 with heap := pushCells (s3.heap.push { cls := .type "dict", data := .dict #[] }) scope.names } : Shared) = s4 at I4 ⊢
  have st4 : tn 0 s4.heap := T.keep _ _ _ st3 fun b _ o e => by rw [← hs4]; exact pushCells_keeps _ _ _ _ (Heap.get?_push_of_some _ e)
  have stat : ∀ {σ' : L2.St} {H' : Hp} {s' : Shared}, Inv (X.blk s3 H3 scope ce fp) [] σ' H' s' → (∀ b ∈ fp, H' b = none) → ∀ b ∈ fp, FpOk (X.blk s3 H3 scope ce fp) [] H' b := fun {σ' H' s'} I' hn b hb =>
    ⟨hn b hb, (I'.ok.exf b hb).1, I'.ok.exfs b hb, .inl hb, fun x c e => (I'.ok.exf b hb).2 x c e, fun p hp => absurd (show p ∈ ([] : List (Addr × Obj)) ++ [] from hp) (by simp)⟩
  have loop : codeAny (model X.prog X.w) X.A (.compLoop (.ListComp elt [⟨tg, iter, [], 0⟩] scope pos) 0 (.ref it) (.ref D) ce) (compEnds (model X.prog X.w) X.A X.xe use Qf (.ref D) ce) s4 := by
    refine compLoop_any (fun n s' => ∃ i H', Inv (X.blk s3 H3 scope ce fp) [] (L2.wipe σ (own.map (·.2))) H' s' ∧ tn i s'.heap ∧ (∀ b ∈ fp, H' b = none) ∧ W i n H') ?_ m0 ⟨0, H3, I4, st4, nfp, w0⟩
    rintro n s5 ⟨i, H5, I5, st5, n5, w5⟩
    rcases turn i n H5 w5 with ⟨stop, qq⟩ | ⟨go, Nx, hNx, step⟩
    · have td := T.done (X.blk s3 H3 scope ce fp) rfl rfl rfl hc i [] s5 _ H5 (fun _ _ => False) I5 (stat I5 n5) st5 stop
      refine thnF td fun r s6 ⟨hr, I6⟩ => ?_
      subst hr
      have I7 : Inv X pins σ H5 s6 := I3.call' (ch := fp) I6.os I6.base I6.hok I6.bare fun b hb => ⟨(f3 b hb).1.2.2.2.1, (f3 b hb).1.2.1, (f3 b hb).1.2.2.2.2.1, (f3 b hb).1.2.2.2.2.2⟩
      have nC : H5 ce.locals = none := I6.free
      obtain ⟨m, hn, _⟩ := I6.loc
      have hn : s6.heap.Ns ce.locals m := hn
      exact hRR D ce s6 m H5 I7 qq hn (I3.fpOk (by rw [cL]; exact Nat.le_refl _) nC)
    · have ti := T.item (X.blk s3 H3 scope ce fp) rfl rfl rfl hc i [] s5 _ H5 (fun _ _ => False) I5 (stat I5 n5) st5 go
      refine thnF ti fun r s6 ⟨u, hr, h6⟩ => ?_
      subst hr
      refine thnF h6 fun _ s7 ⟨x, H7, I7, r7, y7, st7, n7⟩ => ?_
      have I7' := I7.pinned (stat I7 n7) (T.obj _ _ st7)
      refine thnF (pg.run _ s7 _ H7 x u _ I7' r7 (step x H7 y7)) fun _ s8 ⟨σ8, H8, I8, hw8, q8⟩ => ?_
      have fin : ∀ {s' : Shared} {H' : Hp}, Inv (X.blk s3 H3 scope ce fp) ([] ++ pinsAt fp s7.heap) σ8 H' s' → Nx H' → ∃ m, m < n ∧ ∃ i H', Inv (X.blk s3 H3 scope ce fp) [] (L2.wipe σ (own.map (·.2))) H' s' ∧ tn i s'.heap ∧ (∀ b ∈ fp, H' b = none) ∧ W i m H' := fun {s' H'} I' nx => by
        obtain ⟨m', hm, w'⟩ := hNx H' nx
        have pin' : ∀ b ∈ fp, ∀ o, s7.heap.get? b = some o → s'.heap.get? b = some o ∧ H' b = none := fun b hb o e =>
          let z := I'.pin (b, o) (List.mem_append_right _ (List.mem_append_right _ (mem_pinsAt hb e)))
          ⟨z.1, z.2.1⟩
        have hl : (L2.wipe σ (own.map (·.2))).length = σ8.length := by rw [← hw8, wipe_length]
        refine ⟨m', hm, i + 1, H', (I'.unpinned (pins := [])).weak hl (fun j v e => ?_), T.keep _ _ _ st7 fun b hb o e => (pin' b hb o e).1, fun b hb => ?_, w'⟩
        · rw [← hw8] at e
          exact (wipe_some e).1
        · obtain ⟨o, e, _⟩ := T.obj _ _ st7 b hb
          exact (pin' b hb o e).2
      refine wpAny_tests_nil ?_
      rw [if_pos rfl]
      refine wpAny_mono (pe.run _ s8 σ8 H8 _ (I8.wish _) q8) (fun z s10 ⟨yv, H10, I10, r10, acc, hD10, hz10, nx⟩ => ?_) fun u s' x => XB.fails hs0 hf0 hce0 cL tk I3 f3 (fun _ _ _ _ z => z) x
      exact app_ok (X := X.blk s3 H3 scope ce fp) I10.unwish hD10 hz10 r10 fun s11 I11 => fin I11 nx
  exact codeAny_compStart_list loop (T.self X.A 0 _ _ _ st4 loop)
theorem pe_lcX {elt tg iter : Expr} {scope : Scope} {own : List (Str × Nat)} {pos : Pos} {wi : TI} {g : TG} {te : L2.St → TE} {Wo : WX} (hs0 : X.stack = X.env :: X.outer) (hf0 : X.env.frame = some X.env.locals) (tk : Takes X Wo) (hc : X.calm = true) (hN : X.N.Nodup) (hi : PI X tg iter wi) (ok : BlkOk X.N X.env.scope scope own)
    (hg : ∀ (s : Shared) (H : Hp) (C : Addr) (cl : List (Str × Addr)) (fp : List Addr), PG (X.blk s H scope (compEnvC scope cl C X.env) fp) tg g)
    (he : ∀ (σ : L2.St) (s : Shared) (H : Hp) (C : Addr) (cl : List (Str × Addr)) (fp : List Addr), PE (Cx.blx X s H scope (compEnvC scope cl C X.env) fp (fun cls d _ H' => Wo cls d σ H')) elt (te σ)) (hs : ∀ x, foldedSetIterable iter X.env x = pure x := by intro _; rfl) :
    PE X (.ListComp elt [⟨tg, iter, [], 0⟩] scope pos) (tLcX wi g te (own.map (·.2))) := by
  refine ⟨fun pins s σ H Q I h => ?_⟩
  rw [eval_ListComp]
  refine lc_coreX hs0 hf0 tk hc hN I hi ok hg he hs h fun D cenv s' m H' I' q hn f => ⟨m, hn, fun h'' sb => ?_⟩
  obtain ⟨f0, f1, f2, f3, f4, f5⟩ := f
  exact ⟨.ref D, H', I'.turned (t' := s'.toks) (fun b o hb e => (sb.2 b hb).trans e) f0 f1 f3 f4 f5, rfl, q⟩
theorem ps_setLcX {i : Nat} {y : Str} {py : Pos} {elt tg iter : Expr} {scope : Scope} {own : List (Str × Nat)} {pos spos : Pos} {wi : TI} {g : TG} {te : L2.St → TE} {Wo : WX} (hs0 : X.stack = X.env :: X.outer) (hf0 : X.env.frame = some X.env.locals) (tk : Takes X Wo) (hc : X.calm = true) (hN : X.N.Nodup) (hy : X.N[i]? = some y) (hyl : X.env.scope.names.lookup y = some .local)
    (hsw : swapsWith (.ListComp elt [⟨tg, iter, [], 0⟩] scope pos) (some (.Name y py)) spos.line X.env = pure true) (hi : PI X tg iter wi) (ok : BlkOk X.N X.env.scope scope own)
    (hg : ∀ (s : Shared) (H : Hp) (C : Addr) (cl : List (Str × Addr)) (fp : List Addr), PG (X.blk s H scope (compEnvC scope cl C X.env) fp) tg g)
    (he : ∀ (σ : L2.St) (s : Shared) (H : Hp) (C : Addr) (cl : List (Str × Addr)) (fp : List Addr), PE (Cx.blx X s H scope (compEnvC scope cl C X.env) fp (fun cls d _ H' => Wo cls d σ H')) elt (te σ)) (hs : ∀ x, foldedSetIterable iter X.env x = pure x := by intro _; rfl) :
    PS X (.Assign [.Name y py] (.ListComp elt [⟨tg, iter, [], 0⟩] scope pos) spos) (tAsg (tLcX wi g te (own.map (·.2))) (gName i)) := by
  refine ⟨fun pins s σ H D I h => ?_⟩
  rw [exec_Assign_Name_used _ _ _ _ hsw]
  refine wpAny_bind (wpAny_standAt (wpAny_bind ?_))
  show wpAny _ X.A (do let _ ← comprehension (.ListComp elt [⟨tg, iter, [], 0⟩] scope pos) scope X.env (firstIterPos [⟨tg, iter, [], 0⟩] pos) (newList []) false (eval iter X.env) (some (assign (.Name y py) X.env))) _ _ s
  have h : tLcX wi g te (own.map (·.2)) σ H (fun x H1 => gName i x σ H1 D.nx) := h
  refine wpAny_bind (thn (lc_coreX (Qf := fun _ s' => SP X pins D .next s') hs0 hf0 tk hc hN I hi ok hg he hs h fun L cenv s' m H' I' q hn f => ?_) fun _ s' hq => wpAny_pure (wpAny_pure hq))
  show wpAny _ _ (assign (.Name y py) X.env (.ref L)) _ _ _
  refine wpAny_assign_Name (store_ok2 (v := V.ref L) I' hN hy (.inl hyl) rfl (fun s2 I2 ⟨a, sb, ha⟩ => ?_) (.inr hyl))
  obtain ⟨f0, f1, f2, f3, f4, f5⟩ := f
  have haC : cenv.locals ≠ a := by
    rcases ha with z | z
    · rw [z]; exact f1
    · exact fun e => f4 y a z e.symm
  refine ⟨m, hn.sameBut sb haC, fun h3 sb3 => ?_⟩
  exact ⟨_, H', I2.turned (t' := s2.toks) (fun b o hb e => (sb3.2 b hb).trans e) f0 f1 f3 f4 f5, q⟩
end

def mpXGo {α β : Type} (f : α → R β) : List α → R (List β)
  | [] => .ok []
  | x :: xs => (f x).bind fun y => (mpXGo f xs).bind fun ys => .ok (y :: ys)
/-- [f x for x in xs], an exception goes on -/
noncomputable def mpX {α β : Type} (f : α → R β) (xs : List α) : R (List β) := @ite _ (xs.length < 16777216) (Classical.propDecidable _) (mpXGo f xs) .stuck
abbrev Jd.blx (J : Jd) (hs0 : J.X.stack = J.X.env :: J.X.outer) (hf0 : J.X.env.frame = some J.X.env.locals) (F : Hp) (σ0 : L2.St) (s : Shared) (H : Hp) (scope : Scope) (C : Addr) (cl : List (Str × Addr)) (fp : List Addr) : Jd :=
  ⟨Cx.blx J.X s H scope (compEnvC scope cl C J.X.env) fp (fun cls d _ H' => J.W cls d σ0 H'), { J.c with Fl := F }, fun cls d _ H' => J.W cls d σ0 H', takes_blx, fun _ _ => True, J.T, po_blx (X := J.X) hs0 hf0 rfl⟩
def NoAt (Γ : List Sl) : List Nat → Prop
  | [] => True
  | v :: vs => Γ.set v .no = Γ ∧ NoAt Γ vs
theorem SatG.refill {K : PySem.W.Frag} {c : Bs} {Γ : List Sl} {G H : Hp} {σ : L2.St} : ∀ (vs : List Nat) (τ : L2.St), (∀ i, i ∉ vs → τ[i]? = σ[i]?) → τ.length = σ.length → SatG K c Γ G τ H → NoAt Γ vs → SatG K c Γ G σ H
  | [], τ, h, hl, S, _ => by
    have e : τ = σ := List.ext_getElem? fun i => h i (by simp)
    rw [← e]
    exact S
  | v :: vs, τ, h, hl, S, ⟨h1, h2⟩ => by
    have S2 := S.setno (i := v) (o := (σ[v]?).getD none)
    rw [h1] at S2
    refine SatG.refill vs _ (fun i hi => ?_) (by rw [List.length_set]; exact hl) S2 h2
    rw [List.getElem?_set]
    by_cases hv : v = i
    · subst hv
      rw [if_pos rfl]
      by_cases hlt : v < τ.length
      · rw [if_pos hlt]
        have hlt2 : v < σ.length := by omega
        rw [List.getElem?_eq_getElem hlt2]
        rfl
      · rw [if_neg hlt, List.getElem?_eq_none (by omega)]
    · rw [if_neg hv]
      exact h i (by simp [hi, Ne.symm hv])
theorem SatG.unwipe {K : PySem.W.Frag} {c : Bs} {Γ : List Sl} {G H : Hp} {σ : L2.St} {vs : List Nat} (S : SatG K c Γ G (L2.wipe σ vs) H) (h : NoAt Γ vs) : SatG K c Γ G σ H :=
  SatG.refill vs _ (fun i hi => by rw [wipe_get, if_neg hi]) (wipe_length σ vs) S h
def tSx (K : PySem.W.Frag) (c : Bs) (T : CT) (W : WX) (σ0 : L2.St) (Γ : List Sl) {α : Type} [Enc α] (m : R α) : TE := fun σ H Q => ∃ G, SatG K c Γ G σ H ∧ m.wp (fun a => ∀ v G' H', Gr G H G' H' → Rp K G' v (enc a) → Q v H') (fun n a => ∀ G' H' cls d, SatG K c Γ G' σ H' → ExOk T n a cls d H' → W cls d σ0 H')
section
variable {J : Jd} {Γ : List Sl} {elt tg it : Expr} {scope : Scope} {pos : Pos} {α β : Type} [Enc α] [Enc β]
theorem lc_goX {mi : R (List α)} {g : TG} {js : List Nat} {up : List Sl → α → List Sl} {f : α → R β} (vs : List Nat) (ht : TgS J.K g js up) (hjs : ∀ j ∈ js, j ∈ vs) (hno : NoAt Γ vs) (hw : ∀ x, wipeG (up (wipeG Γ vs) x) vs = Γ) :
    ∀ σ H Q, tF J Γ (mi.bind fun xs => mpX f xs) σ H Q → tLcX (tI J Γ mi) g (fun σ0 σ H Q => ∃ F x, Ex J.c.Fl F ∧ tSx J.K { J.c with Fl := F } J.T J.W σ0 (up (wipeG Γ vs) x) (f x) σ H Q) vs σ H Q := by
  intro σ H Q ⟨G, S, q⟩
  refine ⟨G, S, wp_mono (wp_bind.mp q) (fun xs k I G1 H1 g1 ok => ?_) fun n a z => z⟩
  intro Dl hD
  unfold mpX at k
  by_cases hz : xs.length < 16777216
  · rw [if_pos hz] at k
    have S1 := S.gr g1
    have hD0 : H Dl = none := ex_none g1.hh hD
    have gD : G1 Dl = none := ex_none g1.gh hD
    refine ⟨fun i m H' => m = xs.length - i ∧ i ≤ xs.length ∧ ∃ (ys : List β) (G' : Hp) (acc : List V), Gr G1 H1 G' H' ∧ G' Dl = none ∧ H' Dl = some (.lst acc) ∧ RpA J.K G' acc (ys.map enc) ∧ ys.length ≤ i ∧
      (mpXGo f (xs.drop i)).wp (fun zs => ∀ (l : Addr) (vs : List V) (G' H' : Hp), Gr G H G' H' → H l = none → G' l = none → H' l = some (.lst vs) → RpA J.K G' vs ((ys ++ zs).map enc) → Q (.ref l) H') (ErE J Γ σ), ⟨xs.length, by simp, Nat.zero_le _, [], G1, [], ?_, gD, upd_same, .nil, Nat.le_refl _, ?_⟩, ?_⟩
    · exact Gr.loose g1.gh hD
    · exact wp_mono k (fun zs k l vs G' H' g n n' hl r => k l vs G' H' g n n' hl (by simpa using r)) fun _ _ z => z
    rintro i m H' ⟨rfl, hi, ys, G', acc, g', gl, hl, hr, hys, k2⟩
    have e1 : Ex G1 H' := g'.gg.trans g'.gh
    by_cases hlt : i < xs.length
    · refine .inr ⟨ok.go i H' e1 hlt, fun H' => xs.length - (i + 1) = xs.length - (i + 1) ∧ i + 1 ≤ xs.length ∧ ∃ (ys : List β) (G' : Hp) (acc : List V), Gr G1 H1 G' H' ∧ G' Dl = none ∧ H' Dl = some (.lst acc) ∧ RpA J.K G' acc (ys.map enc) ∧ ys.length ≤ i + 1 ∧
          (mpXGo f (xs.drop (i + 1))).wp (fun zs => ∀ (l : Addr) (vs : List V) (G' H' : Hp), Gr G H G' H' → H l = none → G' l = none → H' l = some (.lst vs) → RpA J.K G' vs ((ys ++ zs).map enc) → Q (.ref l) H') (ErE J Γ σ),
        fun H' h => ⟨xs.length - (i + 1), by omega, h⟩, fun x H2 hy => ?_⟩
      obtain ⟨G2, g2, r2⟩ := ok.yld i H' x H2 xs[i] e1 hy (List.getElem?_eq_getElem hlt) G' g'.gg g'.gh
      have gg2 := g'.trans g2
      have S2 := ((S1.gr gg2).wipe vs).flo (F := G1) gg2.gg
      refine ht.sem _ _ H2 G2 x xs[i] _ _ S2 r2 fun σ4 off S4 => ?_
      have hoff : L2.wipe σ4 vs = L2.wipe σ vs := wipe_off off hjs
      refine ⟨hoff, G1, xs[i], S1.fl, G2, S4, ?_⟩
      rw [List.drop_eq_getElem_cons hlt] at k2
      have gl2 : G2 Dl = none := by
        cases q2 : G2 Dl with
        | none => rfl
        | some u =>
          rcases g2.nw Dl u q2 with z | z
          · rw [gl] at z; cases z
          · rw [hl] at z; cases z
      have hl2 : H2 Dl = some (.lst acc) := g2.hh _ _ hl
      refine wp_mono (wp_bind.mp k2) (fun y k4 v G4 H4 g4 r4 => ?_) (fun n a z G5 H5 cls d S5 ex => ?_)
      · have gl4 : G4 Dl = none := by
          cases q2 : G4 Dl with
          | none => rfl
          | some u =>
            rcases g4.nw Dl u q2 with z | z
            · rw [gl2] at z; cases z
            · rw [hl2] at z; cases z
        have gg4 := gg2.trans g4
        have gr4 := g2.trans g4
        refine ⟨acc, g4.hh _ _ hl2, szlt.mpr ?_, rfl, hlt, ys ++ [y], G4, acc ++ [v], ⟨gg4.gg, fun a u e => ?_, fun a u e => ?_, gg4.nw⟩, gl4, upd_same, ?_, by rw [List.length_append]; simpa using hys, ?_⟩
        · have := hr.length
          rw [List.length_map] at this
          omega
        · rw [upd_ne (fun z => by rw [z, gl4] at e; cases e)]; exact gg4.gh a u e
        · rw [upd_ne (fun z => by rw [z, hD] at e; cases e)]; exact gg4.hh a u e
        · rw [List.map_append]
          exact (hr.ex gr4.gg).append (.cons r4 .nil)
        · exact wp_mono (wp_bind.mp k4) (fun zs k l vs G' H' g n n' hl r => k l vs G' H' g n n' hl (by simpa using r)) fun _ _ z => z
      · have S6 := S5.wipe vs
        rw [hw, hoff] at S6
        have S7 := S6.unwipe hno
        exact z G5 H5 cls d ⟨S7.bg, S7.gh, S7.h0, S7.th, S7.sep, S1.fl.trans S7.fl, S7.sl⟩ ex
    · have ei : i = xs.length := by omega
      subst ei
      rw [List.drop_length] at k2
      refine .inl ⟨ok.stop H' e1, ?_⟩
      have k3 := k2 Dl acc G' H' (g1.trans g') hD0 gl hl
      simp only [List.append_nil] at k3
      exact k3 hr
  · rw [if_neg hz] at k; exact k.elim
theorem EF.mpX {mi : R (List α)} {g : TG} {js : List Nat} {up : List Sl → α → List Sl} {f : α → R β} (own : List (Str × Nat)) (hs0 : J.X.stack = J.X.env :: J.X.outer) (hf0 : J.X.env.frame = some J.X.env.locals) (hno : NoAt Γ (oix own)) (hw : ∀ x, wipeG (up (wipeG Γ (oix own)) x) (oix own) = Γ)
    (hc : J.X.calm = true) (hN : J.X.N.Nodup) (hit : IT J Γ tg it mi) (ok : BlkOk J.X.N J.X.env.scope scope own)
    (hg : ∀ (s : Shared) (H : Hp) (C : Addr) (cl : List (Str × Addr)) (fp : List Addr), PG (J.X.blk s H scope (compEnvC scope cl C J.X.env) fp) tg g) (ht : TgS J.K g js up) (hjs : ∀ j ∈ js, j ∈ oix own)
    (he : ∀ (F : Hp) (σ0 : L2.St) (s : Shared) (H : Hp) (C : Addr) (cl : List (Str × Addr)) (fp : List Addr) (x : α), ES (J.blx hs0 hf0 F σ0 s H scope C cl fp) (up (wipeG Γ (oix own)) x) elt (f x)) (hs : ∀ x, foldedSetIterable it J.X.env x = pure x := by intro _; rfl) :
    EF J Γ (.ListComp elt [⟨tg, it, [], 0⟩] scope pos) (mi.bind fun xs => M.mpX f xs) :=
  ⟨pe_wk (pe_lcX (own := own) hs0 hf0 J.tk hc hN hit.pi ok hg
    (te := fun σ0 σ H Q => ∃ F x, Ex J.c.Fl F ∧ tSx J.K { J.c with Fl := F } J.T J.W σ0 (up (wipeG Γ (oix own)) x) (f x) σ H Q)
    (fun σ0 s H C cl fp => ⟨fun pins s' σ H' Q I ⟨F, x, _, q⟩ => (he F σ0 s H C cl fp x).pe.run pins s' σ H' Q I q⟩) hs) (lc_goX (oix own) ht hjs hno hw)⟩
theorem BS.mpX {mi : R (List α)} {g : TG} {js : List Nat} {up : List Sl → α → List Sl} {f : α → R β} {i : Nat} {y : Str} {py spos : Pos} (own : List (Str × Nat)) (hs0 : J.X.stack = J.X.env :: J.X.outer) (hf0 : J.X.env.frame = some J.X.env.locals) (hno : NoAt Γ (oix own)) (hw : ∀ x, wipeG (up (wipeG Γ (oix own)) x) (oix own) = Γ)
    (hp : PeOk J Γ) (hc : J.X.calm = true) (hN : J.X.N.Nodup) (hi0 : J.X.N[i]? = some y) (hl0 : J.X.env.scope.names.lookup y = some .local)
    (hsw : swapsWith (.ListComp elt [⟨tg, it, [], 0⟩] scope pos) (some (.Name y py)) spos.line J.X.env = pure true) (hit : IT J Γ tg it mi) (ok : BlkOk J.X.N J.X.env.scope scope own)
    (hg : ∀ (s : Shared) (H : Hp) (C : Addr) (cl : List (Str × Addr)) (fp : List Addr), PG (J.X.blk s H scope (compEnvC scope cl C J.X.env) fp) tg g) (ht : TgS J.K g js up) (hjs : ∀ j ∈ js, j ∈ oix own)
    (he : ∀ (F : Hp) (σ0 : L2.St) (s : Shared) (H : Hp) (C : Addr) (cl : List (Str × Addr)) (fp : List Addr) (x : α), ES (J.blx hs0 hf0 F σ0 s H scope C cl fp) (up (wipeG Γ (oix own)) x) elt (f x)) (hs : ∀ x, foldedSetIterable it J.X.env x = pure x := by intro _; rfl) :
    BS J Γ (.Assign [.Name y py] (.ListComp elt [⟨tg, it, [], 0⟩] scope pos) spos) (mi.bind fun xs => M.mpX f xs) (fun a => .nx (Γ.set i (.ow (a.map enc)))) :=
  ⟨ps_wk (ps_setLcX (i := i) (own := own) hs0 hf0 J.tk hc hN hi0 hl0 hsw hit.pi ok hg
    (te := fun σ0 σ H Q => ∃ F x, Ex J.c.Fl F ∧ tSx J.K { J.c with Fl := F } J.T J.W σ0 (up (wipeG Γ (oix own)) x) (f x) σ H Q)
    (fun σ0 s H C cl fp => ⟨fun pins s' σ H' Q I ⟨F, x, _, q⟩ => (he F σ0 s H C cl fp x).pe.run pins s' σ H' Q I q⟩) hs) fun D σ H ⟨G, S, q⟩ =>
      lc_goX (oix own) ht hjs hno hw σ H (fun x H1 => D.nx (σ.set i (some x)) H1) ⟨G, S, wp_mono q (fun a k l vs G' H' g n n' hl r => by
        refine k G' _ H' (S.setow2 g n ?_ hl n' r)
        cases q0 : J.c.H0 l with
        | none => rfl
        | some o =>
          obtain ⟨u, hu⟩ := S.th l o q0
          rw [n] at hu; cases hu) fun n a z => erE_of hp z σ⟩⟩
end
/-! ### 38. tuples of one kind; slices of tuples; None put into a list -/
structure Tp (α : Type) where
  l : List α
instance {α : Type} [Enc α] : Enc (Tp α) := ⟨fun t => .tuple (t.l.map enc)⟩
section
variable {J : Jd} {Γ : List Sl} {a b e : Expr} {pos p p2 : Pos} {x : Str} {α β : Type} [Enc α] [Enc β]
theorem ES.sliceT {lo hi : Option Expr} {m : R α} (k : Int) (n : Nat) (ds : α → List D) (g : α → β) (h : ES J Γ a m) (hlo : EO J Γ lo (.ok (some k))) (hhi : EO J Γ hi (.ok none)) (hf : ∀ t, enc t = .tuple (ds t) := by intro _; rfl) (hn : ∀ t, (ds t).length = n := by intro _; rfl)
    (hg : ∀ t, enc (g t) = .tuple (((ds t).drop (HT.sIx n 0 (some k))).take (HT.sIx n n none - HT.sIx n 0 (some k))) := by intro _; rfl) (hw : ¬ (HT.sIx n 0 (some k) = 0 ∧ HT.sIx n n none = n) := by decide) : ES J Γ (.Subscript a (.Slice lo hi none p2) pos) (m.bind fun t => .ok (g t)) :=
  ⟨pe_wk (pe_slice sl_tup h.pe hlo.po hhi.po) fun σ H Q ⟨G, S, w⟩ => ⟨G, S, wp_mono (wp_bind.mp w) (fun t k1 v G1 H1 g1 r1 => by
    rw [hf] at r1
    obtain ⟨p, vs, rfl, hs, hr⟩ := r1.untup
    have hlen : vs.length = n := by rw [hr.length, hn]
    refine ⟨G1, S.gr g1, fun G2 H2 g2 => ⟨G2, S.gr (g1.trans g2), fun G3 H3 g3 => ⟨p, vs, rfl, Evl.ex_t (g1.gh.trans (g2.hh.trans g3.hh)) hs, by rw [hlen]; exact hw, fun q nq => ?_⟩⟩⟩
    have g := g1.trans (g2.trans g3)
    have eg := Gr.new (o := .tup (cutV vs (some k) none)) g.gh nq
    refine k1 (.ref q) _ _ (g.trans eg) ?_
    rw [hg]
    refine Rp.tup (.inl (.inl upd_same)) ?_
    have hc : cutV vs (some k) none = (vs.drop (HT.sIx n 0 (some k))).take (HT.sIx n n none - HT.sIx n 0 (some k)) := by unfold cutV; rw [hlen]
    have h5 := ((hr.ex ((g2.trans g3).trans eg).gg).drop (HT.sIx n 0 (some k))).take (HT.sIx n n none - HT.sIx n 0 (some k))
    rw [← hc] at h5
    exact h5) fun _ _ z => z⟩⟩
/-- xs[k] = None -/
def setN {α : Type} (xs : List α) (i : Int) : R (List (Option α)) := match ixN xs.length i with
  | some j => .ok ((xs.map some).set j none)
  | none => .stuck
theorem map_somes (xs : List α) : (xs.map some).map (enc (α := Option α)) = xs.map enc := by
  rw [List.map_map]
  rfl
theorem BS.setN {i : Nat} {xs : List α} {m : R Unit} {mk : R Int} (h : ES J Γ e m) (h2 : ES J Γ b mk) (hp : PeOk J Γ) (hN : J.X.N[i]? = some x) (hG : Γ[i]? = some (.ow (xs.map enc))) (hv : Vis J.X.env.scope x := by first | exact Or.inl rfl | exact Or.inr (Or.inl rfl) | exact Or.inr (Or.inr rfl))
    (hd : (x == ("__debug__" : Str)) = false := by decide) (hcd : (x == ("__classdict__" : Str)) = false := by decide)
    (ha : ∀ v, assign (.Subscript (.Name x p) b p2) J.X.env v = (do
      let ov ← holding [v] (eval (.Name x p) J.X.env)
      let iv ← holding [v, ov] (eval b J.X.env)
      standAt p2
      holding [v, ov, iv] (setItem ov iv v)
      release [v, ov, iv] []) := by intro _; rfl) (hs : swapsWithSole [.Subscript (.Name x p) b p2] e pos.line J.X.env = pure false := by rfl) (hw : swappedStores [.Subscript (.Name x p) b p2] e J.X.env = pure none := by rfl)
    (h1 : (assignEach [.Subscript (.Name x p) b p2] J.X.env).map (·.2) = [assign (.Subscript (.Name x p) b p2) J.X.env] := by rfl) :
    BS J Γ (.Assign [.Subscript (.Name x p) b p2] e pos) (m.bind fun _ => mk.bind fun k => M.setN xs k) (fun ys => .nx (Γ.set i (.ow (ys.map enc)))) :=
  ⟨ps_wk (ps_asg h.pe (pg_sub (pe_var hN hv hd hcd) h2.pe set_list ha) hs hw h1) fun D σ H ⟨G, S, q⟩ => ⟨G, S, wp_mono (wp_bind.mp q) (fun a k v G1 H1 g1 ra => by
    have S1 := S.gr g1
    obtain ⟨l, vs, e1, hl, r, gl⟩ := S1.ow hG
    refine ⟨.ref l, e1, G1, S1, wp_mono (wp_bind.mp k) (fun z k2 w G2 H2 g2 rz => ?_) fun n a z => erE_of hp z σ⟩
    have ez := Rp.unint rz
    subst ez
    unfold M.setN at k2
    cases hj : ixN xs.length z with
    | none => rw [hj] at k2; exact k2.elim
    | some j =>
      rw [hj] at k2
      refine ⟨l, vs, z, j, rfl, rfl, g2.hh _ _ hl, by rw [r.length, List.length_map]; exact hj, ?_⟩
      refine k2 G2 σ _ ((S1.gr g2).mut hG e1 ?_)
      rw [List.map_set, map_somes]
      exact (r.ex g2.gg).set j (ra.ex g2.gg)) fun n a z => erE_of hp z σ⟩⟩
end
/-! ### 39. values of one's own, and the lists that lie in them -/
section
variable {K : PySem.W.Frag} {G H G' H' : Hp}
def NotL (d : D) : Prop := ∀ ds, d ≠ .list ds
/-- a list of one's own, or a value that is none -/
def Own1 (K : PySem.W.Frag) (G H : Hp) (v : V) (d : D) (f : List Addr) : Prop := (∃ p vs ds, v = .ref p ∧ d = .list ds ∧ f = [p] ∧ H p = some (.lst vs) ∧ RpA K G vs ds) ∨ (NotL d ∧ f = [] ∧ Rp K G v d)
inductive OwnA (K : PySem.W.Frag) (G H : Hp) : List V → List D → List Addr → Prop where
  | nil : OwnA K G H [] [] []
  | cons {v : V} {d : D} {f : List Addr} {vs : List V} {ds : List D} {fs : List Addr} : Own1 K G H v d f → OwnA K G H vs ds fs → OwnA K G H (v :: vs) (d :: ds) (f ++ fs)
/-- .. its items lists of one's own, or values that are none -/
def Own2 (K : PySem.W.Frag) (G H : Hp) (v : V) (d : D) (f : List Addr) : Prop := (∃ p vs ds fs, v = .ref p ∧ d = .list ds ∧ f = p :: fs ∧ H p = some (.lst vs) ∧ OwnA K G H vs ds fs) ∨ (NotL d ∧ f = [] ∧ Rp K G v d)
theorem Own1.gr {v : V} {d : D} {f : List Addr} (g : Ex G G') (h : Ex H H') (o : Own1 K G H v d f) : Own1 K G' H' v d f := by
  rcases o with ⟨p, vs, ds, e1, e2, e3, h1, h2⟩ | ⟨n, e, r⟩
  · exact .inl ⟨p, vs, ds, e1, e2, e3, h _ _ h1, h2.ex g⟩
  · exact .inr ⟨n, e, r.ex g⟩
theorem OwnA.gr (g : Ex G G') (h : Ex H H') {vs : List V} {ds : List D} {f : List Addr} (o : OwnA K G H vs ds f) : OwnA K G' H' vs ds f := by
  induction o with
  | nil => exact .nil
  | cons a _ ih => exact .cons (a.gr g h) ih
theorem Own2.gr {v : V} {d : D} {f : List Addr} (g : Ex G G') (h : Ex H H') (o : Own2 K G H v d f) : Own2 K G' H' v d f := by
  rcases o with ⟨p, vs, ds, fs, e1, e2, e3, h1, h2⟩ | ⟨n, e, r⟩
  · exact .inl ⟨p, vs, ds, fs, e1, e2, e3, h _ _ h1, h2.gr g h⟩
  · exact .inr ⟨n, e, r.ex g⟩
theorem Own1.fr {v : V} {d : D} {f : List Addr} {p : Addr} {ob : HO} (n : p ∉ f) (o : Own1 K G H v d f) : Own1 K G (upd H p ob) v d f := by
  rcases o with ⟨q, vs, ds, e1, e2, e3, h1, h2⟩ | ⟨m, e, r⟩
  · exact .inl ⟨q, vs, ds, e1, e2, e3, by rw [upd_ne (fun z => n (by rw [e3, ← z]; simp))]; exact h1, h2⟩
  · exact .inr ⟨m, e, r⟩
theorem OwnA.fr {vs : List V} {ds : List D} {f : List Addr} {p : Addr} {ob : HO} (o : OwnA K G H vs ds f) : p ∉ f → OwnA K G (upd H p ob) vs ds f := by
  induction o with
  | nil => intro _; exact .nil
  | cons a _ ih => intro n; exact .cons (a.fr fun z => n (List.mem_append_left _ z)) (ih fun z => n (List.mem_append_right _ z))
theorem Own2.fr {v : V} {d : D} {f : List Addr} {p : Addr} {ob : HO} (n : p ∉ f) (o : Own2 K G H v d f) : Own2 K G (upd H p ob) v d f := by
  rcases o with ⟨q, vs, ds, fs, e1, e2, e3, h1, h2⟩ | ⟨m, e, r⟩
  · rw [e3] at n
    exact .inl ⟨q, vs, ds, fs, e1, e2, e3, by rw [upd_ne (fun z => n (by rw [← z]; simp))]; exact h1, h2.fr fun z => n (List.mem_cons_of_mem _ z)⟩
  · exact .inr ⟨m, e, r⟩
theorem Own1.cg {v : V} {d : D} {f : List Addr} (g : Ex G G') (h : ∀ p ∈ f, H' p = H p) (o : Own1 K G H v d f) : Own1 K G' H' v d f := by
  rcases o with ⟨p, vs, ds, e1, e2, e3, h1, h2⟩ | ⟨n, e, r⟩
  · exact .inl ⟨p, vs, ds, e1, e2, e3, (h p (by rw [e3]; simp)).trans h1, h2.ex g⟩
  · exact .inr ⟨n, e, r.ex g⟩
theorem OwnA.cg {vs : List V} {ds : List D} {f : List Addr} (g : Ex G G') (o : OwnA K G H vs ds f) : (∀ p ∈ f, H' p = H p) → OwnA K G' H' vs ds f := by
  induction o with
  | nil => intro _; exact .nil
  | cons a _ ih => intro h; exact .cons (a.cg g fun p hp => h p (List.mem_append_left _ hp)) (ih fun p hp => h p (List.mem_append_right _ hp))
theorem Own2.cg {v : V} {d : D} {f : List Addr} (g : Ex G G') (h : ∀ p ∈ f, H' p = H p) (o : Own2 K G H v d f) : Own2 K G' H' v d f := by
  rcases o with ⟨p, vs, ds, fs, e1, e2, e3, h1, h2⟩ | ⟨n, e, r⟩
  · exact .inl ⟨p, vs, ds, fs, e1, e2, e3, (h p (by rw [e3]; simp)).trans h1, h2.cg g fun q hq => h q (by rw [e3]; exact List.mem_cons_of_mem _ hq)⟩
  · exact .inr ⟨n, e, r.ex g⟩
theorem Own1.kd {v : V} {d : D} {f : List Addr} (o : Own1 K G H v d f) : ∀ p ∈ f, ∃ vs, H p = some (.lst vs) := by
  rcases o with ⟨q, vs, ds, e1, e2, e3, h1, h2⟩ | ⟨m, e, r⟩
  · intro p hp; rw [e3, List.mem_singleton] at hp; subst hp; exact ⟨vs, h1⟩
  · intro p hp; rw [e] at hp; cases hp
theorem OwnA.kd {vs : List V} {ds : List D} {f : List Addr} (o : OwnA K G H vs ds f) : ∀ p ∈ f, ∃ vs, H p = some (.lst vs) := by
  induction o with
  | nil => intro p hp; cases hp
  | cons a _ ih => intro p hp; exact (List.mem_append.mp hp).elim (a.kd p) (ih p)
theorem Own2.kd {v : V} {d : D} {f : List Addr} (o : Own2 K G H v d f) : ∀ p ∈ f, ∃ vs, H p = some (.lst vs) := by
  rcases o with ⟨q, vs, ds, fs, e1, e2, e3, h1, h2⟩ | ⟨m, e, r⟩
  · intro p hp
    rw [e3] at hp
    rcases List.mem_cons.mp hp with rfl | hp
    · exact ⟨vs, h1⟩
    · exact h2.kd p hp
  · intro p hp; rw [e] at hp; cases hp
theorem Own1.rp {v : V} {d : D} {f : List Addr} (e : Ex G H) (o : Own1 K G H v d f) : Rp K H v d := by
  rcases o with ⟨q, vs, ds, e1, e2, e3, h1, h2⟩ | ⟨m, _, r⟩
  · rw [e1, e2]; exact Rp.lst (.inl (.inl h1)) (h2.ex e)
  · exact r.ex e
theorem OwnA.rp {vs : List V} {ds : List D} {f : List Addr} (e : Ex G H) (o : OwnA K G H vs ds f) : RpA K H vs ds := by
  induction o with
  | nil => exact .nil
  | cons a _ ih => exact .cons (a.rp e) ih
theorem Own2.rp {v : V} {d : D} {f : List Addr} (e : Ex G H) (o : Own2 K G H v d f) : Rp K H v d := by
  rcases o with ⟨q, vs, ds, fs, e1, e2, e3, h1, h2⟩ | ⟨m, _, r⟩
  · rw [e1, e2]; exact Rp.lst (.inl (.inl h1)) (h2.rp e)
  · exact r.ex e
theorem Own1.fz {F : Hp} {v : V} {d : D} {f : List Addr} (e : Ex G F) (o : Own1 K G H v d f) (h : ∀ p ∈ f, F p = H p) : Rp K F v d := by
  rcases o with ⟨q, vs, ds, e1, e2, e3, h1, h2⟩ | ⟨m, _, r⟩
  · rw [e1, e2]; exact Rp.lst (.inl (.inl ((h q (by rw [e3]; simp)).trans h1))) (h2.ex e)
  · exact r.ex e
theorem OwnA.fz {F : Hp} {vs : List V} {ds : List D} {f : List Addr} (e : Ex G F) (o : OwnA K G H vs ds f) : (∀ p ∈ f, F p = H p) → RpA K F vs ds := by
  induction o with
  | nil => intro _; exact .nil
  | cons a _ ih => intro h; exact .cons (a.fz e fun p hp => h p (List.mem_append_left _ hp)) (ih fun p hp => h p (List.mem_append_right _ hp))
theorem Own2.fz {F : Hp} {v : V} {d : D} {f : List Addr} (e : Ex G F) (o : Own2 K G H v d f) (h : ∀ p ∈ f, F p = H p) : Rp K F v d := by
  rcases o with ⟨q, vs, ds, fs, e1, e2, e3, h1, h2⟩ | ⟨m, _, r⟩
  · rw [e1, e2]; exact Rp.lst (.inl (.inl ((h q (by rw [e3]; simp)).trans h1))) (h2.fz e fun p hp => h p (by rw [e3]; exact List.mem_cons_of_mem _ hp))
  · exact r.ex e
/-- frozen there -/
def fzH (f : List Addr) (G H : Hp) : Hp := fun a => if a ∈ f then H a else G a
theorem fzH_ok {fs : List Addr} (e : Ex G H) (n : ∀ p ∈ fs, G p = none) : Ex G (fzH fs G H) ∧ Ex (fzH fs G H) H ∧ ∀ p ∈ fs, fzH fs G H p = H p := by
  refine ⟨fun a u z => ?_, fun a u z => ?_, fun p hp => if_pos hp⟩
  · unfold fzH
    rw [if_neg fun hm => by rw [n a hm] at z; cases z]
    exact z
  · unfold fzH at z
    by_cases ha : a ∈ fs
    · rw [if_pos ha] at z; exact z
    · rw [if_neg ha] at z; exact e a u z
theorem OwnA.append {vs ws : List V} {ds es : List D} {f g : List Addr} (a : OwnA K G H vs ds f) (b : OwnA K G H ws es g) : OwnA K G H (vs ++ ws) (ds ++ es) (f ++ g) := by
  induction a with
  | nil => exact b
  | cons o _ ih => rw [List.append_assoc]; exact .cons o ih
theorem OwnA.length {vs : List V} {ds : List D} {f : List Addr} (a : OwnA K G H vs ds f) : vs.length = ds.length := by
  induction a with
  | nil => rfl
  | cons _ _ ih => rw [List.length_cons, List.length_cons, ih]
/-- one of the lists changes -/
theorem OwnA.at {vs : List V} {ds : List D} {f : List Addr} (a : OwnA K G H vs ds f) : ∀ {t : Nat} {es : List D}, ds[t]? = some (.list es) → ∃ q ws f1 f2, vs[t]? = some (.ref q) ∧ f = f1 ++ q :: f2 ∧ H q = some (.lst ws) ∧ RpA K G ws es ∧
    ∀ (G' H' : Hp) (ws' : List V) (es' : List D), Ex G G' → Ex H H' → q ∉ f1 ++ f2 → RpA K G' ws' es' → OwnA K G' (upd H' q (.lst ws')) vs (ds.set t (.list es')) f := by
  induction a with
  | nil => intro t es e; simp at e
  | @cons v d g vs ds fs o r ih =>
    intro t es e
    cases t with
    | zero =>
      simp at e
      rcases o with ⟨p, ws, es0, rfl, rfl, rfl, h1, h2⟩ | ⟨n, _⟩
      · injection e with e
        subst e
        refine ⟨p, ws, [], fs, rfl, rfl, h1, h2, fun G' H' ws' es' g h n r' => ?_⟩
        rw [List.set_cons_zero]
        exact .cons (f := [p]) (.inl ⟨p, ws', es', rfl, rfl, rfl, upd_same, r'⟩) ((r.gr g h).fr n)
      · exact absurd e (n es)
    | succ t =>
      obtain ⟨q, ws, f1, f2, e1, e2, h1, h2, k⟩ := ih (t := t) (es := es) (by simpa using e)
      refine ⟨q, ws, g ++ f1, f2, by simpa using e1, by rw [e2, List.append_assoc], h1, h2, fun G' H' ws' es' gg hh n r' => ?_⟩
      rw [List.append_assoc] at n
      rw [List.set_cons_succ]
      exact .cons ((o.gr gg hh).fr fun z => n (List.mem_append_left _ z)) (k G' H' ws' es' gg hh (fun z => n (List.mem_append_right _ z)) r')
end
def dpR (d : D) (K : PySem.W.Frag) (G H : Hp) (o : Option V) (f : List Addr) : Prop := ∃ v, o = some v ∧ Own2 K G H v d f
theorem dpR_gd (d : D) (K : PySem.W.Frag) : Gd (dpR d K) := ⟨fun g h ⟨v, e, o⟩ => ⟨v, e, o.cg g h⟩, fun ⟨v, e, o⟩ p hp => (o.kd p hp).elim fun vs e => ⟨_, e, .inl ⟨vs, rfl⟩⟩⟩
/-- .. the list itself known -/
def dpV (p : Addr) (vs : List V) (ds : List D) (K : PySem.W.Frag) (G H : Hp) (o : Option V) (f : List Addr) : Prop := ∃ fs, o = some (.ref p) ∧ f = p :: fs ∧ H p = some (.lst vs) ∧ OwnA K G H vs ds fs
theorem dpV_gd (p : Addr) (vs : List V) (ds : List D) (K : PySem.W.Frag) : Gd (dpV p vs ds K) := ⟨fun g h ⟨fs, e1, e2, h1, h2⟩ => ⟨fs, e1, e2, (h p (by rw [e2]; simp)).trans h1, h2.cg g fun q hq => h q (by rw [e2]; exact List.mem_cons_of_mem _ hq)⟩, fun ⟨fs, e1, e2, h1, h2⟩ q hq => by
    rw [e2] at hq
    rcases List.mem_cons.mp hq with rfl | hq
    · exact ⟨_, h1, .inl ⟨vs, rfl⟩⟩
    · exact (h2.kd q hq).elim fun vs e => ⟨_, e, .inl ⟨vs, rfl⟩⟩⟩
abbrev Sl.dp (d : D) : Sl := .gn (dpR d)
section
variable {K : PySem.W.Frag} {c : Bs} {Γ : List Sl} {G H : Hp} {σ : L2.St}
/-- a slot's objects at hand -/
theorem SatG.openS (S : SatG K c Γ G σ H) {i : Nat} {s0 : Sl} (e : Γ[i]? = some s0) : ∃ o f, σ[i]? = some o ∧ SlAt K G H s0 o f ∧ f.Nodup ∧ (∀ p ∈ f, G p = none ∧ (p ∈ c.F0 ∨ c.H0 p = none)) ∧
    ∀ (G' H' : Hp) (p : Addr) (ob : HO) (s1 : Sl) (f' : List Addr), Gr G H G' H' → p ∈ f → f'.Nodup → (∀ q ∈ f', q ∈ f ∨ (H q = none ∧ c.H0 q = none ∧ G' q = none)) → SlAt K G' (upd H' p ob) s1 o f' → SatG K c (Γ.set i s1) G' σ (upd H' p ob) := by
  obtain ⟨fs, h1, h2, h3⟩ := S.sl
  obtain ⟨o, f, e1, e2, a⟩ := h1.get e
  have hf : f.Nodup := by
    have : f.Sublist fs.flatten := List.sublist_flatten_of_mem (List.mem_of_getElem? e2)
    exact h2.sublist this
  have hff : ∀ p ∈ f, p ∈ fs.flatten := fun p hp => List.mem_flatten.mpr ⟨f, List.mem_of_getElem? e2, hp⟩
  refine ⟨o, f, e1, a, hf, fun p hp => h3 p (hff p hp), fun G' H' p ob s1 f' g hp nd hn a' => ?_⟩
  obtain ⟨gp, n0⟩ := h3 p (hff p hp)
  have there : ∀ q ∈ fs.flatten, ∃ u, H q = some u := h1.there
  have gn : ∀ q ∈ fs.flatten, G' q = none := fun q hq => by
    cases q1 : G' q with
    | none => rfl
    | some u =>
      rcases g.nw q u q1 with y | y
      · rw [(h3 q hq).1] at y; cases y
      · obtain ⟨w, hw⟩ := there q hq
        rw [y] at hw; cases hw
  have gp' := gn p (hff p hp)
  have S1 := S.gr g
  have hself : σ.set i o = σ := by
    obtain ⟨hi, hv⟩ := List.getElem?_eq_some_iff.mp e1
    rw [← hv]; exact List.set_getElem_self hi
  -- the other slots
  have key : ∀ {Γ : List Sl} {σ : L2.St} {fs : List (List Addr)} {i : Nat}, SlsAt K G' H' Γ σ fs → fs.flatten.Nodup → fs[i]? = some f → SlsAt K G' (upd H' p ob) (Γ.set i s1) (σ.set i o) (fs.set i f') := by
    intro Γ σ fs i h
    induction h generalizing i with
    | nil => intro _ e; simp at e
    | @cons s o1 f1 Γ σ fs a1 r ih =>
      intro nd1 e3
      rw [List.flatten_cons] at nd1
      obtain ⟨n1, n2, n3⟩ := List.nodup_append.mp nd1
      have keep : ∀ {s : Sl} {o1 : Option V} {f1 : List Addr}, p ∉ f1 → SlAt K G' H' s o1 f1 → SlAt K G' (upd H' p ob) s o1 f1 := by
        intro s o1 f1 nm a
        cases s with
        | no => exact a
        | va d => exact a
        | rw v => exact a
        | dk kvs => obtain ⟨q, ws, e1, e2, h1, h2⟩ := a; exact ⟨q, ws, e1, e2, by rw [upd_ne (fun z => nm (by rw [e1, ← z]; simp))]; exact h1, h2⟩
        | gn R => exact ⟨a.1, a.1.fr nm a.2⟩
        | ow ds => obtain ⟨q, ws, e1, e2, h1, h2⟩ := a; exact ⟨q, ws, e1, e2, by rw [upd_ne (fun z => nm (by rw [e1, ← z]; simp))]; exact h1, h2⟩
      cases i with
      | zero =>
        simp at e3; subst e3
        refine .cons a' ?_
        have nm : p ∉ fs.flatten := fun z => n3 p hp p z rfl
        clear ih n3 nd1 n2 a1
        induction r with
        | nil => exact .nil
        | cons a r ih =>
          rw [List.flatten_cons] at nm
          exact .cons (keep (fun z => nm (List.mem_append_left _ z)) a) (ih fun z => nm (List.mem_append_right _ z))
      | succ i =>
        have e' : fs[i]? = some f := by simpa using e3
        exact .cons (keep (fun z => n3 p z p (List.mem_flatten.mpr ⟨f, List.mem_of_getElem? e', hp⟩) rfl) a1) (ih n2 e')
  have h4 := key (h1.gr g) h2 e2
  rw [hself] at h4
  refine ⟨S1.bg, fun a u q => ?_, fun a u q n => ?_, fun a u q => ?_, S1.sep, S1.fl, fs.set i f', h4, nodup_set h2 nd fun q hq => ?_, fun q hq => ?_⟩
  · rw [upd_ne (fun z => by rw [z, gp'] at q; cases q)]; exact S1.gh a u q
  · have hne : a ≠ p := fun z => by
      subst z
      rcases n0 with w | w
      · exact n w
      · rw [w] at q; cases q
    rw [upd_ne hne]; exact S1.h0 a u q n
  · by_cases ha : a = p
    · subst ha; exact ⟨_, upd_same⟩
    · rw [upd_ne ha]; exact S1.th a u q
  · rcases hn q hq with z | ⟨z, _⟩
    · exact .inr ⟨f, e2, z⟩
    · refine .inl fun y => ?_
      obtain ⟨u, hu⟩ := there q y
      rw [z] at hu; cases hu
  · rcases flatten_set_sub q hq with z | z
    · exact ⟨gn q z, (h3 q z).2⟩
    · rcases hn q z with y | ⟨_, y1, y2⟩
      · exact ⟨gn q (hff q y), (h3 q (hff q y)).2⟩
      · exact ⟨y2, .inr y1⟩
/-- a slot said otherwise -/
theorem SatG.conv (S : SatG K c Γ G σ H) {i : Nat} {s0 s1 : Sl} (e : Γ[i]? = some s0) (h : ∀ o f, σ[i]? = some o → SlAt K G H s0 o f → SlAt K G H s1 o f) : SatG K c (Γ.set i s1) G σ H := by
  obtain ⟨fs, h1, h2, h3⟩ := S.sl
  obtain ⟨o, f, e1, e2, a⟩ := h1.get e
  have hself : σ.set i o = σ := by
    obtain ⟨hi, hv⟩ := List.getElem?_eq_some_iff.mp e1
    rw [← hv]; exact List.set_getElem_self hi
  have fself : fs.set i f = fs := by
    obtain ⟨hi, hv⟩ := List.getElem?_eq_some_iff.mp e2
    rw [← hv]; exact List.set_getElem_self hi
  have h4 := h1.set (i := i) (h o f e1 a)
  rw [hself, fself] at h4
  exact ⟨S.bg, S.gh, S.h0, S.th, S.sep, S.fl, fs, h4, h2, h3⟩
theorem SatG.dp {i : Nat} {d : D} (S : SatG K c Γ G σ H) (e : Γ[i]? = some (.dp d)) : ∃ v f, σ[i]? = some (some v) ∧ Own2 K G H v d f ∧ f.Nodup ∧ ∀ p ∈ f, G p = none ∧ (p ∈ c.F0 ∨ c.H0 p = none) := by
  obtain ⟨o, f, e1, ⟨_, v, rfl, a⟩, nd, h3, _⟩ := S.openS e
  exact ⟨v, f, e1, a, nd, h3⟩
end
/-! #### expressions that hand back what is one's own -/
/-- a value new as a whole -/
def tP (J : Jd) (Γ : List Sl) {α : Type} [Enc α] (m : R α) : TE := fun σ H Q => ∃ G, Sat J Γ G σ H ∧
  m.wp (fun a => ∀ v f G' H', Gr G H G' H' → Own2 J.K G' H' v (enc a) f → f.Nodup → (∀ p ∈ f, H p = none ∧ G' p = none) → Q v H') (ErE J Γ σ)
structure EP (J : Jd) (Γ : List Sl) (e : Expr) {α : Type} [Enc α] (m : R α) : Prop where
  pe : PE J.X e (tP J Γ m)
/-- values that are no lists -/
class NoList (α : Type) [Enc α] where
  nl : ∀ a : α, NotL (enc a)
instance : NoList Int := ⟨fun _ _ h => by cases h⟩
instance : NoList Tx := ⟨fun _ _ h => by cases h⟩
instance : NoList Bool := ⟨fun _ _ h => by cases h⟩
instance : NoList Unit := ⟨fun _ _ h => by cases h⟩
theorem ownA_leaf {K : PySem.W.Frag} {G H : Hp} {α : Type} [Enc α] [NoList α] : ∀ {xs : List α} {vs : List V}, RpA K G vs (xs.map enc) → OwnA K G H vs (xs.map enc) []
  | [], vs, r => by rw [List.map_nil] at r ⊢; rw [r.unnil]; exact .nil
  | x :: xs, vs, r => by
    rw [List.map_cons] at r ⊢
    obtain ⟨w, ws, rfl, r1, r2⟩ := r.uncons
    exact .cons (f := []) (.inr ⟨NoList.nl x, rfl, r1⟩) (ownA_leaf r2)
section
variable {J : Jd} {Γ : List Sl} {a b e : Expr} {es : List Expr} {pos p p2 : Pos} {x y : Str} {α β τ ρ : Type} [Enc α] [Enc ρ] {k : Nat} {f : Addr} {fd : FuncData} {ps : List Str} {encs : τ → List D} {out : β → Fl}
theorem h0_new {c : Bs} {Γ : List Sl} {K : PySem.W.Frag} {G H : Hp} {σ : L2.St} (S : SatG K c Γ G σ H) {l : Addr} (n : H l = none) : c.H0 l = none := by
  cases q0 : c.H0 l with
  | none => rfl
  | some o =>
    obtain ⟨u, hu⟩ := S.th l o q0
    rw [n] at hu; cases hu
theorem EP.ofS [NoList α] {m : R α} (h : ES J Γ e m) : EP J Γ e m := ⟨pe_wk h.pe fun σ H Q ⟨G, S, w⟩ => ⟨G, S, wp_mono w (fun a k v G' H' g r => k v [] G' H' g (.inr ⟨NoList.nl a, rfl, r⟩) List.nodup_nil (fun p hp => by cases hp)) fun _ _ z => z⟩⟩
theorem EP.ofF [NoList α] {m : R (List α)} (h : EF J Γ e m) : EP J Γ e m := ⟨pe_wk h.pe fun σ H Q ⟨G, S, w⟩ => ⟨G, S, wp_mono w (fun xs k p vs G' H' g n n' hp r => k (.ref p) [p] G' H' g (.inl ⟨p, vs, xs.map enc, [], rfl, rfl, rfl, hp, ownA_leaf r⟩) (by simp) (fun q hq => by rw [List.mem_singleton] at hq; subst hq; exact ⟨n, n'⟩)) fun _ _ z => z⟩⟩
theorem EP.nil : EP J Γ (.List [] pos) (.ok ([] : List α)) := ⟨pe_wk (EF.nil (α := α) (J := J) (Γ := Γ) (pos := pos)).pe fun σ H Q ⟨G, S, w⟩ => ⟨G, S, fun p vs G' H' g n n' hp r => by
  have e : vs = [] := r.unnil
  subst e
  exact w (.ref p) [p] G' H' g (.inl ⟨p, [], [], [], rfl, rfl, rfl, hp, .nil⟩) (by simp) (fun q hq => by rw [List.mem_singleton] at hq; subst hq; exact ⟨n, n'⟩)⟩⟩
theorem EP.up [EncDep α] {m : R α} (h : EP J Γ e m) (hd : dep α ≤ 8 := by decide) : EP J Γ e (m.bind fun a => .ok (M.up a hd)) := ⟨pe_wk h.pe fun σ H Q ⟨G, S, w⟩ => ⟨G, S, wp_mono (wp_bind.mp w) (fun _ k => k) fun _ _ x => x⟩⟩
/-- x = a value new as a whole -/
theorem BS.asgP {i : Nat} {m : R α} (h : EP J Γ e m) (hp : PeOk J Γ) (hN : J.X.N.Nodup) (hi : J.X.N[i]? = some x) (hx : Loc J.X.env.scope x) (hs : swapsWith e (some (.Name x p)) pos.line J.X.env = pure false := by rfl)
    (hf : J.X.fn x = true ∨ J.X.env.scope.names.lookup x = some .local := by first | exact .inl rfl | exact .inr rfl) : BS J Γ (.Assign [.Name x p] e pos) m (fun a => .nx (Γ.set i (.dp (enc a)))) :=
  ⟨ps_wk (ps_set hN hi hx h.pe hs hf) fun D σ H ⟨G, S, q⟩ => ⟨G, S, wp_mono q (fun a k v f G' H' g o nd n => k G' _ H' (S.setgn g (fun p hp => ⟨(n p hp).1, h0_new S (n p hp).1, (n p hp).2⟩) nd ⟨dpR_gd _ _, v, rfl, o⟩)) fun n a z => erE_of hp z σ⟩⟩
/-- x, as it stands now -/
theorem EV.dp {i : Nat} {a : α} (hN : J.X.N[i]? = some x) (hG : Γ[i]? = some (.dp (enc a))) (hv : Vis J.X.env.scope x := by first | exact Or.inl rfl | exact Or.inr (Or.inl rfl) | exact Or.inr (Or.inr rfl))
    (hd : (x == ("__debug__" : Str)) = false := by decide) (hcd : (x == ("__classdict__" : Str)) = false := by decide) : EV J Γ (.Name x p) (.ok a) :=
  ⟨pe_wk (pe_var hN hv hd hcd) fun σ H Q ⟨G, S, q⟩ => by
    obtain ⟨v, f, e1, o, -, -⟩ := S.dp hG
    exact ⟨v, e1, q v G H (Gr.refl S.gh) (o.rp S.gh)⟩⟩
/-- handed back -/
theorem BD.retP {i : Nat} {d : D} (hN : J.X.N[i]? = some x) (hG : Γ[i]? = some (.dp d)) (nf : J.c.F0 = []) (j : β) (hj : out j = .rg (dpR d) := by rfl) (hv : Vis J.X.env.scope x := by first | exact Or.inl rfl | exact Or.inr (Or.inl rfl) | exact Or.inr (Or.inr rfl))
    (hd : (x == ("__debug__" : Str)) = false := by decide) (hcd : (x == ("__classdict__" : Str)) = false := by decide) : BD J Γ [.Return (some (.Name x p)) pos] (.ok j) out :=
  ⟨pss_one (ps_wk (ps_ret (pe_var hN hv hd hcd)) fun D σ H ⟨G, S, q⟩ => by
    have q' : FlP J D (out j) := q
    rw [hj] at q'
    obtain ⟨v, f, e1, o, nd, h3⟩ := S.dp hG
    exact ⟨v, e1, q' v f G H S.ed ⟨v, rfl, o⟩ nd fun p hp => ⟨(h3 p hp).2, (h3 p hp).1⟩⟩)⟩
theorem BD.retEP {m : R α} (h : EP J Γ e m) (hp : PeOk J Γ) (j : α → β) (hj : ∀ a, out (j a) = .rg (dpR (enc a)) := by intro _; rfl) : BD J Γ [.Return (some e) pos] (m.bind fun a => .ok (j a)) out :=
  ⟨pss_one (ps_wk (ps_ret h.pe) fun D σ H ⟨G, S, q⟩ => ⟨G, S, wp_mono (wp_bind.mp q) (fun a k v f G' H' g o nd n => by
    have k' : FlP J D (out (j a)) := k
    rw [hj] at k'
    exact k' v f G' H' (S.gr g).ed ⟨v, rfl, o⟩ nd fun p hp => ⟨.inr (h0_new S (n p hp).1), (n p hp).2⟩) fun n a z => erE_of hp z σ⟩)⟩
/-- a def that hands back a value new as a whole -/
def PrP (T : CT) (K : PySem.W.Frag) {τ ρ : Type} [Enc ρ] (encs : τ → List D) (f : τ → R ρ) : Sp := fun vs H Q E => ∃ (B : Hp) (x : τ), Ex B H ∧ RpA K B vs (encs x) ∧
  (f x).wp (fun r => ∀ v fs G' H', Gr B H G' H' → Own2 K G' H' v (enc r) fs → fs.Nodup → (∀ p ∈ fs, H p = none ∧ G' p = none) → Q v H') (fun n a => ∀ G' H' cls d, Gr B H G' H' → ExOk T n a cls d H' → E cls d H')
theorem EP.call0 {m : R τ} {fM : τ → R ρ} (F : FnOk J.X.prog J.X.w J.X.K J.X.mg J.X.base (L2.CX J.X.prog J.X.w) k f fd ps (PrP J.T J.K encs fM)) (hr : Room k J.X.A) (hm : J.X.mg x = some (.ref f)) (hk : PySem.W.keepIn J.X.K (.ref f) = true) (hb : Binds J.X.K fd ps [])
    (ha : EA0 J Γ (e :: es) m encs) (hg : Gl J.X x := by rfl) (hdb : (x == ("__debug__" : Str)) = false := by decide) (he : starEach (e :: es) J.X.env = (false, eval e J.X.env) :: starEach es J.X.env := by rfl) (hpl : (backTo pos (starEach es J.X.env)).any (·.1) = false := by rfl) :
    EP J Γ (.Call (.Name x p) (e :: es) [] pos) (m.bind fM) :=
  ⟨pe_wk (pe_callS F hr hg hm hk hb (passAt J.tk) ha.pa hdb he hpl) fun σ H Q ⟨G, S, w⟩ => ⟨G, S, wp_mono (wp_bind.mp w) (fun t q vs G1 H1 g1 r1 =>
    ⟨G1, t, g1.gh, r1, wp_mono q (fun r q2 v fs G' H' g' o nd n => q2 v fs G' H' (g1.trans g') o nd fun p hp => ⟨ex_none g1.hh (n p hp).1, (n p hp).2⟩) fun n a z => erE_gr S g1 z⟩) fun _ _ z => z⟩⟩
theorem EP.call {Mk : ∀ {β : Type}, (τ → R β) → R β} {fM : τ → R ρ} (F : FnOk J.X.prog J.X.w J.X.K J.X.mg J.X.base (L2.CX J.X.prog J.X.w) k f fd ps (PrP J.T J.K encs fM)) (hr : Room k J.X.A) (hm : J.X.mg x = some (.ref f)) (hk : PySem.W.keepIn J.X.K (.ref f) = true) (hb : Binds J.X.K fd ps [])
    (ha : EA J Γ (e :: es) Mk encs) (hg : Gl J.X x := by rfl) (hdb : (x == ("__debug__" : Str)) = false := by decide) (he : starEach (e :: es) J.X.env = (false, eval e J.X.env) :: starEach es J.X.env := by rfl) (hpl : (backTo pos (starEach es J.X.env)).any (·.1) = false := by rfl) :
    EP J Γ (.Call (.Name x p) (e :: es) [] pos) (Mk fM) := by
  rw [ha.eq]; exact EP.call0 F hr hm hk hb ha.ea hg hdb he hpl
/-- what is owned stands over any heap -/
class ScP (α : Type) [Enc α] where
  sc : ∀ {K : PySem.W.Frag} {G G' H : Hp} {v : V} {a : α} {f : List Addr}, Own2 K G H v (enc a) f → Own2 K G' H v (enc a) f
theorem scA_own {K : PySem.W.Frag} {G G' H : Hp} [Scal ρ] : ∀ {xss : List (List ρ)} {vs : List V} {f : List Addr}, OwnA K G H vs (xss.map enc) f → OwnA K G' H vs (xss.map enc) f
  | [], vs, f, o => by
    rw [List.map_nil] at o ⊢
    cases o
    exact .nil
  | x :: xs, vs, f, o => by
    rw [List.map_cons] at o ⊢
    cases o with
    | cons a r =>
      refine .cons ?_ (scA_own r)
      rcases a with ⟨q, ws, ds, e1, e2, e3, h1, h2⟩ | ⟨n, _⟩
      · have e2 : PyData.list (x.map enc) = PyData.list ds := e2
        injection e2 with e2
        subst e2
        exact .inl ⟨q, ws, _, e1, rfl, e3, h1, scal_all h2⟩
      · exact absurd rfl (n (x.map enc))
instance [Scal ρ] : ScP (List (List ρ)) := ⟨fun {K G G' H v a f} o => by
  rcases o with ⟨q, ws, ds, fs, e1, e2, e3, h1, h2⟩ | ⟨n, _⟩
  · have e2 : PyData.list (a.map enc) = PyData.list ds := e2
    injection e2 with e2
    subst e2
    exact .inl ⟨q, ws, _, fs, e1, rfl, e3, h1, scA_own h2⟩
  · exact absurd rfl (n (a.map enc))⟩
theorem EP.callT0 [ScP ρ] {m : R τ} {fM : τ → R ρ} (F : FnOk J.X.prog J.X.w J.X.K J.X.mg J.X.base (L2.CX J.X.prog J.X.w) k f fd ps (PrP J.T J.K encs fM)) (hr : Room k J.X.A) (hm : J.X.mg x = some (.ref f)) (hk : PySem.W.keepIn J.X.K (.ref f) = true) (hb : Binds J.X.K fd ps [])
    (ha : EAT0 J Γ (e :: es) m encs) (hg : Gl J.X x := by rfl) (hdb : (x == ("__debug__" : Str)) = false := by decide) (he : starEach (e :: es) J.X.env = (false, eval e J.X.env) :: starEach es J.X.env := by rfl) (hpl : (backTo pos (starEach es J.X.env)).any (·.1) = false := by rfl) :
    EP J Γ (.Call (.Name x p) (e :: es) [] pos) (m.bind fM) :=
  ⟨pe_wk (pe_callS F hr hg hm hk hb (passAt J.tk) ha.pa hdb he hpl) fun σ H Q ⟨G, S, w⟩ => ⟨G, S, wp_mono (wp_bind.mp w) (fun t q vs G1 H1 g1 r1 =>
    ⟨H1, t, Ex.refl _, r1, wp_mono q (fun r q2 v fs G' H' g' o nd n => q2 v fs G1 H' (g1.trans (gr_top g1.gh g')) (ScP.sc o) nd fun p hp => ⟨ex_none g1.hh (n p hp).1, ex_none g1.gh (n p hp).1⟩) fun n a z G' H' cls d g' ok => z G1 H' cls d (S.gr (g1.trans (gr_top g1.gh g'))) ok⟩) fun _ _ z => z⟩⟩
theorem EP.callT [ScP ρ] {Mk : ∀ {β : Type}, (τ → R β) → R β} {fM : τ → R ρ} (F : FnOk J.X.prog J.X.w J.X.K J.X.mg J.X.base (L2.CX J.X.prog J.X.w) k f fd ps (PrP J.T J.K encs fM)) (hr : Room k J.X.A) (hm : J.X.mg x = some (.ref f)) (hk : PySem.W.keepIn J.X.K (.ref f) = true) (hb : Binds J.X.K fd ps [])
    (ha : EAT J Γ (e :: es) Mk encs) (hg : Gl J.X x := by rfl) (hdb : (x == ("__debug__" : Str)) = false := by decide) (he : starEach (e :: es) J.X.env = (false, eval e J.X.env) :: starEach es J.X.env := by rfl) (hpl : (backTo pos (starEach es J.X.env)).any (·.1) = false := by rfl) :
    EP J Γ (.Call (.Name x p) (e :: es) [] pos) (Mk fM) := by
  rw [ha.eq]; exact EP.callT0 F hr hm hk hb ha.ea hg hdb he hpl
theorem prP_S {T : CT} {K : PySem.W.Frag} {fM : τ → R ρ} {P : Program} {w : World} {mg : Str → Option Value} {base : Heap} {CX : CXT} (F : FnOk P w K mg base CX k f fd ps (PrP T K encs fM)) : FnOk P w K mg base CX k f fd ps (PrS T K encs fM) :=
  F.imp fun vs H Q E ⟨B, x, h1, h2, h3⟩ => ⟨B, x, h1, h2, wp_mono h3 (fun r q v fs G' H' g o nd n => by
    obtain ⟨e1, e2, e3⟩ := fzH_ok (fs := fs) g.gh fun p hp => (n p hp).2
    exact q v (fzH fs G' H') H' ⟨g.gg.trans e1, e2, g.hh, fun a u z => by
      by_cases ha : a ∈ fs
      · exact .inr (n a ha).1
      · rw [show fzH fs G' H' a = G' a from if_neg ha] at z
        exact g.nw a u z⟩ (o.fz e1 e3)) fun n a z => z⟩
end
/-! #### lists of lists of one's own change -/
section
variable {J : Jd} {Γ : List Sl} {a b e : Expr} {es : List Expr} {pos p p2 px py : Pos} {x y : Str} {α β τ ρ : Type} [Enc α] [Enc ρ] {out : β → Fl} {sts body : List Stmt}
theorem dp_list {K : PySem.W.Frag} {G H : Hp} {v : V} {xss : List α} {f : List Addr} (o : Own2 K G H v (enc xss) f) : ∃ p vs fs, v = .ref p ∧ f = p :: fs ∧ H p = some (.lst vs) ∧ OwnA K G H vs (xss.map enc) fs := by
  rcases o with ⟨p, vs, ds, fs, e1, e2, e3, h1, h2⟩ | ⟨n, _⟩
  · have e2 : PyData.list (xss.map enc) = PyData.list ds := e2
    injection e2 with e2
    subst e2
    exact ⟨p, vs, fs, e1, e3, h1, h2⟩
  · exact absurd rfl (n (xss.map enc))
/-- x.append(a new list) -/
theorem BS.pushF {i : Nat} {xss : List (List α)} {m : R (List α)} {call : Expr} (hc : ∀ te, PE J.X e te → PE J.X call (tBM J.X.K "list" rAppend (tVar i) (tCons te tNil))) (h : EF J Γ e m) (hp : PeOk J Γ) (hG : Γ[i]? = some (.dp (enc xss))) (hs : swapsWith call none p2.line J.X.env = pure false := by rfl) :
    BS J Γ (.Expr call p2) (m.bind fun a => pushM xss a) (fun ys => .nx (Γ.set i (.dp (enc ys)))) :=
  ⟨ps_wk (ps_expr (hc _ h.pe) hs) fun D σ H ⟨G, S, q⟩ => by
    obtain ⟨o, f, e1, ⟨_, v, rfl, ow⟩, nd, h3, upd'⟩ := S.openS hG
    obtain ⟨l, vs, fs, rfl, rfl, hl, oa⟩ := dp_list ow
    refine ⟨.ref l, e1, .inl ⟨rfl, _, .inl (.inl hl)⟩, G, S, wp_mono (wp_bind.mp q) (fun a k pq ws G' H' g n n' hq ra => ?_) fun n a z => erE_of hp z σ⟩
    unfold pushM at k
    by_cases hz : xss.length < 16777216
    · rw [if_pos hz] at k
      have hll := oa.length
      rw [List.length_map] at hll
      obtain ⟨nd1, nd2⟩ := List.nodup_cons.mp nd
      have hne : l ≠ pq := fun z => by rw [z, n] at hl; cases hl
      have hnf : pq ∉ fs := fun z => by
        obtain ⟨u, hu⟩ := oa.kd pq z
        rw [n] at hu; cases hu
      refine ⟨l, vs, .ref pq, rfl, rfl, g.hh _ _ hl, szlt.mpr (by rw [hll]; exact hz), ?_⟩
      refine k G' σ _ (upd' G' H' l _ _ (l :: (fs ++ [pq])) g (by simp) ?_ (fun r hr => ?_) ⟨dpR_gd _ _, .ref l, rfl, .inl ⟨l, vs ++ [.ref pq], (xss ++ [a]).map enc, fs ++ [pq], rfl, rfl, rfl, upd_same, ?_⟩⟩)
      · refine List.nodup_cons.mpr ⟨fun z => ?_, List.nodup_append.mpr ⟨nd2, by simp, fun a ha b hb e => ?_⟩⟩
        · rcases List.mem_append.mp z with z | z
          · exact nd1 z
          · rw [List.mem_singleton] at z; exact hne z
        · rw [List.mem_singleton] at hb
          rw [e, hb] at ha
          exact hnf ha
      · rcases List.mem_cons.mp hr with rfl | hr
        · exact .inl (by simp)
        · rcases List.mem_append.mp hr with hr | hr
          · exact .inl (List.mem_cons_of_mem _ hr)
          · rw [List.mem_singleton] at hr
            rw [hr]
            exact .inr ⟨n, h0_new S n, n'⟩
      · rw [List.map_append]
        refine OwnA.fr ((oa.gr g.gg g.hh).append (.cons (f := [pq]) (.inl ⟨pq, ws, a.map enc, rfl, rfl, rfl, hq, ra⟩) .nil)) fun z => ?_
        rcases List.mem_append.mp z with z | z
        · exact nd1 z
        · simp at z; exact hne z
    · rw [if_neg hz] at k; exact k.elim⟩
/-- a list of one's own once more -/
theorem flat_ow [NoList α] {K : PySem.W.Frag} {G H : Hp} : ∀ {xs : List α} {vs : List V} {f : List Addr}, OwnA K G H vs (xs.map enc) f → f = [] ∧ RpA K G vs (xs.map enc)
  | [], vs, f, o => by
    rw [List.map_nil] at o ⊢
    cases o
    exact ⟨rfl, .nil⟩
  | x :: xs, vs, f, o => by
    rw [List.map_cons] at o ⊢
    cases o with
    | cons a r =>
      obtain ⟨e, r2⟩ := flat_ow r
      rcases a with ⟨q, ws, ds, e1, e2, e3, h1, h2⟩ | ⟨n, e1, r1⟩
      · exact absurd e2 (NoList.nl x ds)
      · exact ⟨by rw [e1, e]; rfl, .cons r1 r2⟩
theorem BD.owOf [NoList α] {i : Nat} {xs : List α} {d : D} {m : R β} (hG : Γ[i]? = some (.dp d)) (hd : enc xs = d) (h : BD J (Γ.set i (.ow (xs.map enc))) sts m out) : BD J Γ sts m out := ⟨pss_wk h.ps fun D σ H ⟨G, S, q⟩ => by
  subst hd
  refine ⟨G, S.conv hG fun o f e ⟨_, v, ev, ow⟩ => ?_, q⟩
  obtain ⟨p, vs, fs, rfl, e2, h1, h2⟩ := dp_list ow
  obtain ⟨e3, r⟩ := flat_ow h2
  exact ⟨p, vs, by rw [e2, e3], ev, h1, r⟩⟩
/-- .. of a value of several kinds, where it is one -/
theorem BD.owY [NoList α] [DecidableEq α] [EncEq α] {i : Nat} {yv : Dy} {m : List α → R β} (hG : Γ[i]? = some (.dp (enc yv))) (h : ∀ xs : List α, BD J (Γ.set i (.ow (xs.map enc))) sts (m xs) out) : BD J Γ sts ((dnM yv).bind m) out := ⟨⟨fun pins s σ H D I ⟨G, S, q⟩ => by
  by_cases hx : ∃ a : List α, enc a = yv.d
  · obtain ⟨xs, hx⟩ := hx
    have e : (dnM yv : R (List α)) = .ok xs := dnM_up hx
    rw [e, ok_bind] at q
    exact (BD.owOf hG hx (h xs)).ps.run pins s σ H D I ⟨G, S, q⟩
  · have e : (dnM yv : R (List α)) = .stuck := by
      unfold dnM
      rw [dif_neg hx]
    rw [e] at q
    exact q.elim⟩⟩
theorem flatten_apart : ∀ {fs : List (List Addr)} {i : Nat} {f : List Addr}, fs.flatten.Nodup → fs[i]? = some f → ∀ q ∈ (fs.set i []).flatten, q ∉ f
  | [], i, f, _, e => by simp at e
  | g :: fs, 0, f, h, e => by
    simp at e; subst e
    rw [List.flatten_cons] at h
    obtain ⟨n1, n2, n3⟩ := List.nodup_append.mp h
    intro q hq hf
    rw [List.set_cons_zero, List.flatten_cons, List.nil_append] at hq
    exact n3 q hf q hq rfl
  | g :: fs, i + 1, f, h, e => by
    have e2 : fs[i]? = some f := by simpa using e
    rw [List.flatten_cons] at h
    obtain ⟨n1, n2, n3⟩ := List.nodup_append.mp h
    intro q hq hf
    rw [List.set_cons_succ, List.flatten_cons] at hq
    rcases List.mem_append.mp hq with z | z
    · exact n3 q z q (List.mem_flatten.mpr ⟨f, List.mem_of_getElem? e2, hf⟩) rfl
    · exact flatten_apart n2 e2 q z hf
/-- frozen as a whole -/
theorem SatG.freezeP {K : PySem.W.Frag} {c : Bs} {G H : Hp} {σ : L2.St} {i : Nat} {d : D} (S : SatG K c Γ G σ H) (e : Γ[i]? = some (.dp d)) : ∃ G', Ex G G' ∧ SatG K c (Γ.set i (.va d)) G' σ H := by
  obtain ⟨fs, h1, h2, h3⟩ := S.sl
  obtain ⟨o, f, e1, e2, ⟨_, v, rfl, ow⟩⟩ := h1.get e
  have hff : ∀ p ∈ f, p ∈ fs.flatten := fun p hp => List.mem_flatten.mpr ⟨f, List.mem_of_getElem? e2, hp⟩
  obtain ⟨z1, z2, z3⟩ := fzH_ok (fs := f) S.gh fun p hp => (h3 p (hff p hp)).1
  have hself : σ.set i (some v) = σ := by
    obtain ⟨hi, hv⟩ := List.getElem?_eq_some_iff.mp e1
    rw [← hv]; exact List.set_getElem_self hi
  have h4 := (h1.gg z1).set (i := i) (s := .va d) (o := some v) (f := []) ⟨rfl, v, rfl, ow.fz z1 z3⟩
  rw [hself] at h4
  have nd2 : (fs.set i []).flatten.Nodup := nodup_set h2 List.nodup_nil (fun p hp => by cases hp)
  have apart := flatten_apart h2 e2
  refine ⟨fzH f G H, z1, S.bg.trans z1, z2, S.h0, S.th, fun a u q nF n => ?_, S.fl.trans z1, fs.set i [], h4, nd2, fun q hq => ?_⟩
  · rw [show fzH f G H a = G a from if_neg fun hm => by
      rcases (h3 a (hff a hm)).2 with z | z
      · exact nF z
      · rw [z] at q; cases q]
    exact S.sep a u q nF n
  · rw [show fzH f G H q = G q from if_neg (apart q hq)]
    rcases flatten_set_sub q hq with z | z
    · exact h3 q z
    · cases z
theorem BD.freezeP {i : Nat} {d : D} {m : R β} (e : Γ[i]? = some (.dp d)) (h : BD J (Γ.set i (.va d)) sts m out) : BD J Γ sts m out := ⟨pss_wk h.ps fun D σ H ⟨G, S, q⟩ => by
  obtain ⟨G', _, S'⟩ := S.freezeP e
  exact ⟨G', S', q⟩⟩
/-! a loop that changes each of them -/
/-- .. the list itself, its footprint known -/
def dpW (p : Addr) (vs : List V) (fs : List Addr) (ds : List D) (K : PySem.W.Frag) (G H : Hp) (o : Option V) (f : List Addr) : Prop := o = some (.ref p) ∧ f = p :: fs ∧ H p = some (.lst vs) ∧ OwnA K G H vs ds fs
theorem dpW_gd (p : Addr) (vs : List V) (fs : List Addr) (ds : List D) (K : PySem.W.Frag) : Gd (dpW p vs fs ds K) := ⟨fun g h ⟨e1, e2, h1, h2⟩ => ⟨e1, e2, (h p (by rw [e2]; simp)).trans h1, h2.cg g fun q hq => h q (by rw [e2]; exact List.mem_cons_of_mem _ hq)⟩, fun ⟨e1, e2, h1, h2⟩ q hq => by
    rw [e2] at hq
    rcases List.mem_cons.mp hq with rfl | hq
    · exact ⟨_, h1, .inl ⟨vs, rfl⟩⟩
    · exact (h2.kd q hq).elim fun vs e => ⟨_, e, .inl ⟨vs, rfl⟩⟩⟩
/-- what a turn does with the list that y names -/
def tItem (J : Jd) (j : Nat) (Γ : List Sl) (f : List α → R (List α)) : TS := fun D σ H => ∃ G q ws xs, Sat J Γ G σ H ∧ σ[j]? = some (some (.ref q)) ∧ H q = some (.lst ws) ∧ RpA J.K G ws (xs.map enc) ∧
  (f xs).wp (fun ys => ∀ G' H' ws', Gr G H G' H' → RpA J.K G' ws' (ys.map enc) → D.nx σ (upd H' q (.lst ws'))) (ErB J)
structure BI (J : Jd) (j : Nat) (Γ : List Sl) (body : List Stmt) (f : List α → R (List α)) : Prop where
  ps : PSs J.X body (tItem J j Γ f)
theorem BI.app {j : Nat} {c : α} {call : Expr} (hc : ∀ te, PE J.X e te → PE J.X call (tBM J.X.K "list" rAppend (tVar j) (tCons te tNil))) (h : ES J Γ e (.ok c)) (hs : swapsWith call none p2.line J.X.env = pure false := by rfl) : BI J j Γ [.Expr call p2] (fun xs => pushM xs c) :=
  ⟨pss_one (ps_wk (ps_expr (hc _ h.pe) hs) fun D σ H ⟨G, q, ws, xs, S, e1, hq, r, k⟩ => by
    refine ⟨.ref q, e1, .inl ⟨rfl, _, .inl (.inl hq)⟩, G, S, fun v G' H' g ra => ?_⟩
    have k : (pushM xs c).wp _ _ := k
    unfold pushM at k
    by_cases hz : xs.length < 16777216
    · rw [if_pos hz] at k
      refine ⟨q, ws, v, rfl, rfl, g.hh _ _ hq, szlt.mpr (by rw [r.length, List.length_map]; exact hz), ?_⟩
      refine k G' H' _ g ?_
      rw [List.map_append]
      exact (r.ex g.gg).append (.cons ra .nil)
    · rw [if_neg hz] at k; exact k.elim)⟩
theorem BI.clear {j : Nat} {call : Expr} (hc : PE J.X call (tBM0 J.X.K "list" rClear (tVar j))) (hs : swapsWith call none p2.line J.X.env = pure false := by rfl) : BI J j Γ [.Expr call p2] (fun _ : List α => .ok []) :=
  ⟨pss_one (ps_wk (ps_expr hc hs) fun D σ H ⟨G, q, ws, xs, S, e1, hq, r, k⟩ => by
    refine ⟨.ref q, e1, .inl ⟨rfl, _, .inl (.inl hq)⟩, q, ws, rfl, rfl, hq, ?_⟩
    exact k G H _ (Gr.refl S.gh) .nil)⟩
/-- the walk over so many of them; r: the list that is walked -/
theorem items_go {i j n : Nat} {xss : List (List α)} {f : List α → R (List α)} {p r : Addr} {vs : List V} {fs : List Addr} {D : Ends} (hij : i ≠ j) (hi : i < Γ.length) (hn : n ≤ xss.length) (hlen : vs.length = xss.length) (ndp : (p :: fs).Nodup) (hr : r = p ∨ r ∉ fs) (hj : j < J.X.N.length) (hjl : j < Γ.length)
    (hb : ∀ (R : PySem.W.Frag → Hp → Hp → Option V → List Addr → Prop), BI J j ((Γ.set i (.gn R)).set j .no) body f) {G : Hp} {σ : L2.St} {H : Hp} (S : Sat J ((Γ.set i (.gn (dpW p vs fs (xss.map enc)))).set j .no) G σ H) (hrH : H r = some (.lst (vs.take n))) (hpr : r = p → n = vs.length)
    (q : (mpXGo f (xss.take n)).wp (fun ys => ∀ G σ H, Sat J ((Γ.set i (.gn (dpW p vs fs ((ys ++ xss.drop n).map enc)))).set j .no) G σ H → D.nx σ H) (ErB J)) :
    ∃ W : Nat → Nat → L2.St → Hp → Prop, (∃ m, W 0 m σ H) ∧ ∀ t m σ H, W t m σ H →
      ((Itl J.K r).stop t H ∧ D.nx σ H) ∨ ((Itl J.K r).go t H ∧ ∃ N : L2.St → Hp → Prop, (∀ σ' H', N σ' H' → ∃ m', m' < m ∧ W (t + 1) m' σ' H') ∧ ∀ x H', (Itl J.K r).yld t H x H' → gName j x σ H' fun σ2 H2 =>
        (fun D σ H => ∃ R, tItem J j ((Γ.set i (.gn R)).set j .no) f D σ H) { D with nx := N, ct := N, bk := D.nx } σ2 H2) := by
  refine ⟨fun t m σ2 H2 => m = n - t ∧ t ≤ n ∧ H2 r = some (.lst (vs.take n)) ∧ ∃ (done : List (List α)) (G2 : Hp), done.length = t ∧ Sat J ((Γ.set i (.gn (dpW p vs fs ((done ++ xss.drop t).map enc)))).set j .no) G2 σ2 H2 ∧
    (mpXGo f ((xss.take n).drop t)).wp (fun ys => ∀ G σ H, Sat J ((Γ.set i (.gn (dpW p vs fs ((done ++ ys ++ xss.drop n).map enc)))).set j .no) G σ H → D.nx σ H) (ErB J), ⟨n, by simp, Nat.zero_le _, hrH, [], G, rfl, S, q⟩, ?_⟩
  rintro t m σ2 H2 ⟨rfl, htn, hrH2, done, G2, hd, S2, k⟩
  have hij' : ((Γ.set i (.gn (dpW p vs fs ((done ++ xss.drop t).map enc)))).set j .no)[i]? = some (.gn (dpW p vs fs ((done ++ xss.drop t).map enc))) := by
    rw [List.getElem?_set_ne (Ne.symm hij), List.getElem?_set_self hi]
  have hlt' : (vs.take n).length = n := by rw [List.length_take]; omega
  by_cases hlt : t < n
  · have htx : t < xss.length := by omega
    refine .inr ⟨⟨vs.take n, (vs.take n)[t]'(by omega), .inl (.inl hrH2), List.getElem?_eq_getElem (by omega)⟩, fun σ' H' => n - (t + 1) = n - (t + 1) ∧ t + 1 ≤ n ∧ H' r = some (.lst (vs.take n)) ∧ ∃ (done : List (List α)) (G2 : Hp), done.length = t + 1 ∧ Sat J ((Γ.set i (.gn (dpW p vs fs ((done ++ xss.drop (t + 1)).map enc)))).set j .no) G2 σ' H' ∧
      (mpXGo f ((xss.take n).drop (t + 1))).wp (fun ys => ∀ G σ H, Sat J ((Γ.set i (.gn (dpW p vs fs ((done ++ ys ++ xss.drop n).map enc)))).set j .no) G σ H → D.nx σ H) (ErB J), fun σ' H' h => ⟨n - (t + 1), by omega, h⟩, fun x H' hy => ?_⟩
    obtain ⟨rfl, hy⟩ := hy
    have hx := hy (vs.take n) (.inl (.inl hrH2))
    have S3 : Sat J ((Γ.set i (.gn (dpW p vs fs ((done ++ xss.drop t).map enc)))).set j .no) G2 (σ2.set j (some x)) H' := by
      have := S2.setno (i := j) (o := some x)
      rwa [List.set_set] at this
    obtain ⟨o, f0, e1, ⟨_, rfl, rfl, hp, oa⟩, nd, h3, upd'⟩ := S3.openS hij'
    have hds : ((done ++ xss.drop t).map enc)[t]? = some (.list ((xss[t]).map enc)) := by
      rw [List.getElem?_map, List.getElem?_append_right (by omega), hd, Nat.sub_self, List.getElem?_drop, Nat.add_zero, List.getElem?_eq_getElem htx]
      rfl
    obtain ⟨q1, ws, f1, f2, v1, v2, h1, h2, kk⟩ := oa.at hds
    have hvx : vs[t]? = some x := by
      rw [List.getElem?_take] at hx
      rwa [if_pos hlt] at hx
    rw [v1] at hvx
    cases hvx
    have hσ : (σ2.set j (some (.ref q1)))[j]? = some (some (.ref q1)) := by
      rw [List.getElem?_set_self]
      have h5 := S2.sl
      obtain ⟨fs5, h6, _, _⟩ := h5
      have := h6.length
      rw [List.length_set, List.length_set] at this
      omega
    refine ⟨_, G2, q1, ws, xss[t], S3, hσ, h1, h2, ?_⟩
    have hdrop : (xss.take n).drop t = xss[t] :: (xss.take n).drop (t + 1) := by
      rw [List.drop_eq_getElem_cons (by rw [List.length_take]; omega)]
      simp
    rw [hdrop] at k
    have k : (R.bind (f xss[t]) fun y => R.bind (mpXGo f ((xss.take n).drop (t + 1))) fun ys => .ok (y :: ys)).wp _ _ := k
    refine wp_mono (wp_bind.mp k) (fun y k2 G4 H4 ws' g r' => ?_) fun _ _ z => z
    have hqp : q1 ≠ p := fun z => by
      have := (List.nodup_cons.mp nd).1
      rw [v2, ← z] at this
      exact this (by simp)
    have hqr : q1 ≠ r := by
      rcases hr with rfl | hr
      · exact hqp
      · exact fun z => hr (by rw [← z, v2]; simp)
    have hq12 : q1 ∉ f1 ++ f2 := by
      have := (List.nodup_cons.mp nd).2
      rw [v2] at this
      intro z
      obtain ⟨n1, n2, n3⟩ := List.nodup_append.mp this
      rcases List.mem_append.mp z with z | z
      · exact n3 q1 z q1 (by simp) rfl
      · exact (List.nodup_cons.mp n2).1 z
    refine ⟨rfl, hlt, by rw [upd_ne (Ne.symm hqr)]; exact g.hh _ _ hrH2, done ++ [y], G4, by rw [List.length_append, hd]; rfl, ?_, ?_⟩
    · have hset : ((done ++ xss.drop t).map (enc (α := List α))).set t (.list (y.map enc)) = ((done ++ [y]) ++ xss.drop (t + 1)).map enc := by
        rw [List.drop_eq_getElem_cons htx, List.map_append, List.map_append, List.map_append, List.set_append_right _ _ (by rw [List.length_map]; omega), List.length_map, hd, Nat.sub_self, List.append_assoc]
        rfl
      have S5 := upd' G4 H4 q1 (.lst ws') (.gn (dpW p vs fs (((done ++ xss.drop t).map enc).set t (.list (y.map enc))))) (p :: fs) g (by rw [v2]; simp) nd (fun q hq => .inl hq) ⟨dpW_gd _ _ _ _ _, rfl, rfl, by rw [upd_ne (Ne.symm hqp)]; exact g.hh _ _ hp, kk G4 H4 ws' _ g.gg g.hh hq12 r'⟩
      rw [hset, List.set_comm _ _ (Ne.symm hij), List.set_set] at S5
      exact S5
    · refine wp_mono (wp_bind.mp k2) (fun ys k3 => ?_) fun _ _ z => z
      have k3 : ∀ G σ H, Sat J ((Γ.set i (.gn (dpW p vs fs ((done ++ (y :: ys) ++ xss.drop n).map enc)))).set j .no) G σ H → D.nx σ H := k3
      rw [show done ++ [y] ++ ys = done ++ (y :: ys) by simp]
      exact k3
  · have ei : t = n := by omega
    subst ei
    have k : (mpXGo f ((xss.take t).drop t)).wp _ _ := k
    rw [List.drop_of_length_le (by rw [List.length_take]; omega)] at k
    have k : ∀ G σ H, Sat J ((Γ.set i (.gn (dpW p vs fs ((done ++ [] ++ xss.drop t).map enc)))).set j .no) G σ H → D.nx σ H := k
    rw [List.append_nil] at k
    exact .inl ⟨⟨vs.take t, .inl (.inl hrH2), by omega⟩, k G2 σ2 H2 S2⟩
theorem SatG.openR {K : PySem.W.Frag} {c : Bs} {G H : Hp} {σ : L2.St} (S : SatG K c Γ G σ H) {i : Nat} {s0 : Sl} (e : Γ[i]? = some s0) : ∃ o f, σ[i]? = some o ∧ SlAt K G H s0 o f ∧ f.Nodup ∧ ∀ s1, SlAt K G H s1 o f → SatG K c (Γ.set i s1) G σ H := by
  obtain ⟨fs, h1, h2, h3⟩ := S.sl
  obtain ⟨o, f, e1, e2, a⟩ := h1.get e
  have hself : σ.set i o = σ := by
    obtain ⟨hi, hv⟩ := List.getElem?_eq_some_iff.mp e1
    rw [← hv]; exact List.set_getElem_self hi
  have fself : fs.set i f = fs := by
    obtain ⟨hi, hv⟩ := List.getElem?_eq_some_iff.mp e2
    rw [← hv]; exact List.set_getElem_self hi
  have hf : f.Nodup := h2.sublist (List.sublist_flatten_of_mem (List.mem_of_getElem? e2))
  refine ⟨o, f, e1, a, hf, fun s1 a1 => ?_⟩
  have h4 := h1.set (i := i) a1
  rw [hself, fself] at h4
  exact ⟨S.bg, S.gh, S.h0, S.th, S.sep, S.fl, fs, h4, h2, h3⟩
theorem SatG.forget {K : PySem.W.Frag} {c : Bs} {G H : Hp} {σ : L2.St} (S : SatG K c Γ G σ H) (j : Nat) (hj : j < Γ.length) : SatG K c (Γ.set j .no) G σ H := by
  have hl : j < σ.length := by
    obtain ⟨fs, h1, _, _⟩ := S.sl
    rw [← h1.length]; exact hj
  have := S.setno (i := j) (o := σ[j])
  rwa [List.set_getElem_self] at this
theorem dp_of_W {K : PySem.W.Frag} {c : Bs} {G H : Hp} {σ : L2.St} {i j : Nat} {p : Addr} {vs : List V} {fs : List Addr} {yss : List α} (hij : i ≠ j) (hi : i < Γ.length) (S : SatG K c ((Γ.set i (.gn (dpW p vs fs (yss.map enc)))).set j .no) G σ H) : SatG K c ((Γ.set i (.dp (enc yss))).set j .no) G σ H := by
  have h := S.conv (i := i) (s0 := .gn (dpW p vs fs (yss.map enc))) (s1 := .dp (enc yss)) (by rw [List.getElem?_set_ne (Ne.symm hij), List.getElem?_set_self hi]) fun o f _ ⟨_, e1, e2, h1, h2⟩ => ⟨dpR_gd _ _, .ref p, e1, .inl ⟨p, vs, yss.map enc, fs, rfl, rfl, e2, h1, h2⟩⟩
  rwa [List.set_comm _ _ (Ne.symm hij), List.set_set] at h
/-- for y in x: each changes -/
theorem BS.forD {i j : Nat} {xss : List (List α)} {f : List α → R (List α)} (hN : J.X.N[i]? = some x) (hij : i ≠ j) (hjN : J.X.N.Nodup) (hj : J.X.N[j]? = some y) (hy : Loc J.X.env.scope y) (hG : Γ[i]? = some (.dp (enc xss))) (hjl : j < Γ.length) (hb : ∀ R, BI J j ((Γ.set i (.gn R)).set j .no) body f)
    (hc : J.X.calm = true := by rfl) (hs : ∀ z, foldedSetIterable (.Name x px) J.X.env z = pure z := by intro _; rfl) (hv : Vis J.X.env.scope x := by first | exact Or.inl rfl | exact Or.inr (Or.inl rfl) | exact Or.inr (Or.inr rfl))
    (hd : (x == ("__debug__" : Str)) = false := by decide) (hcd : (x == ("__classdict__" : Str)) = false := by decide) (hf : J.X.fn y = true ∨ J.X.env.scope.names.lookup y = some .local := by first | exact .inl rfl | exact .inr rfl) :
    BS J Γ (.For (.Name y py) (.Name x px) body [] pos) (mpXGo f xss) (fun yss => .nx ((Γ.set i (.dp (enc yss))).set j .no)) := by
  have hb' : PSs J.X body (fun D σ H => ∃ R, tItem J j ((Γ.set i (.gn R)).set j .no) f D σ H) := ⟨fun pins s σ H D I ⟨R, q⟩ => (hb R).ps.run pins s σ H D I q⟩
  have hi : i < Γ.length := (List.getElem?_eq_some_iff.mp hG).1
  refine ⟨ps_wk (ps_for J.po hc (pi_list (pe_var hN hv hd hcd)) (pg_name (i := j) hjN hj hy hf) hb' hs) fun D σ H ⟨G, S, q⟩ => ?_⟩
  obtain ⟨o, f0, e1, ⟨_, v, rfl, ow⟩, nd, conv⟩ := S.openR hG
  obtain ⟨p, vs, fs, rfl, rfl, hl, oa⟩ := dp_list ow
  have hlen : vs.length = xss.length := by rw [oa.length, List.length_map]
  have S1 := conv (.gn (dpW p vs fs (xss.map enc))) ⟨dpW_gd _ _ _ _ _, rfl, rfl, hl, oa⟩
  have S2 := S1.forget j (by rw [List.length_set]; exact hjl)
  refine ⟨.ref p, e1, p, rfl, ⟨vs, .inl (.inl hl)⟩, ?_⟩
  refine items_go (n := xss.length) hij hi (Nat.le_refl _) hlen nd (.inl rfl) (List.getElem?_eq_some_iff.mp hj).1 hjl hb S2 (by rw [← hlen, List.take_length]; exact hl) (fun _ => hlen.symm) ?_
  rw [List.take_length, List.drop_length]
  refine wp_mono q (fun yss k G σ H S3 => ?_) fun _ _ z => z
  rw [List.append_nil] at S3
  exact k G σ H (dp_of_W hij hi S3)
/-- for y in x[:k]: each of these changes -/
theorem BS.forDk {i j : Nat} {xss : List (List α)} {f : List α → R (List α)} {hi' : Option Expr} (n : Nat) (hh : EO J Γ hi' (.ok (some (n : Int)))) (hN : J.X.N[i]? = some x) (hij : i ≠ j) (hjN : J.X.N.Nodup) (hj : J.X.N[j]? = some y) (hy : Loc J.X.env.scope y) (hG : Γ[i]? = some (.dp (enc xss))) (hjl : j < Γ.length) (hb : ∀ R, BI J j ((Γ.set i (.gn R)).set j .no) body f)
    (hc : J.X.calm = true := by rfl) (hs : ∀ z, foldedSetIterable (.Subscript (.Name x px) (.Slice none hi' none p) p2) J.X.env z = pure z := by intro _; rfl) (hv : Vis J.X.env.scope x := by first | exact Or.inl rfl | exact Or.inr (Or.inl rfl) | exact Or.inr (Or.inr rfl))
    (hd : (x == ("__debug__" : Str)) = false := by decide) (hcd : (x == ("__classdict__" : Str)) = false := by decide) (hf : J.X.fn y = true ∨ J.X.env.scope.names.lookup y = some .local := by first | exact .inl rfl | exact .inr rfl) :
    BS J Γ (.For (.Name y py) (.Subscript (.Name x px) (.Slice none hi' none p) p2) body [] pos) ((mpXGo f (xss.take n)).bind fun ys => .ok (ys ++ xss.drop n)) (fun yss => .nx ((Γ.set i (.dp (enc yss))).set j .no)) := by
  have hb' : PSs J.X body (fun D σ H => ∃ R, tItem J j ((Γ.set i (.gn R)).set j .no) f D σ H) := ⟨fun pins s σ H D I ⟨R, q⟩ => (hb R).ps.run pins s σ H D I q⟩
  have hi : i < Γ.length := (List.getElem?_eq_some_iff.mp hG).1
  refine ⟨ps_wk (ps_for J.po hc (pi_list (pe_slice sl_list (pe_var hN hv hd hcd) (EO.nn (J := J) (Γ := Γ)).po hh.po)) (pg_name (i := j) hjN hj hy hf) hb' hs) fun D σ H ⟨G, S, q⟩ => ?_⟩
  obtain ⟨o, f0, e1, ⟨_, v, rfl, ow⟩, nd, conv⟩ := S.openR hG
  obtain ⟨p, vs, fs, rfl, rfl, hl, oa⟩ := dp_list ow
  have hlen : vs.length = xss.length := by rw [oa.length, List.length_map]
  refine ⟨.ref p, e1, G, S, fun G1 H1 g1 => ⟨G1, S.gr g1, fun G2 H2 g2 => ⟨p, vs, rfl, .inl (.inl ((g1.trans g2).hh _ _ hl)), fun r nr => ?_⟩⟩⟩
  have g := g1.trans g2
  have hcut : cutV vs none (some (n : Int)) = vs.take (min n xss.length) := by
    unfold cutV
    rw [HT.sIx_none, HT.sIx_nat, List.drop_zero, Nat.sub_zero, hlen]
  have g3 := Gr.loose (o := .lst (cutV vs none (some (n : Int)))) g.gh nr
  have g4 := g.trans g3
  have S1 := conv (.gn (dpW p vs fs (xss.map enc))) ⟨dpW_gd _ _ _ _ _, rfl, rfl, hl, oa⟩
  have S2 := (S1.forget j (by rw [List.length_set]; exact hjl)).gr g4
  refine ⟨r, rfl, ⟨_, .inl (.inl upd_same)⟩, ?_⟩
  have hrf : r ∉ fs := fun z => by
    obtain ⟨u, hu⟩ := oa.kd r z
    have := g.hh _ _ hu
    rw [nr] at this; cases this
  refine items_go (n := min n xss.length) hij hi (Nat.min_le_right _ _) hlen nd (.inr hrf) (List.getElem?_eq_some_iff.mp hj).1 hjl hb S2 (by rw [upd_same, hcut]) (fun z => by
    have := g.hh _ _ hl
    rw [← z, nr] at this; cases this) ?_
  have e5 : xss.take (min n xss.length) = xss.take n := by rw [List.take_eq_take_iff]; omega
  have e6 : xss.drop (min n xss.length) = xss.drop n := by
    by_cases hz : n ≤ xss.length
    · rw [Nat.min_eq_left hz]
    · rw [Nat.min_eq_right (by omega), List.drop_length, List.drop_of_length_le (by omega)]
  rw [e5, e6]
  refine wp_mono (wp_bind.mp q) (fun yss k G σ H S3 => ?_) fun _ _ z => z
  exact k G σ H (dp_of_W hij hi S3)
end
section
variable {P : Program} {w : World} {K : PySem.W.Frag} {mg : Str → Option Value} {base : Heap}
theorem fn_P {x qual : Str} {st : Stmt} {f : Addr} {fd : FuncData} {N ps : List Str} {k : Nat} {τ ρ : Type} [Enc ρ] {T : CT} {encs : τ → List D} {fM : τ → R ρ} (F : Fun K x qual st f fd) (S : FnScope N ps (defScope st)) (hlen : ∀ t, (encs t).length = ps.length)
    (body : ∀ (cdv : Value) (A : Around) (outer : List Env) (s : Shared) (H : Hp) (E : XK) (B : Hp) (t : τ), Room k (A.deeper (envOfC qual (defScope st) s.heap.objs.size f cdv)) →
      BD (dj P w K mg base T N qual (defScope st) f cdv A outer s H E B) (G0 (encs t) (N.length - ps.length)) (defBody st) (fM t) (fun r => .rg (dpR (enc r)))) : FnOk P w K mg base (L2.CX P w) (k + 1) f fd ps (PrP T K encs fM) := by
  refine F.okX S (fun vs H Q E ⟨B, t, _, r, _⟩ => by rw [r.length, hlen]) fun cdv A outer s H vs Q E hr ⟨B, t, eB, r, q⟩ => ⟨_, (body cdv A outer s H E B t hr).ps, B, ?_, wp_mono q (fun v k => ?_) fun n a z => ?_⟩
  · have h := sat_start (N := N) eB r
    rw [hlen] at h
    exact h
  · intro v fs G H' ed ⟨v', e, o⟩ nd n
    cases e
    exact k v fs G H' (ed_gr ed rfl) o nd fun p hp => ⟨(n p hp).1.elim (fun z => nomatch z) fun z => z, (n p hp).2⟩
  · exact fun σ H' cls d ⟨G, ed⟩ ok => z G H' cls d (ed_gr (c := ⟨B, H, [], fun _ => none⟩) ed rfl) ok
end
/-! #### .. in blocks that leave; a list handed over -/
section
variable {J : Jd} {Γ : List Sl} {e : Expr} {pos p p2 p3 : Pos} {x : Str} {α β : Type} [Enc α] {out : β → Fl} {sts : List Stmt}
theorem BX.retP {i : Nat} {d : D} (hN : J.X.N[i]? = some x) (hG : Γ[i]? = some (.dp d)) (nf : J.c.F0 = []) (j : β) (hj : out j = .rg (dpR d) := by rfl) (hv : Vis J.X.env.scope x := by first | exact Or.inl rfl | exact Or.inr (Or.inl rfl) | exact Or.inr (Or.inr rfl))
    (hd : (x == ("__debug__" : Str)) = false := by decide) (hcd : (x == ("__classdict__" : Str)) = false := by decide) : BX J Γ [.Return (some (.Name x p)) pos] (.ok j) out := ⟨BD.retP hN hG nf j hj hv hd hcd, fun b hb => by cases hb; rw [hj]; trivial⟩
theorem BX.retEP {m : R α} (h : EP J Γ e m) (hp : PeOk J Γ) (j : α → β) (hj : ∀ a, out (j a) = .rg (dpR (enc a)) := by intro _; rfl) : BX J Γ [.Return (some e) pos] (m.bind fun a => .ok (j a)) out := ⟨BD.retEP h hp j hj, fun b hb => by
  obtain ⟨a, _, e⟩ := bind_eq hb
  cases e
  rw [hj]; trivial⟩
theorem BD.retEP0 {out : α → Fl} {m : R α} (h : EP J Γ e m) (hp : PeOk J Γ) (hj : ∀ a, out a = .rg (dpR (enc a)) := by intro _; rfl) : BD J Γ [.Return (some e) pos] m out := by
  have h := BD.retEP (pos := pos) (out := out) h hp (fun a => a) hj
  rw [show (m.bind fun a => R.ok a) = m from bind_ok m] at h
  exact h
theorem BX.retEP0 {out : α → Fl} {m : R α} (h : EP J Γ e m) (hp : PeOk J Γ) (hj : ∀ a, out a = .rg (dpR (enc a)) := by intro _; rfl) : BX J Γ [.Return (some e) pos] m out := ⟨BD.retEP0 h hp hj, fun b _ => by rw [hj]; trivial⟩
theorem BX.freezeP {i : Nat} {d : D} {m : R β} (e : Γ[i]? = some (.dp d)) (h : BX J (Γ.set i (.va d)) sts m out) : BX J Γ sts m out := ⟨BD.freezeP e h.bd, h.lv⟩
theorem BX.owOf [NoList α] {i : Nat} {xs : List α} {d : D} {m : R β} (hG : Γ[i]? = some (.dp d)) (hd : enc xs = d) (h : BX J (Γ.set i (.ow (xs.map enc))) sts m out) : BX J Γ sts m out := ⟨BD.owOf hG hd h.bd, h.lv⟩
theorem BX.owY [NoList α] [DecidableEq α] [EncEq α] {i : Nat} {yv : Dy} {m : List α → R β} (hG : Γ[i]? = some (.dp (enc yv))) (h : ∀ xs : List α, BX J (Γ.set i (.ow (xs.map enc))) sts (m xs) out) : BX J Γ sts ((dnM yv).bind m) out := ⟨BD.owY hG fun xs => (h xs).bd, fun b hb => by
  obtain ⟨xs, _, e⟩ := bind_eq hb
  exact (h xs).lv b e⟩
/-- one's own list goes into another -/
theorem SatG.move {K : PySem.W.Frag} {c : Bs} {G H : Hp} {σ : L2.St} (S : SatG K c Γ G σ H) {i j : Nat} {s0 s2 : Sl} (hij : i ≠ j) (e : Γ[i]? = some s0) (e2 : Γ[j]? = some s2) : ∃ o f o2 f2, σ[i]? = some o ∧ SlAt K G H s0 o f ∧ σ[j]? = some o2 ∧ SlAt K G H s2 o2 f2 ∧ (f ++ f2).Nodup ∧
    ∀ (p : Addr) (ob : HO) (s1 : Sl) (f' : List Addr), p ∈ f → f'.Nodup → (∀ q ∈ f', q ∈ f ∨ q ∈ f2) → SlAt K G (upd H p ob) s1 o f' → SatG K c ((Γ.set j .no).set i s1) G σ (upd H p ob) := by
  obtain ⟨fs, h1, h2, h3⟩ := S.sl
  obtain ⟨o2, f2, x1, x2, a2⟩ := h1.get e2
  have hff2 : ∀ p ∈ f2, p ∈ fs.flatten := fun p hp => List.mem_flatten.mpr ⟨f2, List.mem_of_getElem? x2, hp⟩
  obtain ⟨o, f, y1, y2, a⟩ := h1.get e
  have hff : ∀ p ∈ f, p ∈ fs.flatten := fun p hp => List.mem_flatten.mpr ⟨f, List.mem_of_getElem? y2, hp⟩
  have hf : f.Nodup := h2.sublist (List.sublist_flatten_of_mem (List.mem_of_getElem? y2))
  have hf2 : f2.Nodup := h2.sublist (List.sublist_flatten_of_mem (List.mem_of_getElem? x2))
  have apart2 := flatten_apart h2 x2
  have y3 : (fs.set j [])[i]? = some f := by rw [List.getElem?_set_ne (Ne.symm hij)]; exact y2
  have hdis : ∀ q ∈ f, q ∉ f2 := fun q hq => apart2 q (List.mem_flatten.mpr ⟨f, List.mem_of_getElem? y3, hq⟩)
  -- j forgotten
  have hjl : j < Γ.length := (List.getElem?_eq_some_iff.mp e2).1
  have hselfj : σ.set j o2 = σ := by
    obtain ⟨hi, hv⟩ := List.getElem?_eq_some_iff.mp x1
    rw [← hv]; exact List.set_getElem_self hi
  refine ⟨o, f, o2, f2, y1, a, x1, a2, List.nodup_append.mpr ⟨hf, hf2, fun u hu v hv z => hdis u hu (z ▸ hv)⟩, fun p ob s1 f' hp nd hn a1 => ?_⟩
  obtain ⟨gp, n0⟩ := h3 p (hff p hp)
  have hself : σ.set i o = σ := by
    obtain ⟨hi, hv⟩ := List.getElem?_eq_some_iff.mp y1
    rw [← hv]; exact List.set_getElem_self hi
  have hN : SlsAt K G H (Γ.set j .no) σ (fs.set j []) := by
    have := h1.set (i := j) (s := .no) (o := o2) (f := []) rfl
    rwa [hselfj] at this
  have nd3 : (fs.set j []).flatten.Nodup := nodup_set h2 List.nodup_nil (fun p hp => by cases hp)
  have key : ∀ {Γ : List Sl} {σ : L2.St} {fs : List (List Addr)} {i : Nat}, SlsAt K G H Γ σ fs → fs.flatten.Nodup → fs[i]? = some f → SlsAt K G (upd H p ob) (Γ.set i s1) (σ.set i o) (fs.set i f') := by
    intro Γ σ fs i h
    induction h generalizing i with
    | nil => intro _ e; simp at e
    | @cons s o1 f1 Γ σ fs a1' r ih =>
      intro nd1 e3
      rw [List.flatten_cons] at nd1
      obtain ⟨n1, n2, n3⟩ := List.nodup_append.mp nd1
      have keep : ∀ {s : Sl} {o1 : Option V} {f1 : List Addr}, p ∉ f1 → SlAt K G H s o1 f1 → SlAt K G (upd H p ob) s o1 f1 := by
        intro s o1 f1 nm a
        cases s with
        | no => exact a
        | va d => exact a
        | rw v => exact a
        | dk kvs => obtain ⟨q, ws, e1, e2, h1, h2⟩ := a; exact ⟨q, ws, e1, e2, by rw [upd_ne (fun z => nm (by rw [e1, ← z]; simp))]; exact h1, h2⟩
        | gn R => exact ⟨a.1, a.1.fr nm a.2⟩
        | ow ds => obtain ⟨q, ws, e1, e2, h1, h2⟩ := a; exact ⟨q, ws, e1, e2, by rw [upd_ne (fun z => nm (by rw [e1, ← z]; simp))]; exact h1, h2⟩
      cases i with
      | zero =>
        simp at e3; subst e3
        refine .cons a1 ?_
        have nm : p ∉ fs.flatten := fun z => n3 p hp p z rfl
        clear ih n3 nd1 n2 a1'
        induction r with
        | nil => exact .nil
        | cons a r ih =>
          rw [List.flatten_cons] at nm
          exact .cons (keep (fun z => nm (List.mem_append_left _ z)) a) (ih fun z => nm (List.mem_append_right _ z))
      | succ i =>
        have e' : fs[i]? = some f := by simpa using e3
        exact .cons (keep (fun z => n3 p z p (List.mem_flatten.mpr ⟨f, List.mem_of_getElem? e', hp⟩) rfl) a1') (ih n2 e')
  have h4 := key hN nd3 y3
  rw [hself] at h4
  refine ⟨S.bg, fun a u q => ?_, fun a u q n => ?_, fun a u q => ?_, S.sep, S.fl, (fs.set j []).set i f', h4, nodup_set nd3 nd fun q hq => ?_, fun q hq => ?_⟩
  · rw [upd_ne (fun z => by rw [z, gp] at q; cases q)]; exact S.gh a u q
  · have hne : a ≠ p := fun z => by
      subst z
      rcases n0 with w | w
      · exact n w
      · rw [w] at q; cases q
    rw [upd_ne hne]; exact S.h0 a u q n
  · by_cases ha : a = p
    · subst ha; exact ⟨_, upd_same⟩
    · rw [upd_ne ha]; exact S.th a u q
  · rcases hn q hq with z | z
    · exact .inr ⟨f, y3, z⟩
    · exact .inl fun y => apart2 q y z
  · rcases flatten_set_sub q hq with z | z
    · rcases flatten_set_sub q z with z | z
      · exact h3 q z
      · cases z
    · rcases hn q z with y | y
      · exact h3 q (hff q y)
      · exact h3 q (hff2 q y)
/-- x.append(y), y a list of one's own that goes -/
theorem BS.pushMv {i j : Nat} {xss : List (List α)} {xs : List α} {call : Expr} (hc : PE J.X call (tBM J.X.K "list" rAppend (tVar i) (tCons (tVar j) tNil))) (hij : i ≠ j) (hG : Γ[i]? = some (.dp (enc xss))) (hG2 : Γ[j]? = some (.ow (xs.map enc))) (hs : swapsWith call none p2.line J.X.env = pure false := by rfl) :
    BS J Γ (.Expr call p2) (pushM xss xs) (fun ys => .nx ((Γ.set j .no).set i (.dp (enc ys)))) :=
  ⟨ps_wk (ps_expr hc hs) fun D σ H ⟨G, S, k⟩ => by
    obtain ⟨o, f, o2, f2, e1, ⟨_, v, rfl, ow⟩, e3, ⟨q, ws, rfl, rfl, hq, ra⟩, nd, upd'⟩ := S.move hij hG hG2
    obtain ⟨l, vs, fs, rfl, rfl, hl, oa⟩ := dp_list ow
    have hll := oa.length
    rw [List.length_map] at hll
    refine ⟨.ref l, e1, .inl ⟨rfl, _, .inl (.inl hl)⟩, .ref q, e3, ?_⟩
    unfold pushM at k
    by_cases hz : xss.length < 16777216
    · rw [if_pos hz] at k
      have nd' : (l :: (fs ++ [q])).Nodup := nd
      refine ⟨l, vs, .ref q, rfl, rfl, hl, szlt.mpr (by rw [hll]; exact hz), ?_⟩
      refine k G σ _ (upd' l _ _ (l :: (fs ++ [q])) (by simp) nd' (fun r hr => ?_) ⟨dpR_gd _ _, .ref l, rfl, .inl ⟨l, vs ++ [.ref q], (xss ++ [xs]).map enc, fs ++ [q], rfl, rfl, rfl, upd_same, ?_⟩⟩)
      · rcases List.mem_cons.mp hr with rfl | hr
        · exact .inl (by simp)
        · rcases List.mem_append.mp hr with hr | hr
          · exact .inl (List.mem_cons_of_mem _ hr)
          · exact .inr hr
      · rw [List.map_append]
        exact OwnA.fr (oa.append (.cons (f := [q]) (.inl ⟨q, ws, xs.map enc, rfl, rfl, rfl, hq, ra⟩) .nil)) fun z => (List.nodup_cons.mp nd').1 (by simpa using z)
    · rw [if_neg hz] at k; exact k.elim⟩
end
/-! #### .. cut, read now -/
section
variable {J : Jd} {Γ : List Sl} {e : Expr} {pos p p2 px : Pos} {x : Str} {α : Type} [Enc α]
theorem EV.sliceD {i : Nat} {xss : List α} {lo hi : Option Expr} {ml mh : R (Option Int)} (hN : J.X.N[i]? = some x) (hG : Γ[i]? = some (.dp (enc xss))) (hl : EO J Γ lo ml) (hh : EO J Γ hi mh) (hv : Vis J.X.env.scope x := by first | exact Or.inl rfl | exact Or.inr (Or.inl rfl) | exact Or.inr (Or.inr rfl))
    (hd : (x == ("__debug__" : Str)) = false := by decide) (hcd : (x == ("__classdict__" : Str)) = false := by decide) : EV J Γ (.Subscript (.Name x px) (.Slice lo hi none p2) pos) (ml.bind fun l => mh.bind fun h => .ok (cutL xss l h)) :=
  ⟨pe_wk (pe_slice sl_list (pe_var hN hv hd hcd) hl.po hh.po) fun σ H Q ⟨G, S, w⟩ => by
    obtain ⟨v, f, e1, ow, nd, h3⟩ := S.dp hG
    obtain ⟨p, vs, fs, rfl, rfl, hp, oa⟩ := dp_list ow
    have hlen : vs.length = xss.length := by rw [oa.length, List.length_map]
    refine ⟨.ref p, e1, G, S, wp_mono (wp_bind.mp w) (fun l k G1 H1 g1 => ⟨G1, S.gr g1, wp_mono (wp_bind.mp k) (fun h k2 G2 H2 g2 => ⟨p, vs, rfl, .inl (.inl ((g1.trans g2).hh _ _ hp)), fun q nq => ?_⟩) fun _ _ z => z⟩) fun _ _ z => z⟩
    have g := g1.trans g2
    have g3 := Gr.loose (o := .lst (cutV vs l h)) g.gh nq
    refine k2 (.ref q) G2 _ (g.trans g3) (Rp.lst (.inl (.inl upd_same)) ?_)
    rw [← cutL_map]
    have r := ((((oa.rp S.gh).ex g.hh).ex g3.hh).drop (HT.sIx vs.length 0 l)).take (HT.sIx vs.length vs.length h - HT.sIx vs.length 0 l)
    have e1 : (List.take (HT.sIx vs.length vs.length h - HT.sIx vs.length 0 l) (List.drop (HT.sIx vs.length 0 l) (xss.map enc))) = cutL (xss.map enc) l h := by unfold cutL; rw [hlen, List.length_map]
    rw [e1] at r
    exact r⟩
end
/-! ### 40. list(range(n)) -/
theorem vals_get : ∀ {xs : List V} {us : List Value}, xs.length = us.length → (∀ (i : Nat) x u, xs[i]? = some x → us[i]? = some u → RelV x u) → Vals xs us
  | [], [], _, _ => .nil
  | [], _ :: _, h, _ => by cases h
  | _ :: _, [], h, _ => by cases h
  | x :: xs, u :: us, h, k => .cons (k 0 x u rfl rfl) (vals_get (by simpa using h) fun i x u a b => k (i + 1) x u (by simpa using a) (by simpa using b))
theorem small_rng {n : Int} (h : -(2 ^ 62) ≤ n ∧ n < 2 ^ 62) : Builtin.Range.small 0 n 1 = true := PySem.small_one (by decide) (by decide) h.1 h.2
theorem cr_listR {X : Cx} (hcalm : X.calm = true) : CallR X (.type "list") (fun vs H Q => ∃ a n, vs = [V.ref a] ∧ H a = some (.rng 0 n) ∧ (-(2 ^ 62) ≤ n ∧ n ≤ 16777216) ∧ ∀ l, H l = none → Q (.ref l) (upd H l (.lst ((irange 0 n.toNat).map V.int)))) := by
  intro pins s σ H vs us Q I r h
  obtain ⟨a, n, rfl, ha, hn, q⟩ := h
  obtain ⟨u, rfl, rx⟩ := vals1 r
  cases rx
  obtain ⟨t0, t1, t2, ho⟩ := I.hok a _ ha
  have hsz : Builtin.Range.rangeSize 0 n 1 = (n.toNat : Int) := by
    unfold Builtin.Range.rangeSize
    rw [if_pos (by decide)]
    by_cases hz : 0 < n
    · rw [if_pos hz]; omega
    · rw [if_neg hz]; omega
  refine call_list_range (n := n.toNat) (I.ok.hd hcalm) ho ?_ hsz (by omega) fun h' tk acc' c' kp hl hit => ?_
  · exact small_rng (by omega)
  · refine ⟨.ref s.heap.objs.size, upd H s.heap.objs.size (.lst ((irange 0 n.toNat).map V.int)), I.laid (t' := tk) kp (Nat.le_refl _) ⟨?_, acc'.toList, c', ?_, ?_⟩, rfl, q _ (I.hok.fresh (Nat.le_refl _))⟩
    · rw [List.length_map, irange_length]
      exact szl.mpr (by omega)
    · refine vals_get (by rw [List.length_map, irange_length, Array.length_toList, hit.1]) fun i x u e1 e2 => ?_
      rw [List.getElem?_map] at e1
      have e2 : acc'[i]? = some u := by simpa using e2
      obtain ⟨t, rfl⟩ := hit.2 i u e2
      cases e3 : (irange 0 n.toNat)[i]? with
      | none => rw [e3] at e1; cases e1
      | some z =>
        rw [e3] at e1
        cases e1
        have hi := (List.getElem?_eq_some_iff.mp e3).1
        rw [irange_length] at hi
        rw [irange_get hi] at e3
        cases e3
        exact ⟨t, by simp⟩
    · simpa using hl
/-- the numbers under n -/
noncomputable def listR (n : Int) : R (List Int) := @ite _ (-(2 ^ 62) ≤ n ∧ n ≤ 16777216) (Classical.propDecidable _) (.ok (irange 0 n.toNat)) .stuck
theorem EF.listR {J : Jd} {Γ : List Sl} {a : Expr} {p p2 p3 pos : Pos} {m : R Int} (h : ES J Γ a m) (hm : J.X.mg "list" = none) (hm2 : J.X.mg "range" = none) (hc : J.X.calm = true := by rfl) (hg : Gl J.X "list" := by rfl) (hg2 : Gl J.X "range" := by rfl)
    (he : starEach (a :: []) J.X.env = (false, eval a J.X.env) :: starEach [] J.X.env := by rfl) (hpl : (backTo p3 (starEach [] J.X.env)).any (·.1) = false := by rfl)
    (he2 : starEach (Expr.Call (.Name "range" p2) [a] [] p3 :: []) J.X.env = (false, eval (Expr.Call (.Name "range" p2) [a] [] p3) J.X.env) :: starEach [] J.X.env := by rfl) : EF J Γ (.Call (.Name "list" p) [.Call (.Name "range" p2) [a] [] p3] [] pos) (m.bind fun n => M.listR n) :=
  ⟨pe_wk (pe_callTy (cr_listR hc) hg hm (by decide +kernel) (pa_cons (pe_callTy cr_range1_ hg2 hm2 (by decide +kernel) (pa_cons h.pe pa_nil he) (he := he) (hpl := hpl)) pa_nil he2) (he := he2)) fun σ H Q ⟨G, S, w⟩ => ⟨G, S, wp_mono (wp_bind.mp w) (fun n k v G1 H1 g1 r1 => by
    have e1 := Rp.unint r1
    subst e1
    unfold M.listR at k
    by_cases hz : -(2 ^ 62) ≤ n ∧ n ≤ 16777216
    · rw [if_pos hz] at k
      refine ⟨n, rfl, fun l hl => ⟨l, n, rfl, upd_same, hz, fun l2 hl2 => ?_⟩⟩
      have g2 := g1.trans (Gr.loose (o := .rng 0 n) g1.gh hl)
      have g3 := Gr.loose (o := .lst ((irange 0 n.toNat).map V.int)) g2.gh hl2
      exact k l2 _ G1 _ (g2.trans g3) (ex_none g2.hh hl2) (ex_none g2.gh hl2) upd_same (rp_ints _)
    · rw [if_neg hz] at k; exact k.elim) fun _ _ z => z⟩⟩
/-! ### 44. things with named parts: instances, dicts with written keys -/
/-- what stands at p: an instance of the class at C, or a dict -/
inductive RK where
  | ins (C : Addr)
  | dct
def RkAt : RK → HO → List (Str × V) → Prop
  | .ins C, u, vs => ∃ dx, u = .ins C dx vs
  | .dct, u, vs => u = .dK (vs.map fun p => (Sum.inr p.1, p.2))
section
variable {K : PySem.W.Frag} {G H G' H' : Hp}
theorem SlAt.cg {s : Sl} {o : Option V} {f : List Addr} (g : Ex G G') (h : ∀ p ∈ f, H' p = H p) (a : SlAt K G H s o f) : SlAt K G' H' s o f := by
  cases s with
  | no => exact a
  | va d => obtain ⟨e, v, h1, h2⟩ := a; exact ⟨e, v, h1, h2.ex g⟩
  | ow ds => obtain ⟨p, vs, e, h1, h2, h3⟩ := a; exact ⟨p, vs, e, h1, (h p (by rw [e]; simp)).trans h2, h3.ex g⟩
  | rw v => exact a
  | dk kvs => obtain ⟨p, kv, e, h1, h2, h3⟩ := a; exact ⟨p, kv, e, h1, (h p (by rw [e]; simp)).trans h2, h3.ex g⟩
  | gn R => exact ⟨a.1, a.1.cg g h a.2⟩
theorem SlAt.kd {s : Sl} {o : Option V} {f : List Addr} (a : SlAt K G H s o f) : ∀ p ∈ f, ∃ u, H p = some u ∧ HOm u := by
  cases s with
  | no => rw [show f = [] from a]; intro p hp; cases hp
  | va d => rw [a.1]; intro p hp; cases hp
  | ow ds => obtain ⟨q, vs, e, _, h1, _⟩ := a; intro p hp; rw [e, List.mem_singleton] at hp; subst hp; exact ⟨_, h1, .inl ⟨vs, rfl⟩⟩
  | rw v => rw [a.1]; intro p hp; cases hp
  | dk kvs => obtain ⟨q, vs, e, _, h1, _⟩ := a; intro p hp; rw [e, List.mem_singleton] at hp; subst hp; exact ⟨_, h1, .inr (.inl ⟨vs, rfl⟩)⟩
  | gn R => exact a.1.kd a.2
/-- the parts -/
inductive FlsAt (K : PySem.W.Frag) (G H : Hp) : List (Str × Sl) → List (Str × V) → List Addr → Prop where
  | nil : FlsAt K G H [] [] []
  | cons {x : Str} {s : Sl} {v : V} {f : List Addr} {fs : List (Str × Sl)} {vs : List (Str × V)} {g : List Addr} : SlAt K G H s (some v) f → FlsAt K G H fs vs g → FlsAt K G H ((x, s) :: fs) ((x, v) :: vs) (f ++ g)
theorem FlsAt.cg {fs : List (Str × Sl)} {vs : List (Str × V)} {f : List Addr} (g : Ex G G') (a : FlsAt K G H fs vs f) : (∀ p ∈ f, H' p = H p) → FlsAt K G' H' fs vs f := by
  induction a with
  | nil => intro _; exact .nil
  | cons a _ ih => intro h; exact .cons (a.cg g fun p hp => h p (List.mem_append_left _ hp)) (ih fun p hp => h p (List.mem_append_right _ hp))
theorem FlsAt.kd {fs : List (Str × Sl)} {vs : List (Str × V)} {f : List Addr} (a : FlsAt K G H fs vs f) : ∀ p ∈ f, ∃ u, H p = some u ∧ HOm u := by
  induction a with
  | nil => intro p hp; cases hp
  | cons a _ ih => intro p hp; exact (List.mem_append.mp hp).elim (a.kd p) (ih p)
theorem FlsAt.names {fs : List (Str × Sl)} {vs : List (Str × V)} {f : List Addr} (a : FlsAt K G H fs vs f) : vs.map (·.1) = fs.map (·.1) := by
  induction a with
  | nil => rfl
  | cons _ _ ih => rw [List.map_cons, List.map_cons, ih]
/-- the k-th part; another one in its place -/
theorem FlsAt.at {fs : List (Str × Sl)} {vs : List (Str × V)} {g : List Addr} (a : FlsAt K G H fs vs g) : ∀ {k : Nat} {x : Str} {s : Sl}, fs[k]? = some (x, s) → ∃ v g1 f g2, vs[k]? = some (x, v) ∧ g = g1 ++ (f ++ g2) ∧ SlAt K G H s (some v) f ∧
    ∀ (G' H' : Hp) (s' : Sl) (v' : V) (f' : List Addr), Ex G G' → (∀ p ∈ g1, H' p = H p) → (∀ p ∈ g2, H' p = H p) → SlAt K G' H' s' (some v') f' → FlsAt K G' H' (fs.set k (x, s')) (vs.set k (x, v')) (g1 ++ (f' ++ g2)) := by
  induction a with
  | nil => intro k x s e; simp at e
  | @cons y t w f fs vs g a r ih =>
    intro k x s e
    cases k with
    | zero =>
      simp at e
      obtain ⟨rfl, rfl⟩ := e
      refine ⟨w, [], f, g, rfl, rfl, a, fun G' H' s' v' f' e1 _ h2 a' => ?_⟩
      show FlsAt K G' H' _ _ (f' ++ g)
      exact .cons a' (r.cg e1 h2)
    | succ k =>
      obtain ⟨v, g1, f2, g2, e1, e2, a2, k2⟩ := ih (k := k) (by simpa using e)
      refine ⟨v, f ++ g1, f2, g2, by simpa using e1, by rw [e2, List.append_assoc], a2, fun G' H' s' v' f' e3 h1 h2 a' => ?_⟩
      rw [List.append_assoc]
      exact .cons (a.cg e3 fun p hp => h1 p (List.mem_append_left _ hp)) (k2 G' H' s' v' f' e3 (fun p hp => h1 p (List.mem_append_right _ hp)) h2 a')
theorem FlsAt.app {fs fs' : List (Str × Sl)} {vs vs' : List (Str × V)} {g g' : List Addr} (a : FlsAt K G H fs vs g) (b : FlsAt K G H fs' vs' g') : FlsAt K G H (fs ++ fs') (vs ++ vs') (g ++ g') := by
  induction a with
  | nil => exact b
  | cons h _ ih => rw [List.append_assoc]; exact .cons h ih
theorem lookup_at : ∀ {vs : List (Str × V)} {k : Nat} {x : Str} {v : V}, (vs.map (·.1)).Nodup → vs[k]? = some (x, v) → vs.lookup x = some v
  | [], k, x, v, _, e => by simp at e
  | (y, w) :: vs, 0, x, v, n, e => by
    simp at e
    obtain ⟨rfl, rfl⟩ := e
    simp [List.lookup]
  | (y, w) :: vs, k + 1, x, v, n, e => by
    rw [List.map_cons, List.nodup_cons] at n
    have e' : vs[k]? = some (x, v) := by simpa using e
    have hm : x ∈ vs.map (·.1) := List.mem_map.mpr ⟨(x, v), List.mem_of_getElem? e', rfl⟩
    have hne : (x == y) = false := beq_eq_false_iff_ne.mpr fun z => n.1 (z ▸ hm)
    simp only [List.lookup, hne]
    exact lookup_at n.2 e'
theorem lookup_no : ∀ {vs : List (Str × V)} {x : Str}, x ∉ vs.map (·.1) → vs.lookup x = none
  | [], _, _ => rfl
  | (y, w) :: vs, x, h => by
    rw [List.map_cons, List.mem_cons, not_or] at h
    have hne : (x == y) = false := beq_eq_false_iff_ne.mpr h.1
    simp only [List.lookup, hne]
    exact lookup_no h.2
theorem putF_at : ∀ {vs : List (Str × V)} {k : Nat} {x : Str} {v w : V}, (vs.map (·.1)).Nodup → vs[k]? = some (x, v) → putF x w vs = vs.set k (x, w)
  | [], k, x, v, w, _, e => by simp at e
  | (y, u) :: vs, 0, x, v, w, n, e => by
    simp at e
    obtain ⟨rfl, rfl⟩ := e
    simp [putF]
  | (y, u) :: vs, k + 1, x, v, w, n, e => by
    rw [List.map_cons, List.nodup_cons] at n
    have e' : vs[k]? = some (x, v) := by simpa using e
    have hm : x ∈ vs.map (·.1) := List.mem_map.mpr ⟨(x, v), List.mem_of_getElem? e', rfl⟩
    have hne : ¬ y = x := fun z => n.1 (z ▸ hm)
    rw [putF, if_neg hne, putF_at n.2 e', List.set_cons_succ]
theorem putF_no : ∀ {vs : List (Str × V)} {x : Str} {w : V}, x ∉ vs.map (·.1) → putF x w vs = vs ++ [(x, w)]
  | [], _, _, _ => rfl
  | (y, u) :: vs, x, w, h => by
    rw [List.map_cons, List.mem_cons, not_or] at h
    rw [putF, if_neg (Ne.symm h.1), putF_no h.2, List.cons_append]
/-- the dict's own words of it -/
def kvS (vs : List (Str × V)) : List (Key × V) := vs.map fun p => (Sum.inr p.1, p.2)
theorem valV_kvS : ∀ {vs : List (Str × V)} {x : Str}, valV (kvS vs) (Sum.inr x) = vs.lookup x
  | [], _ => rfl
  | (y, w) :: vs, x => by
    show valV ((Sum.inr y, w) :: kvS vs) (Sum.inr x) = _
    rw [valV_cons, List.lookup]
    by_cases h : y = x
    · subst h
      simp
    · rw [if_neg fun z => h (Sum.inr.inj z)]
      have hne : (x == y) = false := beq_eq_false_iff_ne.mpr fun z => h z.symm
      simp only [hne]
      exact valV_kvS
theorem putK_kvS {vs : List (Str × V)} {x : Str} {w : V} {k : Nat} {v : V} (n : (vs.map (·.1)).Nodup) (e : vs[k]? = some (x, v)) : putK (kvS vs) (Sum.inr x) w = kvS (vs.set k (x, w)) := by
  unfold putK
  have hm : ((kvS vs).any fun kv => decide (kv.1 = (Sum.inr x : Key))) = true := by
    rw [List.any_eq_true]
    exact ⟨(Sum.inr x, v), List.mem_map.mpr ⟨(x, v), List.mem_of_getElem? e, rfl⟩, by simp⟩
  rw [if_pos hm]
  clear hm
  induction vs generalizing k with
  | nil => simp at e
  | cons p vs ih =>
    obtain ⟨y, u⟩ := p
    rw [List.map_cons, List.nodup_cons] at n
    cases k with
    | zero =>
      simp at e
      obtain ⟨rfl, rfl⟩ := e
      rw [List.set_cons_zero]
      show (if (Sum.inr y : Key) = Sum.inr y then ((Sum.inr y : Key), w) else (Sum.inr y, u)) :: (kvS vs).map _ = (Sum.inr y, w) :: kvS vs
      rw [if_pos rfl]
      congr 1
      have : ∀ q ∈ kvS vs, (if q.1 = (Sum.inr y : Key) then (q.1, w) else q) = q := fun q hq => by
        obtain ⟨r, hr, rfl⟩ := List.mem_map.mp hq
        refine if_neg fun z => n.1 ?_
        rw [← show r.1 = y from Sum.inr.inj z]
        exact List.mem_map.mpr ⟨r, hr, rfl⟩
      exact (List.map_congr_left this).trans (List.map_id _)
    | succ k =>
      have e' : vs[k]? = some (x, v) := by simpa using e
      have hne : ¬ (y = x) := fun z => n.1 (z ▸ List.mem_map.mpr ⟨(x, v), List.mem_of_getElem? e', rfl⟩)
      rw [List.set_cons_succ]
      show (if (Sum.inr y : Key) = Sum.inr x then ((Sum.inr y : Key), w) else (Sum.inr y, u)) :: (kvS vs).map _ = (Sum.inr y, u) :: kvS (vs.set k (x, w))
      rw [if_neg fun z => hne (Sum.inr.inj z), ih n.2 e']
/-- the thing with its parts; op: where it stands, if that is to be kept -/
def recR (op : Option Addr) (rk : RK) (fs : List (Str × Sl)) (K : PySem.W.Frag) (G H : Hp) (o : Option V) (f : List Addr) : Prop :=
  ∃ p u vs g, o = some (.ref p) ∧ (∀ q, op = some q → q = p) ∧ f = p :: g ∧ H p = some u ∧ RkAt rk u vs ∧ FlsAt K G H fs vs g
theorem RkAt.m {rk : RK} {u : HO} {vs : List (Str × V)} (h : RkAt rk u vs) : HOm u := by
  cases rk with
  | ins C => obtain ⟨dx, rfl⟩ := h; exact .inr (.inr ⟨C, dx, vs, rfl⟩)
  | dct => cases (show u = _ from h); exact .inr (.inl ⟨_, rfl⟩)
theorem recR_gd (op : Option Addr) (rk : RK) (fs : List (Str × Sl)) (K : PySem.W.Frag) : Gd (recR op rk fs K) := ⟨fun g h ⟨p, u, vs, gg, e1, e2, e3, h1, h2, h3⟩ =>
    ⟨p, u, vs, gg, e1, e2, e3, (h p (by rw [e3]; simp)).trans h1, h2, h3.cg g fun q hq => h q (by rw [e3]; exact List.mem_cons_of_mem _ hq)⟩, fun ⟨p, u, vs, gg, e1, e2, e3, h1, h2, h3⟩ q hq => by
    rw [e3] at hq
    rcases List.mem_cons.mp hq with rfl | hq
    · exact ⟨u, h1, h2.m⟩
    · exact h3.kd q hq⟩
abbrev Sl.rc (op : Option Addr) (rk : RK) (fs : List (Str × Sl)) : Sl := .gn (recR op rk fs)
/-- .. that is but read: it stands as at the def's entry -/
def rdR (B H0 : Hp) (rk : RK) (fs : List (Str × Sl)) (K : PySem.W.Frag) (_ _ : Hp) (o : Option V) (f : List Addr) : Prop := f = [] ∧ ∃ fp, recR none rk fs K B H0 o fp
theorem rdR_gd (B H0 : Hp) (rk : RK) (fs : List (Str × Sl)) (K : PySem.W.Frag) : Gd (rdR B H0 rk fs K) := ⟨fun _ _ h => h, fun h p hp => by rw [h.1] at hp; cases hp⟩
abbrev Sl.rd (c : Bs) (rk : RK) (fs : List (Str × Sl)) : Sl := .gn (rdR c.B c.H0 rk fs)
end
/-- slot i holds such a thing -/
structure GetR (J : Jd) (Γ : List Sl) (i : Nat) (rk : RK) (fs : List (Str × Sl)) : Prop where
  g : ∀ {G : Hp} {σ : L2.St} {H : Hp}, Sat J Γ G σ H → ∃ p fp, σ[i]? = some (some (.ref p)) ∧ recR none rk fs J.K G H (some (.ref p)) fp
section
variable {J : Jd} {Γ : List Sl} {i : Nat} {rk : RK} {fs : List (Str × Sl)}
theorem recR.un {op : Option Addr} {K : PySem.W.Frag} {G H : Hp} {o : Option V} {f : List Addr} (h : recR op rk fs K G H o f) : ∃ p, o = some (.ref p) ∧ recR none rk fs K G H (some (.ref p)) f := by
  obtain ⟨p, u, vs, g, rfl, e2, e3, h1, h2, h3⟩ := h
  exact ⟨p, rfl, p, u, vs, g, rfl, (fun _ z => nomatch z), e3, h1, h2, h3⟩
theorem GetR.rc {op : Option Addr} (hG : Γ[i]? = some (.rc op rk fs)) : GetR J Γ i rk fs := ⟨fun S => by
  obtain ⟨o, f, e1, ⟨_, a⟩, _⟩ := S.get hG
  obtain ⟨p, rfl, a'⟩ := a.un
  exact ⟨p, f, e1, a'⟩⟩
theorem GetR.rd (hG : Γ[i]? = some (.rd J.c rk fs)) (nf : J.c.F0 = []) : GetR J Γ i rk fs := ⟨fun S => by
  obtain ⟨o, f, e1, ⟨_, _, fp, a⟩, _⟩ := S.get hG
  obtain ⟨p, rfl, a'⟩ := a.un
  exact ⟨p, fp, e1, (recR_gd none rk fs J.K).gr S.bg (fun a o z => S.h0 a o z (by rw [nf]; simp)) a'⟩⟩
end
/-- an expression that reads the part f of what stands in slot i -/
structure RdF (J : Jd) (e : Expr) (i : Nat) (rk : RK) (f : Str) : Prop where
  pe : PE J.X e (fun σ H Q => ∃ p u vs v, σ[i]? = some (some (.ref p)) ∧ H p = some u ∧ RkAt rk u vs ∧ vs.lookup f = some v ∧ Q v H)
section
variable {J : Jd} {Γ : List Sl} {i k : Nat} {rk : RK} {fs : List (Str × Sl)} {e b : Expr} {f x : Str} {pos p : Pos} {α : Type} [Enc α]
theorem RdF.ins {C : Addr} (hN : J.X.N[i]? = some x) (c : Cls J.K C) (n : NoAttr J.K C f) (hb : attributeBase (.Name x p) f J.X.env (eval (.Name x p) J.X.env) = eval (.Name x p) J.X.env := by rfl) (hv : Vis J.X.env.scope x := by first | exact Or.inl rfl | exact Or.inr (Or.inl rfl) | exact Or.inr (Or.inr rfl))
    (hd : (x == ("__debug__" : Str)) = false := by decide) (hcd : (x == ("__classdict__" : Str)) = false := by decide) : RdF J (.Attribute (.Name x p) f pos) i (.ins C) f :=
  ⟨pe_wk (pe_fld (pe_var hN hv hd hcd) hb) fun σ H Q ⟨p, u, vs, v, e1, h1, ⟨dx, h2⟩, h3, q⟩ => ⟨.ref p, e1, p, C, dx, vs, v, rfl, by rw [h1, h2], c, n, h3, q⟩⟩
theorem RdF.dct {j : Nat} {q : Pos} (hu : J.X.A.units + 1 < cLine) (hN : J.X.N[i]? = some x) (hns : NoSl (.Constant (.str f) j q) := by intro _ _; rfl) (hv : Vis J.X.env.scope x := by first | exact Or.inl rfl | exact Or.inr (Or.inl rfl) | exact Or.inr (Or.inr rfl))
    (hd : (x == ("__debug__" : Str)) = false := by decide) (hcd : (x == ("__classdict__" : Str)) = false := by decide) : RdF J (.Subscript (.Name x p) (.Constant (.str f) j q) pos) i .dct f :=
  ⟨pe_wk (pe_dget hu (pe_var hN hv hd hcd) pe_str hns) fun σ H Q ⟨p, u, vs, v, e1, h1, h2, h3, q⟩ => by
    cases (show u = _ from h2)
    refine ⟨.ref p, e1, p, v, rfl, ?_, q⟩
    rw [← h3, ← valV_kvS]
    exact DGet.k (k := Sum.inr f) h1⟩
/-- what is read there -/
theorem GetR.rdf {s : Sl} (g : GetR J Γ i rk fs) (hf : fs[k]? = some (f, s)) (nd : (fs.map (·.1)).Nodup) {G : Hp} {σ : L2.St} {H : Hp} (S : Sat J Γ G σ H) : ∃ p u vs v fp, σ[i]? = some (some (.ref p)) ∧ H p = some u ∧ RkAt rk u vs ∧ vs.lookup f = some v ∧ SlAt J.K G H s (some v) fp := by
  obtain ⟨p, fp, e1, p', u, vs, gg, e2, _, e3, h1, h2, h3⟩ := g.g S
  cases e2
  obtain ⟨v, g1, f2, g2, e4, e5, a, _⟩ := h3.at hf
  exact ⟨p, u, vs, v, f2, e1, h1, h2, lookup_at (by rw [h3.names]; exact nd) e4, a⟩
theorem ES.fd {a : α} (r : RdF J e i rk f) (g : GetR J Γ i rk fs) (k : Nat) (hf : fs[k]? = some (f, .va (enc a))) (nd : (fs.map (·.1)).Nodup) : ES J Γ e (.ok a) :=
  ⟨pe_wk r.pe fun σ H Q ⟨G, S, w⟩ => by
    obtain ⟨p, u, vs, v, fp, e1, h1, h2, h3, _, v', ev, rv⟩ := g.rdf hf nd S
    cases ev
    exact ⟨p, u, vs, v, e1, h1, h2, h3, w v G H (Gr.refl S.gh) rv⟩⟩
theorem EL.fd {a : List α} (r : RdF J e i rk f) (g : GetR J Γ i rk fs) (k : Nat) (hf : fs[k]? = some (f, .ow (a.map enc))) (nd : (fs.map (·.1)).Nodup) : EL J Γ e (.ok a) :=
  ⟨pe_wk r.pe fun σ H Q ⟨G, S, w⟩ => by
    obtain ⟨p, u, vs, v, fp, e1, h1, h2, h3, q, ws, _, ev, hq, rv⟩ := g.rdf hf nd S
    cases ev
    exact ⟨p, u, vs, .ref q, e1, h1, h2, h3, w q ws G H (Gr.refl S.gh) (.inl (.inl hq)) rv⟩⟩
theorem EV.fd {a : α} (r : RdF J e i rk f) (g : GetR J Γ i rk fs) (k : Nat) (hf : fs[k]? = some (f, .dp (enc a))) (nd : (fs.map (·.1)).Nodup) : EV J Γ e (.ok a) :=
  ⟨pe_wk r.pe fun σ H Q ⟨G, S, w⟩ => by
    obtain ⟨p, u, vs, v, fp, e1, h1, h2, h3, _, v', ev, ow⟩ := g.rdf hf nd S
    cases ev
    exact ⟨p, u, vs, v, e1, h1, h2, h3, w v G H (Gr.refl S.gh) (ow.rp S.gh)⟩⟩
/-- xs[k] of what stands for a list now -/
theorem EV.ixV {m1 : R (List α)} {m2 : R Int} (ha : EV J Γ e m1) (hb : ES J Γ b m2) (hs : PlainIx b := by intro _ _; rfl) : EV J Γ (.Subscript e b pos) (m1.bind fun xs => m2.bind fun i => ixM xs i) :=
  ⟨pe_wk (pe_ix ix_list ha.pe hb.pe hs) fun σ H Q ⟨G, S, w⟩ => ⟨G, S, wp_mono (wp_bind.mp w) (fun xs k v G1 H1 g1 r1 => ⟨G1, S.gr g1, wp_mono (wp_bind.mp k) (fun z k2 u G2 H2 g2 r2 => by
    obtain ⟨y, hy, k3⟩ := ixM_wp k2
    have ez := Rp.unint r2
    subst ez
    obtain ⟨l, vs, rfl, hl, rv⟩ := Rp.unlst (r1.ex g2.hh)
    obtain ⟨w, hw, rw'⟩ := atI_rp rv (show atI (xs.map enc) z = some (enc y) by rw [atI_map, hy]; rfl)
    exact ⟨l, vs, z, w, rfl, rfl, hl, hw, k3 w G2 H2 (g1.trans g2) rw'⟩) fun _ _ z => z⟩) fun _ _ z => z⟩⟩
end
/-! ### 45. parts stored anew, lists in them changed -/
theorem putK_kvS' {vs : List (Str × V)} {x : Str} {w : V} (n : (vs.map (·.1)).Nodup) : putK (kvS vs) (Sum.inr x) w = kvS (putF x w vs) := by
  by_cases h : x ∈ vs.map (·.1)
  · obtain ⟨⟨y, v⟩, hp, rfl⟩ := List.mem_map.mp h
    obtain ⟨k, hk⟩ := List.mem_iff_getElem?.mp hp
    rw [putK_kvS n hk, putF_at n hk]
  · rw [putF_no h, putK_new]
    · unfold kvS
      rw [List.map_append]
      rfl
    · rw [valV_kvS, lookup_no h]
theorem flatten_set_sub' {fs : List (List Addr)} {i : Nat} {f f' : List Addr} (nd : fs.flatten.Nodup) (e : fs[i]? = some f) : ∀ p ∈ (fs.set i f').flatten, p ∉ f ∨ p ∈ f' := by
  intro p hp
  by_cases h : p ∈ f'
  · exact .inr h
  · refine .inl fun hf => ?_
    have h2 : p ∈ (fs.set i []).flatten := by
      obtain ⟨l, hl, hp⟩ := List.mem_flatten.mp hp
      obtain ⟨j, hj⟩ := List.mem_iff_getElem?.mp hl
      rw [List.getElem?_set] at hj
      by_cases hij : i = j
      · subst hij
        rw [if_pos rfl] at hj
        split at hj
        · cases hj; exact absurd hp h
        · cases hj
      · rw [if_neg hij] at hj
        exact List.mem_flatten.mpr ⟨l, List.mem_of_getElem? (i := j) (by rw [List.getElem?_set, if_neg hij]; exact hj), hp⟩
    exact flatten_apart nd e p h2 hf
section
variable {K : PySem.W.Frag} {c : Bs} {Γ : List Sl} {G H : Hp} {σ : L2.St}
/-- the thing in slot i at hand -/
theorem SatG.recO (S : SatG K c Γ G σ H) {i : Nat} {op : Option Addr} {rk : RK} {fs : List (Str × Sl)} (e : Γ[i]? = some (.rc op rk fs)) : ∃ p u vs g, σ[i]? = some (some (.ref p)) ∧ (∀ q, op = some q → q = p) ∧ H p = some u ∧ RkAt rk u vs ∧ FlsAt K G H fs vs g ∧ (p :: g).Nodup ∧
    (∀ q ∈ p :: g, G q = none ∧ (q ∈ c.F0 ∨ c.H0 q = none)) ∧
    (∀ (G' H' : Hp) (q : Addr) (ob : HO) (fs' : List (Str × Sl)) (f' : List Addr), Gr G H G' H' → q ∈ p :: g → f'.Nodup → (∀ r ∈ f', r ∈ p :: g ∨ (H r = none ∧ G' r = none)) → recR none rk fs' K G' (upd H' q ob) (some (.ref p)) f' → SatG K c (Γ.set i (.rc op rk fs')) G' σ (upd H' q ob)) := by
  obtain ⟨o, f, e1, ⟨_, a⟩, nd, h3, upd'⟩ := S.openS e
  obtain ⟨p, u, vs, g, rfl, hop, rfl, h1, h2, h4⟩ := a
  refine ⟨p, u, vs, g, e1, hop, h1, h2, h4, nd, h3, fun G' H' q ob fs' f' gr hq nd' hn a' => ?_⟩
  refine upd' G' H' q ob (.rc op rk fs') f' gr hq nd' (fun r hr => (hn r hr).imp id fun z => ⟨z.1, h0_new S z.1, z.2⟩) ⟨recR_gd _ _ _ _, ?_⟩
  obtain ⟨p', u', vs', g', e2, _, e3⟩ := a'
  cases e2
  exact ⟨p, u', vs', g', rfl, hop, e3⟩
/-- a list that is a part is frozen -/
theorem SatG.ffreeze (S : SatG K c Γ G σ H) {i k : Nat} {op : Option Addr} {rk : RK} {fs : List (Str × Sl)} {f : Str} {ds : List D} (e : Γ[i]? = some (.rc op rk fs)) (hf : fs[k]? = some (f, .ow ds)) : ∃ G', Ex G G' ∧ SatG K c (Γ.set i (.rc op rk (fs.set k (f, .va (.list ds))))) G' σ H := by
  obtain ⟨ps, h1, h2, h3⟩ := S.sl
  obtain ⟨o, f0, e1, e2, ⟨_, p, u, vs, g, rfl, hop, rfl, hp, hrk, hfl⟩⟩ := h1.get e
  obtain ⟨v, g1, f2, g2, e4, e5, ⟨q, ws, rfl, ev, hq, rv⟩, k1⟩ := hfl.at hf
  cases ev
  have hff : ∀ r ∈ p :: g, r ∈ ps.flatten := fun r hr => List.mem_flatten.mpr ⟨p :: g, List.mem_of_getElem? e2, hr⟩
  have hqg : q ∈ p :: g := by rw [e5]; simp
  obtain ⟨gq, nq⟩ := h3 q (hff q hqg)
  have eg : Ex G (upd G q (.lst ws)) := Ex.new gq
  have hself : σ.set i (some (.ref p)) = σ := by
    obtain ⟨hi, hv⟩ := List.getElem?_eq_some_iff.mp e1
    rw [← hv]; exact List.set_getElem_self hi
  have nd0 : (p :: g).Nodup := h2.sublist (List.sublist_flatten_of_mem (List.mem_of_getElem? e2))
  have k2 := k1 (upd G q (.lst ws)) H (.va (.list ds)) (.ref q) [] eg (fun _ _ => rfl) (fun _ _ => rfl) ⟨rfl, .ref q, rfl, Rp.lst (.inl (.inl upd_same)) (rv.ex eg)⟩
  have hvs : vs.set k (f, .ref q) = vs := by
    obtain ⟨hi, hv⟩ := List.getElem?_eq_some_iff.mp e4
    rw [← hv]; exact List.set_getElem_self hi
  rw [hvs] at k2
  have nd1 : (p :: (g1 ++ ([] ++ g2))).Nodup := by
    rw [e5] at nd0
    refine nd0.sublist ?_
    exact (List.Sublist.append (List.Sublist.refl g1) (List.sublist_append_right [q] g2)).cons_cons p
  have sub : ∀ r ∈ p :: (g1 ++ ([] ++ g2)), r ∈ p :: g ∧ r ≠ q := fun r hr => by
    rw [e5] at nd0 ⊢
    obtain ⟨n1, n2⟩ := List.nodup_cons.mp nd0
    obtain ⟨n3, n4, n5⟩ := List.nodup_append.mp n2
    rcases List.mem_cons.mp hr with rfl | hr
    · exact ⟨by simp, fun z => n1 (by rw [z]; simp)⟩
    · rcases List.mem_append.mp hr with hr | hr
      · exact ⟨by simp [hr], fun z => n5 r hr q (by simp) z⟩
      · rw [List.nil_append] at hr
        refine ⟨by simp [hr], fun z => ?_⟩
        subst z
        exact (List.nodup_cons.mp (show (r :: g2).Nodup from n4)).1 hr
  have h4 := (h1.gg eg).set (i := i) (s := .rc op rk (fs.set k (f, .va (.list ds)))) (o := some (.ref p)) (f := p :: (g1 ++ ([] ++ g2))) ⟨recR_gd _ _ _ _, p, u, vs, g1 ++ ([] ++ g2), rfl, hop, rfl, hp, hrk, k2⟩
  rw [hself] at h4
  refine ⟨upd G q (.lst ws), eg, S.bg.trans eg, fun a u z => ?_, S.h0, S.th, fun a u z nF n => ?_, S.fl.trans eg, ps.set i (p :: (g1 ++ ([] ++ g2))), h4, nodup_set h2 nd1 (fun r hr => .inr ⟨p :: g, e2, (sub r hr).1⟩), fun r hr => ?_⟩
  · by_cases ha : a = q
    · subst ha; rw [upd_same] at z; rw [← z]; exact hq
    · rw [upd_ne ha] at z; exact S.gh a u z
  · by_cases ha : a = q
    · subst ha
      rcases nq with y | y
      · exact absurd y nF
      · rw [y] at z; cases z
    · rw [upd_ne ha]; exact S.sep a u z nF n
  · have hne : r ≠ q := fun z => by
      subst z
      rcases flatten_set_sub' h2 e2 r hr with y | y
      · exact y hqg
      · exact (sub r y).2 rfl
    rw [upd_ne hne]
    rcases flatten_set_sub r hr with y | y
    · exact h3 r y
    · exact h3 r (hff r (sub r y).1)
end
/-! ### 46. a part gets another value -/
/-- a value that may be stored -/
def tX (J : Jd) (Γ : List Sl) {β : Type} (m : R β) (sl : β → Sl) : TE := fun σ H Q => ∃ G, Sat J Γ G σ H ∧
  m.wp (fun b => ∀ v f G' H', Gr G H G' H' → f.Nodup → (∀ p ∈ f, H p = none ∧ G' p = none) → SlAt J.K G' H' (sl b) (some v) f → Q v H') (ErE J Γ σ)
structure EX (J : Jd) (Γ : List Sl) (e : Expr) {β : Type} (m : R β) (sl : β → Sl) : Prop where
  pe : PE J.X e (tX J Γ m sl)
section
variable {J : Jd} {Γ : List Sl} {i k : Nat} {rk : RK} {fs : List (Str × Sl)} {e b tg call : Expr} {f x : Str} {pos p p2 : Pos} {α β : Type} [Enc α]
theorem ES.xx {m : R α} (h : ES J Γ e m) : EX J Γ e m (fun a => .va (enc a)) := ⟨pe_wk h.pe fun σ H Q ⟨G, S, w⟩ => ⟨G, S, wp_mono w (fun a k v G' H' g r => k v [] G' H' g List.nodup_nil (fun p hp => by cases hp) ⟨rfl, v, rfl, r⟩) fun _ _ z => z⟩⟩
theorem EF.xx {m : R (List α)} (h : EF J Γ e m) : EX J Γ e m (fun a => .ow (a.map enc)) := ⟨pe_wk h.pe fun σ H Q ⟨G, S, w⟩ => ⟨G, S, wp_mono w (fun a k p vs G' H' g n n' hp r => k (.ref p) [p] G' H' g (by simp) (fun q hq => by rw [List.mem_singleton] at hq; subst hq; exact ⟨n, n'⟩) ⟨p, vs, rfl, rfl, hp, r⟩) fun _ _ z => z⟩⟩
theorem EP.xx {m : R α} (h : EP J Γ e m) : EX J Γ e m (fun a => .dp (enc a)) := ⟨pe_wk h.pe fun σ H Q ⟨G, S, w⟩ => ⟨G, S, wp_mono w (fun a k v f G' H' g o nd n => k v f G' H' g nd n ⟨dpR_gd _ _, v, rfl, o⟩) fun _ _ z => z⟩⟩
end
theorem tX_mono {J : Jd} {Γ : List Sl} {β : Type} {m : R β} {sl : β → Sl} {σ : L2.St} {H : Hp} {Q Q' : VK} (h : tX J Γ m sl σ H Q) (hq : ∀ v H, Q v H → Q' v H) : tX J Γ m sl σ H Q' := by
  obtain ⟨G, S, w⟩ := h
  exact ⟨G, S, wp_mono w (fun b k v f G' H' g nd n a => hq _ _ (k v f G' H' g nd n a)) fun _ _ z => z⟩
/-- the part f of what stands in slot i is stored -/
structure WrF (J : Jd) (tg : Expr) (i : Nat) (rk : RK) (f : Str) : Prop where
  ps : ∀ {e : Expr} {pos : Pos} {Γ : List Sl} {β : Type} {m : R β} {sl : β → Sl}, EX J Γ e m sl → swapsWith e (some tg) pos.line J.X.env = pure false → PS J.X (.Assign [tg] e pos) (fun D σ H => tX J Γ m sl σ H fun y H1 => ∃ p u vs, σ[i]? = some (some (.ref p)) ∧ H1 p = some u ∧ RkAt rk u vs ∧ vs.length < 900 ∧ (vs.map (·.1)).Nodup ∧
    ∀ u', RkAt rk u' (putF f y vs) → D.nx σ (upd H1 p u'))
section
variable {J : Jd} {Γ : List Sl} {i k : Nat} {op : Option Addr} {rk : RK} {fs : List (Str × Sl)} {e b tg call : Expr} {f x : Str} {pos p p2 : Pos} {α β : Type} [Enc α]
theorem WrF.ins {C : Addr} (hN : J.X.N[i]? = some x) (c : Cls J.K C) (n : NoAttr J.K C f) (hv : Vis J.X.env.scope x := by first | exact Or.inl rfl | exact Or.inr (Or.inl rfl) | exact Or.inr (Or.inr rfl))
    (hd : (x == ("__debug__" : Str)) = false := by decide) (hcd : (x == ("__classdict__" : Str)) = false := by decide) : WrF J (.Attribute (.Name x p) f pos) i (.ins C) f :=
  ⟨fun h hs => ps_wk (ps_fld (pe_var hN hv hd hcd) h.pe hs) fun D σ H q => tX_mono q fun y H1 ⟨p, u, vs, e1, h1, ⟨dx, h2⟩, hl, nd, k⟩ => ⟨.ref p, e1, p, C, dx, vs, rfl, by rw [h1, h2], c, n, by omega, k _ ⟨dx, rfl⟩⟩⟩
theorem kvS_length {vs : List (Str × V)} : (kvS vs).length = vs.length := by unfold kvS; rw [List.length_map]
theorem WrF.dct {j : Nat} {q : Pos} (hu : J.X.A.units + 1 < cLine) (hN : J.X.N[i]? = some x) (hv : Vis J.X.env.scope x := by first | exact Or.inl rfl | exact Or.inr (Or.inl rfl) | exact Or.inr (Or.inr rfl))
    (hd : (x == ("__debug__" : Str)) = false := by decide) (hcd : (x == ("__classdict__" : Str)) = false := by decide) : WrF J (.Subscript (.Name x p) (.Constant (.str f) j q) pos) i .dct f :=
  ⟨fun h hs => ps_wk (ps_dput hu (pe_var hN hv hd hcd) pe_str h.pe hs) fun D σ H q => tX_mono q fun y H1 ⟨p, u, vs, e1, h1, h2, hl, nd, k⟩ => by
    cases (show u = _ from h2)
    refine ⟨.ref p, e1, p, _, rfl, DPut.k (k := Sum.inr f) h1 (szlt.mpr (by show (kvS vs).length < _; rw [kvS_length]; omega)), ?_⟩
    refine k _ ?_
    show HO.dK (putK (kvS vs) (Sum.inr f) y) = .dK (kvS (putF f y vs))
    rw [putK_kvS' nd]⟩
theorem set_names {γ : Type} {fs : List (Str × γ)} {k : Nat} {f : Str} {s s' : γ} (h : fs[k]? = some (f, s)) : (fs.set k (f, s')).map (·.1) = fs.map (·.1) := by
  rw [List.map_set]
  obtain ⟨hi, hv⟩ := List.getElem?_eq_some_iff.mp h
  have : f = (fs.map (·.1))[k]'(by rw [List.length_map]; exact hi) := by simp [hv]
  conv => lhs; rw [this]
  exact List.set_getElem_self _
/-- x.f = e, where f is there -/
theorem BS.fset {s : Sl} {m : R β} {sl : β → Sl} (w : WrF J tg i rk f) (h : EX J Γ e m sl) (k : Nat) (hp : PeOk J Γ) (hG : Γ[i]? = some (.rc op rk fs)) (hf : fs[k]? = some (f, s)) (nd : (fs.map (·.1)).Nodup) (hl : fs.length ≤ 800 := by exact Nat.le_of_ble_eq_true rfl) (hs : swapsWith e (some tg) pos.line J.X.env = pure false := by rfl) :
    BS J Γ (.Assign [tg] e pos) m (fun b => .nx (Γ.set i (.rc op rk (fs.set k (f, sl b))))) :=
  ⟨ps_wk (w.ps h hs) fun D σ H ⟨G, S, q⟩ => ⟨G, S, wp_mono q (fun b kq v fv G' H' g ndv nv a => by
    obtain ⟨p, u, vs, gg, e1, hop, h1, h2, h3, nd0, -, up⟩ := S.recO hG
    have hn := h3.names
    have hlen : vs.length = fs.length := by have := congrArg List.length hn; simpa using this
    refine ⟨p, u, vs, e1, g.hh _ _ h1, h2, by omega, by rw [hn]; exact nd, fun u' hu' => ?_⟩
    obtain ⟨v0, g1, f0, g2, e4, e5, a0, k1⟩ := h3.at hf
    have hpg : p ∉ gg := (List.nodup_cons.mp nd0).1
    have hkd := h3.kd
    have hne : ∀ r ∈ gg, r ≠ p := fun r hr z => hpg (z ▸ hr)
    have keep : ∀ r ∈ gg, upd H' p u' r = H r := fun r hr => by
      rw [upd_ne (hne r hr)]
      obtain ⟨w, hw, _⟩ := hkd r hr
      rw [hw]; exact g.hh _ _ hw
    have hvp : p ∉ fv := fun z => by rw [(nv p z).1] at h1; cases h1
    have hfv : ∀ r ∈ fv, r ∉ gg := fun r hr z => by
      obtain ⟨w, hw, _⟩ := hkd r z
      rw [(nv r hr).1] at hw; cases hw
    have k2 := k1 G' (upd H' p u') (sl b) v fv g.gg (fun r hr => keep r (by rw [e5]; simp [hr])) (fun r hr => keep r (by rw [e5]; simp [hr])) (a.cg (Ex.refl _) fun r hr => upd_ne fun z => hvp (z ▸ hr))
    refine kq G' σ _ (up G' H' p u' _ (p :: (g1 ++ (fv ++ g2))) g (by simp) ?_ (fun r hr => ?_) ⟨p, u', putF f v vs, g1 ++ (fv ++ g2), rfl, (fun _ z => nomatch z), rfl, upd_same, hu', ?_⟩)
    · have n2 := (List.nodup_cons.mp nd0).2
      rw [e5] at n2 hpg hfv
      obtain ⟨n3, n4, n5⟩ := List.nodup_append.mp n2
      obtain ⟨n6, n7, n8⟩ := List.nodup_append.mp n4
      refine List.nodup_cons.mpr ⟨fun z => ?_, List.nodup_append.mpr ⟨n3, List.nodup_append.mpr ⟨ndv, n7, fun a ha b hb e => hfv a ha (by rw [e]; simp [hb])⟩, fun a ha b hb e => ?_⟩⟩
      · rcases List.mem_append.mp z with z | z
        · exact hpg (by simp [z])
        · rcases List.mem_append.mp z with z | z
          · exact hvp z
          · exact hpg (by simp [z])
      · rcases List.mem_append.mp hb with z | z
        · exact hfv b z (by rw [← e]; simp [ha])
        · exact n5 a ha b (by simp [z]) e
    · rcases List.mem_cons.mp hr with rfl | hr
      · exact .inl (by simp)
      · rcases List.mem_append.mp hr with z | z
        · exact .inl (by rw [e5]; simp [z])
        · rcases List.mem_append.mp z with z | z
          · exact .inr (nv r z)
          · exact .inl (by rw [e5]; simp [z])
    · rw [putF_at (by rw [hn]; exact nd) e4]
      exact k2) fun n a z => erE_of hp z σ⟩⟩
/-- .. where it is not -/
theorem BS.fnew {m : R β} {sl : β → Sl} (w : WrF J tg i rk f) (h : EX J Γ e m sl) (hp : PeOk J Γ) (hG : Γ[i]? = some (.rc op rk fs)) (hf : f ∉ fs.map (·.1)) (nd : (fs.map (·.1)).Nodup) (hl : fs.length ≤ 800 := by exact Nat.le_of_ble_eq_true rfl) (hs : swapsWith e (some tg) pos.line J.X.env = pure false := by rfl) :
    BS J Γ (.Assign [tg] e pos) m (fun b => .nx (Γ.set i (.rc op rk (fs ++ [(f, sl b)])))) :=
  ⟨ps_wk (w.ps h hs) fun D σ H ⟨G, S, q⟩ => ⟨G, S, wp_mono q (fun b kq v fv G' H' g ndv nv a => by
    obtain ⟨p, u, vs, gg, e1, hop, h1, h2, h3, nd0, -, up⟩ := S.recO hG
    have hn := h3.names
    have hlen : vs.length = fs.length := by have := congrArg List.length hn; simpa using this
    refine ⟨p, u, vs, e1, g.hh _ _ h1, h2, by omega, by rw [hn]; exact nd, fun u' hu' => ?_⟩
    have hpg : p ∉ gg := (List.nodup_cons.mp nd0).1
    have hkd := h3.kd
    have hne : ∀ r ∈ gg, r ≠ p := fun r hr z => hpg (z ▸ hr)
    have keep : ∀ r ∈ gg, upd H' p u' r = H r := fun r hr => by
      rw [upd_ne (hne r hr)]
      obtain ⟨w, hw, _⟩ := hkd r hr
      rw [hw]; exact g.hh _ _ hw
    have hvp : p ∉ fv := fun z => by rw [(nv p z).1] at h1; cases h1
    have hfv : ∀ r ∈ fv, r ∉ gg := fun r hr z => by
      obtain ⟨w, hw, _⟩ := hkd r z
      rw [(nv r hr).1] at hw; cases hw
    refine kq G' σ _ (up G' H' p u' _ (p :: (gg ++ (fv ++ []))) g (by simp) ?_ (fun r hr => ?_) ⟨p, u', putF f v vs, gg ++ (fv ++ []), rfl, (fun _ z => nomatch z), rfl, upd_same, hu', ?_⟩)
    · rw [List.append_nil]
      refine List.nodup_cons.mpr ⟨fun z => ?_, List.nodup_append.mpr ⟨(List.nodup_cons.mp nd0).2, ndv, fun a ha b hb e => hfv b hb (e ▸ ha)⟩⟩
      rcases List.mem_append.mp z with z | z
      · exact hpg z
      · exact hvp z
    · rw [List.append_nil] at hr
      rcases List.mem_cons.mp hr with rfl | hr
      · exact .inl (by simp)
      · rcases List.mem_append.mp hr with z | z
        · exact .inl (by simp [z])
        · exact .inr (nv r z)
    · rw [putF_no (by rw [hn]; exact hf)]
      exact (h3.cg g.gg keep).app (.cons (a.cg (Ex.refl _) fun r hr => upd_ne fun z => hvp (z ▸ hr)) .nil)) fun n a z => erE_of hp z σ⟩⟩
/-- x.f op= e of ints -/
theorem BS.faug {C : Addr} {o : Operator} {h : Int → Int → Int} {y : Int} {m : R Int} (ho : InOp J.X o (fun a b H Q => ∃ i j, a = .int i ∧ b = .int j ∧ Q (.int (h i j)) H)) (hv : ES J Γ e m) (k : Nat) (hp : PeOk J Γ) (hN : J.X.N[i]? = some x) (hG : Γ[i]? = some (.rc op (.ins C) fs)) (hf : fs[k]? = some (f, .va (enc y))) (nd : (fs.map (·.1)).Nodup) (c : Cls J.K C) (n : NoAttr J.K C f) (hl : fs.length ≤ 800 := by exact Nat.le_of_ble_eq_true rfl)
    (hvs : Vis J.X.env.scope x := by first | exact Or.inl rfl | exact Or.inr (Or.inl rfl) | exact Or.inr (Or.inr rfl)) (hd : (x == ("__debug__" : Str)) = false := by decide) (hcd : (x == ("__classdict__" : Str)) = false := by decide) :
    BS J Γ (.AugAssign (.Attribute (.Name x p) f p2) o e pos) (m.bind fun z => .ok (h y z)) (fun b => .nx (Γ.set i (.rc op (.ins C) (fs.set k (f, .va (enc b)))))) :=
  ⟨ps_wk (ps_fldaug (pe_var hN hvs hd hcd) hv.pe ho) fun D σ H ⟨G, S, q⟩ => by
    obtain ⟨p, u, vs, gg, e1, hop, h1, ⟨dx, h2⟩, h3, nd0, -, up⟩ := S.recO hG
    have hn := h3.names
    have hlen : vs.length = fs.length := by have := congrArg List.length hn; simpa using this
    obtain ⟨v0, g1, f0, g2, e4, e5, ⟨e6, v1, ev, r0⟩, k1⟩ := h3.at hf
    cases ev
    have ez := Rp.unint r0
    subst ez e6 h2
    refine ⟨.ref p, e1, p, C, dx, vs, _, rfl, h1, c, n, lookup_at (by rw [hn]; exact nd) e4, G, S, wp_mono (wp_bind.mp q) (fun z kq w G' H' g rz => ?_) fun n a z => erE_of hp z σ⟩
    have ez := Rp.unint rz
    subst ez
    refine ⟨y, z, rfl, rfl, dx, vs, g.hh _ _ h1, by omega, ?_⟩
    have hpg : p ∉ gg := (List.nodup_cons.mp nd0).1
    have hkd := h3.kd
    have keep : ∀ r ∈ gg, upd H' p (.ins C dx (putF f (.int (h y z)) vs)) r = H r := fun r hr => by
      rw [upd_ne (fun y => hpg (y ▸ hr) : r ≠ p)]
      obtain ⟨w, hw, _⟩ := hkd r hr
      rw [hw]; exact g.hh _ _ hw
    have k2 := k1 G' (upd H' p (.ins C dx (putF f (.int (h y z)) vs))) (.va (enc (h y z))) (.int (h y z)) [] g.gg (fun r hr => keep r (by rw [e5]; simp [hr])) (fun r hr => keep r (by rw [e5]; simp [hr])) ⟨rfl, _, rfl, .int⟩
    rw [← e5] at k2
    refine kq G' σ _ (up G' H' p _ _ (p :: gg) g (by simp) nd0 (fun r hr => .inl hr) ⟨p, _, putF f (.int (h y z)) vs, gg, rfl, (fun _ z => nomatch z), rfl, upd_same, ⟨dx, rfl⟩, ?_⟩)
    rw [putF_at (by rw [hn]; exact nd) e4] at k2 ⊢
    exact k2⟩
/-- a list that is a part is frozen -/
theorem BD.ffreeze {sts : List Stmt} {out : β → Fl} {m : R β} {xs : List α} (k : Nat) (hG : Γ[i]? = some (.rc op rk fs)) (hf : fs[k]? = some (f, .ow (xs.map enc))) (h : BD J (Γ.set i (.rc op rk (fs.set k (f, .va (enc xs))))) sts m out) : BD J Γ sts m out := ⟨pss_wk h.ps fun D σ H ⟨G, S, q⟩ => by
  obtain ⟨G', _, S'⟩ := S.ffreeze hG hf
  exact ⟨G', S', q⟩⟩
theorem BX.ffreeze {sts : List Stmt} {out : β → Fl} {m : R β} {xs : List α} (k : Nat) (hG : Γ[i]? = some (.rc op rk fs)) (hf : fs[k]? = some (f, .ow (xs.map enc))) (h : BX J (Γ.set i (.rc op rk (fs.set k (f, .va (enc xs))))) sts m out) : BX J Γ sts m out := ⟨BD.ffreeze k hG hf h.bd, h.lv⟩
end
/-! ### 47. places: where a list of one's own lies -/
def tPl (J : Jd) (Γ : List Sl) {π α : Type} [Enc α] (m : R π) (get : π → List α) (put : π → List α → List Sl) : TE := fun σ H Q => ∃ G, Sat J Γ G σ H ∧
  m.wp (fun a => ∀ q ws G' H', Gr G H G' H' → H' q = some (.lst ws) → RpA J.K G' ws ((get a).map enc) → (∀ G2 H2 ws' ys, Gr G' H' G2 H2 → RpA J.K G2 ws' (ys.map enc) → Sat J (put a ys) G2 σ (upd H2 q (.lst ws'))) → Q (.ref q) H') (ErE J Γ σ)
structure PL (J : Jd) (Γ : List Sl) (e : Expr) {π α : Type} [Enc α] (m : R π) (get : π → List α) (put : π → List α → List Sl) : Prop where
  pe : PE J.X e (tPl J Γ m get put)
noncomputable def extM {α : Type} (xs ys : List α) : R (List α) := @ite _ (xs.length + ys.length ≤ 16777216) (Classical.propDecidable _) (.ok (xs ++ ys)) .stuck
def pop0 {α : Type} : List α → R (α × List α)
  | [] => .stuck
  | x :: xs => .ok (x, xs)
def popL {α : Type} (xs : List α) : R (α × List α) := match xs.getLast? with
  | none => .stuck
  | some y => .ok (y, xs.dropLast)
/-- the list at a place in a list of lists -/
def ixJ {α : Type} (xss : List (List α)) (i : Int) : R (Nat × List α) := match ixN xss.length i with
  | some j => match xss[j]? with
    | some xs => .ok (j, xs)
    | none => .stuck
  | none => .stuck
section
variable {J : Jd} {Γ : List Sl} {i j k : Nat} {op : Option Addr} {rk : RK} {fs : List (Str × Sl)} {e a b tg call : Expr} {f x : Str} {pos p p2 : Pos} {α β π : Type} [Enc α] {get : π → List α} {put : π → List α → List Sl} {mp : R π}
/-- a part that is a list -/
theorem PL.fd {xs : List α} (r : RdF J e i rk f) (k : Nat) (hG : Γ[i]? = some (.rc op rk fs)) (hf : fs[k]? = some (f, .ow (xs.map enc))) (nd : (fs.map (·.1)).Nodup) : PL J Γ e (.ok ()) (fun _ => xs) (fun _ ys => Γ.set i (.rc op rk (fs.set k (f, .ow (ys.map enc))))) :=
  ⟨pe_wk r.pe fun σ H Q ⟨G, S, w⟩ => by
    obtain ⟨p, u, vs, gg, e1, hop, h1, h2, h3, nd0, h4, up⟩ := S.recO hG
    have hn := h3.names
    obtain ⟨v0, g1, f0, g2, e4, e5, ⟨q, ws, rfl, ev, hq, rv⟩, k1⟩ := h3.at hf
    cases ev
    refine ⟨p, u, vs, .ref q, e1, h1, h2, lookup_at (by rw [hn]; exact nd) e4, w q ws G H (Gr.refl S.gh) hq rv fun G2 H2 ws' ys g r2 => ?_⟩
    have hqg : q ∈ gg := by rw [e5]; simp
    have hpq : p ≠ q := fun z => (List.nodup_cons.mp nd0).1 (z ▸ hqg)
    have n2 := (List.nodup_cons.mp nd0).2
    rw [e5] at n2
    obtain ⟨n3, n4, n5⟩ := List.nodup_append.mp n2
    have hkd := h3.kd
    have keep : ∀ r ∈ gg, r ≠ q → upd H2 q (.lst ws') r = H r := fun r hr hne => by
      rw [upd_ne hne]
      obtain ⟨w, hw, _⟩ := hkd r hr
      rw [hw]; exact g.hh _ _ hw
    have k2 := k1 G2 (upd H2 q (.lst ws')) (.ow (ys.map enc)) (.ref q) [q] g.gg (fun r hr => keep r (by rw [e5]; simp [hr]) (n5 r hr q (by simp))) (fun r hr => keep r (by rw [e5]; simp [hr]) fun z => (List.nodup_cons.mp (show (q :: g2).Nodup from n4)).1 (z ▸ hr)) ⟨q, ws', rfl, rfl, upd_same, r2⟩
    rw [← e5] at k2
    have hvs : vs.set k (f, .ref q) = vs := by
      obtain ⟨hi, hv⟩ := List.getElem?_eq_some_iff.mp e4
      rw [← hv]; exact List.set_getElem_self hi
    rw [hvs] at k2
    exact up G2 H2 q _ _ (p :: gg) g (by simp [hqg]) nd0 (fun r hr => .inl hr) ⟨p, u, vs, gg, rfl, (fun _ z => nomatch z), rfl, (upd_ne hpq).trans (g.hh _ _ h1), h2, k2⟩⟩
theorem ixJ_wp {xss : List (List α)} {z : Int} {Q : Nat × List α → Prop} {E : Nat → Option Int → Prop} (h : (ixJ xss z).wp Q E) : ∃ j xs, ixN xss.length z = some j ∧ xss[j]? = some xs ∧ Q (j, xs) := by
  unfold ixJ at h
  cases h1 : ixN xss.length z with
  | none => rw [h1] at h; exact h.elim
  | some j =>
    rw [h1] at h
    cases h2 : xss[j]? with
    | none => simp only [h2] at h; exact h.elim
    | some xs => simp only [h2] at h; exact ⟨j, xs, rfl, h2, h⟩
/-- a list that lies in a part that is a list of lists -/
theorem PL.fdix {xss : List (List α)} {mk : R Int} (r : RdF J e i rk f) (hb : ES J Γ b mk) (k : Nat) (hG : Γ[i]? = some (.rc op rk fs)) (hf : fs[k]? = some (f, .dp (enc xss))) (nd : (fs.map (·.1)).Nodup) (hs : PlainIx b := by intro _ _; rfl) :
    PL J Γ (.Subscript e b pos) (mk.bind fun z => ixJ xss z) (fun a => a.2) (fun a ys => Γ.set i (.rc op rk (fs.set k (f, .dp (enc (xss.set a.1 ys)))))) :=
  ⟨pe_wk (pe_ix ix_list r.pe hb.pe hs) fun σ H Q ⟨G, S, w⟩ => by
    obtain ⟨p, u, vs, gg, e1, hop, h1, h2, h3, nd0, h4, up⟩ := S.recO hG
    have hn := h3.names
    obtain ⟨v0, g1, f0, g2, e4, e5, ⟨_, v1, ev, ow⟩, k1⟩ := h3.at hf
    cases ev
    obtain ⟨l, lv, lf, rfl, rfl, hl, oa⟩ := dp_list ow
    refine ⟨p, u, vs, .ref l, e1, h1, h2, lookup_at (by rw [hn]; exact nd) e4, G, S, wp_mono (wp_bind.mp w) (fun z kq v G1 H1 g1' rz => ?_) fun _ _ z => z⟩
    have ez := Rp.unint rz
    subst ez
    obtain ⟨j, xs, hj, hx, k3⟩ := ixJ_wp kq
    obtain ⟨q, ws, q1, q2, a1, a2, a3, a4, a5⟩ := oa.at (t := j) (es := xs.map enc) (by rw [List.getElem?_map, hx]; rfl)
    have hlen : lv.length = xss.length := by rw [oa.length, List.length_map]
    have hln : l ∈ gg := by rw [e5]; simp
    have hqg : q ∈ gg := by rw [e5, a2]; simp
    have hpq : p ≠ q := fun z => (List.nodup_cons.mp nd0).1 (z ▸ hqg)
    have n2 := (List.nodup_cons.mp nd0).2
    rw [e5] at n2
    obtain ⟨n3, n4, n5⟩ := List.nodup_append.mp n2
    obtain ⟨n6, n7, n8⟩ := List.nodup_append.mp n4
    obtain ⟨n9, n10⟩ := List.nodup_cons.mp n6
    rw [a2] at n9 n10 n8 n5
    have hlq : l ≠ q := fun z => n9 (by rw [z]; simp)
    obtain ⟨n11, n12, n13⟩ := List.nodup_append.mp n10
    have hqq : q ∉ q1 ++ q2 := fun z => by
      rcases List.mem_append.mp z with z | z
      · exact n13 q z q (by simp) rfl
      · exact (List.nodup_cons.mp n12).1 z
    refine ⟨l, lv, z, .ref q, rfl, rfl, .inl (.inl (g1'.hh _ _ hl)), ?_, ?_⟩
    · unfold atI
      rw [hlen, hj]
      exact a1
    · refine k3 q ws G1 H1 g1' (g1'.hh _ _ a3) (a4.ex g1'.gg) fun G2 H2 ws' ys g r2 => ?_
      have gt := g1'.trans g
      have hkd := h3.kd
      have keep : ∀ r ∈ gg, r ≠ q → upd H2 q (.lst ws') r = H r := fun r hr hne => by
        rw [upd_ne hne]
        obtain ⟨w, hw, _⟩ := hkd r hr
        rw [hw]; exact gt.hh _ _ hw
      have o2 := a5 G2 H2 ws' (ys.map enc) gt.gg gt.hh hqq r2
      have k2 := k1 G2 (upd H2 q (.lst ws')) (.dp (enc (xss.set j ys))) (.ref l) (l :: lf) gt.gg (fun r hr => keep r (by rw [e5]; simp [hr]) (n5 r hr q (by simp))) (fun r hr => keep r (by rw [e5]; simp [hr]) fun z => n8 q (by simp) r hr z.symm)
        ⟨dpR_gd _ _, .ref l, rfl, .inl ⟨l, lv, (xss.set j ys).map enc, lf, rfl, rfl, rfl, (upd_ne hlq).trans (gt.hh _ _ hl), by rw [List.map_set]; exact o2⟩⟩
      rw [← e5] at k2
      have hvs : vs.set k (f, .ref l) = vs := by
        obtain ⟨hi, hv⟩ := List.getElem?_eq_some_iff.mp e4
        rw [← hv]; exact List.set_getElem_self hi
      rw [hvs] at k2
      exact up G2 H2 q _ _ (p :: gg) gt (by simp [hqg]) nd0 (fun r hr => .inl hr) ⟨p, u, vs, gg, rfl, (fun _ z => nomatch z), rfl, (upd_ne hpq).trans (gt.hh _ _ h1), h2, k2⟩⟩
/-- a list that lies in a variable that is a list of lists -/
theorem PL.dpix {xss : List (List α)} {mk : R Int} (hb : ES J Γ b mk) (hN : J.X.N[i]? = some x) (hG : Γ[i]? = some (.dp (enc xss))) (hs : PlainIx b := by intro _ _; rfl) (hv : Vis J.X.env.scope x := by first | exact Or.inl rfl | exact Or.inr (Or.inl rfl) | exact Or.inr (Or.inr rfl))
    (hd : (x == ("__debug__" : Str)) = false := by decide) (hcd : (x == ("__classdict__" : Str)) = false := by decide) :
    PL J Γ (.Subscript (.Name x p) b pos) (mk.bind fun z => ixJ xss z) (fun a => a.2) (fun a ys => Γ.set i (.dp (enc (xss.set a.1 ys)))) :=
  ⟨pe_wk (pe_ix ix_list (pe_var hN hv hd hcd) hb.pe hs) fun σ H Q ⟨G, S, w⟩ => by
    obtain ⟨o, f, e1, ⟨_, v, rfl, ow⟩, nd, h3, upd'⟩ := S.openS hG
    obtain ⟨l, lv, lf, rfl, rfl, hl, oa⟩ := dp_list ow
    refine ⟨.ref l, e1, G, S, wp_mono (wp_bind.mp w) (fun z kq v G1 H1 g1' rz => ?_) fun _ _ z => z⟩
    have ez := Rp.unint rz
    subst ez
    obtain ⟨j, xs, hj, hx, k3⟩ := ixJ_wp kq
    obtain ⟨q, ws, q1, q2, a1, a2, a3, a4, a5⟩ := oa.at (t := j) (es := xs.map enc) (by rw [List.getElem?_map, hx]; rfl)
    have hlen : lv.length = xss.length := by rw [oa.length, List.length_map]
    obtain ⟨n9, n10⟩ := List.nodup_cons.mp nd
    have hqf : q ∈ lf := by rw [a2]; simp
    have hlq : l ≠ q := fun z => n9 (z ▸ hqf)
    rw [a2] at n10
    obtain ⟨n11, n12, n13⟩ := List.nodup_append.mp n10
    have hqq : q ∉ q1 ++ q2 := fun z => by
      rcases List.mem_append.mp z with z | z
      · exact n13 q z q (by simp) rfl
      · exact (List.nodup_cons.mp n12).1 z
    refine ⟨l, lv, z, .ref q, rfl, rfl, .inl (.inl (g1'.hh _ _ hl)), ?_, ?_⟩
    · unfold atI
      rw [hlen, hj]
      exact a1
    · refine k3 q ws G1 H1 g1' (g1'.hh _ _ a3) (a4.ex g1'.gg) fun G2 H2 ws' ys g r2 => ?_
      have gt := g1'.trans g
      have o2 := a5 G2 H2 ws' (ys.map enc) gt.gg gt.hh hqq r2
      exact upd' G2 H2 q _ (.dp (enc (xss.set j ys))) (l :: lf) gt (by simp [hqf]) nd (fun r hr => .inl hr) ⟨dpR_gd _ _, .ref l, rfl, .inl ⟨l, lv, (xss.set j ys).map enc, lf, rfl, rfl, rfl, (upd_ne hlq).trans (gt.hh _ _ hl), by rw [List.map_set]; exact o2⟩⟩⟩
/-- a variable that is a list -/
theorem PL.own {xs : List α} (hN : J.X.N[i]? = some x) (hG : Γ[i]? = some (.ow (xs.map enc))) (hv : Vis J.X.env.scope x := by first | exact Or.inl rfl | exact Or.inr (Or.inl rfl) | exact Or.inr (Or.inr rfl))
    (hd : (x == ("__debug__" : Str)) = false := by decide) (hcd : (x == ("__classdict__" : Str)) = false := by decide) : PL J Γ (.Name x p) (.ok ()) (fun _ => xs) (fun _ ys => Γ.set i (.ow (ys.map enc))) :=
  ⟨pe_wk (pe_var hN hv hd hcd) fun σ H Q ⟨G, S, w⟩ => by
    obtain ⟨l, vs, e1, hl, r, gl⟩ := S.ow hG
    exact ⟨.ref l, e1, w l vs G H (Gr.refl S.gh) hl r fun G2 H2 ws' ys g r2 => (S.gr g).mut hG e1 r2⟩⟩
/-- e.append(a) -/
theorem BS.papp {m : R α} (h : PL J Γ e mp get put) (ha : ES J Γ a m) (hc : PE J.X e (tPl J Γ mp get put) → PE J.X a (tS J Γ m) → PE J.X call (tBM J.X.K "list" rAppend (tPl J Γ mp get put) (tCons (tS J Γ m) tNil))) (hp : PeOk J Γ) (hs : swapsWith call none p2.line J.X.env = pure false := by rfl) :
    BS J Γ (.Expr call p2) (mp.bind fun t => m.bind fun a => (pushM (get t) a).bind fun ys => .ok (t, ys)) (fun b => .nx (put b.1 b.2)) :=
  ⟨ps_wk (ps_expr (hc h.pe ha.pe) hs) fun D σ H ⟨G, S, w⟩ => ⟨G, S, wp_mono (wp_bind.mp w) (fun t k q ws G1 H1 g1 hq rq put' => ⟨.inl ⟨rfl, _, .inl (.inl hq)⟩, G1, S.gr g1, wp_mono (wp_bind.mp k) (fun a k2 v G2 H2 g2 ra => by
    unfold pushM at k2
    by_cases hz : (get t).length < 16777216
    · rw [if_pos hz] at k2
      refine ⟨q, ws, v, rfl, rfl, g2.hh _ _ hq, szlt.mpr (by rw [rq.length, List.length_map]; exact hz), ?_⟩
      refine k2 G2 σ _ (put' G2 H2 _ (get t ++ [a]) g2 ?_)
      rw [List.map_append]
      exact (rq.ex g2.gg).append (.cons ra .nil)
    · rw [if_neg hz] at k2; exact k2.elim) fun n a z => erE_of hp z σ⟩) fun n a z => erE_of hp z σ⟩⟩
/-- e.extend(a new list) -/
theorem BS.pext {m : R (List α)} (h : PL J Γ e mp get put) (ha : EF J Γ a m) (hc : PE J.X e (tPl J Γ mp get put) → PE J.X a (tF J Γ m) → PE J.X call (tBM J.X.K "list" rExtend (tPl J Γ mp get put) (tCons (tF J Γ m) tNil))) (hp : PeOk J Γ) (hs : swapsWith call none p2.line J.X.env = pure false := by rfl) :
    BS J Γ (.Expr call p2) (mp.bind fun t => m.bind fun a => (extM (get t) a).bind fun ys => .ok (t, ys)) (fun b => .nx (put b.1 b.2)) :=
  ⟨ps_wk (ps_expr (hc h.pe ha.pe) hs) fun D σ H ⟨G, S, w⟩ => ⟨G, S, wp_mono (wp_bind.mp w) (fun t k q ws G1 H1 g1 hq rq put' => ⟨.inl ⟨rfl, _, .inl (.inl hq)⟩, G1, S.gr g1, wp_mono (wp_bind.mp k) (fun a k2 l vs G2 H2 g2 n n' hl ra => by
    unfold extM at k2
    by_cases hz : (get t).length + a.length ≤ 16777216
    · rw [if_pos hz] at k2
      refine ⟨q, l, ws, vs, rfl, rfl, g2.hh _ _ hq, hl, szl.mpr (by rw [rq.length, List.length_map, ra.length, List.length_map]; exact hz), ?_⟩
      refine k2 G2 σ _ (put' G2 H2 _ (get t ++ a) g2 ?_)
      rw [List.map_append]
      exact (rq.ex g2.gg).append ra
    · rw [if_neg hz] at k2; exact k2.elim) fun n a z => erE_of hp z σ⟩) fun n a z => erE_of hp z σ⟩⟩
/-- e.clear() -/
theorem BS.pclear (h : PL J Γ e mp get put) (hc : PE J.X e (tPl J Γ mp get put) → PE J.X call (tBM0 J.X.K "list" rClear (tPl J Γ mp get put))) (hp : PeOk J Γ) (hs : swapsWith call none p2.line J.X.env = pure false := by rfl) :
    BS J Γ (.Expr call p2) mp (fun b => .nx (put b [])) :=
  ⟨ps_wk (ps_expr (hc h.pe) hs) fun D σ H ⟨G, S, w⟩ => ⟨G, S, wp_mono w (fun t k q ws G1 H1 g1 hq rq put' => ⟨.inl ⟨rfl, _, .inl (.inl hq)⟩, q, ws, rfl, rfl, hq, k G1 σ _ (put' G1 H1 [] [] (Gr.refl (S.gr g1).gh) .nil)⟩) fun n a z => erE_of hp z σ⟩⟩
/-- e[b] = a -/
theorem BS.pset {m : R α} {mk : R Int} (ha : ES J Γ a m) (h : PL J Γ e mp get put) (hb : ES J Γ b mk) (hp : PeOk J Γ)
    (has : ∀ v, assign (.Subscript e b p2) J.X.env v = (do
      let ov ← holding [v] (eval e J.X.env)
      let iv ← holding [v, ov] (eval b J.X.env)
      standAt p2
      holding [v, ov, iv] (setItem ov iv v)
      release [v, ov, iv] []) := by intro _; rfl) (hs : swapsWithSole [.Subscript e b p2] a pos.line J.X.env = pure false := by rfl) (hw : swappedStores [.Subscript e b p2] a J.X.env = pure none := by rfl)
    (h1 : (assignEach [.Subscript e b p2] J.X.env).map (·.2) = [assign (.Subscript e b p2) J.X.env] := by rfl) :
    BS J Γ (.Assign [.Subscript e b p2] a pos) (m.bind fun a => mp.bind fun t => mk.bind fun z => (setM (get t) z a).bind fun ys => .ok (t, ys)) (fun b => .nx (put b.1 b.2)) :=
  ⟨ps_wk (ps_asg ha.pe (pg_sub h.pe hb.pe set_list has) hs hw h1) fun D σ H ⟨G, S, w⟩ => ⟨G, S, wp_mono (wp_bind.mp w) (fun a k v G0 H0 g0 ra => ⟨G0, S.gr g0, wp_mono (wp_bind.mp k) (fun t k q ws G1 H1 g1 hq rq put' => ⟨G1, S.gr (g0.trans g1), wp_mono (wp_bind.mp k) (fun z k2 y G2 H2 g2 rz => by
    have ez := Rp.unint rz
    subst ez
    unfold setM at k2
    cases hj : ixN (get t).length z with
    | none => rw [hj] at k2; exact k2.elim
    | some j =>
      rw [hj] at k2
      refine ⟨q, ws, z, j, rfl, rfl, g2.hh _ _ hq, by rw [rq.length, List.length_map]; exact hj, ?_⟩
      refine k2 G2 σ _ (put' G2 H2 _ ((get t).set j a) g2 ?_)
      rw [List.map_set]
      exact (rq.ex g2.gg).set j (ra.ex (g1.trans g2).gg)) fun n a z => erE_of hp z σ⟩) fun n a z => erE_of hp z σ⟩) fun n a z => erE_of hp z σ⟩⟩
end
/-! ### 48. methods and makings that may let an exception out -/
section
variable {X : Cx} {CX : CXT} {k : Nat} {f C : Addr} {fd : FuncData} {ps : List Str} {sp : Sp} {dvs : List V} {ds : List Value} {E : L2.St → XK} {x m : Str} {p pos apos : Pos} {e o : Expr} {es : List Expr} {ta : TE} {t : TA}
def tMethX (C : Addr) (m : Str) (sp : Sp) (dvs : List V) (E : L2.St → XK) (ta : TE) (t : TA) : TE := fun σ H Q => ta σ H fun x H1 => ∃ a dx fs, x = .ref a ∧ H1 a = some (.ins C dx fs) ∧ fs.lookup m = none ∧ t σ H1 fun vs H2 => sp (x :: (vs ++ dvs)) H2 Q (E σ)
theorem run_fnX {pins : List (Addr × Obj)} {σ : L2.St} {H : Hp} {s : Shared} {Q : VK} {us : List Value} {vs : List V} (F : FnOk X.prog X.w X.K X.mg X.base CX k f fd ps sp) (hr : Room k X.A) (hb : Binds X.K fd ps ds) (hd : Vals dvs ds) (hx : PassesAt CX X σ (E σ))
    (I : Inv X pins σ H s) (r : Vals vs us) (h : sp (vs ++ dvs) H Q (E σ)) : wpAny (model X.prog X.w) X.A (call (.ref f) us) (L2.EP X pins σ Q) X.xe s := by
  have r2 : Vals (vs ++ dvs) (us ++ ds) := r.append hd
  have hl : (us ++ ds).length = ps.length := by rw [← r2.length]; exact F.len _ _ _ _ h
  refine wpAny_call (codeAny_mono (F.run X.A X.stack s H ⟨us, []⟩ (us ++ ds) (vs ++ dvs) Q (E σ) hr I.env0 (hb s us I.kIn hl) r2 h) fun r s' hq => ?_)
  cases r with
  | error e => exact hx pins H s e s' I hq
  | ok fl =>
    cases fl with
    | ret u => exact I.after hq
    | next => exact False.elim hq
    | brk => exact False.elim hq
    | cont => exact False.elim hq
theorem pe_methX {pl : Sem Bool} (he : PE X o ta) (c : Cls X.K C) (hm : Meth X.K C m f) (F : FnOk X.prog X.w X.K X.mg X.base CX k f fd ps sp) (hr : Room k X.A) (hb : Binds X.K fd ps ds) (hd : Vals dvs ds) (hx : ∀ σ, PassesAt CX X σ (E σ)) (ha : PA X (e :: es) t)
    (hst : starEach (e :: es) X.env = (false, eval e X.env) :: starEach es X.env := by rfl) (hpl : (backTo pos (starEach es X.env)).any (·.1) = false := by rfl)
    (ht : eval (.Call (.Attribute o m apos) (e :: es) [] pos) X.env = (do
      let ov ← eval o X.env
      standAt apos.atName
      let (f, first) ← holding [ov] (getMethod ov m pl)
      callWith pos f first (backTo pos (starEach (e :: es) X.env)) (backToKw pos (keywordEach [] X.env))) := by rfl) :
    PE X (.Call (.Attribute o m apos) (e :: es) [] pos) (tMethX C m sp dvs E ta t) := by
  refine ⟨fun pins s σ H Q I h => ?_⟩
  refine PySem.W.methodCall_KW (pl := pl) (thn (he.run pins s σ H _ I h) fun u s1 ⟨x, H1, I1, rx, a, dx, fs, ex, ea, l, q⟩ => ?_) ht
  subst ex
  obtain rfl : u = Value.ref a := rx
  refine getmeth_ok I1 ea c hm l ?_
  refine PySem.W.callWith_K (first := [.ref a]) (h₀ := X.base) I.ok.mod.kin hm.kp (thn (ha.run pos pins s1 σ H1 _ I1 q) fun us s2 ⟨vs, H2, I2, r, q2⟩ => ⟨I2.kIn, ?_⟩) hst hpl
  exact run_fnX (us := .ref a :: us) (vs := .ref a :: vs) F hr hb hd (hx σ) I2 (.cons rfl r) q2
theorem pe_methX0 {pl : Sem Bool} (he : PE X o ta) (c : Cls X.K C) (hm : Meth X.K C m f) (F : FnOk X.prog X.w X.K X.mg X.base CX k f fd ps sp) (hr : Room k X.A) (hb : Binds X.K fd ps ds) (hd : Vals dvs ds) (hx : ∀ σ, PassesAt CX X σ (E σ))
    (ht : eval (.Call (.Attribute o m apos) [] [] pos) X.env = (do
      let ov ← eval o X.env
      standAt apos.atName
      let (f, first) ← holding [ov] (getMethod ov m pl)
      callWith pos f first (backTo pos (starEach [] X.env)) (backToKw pos (keywordEach [] X.env))) := by rfl) :
    PE X (.Call (.Attribute o m apos) [] [] pos) (tMethX C m sp dvs E ta tNil) := by
  refine ⟨fun pins s σ H Q I h => ?_⟩
  refine PySem.W.methodCall_KW (pl := pl) (thn (he.run pins s σ H _ I h) fun u s1 ⟨x, H1, I1, rx, a, dx, fs, ex, ea, l, q⟩ => ?_) ht
  subst ex
  obtain rfl : u = Value.ref a := rx
  refine getmeth_ok I1 ea c hm l ?_
  exact PySem.W.callWith_K0 (first := [.ref a]) I1.kIn hm.kp (run_fnX (us := [.ref a]) (vs := [.ref a]) F hr hb hd (hx σ) I1 (.cons rfl .nil) q)
def tMakeX (C : Addr) (sp : Sp) (dvs : List V) (E : L2.St → XK) (t : TA) : TE := fun σ H Q => t σ H fun vs H1 => ∀ x dx, H1 x = none → H1 dx = none → dx ≠ x →
  sp (.ref x :: (vs ++ dvs)) (upd (upd H1 dx (.own x)) x (.ins C dx [])) (fun v H2 => v = .non ∧ Q (.ref x) H2) (E σ)
theorem run_makeX {pins : List (Addr × Obj)} {σ : L2.St} {H : Hp} {s : Shared} {Q : VK} {us : List Value} {vs : List V} (mk : Mk X.K C f) (F : FnOk X.prog X.w X.K X.mg X.base CX k f fd ps sp) (hr : Room (k + 1) X.A) (hb : Binds X.K fd ps ds) (hd : Vals dvs ds)
    (hx : PassesAt CX X σ (E σ)) (I : Inv X pins σ H s) (r : Vals vs us)
    (h : ∀ x dx, H x = none → H dx = none → dx ≠ x → sp (.ref x :: (vs ++ dvs)) (upd (upd H dx (.own x)) x (.ins C dx [])) (fun v H2 => v = .non ∧ Q (.ref x) H2) (E σ)) :
    wpAny (model X.prog X.w) X.A (call (.ref C) us) (L2.EP X pins σ Q) X.xe s := by
  have hq := h (s.heap.objs.size + 1) s.heap.objs.size (I.hok.fresh (Nat.le_succ _)) (I.hok.fresh (Nat.le_refl _)) (Nat.ne_of_lt (Nat.lt_succ_self _))
  have I2 := Inv.made (C := C) I
  have r2 : Vals (V.ref (s.heap.objs.size + 1) :: (vs ++ dvs)) (Value.ref (s.heap.objs.size + 1) :: (us ++ ds)) := .cons rfl (r.append hd)
  have hl : (Value.ref (s.heap.objs.size + 1) :: us ++ ds).length = ps.length := by
    have e := r2.length
    rw [F.len _ _ _ _ hq] at e
    exact e.symm
  refine wpAny_call (make_map (f := f) I.kIn mk.makes mk.init (beq_iff_eq.mp mk.fn) (codeAny_mono (F.run _ X.stack _ _ ⟨Value.ref (s.heap.objs.size + 1) :: us, []⟩ (Value.ref (s.heap.objs.size + 1) :: (us ++ ds)) _ _ (E σ) (hr.make C us [])
    (I2.env0.make C us []) (hb _ (Value.ref (s.heap.objs.size + 1) :: us) I2.kIn hl) r2 hq) fun r s' hq' => ?_))
  cases r with
  | error e => exact hx pins _ _ e s' I2 hq'
  | ok fl =>
    cases fl with
    | ret u =>
      obtain ⟨v, H', I3, rv, ev, q3⟩ := I2.after hq'
      subst ev
      exact ⟨rv, ⟨V.ref (s.heap.objs.size + 1), H', I3, rfl, q3⟩⟩
    | next => exact False.elim hq'
    | brk => exact False.elim hq'
    | cont => exact False.elim hq'
theorem pe_makeX (mk : Mk X.K C f) (F : FnOk X.prog X.w X.K X.mg X.base CX k f fd ps sp) (hr : Room (k + 1) X.A) (hg : Gl X x) (hm : X.mg x = some (.ref C)) (hb : Binds X.K fd ps ds) (hd : Vals dvs ds) (hx : ∀ σ, PassesAt CX X σ (E σ))
    (ha : PA X (e :: es) t) (hdb : (x == ("__debug__" : Str)) = false := by decide) (he : starEach (e :: es) X.env = (false, eval e X.env) :: starEach es X.env := by rfl) (hpl : (backTo pos (starEach es X.env)).any (·.1) = false := by rfl) :
    PE X (.Call (.Name x p) (e :: es) [] pos) (tMakeX C sp dvs E t) := by
  refine ⟨fun pins s σ H Q I h => ?_⟩
  refine wpAny_Call_Name_kw (ld_glob I hg hm ?_ hdb)
  refine PySem.W.callWith_K (h₀ := X.base) I.ok.mod.kin mk.kp (thn (ha.run pos pins s σ H _ I h) fun us s1 ⟨vs, H1, I1, r, q⟩ => ⟨I1.kIn, ?_⟩) he hpl
  exact run_makeX mk F hr hb hd (hx σ) I1 r q
theorem pe_makeX0 (mk : Mk X.K C f) (F : FnOk X.prog X.w X.K X.mg X.base CX k f fd ps sp) (hr : Room (k + 1) X.A) (hg : Gl X x) (hm : X.mg x = some (.ref C)) (hb : Binds X.K fd ps ds) (hd : Vals dvs ds) (hx : ∀ σ, PassesAt CX X σ (E σ))
    (hdb : (x == ("__debug__" : Str)) = false := by decide) : PE X (.Call (.Name x p) [] [] pos) (tMakeX C sp dvs E tNil) := by
  refine ⟨fun pins s σ H Q I h => ?_⟩
  refine wpAny_Call_Name_kw (ld_glob I hg hm ?_ hdb)
  exact PySem.W.callWith_K0 I.kIn mk.kp (run_makeX (us := []) mk F hr hb hd (hx σ) I .nil h)
theorem pe_callX0 (F : FnOk X.prog X.w X.K X.mg X.base CX k f fd ps sp) (hr : Room k X.A) (hg : Gl X x) (hm : X.mg x = some (.ref f)) (hk : PySem.W.keepIn X.K (.ref f) = true) (hb : Binds X.K fd ps ds) (hd : Vals dvs ds) (hx : ∀ σ, PassesAt CX X σ (E σ))
    (hdb : (x == ("__debug__" : Str)) = false := by decide) : PE X (.Call (.Name x p) [] [] pos) (fun σ H Q => sp dvs H Q (E σ)) := by
  refine ⟨fun pins s σ H Q I h => ?_⟩
  refine wpAny_Call_Name_kw (ld_glob I hg hm ?_ hdb)
  exact PySem.W.callWith_K0 I.kIn hk (run_fnX (us := []) F hr hb hd (hx σ) I .nil h)
end
/-! ### 49. calls that change what is handed in -/
/-- the heap behind: what lay in F may have changed, or be frozen -/
structure Mu (G H : Hp) (F : List Addr) (G' H' : Hp) : Prop where
  gg : Ex G G'
  gh : Ex G' H'
  hh : ∀ a o, H a = some o → a ∉ F → H' a = some o
  th : ∀ a o, H a = some o → ∃ u, H' a = some u
  nw : ∀ a o, G' a = some o → G a = some o ∨ H a = none ∨ a ∈ F
theorem Ed.mu {c : Bs} {G H : Hp} (e : Ed c G H) : Mu c.B c.H0 c.F0 G H := ⟨e.bg, e.gh, fun a o z n => e.h0 a o z n, fun a o z => e.th a o z, fun a o z => by
  by_cases hf : a ∈ c.F0
  · exact .inr (.inr hf)
  · cases q : c.H0 a with
    | none => exact .inr (.inl rfl)
    | some u =>
      cases q2 : c.B a with
      | none => rw [e.sep a u q hf q2] at z; cases z
      | some w =>
        have := e.bg a w q2
        rw [z] at this
        exact .inl this.symm⟩
theorem sls_cg {K : PySem.W.Frag} {G H G' H' : Hp} (g : Ex G G') : ∀ {Γ : List Sl} {σ : L2.St} {fs : List (List Addr)}, SlsAt K G H Γ σ fs → (∀ p ∈ fs.flatten, H' p = H p) → SlsAt K G' H' Γ σ fs := by
  intro Γ σ fs h
  induction h with
  | nil => intro _; exact .nil
  | cons a _ ih => intro k; exact .cons (a.cg g fun p hp => k p (by rw [List.flatten_cons]; exact List.mem_append_left _ hp)) (ih fun p hp => k p (by rw [List.flatten_cons]; exact List.mem_append_right _ hp))
/-- one slot anew, the others kept -/
theorem sls_set {K : PySem.W.Frag} {G H G' H' : Hp} (g : Ex G G') {s : Sl} {f' : List Addr} : ∀ {Γ : List Sl} {σ : L2.St} {fs : List (List Addr)} {i : Nat} {f : List Addr} {o : Option V}, SlsAt K G H Γ σ fs → fs.flatten.Nodup → fs[i]? = some f → σ[i]? = some o → (∀ p ∈ fs.flatten, p ∉ f → H' p = H p) → SlAt K G' H' s o f' → SlsAt K G' H' (Γ.set i s) σ (fs.set i f') := by
  intro Γ σ fs i f o h
  induction h generalizing i with
  | nil => intro _ e; simp at e
  | @cons t o1 f1 Γ σ fs a r ih =>
    intro nd e eo k a'
    rw [List.flatten_cons] at nd k
    obtain ⟨n1, n2, n3⟩ := List.nodup_append.mp nd
    cases i with
    | zero =>
      simp at e eo
      subst e eo
      exact .cons a' (sls_cg g r fun p hp => k p (List.mem_append_right _ hp) fun z => n3 p z p hp rfl)
    | succ i =>
      have e' : fs[i]? = some f := by simpa using e
      refine .cons (a.cg g fun p hp => k p (List.mem_append_left _ hp) fun z => ?_) (ih n2 e' (by simpa using eo) (fun p hp => k p (List.mem_append_right _ hp)) a')
      exact n3 p hp p (List.mem_flatten.mpr ⟨f, List.mem_of_getElem? e', z⟩) rfl
section
variable {K : PySem.W.Frag} {c : Bs} {Γ : List Sl} {G0 H0 : Hp} {σ : L2.St}
theorem SatG.mu (S : SatG K c Γ G0 σ H0) {i : Nat} {s0 : Sl} (hi : Γ[i]? = some s0) : ∃ o f0, σ[i]? = some o ∧ SlAt K G0 H0 s0 o f0 ∧ f0.Nodup ∧ (∀ p ∈ f0, G0 p = none ∧ (p ∈ c.F0 ∨ c.H0 p = none)) ∧
    ∀ (G H G' H' : Hp) (F : List Addr) (s : Sl) (v : V) (fr : List Addr) (a : Sl) (fa : List Addr), Gr G0 H0 G H → Mu G H F G' H' → (∀ p ∈ F, p ∈ f0 ∨ H0 p = none) → SlAt K G' H' s (some v) fr → SlAt K G' H' a o fa → (fr ++ fa).Nodup → (∀ q ∈ fr ++ fa, G' q = none ∧ (q ∈ F ∨ H q = none)) →
      SatG K c (s :: Γ.set i a) G' (some v :: σ) H' := by
  obtain ⟨fs, h1, h2, h3⟩ := S.sl
  obtain ⟨o, f0, e1, e2, a0⟩ := h1.get hi
  have hff : ∀ p ∈ f0, p ∈ fs.flatten := fun p hp => List.mem_flatten.mpr ⟨f0, List.mem_of_getElem? e2, hp⟩
  have there := h1.there
  refine ⟨o, f0, e1, a0, h2.sublist (List.sublist_flatten_of_mem (List.mem_of_getElem? e2)), fun p hp => h3 p (hff p hp), fun G H G' H' F s v fr a fa g m hF as aa nd hn => ?_⟩
  have n00 : ∀ q, H q = none → H0 q = none := fun q z => ex_none g.hh z
  have nF : ∀ q, q ∈ fs.flatten → q ∉ f0 → q ∉ F := fun q hq n z => by
    rcases hF q z with y | y
    · exact n y
    · obtain ⟨u, hu⟩ := there q hq
      rw [y] at hu; cases hu
  have keep : ∀ q ∈ fs.flatten, q ∉ f0 → H' q = H0 q := fun q hq n => by
    obtain ⟨u, hu⟩ := there q hq
    rw [hu]
    exact m.hh _ _ (g.hh _ _ hu) (nF q hq n)
  have hset := sls_set (s := a) (f' := fa) (g.gg.trans m.gg) h1 h2 e2 e1 keep aa
  obtain ⟨m1, m2, m3⟩ := List.nodup_append.mp nd
  -- where the new ones lie
  have out : ∀ q ∈ fr ++ fa, q ∉ fs.flatten ∨ q ∈ f0 := fun q hq => by
    by_cases hf : q ∈ f0
    · exact .inr hf
    · refine .inl fun z => ?_
      rcases (hn q hq).2 with y | y
      · exact nF q z hf y
      · obtain ⟨u, hu⟩ := there q z
        rw [n00 q y] at hu; cases hu
  have newc : ∀ q ∈ fr ++ fa, q ∈ c.F0 ∨ c.H0 q = none := fun q hq => by
    have hz : ∀ r, H0 r = none → c.H0 r = none := fun r z => h0_new S z
    rcases (hn q hq).2 with y | y
    · rcases hF q y with w | w
      · exact (h3 q (hff q w)).2
      · exact .inr (hz q w)
    · exact .inr (hz q (n00 q y))
  refine ⟨(S.bg.trans g.gg).trans m.gg, m.gh, fun b u z n => ?_, fun b u z => ?_, fun b u z n y => ?_, (S.fl.trans g.gg).trans m.gg, fr :: fs.set i fa, .cons as hset, ?_, fun q hq => ?_⟩
  · have h4 := S.h0 b u z n
    refine m.hh _ _ (g.hh _ _ h4) fun hb => ?_
    rcases hF b hb with w | w
    · rcases (h3 b (hff b w)).2 with y | y
      · exact n y
      · rw [y] at z; cases z
    · rw [w] at h4; cases h4
  · obtain ⟨w, hw⟩ := S.th b u z
    exact m.th b w (g.hh _ _ hw)
  · have h4 := S.h0 b u z n
    have h5 := S.sep b u z n y
    cases q : G' b with
    | none => rfl
    | some w =>
      rcases m.nw b w q with y1 | y1 | y1
      · rcases g.nw b w y1 with y2 | y2
        · rw [h5] at y2; cases y2
        · rw [y2] at h4; cases h4
      · rw [n00 b y1] at h4; cases h4
      · rcases hF b y1 with y2 | y2
        · rcases (h3 b (hff b y2)).2 with y3 | y3
          · exact absurd y3 n
          · rw [y3] at z; cases z
        · rw [y2] at h4; cases h4
  · rw [List.flatten_cons]
    refine List.nodup_append.mpr ⟨m1, nodup_set h2 m2 (fun p hp => (out p (List.mem_append_right _ hp)).imp id fun z => ⟨f0, e2, z⟩), fun x hx y hy e => ?_⟩
    subst e
    rcases flatten_set_sub' h2 e2 x hy with z | z
    · rcases flatten_set_sub x hy with w | w
      · exact (out x (List.mem_append_left _ hx)).elim (fun k => k w) z
      · exact m3 x hx x w rfl
    · exact m3 x hx x z rfl
  · rw [List.flatten_cons] at hq
    rcases List.mem_append.mp hq with z | z
    · exact ⟨(hn q (List.mem_append_left _ z)).1, newc q (List.mem_append_left _ z)⟩
    · by_cases hqa : q ∈ fa
      · exact ⟨(hn q (List.mem_append_right _ hqa)).1, newc q (List.mem_append_right _ hqa)⟩
      · have hqf : q ∈ fs.flatten := (flatten_set_sub q z).resolve_right hqa
        have hq0 : q ∉ f0 := (flatten_set_sub' h2 e2 q z).resolve_right hqa
        refine ⟨?_, (h3 q hqf).2⟩
        obtain ⟨w0, hw0⟩ := there q hqf
        cases y : G' q with
        | none => rfl
        | some w =>
          rcases m.nw q w y with y1 | y1 | y1
          · rcases g.nw q w y1 with y2 | y2
            · rw [(h3 q hqf).1] at y2; cases y2
            · rw [y2] at hw0; cases hw0
          · rw [n00 q y1] at hw0; cases hw0
          · exact absurd y1 (nF q hqf hq0)
/-- the value at the head goes -/
theorem SatG.pop1 {Γ : List Sl} {s : Sl} {G H : Hp} {σ : L2.St} {v : V} (S : SatG K c (s :: Γ) G (some v :: σ) H) : SatG K c Γ G σ H := by
  obtain ⟨fs, h1, h2, h3⟩ := S.sl
  cases h1 with
  | @cons _ _ f _ _ fs a r =>
    rw [List.flatten_cons] at h2 h3
    exact ⟨S.bg, S.gh, S.h0, S.th, S.sep, S.fl, fs, r, (List.nodup_append.mp h2).2.1, fun p hp => h3 p (List.mem_append_right _ hp)⟩
/-- .. to a slot -/
theorem SatG.put1 {Γ : List Sl} {s : Sl} {G H : Hp} {σ : L2.St} {v : V} (S : SatG K c (s :: Γ) G (some v :: σ) H) (j : Nat) : SatG K c (Γ.set j s) G (σ.set j (some v)) H := by
  obtain ⟨fs, h1, h2, h3⟩ := S.sl
  cases h1 with
  | @cons _ _ f _ _ fs a r =>
    rw [List.flatten_cons] at h2 h3
    obtain ⟨n1, n2, n3⟩ := List.nodup_append.mp h2
    refine ⟨S.bg, S.gh, S.h0, S.th, S.sep, S.fl, fs.set j f, r.set a, nodup_set n2 n1 (fun p hp => .inl fun z => n3 p hp p z rfl), fun p hp => ?_⟩
    rcases flatten_set_sub p hp with z | z
    · exact h3 p (List.mem_append_right _ z)
    · exact h3 p (List.mem_append_left _ z)
theorem SatG.head1 {Γ : List Sl} {s : Sl} {G H : Hp} {σ : L2.St} {v : V} (S : SatG K c (s :: Γ) G (some v :: σ) H) : ∃ f, SlAt K G H s (some v) f ∧ f.Nodup ∧ ∀ p ∈ f, G p = none ∧ (p ∈ c.F0 ∨ c.H0 p = none) := by
  obtain ⟨fs, h1, h2, h3⟩ := S.sl
  cases h1 with
  | @cons _ _ f _ _ fs a r =>
    rw [List.flatten_cons] at h2 h3
    exact ⟨f, a, (List.nodup_append.mp h2).1, fun p hp => h3 p (List.mem_append_left _ hp)⟩
end
/-! #### promises -/
/-- what is handed back, and the thing handed in, as it stands then -/
def retR (s : Sl) (p : Addr) (rk : RK) (fs : List (Str × Sl)) (K : PySem.W.Frag) (G H : Hp) (o : Option V) (f : List Addr) : Prop := ∃ f1 f2, f = f1 ++ f2 ∧ SlAt K G H s o f1 ∧ recR none rk fs K G H (some (.ref p)) f2
/-- a def that changes the thing at its j-th place -/
def PrM (T : CT) (K : PySem.W.Frag) {τ β Z : Type} (e1 e2 : τ → List D) (rk : RK) (fs : Z → List (Str × Sl)) (f : Z → τ → R β) (ret : β → Sl) (fs' : β → List (Str × Sl)) : Sp := fun vs H Q E => ∃ (B : Hp) (z : Z) (x : τ) (vs1 vs2 : List V) (p : Addr) (fp : List Addr),
  vs = vs1 ++ .ref p :: vs2 ∧ Ex B H ∧ RpA K B vs1 (e1 x) ∧ RpA K B vs2 (e2 x) ∧ recR none rk (fs z) K B H (some (.ref p)) fp ∧ fp.Nodup ∧ (∀ q ∈ fp, B q = none) ∧
  (f z x).wp (fun b => ∀ v G' H' fr fa, Mu B H fp G' H' → SlAt K G' H' (ret b) (some v) fr → recR none rk (fs' b) K G' H' (some (.ref p)) fa → (fr ++ fa).Nodup → (∀ q ∈ fr ++ fa, G' q = none ∧ (q ∈ fp ∨ H q = none)) → Q v H')
    (fun n a => ∀ G' H' cls d, Mu B H fp G' H' → ExOk T n a cls d H' → E cls d H')
/-- a def that is handed what becomes its own -/
def PrN (T : CT) (K : PySem.W.Frag) {τ β : Type} (sls : τ → List Sl) (f : τ → R β) (ret : β → Sl) : Sp := fun vs H Q E => ∃ (B : Hp) (x : τ) (fps : List (List Addr)), Ex B H ∧ SlsAt K B H (sls x) (vs.map some) fps ∧ fps.flatten.Nodup ∧ (∀ q ∈ fps.flatten, B q = none) ∧
  (f x).wp (fun b => ∀ v G' H' fr, Mu B H fps.flatten G' H' → SlAt K G' H' (ret b) (some v) fr → fr.Nodup → (∀ q ∈ fr, G' q = none ∧ (q ∈ fps.flatten ∨ H q = none)) → Q v H')
    (fun n a => ∀ G' H' cls d, Mu B H fps.flatten G' H' → ExOk T n a cls d H' → E cls d H')
/-! #### an expression that changes slots -/
def tM (J : Jd) (Γx Γ : List Sl) {β : Type} (m : R β) (ret : β → Sl) (out : β → List Sl) : TE := fun σ H Q => ∃ G, Sat J Γ G σ H ∧ m.wp (fun b => ∀ v G' H', Ex G G' → Sat J (ret b :: out b) G' (some v :: σ) H' → Q v H') (ErE J Γx σ)
structure EM (J : Jd) (Γx Γ : List Sl) (e : Expr) {β : Type} (m : R β) (ret : β → Sl) (out : β → List Sl) : Prop where
  pe : PE J.X e (tM J Γx Γ m ret out)
def tMB (J : Jd) (Γx Γ : List Sl) {δ : Type} (m : R (Bool × δ)) (out : δ → List Sl) : TT := fun σ H Q => ∃ G, Sat J Γ G σ H ∧ m.wp (fun b => ∀ G' H', Ex G G' → Sat J (out b.2) G' σ H' → Q b.1 H') (ErE J Γx σ)
structure TM (J : Jd) (Γx Γ : List Sl) (e : Expr) {δ : Type} (m : R (Bool × δ)) (out : δ → List Sl) : Prop where
  pt : L2.PT J.X e (tMB J Γx Γ m out)
section
variable {J : Jd} {Γ Γx : List Sl} {a b e : Expr} {es : List Expr} {pos p p2 apos : Pos} {x y mn : Str} {i j k : Nat} {op : Option Addr} {rk : RK} {α β τ Z δ : Type} [Enc α] {C g : Addr} {fd : FuncData} {ps : List Str} {dvs : List V} {dss : List Value}
theorem erE_mu {σ : L2.St} {G H G1 H1 : Hp} {F f0 : List Addr} {o : Option V} (S : Sat J Γ G σ H) (hi : i < Γ.length) {n : Nat} {a : Option Int} (w : ErE J (Γ.set i .no) σ n a)
    (k : ∀ (G2 H2 G' H' : Hp) (F : List Addr) (s : Sl) (v : V) (fr : List Addr) (a : Sl) (fa : List Addr), Gr G H G2 H2 → Mu G2 H2 F G' H' → (∀ p ∈ F, p ∈ f0 ∨ H p = none) → SlAt J.K G' H' s (some v) fr → SlAt J.K G' H' a o fa → (fr ++ fa).Nodup → (∀ q ∈ fr ++ fa, G' q = none ∧ (q ∈ F ∨ H2 q = none)) →
      SatG J.K J.c (s :: Γ.set i a) G' (some v :: σ) H') (g : Gr G H G1 H1) (hF : ∀ p ∈ F, p ∈ f0 ∨ H p = none) : ∀ G' H' cls d, Mu G1 H1 F G' H' → ExOk J.T n a cls d H' → WE J.W σ cls d H' :=
  fun G' H' cls d m ok => w G' H' cls d (k G1 H1 G' H' F .no .non [] .no [] g m hF rfl rfl List.nodup_nil (fun q hq => by cases hq)).pop1 ok
/-- x.m(..): the thing in slot i changes -/
theorem EM.meth {e2 : τ → List D} {fs : Z → List (Str × Sl)} {f : Z → τ → R β} {ret : β → Sl} {fs' : β → List (Str × Sl)} {z : Z} {m : R τ} {pl : Sem Bool} (F : FnOk J.X.prog J.X.w J.X.K J.X.mg J.X.base (L2.CX J.X.prog J.X.w) k g fd ps (PrM J.T J.K (fun _ => []) e2 (.ins C) fs f ret fs')) (hr : Room k J.X.A) (c : Cls J.K C) (hm : Meth J.K C mn g) (hb : Binds J.K fd ps []) (hN : J.X.N[i]? = some x) (hG : Γ[i]? = some (.rc op (.ins C) (fs z))) (hmn : mn ∉ (fs z).map (·.1))
    (ha : EA0 J Γ (e :: es) m e2) (hv : Vis J.X.env.scope x := by first | exact Or.inl rfl | exact Or.inr (Or.inl rfl) | exact Or.inr (Or.inr rfl)) (hd : (x == ("__debug__" : Str)) = false := by decide) (hcd : (x == ("__classdict__" : Str)) = false := by decide)
    (hst : starEach (e :: es) J.X.env = (false, eval e J.X.env) :: starEach es J.X.env := by rfl) (hpl : (backTo pos (starEach es J.X.env)).any (·.1) = false := by rfl)
    (ht : eval (.Call (.Attribute (.Name x p) mn apos) (e :: es) [] pos) J.X.env = (do
      let ov ← eval (.Name x p) J.X.env
      standAt apos.atName
      let (f, first) ← holding [ov] (getMethod ov mn pl)
      callWith pos f first (backTo pos (starEach (e :: es) J.X.env)) (backToKw pos (keywordEach [] J.X.env))) := by rfl) :
    EM J (Γ.set i .no) Γ (.Call (.Attribute (.Name x p) mn apos) (e :: es) [] pos) (m.bind (f z)) ret (fun b => Γ.set i (.rc op (.ins C) (fs' b))) :=
  ⟨pe_wk (pe_methX (pe_var hN hv hd hcd) c hm F hr hb .nil (passAt J.tk) ha.pa hst hpl ht) fun σ H Q ⟨G, S, w⟩ => by
    obtain ⟨o, f0, e1, ⟨_, a0⟩, nd0, h0, mu⟩ := S.mu hG
    obtain ⟨p, u, vs, gg, rfl, hop, rfl, h1, ⟨dx, h2⟩, h3⟩ := a0
    have hi : i < Γ.length := (List.getElem?_eq_some_iff.mp hG).1
    refine ⟨.ref p, e1, p, dx, vs, rfl, by rw [h1, h2], lookup_no (by rw [h3.names]; exact hmn), G, S, wp_mono (wp_bind.mp w) (fun t kq ws G1 H1 g1 r1 => ?_) fun n a z G' H' cls d S' ok => z G' H' cls d (S'.forget i hi) ok⟩
    show PrM J.T J.K (fun _ => []) e2 (.ins C) fs f ret fs' (V.ref p :: (ws ++ [])) H1 Q (WE J.W σ)
    rw [List.append_nil]
    have a1 : recR none (.ins C) (fs z) J.K G1 H1 (some (.ref p)) (p :: gg) := (recR_gd _ _ _ _).gr g1.gg g1.hh ⟨p, u, vs, gg, rfl, (fun _ z => nomatch z), rfl, h1, ⟨dx, h2⟩, h3⟩
    have gn : ∀ q ∈ p :: gg, G1 q = none := fun q hq => by
      obtain ⟨w0, hw0, _⟩ := (recR_gd none (.ins C) (fs z) J.K).kd (⟨p, u, vs, gg, rfl, (fun _ z => nomatch z), rfl, h1, ⟨dx, h2⟩, h3⟩ : recR none (.ins C) (fs z) J.K G H (some (.ref p)) (p :: gg)) q hq
      cases y : G1 q with
      | none => rfl
      | some w =>
        rcases g1.nw q w y with y1 | y1
        · rw [(h0 q hq).1] at y1; cases y1
        · rw [y1] at hw0; cases hw0
    refine ⟨G1, z, t, [], ws, p, p :: gg, rfl, g1.gh, .nil, r1, a1, nd0, gn, wp_mono kq (fun b k2 v G' H' fr fa m as aa nd hn => ?_) fun n a z => erE_mu S hi z mu g1 fun q hq => .inl hq⟩
    refine k2 v G' H' (g1.gg.trans m.gg) (mu G1 H1 G' H' _ (ret b) v fr (.rc op (.ins C) (fs' b)) fa g1 m (fun q hq => .inl hq) as ⟨recR_gd _ _ _ _, ?_⟩ nd hn)
    obtain ⟨p', u', vs', g', e2, _, e3⟩ := aa
    cases e2
    exact ⟨p, u', vs', g', rfl, hop, e3⟩⟩
theorem EM.meth0 {e2 : Unit → List D} {fs : Z → List (Str × Sl)} {f : Z → Unit → R β} {ret : β → Sl} {fs' : β → List (Str × Sl)} {z : Z} {pl : Sem Bool} (F : FnOk J.X.prog J.X.w J.X.K J.X.mg J.X.base (L2.CX J.X.prog J.X.w) k g fd ps (PrM J.T J.K (fun _ => []) e2 (.ins C) fs f ret fs')) (he2 : e2 () = []) (hr : Room k J.X.A) (c : Cls J.K C) (hm : Meth J.K C mn g) (hb : Binds J.K fd ps []) (hN : J.X.N[i]? = some x) (hG : Γ[i]? = some (.rc op (.ins C) (fs z))) (hmn : mn ∉ (fs z).map (·.1))
    (hv : Vis J.X.env.scope x := by first | exact Or.inl rfl | exact Or.inr (Or.inl rfl) | exact Or.inr (Or.inr rfl)) (hd : (x == ("__debug__" : Str)) = false := by decide) (hcd : (x == ("__classdict__" : Str)) = false := by decide)
    (ht : eval (.Call (.Attribute (.Name x p) mn apos) [] [] pos) J.X.env = (do
      let ov ← eval (.Name x p) J.X.env
      standAt apos.atName
      let (f, first) ← holding [ov] (getMethod ov mn pl)
      callWith pos f first (backTo pos (starEach [] J.X.env)) (backToKw pos (keywordEach [] J.X.env))) := by rfl) :
    EM J (Γ.set i .no) Γ (.Call (.Attribute (.Name x p) mn apos) [] [] pos) (f z ()) ret (fun b => Γ.set i (.rc op (.ins C) (fs' b))) :=
  ⟨pe_wk (pe_methX0 (pe_var hN hv hd hcd) c hm F hr hb .nil (passAt J.tk) ht) fun σ H Q ⟨G, S, w⟩ => by
    obtain ⟨o, f0, e1, ⟨_, a0⟩, nd0, h0, mu⟩ := S.mu hG
    obtain ⟨p, u, vs, gg, rfl, hop, rfl, h1, ⟨dx, h2⟩, h3⟩ := a0
    have hi : i < Γ.length := (List.getElem?_eq_some_iff.mp hG).1
    refine ⟨.ref p, e1, p, dx, vs, rfl, by rw [h1, h2], lookup_no (by rw [h3.names]; exact hmn), ?_⟩
    have g1 : Gr G H G H := Gr.refl S.gh
    refine ⟨G, z, (), [], [], p, p :: gg, rfl, S.gh, .nil, by rw [he2]; exact .nil, ⟨p, u, vs, gg, rfl, (fun _ z => nomatch z), rfl, h1, ⟨dx, h2⟩, h3⟩, nd0, fun q hq => (h0 q hq).1, wp_mono w (fun b k2 v G' H' fr fa m as aa nd hn => ?_) fun n a z => erE_mu S hi z mu g1 fun q hq => .inl hq⟩
    refine k2 v G' H' m.gg (mu G H G' H' _ (ret b) v fr (.rc op (.ins C) (fs' b)) fa g1 m (fun q hq => .inl hq) as ⟨recR_gd _ _ _ _, ?_⟩ nd hn)
    obtain ⟨p', u', vs', g', e2, _, e3⟩ := aa
    cases e2
    exact ⟨p, u', vs', g', rfl, hop, e3⟩⟩
/-- arguments, one of them the thing in slot i -/
def tAM (J : Jd) (Γ : List Sl) {τ : Type} (m : R τ) (e1 e2 : τ → List D) (i : Nat) : TA := fun σ H Q => ∃ G, Sat J Γ G σ H ∧ m.wp (fun t => ∀ vs1 vs2 v G' H', Gr G H G' H' → RpA J.K G' vs1 (e1 t) → RpA J.K G' vs2 (e2 t) → σ[i]? = some (some v) → Q (vs1 ++ v :: vs2) H') (ErE J Γ σ)
structure EAM (J : Jd) (Γ : List Sl) (es : List Expr) {τ : Type} (m : R τ) (e1 e2 : τ → List D) (i : Nat) : Prop where
  pa : PA J.X es (tAM J Γ m e1 e2 i)
theorem EAM.here {e2 : τ → List D} {m : R τ} {rk : RK} {fs : List (Str × Sl)} (hs : EA0 J Γ es m e2) (hN : J.X.N[i]? = some x) (hG : Γ[i]? = some (.rc op rk fs)) (hst : starEach (.Name x p :: es) J.X.env = (false, eval (.Name x p) J.X.env) :: starEach es J.X.env := by rfl) (hv : Vis J.X.env.scope x := by first | exact Or.inl rfl | exact Or.inr (Or.inl rfl) | exact Or.inr (Or.inr rfl))
    (hd : (x == ("__debug__" : Str)) = false := by decide) (hcd : (x == ("__classdict__" : Str)) = false := by decide) : EAM J Γ (.Name x p :: es) m (fun _ => []) e2 i :=
  ⟨pa_wk (pa_cons (pe_var hN hv hd hcd) hs.pa hst) fun σ H Q ⟨G, S, w⟩ => by
    obtain ⟨o, f, e1, ⟨_, a⟩, _⟩ := S.get hG
    obtain ⟨q, rfl, _⟩ := a.un
    exact ⟨.ref q, e1, G, S, wp_mono w (fun t k vs G' H' g r => k [] vs (.ref q) G' H' g .nil r e1) fun _ _ z => z⟩⟩
theorem EAM.cons {e1 e2 : τ → List D} {m1 : R α} {m : R τ} (h : ES J Γ e m1) (hs : EAM J Γ es m e1 e2 i) (hst : starEach (e :: es) J.X.env = (false, eval e J.X.env) :: starEach es J.X.env := by rfl) : EAM J Γ (e :: es) (m1.bind fun a => m.bind fun t => .ok (a, t)) (fun t => enc t.1 :: e1 t.2) (fun t => e2 t.2) i :=
  ⟨pa_wk (pa_cons h.pe hs.pa hst) fun σ H Q ⟨G, S, w⟩ => ⟨G, S, wp_mono (wp_bind.mp w) (fun a k v G1 H1 g1 r1 => ⟨G1, S.gr g1, wp_mono (wp_bind.mp k) (fun t k2 vs1 vs2 u G2 H2 g2 r2 r3 e3 => k2 (v :: vs1) vs2 u G2 H2 (g1.trans g2) (.cons (r1.ex g2.gg) r2) r3 e3) fun _ _ z => z⟩) fun _ _ z => z⟩⟩
/-- f(.., x, ..): the thing in slot i changes -/
theorem EM.call {e1 e2 : τ → List D} {rk : RK} {fs : Z → List (Str × Sl)} {f : Z → τ → R β} {ret : β → Sl} {fs' : β → List (Str × Sl)} {z : Z} {m : R τ} (F : FnOk J.X.prog J.X.w J.X.K J.X.mg J.X.base (L2.CX J.X.prog J.X.w) k g fd ps (PrM J.T J.K e1 e2 rk fs f ret fs')) (hr : Room k J.X.A) (hm : J.X.mg y = some (.ref g)) (hk : PySem.W.keepIn J.X.K (.ref g) = true) (hb : Binds J.X.K fd ps [])
    (ha : EAM J Γ (e :: es) m e1 e2 i) (hG : Γ[i]? = some (.rc op rk (fs z))) (hg : Gl J.X y := by rfl) (hdb : (y == ("__debug__" : Str)) = false := by decide) (he : starEach (e :: es) J.X.env = (false, eval e J.X.env) :: starEach es J.X.env := by rfl) (hpl : (backTo pos (starEach es J.X.env)).any (·.1) = false := by rfl) :
    EM J (Γ.set i .no) Γ (.Call (.Name y p) (e :: es) [] pos) (m.bind (f z)) ret (fun b => Γ.set i (.rc op rk (fs' b))) :=
  ⟨pe_wk (pe_callS F hr hg hm hk hb (passAt J.tk) ha.pa hdb he hpl) fun σ H Q ⟨G, S, w⟩ => by
    obtain ⟨o, f0, e1, ⟨_, a0⟩, nd0, h0, mu⟩ := S.mu hG
    obtain ⟨p, u, vs, gg, rfl, hop, rfl, h1, h2, h3⟩ := a0
    have hi : i < Γ.length := (List.getElem?_eq_some_iff.mp hG).1
    refine ⟨G, S, wp_mono (wp_bind.mp w) (fun t kq ws1 ws2 v G1 H1 g1 r1 r2 ev => ?_) fun n a z G' H' cls d S' ok => z G' H' cls d (S'.forget i hi) ok⟩
    rw [e1] at ev
    cases ev
    have aa : recR none rk (fs z) J.K G H (some (.ref p)) (p :: gg) := ⟨p, u, vs, gg, rfl, (fun _ z => nomatch z), rfl, h1, h2, h3⟩
    have a1 : recR none rk (fs z) J.K G1 H1 (some (.ref p)) (p :: gg) := (recR_gd _ _ _ _).gr g1.gg g1.hh aa
    have gn : ∀ q ∈ p :: gg, G1 q = none := fun q hq => by
      obtain ⟨w0, hw0, _⟩ := (recR_gd none rk (fs z) J.K).kd aa q hq
      cases y : G1 q with
      | none => rfl
      | some w =>
        rcases g1.nw q w y with y1 | y1
        · rw [(h0 q hq).1] at y1; cases y1
        · rw [y1] at hw0; cases hw0
    refine ⟨G1, z, t, ws1, ws2, p, p :: gg, rfl, g1.gh, r1, r2, a1, nd0, gn, wp_mono kq (fun b k2 v G' H' fr fa m as aa nd hn => ?_) fun n a z => erE_mu S hi z mu g1 fun q hq => .inl hq⟩
    refine k2 v G' H' (g1.gg.trans m.gg) (mu G1 H1 G' H' _ (ret b) v fr (.rc op rk (fs' b)) fa g1 m (fun q hq => .inl hq) as ⟨recR_gd _ _ _ _, ?_⟩ nd hn)
    obtain ⟨p', u', vs', g', e2, _, e3⟩ := aa
    cases e2
    exact ⟨p, u', vs', g', rfl, hop, e3⟩⟩
end
/-! ### 50. statements and tests that change slots -/
section
variable {J : Jd} {Γ Γx : List Sl} {a b c e : Expr} {A B body sts rest : List Stmt} {es bs : List Expr} {pos p p2 : Pos} {x y : Str} {i j k : Nat} {op : Option Addr} {rk : RK} {α β γ δ δ1 τ Z ρ : Type} [Enc α]
theorem ErE.wk {Γ Γ' : List Sl} (w : Wk Γ Γ') {σ : L2.St} {n : Nat} {a : Option Int} (h : ErE J Γ' σ n a) : ErE J Γ σ n a := fun G' H' cls d S ok => h G' H' cls d (S.wk w) ok
/-- e, its value dropped -/
theorem BS.exM {m : R β} {ret : β → Sl} {out : β → List Sl} (h : EM J Γx Γ e m ret out) (hp : PeOk J Γx) (hs : swapsWith e none pos.line J.X.env = pure false := by rfl) : BS J Γ (.Expr e pos) m (fun b => .nx (out b)) :=
  ⟨ps_wk (ps_expr h.pe hs) fun D σ H ⟨G, S, q⟩ => ⟨G, S, wp_mono q (fun b k v G' H' _ S' => k G' σ H' S'.pop1) fun n a z => erE_of hp z σ⟩⟩
/-- x = e -/
theorem BS.asgM {m : R β} {ret : β → Sl} {out : β → List Sl} (h : EM J Γx Γ e m ret out) (hp : PeOk J Γx) (hN : J.X.N.Nodup) (hi : J.X.N[i]? = some x) (hx : Loc J.X.env.scope x) (hs : swapsWith e (some (.Name x p)) pos.line J.X.env = pure false := by rfl)
    (hf : J.X.fn x = true ∨ J.X.env.scope.names.lookup x = some .local := by first | exact .inl rfl | exact .inr rfl) : BS J Γ (.Assign [.Name x p] e pos) m (fun b => .nx ((out b).set i (ret b))) :=
  ⟨ps_wk (ps_set hN hi hx h.pe hs hf) fun D σ H ⟨G, S, q⟩ => ⟨G, S, wp_mono q (fun b k v G' H' _ S' => k G' _ H' (S'.put1 i)) fun n a z => erE_of hp z σ⟩⟩
/-- x = what may be stored -/
theorem BS.asgX {m : R β} {sl : β → Sl} (h : EX J Γ e m sl) (hp : PeOk J Γ) (hN : J.X.N.Nodup) (hi : J.X.N[i]? = some x) (hx : Loc J.X.env.scope x) (hs : swapsWith e (some (.Name x p)) pos.line J.X.env = pure false := by rfl)
    (hf : J.X.fn x = true ∨ J.X.env.scope.names.lookup x = some .local := by first | exact .inl rfl | exact .inr rfl) : BS J Γ (.Assign [.Name x p] e pos) m (fun b => .nx (Γ.set i (sl b))) :=
  ⟨ps_wk (ps_set hN hi hx h.pe hs hf) fun D σ H ⟨G, S, q⟩ => ⟨G, S, wp_mono q (fun b k v f G' H' g nd n a => k G' _ H' (S.setgn g (fun p hp => ⟨(n p hp).1, h0_new S (n p hp).1, (n p hp).2⟩) nd a)) fun n a z => erE_of hp z σ⟩⟩
/-! #### tests -/
theorem TM.ofM {m : R β} {out : β → List Sl} (rb : β → Bool) (h : EM J Γx Γ e m (fun b => .va (enc (rb b))) out) (he : ∀ whole, isTrue e J.X.env whole = (do let v ← whole; standAt e.pos; holding [v] (truthy v)) := by intro _; rfl) : TM J Γx Γ e (m.bind fun b => .ok (rb b, b)) out :=
  ⟨pt_wk (pt_val h.pe he) fun σ H Q ⟨G, S, w⟩ => ⟨G, S, wp_mono (wp_bind.mp w) (fun b k v G' H' g S' => by
    obtain ⟨f, ⟨_, v', ev, r⟩, _⟩ := S'.head1
    cases ev
    have e := Rp.unbl r
    subst e
    exact ⟨rb b, rfl, k G' H' g S'.pop1⟩) fun _ _ z => z⟩⟩
theorem TM.ofT {m : R Bool} (h : ET J Γ e m) (w : Wk Γ Γx) (out : Unit → List Sl) (ho : out () = Γ := by rfl) : TM J Γx Γ e (m.bind fun b => .ok (b, ())) out :=
  ⟨pt_wk h.pt fun σ H Q ⟨G, S, q⟩ => ⟨G, S, wp_mono (wp_bind.mp q) (fun b k G' H' g => k G' H' g.gg (by rw [ho]; exact S.gr g)) fun n a z => z.wk w⟩⟩
/-- .. the state handed on -/
theorem TM.ofTs {m : R Bool} (h : ET J Γ e m) (w : Wk Γ Γx) (s : δ) (out : δ → List Sl) (ho : out s = Γ := by rfl) : TM J Γx Γ e (m.bind fun b => .ok (b, s)) out :=
  ⟨pt_wk h.pt fun σ H Q ⟨G, S, q⟩ => ⟨G, S, wp_mono (wp_bind.mp q) (fun b k G' H' g => k G' H' g.gg (by rw [ho]; exact S.gr g)) fun n a z => z.wk w⟩⟩
/-- the state in another form -/
theorem TM.cv {m : R (Bool × δ1)} {out1 : δ1 → List Sl} (h : TM J Γx Γ e m out1) (g : δ1 → δ) (out : δ → List Sl) (ho : ∀ d, out (g d) = out1 d := by intro _; rfl) : TM J Γx Γ e (m.bind fun t => .ok (t.1, g t.2)) out :=
  ⟨pt_wk h.pt fun σ H Q ⟨G, S, q⟩ => ⟨G, S, wp_mono (wp_bind.mp q) (fun t k G' H' e S' => k G' H' e (by rw [ho]; exact S')) fun _ _ z => z⟩⟩
theorem TM.not {m : R (Bool × δ)} {out : δ → List Sl} (h : TM J Γx Γ a m out) : TM J Γx Γ (.UnaryOp .Not a pos) (m.bind fun t => .ok (!t.1, t.2)) out :=
  ⟨pt_wk (pt_not h.pt) fun σ H Q ⟨G, S, w⟩ => ⟨G, S, wp_mono (wp_bind.mp w) (fun t k G' H' g S' => k G' H' g S') fun _ _ z => z⟩⟩
theorem TM.isB {m : R β} {out : β → List Sl} {jj : Nat} {v : Bool} (rb : β → Bool) (h : EM J Γx Γ a m (fun b => .va (enc (rb b))) out) : TM J Γx Γ (.Compare a [.Is] [.Constant (.bool v) jj p] pos) (m.bind fun b => .ok (decide (rb b = v), b)) out :=
  ⟨pt_wk (pt_cmpR op_isBl h.pe pe_bl (nomark _)) fun σ H Q ⟨G, S, w⟩ => ⟨G, S, wp_mono (wp_bind.mp w) (fun b k u G' H' g S' => by
    obtain ⟨f, ⟨_, v', ev, r⟩, _⟩ := S'.head1
    cases ev
    have e := Rp.unbl r
    subst e
    exact ⟨rb b, v, rfl, rfl, _, rfl, k G' H' g S'.pop1⟩) fun _ _ z => z⟩⟩
theorem TM.notB {m : R β} {out : β → List Sl} {jj : Nat} {v : Bool} (rb : β → Bool) (h : EM J Γx Γ a m (fun b => .va (enc (rb b))) out) : TM J Γx Γ (.Compare a [.IsNot] [.Constant (.bool v) jj p] pos) (m.bind fun b => .ok (!decide (rb b = v), b)) out :=
  ⟨pt_wk (pt_cmpR op_notBl h.pe pe_bl (nomark _)) fun σ H Q ⟨G, S, w⟩ => ⟨G, S, wp_mono (wp_bind.mp w) (fun b k u G' H' g S' => by
    obtain ⟨f, ⟨_, v', ev, r⟩, _⟩ := S'.head1
    cases ev
    have e := Rp.unbl r
    subst e
    exact ⟨rb b, v, rfl, rfl, _, rfl, k G' H' g S'.pop1⟩) fun _ _ z => z⟩⟩
/-- e op b of ints, e that changes slots -/
theorem TM.cmpI {op : CmpOp} {h : Int → Int → Bool} (ho : ∀ X : Cx, OpR X (compareOp op) (rI0 fun i j => .bl (h i j))) (hm : behindInMarks op b = false) {m : R β} {out : β → List Sl} (ri : β → Int) {m2 : β → R Int} (ha : EM J Γx Γ a m (fun b => .va (enc (ri b))) out) (hb : ∀ t, ES J (out t) b (m2 t)) (w : ∀ t, Wk (out t) Γx) :
    TM J Γx Γ (.Compare a [op] [b] pos) (m.bind fun t => (m2 t).bind fun y => .ok (h (ri t) y, t)) out := by
  have hb' : PE J.X b (fun σ H Q => ∃ t, tS J (out t) (m2 t) σ H Q) := ⟨fun pins s σ H Q I ⟨t, q⟩ => (hb t).pe.run pins s σ H Q I q⟩
  exact ⟨pt_wk (pt_cmpR (ho _) ha.pe hb' hm) fun σ H Q ⟨G, S, q⟩ => ⟨G, S, wp_mono (wp_bind.mp q) (fun t k u G' H' g S' => by
    obtain ⟨f, ⟨_, v', ev, r⟩, _⟩ := S'.head1
    cases ev
    have e := Rp.unint r
    subst e
    refine ⟨t, G', S'.pop1, wp_mono (wp_bind.mp k) (fun y k2 v G2 H2 g2 r2 => ?_) fun n a z => z.wk (w t)⟩
    have e := Rp.unint r2
    subst e
    exact ⟨ri t, y, rfl, rfl, _, rfl, k2 G2 H2 (g.trans g2.gg) (S'.pop1.gr g2)⟩) fun _ _ z => z⟩⟩
structure EWM (J : Jd) (Γx Γ : List Sl) (e : Expr) (m : R (Bool × δ)) (out : δ → List Sl) : Prop where
  pw : PW J.X e (tMB J Γx Γ m out)
theorem EWM.tm {m : R (Bool × δ)} {out : δ → List Sl} (h : EWM J Γx Γ e m out) : TM J Γx Γ e m out := ⟨h.pw.pt⟩
theorem EWM.and1 {m : R (Bool × δ)} {out : δ → List Sl} (h : TM J Γx Γ a m out) : EWM J Γx Γ (.BoolOp .And [a] pos) m out := ⟨pw_and1 h.pt⟩
theorem EWM.or1 {m : R (Bool × δ)} {out : δ → List Sl} (h : TM J Γx Γ a m out) : EWM J Γx Γ (.BoolOp .Or [a] pos) m out := ⟨pw_or1 h.pt⟩
theorem EWM.and {m1 : R (Bool × δ1)} {out1 : δ1 → List Sl} {m2 : δ1 → R (Bool × δ)} {out : δ → List Sl} (ha : TM J Γx Γ a m1 out1) (hb : ∀ d, EWM J Γx (out1 d) (.BoolOp .And (b :: bs) pos) (m2 d) out) (g : δ1 → δ) (ho : ∀ d, out (g d) = out1 d := by intro _; rfl) :
    EWM J Γx Γ (.BoolOp .And (a :: b :: bs) pos) (m1.bind fun t => if t.1 = true then m2 t.2 else .ok (false, g t.2)) out := by
  have hb' : PW J.X (.BoolOp .And (b :: bs) pos) (fun σ H Q => ∃ d, tMB J Γx (out1 d) (m2 d) out σ H Q) := ⟨fun wh pins s σ H Q I ⟨d, q⟩ => (hb d).pw.run wh pins s σ H Q I q⟩
  exact ⟨pw_wk (pw_and ha.pt hb') fun σ H Q ⟨G, S, w⟩ => ⟨G, S, wp_mono (wp_bind.mp w) (fun t k G' H' e S' => by
    obtain ⟨x, d⟩ := t
    cases x with
    | true => exact ⟨d, G', S', wp_mono k (fun y k2 G2 H2 e2 S2 => k2 G2 H2 (e.trans e2) S2) fun _ _ z => z⟩
    | false => exact k G' H' e (by rw [ho]; exact S')) fun _ _ z => z⟩⟩
theorem EWM.or {m1 : R (Bool × δ1)} {out1 : δ1 → List Sl} {m2 : δ1 → R (Bool × δ)} {out : δ → List Sl} (ha : TM J Γx Γ a m1 out1) (hb : ∀ d, EWM J Γx (out1 d) (.BoolOp .Or (b :: bs) pos) (m2 d) out) (g : δ1 → δ) (ho : ∀ d, out (g d) = out1 d := by intro _; rfl) :
    EWM J Γx Γ (.BoolOp .Or (a :: b :: bs) pos) (m1.bind fun t => if t.1 = true then .ok (true, g t.2) else m2 t.2) out := by
  have hb' : PW J.X (.BoolOp .Or (b :: bs) pos) (fun σ H Q => ∃ d, tMB J Γx (out1 d) (m2 d) out σ H Q) := ⟨fun wh pins s σ H Q I ⟨d, q⟩ => (hb d).pw.run wh pins s σ H Q I q⟩
  exact ⟨pw_wk (pw_or ha.pt hb') fun σ H Q ⟨G, S, w⟩ => ⟨G, S, wp_mono (wp_bind.mp w) (fun t k G' H' e S' => by
    obtain ⟨x, d⟩ := t
    cases x with
    | false => exact ⟨d, G', S', wp_mono k (fun y k2 G2 H2 e2 S2 => k2 G2 H2 (e.trans e2) S2) fun _ _ z => z⟩
    | true => exact k G' H' e (by rw [ho]; exact S')) fun _ _ z => z⟩⟩
/-! #### ifs, whiles -/
theorem BS.ifM {mc : R (Bool × δ)} {Γ1 : δ → List Sl} {mA mB : δ → R β} {out : β → Fl} (hc : TM J Γx Γ c mc Γ1) (hp : PeOk J Γx) (hA : ∀ d, BD J (Γ1 d) A (mA d) out) (hB : ∀ d, BD J (Γ1 d) B (mB d) out) : BS J Γ (.If c A B pos) (mc.bind fun t => if t.1 = true then mA t.2 else mB t.2) out := by
  have hA' : PSs J.X A (fun D σ H => ∃ d, tBD J (Γ1 d) (mA d) out D σ H) := ⟨fun pins s σ H D I ⟨d, q⟩ => (hA d).ps.run pins s σ H D I q⟩
  have hB' : PSs J.X B (fun D σ H => ∃ d, tBD J (Γ1 d) (mB d) out D σ H) := ⟨fun pins s σ H D I ⟨d, q⟩ => (hB d).ps.run pins s σ H D I q⟩
  exact ⟨ps_wk (ps_if hc.pt hA' hB') fun D σ H ⟨G, S, q⟩ => ⟨G, S, wp_mono (wp_bind.mp q) (fun t k G' H' e S' => by
    obtain ⟨b, d⟩ := t
    cases b with
    | true => exact ⟨d, G', S', k⟩
    | false => exact ⟨d, G', S', k⟩) fun n a z => erE_of hp z σ⟩⟩
theorem BX.ifM {mc : R (Bool × δ)} {Γ1 : δ → List Sl} {mA mB : δ → R β} {out : β → Fl} (hc : TM J Γx Γ c mc Γ1) (hp : PeOk J Γx) (hA : ∀ d, BX J (Γ1 d) A (mA d) out) (hB : ∀ d, BX J (Γ1 d) B (mB d) out) : BX J Γ [.If c A B pos] (mc.bind fun t => if t.1 = true then mA t.2 else mB t.2) out :=
  ⟨(BS.ifM hc hp (fun d => (hA d).bd) (fun d => (hB d).bd)).toBD, fun b hb => by
    obtain ⟨⟨x, d⟩, _, e⟩ := bind_eq hb
    cases x with
    | true => exact (hA d).lv b e
    | false => exact (hB d).lv b e⟩
theorem BD.ifRM {mc : R (Bool × δ)} {Γ1 : δ → List Sl} {mA mR : δ → R β} {out : β → Fl} (hc : TM J Γx Γ c mc Γ1) (hp : PeOk J Γx) (hA : ∀ d, BX J (Γ1 d) A (mA d) out) (hR : ∀ d, BD J (Γ1 d) rest (mR d) out) : BD J Γ (.If c A [] pos :: rest) (mc.bind fun t => if t.1 = true then mA t.2 else mR t.2) out := by
  have hA' : PSs J.X A (fun D σ H => ∃ d, tBD J (Γ1 d) (mA d) out D σ H) := ⟨fun pins s σ H D I ⟨d, q⟩ => (hA d).bd.ps.run pins s σ H D I q⟩
  have hR' : PSs J.X rest (fun D σ H => ∃ d, tBD J (Γ1 d) (mR d) out D σ H) := ⟨fun pins s σ H D I ⟨d, q⟩ => (hR d).ps.run pins s σ H D I q⟩
  exact ⟨pss_wk (pss_cons (ps_if hc.pt hA' pss_nil) hR') fun D σ H ⟨G, S, q⟩ => ⟨G, S, wp_mono (wp_bind.mp q) (fun t k G' H' e S' => by
    obtain ⟨b, d⟩ := t
    cases b with
    | true =>
      show ∃ d, tBD J (Γ1 d) (mA d) out _ σ H'
      have k' : (mA d).wp (fun b => FlP J D (out b)) (ErB J) := k
      refine ⟨d, G', S', ?_⟩
      cases hm : mA d with
      | ok b => rw [hm] at k'; exact flP_lv ((hA d).lv b hm) k' rfl rfl rfl
      | stuck => rw [hm] at k'; exact k'
      | exc n a => rw [hm] at k'; exact k'
    | false => exact ⟨d, G', S', k⟩) fun n a z => erE_of hp z σ⟩⟩
theorem BX.ifRM {mc : R (Bool × δ)} {Γ1 : δ → List Sl} {mA mR : δ → R β} {out : β → Fl} (hc : TM J Γx Γ c mc Γ1) (hp : PeOk J Γx) (hA : ∀ d, BX J (Γ1 d) A (mA d) out) (hR : ∀ d, BX J (Γ1 d) rest (mR d) out) : BX J Γ (.If c A [] pos :: rest) (mc.bind fun t => if t.1 = true then mA t.2 else mR t.2) out :=
  ⟨BD.ifRM hc hp hA (fun d => (hR d).bd), fun b hb => by
    obtain ⟨⟨x, d⟩, _, e⟩ := bind_eq hb
    cases x with
    | true => exact (hA d).lv b e
    | false => exact (hR d).lv b e⟩
end
def whileFM {σ : Type} (c : σ → R (Bool × σ)) (f : σ → R σ) : Nat → σ → R σ
  | 0, _ => .stuck
  | n + 1, s => (c s).bind fun t => if t.1 = true then (f t.2).bind (whileFM c f n) else .ok t.2
def whileCM {σ ρ : Type} (c : σ → R (Bool × σ)) (f : σ → R (Ct σ ρ)) : Nat → σ → R (Ct σ ρ)
  | 0, _ => .stuck
  | n + 1, s => (c s).bind fun t => if t.1 = true then (f t.2).bind fun r => match r with
    | .nx s' => whileCM c f n s'
    | .bk s' => .ok (.bk s')
    | .rt r => .ok (.rt r)
    else .ok (.nx t.2)
section
variable {J : Jd} {Γ : List Sl} {c : Expr} {body : List Stmt} {pos : Pos} {σ ρ : Type}
theorem BS.whFM {cM : σ → R (Bool × σ)} {f : σ → R σ} (Gf Gx : σ → List Sl) (s0 : σ) (n : Nat) (w : Wk Γ (Gf s0)) (hp : ∀ s, PeOk J (Gx s)) (ht : ∀ s, TM J (Gx s) (Gf s) c (cM s) Gf) (hb : ∀ s, BD J (Gf s) body (f s) (fun s' => .nx (Gf s'))) :
    BS J Γ (.While c body [] pos) (whileFM cM f n s0) (fun s => .nx (Gf s)) := by
  have ht' : L2.PT J.X c (fun σ' H Q => ∃ s, tMB J (Gx s) (Gf s) (cM s) Gf σ' H Q) := ⟨fun pins s σ H Q I ⟨s', q⟩ => (ht s').pt.run pins s σ H Q I q⟩
  have hb' : PSs J.X body (fun D σ' H => ∃ s, tBD J (Gf s) (f s) (fun s' => .nx (Gf s')) D σ' H) := ⟨fun pins s σ H D I ⟨s', q⟩ => (hb s').ps.run pins s σ H D I q⟩
  refine ⟨ps_wk (ps_while J.po ht' hb') fun D σ' H ⟨G, S, q⟩ => ?_⟩
  refine ⟨fun m σ2 H2 => ∃ s G2, Sat J (Gf s) G2 σ2 H2 ∧ (whileFM cM f m s).wp (fun b => FlP J D (.nx (Gf b))) (ErB J), ⟨n, s0, G, S.wk w, q⟩, ?_⟩
  rintro m σ2 H2 ⟨s, G2, S2, k2⟩
  cases m with
  | zero => exact k2.elim
  | succ m =>
    refine ⟨s, G2, S2, wp_mono (wp_bind.mp k2) (fun t k3 G3 H3 _ S3 => ?_) fun n a z => erE_of (hp s) z σ2⟩
    obtain ⟨b, s2⟩ := t
    cases b with
    | true => exact ⟨fun σ4 H4 => ∃ s G2, Sat J (Gf s) G2 σ4 H4 ∧ (whileFM cM f m s).wp (fun b => FlP J D (.nx (Gf b))) (ErB J), fun σ4 H4 h => ⟨m, Nat.lt_succ_self _, h⟩, s2, G3, S3, wp_mono (wp_bind.mp k3) (fun s' k4 => fun G σ H S => ⟨s', G, S, k4⟩) fun _ _ z => z⟩
    | false => exact k3 G3 σ2 H3 S3
theorem BS.whCM {cM : σ → R (Bool × σ)} {f : σ → R (Ct σ ρ)} (Gf Gx : σ → List Sl) (ro : ρ → Fl) (s0 : σ) (n : Nat) (hr : ∀ r, IsR (ro r)) (w : Wk Γ (Gf s0)) (hp : ∀ s, PeOk J (Gx s)) (ht : ∀ s, TM J (Gx s) (Gf s) c (cM s) Gf) (hb : ∀ s, BD J (Gf s) body (f s) (ctB Gf ro)) :
    BS J Γ (.While c body [] pos) (whileCM cM f n s0) (ctA Gf ro) := by
  have ht' : L2.PT J.X c (fun σ' H Q => ∃ s, tMB J (Gx s) (Gf s) (cM s) Gf σ' H Q) := ⟨fun pins s σ H Q I ⟨s', q⟩ => (ht s').pt.run pins s σ H Q I q⟩
  have hb' : PSs J.X body (fun D σ' H => ∃ s, tBD J (Gf s) (f s) (ctB Gf ro) D σ' H) := ⟨fun pins s σ H D I ⟨s', q⟩ => (hb s').ps.run pins s σ H D I q⟩
  refine ⟨ps_wk (ps_while J.po ht' hb') fun D σ' H ⟨G, S, q⟩ => ?_⟩
  refine ⟨fun m σ2 H2 => ∃ s G2, Sat J (Gf s) G2 σ2 H2 ∧ (whileCM cM f m s).wp (fun b => FlP J D (ctA Gf ro b)) (ErB J), ⟨n, s0, G, S.wk w, q⟩, ?_⟩
  rintro m σ2 H2 ⟨s, G2, S2, k2⟩
  cases m with
  | zero => exact k2.elim
  | succ m =>
    refine ⟨s, G2, S2, wp_mono (wp_bind.mp k2) (fun t k3 G3 H3 _ S3 => ?_) fun n a z => erE_of (hp s) z σ2⟩
    obtain ⟨b, s2⟩ := t
    cases b with
    | true =>
      refine ⟨fun σ4 H4 => ∃ s G2, Sat J (Gf s) G2 σ4 H4 ∧ (whileCM cM f m s).wp (fun b => FlP J D (ctA Gf ro b)) (ErB J), fun σ4 H4 h => ⟨m, Nat.lt_succ_self _, h⟩, s2, G3, S3, wp_mono (wp_bind.mp k3) (fun r k4 => ?_) fun _ _ z => z⟩
      cases r with
      | nx s' => exact fun G σ H S => ⟨s', G, S, k4⟩
      | bk s' => exact k4
      | rt r =>
        have h := hr r
        have k5 : FlP J D (ro r) := k4
        show FlP J _ (ro r)
        revert k5 h
        cases ro r with
        | rt d => exact fun _ k => k
        | rf d => exact fun _ k => k
        | rg d => exact fun _ k => k
        | _ => exact fun h _ => h.elim
    | false => exact k3 G3 σ2 H3 S3
end
/-! ### 51. defs that change what is handed in, and makings -/
section
variable {K : PySem.W.Frag} {c : Bs} {Γ : List Sl} {G H : Hp} {σ : L2.St}
theorem SatG.push {v : V} {d : D} (S : SatG K c Γ G σ H) (r : Rp K G v d) : SatG K c (.va d :: Γ) G (some v :: σ) H := by
  obtain ⟨fs, h1, h2, h3⟩ := S.sl
  exact ⟨S.bg, S.gh, S.h0, S.th, S.sep, S.fl, [] :: fs, .cons ⟨rfl, v, rfl, r⟩ h1, by simpa using h2, fun p hp => h3 p (by simpa using hp)⟩
theorem SatG.ret2 {s : Sl} {v : V} {i : Nat} {p : Addr} {rk : RK} {fs : List (Str × Sl)} (S : SatG K c (s :: Γ) G (some v :: σ) H) (e : Γ[i]? = some (.rc (some p) rk fs)) : ∃ f, retR s p rk fs K G H (some v) f ∧ f.Nodup ∧ ∀ q ∈ f, (q ∈ c.F0 ∨ c.H0 q = none) ∧ G q = none := by
  obtain ⟨ps, h1, h2, h3⟩ := S.sl
  cases h1 with
  | @cons _ _ f _ _ ps a r =>
    rw [List.flatten_cons] at h2 h3
    obtain ⟨n1, n2, n3⟩ := List.nodup_append.mp h2
    obtain ⟨o, f2, e1, e2, ⟨_, b⟩⟩ := r.get e
    obtain ⟨p', u, vs, g, rfl, hop, rfl, b2⟩ := b
    cases hop p rfl
    have hff : ∀ q ∈ p :: g, q ∈ ps.flatten := fun q hq => List.mem_flatten.mpr ⟨p :: g, List.mem_of_getElem? e2, hq⟩
    refine ⟨f ++ (p :: g), ⟨f, p :: g, rfl, a, p, u, vs, g, rfl, (fun _ z => nomatch z), rfl, b2⟩, List.nodup_append.mpr ⟨n1, n2.sublist (List.sublist_flatten_of_mem (List.mem_of_getElem? e2)), fun x hx y hy e => n3 x hx y (hff y hy) e⟩, fun q hq => ?_⟩
    rcases List.mem_append.mp hq with z | z
    · exact ⟨(h3 q (List.mem_append_left _ z)).2, (h3 q (List.mem_append_left _ z)).1⟩
    · exact ⟨(h3 q (List.mem_append_right _ (hff q z))).2, (h3 q (List.mem_append_right _ (hff q z))).1⟩
end
section
variable {J : Jd} {Γ Γx : List Sl} {e : Expr} {pos p2 : Pos} {i : Nat} {p : Addr} {rk : RK} {α β γ : Type} [Enc α] {out : β → Fl} {x : Str}
/-- return e, where the thing handed in stands in slot i -/
theorem BD.retV {m : R α} {fs : List (Str × Sl)} (h : ES J Γ e m) (i : Nat) (hp : PeOk J Γ) (hG : Γ[i]? = some (.rc (some p) rk fs)) (j : α → β) (hj : ∀ a, out (j a) = .rg (retR (.va (enc a)) p rk fs) := by intro _; rfl) : BD J Γ [.Return (some e) pos] (m.bind fun a => .ok (j a)) out :=
  ⟨pss_one (ps_wk (ps_ret h.pe) fun D σ H ⟨G, S, q⟩ => ⟨G, S, wp_mono (wp_bind.mp q) (fun a k v G' H' g r => by
    have k' : FlP J D (out (j a)) := k
    rw [hj] at k'
    obtain ⟨f, h1, h2, h3⟩ := ((S.gr g).push r).ret2 hG
    exact k' v f G' H' (S.gr g).ed h1 h2 h3) fun n a z => erE_of hp z σ⟩)⟩
theorem BX.retV {m : R α} {fs : List (Str × Sl)} (h : ES J Γ e m) (i : Nat) (hp : PeOk J Γ) (hG : Γ[i]? = some (.rc (some p) rk fs)) (j : α → β) (hj : ∀ a, out (j a) = .rg (retR (.va (enc a)) p rk fs) := by intro _; rfl) : BX J Γ [.Return (some e) pos] (m.bind fun a => .ok (j a)) out :=
  ⟨BD.retV h i hp hG j hj, fun b hb => by
    obtain ⟨a, _, e⟩ := bind_eq hb
    cases e
    rw [hj]; trivial⟩
/-- return, without a value -/
theorem BD.retN {fs : List (Str × Sl)} (i : Nat) (hG : Γ[i]? = some (.rc (some p) rk fs)) (j : β) (hj : out j = .rg (retR (.va .none) p rk fs) := by rfl) : BD J Γ [.Return none pos] (.ok j) out :=
  ⟨pss_one (ps_wk ps_retN fun D σ H ⟨G, S, q⟩ => by
    have k' : FlP J D (out j) := q
    rw [hj] at k'
    obtain ⟨f, h1, h2, h3⟩ := (S.push (v := .non) (d := .none) .non).ret2 hG
    exact k' .non f G H S.ed h1 h2 h3)⟩
theorem BX.retN {fs : List (Str × Sl)} (i : Nat) (hG : Γ[i]? = some (.rc (some p) rk fs)) (j : β) (hj : out j = .rg (retR (.va .none) p rk fs) := by rfl) : BX J Γ [.Return none pos] (.ok j) out := ⟨BD.retN i hG j hj, fun b hb => by cases hb; rw [hj]; trivial⟩
/-- return e, where e changes slots -/
theorem BD.retM {m : R γ} {ret : γ → Sl} {out1 : γ → List Sl} {fs' : γ → List (Str × Sl)} (h : EM J Γx Γ e m ret out1) (i : Nat) (hp : PeOk J Γx) (hG : ∀ t, (out1 t)[i]? = some (.rc (some p) rk (fs' t))) (j : γ → β) (hj : ∀ t, out (j t) = .rg (retR (ret t) p rk (fs' t)) := by intro _; rfl) : BD J Γ [.Return (some e) pos] (m.bind fun a => .ok (j a)) out :=
  ⟨pss_one (ps_wk (ps_ret h.pe) fun D σ H ⟨G, S, q⟩ => ⟨G, S, wp_mono (wp_bind.mp q) (fun a k v G' H' g S' => by
    have k' : FlP J D (out (j a)) := k
    rw [hj] at k'
    obtain ⟨f, h1, h2, h3⟩ := S'.ret2 (hG a)
    exact k' v f G' H' ⟨S'.bg, S'.gh, S'.h0, S'.sep, S'.th⟩ h1 h2 h3) fun n a z => erE_of hp z σ⟩)⟩
theorem BX.retM {m : R γ} {ret : γ → Sl} {out1 : γ → List Sl} {fs' : γ → List (Str × Sl)} (h : EM J Γx Γ e m ret out1) (i : Nat) (hp : PeOk J Γx) (hG : ∀ t, (out1 t)[i]? = some (.rc (some p) rk (fs' t))) (j : γ → β) (hj : ∀ t, out (j t) = .rg (retR (ret t) p rk (fs' t)) := by intro _; rfl) : BX J Γ [.Return (some e) pos] (m.bind fun a => .ok (j a)) out :=
  ⟨BD.retM h i hp hG j hj, fun b hb => by
    obtain ⟨a, _, e⟩ := bind_eq hb
    cases e
    rw [hj]; trivial⟩
/-- return x, a thing of one's own: a variable's slot is handed back -/
theorem BD.retSl {s : Sl} (i : Nat) (hN : J.X.N[i]? = some x) (hG : Γ[i]? = some s) (hs : ∀ (G H : Hp) (o : Option V) (f : List Addr), SlAt J.K G H s o f → ∃ v, o = some v) (j : β) (hj : out j = .rg (fun K G H o f => SlAt K G H s o f) := by rfl) (hv : Vis J.X.env.scope x := by first | exact Or.inl rfl | exact Or.inr (Or.inl rfl) | exact Or.inr (Or.inr rfl))
    (hd : (x == ("__debug__" : Str)) = false := by decide) (hcd : (x == ("__classdict__" : Str)) = false := by decide) : BD J Γ [.Return (some (.Name x p2)) pos] (.ok j) out :=
  ⟨pss_one (ps_wk (ps_ret (pe_var hN hv hd hcd)) fun D σ H ⟨G, S, q⟩ => by
    have q' : FlP J D (out j) := q
    rw [hj] at q'
    obtain ⟨o, f, e1, a, nd, h3, _⟩ := S.openS hG
    obtain ⟨v, rfl⟩ := hs G H o f a
    exact ⟨v, e1, q' v f G H S.ed a nd fun p hp => ⟨(h3 p hp).2, (h3 p hp).1⟩⟩)⟩
end
/-! #### by the body -/
/-- the context at the body of a def that may change what lies in F -/
abbrev djm (P : Program) (w : World) (K : PySem.W.Frag) (mg : Str → Option Value) (base : Heap) (T : CT) (N : List Str) (qual : Str) (scope : Scope) (f : Addr) (cd : Value) (A : Around) (outer : List Env) (s : Shared) (H : Hp) (E : XK) (B : Hp) (F : List Addr) : Jd where
  X := cxOf (L2.CX P w) P w K mg base N qual scope f cd A outer s H E
  c := ⟨B, H, F, B⟩
  W := fun cls d _ H => E cls d H
  tk := takes_of rfl rfl rfl rfl
  Pe := fun _ H' => ∃ G, Ed0 B H F G H'
  T := T
  po := passes_of rfl
theorem sls_no {K : PySem.W.Frag} {G H : Hp} : ∀ n : Nat, SlsAt K G H (List.replicate n .no) (List.replicate n none) (List.replicate n [])
  | 0 => .nil
  | n + 1 => .cons rfl (sls_no n)
theorem sls_va {K : PySem.W.Frag} {G H : Hp} : ∀ {vs : List V} {ds : List D} {Γ : List Sl} {σ : L2.St} {fs : List (List Addr)}, RpA K G vs ds → SlsAt K G H Γ σ fs → SlsAt K G H (ds.map Sl.va ++ Γ) (vs.map some ++ σ) (List.replicate ds.length [] ++ fs)
  | vs, [], _, _, _, r, h => by rw [r.unnil]; exact h
  | vs, d :: ds, _, _, _, r, h => by
    obtain ⟨w, ws, rfl, r1, r2⟩ := r.uncons
    exact .cons ⟨rfl, w, rfl, r1⟩ (sls_va r2 h)
theorem flat_rep' {n : Nat} {fs : List (List Addr)} : (List.replicate n ([] : List Addr) ++ fs).flatten = fs.flatten := by simp
/-- the slots at the entry -/
abbrev G0M (d1 : List D) (s : Sl) (d2 : List D) (n : Nat) : List Sl := d1.map Sl.va ++ s :: (d2.map Sl.va ++ List.replicate n .no)
theorem sls_app {K : PySem.W.Frag} {G H : Hp} {Γ Γ' : List Sl} {σ σ' : L2.St} {fs fs' : List (List Addr)} (h : SlsAt K G H Γ σ fs) (h' : SlsAt K G H Γ' σ' fs') : SlsAt K G H (Γ ++ Γ') (σ ++ σ') (fs ++ fs') := by
  induction h with
  | nil => exact h'
  | cons a _ ih => exact .cons a ih
section
variable {P : Program} {w : World} {K : PySem.W.Frag} {mg : Str → Option Value} {base : Heap}
theorem fn_M' {qual : Str} {st : Stmt} {f : Addr} {fd : FuncData} {N ps : List Str} {k : Nat} {τ β Z : Type} {T : CT} {e1 e2 : τ → List D} {rk : RK} {fs : Z → List (Str × Sl)} {fM : Z → τ → R β} {ret : β → Sl} {fs' : β → List (Str × Sl)} (FX : ∀ {sp : Sp}, (∀ vs H Q E, sp vs H Q E → vs.length = ps.length) → (∀ (cdv : Value) (A : Around) (outer : List Env) (s : Shared) (H : Hp) (vs : List V) (Q : VK) (E : XK), Room k (A.deeper (envOfC qual (defScope st) s.heap.objs.size f cdv)) → sp vs H Q E →
      ∃ t, PSs (cxOf (L2.CX P w) P w K mg base N qual (defScope st) f cdv A outer s H E) (defBody st) t ∧ t { nx := fun _ H' => Q .non H', rt := Q } (L2.start N vs) H) → FnOk P w K mg base (L2.CX P w) (k + 1) f fd ps sp) (hlen : ∀ t, (e1 t).length + (e2 t).length + 1 = ps.length)
    (n1 : Nat) (hn1 : ∀ t, (e1 t).length = n1)
    (body : ∀ (cdv : Value) (A : Around) (outer : List Env) (s : Shared) (H : Hp) (E : XK) (B : Hp) (Fp : List Addr) (p : Addr) (z : Z) (t : τ), Room k (A.deeper (envOfC qual (defScope st) s.heap.objs.size f cdv)) →
      ∃ out : β → Fl, (∀ b, out b = .rg (retR (ret b) p rk (fs' b)) ∨ (ret b = .va .none ∧ ∃ Γ, out b = .nx Γ ∧ Γ[n1]? = some (.rc (some p) rk (fs' b)))) ∧
      BD (djm P w K mg base T N qual (defScope st) f cdv A outer s H E B Fp) (G0M (e1 t) (.rc (some p) rk (fs z)) (e2 t) (N.length - ps.length)) (defBody st) (fM z t) out) : FnOk P w K mg base (L2.CX P w) (k + 1) f fd ps (PrM T K e1 e2 rk fs fM ret fs') := by
  refine FX (fun vs H Q E ⟨B, z, t, vs1, vs2, p, fp, ev, _, r1, r2, _⟩ => by rw [ev, List.length_append, List.length_cons, r1.length, r2.length, ← hlen t]; omega) fun cdv A outer s H vs Q E hr ⟨B, z, t, vs1, vs2, p, fp, ev, eB, r1, r2, ra, nd, hn, q⟩ => ?_
  obtain ⟨out, ho, hb⟩ := body cdv A outer s H E B fp p z t hr
  refine ⟨_, hb.ps, B, ?_, wp_mono q (fun v k => ?_) fun n a z => ?_⟩
  · subst ev
    have hl : (vs1 ++ V.ref p :: vs2).length = ps.length := by rw [List.length_append, List.length_cons, r1.length, r2.length, ← hlen t]; omega
    have h1 := sls_va (K := K) (G := B) (H := H) r2 (sls_no (N.length - ps.length))
    have ra' : recR (some p) rk (fs z) K B H (some (.ref p)) fp := by
      obtain ⟨p', u, vs, g, e2, _, e3⟩ := ra
      cases e2
      exact ⟨p, u, vs, g, rfl, (fun q hq => by cases hq; rfl), e3⟩
    have h2 := sls_va (K := K) (G := B) (H := H) r1 (.cons (s := .rc (some p) rk (fs z)) (o := some (.ref p)) (f := fp) ⟨recR_gd _ _ _ _, ra'⟩ h1)
    refine ⟨Ex.refl _, eB, fun a o h _ => h, fun a o h => ⟨o, h⟩, fun a o _ _ h => h, Ex.refl _, List.replicate (e1 t).length [] ++ fp :: (List.replicate (e2 t).length [] ++ List.replicate (N.length - ps.length) []), ?_, ?_, ?_⟩
    · show SlsAt K B H (G0M (e1 t) (.rc (some p) rk (fs z)) (e2 t) (N.length - ps.length)) (L2.start N (vs1 ++ V.ref p :: vs2)) _
      unfold L2.start
      rw [hl, List.map_append, List.map_cons, List.append_assoc]
      exact h2
    · rw [flat_rep', List.flatten_cons, flat_rep']
      simpa using nd
    · intro q hq
      rw [flat_rep', List.flatten_cons, flat_rep'] at hq
      have hq : q ∈ fp := by simpa using hq
      exact ⟨hn q hq, .inl hq⟩
  · rcases ho v with e | ⟨e, Γ, e2, e3⟩
    · rw [e]
      intro u f G H' ed ⟨f1, f2, ef, a1, a2⟩ nd' hn'
      subst ef
      exact k u G H' f1 f2 ed.mu a1 a2 nd' fun q hq => ⟨(hn' q hq).2, (hn' q hq).1⟩
    · rw [e2]
      intro G σ H' S'
      obtain ⟨f, ⟨f1, f2, ef, a1, a2⟩, nd', hn'⟩ := (S'.push (v := .non) (d := .none) .non).ret2 e3
      subst ef
      exact k .non G H' f1 f2 S'.ed.mu (by rw [e]; exact a1) a2 nd' fun q hq => ⟨(hn' q hq).2, (hn' q hq).1⟩
  · exact fun σ H' cls d ⟨G, ed⟩ ok => z G H' cls d (Ed.mu (c := ⟨B, H, fp, fun _ => none⟩) ed) ok
theorem fn_M {x qual : Str} {st : Stmt} {f : Addr} {fd : FuncData} {N ps : List Str} {k : Nat} {τ β Z : Type} {T : CT} {e1 e2 : τ → List D} {rk : RK} {fs : Z → List (Str × Sl)} {fM : Z → τ → R β} {ret : β → Sl} {fs' : β → List (Str × Sl)} (F : Fun K x qual st f fd) (S : FnScope N ps (defScope st)) (hlen : ∀ t, (e1 t).length + (e2 t).length + 1 = ps.length)
    (n1 : Nat) (hn1 : ∀ t, (e1 t).length = n1)
    (body : ∀ (cdv : Value) (A : Around) (outer : List Env) (s : Shared) (H : Hp) (E : XK) (B : Hp) (Fp : List Addr) (p : Addr) (z : Z) (t : τ), Room k (A.deeper (envOfC qual (defScope st) s.heap.objs.size f cdv)) →
      ∃ out : β → Fl, (∀ b, out b = .rg (retR (ret b) p rk (fs' b)) ∨ (ret b = .va .none ∧ ∃ Γ, out b = .nx Γ ∧ Γ[n1]? = some (.rc (some p) rk (fs' b)))) ∧
      BD (djm P w K mg base T N qual (defScope st) f cdv A outer s H E B Fp) (G0M (e1 t) (.rc (some p) rk (fs z)) (e2 t) (N.length - ps.length)) (defBody st) (fM z t) out) : FnOk P w K mg base (L2.CX P w) (k + 1) f fd ps (PrM T K e1 e2 rk fs fM ret fs') :=
  fn_M' (fun len hb => F.okX S len hb) hlen n1 hn1 body
theorem fn_MD {x qual : Str} {st : Stmt} {f : Addr} {fd : FuncData} {N ps : List Str} {dvs : List V} {k : Nat} {τ β Z : Type} {T : CT} {e1 e2 : τ → List D} {rk : RK} {fs : Z → List (Str × Sl)} {fM : Z → τ → R β} {ret : β → Sl} {fs' : β → List (Str × Sl)} (F : FunD K x qual (defArgs st) (defBody st) (defScope st) dvs [] f fd) (S : FnScope N ps (defScope st)) (hlen : ∀ t, (e1 t).length + (e2 t).length + 1 = ps.length)
    (n1 : Nat) (hn1 : ∀ t, (e1 t).length = n1)
    (body : ∀ (cdv : Value) (A : Around) (outer : List Env) (s : Shared) (H : Hp) (E : XK) (B : Hp) (Fp : List Addr) (p : Addr) (z : Z) (t : τ), Room k (A.deeper (envOfC qual (defScope st) s.heap.objs.size f cdv)) →
      ∃ out : β → Fl, (∀ b, out b = .rg (retR (ret b) p rk (fs' b)) ∨ (ret b = .va .none ∧ ∃ Γ, out b = .nx Γ ∧ Γ[n1]? = some (.rc (some p) rk (fs' b)))) ∧
      BD (djm P w K mg base T N qual (defScope st) f cdv A outer s H E B Fp) (G0M (e1 t) (.rc (some p) rk (fs z)) (e2 t) (N.length - ps.length)) (defBody st) (fM z t) out) : FnOk P w K mg base (L2.CX P w) (k + 1) f fd ps (PrM T K e1 e2 rk fs fM ret fs') :=
  fn_M' (fun len hb => F.ok S len hb) hlen n1 hn1 body
theorem prM_map {f : Addr} {fd : FuncData} {ps : List Str} {k : Nat} {τ β γ Z : Type} {T : CT} {e1 e2 : τ → List D} {rk : RK} {fs : Z → List (Str × Sl)} {fM : Z → τ → R β} {ret : γ → Sl} {fs' : γ → List (Str × Sl)} {CX : CXT} (g : β → γ) (F : FnOk P w K mg base CX k f fd ps (PrM T K e1 e2 rk fs fM (fun b => ret (g b)) (fun b => fs' (g b)))) :
    FnOk P w K mg base CX k f fd ps (PrM T K e1 e2 rk fs (fun z t => (fM z t).bind fun b => .ok (g b)) ret fs') :=
  F.imp fun vs H Q E ⟨B, z, x, vs1, vs2, p, fp, h1, h2, h3, h4, h5, h6, h7, h8⟩ => ⟨B, z, x, vs1, vs2, p, fp, h1, h2, h3, h4, h5, h6, h7, wp_mono (wp_bind.mp h8) (fun b k => k) fun _ _ z => z⟩
theorem rc_some {K : PySem.W.Frag} {op : Option Addr} {rk : RK} {fs : List (Str × Sl)} : ∀ (G H : Hp) (o : Option V) (f : List Addr), SlAt K G H (.rc op rk fs) o f → ∃ v, o = some v := fun G H o f ⟨_, p, _, _, _, e, _⟩ => ⟨_, e⟩
theorem dp_some {K : PySem.W.Frag} {d : D} : ∀ (G H : Hp) (o : Option V) (f : List Addr), SlAt K G H (.dp d) o f → ∃ v, o = some v := fun G H o f ⟨_, v, e, _⟩ => ⟨v, e⟩
end
/-! ### 52. what is handed in becomes the callee's own; makings; defs that but read -/
theorem Gr.mu {G H G1 H1 G2 H2 : Hp} {F : List Addr} (g : Gr G H G1 H1) (m : Mu G1 H1 F G2 H2) (hF : ∀ p ∈ F, H p = none) : Gr G H G2 H2 := ⟨g.gg.trans m.gg, m.gh, fun a o z => m.hh _ _ (g.hh _ _ z) (fun hf => by rw [hF a hf] at z; cases z), fun a o z => by
  rcases m.nw a o z with y | y | y
  · exact g.nw a o y
  · exact .inr (ex_none g.hh y)
  · exact .inr (hF a y)⟩
abbrev slR (s : Sl) (K : PySem.W.Frag) (G H : Hp) (o : Option V) (f : List Addr) : Prop := SlAt K G H s o f
def tAX (J : Jd) (Γ : List Sl) {τ : Type} (m : R τ) (sls : τ → List Sl) : TA := fun σ H Q => ∃ G, Sat J Γ G σ H ∧
  m.wp (fun t => ∀ vs fps G' H', Gr G H G' H' → SlsAt J.K G' H' (sls t) (vs.map some) fps → fps.flatten.Nodup → (∀ p ∈ fps.flatten, H p = none ∧ G' p = none) → Q vs H') (ErE J Γ σ)
structure EAX (J : Jd) (Γ : List Sl) (es : List Expr) {τ : Type} (m : R τ) (sls : τ → List Sl) : Prop where
  pa : PA J.X es (tAX J Γ m sls)
/-- an argument of a def that but reads -/
inductive ASl where
  | va (d : D)
  | ob (rk : RK) (fs : List (Str × Sl))
def ASl.sl : ASl → Sl
  | .va d => .va d
  | .ob rk fs => .rc none rk fs
def ASl.rd (B H : Hp) : ASl → Sl
  | .va d => .va d
  | .ob rk fs => .gn (rdR B H rk fs)
def PrR (T : CT) (K : PySem.W.Frag) {τ ρ : Type} [Enc ρ] (as : τ → List ASl) (f : τ → R ρ) : Sp := fun vs H Q E => ∃ (B : Hp) (x : τ) (fps : List (List Addr)), Ex B H ∧ SlsAt K B H ((as x).map ASl.sl) (vs.map some) fps ∧
  (f x).wp (fun r => ∀ v G' H', Gr B H G' H' → Rp K G' v (enc r) → Q v H') (fun n a => ∀ G' H' cls d, Gr B H G' H' → ExOk T n a cls d H' → E cls d H')
def tAR (J : Jd) (Γ : List Sl) {τ : Type} (m : R τ) (as : τ → List ASl) : TA := fun σ H Q => ∃ G, Sat J Γ G σ H ∧ m.wp (fun t => ∀ vs fps G' H', Gr G H G' H' → SlsAt J.K G' H' ((as t).map ASl.sl) (vs.map some) fps → Q vs H') (ErE J Γ σ)
structure EAR (J : Jd) (Γ : List Sl) (es : List Expr) {τ : Type} (m : R τ) (as : τ → List ASl) : Prop where
  pa : PA J.X es (tAR J Γ m as)
section
variable {J : Jd} {Γ Γx : List Sl} {a b e : Expr} {es : List Expr} {pos p p2 apos : Pos} {x y mn : Str} {i j k : Nat} {op : Option Addr} {rk : RK} {α β τ ρ : Type} [Enc α] [Enc ρ] {C g : Addr} {fd : FuncData} {ps : List Str} {dvs : List V} {dss : List Value} {fs : List (Str × Sl)} {out : β → Fl}
theorem EAX.nil : EAX J Γ [] (.ok ()) (fun _ => []) := ⟨pa_wk pa_nil fun σ H Q ⟨G, S, w⟩ => w [] [] G H (Gr.refl S.gh) .nil (by simp) (fun p hp => by simp at hp)⟩
theorem EAX.cons {m1 : R β} {sl : β → Sl} {m2 : R τ} {sls : τ → List Sl} (h : EX J Γ e m1 sl) (hs : EAX J Γ es m2 sls) (hst : starEach (e :: es) J.X.env = (false, eval e J.X.env) :: starEach es J.X.env := by rfl) : EAX J Γ (e :: es) (m1.bind fun a => m2.bind fun t => .ok (a, t)) (fun t => sl t.1 :: sls t.2) :=
  ⟨pa_wk (pa_cons h.pe hs.pa hst) fun σ H Q ⟨G, S, w⟩ => ⟨G, S, wp_mono (wp_bind.mp w) (fun a k v f G1 H1 g1 nd n s1 => ⟨G1, S.gr g1, wp_mono (wp_bind.mp k) (fun t k2 vs fps G2 H2 g2 s2 nd2 n2 => by
    have there := s1.there
    refine k2 (v :: vs) (f :: fps) G2 H2 (g1.trans g2) (.cons (s1.gr g2) s2) ?_ fun q hq => ?_
    · rw [List.flatten_cons]
      refine List.nodup_append.mpr ⟨nd, nd2, fun x hx y hy e => ?_⟩
      subst e
      obtain ⟨u, hu⟩ := there x hx
      rw [(n2 x hy).1] at hu; cases hu
    · rw [List.flatten_cons] at hq
      rcases List.mem_append.mp hq with z | z
      · refine ⟨(n q z).1, ?_⟩
        obtain ⟨u, hu⟩ := there q z
        cases y : G2 q with
        | none => rfl
        | some w =>
          rcases g2.nw q w y with y1 | y1
          · rw [(n q z).2] at y1; cases y1
          · rw [y1] at hu; cases hu
      · exact ⟨ex_none g1.hh (n2 q z).1, (n2 q z).2⟩) fun _ _ z => z⟩) fun _ _ z => z⟩⟩
/-- f(..), what is handed in its own -/
theorem EX.callN {sls : τ → List Sl} {f : τ → R β} {ret : β → Sl} {m : R τ} (F : FnOk J.X.prog J.X.w J.X.K J.X.mg J.X.base (L2.CX J.X.prog J.X.w) k g fd ps (PrN J.T J.K sls f ret)) (hr : Room k J.X.A) (hm : J.X.mg y = some (.ref g)) (hk : PySem.W.keepIn J.X.K (.ref g) = true) (hb : Binds J.X.K fd ps [])
    (ha : EAX J Γ (e :: es) m sls) (hg : Gl J.X y := by rfl) (hdb : (y == ("__debug__" : Str)) = false := by decide) (he : starEach (e :: es) J.X.env = (false, eval e J.X.env) :: starEach es J.X.env := by rfl) (hpl : (backTo pos (starEach es J.X.env)).any (·.1) = false := by rfl) :
    EX J Γ (.Call (.Name y p) (e :: es) [] pos) (m.bind f) ret :=
  ⟨pe_wk (pe_callS F hr hg hm hk hb (passAt J.tk) ha.pa hdb he hpl) fun σ H Q ⟨G, S, w⟩ => ⟨G, S, wp_mono (wp_bind.mp w) (fun t kq vs fps G1 H1 g1 s1 nd n => ⟨G1, t, fps, g1.gh, s1, nd, fun q hq => (n q hq).2, wp_mono kq (fun b k2 v G' H' fr m as nd' hn => by
      refine k2 v fr G' H' (g1.mu m fun q hq => (n q hq).1) nd' (fun q hq => ⟨?_, (hn q hq).1⟩) as
      rcases (hn q hq).2 with z | z
      · exact (n q z).1
      · exact ex_none g1.hh z) fun n' a z G' H' cls d m ok => z G' H' cls d (S.gr (g1.mu m fun q hq => (n q hq).1)) ok⟩) fun _ _ z => z⟩⟩
/-- return what may be stored -/
theorem BD.retX {m : R τ} {sl : τ → Sl} (h : EX J Γ e m sl) (hp : PeOk J Γ) (jj : τ → β) (hj : ∀ a, out (jj a) = .rg (slR (sl a)) := by intro _; rfl) : BD J Γ [.Return (some e) pos] (m.bind fun a => .ok (jj a)) out :=
  ⟨pss_one (ps_wk (ps_ret h.pe) fun D σ H ⟨G, S, q⟩ => ⟨G, S, wp_mono (wp_bind.mp q) (fun a k v f G' H' g nd n s => by
    have k' : FlP J D (out (jj a)) := k
    rw [hj] at k'
    exact k' v f G' H' (S.gr g).ed s nd fun q hq => ⟨.inr (h0_new S (n q hq).1), (n q hq).2⟩) fun n a z => erE_of hp z σ⟩)⟩
/-- C(..) -/
theorem EX.make {encs e2 : τ → List D} {f : Unit → τ → R β} {fs' : β → List (Str × Sl)} {m : R τ} {dd : List D} (mk : Mk J.K C g) (F : FnOk J.X.prog J.X.w J.X.K J.X.mg J.X.base (L2.CX J.X.prog J.X.w) k g fd ps (PrM J.T J.K (fun _ => []) e2 (.ins C) (fun _ : Unit => []) f (fun _ => .va .none) fs')) (hr : Room (k + 1) J.X.A) (hm : J.X.mg y = some (.ref C)) (hb : Binds J.X.K fd ps dss) (hd : Vals dvs dss) (hdd : ∀ H, RpA J.K H dvs dd) (h2 : ∀ t, e2 t = encs t ++ dd)
    (ha : EA0 J Γ (e :: es) m encs) (hg : Gl J.X y := by rfl) (hdb : (y == ("__debug__" : Str)) = false := by decide) (he : starEach (e :: es) J.X.env = (false, eval e J.X.env) :: starEach es J.X.env := by rfl) (hpl : (backTo pos (starEach es J.X.env)).any (·.1) = false := by rfl) :
    EX J Γ (.Call (.Name y p) (e :: es) [] pos) (m.bind (f ())) (fun b => .rc none (.ins C) (fs' b)) :=
  ⟨pe_wk (pe_makeX mk F hr hg hm hb hd (passAt J.tk) ha.pa hdb he hpl) fun σ H Q ⟨G, S, w⟩ => ⟨G, S, wp_mono (wp_bind.mp w) (fun t kq vs G1 H1 g1 r1 => by
    intro q dx nq ndx ne
    have hq0 : upd H1 dx (.own q) q = none := by rw [upd_ne (Ne.symm ne)]; exact nq
    have ga := Gr.loose (o := .own q) g1.gh ndx
    have gb := Gr.loose (o := .ins C dx []) ga.gh hq0
    have gt := (g1.trans ga).trans gb
    have n0 : ∀ r ∈ [q], H r = none := fun r hr => by rw [List.mem_singleton] at hr; subst hr; exact ex_none g1.hh nq
    refine ⟨G1, (), t, [], vs ++ dvs, q, [q], rfl, gb.gh, .nil, by rw [h2]; exact r1.append (hdd _), ⟨q, _, [], [], rfl, (fun _ z => nomatch z), rfl, upd_same, ⟨dx, rfl⟩, .nil⟩, by simp, fun r hr => by rw [List.mem_singleton] at hr; subst hr; exact ex_none g1.gh nq, wp_mono kq (fun b k2 v G' H' fr fa m as aa nd hn => ?_) fun n' a z G' H' cls d m ok => z G' H' cls d (S.gr (gt.mu m n0)) ok⟩
    obtain ⟨efr, v', ev, rv⟩ := as
    cases ev
    refine ⟨Rp.unnon rv, ?_⟩
    have nd2 := (List.nodup_append.mp nd).2.1
    refine k2 (.ref q) fa G' H' (gt.mu m n0) nd2 (fun r hr => ⟨?_, (hn r (List.mem_append_right _ hr)).1⟩) ⟨recR_gd _ _ _ _, aa⟩
    rcases (hn r (List.mem_append_right _ hr)).2 with z | z
    · exact n0 r z
    · exact ex_none gt.hh z) fun _ _ z => z⟩⟩
/-! #### arguments that are but read -/
theorem EAR.nil : EAR J Γ [] (.ok ()) (fun _ => []) := ⟨pa_wk pa_nil fun σ H Q ⟨G, S, w⟩ => w [] [] G H (Gr.refl S.gh) .nil⟩
theorem EAR.cons {m1 : R α} {m2 : R τ} {as : τ → List ASl} (h : ES J Γ e m1) (hs : EAR J Γ es m2 as) (hst : starEach (e :: es) J.X.env = (false, eval e J.X.env) :: starEach es J.X.env := by rfl) : EAR J Γ (e :: es) (m1.bind fun a => m2.bind fun t => .ok (a, t)) (fun t => .va (enc t.1) :: as t.2) :=
  ⟨pa_wk (pa_cons h.pe hs.pa hst) fun σ H Q ⟨G, S, w⟩ => ⟨G, S, wp_mono (wp_bind.mp w) (fun a k v G1 H1 g1 r1 => ⟨G1, S.gr g1, wp_mono (wp_bind.mp k) (fun t k2 vs fps G2 H2 g2 s2 => k2 (v :: vs) ([] :: fps) G2 H2 (g1.trans g2) (.cons ⟨rfl, v, rfl, r1.ex g2.gg⟩ s2)) fun _ _ z => z⟩) fun _ _ z => z⟩⟩
theorem EAR.ob {β : Type} {m2 : R τ} {as : τ → List ASl} (z : β) (fz : β → List (Str × Sl)) (g : GetR J Γ i rk (fz z)) (hN : J.X.N[i]? = some x) (hs : EAR J Γ es m2 as) (hst : starEach (.Name x p :: es) J.X.env = (false, eval (.Name x p) J.X.env) :: starEach es J.X.env := by rfl) (hv : Vis J.X.env.scope x := by first | exact Or.inl rfl | exact Or.inr (Or.inl rfl) | exact Or.inr (Or.inr rfl))
    (hd : (x == ("__debug__" : Str)) = false := by decide) (hcd : (x == ("__classdict__" : Str)) = false := by decide) : EAR J Γ (.Name x p :: es) (m2.bind fun t => .ok (z, t)) (fun t => .ob rk (fz t.1) :: as t.2) :=
  ⟨pa_wk (pa_cons (pe_var hN hv hd hcd) hs.pa hst) fun σ H Q ⟨G, S, w⟩ => by
    obtain ⟨q, fp, e1, a⟩ := g.g S
    exact ⟨.ref q, e1, G, S, wp_mono (wp_bind.mp w) (fun t k2 vs fps G2 H2 g2 s2 => k2 (.ref q :: vs) (fp :: fps) G2 H2 g2 (.cons ⟨recR_gd _ _ _ _, (recR_gd _ _ _ _).gr g2.gg g2.hh a⟩ s2)) fun _ _ z => z⟩⟩
/-- f(..) -/
theorem ES.callR {as : τ → List ASl} {f : τ → R ρ} {m : R τ} (F : FnOk J.X.prog J.X.w J.X.K J.X.mg J.X.base (L2.CX J.X.prog J.X.w) k g fd ps (PrR J.T J.K as f)) (hr : Room k J.X.A) (hm : J.X.mg y = some (.ref g)) (hk : PySem.W.keepIn J.X.K (.ref g) = true) (hb : Binds J.X.K fd ps [])
    (ha : EAR J Γ (e :: es) m as) (hg : Gl J.X y := by rfl) (hdb : (y == ("__debug__" : Str)) = false := by decide) (he : starEach (e :: es) J.X.env = (false, eval e J.X.env) :: starEach es J.X.env := by rfl) (hpl : (backTo pos (starEach es J.X.env)).any (·.1) = false := by rfl) :
    ES J Γ (.Call (.Name y p) (e :: es) [] pos) (m.bind f) :=
  ⟨pe_wk (pe_callS F hr hg hm hk hb (passAt J.tk) ha.pa hdb he hpl) fun σ H Q ⟨G, S, w⟩ => ⟨G, S, wp_mono (wp_bind.mp w) (fun t kq vs fps G1 H1 g1 s1 => ⟨G1, t, fps, g1.gh, s1, wp_mono kq (fun r k2 v G' H' g' rr => k2 v G' H' (g1.trans g') rr) fun n a z => erE_gr S g1 z⟩) fun _ _ z => z⟩⟩
/-- x.m(..) -/
theorem ES.methR {as : τ → List ASl} {β : Type} {f : β × τ → R ρ} {m : R τ} {pl : Sem Bool} (z : β) (fz : β → List (Str × Sl)) (F : FnOk J.X.prog J.X.w J.X.K J.X.mg J.X.base (L2.CX J.X.prog J.X.w) k g fd ps (PrR J.T J.K (fun t : β × τ => .ob (.ins C) (fz t.1) :: as t.2) f)) (hr : Room k J.X.A) (c : Cls J.K C) (hm : Meth J.K C mn g) (hb : Binds J.X.K fd ps []) (gr : GetR J Γ i (.ins C) (fz z)) (hN : J.X.N[i]? = some x) (hmn : mn ∉ (fz z).map (·.1))
    (ha : EAR J Γ (e :: es) m as) (hv : Vis J.X.env.scope x := by first | exact Or.inl rfl | exact Or.inr (Or.inl rfl) | exact Or.inr (Or.inr rfl)) (hd : (x == ("__debug__" : Str)) = false := by decide) (hcd : (x == ("__classdict__" : Str)) = false := by decide)
    (hst : starEach (e :: es) J.X.env = (false, eval e J.X.env) :: starEach es J.X.env := by rfl) (hpl : (backTo pos (starEach es J.X.env)).any (·.1) = false := by rfl)
    (ht : eval (.Call (.Attribute (.Name x p) mn apos) (e :: es) [] pos) J.X.env = (do
      let ov ← eval (.Name x p) J.X.env
      standAt apos.atName
      let (f, first) ← holding [ov] (getMethod ov mn pl)
      callWith pos f first (backTo pos (starEach (e :: es) J.X.env)) (backToKw pos (keywordEach [] J.X.env))) := by rfl) :
    ES J Γ (.Call (.Attribute (.Name x p) mn apos) (e :: es) [] pos) (m.bind fun t => f (z, t)) :=
  ⟨pe_wk (pe_methX (pe_var hN hv hd hcd) c hm F hr hb .nil (passAt J.tk) ha.pa hst hpl ht) fun σ H Q ⟨G, S, w⟩ => by
    obtain ⟨q, fp, e1, a⟩ := gr.g S
    obtain ⟨p', u, vs, gg, e2, _, e3, h1, ⟨dx, h2⟩, h3⟩ := id a
    cases e2
    refine ⟨.ref q, e1, q, dx, vs, rfl, by rw [h1, h2], lookup_no (by rw [h3.names]; exact hmn), G, S, wp_mono (wp_bind.mp w) (fun t kq ws fps G1 H1 g1 s1 => ?_) fun _ _ z => z⟩
    show PrR J.T J.K _ f (V.ref q :: (ws ++ [])) H1 Q (WE J.W σ)
    rw [List.append_nil]
    exact ⟨G1, (z, t), fp :: fps, g1.gh, .cons ⟨recR_gd _ _ _ _, (recR_gd _ _ _ _).gr g1.gg g1.hh a⟩ s1, wp_mono kq (fun r k2 v G' H' g' rr => k2 v G' H' (g1.trans g') rr) fun n a z => erE_gr S g1 z⟩⟩
theorem ES.methR0 {β : Type} {f : β × Unit → R ρ} {pl : Sem Bool} (z : β) (fz : β → List (Str × Sl)) (F : FnOk J.X.prog J.X.w J.X.K J.X.mg J.X.base (L2.CX J.X.prog J.X.w) k g fd ps (PrR J.T J.K (fun t : β × Unit => [.ob (.ins C) (fz t.1)]) f)) (hr : Room k J.X.A) (c : Cls J.K C) (hm : Meth J.K C mn g) (hb : Binds J.X.K fd ps []) (gr : GetR J Γ i (.ins C) (fz z)) (hN : J.X.N[i]? = some x) (hmn : mn ∉ (fz z).map (·.1))
    (hv : Vis J.X.env.scope x := by first | exact Or.inl rfl | exact Or.inr (Or.inl rfl) | exact Or.inr (Or.inr rfl)) (hd : (x == ("__debug__" : Str)) = false := by decide) (hcd : (x == ("__classdict__" : Str)) = false := by decide)
    (ht : eval (.Call (.Attribute (.Name x p) mn apos) [] [] pos) J.X.env = (do
      let ov ← eval (.Name x p) J.X.env
      standAt apos.atName
      let (f, first) ← holding [ov] (getMethod ov mn pl)
      callWith pos f first (backTo pos (starEach [] J.X.env)) (backToKw pos (keywordEach [] J.X.env))) := by rfl) :
    ES J Γ (.Call (.Attribute (.Name x p) mn apos) [] [] pos) (f (z, ())) :=
  ⟨pe_wk (pe_methX0 (pe_var hN hv hd hcd) c hm F hr hb .nil (passAt J.tk) ht) fun σ H Q ⟨G, S, w⟩ => by
    obtain ⟨q, fp, e1, a⟩ := gr.g S
    obtain ⟨p', u, vs, gg, e2, _, e3, h1, ⟨dx, h2⟩, h3⟩ := id a
    cases e2
    refine ⟨.ref q, e1, q, dx, vs, rfl, by rw [h1, h2], lookup_no (by rw [h3.names]; exact hmn), ?_⟩
    have g1 : Gr G H G H := Gr.refl S.gh
    exact ⟨G, (z, ()), [fp], S.gh, .cons ⟨recR_gd _ _ _ _, a⟩ .nil, wp_mono w (fun r k2 v G' H' g' rr => k2 v G' H' g' rr) fun n a z => erE_gr S g1 z⟩⟩
end
section
variable {P : Program} {w : World} {K : PySem.W.Frag} {mg : Str → Option Value} {base : Heap}
theorem sls_rd {K : PySem.W.Frag} {B H : Hp} : ∀ {as : List ASl} {σ : L2.St} {fps : List (List Addr)} (n : Nat), SlsAt K B H (as.map ASl.sl) σ fps → SlsAt K B H (as.map (ASl.rd B H) ++ List.replicate n .no) (σ ++ List.replicate n none) (List.replicate (as.length + n) [])
  | [], σ, fps, n, h => by
    cases h
    rw [List.length_nil, Nat.zero_add]
    exact sls_no n
  | a :: as, _, _, n, h => by
    cases h with
    | cons a1 r =>
      rw [List.length_cons, show as.length + 1 + n = (as.length + n) + 1 by omega, List.replicate_succ]
      refine .cons ?_ (sls_rd n r)
      cases a with
      | va d => exact ⟨rfl, a1.2⟩
      | ob rk fs => exact ⟨rdR_gd _ _ _ _ _, rfl, _, a1.2⟩
theorem sls_len {K : PySem.W.Frag} {G H : Hp} {Γ : List Sl} {σ : L2.St} {fs : List (List Addr)} (h : SlsAt K G H Γ σ fs) : Γ.length = σ.length ∧ fs.length = Γ.length := by
  induction h with
  | nil => exact ⟨rfl, rfl⟩
  | cons _ _ ih => exact ⟨by rw [List.length_cons, List.length_cons, ih.1], by rw [List.length_cons, List.length_cons, ih.2]⟩
theorem fn_R {x qual : Str} {st : Stmt} {f : Addr} {fd : FuncData} {N ps : List Str} {k : Nat} {τ ρ : Type} [Enc ρ] {T : CT} {as : τ → List ASl} {fM : τ → R ρ} (F : Fun K x qual st f fd) (S : FnScope N ps (defScope st)) (hlen : ∀ t, (as t).length = ps.length) (out : ρ → Fl) (ho : ∀ r, out r = .rt (enc r) ∨ (enc r = .none ∧ ∃ Γ, out r = .nx Γ))
    (body : ∀ (cdv : Value) (A : Around) (outer : List Env) (s : Shared) (H : Hp) (E : XK) (B : Hp) (t : τ), Room k (A.deeper (envOfC qual (defScope st) s.heap.objs.size f cdv)) →
      BD (dj P w K mg base T N qual (defScope st) f cdv A outer s H E B) ((as t).map (ASl.rd B H) ++ List.replicate (N.length - ps.length) .no) (defBody st) (fM t) out) : FnOk P w K mg base (L2.CX P w) (k + 1) f fd ps (PrR T K as fM) := by
  refine F.okX S (fun vs H Q E ⟨B, t, fps, _, r, _⟩ => by have := (sls_len r).1; simp only [List.length_map] at this; rw [← this]; exact hlen t) fun cdv A outer s H vs Q E hr ⟨B, t, fps, eB, r, q⟩ => ⟨_, (body cdv A outer s H E B t hr).ps, B, ?_, wp_mono q (fun v k => ?_) fun n a z => ?_⟩
  · have hl := (sls_len r).1
    simp only [List.length_map] at hl
    have h := sls_rd (N.length - ps.length) r
    refine ⟨Ex.refl _, eB, fun a o h _ => h, fun a o h => ⟨o, h⟩, fun a o _ _ h => h, Ex.refl _, List.replicate ((as t).length + (N.length - ps.length)) [], ?_, by simp, fun p hp => by simp at hp⟩
    show SlsAt K B H _ (L2.start N vs) _
    unfold L2.start
    rw [← hl, hlen]
    rw [hlen] at h
    exact h
  · rcases ho v with e | ⟨e, Γ, e2⟩
    · rw [e]
      exact fun v G H' ed rv => k v G H' (ed_gr ed rfl) rv
    · rw [e2]
      exact fun G σ H' S => k .non G H' (ed_gr S.ed rfl) (by rw [e]; exact .non)
  · exact fun σ H' cls d ⟨G, ed⟩ ok => z G H' cls d (ed_gr (c := ⟨B, H, [], fun _ => none⟩) ed rfl) ok
theorem fn_N {x qual : Str} {st : Stmt} {f : Addr} {fd : FuncData} {N ps : List Str} {k : Nat} {τ β : Type} {T : CT} {sls : τ → List Sl} {fM : τ → R β} {ret : β → Sl} (F : Fun K x qual st f fd) (S : FnScope N ps (defScope st)) (hlen : ∀ t, (sls t).length = ps.length)
    (body : ∀ (cdv : Value) (A : Around) (outer : List Env) (s : Shared) (H : Hp) (E : XK) (B : Hp) (Fp : List Addr) (t : τ), Room k (A.deeper (envOfC qual (defScope st) s.heap.objs.size f cdv)) →
      BD (djm P w K mg base T N qual (defScope st) f cdv A outer s H E B Fp) (sls t ++ List.replicate (N.length - ps.length) .no) (defBody st) (fM t) (fun b => .rg (slR (ret b)))) : FnOk P w K mg base (L2.CX P w) (k + 1) f fd ps (PrN T K sls fM ret) := by
  refine F.okX S (fun vs H Q E ⟨B, t, fps, _, r, _⟩ => by have := (sls_len r).1; rw [List.length_map] at this; rw [← this]; exact hlen t) fun cdv A outer s H vs Q E hr ⟨B, t, fps, eB, r, nd, hn, q⟩ => ⟨_, (body cdv A outer s H E B fps.flatten t hr).ps, B, ?_, wp_mono q (fun v k => ?_) fun n a z => ?_⟩
  · have hl := (sls_len r).1
    rw [List.length_map] at hl
    have h := sls_app r (sls_no (K := K) (G := B) (H := H) (N.length - ps.length))
    refine ⟨Ex.refl _, eB, fun a o h _ => h, fun a o h => ⟨o, h⟩, fun a o _ _ h => h, Ex.refl _, fps ++ List.replicate (N.length - ps.length) [], ?_, by simpa using nd, fun p hp => ?_⟩
    · show SlsAt K B H _ (L2.start N vs) _
      unfold L2.start
      rw [← hl, hlen]
      exact h
    · have hp : p ∈ fps.flatten := by simpa using hp
      exact ⟨hn p hp, .inl hp⟩
  · intro u f G H' ed a nd' hn'
    exact k u G H' f ed.mu a nd' fun q hq => ⟨(hn' q hq).2, (hn' q hq).1⟩
  · exact fun σ H' cls d ⟨G, ed⟩ ok => z G H' cls d (Ed.mu (c := ⟨B, H, fps.flatten, fun _ => none⟩) ed) ok
end
/-! ### 53. a comprehension of lists of one's own; dicts written out; pops -/
instance {α β : Type} [Enc α] [Enc β] : NoList (α × β) := ⟨fun _ _ h => by cases h⟩
instance {α β γ : Type} [Enc α] [Enc β] [Enc γ] : NoList (T3 α β γ) := ⟨fun _ _ h => by cases h⟩
instance {α β γ δ : Type} [Enc α] [Enc β] [Enc γ] [Enc δ] : NoList (T4 α β γ δ) := ⟨fun _ _ h => by cases h⟩
section
variable {J : Jd} {Γ : List Sl} {elt tg it : Expr} {scope : Scope} {pos : Pos} {α β : Type} [Enc α] [Enc β]
def tXk (K : PySem.W.Frag) (c : Bs) (T : CT) (Γ : List Sl) {β : Type} (m : R β) (sl : β → Sl) : TE := fun σ H Q => ∃ G, SatG K c Γ G σ H ∧ m.wp (fun b => ∀ v f G' H', Gr G H G' H' → f.Nodup → (∀ p ∈ f, H p = none ∧ G' p = none) → SlAt K G' H' (sl b) (some v) f → Q v H') (fun n a => ∀ G' H' cls d, SatG K c Γ G' σ H' → ExOk T n a cls d H' → False)
theorem gn_keep {G H G' H' : Hp} (g : Gr G H G' H') {q : Addr} (h1 : G q = none) (h2 : ∃ u, H q = some u) : G' q = none := by
  cases y : G' q with
  | none => rfl
  | some w =>
    rcases g.nw q w y with z | z
    · rw [h1] at z; cases z
    · obtain ⟨u, hu⟩ := h2; rw [z] at hu; cases hu
theorem mp_goP {mi : R (List α)} {g : TG} {js : List Nat} {up : List Sl → α → List Sl} {f : α → R (List β)} (vs : List Nat) (ht : TgS J.K g js up) (hjs : ∀ j ∈ js, j ∈ vs) :
    ∀ σ H Q, tP J Γ (mi.bind fun xs => mpM f xs) σ H Q → tLc (tI J Γ mi) g (fun σ H Q => ∃ F x, tBk J.K { J.c with Fl := F } J.T (up (wipeG Γ vs) x) (.ok true) σ H Q) (fun σ H Q => ∃ F x, tXk J.K { J.c with Fl := F } J.T (up (wipeG Γ vs) x) (f x) (fun ys => .ow (ys.map enc)) σ H Q) vs σ H Q := by
  intro σ H Q ⟨G, S, q⟩
  refine ⟨G, S, wp_mono (wp_bind.mp q) (fun xs k I G1 H1 g1 ok => ?_) fun n a z => z⟩
  intro Dl hD
  unfold mpM at k
  by_cases hz : xs.length < 16777216
  · rw [if_pos hz] at k
    have S1 := S.gr g1
    have hD0 : H Dl = none := ex_none g1.hh hD
    have gD : G1 Dl = none := ex_none g1.gh hD
    refine ⟨fun i m H' => m = xs.length - i ∧ i ≤ xs.length ∧ ∃ (ys : List (List β)) (G' : Hp) (acc : List V) (fl : List Addr), Gr G1 H1 G' H' ∧ G' Dl = none ∧ H' Dl = some (.lst acc) ∧ OwnA J.K G' H' acc (ys.map enc) fl ∧ fl.Nodup ∧ Dl ∉ fl ∧ (∀ q ∈ fl, H q = none ∧ G' q = none) ∧ ys.length ≤ i ∧
      (mpGo f (xs.drop i)).wp (fun zs => ∀ (v : V) (fp : List Addr) (G' H' : Hp), Gr G H G' H' → Own2 J.K G' H' v (enc (ys ++ zs)) fp → fp.Nodup → (∀ p ∈ fp, H p = none ∧ G' p = none) → Q v H') (ErE J Γ σ), ⟨xs.length, by simp, Nat.zero_le _, [], G1, [], [], ?_, gD, upd_same, .nil, List.nodup_nil, by simp, (fun q hq => by cases hq), Nat.le_refl _, ?_⟩, ?_⟩
    · exact Gr.loose g1.gh hD
    · exact k
    rintro i m H' ⟨rfl, hi, ys, G', acc, fl, g', gl, hl, hr, ndf, hDf, hfn, hys, k2⟩
    have e1 : Ex G1 H' := g'.gg.trans g'.gh
    by_cases hlt : i < xs.length
    · refine .inr ⟨ok.go i H' e1 hlt, fun H' => xs.length - (i + 1) = xs.length - (i + 1) ∧ i + 1 ≤ xs.length ∧ ∃ (ys : List (List β)) (G' : Hp) (acc : List V) (fl : List Addr), Gr G1 H1 G' H' ∧ G' Dl = none ∧ H' Dl = some (.lst acc) ∧ OwnA J.K G' H' acc (ys.map enc) fl ∧ fl.Nodup ∧ Dl ∉ fl ∧ (∀ q ∈ fl, H q = none ∧ G' q = none) ∧ ys.length ≤ i + 1 ∧
          (mpGo f (xs.drop (i + 1))).wp (fun zs => ∀ (v : V) (fp : List Addr) (G' H' : Hp), Gr G H G' H' → Own2 J.K G' H' v (enc (ys ++ zs)) fp → fp.Nodup → (∀ p ∈ fp, H p = none ∧ G' p = none) → Q v H') (ErE J Γ σ),
        fun H' h => ⟨xs.length - (i + 1), by omega, h⟩, fun x H2 hy => ?_⟩
      obtain ⟨G2, g2, r2⟩ := ok.yld i H' x H2 xs[i] e1 hy (List.getElem?_eq_getElem hlt) G' g'.gg g'.gh
      have gg2 := g'.trans g2
      have S2 := ((S1.gr gg2).wipe vs).flo (F := G1) gg2.gg
      refine ht.sem _ _ H2 G2 x xs[i] _ _ S2 r2 fun σ4 off S4 => ⟨wipe_off off hjs, G1, xs[i], G2, S4, ?_⟩
      rw [List.drop_eq_getElem_cons hlt] at k2
      show ∀ (G3 H3 : Hp), Gr G2 H2 G3 H3 → _
      intro G3 H3 g3
      refine ⟨G1, xs[i], G3, S4.gr g3, wp_noexc (wp_mono (wp_bind.mp k2) (fun y k4 v fy G4 H4 g4 ndy ny sy => ?_) (fun _ _ z => z))⟩
      obtain ⟨qy, wy, rfl, ev, hqy, ry⟩ := sy
      cases ev
      have gr4 := (g2.trans g3).trans g4
      have gg4 := g'.trans gr4
      have gl4 : G4 Dl = none := gn_keep gr4 gl ⟨_, hl⟩
      have hl4 : H4 Dl = some (.lst acc) := gr4.hh _ _ hl
      have hkd := hr.kd
      have nqy := ny qy (by simp)
      have hq3 : H3 qy = none := nqy.1
      have hqD : qy ≠ Dl := fun z => by
        rw [z] at hq3
        have := (g2.trans g3).hh _ _ hl
        rw [hq3] at this; cases this
      have hqfl : qy ∉ fl := fun z => by
        obtain ⟨u, hu⟩ := hkd qy z
        have := (g2.trans g3).hh _ _ hu
        rw [hq3] at this; cases this
      have hqH : H qy = none := ex_none ((g1.hh.trans (show Ex H1 H' from g'.hh)).trans (g2.trans g3).hh) hq3
      refine ⟨acc, hl4, szlt.mpr ?_, rfl, hlt, ys ++ [y], G4, acc ++ [.ref qy], fl ++ [qy], ⟨gg4.gg, fun a u e => ?_, fun a u e => ?_, gg4.nw⟩, gl4, upd_same, ?_, ?_, ?_, ?_, by rw [List.length_append]; simpa using hys, ?_⟩
      · have := hr.length
        rw [List.length_map] at this
        omega
      · rw [upd_ne (fun z => by rw [z, gl4] at e; cases e)]; exact gg4.gh a u e
      · rw [upd_ne (fun z => by rw [z, hD] at e; cases e)]; exact gg4.hh a u e
      · rw [List.map_append]
        refine OwnA.fr ((hr.gr gr4.gg gr4.hh).append (.cons (f := [qy]) (.inl ⟨qy, wy, y.map enc, rfl, rfl, rfl, hqy, ry⟩) .nil)) fun z => ?_
        rcases List.mem_append.mp z with z | z
        · exact hDf z
        · simp at z; exact hqD z.symm
      · exact List.nodup_append.mpr ⟨ndf, by simp, fun a ha b hb e => hqfl (by rw [List.mem_singleton] at hb; rw [← hb, ← e]; exact ha)⟩
      · intro z
        rcases List.mem_append.mp z with z | z
        · exact hDf z
        · rw [List.mem_singleton] at z; exact hqD z.symm
      · intro q hq
        rcases List.mem_append.mp hq with z | z
        · exact ⟨(hfn q z).1, gn_keep gr4 (hfn q z).2 ((hkd q z).elim fun u hu => ⟨_, hu⟩)⟩
        · rw [List.mem_singleton] at z; subst z; exact ⟨hqH, nqy.2⟩
      · exact wp_mono (wp_bind.mp k4) (fun zs k v fp G' H' g o nd n => k v fp G' H' g (by simpa using o) nd n) fun _ _ z => z
    · have ei : i = xs.length := by omega
      subst ei
      rw [List.drop_length] at k2
      refine .inl ⟨ok.stop H' e1, ?_⟩
      have k3 := k2 (.ref Dl) (Dl :: fl) G' H' (g1.trans g') (.inl ⟨Dl, acc, ys.map enc, fl, rfl, by rw [List.append_nil]; rfl, rfl, hl, hr⟩) (List.nodup_cons.mpr ⟨hDf, ndf⟩) (fun q hq => by
        rcases List.mem_cons.mp hq with rfl | hq
        · exact ⟨hD0, gl⟩
        · exact hfn q hq)
      exact k3
  · rw [if_neg hz] at k; exact k.elim
theorem EP.mpP {mi : R (List α)} {g : TG} {js : List Nat} {up : List Sl → α → List Sl} {f : α → R (List β)} (own : List (Str × Nat)) (hc : J.X.calm = true) (hN : J.X.N.Nodup) (hit : IT J Γ tg it mi) (ok : BlkOk J.X.N J.X.env.scope scope own)
    (hg : ∀ (s : Shared) (H : Hp) (C : Addr) (cl : List (Str × Addr)) (fp : List Addr), PG (J.X.blk s H scope (compEnvC scope cl C J.X.env) fp) tg g) (ht : TgS J.K g js up) (hjs : ∀ j ∈ js, j ∈ oix own)
    (he : ∀ (F : Hp) (s : Shared) (H : Hp) (C : Addr) (cl : List (Str × Addr)) (fp : List Addr) (x : α), EF (J.bl F s H scope C cl fp) (up (wipeG Γ (oix own)) x) elt (f x)) (hs : ∀ x, foldedSetIterable it J.X.env x = pure x := by intro _; rfl) :
    EP J Γ (.ListComp elt [⟨tg, it, [], 0⟩] scope pos) (mi.bind fun xs => mpM f xs) :=
  ⟨pe_wk (pe_lc (own := own) hc hN hit.pi ok hg
    (tt := fun σ H Q => ∃ F x, tBk J.K { J.c with Fl := F } J.T (up (wipeG Γ (oix own)) x) (.ok true) σ H Q) (te := fun σ H Q => ∃ F x, tXk J.K { J.c with Fl := F } J.T (up (wipeG Γ (oix own)) x) (f x) (fun ys => .ow (ys.map enc)) σ H Q)
    (fun s H C cl fp => ⟨fun pins s' σ H' Q I ⟨F, x, q⟩ => (EI.nil (J := J.bl F s H scope C cl fp) (Γ := up (wipeG Γ (oix own)) x)).pt.run pins s' σ H' Q I q⟩) (fun s H C cl fp => ⟨fun pins s' σ H' Q I ⟨F, x, q⟩ => (he F s H C cl fp x).xx.pe.run pins s' σ H' Q I q⟩) hs) (mp_goP (oix own) ht hjs)⟩
end
/-! ### 54. .. given to a name; dicts written out -/
section
variable {J : Jd} {Γ : List Sl} {elt tg it : Expr} {scope : Scope} {pos : Pos} {α β : Type} [Enc α] [Enc β]
theorem BS.mpP {mi : R (List α)} {g : TG} {js : List Nat} {up : List Sl → α → List Sl} {f : α → R (List β)} {i : Nat} {y : Str} {py spos : Pos} (own : List (Str × Nat)) (hp : PeOk J Γ) (hc : J.X.calm = true) (hN : J.X.N.Nodup) (hi0 : J.X.N[i]? = some y) (hl0 : J.X.env.scope.names.lookup y = some .local)
    (hsw : swapsWith (.ListComp elt [⟨tg, it, [], 0⟩] scope pos) (some (.Name y py)) spos.line J.X.env = pure true) (hit : IT J Γ tg it mi) (ok : BlkOk J.X.N J.X.env.scope scope own)
    (hg : ∀ (s : Shared) (H : Hp) (C : Addr) (cl : List (Str × Addr)) (fp : List Addr), PG (J.X.blk s H scope (compEnvC scope cl C J.X.env) fp) tg g) (ht : TgS J.K g js up) (hjs : ∀ j ∈ js, j ∈ oix own)
    (he : ∀ (F : Hp) (s : Shared) (H : Hp) (C : Addr) (cl : List (Str × Addr)) (fp : List Addr) (x : α), EF (J.bl F s H scope C cl fp) (up (wipeG Γ (oix own)) x) elt (f x)) (hs : ∀ x, foldedSetIterable it J.X.env x = pure x := by intro _; rfl) :
    BS J Γ (.Assign [.Name y py] (.ListComp elt [⟨tg, it, [], 0⟩] scope pos) spos) (mi.bind fun xs => mpM f xs) (fun a => .nx (Γ.set i (.dp (enc a)))) :=
  ⟨ps_wk (ps_setLc (i := i) (own := own) hc hN hi0 hl0 hsw hit.pi ok hg
    (tt := fun σ H Q => ∃ F x, tBk J.K { J.c with Fl := F } J.T (up (wipeG Γ (oix own)) x) (.ok true) σ H Q) (te := fun σ H Q => ∃ F x, tXk J.K { J.c with Fl := F } J.T (up (wipeG Γ (oix own)) x) (f x) (fun ys => .ow (ys.map enc)) σ H Q)
    (fun s H C cl fp => ⟨fun pins s' σ H' Q I ⟨F, x, q⟩ => (EI.nil (J := J.bl F s H scope C cl fp) (Γ := up (wipeG Γ (oix own)) x)).pt.run pins s' σ H' Q I q⟩) (fun s H C cl fp => ⟨fun pins s' σ H' Q I ⟨F, x, q⟩ => (he F s H C cl fp x).xx.pe.run pins s' σ H' Q I q⟩) hs) fun D σ H ⟨G, S, q⟩ =>
      mp_goP (oix own) ht hjs σ H (fun x H1 => D.nx (σ.set i (some x)) H1) ⟨G, S, wp_mono q (fun a k v f G' H' g o nd n => k G' _ H' (S.setgn g (fun p hp => ⟨(n p hp).1, h0_new S (n p hp).1, (n p hp).2⟩) nd ⟨dpR_gd _ _, v, rfl, o⟩)) fun n a z => erE_of hp z σ⟩⟩
end
theorem kvS_inj : ∀ {a b : List (Str × V)}, kvS a = kvS b → a = b
  | [], [], _ => rfl
  | [], _ :: _, h => by cases h
  | _ :: _, [], h => by cases h
  | (x, v) :: a, (y, w) :: b, h => by
    have h' : ((Sum.inr x : Key), v) :: kvS a = ((Sum.inr y : Key), w) :: kvS b := h
    injection h' with h1 h2
    injection h1 with h3 h4
    injection h3 with h3
    rw [h3, h4, kvS_inj h2]
/-- the pairs of a dict written out -/
def tDX (J : Jd) (Γ : List Sl) {τ : Type} (names : List Str) (m : R τ) (sls : τ → List Sl) (σ : L2.St) (H : Hp) (Q : List (V × V) → Hp → Prop) : Prop := ∃ G, Sat J Γ G σ H ∧
  m.wp (fun t => ∀ vs fps G' H', Gr G H G' H' → vs.length = names.length → SlsAt J.K G' H' (sls t) (vs.map some) fps → fps.flatten.Nodup → (∀ p ∈ fps.flatten, H p = none ∧ G' p = none) → Q ((names.zip vs).map fun p => (V.str p.1, p.2)) H') (ErE J Γ σ)
structure EDX (J : Jd) (Γ : List Sl) (pos : Pos) (keys : List (Option Expr)) (values : List Expr) (names : List Str) {τ : Type} (m : R τ) (sls : τ → List Sl) : Prop where
  ex : ∃ trs, PPs J.X pos keys values trs ∧ ∀ σ H Q, tDX J Γ names m sls σ H Q → tPairs trs σ H Q
theorem fls_of {K : PySem.W.Frag} {G H : Hp} : ∀ {names : List Str} {Γ : List Sl} {vs : List V} {fps : List (List Addr)}, SlsAt K G H Γ (vs.map some) fps → names.length = vs.length → FlsAt K G H (names.zip Γ) (names.zip vs) fps.flatten
  | [], Γ, [], fps, h, _ => by cases h; exact .nil
  | [], Γ, v :: vs, fps, h, e => by simp at e
  | x :: xs, Γ, [], fps, h, e => by simp at e
  | x :: xs, Γ, v :: vs, fps, h, e => by
    cases h with
    | cons a r =>
      rw [List.flatten_cons]
      exact .cons a (fls_of r (by simpa using e))
theorem mergeK_kvS : ∀ (ps acc : List (Str × V)), ((acc ++ ps).map (·.1)).Nodup → mergeK (kvS acc) (kvS ps) = kvS (acc ++ ps)
  | [], acc, _ => by rw [List.append_nil]; rfl
  | (x, v) :: ps, acc, nd => by
    have nd' : ((acc ++ [(x, v)]) ++ ps).map (·.1) = (acc ++ (x, v) :: ps).map (·.1) := by simp
    have ih := mergeK_kvS ps (acc ++ [(x, v)]) (by rw [nd']; exact nd)
    have hx : x ∉ acc.map (·.1) := fun z => by
      rw [List.map_append] at nd
      exact (List.nodup_append.mp nd).2.2 x z x (by simp) rfl
    show mergeK (putK (kvS acc) (Sum.inr x) v) (kvS ps) = _
    rw [putK_kvS' (by rw [List.map_append] at nd; exact (List.nodup_append.mp nd).1), putF_no hx, ih]
    simp
section
variable {J : Jd} {Γ : List Sl} {e tg call : Expr} {ks : List (Option Expr)} {es : List Expr} {pos p p2 : Pos} {x : Str} {names : List Str} {i j k : Nat} {α β τ : Type} [Enc α]
theorem EDX.nil : EDX J Γ pos [] [] [] (.ok ()) (fun _ => []) := ⟨[], pps_nil, fun σ H Q ⟨G, S, w⟩ => w [] [] G H (Gr.refl S.gh) rfl .nil (by simp) (fun p hp => by simp at hp)⟩
theorem EDX.cons {jj : Nat} {q : Pos} {m1 : R β} {sl : β → Sl} {m2 : R τ} {sls : τ → List Sl} (h : EX J Γ e m1 sl) (hs : EDX J Γ pos ks es names m2 sls) : EDX J Γ pos (some (.Constant (.str x) jj q) :: ks) (e :: es) (x :: names) (m1.bind fun a => m2.bind fun t => .ok (a, t)) (fun t => sl t.1 :: sls t.2) := by
  obtain ⟨trs, h1, h2⟩ := hs.ex
  refine ⟨_, pps_cons pe_str h.pe h1, fun σ H Q ⟨G, S, w⟩ => ⟨G, S, wp_mono (wp_bind.mp w) (fun a k v f G1 H1 g1 nd n s1 => h2 _ _ _ ⟨G1, S.gr g1, wp_mono (wp_bind.mp k) (fun t k2 vs fps G2 H2 g2 hl s2 nd2 n2 => ?_) fun n a z => z⟩) fun n a z => z⟩⟩
  have there := s1.there
  refine k2 (v :: vs) (f :: fps) G2 H2 (g1.trans g2) (by simpa using hl) (.cons (s1.gr g2) s2) ?_ fun q hq => ?_
  · rw [List.flatten_cons]
    refine List.nodup_append.mpr ⟨nd, nd2, fun x hx y hy e => ?_⟩
    subst e
    obtain ⟨u, hu⟩ := there x hx
    rw [(n2 x hy).1] at hu; cases hu
  · rw [List.flatten_cons] at hq
    rcases List.mem_append.mp hq with z | z
    · exact ⟨(n q z).1, gn_keep g2 (n q z).2 (there q z)⟩
    · exact ⟨ex_none g1.hh (n2 q z).1, (n2 q z).2⟩
/-- {..} -/
theorem EX.dct {m : R τ} {sls : τ → List Sl} (h : EDX J Γ pos ks es names m sls) (hall : ks.all (·.isSome) = true := by rfl) (hl : ks.length = es.length := by rfl) (h0 : ks ≠ [] := by simp) (h15 : ks.length ≤ 15 := by exact Nat.le_of_ble_eq_true rfl) (hn : names.length ≤ 15 := by exact Nat.le_of_ble_eq_true rfl) (nd : names.Nodup := by decide +kernel) :
    EX J Γ (.Dict ks es pos) m (fun t => .rc none .dct (names.zip (sls t))) := by
  obtain ⟨trs, h1, h2⟩ := h.ex
  refine ⟨pe_wk (pe_disp h1 hall hl h0 h15) fun σ H Q ⟨G, S, w⟩ => fun p np => ?_⟩
  have g0 := Gr.loose (o := .dK []) S.gh np
  have gp : G p = none := ex_none S.gh np
  refine h2 _ _ _ ⟨G, S.gr g0, wp_mono w (fun t k vs fps G' H' g hlen s ndf nf => ?_) fun _ _ z => z⟩
  have hp' : H' p = some (.dK []) := g.hh _ _ upd_same
  have gp' : G' p = none := gn_keep g gp ⟨_, upd_same⟩
  have hz : (names.zip vs).length ≤ 15 := by rw [List.length_zip]; omega
  have hpf : p ∉ fps.flatten := fun z => by
    have := (nf p z).1
    rw [upd_same] at this; cases this
  have hnm : (names.zip vs).map (·.1) = names := List.map_fst_zip (by omega)
  refine ⟨hp', kvS (names.zip vs), ?_, by rw [kvS_length]; exact hz, ?_⟩
  · unfold kvS
    rw [List.map_map]
    rfl
  · rw [show mergeK [] (kvS (names.zip vs)) = kvS (names.zip vs) from mergeK_kvS (names.zip vs) [] (by rw [List.nil_append, hnm]; exact nd)]
    refine k (.ref p) (p :: fps.flatten) G' _ ?_ (List.nodup_cons.mpr ⟨hpf, ndf⟩) (fun q hq => ?_) ⟨recR_gd _ _ _ _, p, _, names.zip vs, fps.flatten, rfl, (fun _ z => nomatch z), rfl, upd_same, rfl, ?_⟩
    · have gt := g0.trans g
      exact ⟨gt.gg, fun a u z => by rw [upd_ne (fun y => by rw [y, gp'] at z; cases z)]; exact gt.gh a u z, fun a u z => by rw [upd_ne (fun y => by rw [y, np] at z; cases z)]; exact gt.hh a u z, gt.nw⟩
    · rcases List.mem_cons.mp hq with rfl | hq
      · exact ⟨np, gp'⟩
      · have := nf q hq
        rw [upd_ne (fun z => hpf (z ▸ hq) : q ≠ p)] at this
        exact this
    · exact (fls_of s hlen.symm).cg (Ex.refl _) fun q hq => upd_ne (fun z => hpf (z ▸ hq) : q ≠ p)
/-! #### pops -/
variable {π : Type} {get : π → List α} {put : π → List α → List Sl} {mp : R π}
/-- e.pop(0) -/
theorem EM.pop0 {z : Expr} {tz : TE} (h : PL J Γ e mp get put) (hz : PE J.X z tz) (hz0 : ∀ σ H Q, Q (.int 0) H → tz σ H Q) (hc : PE J.X e (tPl J Γ mp get put) → PE J.X z tz → PE J.X call (tBM J.X.K "list" rPopAt (tPl J Γ mp get put) (tCons tz tNil))) :
    EM J Γ Γ call (mp.bind fun t => (M.pop0 (get t)).bind fun a => .ok (t, a)) (fun b => .va (enc b.2.1)) (fun b => put b.1 b.2.2) :=
  ⟨pe_wk (hc h.pe hz) fun σ H Q ⟨G, S, w⟩ => ⟨G, S, wp_mono (wp_bind.mp w) (fun t k q ws G1 H1 g1 hq rq put' => ⟨.inl ⟨rfl, _, .inl (.inl hq)⟩, hz0 _ _ _ (by
    show rPopAt (.ref q) [.int 0] H1 Q
    cases hx : get t with
    | nil => rw [hx] at k; exact k.elim
    | cons y ys =>
      rw [hx] at k rq
      rw [List.map_cons] at rq
      obtain ⟨v, vs, rfl, r1, r2⟩ := RpA.uncons rq
      refine ⟨q, v :: vs, 0, 0, v, rfl, rfl, hq, by decide, by decide, ?_, rfl, ?_⟩
      · unfold seqIndex?
        simp
      · exact k v G1 _ g1.gg ((put' G1 H1 vs ys (Gr.refl (S.gr g1).gh) r2).push r1))⟩) fun _ _ z => z⟩⟩
/-- e.pop() -/
theorem EM.popL (h : PL J Γ e mp get put) (hc : PE J.X e (tPl J Γ mp get put) → PE J.X call (tBM0 J.X.K "list" rPop (tPl J Γ mp get put))) :
    EM J Γ Γ call (mp.bind fun t => (M.popL (get t)).bind fun a => .ok (t, a)) (fun b => .va (enc b.2.1)) (fun b => put b.1 b.2.2) :=
  ⟨pe_wk (hc h.pe) fun σ H Q ⟨G, S, w⟩ => ⟨G, S, wp_mono (wp_bind.mp w) (fun t k q ws G1 H1 g1 hq rq put' => ⟨.inl ⟨rfl, _, .inl (.inl hq)⟩, by
    show rPop (.ref q) [] H1 Q
    unfold M.popL at k
    cases hx : (get t).getLast? with
    | none => rw [hx] at k; exact k.elim
    | some y =>
      rw [hx] at k
      have hy : (get t)[(get t).length - 1]? = some y := by rw [← List.getLast?_eq_getElem?]; exact hx
      obtain ⟨v, hv, rv⟩ := rq.get (i := (get t).length - 1) (d := enc y) (by rw [List.getElem?_map, hy]; rfl)
      have hl : ws.length = (get t).length := by rw [rq.length, List.length_map]
      refine ⟨q, ws, v, rfl, rfl, hq, by rw [hl]; exact hv, ?_⟩
      refine k v G1 _ g1.gg ((put' G1 H1 ws.dropLast (get t).dropLast (Gr.refl (S.gr g1).gh) ?_).push rv)
      rw [List.dropLast_eq_take, List.dropLast_eq_take, List.map_take, hl]
      exact rq.take _⟩) fun _ _ z => z⟩⟩
/-- x, y = e, where e changes slots -/
theorem BS.asgTM {Γx : List Sl} {m : R β} {rv : β → α} {out : β → List Sl} {g : TG} {js : List Nat} {up : List Sl → α → List Sl} (h : EM J Γx Γ e m (fun b => .va (enc (rv b))) out) (hg : PG J.X tg g) (ht : TgS J.K g js up) (hp : PeOk J Γx) (hs : swapsWithSole [tg] e pos.line J.X.env = pure false := by rfl) (hw : swappedStores [tg] e J.X.env = pure none := by rfl)
    (h1 : (assignEach [tg] J.X.env).map (·.2) = [assign tg J.X.env] := by rfl) : BS J Γ (.Assign [tg] e pos) m (fun b => .nx (up (out b) (rv b))) :=
  ⟨ps_wk (ps_asg h.pe hg hs hw h1) fun D σ H ⟨G, S, q⟩ => ⟨G, S, wp_mono q (fun b k v G' H' _ S' => by
    obtain ⟨f, ⟨_, v', ev, r⟩, _⟩ := S'.head1
    cases ev
    exact ht.sem _ σ H' G' v (rv b) (out b) _ S'.pop1 r fun σ' _ S'' => k G' σ' H' S'') fun n a z => erE_of hp z σ⟩⟩
/-- x.f.append(e.pop(0)), the list e another part of x -/
theorem BS.pappPop {z e1 : Expr} {tz : TE} {op : Option Addr} {rk : RK} {fs : List (Str × Sl)} {f1 : Str} {xs1 : List α} {fs2 : π → List α → List (Str × Sl)} (r1 : RdF J e1 i rk f1) (k1 : Nat) (hG : Γ[i]? = some (.rc op rk fs)) (hf1 : fs[k1]? = some (f1, .ow (xs1.map enc))) (nd : (fs.map (·.1)).Nodup)
    (h : PL J Γ e mp get put) (hput : ∀ t ys, (put t ys)[i]? = some (.rc op rk (fs2 t ys))) (hf2 : ∀ t ys, (fs2 t ys)[k1]? = some (f1, .ow (xs1.map enc)))
    (hz : PE J.X z tz) (hz0 : ∀ σ H Q, Q (.int 0) H → tz σ H Q) {t1 : TE} (hc : PE J.X e1 t1 → PE J.X e (tPl J Γ mp get put) → PE J.X z tz → PE J.X call (tBM J.X.K "list" rAppend t1 (tCons (tBM J.X.K "list" rPopAt (tPl J Γ mp get put) (tCons tz tNil)) tNil)))
    (ht1 : t1 = fun σ H Q => ∃ p u vs v, σ[i]? = some (some (.ref p)) ∧ H p = some u ∧ RkAt rk u vs ∧ vs.lookup f1 = some v ∧ Q v H := by rfl)
    (hp : PeOk J Γ) (hs : swapsWith call none p2.line J.X.env = pure false := by rfl) :
    BS J Γ (.Expr call p2) (mp.bind fun t => (M.pop0 (get t)).bind fun a => (pushM xs1 a.1).bind fun ys => .ok (t, a.2, ys)) (fun b => .nx ((put b.1 b.2.1).set i (.rc op rk ((fs2 b.1 b.2.1).set k1 (f1, .ow (b.2.2.map enc)))))) := by
  subst ht1
  refine ⟨ps_wk (ps_expr (hc r1.pe h.pe hz) hs) fun D σ H ⟨G, S, w⟩ => ?_⟩
  obtain ⟨p, u, vs, gg, e1', hop, h1, h2, h3, nd0, -, -⟩ := S.recO hG
  have hn := h3.names
  obtain ⟨v0, g1, f0, g2, e4, e5, ⟨q1, ws1, rfl, ev, hq1, rv1⟩, -⟩ := h3.at hf1
  cases ev
  refine ⟨p, u, vs, .ref q1, e1', h1, h2, lookup_at (by rw [hn]; exact nd) e4, .inl ⟨rfl, _, .inl (.inl hq1)⟩, G, S, wp_mono (wp_bind.mp w) (fun t k q ws G1 H1 g1' hq rq put' => ⟨.inl ⟨rfl, _, .inl (.inl hq)⟩, hz0 _ _ _ ?_⟩) fun n a z => erE_of hp z σ⟩
  show rPopAt (.ref q) [.int 0] H1 _
  cases hx : get t with
  | nil => rw [hx] at k; exact k.elim
  | cons y ys =>
    rw [hx] at k rq
    rw [List.map_cons] at rq
    obtain ⟨v, vs', rfl, ry, rys⟩ := RpA.uncons rq
    refine ⟨q, v :: vs', 0, 0, v, rfl, rfl, hq, by decide, by decide, by unfold seqIndex?; simp, rfl, ?_⟩
    have S2 := put' G1 H1 vs' ys (Gr.refl (S.gr g1').gh) rys
    obtain ⟨p', u', vs2, gg', e1'', hop', h1', h2', h3', nd0', -, up⟩ := S2.recO (hput t ys)
    rw [e1'] at e1''
    cases e1''
    have hpq : p ≠ q := fun z => by
      have z1 := g1'.hh _ _ h1
      rw [z, hq] at z1
      cases z1
      cases rk with
      | ins C => obtain ⟨dx, z⟩ := h2; cases z
      | dct => cases (show HO.lst _ = HO.dK _ from h2)
    have hu : u' = u := by
      have z1 : upd H1 q (.lst vs') p = some u := (upd_ne hpq).trans (g1'.hh _ _ h1)
      have z2 : some u' = some u := h1'.symm.trans z1
      exact Option.some.inj z2
    subst hu
    have hvs : vs2 = vs := by
      cases rk with
      | ins C =>
        obtain ⟨dx, z⟩ := h2
        obtain ⟨dx', z'⟩ := h2'
        rw [z] at z'; cases z'; rfl
      | dct =>
        have z : u' = .dK (kvS vs) := h2
        have z' : u' = .dK (kvS vs2) := h2'
        rw [z] at z'
        injection z' with z'
        exact (kvS_inj z').symm
    subst hvs
    have hn' := h3'.names
    obtain ⟨v0', g1'', f0', g2'', e4', e5', ⟨q1', ws1', rfl, ev', hq1', rv1'⟩, kk⟩ := h3'.at (hf2 t ys)
    rw [e4] at e4'
    cases e4'
    cases ev'
    have k' : ((pushM xs1 y).bind fun ys2 => R.ok (t, ys, ys2)).wp _ _ := k
    unfold pushM at k'
    by_cases hz1 : xs1.length < 16777216
    · rw [if_pos hz1] at k'
      refine ⟨q1, ws1', v, rfl, rfl, hq1', szlt.mpr (by rw [rv1'.length, List.length_map]; exact hz1), ?_⟩
      have hqg : q1 ∈ gg' := by rw [e5']; simp
      have hpq1 : p ≠ q1 := fun z => (List.nodup_cons.mp nd0').1 (z ▸ hqg)
      have n2 := (List.nodup_cons.mp nd0').2
      rw [e5'] at n2
      obtain ⟨n3, n4, n5⟩ := List.nodup_append.mp n2
      have rnew : RpA J.K G1 (ws1' ++ [v]) ((xs1 ++ [y]).map enc) := by
        rw [List.map_append]
        exact rv1'.append (.cons ry .nil)
      have keep : ∀ r, r ≠ q1 → upd (upd H1 q (.lst vs')) q1 (.lst (ws1' ++ [v])) r = upd H1 q (.lst vs') r := fun r hr => upd_ne hr
      have k2 := kk G1 _ (.ow ((xs1 ++ [y]).map enc)) (.ref q1) [q1] (Ex.refl _) (fun r hr => keep r (n5 r hr q1 (by simp))) (fun r hr => keep r fun z => (List.nodup_cons.mp (show (q1 :: g2'').Nodup from n4)).1 (z ▸ hr)) ⟨q1, ws1' ++ [v], rfl, rfl, upd_same, rnew⟩
      rw [← e5'] at k2
      have hvs : vs2.set k1 (f1, .ref q1) = vs2 := by
        obtain ⟨hi, hv⟩ := List.getElem?_eq_some_iff.mp e4
        rw [← hv]; exact List.set_getElem_self hi
      rw [hvs] at k2
      exact k' G1 σ _ (up G1 _ q1 _ _ (p :: gg') (Gr.refl S2.gh) (by simp [hqg]) nd0' (fun r hr => .inl hr) ⟨p, u', vs2, gg', rfl, (fun _ z => nomatch z), rfl, (upd_ne hpq1).trans h1', h2', k2⟩)
    · rw [if_neg hz1] at k'; exact k'.elim
end
/-! ### 55. lists of lists that are read as they stand -/
def tD (J : Jd) (Γ : List Sl) {α : Type} [Enc α] (xss : List (List α)) : TE := fun σ H Q => ∃ G, Sat J Γ G σ H ∧ ∀ l vs fs G' H', Gr G H G' H' → H' l = some (.lst vs) → OwnA J.K G' H' vs (xss.map enc) fs → Q (.ref l) H'
/-- an expression that tells such a list itself -/
structure ED (J : Jd) (Γ : List Sl) (e : Expr) {α : Type} [Enc α] (xss : List (List α)) : Prop where
  pe : PE J.X e (tD J Γ xss)
section
variable {J : Jd} {Γ : List Sl} {i k j : Nat} {rk : RK} {fs : List (Str × Sl)} {e tg : Expr} {f x y : Str} {pos p p2 p3 p4 : Pos} {α β : Type} [Enc α] [Enc β] {scope : Scope}
theorem ED.fd {xss : List (List α)} (r : RdF J e i rk f) (g : GetR J Γ i rk fs) (k : Nat) (hf : fs[k]? = some (f, .dp (enc xss))) (nd : (fs.map (·.1)).Nodup) : ED J Γ e xss :=
  ⟨pe_wk r.pe fun σ H Q ⟨G, S, w⟩ => by
    obtain ⟨p, u, vs, v, fp, e1, h1, h2, h3, _, v', ev, ow⟩ := g.rdf hf nd S
    cases ev
    obtain ⟨l, lv, lf, rfl, rfl, hl, oa⟩ := dp_list ow
    exact ⟨p, u, vs, .ref l, e1, h1, h2, h3, w l lv lf G H (Gr.refl S.gh) hl oa⟩⟩
theorem ED.dp {xss : List (List α)} (hN : J.X.N[i]? = some x) (hG : Γ[i]? = some (.dp (enc xss))) (hv : Vis J.X.env.scope x := by first | exact Or.inl rfl | exact Or.inr (Or.inl rfl) | exact Or.inr (Or.inr rfl))
    (hd : (x == ("__debug__" : Str)) = false := by decide) (hcd : (x == ("__classdict__" : Str)) = false := by decide) : ED J Γ (.Name x p) xss :=
  ⟨pe_wk (pe_var hN hv hd hcd) fun σ H Q ⟨G, S, w⟩ => by
    obtain ⟨v, f, e1, ow, -, -⟩ := S.dp hG
    obtain ⟨l, lv, lf, rfl, rfl, hl, oa⟩ := dp_list ow
    exact ⟨.ref l, e1, w l lv lf G H (Gr.refl S.gh) hl oa⟩⟩
def tCopy (K : PySem.W.Frag) (j : Nat) : TE := fun σ H Q => ∃ q ws, σ[j]? = some (some (.ref q)) ∧ SqL K H q ws ∧ ∀ l, H l = none → Q (.ref l) (upd H l (.lst ws))
/-- list(y), y in slot j -/
theorem pe_copy {X : Cx} {y : Str} (hN : X.N[j]? = some y) (hm : X.mg "list" = none) (hg : Gl X "list" := by rfl) (hv : Vis X.env.scope y := by first | exact Or.inl rfl | exact Or.inr (Or.inl rfl) | exact Or.inr (Or.inr rfl)) (hd : (y == ("__debug__" : Str)) = false := by decide) (hcd : (y == ("__classdict__" : Str)) = false := by decide)
    (he : starEach ([.Name y p2] : List Expr) X.env = (false, eval (.Name y p2) X.env) :: starEach [] X.env := by rfl) : PE X (.Call (.Name "list" p) [.Name y p2] [] pos) (tCopy X.K j) :=
  pe_wk (pe_callTy call_list_of hg hm (by decide +kernel) (pa_cons (pe_var hN hv hd hcd) pa_nil he) (he := he)) fun σ H Q ⟨q, ws, e, hs, k⟩ => ⟨.ref q, e, q, ws, rfl, .inl hs, k⟩
theorem yes_if {σ : L2.St} {H : Hp} {A B : Hp → Prop} (h : A H) : tYes σ H (fun b H3 => if b = true then A H3 else B H3) := by
  show (if true = true then A H else B H)
  rw [if_pos rfl]; exact h
noncomputable def copyM {α : Type} (xss : List (List α)) : R (List (List α)) := @ite _ (xss.length < 16777216) (Classical.propDecidable _) (.ok xss) .stuck
/-- [list(y) for y in e] -/
theorem EF.copyD {xss : List (List α)} {elt : Expr} (h : ED J Γ e xss) (hjl : j < Γ.length) (hc : J.X.calm = true) (hN : J.X.N.Nodup) (ok : BlkOk J.X.N J.X.env.scope scope [(y, j)])
    (hg : ∀ (s : Shared) (H : Hp) (C : Addr) (cl : List (Str × Addr)) (fp : List Addr), PG (J.X.blk s H scope (compEnvC scope cl C J.X.env) fp) tg (gName j))
    (he : ∀ (s : Shared) (H : Hp) (C : Addr) (cl : List (Str × Addr)) (fp : List Addr), PE (J.X.blk s H scope (compEnvC scope cl C J.X.env) fp) elt (tCopy J.K j)) (hs : ∀ x, foldedSetIterable e J.X.env x = pure x := by intro _; rfl) :
    EF J Γ (.ListComp elt [⟨tg, e, [], 0⟩] scope pos) (copyM xss) :=
  ⟨pe_wk (pe_lc (own := [(y, j)]) hc hN (pi_list h.pe) ok hg (fun _ _ _ _ _ => pts_nil) he hs) fun σ H Q ⟨G, S, w⟩ => by
    unfold copyM at w
    by_cases hz : xss.length < 16777216
    case neg => rw [if_neg hz] at w; exact w.elim
    rw [if_pos hz] at w
    refine ⟨G, S, fun l lv lf G1 H1 g1 hl oa => ⟨l, rfl, ⟨lv, .inl (.inl hl)⟩, fun Dl hD => ?_⟩⟩
    have hlen : lv.length = xss.length := by rw [oa.length, List.length_map]
    have hD0 : H Dl = none := ex_none g1.hh hD
    have S1 := S.gr g1
    have gD : G1 Dl = none := ex_none S1.gh hD
    refine ⟨fun i m H' => m = xss.length - i ∧ i ≤ xss.length ∧ ∃ (G' : Hp) (acc : List V), Gr G1 H1 G' H' ∧ G' Dl = none ∧ H' Dl = some (.lst acc) ∧ RpA J.K G' acc ((xss.take i).map enc), ⟨xss.length, by simp, Nat.zero_le _, G1, [], Gr.loose S1.gh hD, gD, upd_same, .nil⟩, ?_⟩
    rintro i m H' ⟨rfl, hi, G', acc, g', gl, hl', hr⟩
    have hll : H' l = some (.lst lv) := g'.hh _ _ hl
    by_cases hlt : i < xss.length
    · refine .inr ⟨⟨lv, lv[i]'(by omega), .inl (.inl hll), by simp⟩, fun H' => xss.length - (i + 1) = xss.length - (i + 1) ∧ i + 1 ≤ xss.length ∧ ∃ (G' : Hp) (acc : List V), Gr G1 H1 G' H' ∧ G' Dl = none ∧ H' Dl = some (.lst acc) ∧ RpA J.K G' acc ((xss.take (i + 1)).map enc),
        fun H' h => ⟨xss.length - (i + 1), by omega, h⟩, fun x H2 hy => ?_⟩
      obtain ⟨rfl, hx⟩ := hy
      have hx := hx lv (.inl (.inl hll))
      obtain ⟨q, ws, q1, q2, a1, a2, a3, a4, -⟩ := oa.at (t := i) (es := xss[i].map enc) (by rw [List.getElem?_map, List.getElem?_eq_getElem hlt]; rfl)
      rw [a1] at hx
      cases hx
      have hj : j < (wipe σ [j]).length := by
        rw [wipe_length]
        obtain ⟨fs0, h0, _⟩ := S.sl
        rw [← h0.length]; exact hjl
      have hw : wipe ((wipe σ [j]).set j (some (V.ref q))) [j] = wipe σ [j] := by
        refine wipe_off (js := [j]) (vs := [j]) ⟨by simp, fun a ha => ?_⟩ (by simp)
        exact List.getElem?_set_ne (fun z => ha (by simp [z]))
      refine ⟨hw, ?_⟩
      refine yes_if ?_
      refine ⟨q, ws, List.getElem?_set_self hj, .inl (.inl (g'.hh _ _ a3)), fun nl hnl => ?_⟩
      have hne : Dl ≠ nl := fun z => by rw [← z, hl'] at hnl; cases hnl
      have g2 := Gr.new (o := .lst ws) g'.gh hnl
      have g3 := g'.trans g2
      have gl3 : upd G' nl (.lst ws) Dl = none := by rw [upd_ne hne]; exact gl
      refine ⟨acc, (upd_ne hne).trans hl', szlt.mpr ?_, rfl, hlt, upd G' nl (.lst ws), acc ++ [.ref nl], ⟨g3.gg, fun a u z => ?_, fun a u z => ?_, g3.nw⟩, gl3, upd_same, ?_⟩
      · have := hr.length
        rw [List.length_map, List.length_take] at this
        omega
      · rw [upd_ne (fun y => by rw [y, gl3] at z; cases z)]; exact g3.gh a u z
      · rw [upd_ne (fun y => by rw [y, hD] at z; cases z)]; exact g3.hh a u z
      · rw [List.take_succ_eq_append_getElem hlt, List.map_append]
        exact (hr.ex g2.gg).append (.cons (Rp.lst (.inl (.inl upd_same)) (a4.ex (g'.gg.trans g2.gg))) .nil)
    · have ei : i = xss.length := by omega
      subst ei
      rw [List.take_length] at hr
      exact .inl ⟨⟨lv, .inl (.inl hll), by omega⟩, w Dl acc G' H' (g1.trans g') hD0 gl hl' hr⟩⟩
end
/-! ### 56. smaller rules -/
def orM {α : Type} : Option (List α) → R (List α) → R (List α)
  | none, m => m
  | some x, m => if x.isEmpty = true then m else .ok x
section
variable {J : Jd} {Γ Γx : List Sl} {a b e : Expr} {es rest : List Expr} {st : Stmt} {pos p p2 apos : Pos} {x : Str} {i j k : Nat} {op : Option Addr} {rk : RK} {fs : List (Str × Sl)} {f : Str} {α β γ δ : Type} [Enc α] [Enc β]
/-- what is told of a statement, otherwise -/
theorem BS.mapo {γ δ : Type} {m : R γ} {g : γ → δ} {out : δ → Fl} (h : BS J Γ st (m.bind fun x => .ok (g x)) out) : BS J Γ st m (fun x => out (g x)) := ⟨ps_wk h.ps fun D σ H ⟨G, S, q⟩ => ⟨G, S, wp_bind.mpr (wp_mono q (fun x k => k) fun _ _ z => z)⟩⟩
theorem BS.castm {γ : Type} {m m' : R γ} {out : γ → Fl} (h : BS J Γ st m' out) (e : m' = m) : BS J Γ st m out := by subst e; exact h
/-- x.f.append(a) -/
theorem BS.fapp {xs : List α} {m : R α} {call : Expr} (r : RdF J e i rk f) (k : Nat) (hG : Γ[i]? = some (.rc op rk fs)) (hf : fs[k]? = some (f, .ow (xs.map enc))) (nd : (fs.map (·.1)).Nodup) (ha : ES J Γ a m) (hc : ∀ te ta, PE J.X e te → PE J.X a ta → PE J.X call (tBM J.X.K "list" rAppend te (tCons ta tNil))) (hp : PeOk J Γ) (hs : swapsWith call none p2.line J.X.env = pure false := by rfl) :
    BS J Γ (.Expr call p2) (m.bind fun a => pushM xs a) (fun ys => .nx (Γ.set i (.rc op rk (fs.set k (f, .ow (ys.map enc)))))) := by
  have h := BS.papp (p2 := p2) (PL.fd r k hG hf nd) ha (hc _ _) hp hs
  refine BS.mapo (g := fun ys => ((), ys)) (h.castm ?_)
  rw [ok_bind, bind_assoc]
/-- x.f.extend(a) -/
theorem BS.fext {xs : List α} {m : R (List α)} {call : Expr} (r : RdF J e i rk f) (k : Nat) (hG : Γ[i]? = some (.rc op rk fs)) (hf : fs[k]? = some (f, .ow (xs.map enc))) (nd : (fs.map (·.1)).Nodup) (ha : EF J Γ a m) (hc : ∀ te ta, PE J.X e te → PE J.X a ta → PE J.X call (tBM J.X.K "list" rExtend te (tCons ta tNil))) (hp : PeOk J Γ) (hs : swapsWith call none p2.line J.X.env = pure false := by rfl) :
    BS J Γ (.Expr call p2) (m.bind fun a => extM xs a) (fun ys => .nx (Γ.set i (.rc op rk (fs.set k (f, .ow (ys.map enc)))))) := by
  have h := BS.pext (p2 := p2) (PL.fd r k hG hf nd) ha (hc _ _) hp hs
  refine BS.mapo (g := fun ys => ((), ys)) (h.castm ?_)
  rw [ok_bind, bind_assoc]
/-- what is told of an expression, otherwise -/
theorem EM.mapo {γ δ : Type} {m : R γ} {g : γ → δ} {ret : δ → Sl} {out : δ → List Sl} (h : EM J Γx Γ e (m.bind fun x => .ok (g x)) ret out) : EM J Γx Γ e m (fun x => ret (g x)) (fun x => out (g x)) := ⟨pe_wk h.pe fun σ H Q ⟨G, S, q⟩ => ⟨G, S, wp_bind.mpr (wp_mono q (fun x k => k) fun _ _ z => z)⟩⟩
theorem EM.castm {γ : Type} {m m' : R γ} {ret : γ → Sl} {out : γ → List Sl} (h : EM J Γx Γ e m' ret out) (z : m' = m) : EM J Γx Γ e m ret out := by subst z; exact h
/-- x.f.pop(0) -/
theorem EM.fpop0 {xs : List α} {call z : Expr} {tz : TE} (r : RdF J e i rk f) (k : Nat) (hG : Γ[i]? = some (.rc op rk fs)) (hf : fs[k]? = some (f, .ow (xs.map enc))) (nd : (fs.map (·.1)).Nodup) (hz : PE J.X z tz) (hz0 : ∀ σ H Q, Q (.int 0) H → tz σ H Q) (hc : ∀ te ta, PE J.X e te → PE J.X z ta → PE J.X call (tBM J.X.K "list" rPopAt te (tCons ta tNil))) :
    EM J Γ Γ call (M.pop0 xs) (fun b => .va (enc b.1)) (fun b => Γ.set i (.rc op rk (fs.set k (f, .ow (b.2.map enc))))) := by
  have h := EM.pop0 (PL.fd r k hG hf nd) hz hz0 (hc _ _)
  exact EM.mapo (g := fun b => ((), b)) (h.castm (by rw [ok_bind]))
/-- e is of another kind too -/
theorem ES.cv {m : R α} (h : ES J Γ e m) (g : α → β) (hg : ∀ a, enc (g a) = enc a := by intro _; rfl) : ES J Γ e (m.bind fun a => .ok (g a)) := ⟨pe_wk h.pe fun σ H Q ⟨G, S, w⟩ => ⟨G, S, wp_mono (wp_bind.mp w) (fun a k v G' H' g' r => k v G' H' g' (by rw [hg]; exact r)) fun _ _ z => z⟩⟩
theorem ES.cvP {m : R α} (h : ES J Γ e m) (g : α → R β) (hg : ∀ a y, g a = .ok y → enc y = enc a) (hn : ∀ a n x, g a ≠ .exc n x) : ES J Γ e (m.bind g) := ⟨pe_wk h.pe fun σ H Q ⟨G, S, w⟩ => ⟨G, S, wp_mono (wp_bind.mp w) (fun a k v G' H' g' r => by
  cases hq : g a with
  | ok y => rw [hq] at k; exact k v G' H' g' (by rw [hg a y hq]; exact r)
  | stuck => rw [hq] at k; exact k.elim
  | exc n x => exact absurd hq (hn a n x)) fun _ _ z => z⟩⟩
theorem EL.cv {m : R (List α)} (h : EL J Γ e m) (g : α → β) (hg : ∀ a, enc (g a) = enc a := by intro _; rfl) : EL J Γ e (m.bind fun xs => .ok (xs.map g)) := ⟨pe_wk h.pe fun σ H Q ⟨G, S, w⟩ => ⟨G, S, wp_mono (wp_bind.mp w) (fun a k l vs G' H' g' hl r => k l vs G' H' g' hl (by rw [List.map_map, show (enc ∘ g : α → D) = enc from funext hg]; exact r)) fun _ _ z => z⟩⟩
theorem EF.cv {m : R (List α)} (h : EF J Γ e m) (g : α → β) (hg : ∀ a, enc (g a) = enc a := by intro _; rfl) : EF J Γ e (m.bind fun xs => .ok (xs.map g)) := ⟨pe_wk h.pe fun σ H Q ⟨G, S, w⟩ => ⟨G, S, wp_mono (wp_bind.mp w) (fun a k l vs G' H' g' n n' hl r => k l vs G' H' g' n n' hl (by rw [List.map_map, show (enc ∘ g : α → D) = enc from funext hg]; exact r)) fun _ _ z => z⟩⟩
theorem EP.cv {m : R α} (h : EP J Γ e m) (g : α → β) (hg : ∀ a, enc (g a) = enc a := by intro _; rfl) : EP J Γ e (m.bind fun a => .ok (g a)) := ⟨pe_wk h.pe fun σ H Q ⟨G, S, w⟩ => ⟨G, S, wp_mono (wp_bind.mp w) (fun a k v f G' H' g' o nd n => k v f G' H' g' (by rw [hg]; exact o) nd n) fun _ _ z => z⟩⟩
theorem EV.cv {m : R α} (h : EV J Γ e m) (g : α → β) (hg : ∀ a, enc (g a) = enc a := by intro _; rfl) : EV J Γ e (m.bind fun a => .ok (g a)) := ⟨pe_wk h.pe fun σ H Q ⟨G, S, w⟩ => ⟨G, S, wp_mono (wp_bind.mp w) (fun a k v G' H' g' r => k v G' H' g' (by rw [hg]; exact r)) fun _ _ z => z⟩⟩
theorem EM.cvP {γ : Type} {m : R γ} {rv : γ → α} {out : γ → List Sl} (h : EM J Γx Γ e m (fun b => .va (enc (rv b))) out) (g : α → R β) (hg : ∀ a y, g a = .ok y → enc y = enc a) (hn : ∀ a n x, g a ≠ .exc n x) : EM J Γx Γ e (m.bind fun b => (g (rv b)).bind fun y => .ok (b, y)) (fun b => .va (enc b.2)) (fun b => out b.1) := ⟨pe_wk h.pe fun σ H Q ⟨G, S, w⟩ => ⟨G, S, wp_mono (wp_bind.mp w) (fun b k v G' H' g' S' => by
  cases hq : g (rv b) with
  | ok y => rw [hq] at k; exact k v G' H' g' (by show SatG _ _ (.va (enc y) :: out b) _ _ _; rw [hg _ y hq]; exact S')
  | stuck => rw [hq] at k; exact k.elim
  | exc n x => exact absurd hq (hn _ n x)) fun _ _ z => z⟩⟩
/-- a list that lies in a list of lists -/
theorem EL.edix {xss : List (List α)} {mk : R Int} (h : ED J Γ e xss) (hb : ES J Γ b mk) (hs : PlainIx b := by intro _ _; rfl) : EL J Γ (.Subscript e b pos) (mk.bind fun z => ixM xss z) :=
  ⟨pe_wk (pe_ix ix_list h.pe hb.pe hs) fun σ H Q ⟨G, S, w⟩ => ⟨G, S, fun l lv lf G1 H1 g1 hl oa => ⟨G1, S.gr g1, wp_mono (wp_bind.mp w) (fun z k v G2 H2 g2 rz => by
    have ez := Rp.unint rz
    subst ez
    obtain ⟨xs, hx, k3⟩ := ixM_wp k
    unfold atI at hx
    cases hj : ixN xss.length z with
    | none => rw [hj] at hx; cases hx
    | some j =>
      rw [hj] at hx
      obtain ⟨q, ws, q1, q2, a1, a2, a3, a4, -⟩ := oa.at (t := j) (es := xs.map enc) (by rw [List.getElem?_map, show xss[j]? = some xs from hx]; rfl)
      have hlen : lv.length = xss.length := by rw [oa.length, List.length_map]
      refine ⟨l, lv, z, .ref q, rfl, rfl, .inl (.inl (g2.hh _ _ hl)), ?_, k3 q ws G2 H2 (g1.trans g2) (.inl (.inl (g2.hh _ _ a3))) (a4.ex g2.gg)⟩
      unfold atI
      rw [hlen, hj]
      exact a1) fun _ _ z => z⟩⟩⟩
theorem idxOf_first {α : Type} [DecidableEq α] {y : α} : ∀ {xs : List α} {n : Nat}, n < xs.idxOf y → xs[n]? ≠ some y
  | [], n, h => by simp at h
  | x :: xs, n, h => by
    rw [List.idxOf_cons] at h
    by_cases e : x = y
    · subst e; simp at h
    · have e' : (x == y) = false := beq_eq_false_iff_ne.mpr e
      rw [e'] at h
      cases n with
      | zero => intro z; simp at z; exact e z
      | succ n =>
        intro z
        exact idxOf_first (n := n) (by simp at h; omega) (by simpa using z)
/-- xs.index(a) -/
def indexM {α : Type} [DecidableEq α] (xs : List α) (a : α) : R Int := if a ∈ xs then .ok (xs.idxOf a : Int) else .stuck
theorem ES.index [DecidableEq α] [EncEq α] [EncDep α] {m1 : R (List α)} {m2 : R α} {call : Expr} (hu : J.X.A.units + 65 < cLine) (h1 : EV J Γ e m1) (h2 : ES J Γ a m2) (hc : ∀ te ta, PE J.X e te → PE J.X a ta → PE J.X call (tBM J.X.K "list" (rIndexD J.X.K) te (tCons ta tNil))) (hd : dep α ≤ 60 := by decide) :
    ES J Γ call (m1.bind fun xs => m2.bind fun a => indexM xs a) :=
  ⟨pe_wk (hc _ _ h1.pe h2.pe) fun σ H Q ⟨G, S, w⟩ => ⟨G, S, wp_mono (wp_bind.mp w) (fun xs k v G1 H1 g1 r1 => by
    obtain ⟨l, vs, rfl, hl, r1'⟩ := Rp.unlst r1
    refine ⟨.inl ⟨rfl, _, hl⟩, G1, S.gr g1, wp_mono (wp_bind.mp k) (fun y k2 u G2 H2 g2 r2 => ?_) fun _ _ z => z⟩
    unfold indexM at k2
    by_cases hm : y ∈ xs
    · rw [if_pos hm] at k2
      have rl : Rp J.K H2 (.ref l) (enc xs) := r1.ex g2.hh
      have hi : xs.idxOf y < xs.length := List.idxOf_lt_length_iff.mpr hm
      refine ⟨l, u, enc y, xs.map enc, xs.idxOf y, enc y, rfl, rfl, rl.dp, (r2.ex g2.gh).dp, ?_, ?_, ?_, ?_, fun n z' hn hz' => ?_, k2 _ G2 H2 (g1.trans g2) .int⟩
      · exact shaped_of (x := xs) (by show dep α + 1 ≤ 64; omega) rl
      · exact shaped_of (by omega) (r2.ex g2.gh)
      · rw [List.getElem?_map, List.getElem?_eq_getElem hi, List.getElem_idxOf hi]; rfl
      · rw [EncEq.eqv]; simp
      · rw [List.getElem?_map] at hz'
        cases hq : xs[n]? with
        | none => rw [hq] at hz'; cases hz'
        | some w =>
          rw [hq] at hz'
          cases hz'
          rw [EncEq.eqv, decide_eq_false_iff_not]
          intro e
          subst e
          exact absurd hq (idxOf_first hn)
    · rw [if_neg hm] at k2; exact k2.elim) fun _ _ z => z⟩⟩
/-- a or b, a perhaps None -/
theorem ES.orO {m1 : R (Option (List α))} {m2 : R (List α)} (ha : ES J Γ a m1) (hb : ES J Γ (.BoolOp .Or (b :: rest) pos) m2) : ES J Γ (.BoolOp .Or (a :: b :: rest) pos) (m1.bind fun x => orM x m2) :=
  ⟨pe_wk (pe_orT ha.pe hb.pe) fun σ H Q ⟨G, S, w⟩ => ⟨G, S, wp_mono (wp_bind.mp w) (fun x k v G' H' g r => by
    cases x with
    | none =>
      have e := Rp.unnon r
      subst e
      exact ⟨false, rfl, G', S.gr g, wp_mono k (fun y k2 v G2 H2 g2 => k2 v G2 H2 (g.trans g2)) fun _ _ z => z⟩
    | some x =>
      have r : Rp J.K G' v (enc x) := r
      obtain ⟨p, vs, rfl, hs, hr⟩ := Rp.unlst r
      refine ⟨!vs.isEmpty, .inl ⟨vs, Evl.ex_l g.gh hs, rfl⟩, ?_⟩
      have hl := hr.length
      cases x with
      | nil =>
        cases vs with
        | nil => exact ⟨G', S.gr g, wp_mono k (fun y k2 v G2 H2 g2 => k2 v G2 H2 (g.trans g2)) fun _ _ z => z⟩
        | cons v vs => simp at hl
      | cons y ys =>
        cases vs with
        | nil => simp at hl
        | cons v vs => exact k _ G' H' g r) fun _ _ z => z⟩⟩
/-! #### tests of the common shape: a truth and the thing behind -/
theorem TM.ofMs {S : Type} {m : R (Bool × S)} {out : S → List Sl} (h : EM J Γx Γ e m (fun b => .va (enc b.1)) (fun b => out b.2)) (he : ∀ whole, isTrue e J.X.env whole = (do let v ← whole; standAt e.pos; holding [v] (truthy v)) := by intro _; rfl) : TM J Γx Γ e m out :=
  ⟨pt_wk (pt_val h.pe he) fun σ H Q ⟨G, S, w⟩ => ⟨G, S, wp_mono w (fun b k v G' H' g S' => by
    obtain ⟨f, ⟨_, v', ev, r⟩, _⟩ := S'.head1
    cases ev
    have e := Rp.unbl r
    subst e
    exact ⟨b.1, rfl, k G' H' g S'.pop1⟩) fun _ _ z => z⟩⟩
theorem TM.isBs {S : Type} {m : R (Bool × S)} {out : S → List Sl} {jj : Nat} {v : Bool} (h : EM J Γx Γ a m (fun b => .va (enc b.1)) (fun b => out b.2)) : TM J Γx Γ (.Compare a [.Is] [.Constant (.bool v) jj p] pos) (m.bind fun b => .ok (decide (b.1 = v), b.2)) out :=
  ⟨pt_wk (pt_cmpR op_isBl h.pe pe_bl (nomark _)) fun σ H Q ⟨G, S, w⟩ => ⟨G, S, wp_mono (wp_bind.mp w) (fun b k u G' H' g S' => by
    obtain ⟨f, ⟨_, v', ev, r⟩, _⟩ := S'.head1
    cases ev
    have e := Rp.unbl r
    subst e
    exact ⟨b.1, v, rfl, rfl, _, rfl, k G' H' g S'.pop1⟩) fun _ _ z => z⟩⟩
theorem TM.notBs {S : Type} {m : R (Bool × S)} {out : S → List Sl} {jj : Nat} {v : Bool} (h : EM J Γx Γ a m (fun b => .va (enc b.1)) (fun b => out b.2)) : TM J Γx Γ (.Compare a [.IsNot] [.Constant (.bool v) jj p] pos) (m.bind fun b => .ok (!decide (b.1 = v), b.2)) out :=
  ⟨pt_wk (pt_cmpR op_notBl h.pe pe_bl (nomark _)) fun σ H Q ⟨G, S, w⟩ => ⟨G, S, wp_mono (wp_bind.mp w) (fun b k u G' H' g S' => by
    obtain ⟨f, ⟨_, v', ev, r⟩, _⟩ := S'.head1
    cases ev
    have e := Rp.unbl r
    subst e
    exact ⟨b.1, v, rfl, rfl, _, rfl, k G' H' g S'.pop1⟩) fun _ _ z => z⟩⟩
end
/-! #### xs[k] += e of a list of one's own -/
section
variable {J : Jd} {Γ : List Sl} {b e : Expr} {pos p p2 : Pos} {x : Str} {i : Nat}
def rGetL (K : PySem.W.Frag) : V → V → Hp → VK → Prop := fun x y H Q => ∃ p xs i v, x = .ref p ∧ y = .int i ∧ SqL K H p xs ∧ atI xs i = some v ∧ Q v H
theorem get_list {X : Cx} : PGet X (rGetL X.K) := by
  intro pins s σ H x y v u Q I rx ry h
  obtain ⟨p, xs, i, z, rfl, rfl, hq, he, q⟩ := h
  cases rx
  obtain ⟨t, rfl⟩ := ry
  obtain ⟨its, r, pl, hz⟩ := I.list hq
  obtain ⟨j, h1, h2, h3, h4, h5⟩ := atI_get he
  obtain ⟨w, ew, rw'⟩ := r.get h2
  have hl := r.length
  have hn := line63
  have fin : L2.EP X pins σ Q w s := ⟨z, H, I, rw', q⟩
  by_cases h0 : 0 ≤ i
  · have hj : i.toNat = j := by
      rw [seqIndex_of h0 h5] at h1
      exact Option.some.inj h1
    exact wpAny_getItem_list pl.isList h0 (by omega) (by rw [hj]; simpa using ew) fin
  · have hj : (i + (its.toArray.size : Int)).toNat = j := by
      rw [seqIndex_neg (by omega) h4] at h1
      rw [List.size_toArray, ← hl]
      exact Option.some.inj h1
    exact wpAny_getItem_list_neg pl.isList (by omega) (by rw [List.size_toArray] <;> omega) (by omega) (by rw [hj]; simpa using ew) fin
theorem BS.augIx {o : Operator} {h : Int → Int → Int} {xs : List Int} {mk m : R Int} (ho : PIp J.X o (ipI h)) (hb : ES J Γ b mk) (hv : ES J Γ e m) (hp : PeOk J Γ) (hN : J.X.N[i]? = some x) (hG : Γ[i]? = some (.ow (xs.map enc)))
    (ha : ∀ ov iv new, augStore b ov iv new = (do holding [new, ov, iv] (setItem ov iv new); release [new, ov, iv] []; pure .next) := by intros; rfl) (hvs : Vis J.X.env.scope x := by first | exact Or.inl rfl | exact Or.inr (Or.inl rfl) | exact Or.inr (Or.inr rfl)) (hd : (x == ("__debug__" : Str)) = false := by decide) (hcd : (x == ("__classdict__" : Str)) = false := by decide) :
    BS J Γ (.AugAssign (.Subscript (.Name x p) b p2) o e pos) (mk.bind fun z => (ixM xs z).bind fun w => m.bind fun y => setM xs z (h w y)) (fun ys => .nx (Γ.set i (.ow (ys.map enc)))) :=
  ⟨ps_wk (ps_augS (pe_var hN hvs hd hcd) hb.pe get_list hv.pe ho set_list ha) fun D σ H ⟨G, S, q⟩ => by
    obtain ⟨l, vs, e1, hl, r, gl⟩ := S.ow hG
    refine ⟨.ref l, e1, G, S, wp_mono (wp_bind.mp q) (fun z k v G1 H1 g1 rz => ?_) fun n a z => erE_of hp z σ⟩
    have ez := Rp.unint rz
    subst ez
    obtain ⟨w, hw, k2⟩ := ixM_wp (wp_bind.mp k)
    obtain ⟨u, hu, ru⟩ := atI_rp (r.ex g1.gg) (show atI (xs.map enc) z = some (enc w) by rw [atI_map, hw]; rfl)
    have eu := Rp.unint ru
    subst eu
    refine ⟨l, vs, z, .int w, rfl, rfl, .inl (.inl (g1.hh _ _ hl)), hu, G1, S.gr g1, wp_mono (wp_bind.mp k2) (fun y k3 t G2 H2 g2 ry => ?_) fun n a z => erE_of hp z σ⟩
    have ey := Rp.unint ry
    subst ey
    refine ⟨w, y, rfl, rfl, ?_⟩
    unfold setM at k3
    cases hj : ixN xs.length z with
    | none => rw [hj] at k3; exact k3.elim
    | some j =>
      rw [hj] at k3
      refine ⟨l, vs, z, j, rfl, rfl, g2.hh _ _ (g1.hh _ _ hl), by rw [r.length, List.length_map]; exact hj, ?_⟩
      refine k3 G2 σ _ (((S.gr g1).gr g2).mut hG e1 ?_)
      rw [List.map_set]
      exact (r.ex (g1.trans g2).gg).set j .int⟩
end
/-! ### 57. things of a line: a text, or a matrix; a list within a list by a name of its own -/
inductive Th where
  | w (t : Tx)
  | m (s : Tx) (n : Int)
  deriving DecidableEq
instance : Enc Th := ⟨fun t => match t with
  | .w t => enc t
  | .m s n => enc (s, n)⟩
instance : EncDep Th := ⟨1, fun t => by
  cases t with
  | w t => exact Nat.le_trans (hdep (α := Tx) t) (by decide)
  | m s n => exact hdep (α := Tx × Int) (s, n)⟩
instance : EncEq Th := ⟨fun a b => by
  cases a with
  | w t =>
    cases b with
    | w u => exact (EncEq.eqv (α := Tx) t u).trans (by simp)
    | m s n => exact (show PyData.eqv (.str _) (.tuple _) = false from rfl).trans (by simp)
  | m s n =>
    cases b with
    | w u => exact (show PyData.eqv (.tuple _) (.str _) = false from rfl).trans (by simp)
    | m s' n' => exact (EncEq.eqv (α := Tx × Int) (s, n) (s', n')).trans (by simp)⟩
instance : EncNN Th := ⟨fun a => by cases a <;> exact ⟨rfl, rfl⟩⟩
instance : NoList Th := ⟨fun a _ h => by cases a <;> cases h⟩
def Th.of (p : Tx × Int) : Th := .m p.1 p.2
/-- a matrix -/
def thP : Th → R (Tx × Int)
  | .w _ => .stuck
  | .m s n => .ok (s, n)
noncomputable def thSign : Th → R Tx
  | .w t => ixTxM t 0
  | .m s _ => .ok s
def thTeeth : Th → R Int
  | .w _ => .stuck
  | .m _ n => .ok n
theorem thP_enc : ∀ a y, thP a = .ok y → enc y = enc a := by
  intro a y h
  cases a with
  | w t => cases h
  | m s n => cases h; rfl
theorem thP_ne : ∀ a n x, thP a ≠ .exc n x := by
  intro a n x h
  cases a <;> cases h
/-- all are -/
def allP {α β : Type} (g : α → R β) : List α → R (List β)
  | [] => .ok []
  | x :: xs => (g x).bind fun y => (allP g xs).bind fun ys => .ok (y :: ys)
theorem allP_enc {α β : Type} [Enc α] [Enc β] {g : α → R β} (h : ∀ a y, g a = .ok y → enc y = enc a) : ∀ (xs : List α) (ys : List β), allP g xs = .ok ys → ys.map enc = xs.map enc
  | [], ys, e => by cases e; rfl
  | x :: xs, ys, e => by
    obtain ⟨y, h1, h2⟩ := bind_eq (show (g x).bind _ = .ok ys from e)
    obtain ⟨zs, h3, h4⟩ := bind_eq h2
    cases h4
    rw [List.map_cons, List.map_cons, h x y h1, allP_enc h xs zs h3]
theorem allP_ne {α β : Type} {g : α → R β} (h : ∀ a n x, g a ≠ .exc n x) : ∀ (xs : List α) n x, allP g xs ≠ .exc n x
  | [], n, x, e => by cases e
  | a :: xs, n, x, e => by
    unfold allP at e
    cases h1 : g a with
    | stuck => rw [h1] at e; cases e
    | exc n x => exact h a n x h1
    | ok y =>
      rw [h1, ok_bind] at e
      cases h2 : allP g xs with
      | stuck => rw [h2] at e; cases e
      | exc n x => exact allP_ne h xs n x h2
      | ok ys => rw [h2] at e; cases e
/-- the list in slot j, by another name -/
def dpQ (q : Addr) (n : Nat) (ds : List D) (K : PySem.W.Frag) (G H : Hp) (o : Option V) (f : List Addr) : Prop := ∃ l lv fs, o = some (.ref l) ∧ f = l :: fs ∧ H l = some (.lst lv) ∧ OwnA K G H lv ds fs ∧ lv[n]? = some (.ref q)
theorem dpQ_gd (q : Addr) (n : Nat) (ds : List D) (K : PySem.W.Frag) : Gd (dpQ q n ds K) := ⟨fun g h ⟨l, lv, fs, e1, e2, h1, h2, h3⟩ => ⟨l, lv, fs, e1, e2, (h l (by rw [e2]; simp)).trans h1, h2.cg g (fun p hp => h p (by rw [e2]; exact List.mem_cons_of_mem _ hp)), h3⟩, fun ⟨l, lv, fs, e1, e2, h1, h2, h3⟩ p hp => by
    rw [e2] at hp
    rcases List.mem_cons.mp hp with rfl | hp
    · exact ⟨_, h1, .inl ⟨lv, rfl⟩⟩
    · exact (h2.kd p hp).elim fun vs e => ⟨_, e, .inl ⟨vs, rfl⟩⟩⟩
section
variable {J : Jd} {Γ : List Sl} {i j k n : Nat} {op : Option Addr} {rk : RK} {fs : List (Str × Sl)} {e a b : Expr} {rest : List Stmt} {f x y : Str} {pos p p2 p3 : Pos} {α β : Type} [Enc α] {out : β → Fl}
theorem ES.thSign {m : R Th} {jj : Nat} (ha : ES J Γ a m) : ES J Γ (.Subscript a (.Constant (.int 0) jj p) pos) (m.bind M.thSign) :=
  ⟨pe_wk (pe_ix ix_seq ha.pe pe_int (fun _ _ => rfl)) fun σ H Q ⟨G, S, w⟩ => ⟨G, S, wp_mono (wp_bind.mp w) (fun t q v G1 H1 g1 r1 => by
    cases t with
    | w t =>
      have r1 : Rp J.K G1 v (enc t) := r1
      obtain ⟨rfl, ok⟩ := rp_tx r1
      have q' : (ixTxM t 0).wp _ _ := q
      unfold ixTxM at q'
      by_cases hz : t.length ≤ 16777216
      · rw [if_pos hz] at q'
        cases hc : atI t 0 with
        | none => rw [hc] at q'; exact q'.elim
        | some c =>
          rw [hc] at q'
          refine .inr (.inr ⟨txs t, 0, c, rfl, rfl, by rw [txs_length]; exact szl.mpr hz, by rw [txs_cps]; exact hc, q' _ G1 H1 g1 (Rp.tx (t := [c]) fun x hx => ?_)⟩)
          rw [List.mem_singleton] at hx
          subst hx
          unfold atI at hc
          cases hi : ixN t.length 0 with
          | none => rw [hi] at hc; cases hc
          | some j =>
            rw [hi] at hc
            exact ok x (List.mem_of_getElem? hc)
      · rw [if_neg hz] at q'; exact q'.elim
    | m s n =>
      have r1 : Rp J.K G1 v (.tuple [enc s, enc n]) := r1
      obtain ⟨p, vs, rfl, ht, r2⟩ := r1.untup
      obtain ⟨u, hu, ru⟩ := atI_rp r2 (show atI [enc s, enc n] 0 = some (enc s) from rfl)
      exact .inr (.inl ⟨p, vs, 0, u, rfl, rfl, Evl.ex_t g1.gh ht, hu, q u G1 H1 g1 ru⟩)) fun _ _ z => z⟩⟩
theorem ES.thTeeth {m : R Th} {jj : Nat} (ha : ES J Γ a m) : ES J Γ (.Subscript a (.Constant (.int 1) jj p) pos) (m.bind M.thTeeth) :=
  ⟨pe_wk (pe_ix ix_tup ha.pe pe_int (fun _ _ => rfl)) fun σ H Q ⟨G, S, w⟩ => ⟨G, S, wp_mono (wp_bind.mp w) (fun t q v G1 H1 g1 r1 => by
    cases t with
    | w t => exact q.elim
    | m s n =>
      have r1 : Rp J.K G1 v (.tuple [enc s, enc n]) := r1
      obtain ⟨p, vs, rfl, ht, r2⟩ := r1.untup
      obtain ⟨u, hu, ru⟩ := atI_rp r2 (show atI [enc s, enc n] 1 = some (enc n) from rfl)
      exact ⟨p, vs, 1, u, rfl, rfl, Evl.ex_t g1.gh ht, hu, q u G1 H1 g1 ru⟩) fun _ _ z => z⟩⟩
theorem rk_inj {rk : RK} {u : HO} {vs vs' : List (Str × V)} (h : RkAt rk u vs) (h' : RkAt rk u vs') : vs = vs' := by
  cases rk with
  | ins C =>
    obtain ⟨dx, z⟩ := h
    obtain ⟨dx', z'⟩ := h'
    rw [z] at z'; cases z'; rfl
  | dct =>
    have z : u = .dK (kvS vs) := h
    have z' : u = .dK (kvS vs') := h'
    rw [z] at z'
    injection z' with z'
    exact kvS_inj z'
/-- a part said otherwise, over the same heap -/
theorem SatG.fconv {K : PySem.W.Frag} {c : Bs} {G H : Hp} {σ : L2.St} (S : SatG K c Γ G σ H) {s s' : Sl} (hG : Γ[i]? = some (.rc op rk fs)) (hf : fs[k]? = some (f, s)) (h : ∀ p u vs v fp, σ[i]? = some (some (.ref p)) → H p = some u → RkAt rk u vs → vs[k]? = some (f, v) → SlAt K G H s (some v) fp → SlAt K G H s' (some v) fp) : SatG K c (Γ.set i (.rc op rk (fs.set k (f, s')))) G σ H :=
  S.conv hG fun o fp eo ⟨_, p, u, vs, g, e1, e2, e3, h1, h2, h3⟩ => by
    subst e1
    obtain ⟨v, g1, f1, g2, e4, e5, a1, k1⟩ := h3.at hf
    have k2 := k1 G H s' v f1 (Ex.refl _) (fun _ _ => rfl) (fun _ _ => rfl) (h p u vs v f1 eo h1 h2 e4 a1)
    have hvs : vs.set k (f, v) = vs := by
      obtain ⟨hi, hv⟩ := List.getElem?_eq_some_iff.mp e4
      rw [← hv]; exact List.set_getElem_self hi
    rw [hvs, ← e5] at k2
    exact ⟨recR_gd _ _ _ _, p, u, vs, g, rfl, e2, e3, h1, h2, k2⟩
/-- y = x.f[b]: a list of x's by a name of its own -/
theorem BD.alias {xss : List (List α)} {mk : R Int} {mr : Nat × List α → R β} (r : RdF J e i rk f) (k : Nat) (hb : ES J Γ b mk) (hp : PeOk J Γ) (hG : Γ[i]? = some (.rc op rk fs)) (hf : fs[k]? = some (f, .dp (enc xss))) (nd : (fs.map (·.1)).Nodup) (hij : j ≠ i) (hN : J.X.N.Nodup) (hj : J.X.N[j]? = some y) (hy : Loc J.X.env.scope y)
    (h : ∀ (q : Addr) (n : Nat) (xs : List α), xss[n]? = some xs → BD J ((Γ.set i (.rc op rk (fs.set k (f, .gn (dpQ q n (xss.map enc)))))).set j (.rw (.ref q))) rest (mr (n, xs)) out)
    (hs : PlainIx b := by intro _ _; rfl) (hsw : swapsWith (.Subscript e b pos) (some (.Name y p)) p2.line J.X.env = pure false := by rfl) (hfn : J.X.fn y = true ∨ J.X.env.scope.names.lookup y = some .local := by first | exact .inl rfl | exact .inr rfl) :
    BD J Γ (.Assign [.Name y p] (.Subscript e b pos) p2 :: rest) (mk.bind fun z => (ixJ xss z).bind mr) out := by
  have hr : PSs J.X rest (fun D σ H => ∃ q n xs, xss[n]? = some xs ∧ tBD J ((Γ.set i (.rc op rk (fs.set k (f, .gn (dpQ q n (xss.map enc)))))).set j (.rw (.ref q))) (mr (n, xs)) out D σ H) := ⟨fun pins s σ H D I ⟨q, n, xs, e, w⟩ => (h q n xs e).ps.run pins s σ H D I w⟩
  refine ⟨pss_wk (pss_cons (ps_set hN hj hy (pe_ix ix_list r.pe hb.pe hs) hsw hfn) hr) fun D σ H ⟨G, S, w⟩ => ?_⟩
  obtain ⟨p', u, vs, gg, e1, hop, h1, h2, h3, nd0, -, -⟩ := S.recO hG
  have hn := h3.names
  obtain ⟨v0, g1, f0, g2, e4, e5, ⟨_, v1, ev, ow⟩, -⟩ := h3.at hf
  cases ev
  obtain ⟨l, lv, lf, rfl, rfl, hl, oa⟩ := dp_list ow
  refine ⟨p', u, vs, .ref l, e1, h1, h2, lookup_at (by rw [hn]; exact nd) e4, G, S, wp_mono (wp_bind.mp w) (fun z kq v G1 H1 g1' rz => ?_) fun n a z => erE_of hp z σ⟩
  have ez := Rp.unint rz
  subst ez
  obtain ⟨n, xs, hj', hx, k3⟩ := ixJ_wp (wp_bind.mp kq)
  obtain ⟨q, ws, q1, q2, a1, a2, a3, a4, -⟩ := oa.at (t := n) (es := xs.map enc) (by rw [List.getElem?_map, hx]; rfl)
  have hlen : lv.length = xss.length := by rw [oa.length, List.length_map]
  refine ⟨l, lv, z, .ref q, rfl, rfl, .inl (.inl (g1'.hh _ _ hl)), ?_, ?_⟩
  · unfold atI
    rw [hlen, hj']
    exact a1
  · have S1 := S.gr g1'
    refine ⟨q, n, xs, hx, G1, (S1.fconv hG hf (s' := .gn (dpQ q n (xss.map enc))) fun pp u' vs' v fp z1 z2 z3 z4 ⟨_, v', ev, ow'⟩ => ?_).setrw, k3⟩
    rw [e1] at z1
    cases z1
    rw [g1'.hh _ _ h1] at z2
    cases z2
    cases rk_inj h2 z3
    rw [e4] at z4
    cases z4
    cases ev
    obtain ⟨l', lv', lf', e7, e8, hl', oa'⟩ := dp_list ow'
    cases e7
    rw [g1'.hh _ _ hl] at hl'
    cases hl'
    exact ⟨dpQ_gd _ _ _ _, l, lv, lf', rfl, e8, g1'.hh _ _ hl, oa', a1⟩
/-- .. the name forgotten -/
theorem BD.unalias {sts : List Stmt} {xss : List (List α)} {q : Addr} {n : Nat} {m : R β} (k : Nat) (hG : Γ[i]? = some (.rc op rk fs)) (hf : fs[k]? = some (f, .gn (dpQ q n (xss.map enc)))) (h : BD J (Γ.set i (.rc op rk (fs.set k (f, .dp (enc xss))))) sts m out) : BD J Γ sts m out := ⟨pss_wk h.ps fun D σ H ⟨G, S, w⟩ =>
  ⟨G, S.fconv hG hf fun _ _ _ v fp _ _ _ _ ⟨_, l, lv, f', e1, e2, h1, h2, h3⟩ => by
    cases e1
    exact ⟨dpR_gd _ _, .ref l, rfl, .inl ⟨l, lv, xss.map enc, f', rfl, rfl, e2, h1, h2⟩⟩, w⟩⟩
theorem BX.unalias {sts : List Stmt} {xss : List (List α)} {q : Addr} {n : Nat} {m : R β} (k : Nat) (hG : Γ[i]? = some (.rc op rk fs)) (hf : fs[k]? = some (f, .gn (dpQ q n (xss.map enc)))) (h : BX J (Γ.set i (.rc op rk (fs.set k (f, .dp (enc xss))))) sts m out) : BX J Γ sts m out := ⟨BD.unalias k hG hf h.bd, h.lv⟩
/-- the list by that name -/
theorem PL.alias {xss : List (List α)} {xs : List α} {q : Addr} {n : Nat} (k : Nat) (hN : J.X.N[j]? = some y) (hj : Γ[j]? = some (.rw (.ref q))) (hG : Γ[i]? = some (.rc op rk fs)) (hf : fs[k]? = some (f, .gn (dpQ q n (xss.map enc)))) (hx : xss[n]? = some xs) (hv : Vis J.X.env.scope y := by first | exact Or.inl rfl | exact Or.inr (Or.inl rfl) | exact Or.inr (Or.inr rfl))
    (hd : (y == ("__debug__" : Str)) = false := by decide) (hcd : (y == ("__classdict__" : Str)) = false := by decide) : PL J Γ (.Name y p) (.ok ()) (fun _ => xs) (fun _ ys => Γ.set i (.rc op rk (fs.set k (f, .dp (enc (xss.set n ys)))))) :=
  ⟨pe_wk (pe_var hN hv hd hcd) fun σ H Q ⟨G, S, w⟩ => by
    obtain ⟨p, u, vs, gg, e1, hop, h1, h2, h3, nd0, h4, up⟩ := S.recO hG
    obtain ⟨v0, g1, f0, g2, e4, e5, ⟨_, l, lv, lf, el, rfl, hl, oa, hq⟩, k1⟩ := h3.at hf
    cases el
    obtain ⟨q', ws, q1, q2, a1, a2, a3, a4, a5⟩ := oa.at (t := n) (es := xs.map enc) (by rw [List.getElem?_map, hx]; rfl)
    rw [hq] at a1
    cases a1
    have hln : l ∈ gg := by rw [e5]; simp
    have hqg : q ∈ gg := by rw [e5, a2]; simp
    have hpq : p ≠ q := fun z => (List.nodup_cons.mp nd0).1 (z ▸ hqg)
    have n2 := (List.nodup_cons.mp nd0).2
    rw [e5] at n2
    obtain ⟨n3, n4, n5⟩ := List.nodup_append.mp n2
    obtain ⟨n6, n7, n8⟩ := List.nodup_append.mp n4
    obtain ⟨n9, n10⟩ := List.nodup_cons.mp n6
    rw [a2] at n9 n10 n8 n5
    have hlq : l ≠ q := fun z => n9 (by rw [z]; simp)
    obtain ⟨n11, n12, n13⟩ := List.nodup_append.mp n10
    have hqq : q ∉ q1 ++ q2 := fun z => by
      rcases List.mem_append.mp z with z | z
      · exact n13 q z q (by simp) rfl
      · exact (List.nodup_cons.mp n12).1 z
    refine ⟨.ref q, S.rw hj, w q ws G H (Gr.refl S.gh) a3 a4 fun G2 H2 ws' ys gt r2 => ?_⟩
    have hkd := h3.kd
    have keep : ∀ r ∈ gg, r ≠ q → upd H2 q (.lst ws') r = H r := fun r hr hne => by
      rw [upd_ne hne]
      obtain ⟨w, hw, _⟩ := hkd r hr
      rw [hw]; exact gt.hh _ _ hw
    have o2 := a5 G2 H2 ws' (ys.map enc) gt.gg gt.hh hqq r2
    have k2 := k1 G2 (upd H2 q (.lst ws')) (.dp (enc (xss.set n ys))) (.ref l) (l :: lf) gt.gg (fun r hr => keep r (by rw [e5]; simp [hr]) (n5 r hr q (by simp))) (fun r hr => keep r (by rw [e5]; simp [hr]) fun z => n8 q (by simp) r hr z.symm)
      ⟨dpR_gd _ _, .ref l, rfl, .inl ⟨l, lv, (xss.set n ys).map enc, lf, rfl, rfl, rfl, (upd_ne hlq).trans (gt.hh _ _ hl), by rw [List.map_set]; exact o2⟩⟩
    rw [← e5] at k2
    have hvs : vs.set k (f, .ref l) = vs := by
      obtain ⟨hi, hv⟩ := List.getElem?_eq_some_iff.mp e4
      rw [← hv]; exact List.set_getElem_self hi
    rw [hvs] at k2
    exact up G2 H2 q _ _ (p :: gg) gt (by simp [hqg]) nd0 (fun r hr => .inl hr) ⟨p, u, vs, gg, rfl, (fun _ z => nomatch z), rfl, (upd_ne hpq).trans (gt.hh _ _ h1), h2, k2⟩⟩
theorem EL.alias {xss : List (List α)} {xs : List α} {q : Addr} {n : Nat} (k : Nat) (hN : J.X.N[j]? = some y) (hj : Γ[j]? = some (.rw (.ref q))) (hG : Γ[i]? = some (.rc op rk fs)) (hf : fs[k]? = some (f, .gn (dpQ q n (xss.map enc)))) (hx : xss[n]? = some xs) (hv : Vis J.X.env.scope y := by first | exact Or.inl rfl | exact Or.inr (Or.inl rfl) | exact Or.inr (Or.inr rfl))
    (hd : (y == ("__debug__" : Str)) = false := by decide) (hcd : (y == ("__classdict__" : Str)) = false := by decide) : EL J Γ (.Name y p) (.ok xs) :=
  ⟨pe_wk (PL.alias (α := α) k hN hj hG hf hx hv hd hcd).pe fun σ H Q ⟨G, S, w⟩ => ⟨G, S, fun q ws G' H' g hq r _ => w q ws G' H' g (.inl (.inl hq)) r⟩⟩
end
/-! ### 58. values of tests that change slots; a dict written out that takes what a name holds -/
section
variable {J : Jd} {Γ Γx : List Sl} {a b e : Expr} {es bs : List Expr} {ks : List (Option Expr)} {pos p p2 : Pos} {x y : Str} {i j k : Nat} {α β γ τ S S1 : Type} [Enc α]
theorem EM.ofS {m : R α} (h : ES J Γ e m) (w : Wk Γ Γx) (s : S) (out : S → List Sl) (ho : out s = Γ := by rfl) : EM J Γx Γ e (m.bind fun v => .ok (v, s)) (fun b => .va (enc b.1)) (fun b => out b.2) :=
  ⟨pe_wk h.pe fun σ H Q ⟨G, S, q⟩ => ⟨G, S, wp_mono (wp_bind.mp q) (fun v k u G' H' g r => k u G' H' g.gg ((by rw [ho]; exact S.gr g : Sat J (out s) G' σ H').push r)) fun n a z => z.wk w⟩⟩
theorem EM.one {op} {m : R β} {ret : β → Sl} {out : β → List Sl} (h : EM J Γx Γ a m ret out) : EM J Γx Γ (.BoolOp op [a] pos) m ret out := ⟨pe_one h.pe⟩
theorem EM.and {m1 : R (Bool × S1)} {out1 : S1 → List Sl} {m2 : S1 → R (Bool × S)} {out : S → List Sl} (ha : EM J Γx Γ a m1 (fun b => .va (enc b.1)) (fun b => out1 b.2)) (hb : ∀ d, EM J Γx (out1 d) (.BoolOp .And (b :: bs) pos) (m2 d) (fun b => .va (enc b.1)) (fun b => out b.2)) (g : S1 → S) (ho : ∀ d, out (g d) = out1 d := by intro _; rfl) :
    EM J Γx Γ (.BoolOp .And (a :: b :: bs) pos) (m1.bind fun t => if t.1 = true then m2 t.2 else .ok (false, g t.2)) (fun b => .va (enc b.1)) (fun b => out b.2) := by
  have hb' : PE J.X (.BoolOp .And (b :: bs) pos) (fun σ H Q => ∃ d, tM J Γx (out1 d) (m2 d) (fun b => .va (enc b.1)) (fun b => out b.2) σ H Q) := ⟨fun pins s σ H Q I ⟨d, q⟩ => (hb d).pe.run pins s σ H Q I q⟩
  exact ⟨pe_wk (pe_and ha.pe hb') fun σ H Q ⟨G, S, w⟩ => ⟨G, S, wp_mono (wp_bind.mp w) (fun t k v G' H' e S' => by
    obtain ⟨f, ⟨_, v', ev, r⟩, _⟩ := S'.head1
    cases ev
    have ez := Rp.unbl r
    subst ez
    obtain ⟨c, d⟩ := t
    refine ⟨c, rfl, ?_⟩
    cases c with
    | true => exact ⟨d, G', S'.pop1, wp_mono k (fun y k2 v G2 H2 e2 S2 => k2 v G2 H2 (e.trans e2) S2) fun _ _ z => z⟩
    | false => exact k _ G' H' e ((by rw [ho]; exact S'.pop1 : Sat J (out (g d)) G' σ H').push .bl)) fun _ _ z => z⟩⟩
theorem EM.or {m1 : R (Bool × S1)} {out1 : S1 → List Sl} {m2 : S1 → R (Bool × S)} {out : S → List Sl} (ha : EM J Γx Γ a m1 (fun b => .va (enc b.1)) (fun b => out1 b.2)) (hb : ∀ d, EM J Γx (out1 d) (.BoolOp .Or (b :: bs) pos) (m2 d) (fun b => .va (enc b.1)) (fun b => out b.2)) (g : S1 → S) (ho : ∀ d, out (g d) = out1 d := by intro _; rfl) :
    EM J Γx Γ (.BoolOp .Or (a :: b :: bs) pos) (m1.bind fun t => if t.1 = true then .ok (true, g t.2) else m2 t.2) (fun b => .va (enc b.1)) (fun b => out b.2) := by
  have hb' : PE J.X (.BoolOp .Or (b :: bs) pos) (fun σ H Q => ∃ d, tM J Γx (out1 d) (m2 d) (fun b => .va (enc b.1)) (fun b => out b.2) σ H Q) := ⟨fun pins s σ H Q I ⟨d, q⟩ => (hb d).pe.run pins s σ H Q I q⟩
  exact ⟨pe_wk (pe_or ha.pe hb') fun σ H Q ⟨G, S, w⟩ => ⟨G, S, wp_mono (wp_bind.mp w) (fun t k v G' H' e S' => by
    obtain ⟨f, ⟨_, v', ev, r⟩, _⟩ := S'.head1
    cases ev
    have ez := Rp.unbl r
    subst ez
    obtain ⟨c, d⟩ := t
    refine ⟨c, rfl, ?_⟩
    cases c with
    | false => exact ⟨d, G', S'.pop1, wp_mono k (fun y k2 v G2 H2 e2 S2 => k2 v G2 H2 (e.trans e2) S2) fun _ _ z => z⟩
    | true => exact k _ G' H' e ((by rw [ho]; exact S'.pop1 : Sat J (out (g d)) G' σ H').push .bl)) fun _ _ z => z⟩⟩
theorem EM.not {m : R (Bool × S)} {out : S → List Sl} (h : EM J Γx Γ a m (fun b => .va (enc b.1)) (fun b => out b.2)) : EM J Γx Γ (.UnaryOp .Not a pos) (m.bind fun t => .ok (!t.1, t.2)) (fun b => .va (enc b.1)) (fun b => out b.2) :=
  ⟨pe_wk (pe_not h.pe) fun σ H Q ⟨G, S, w⟩ => ⟨G, S, wp_mono (wp_bind.mp w) (fun t k v G' H' g S' => by
    obtain ⟨f, ⟨_, v', ev, r⟩, _⟩ := S'.head1
    cases ev
    have ez := Rp.unbl r
    subst ez
    exact ⟨t.1, rfl, k _ G' H' g (S'.pop1.push .bl)⟩) fun _ _ z => z⟩⟩
theorem EM.isB {m : R (Bool × S)} {out : S → List Sl} {jj : Nat} {v : Bool} (h : EM J Γx Γ a m (fun b => .va (enc b.1)) (fun b => out b.2)) : EM J Γx Γ (.Compare a [.Is] [.Constant (.bool v) jj p] pos) (m.bind fun b => .ok (decide (b.1 = v), b.2)) (fun b => .va (enc b.1)) (fun b => out b.2) :=
  ⟨pe_wk (pe_cmpR op_isBl h.pe pe_bl (nomark _)) fun σ H Q ⟨G, S, w⟩ => ⟨G, S, wp_mono (wp_bind.mp w) (fun b k u G' H' g S' => by
    obtain ⟨f, ⟨_, v', ev, r⟩, _⟩ := S'.head1
    cases ev
    have e := Rp.unbl r
    subst e
    exact ⟨b.1, v, rfl, rfl, k _ G' H' g (S'.pop1.push .bl)⟩) fun _ _ z => z⟩⟩
theorem EM.notB {m : R (Bool × S)} {out : S → List Sl} {jj : Nat} {v : Bool} (h : EM J Γx Γ a m (fun b => .va (enc b.1)) (fun b => out b.2)) : EM J Γx Γ (.Compare a [.IsNot] [.Constant (.bool v) jj p] pos) (m.bind fun b => .ok (!decide (b.1 = v), b.2)) (fun b => .va (enc b.1)) (fun b => out b.2) :=
  ⟨pe_wk (pe_cmpR op_notBl h.pe pe_bl (nomark _)) fun σ H Q ⟨G, S, w⟩ => ⟨G, S, wp_mono (wp_bind.mp w) (fun b k u G' H' g S' => by
    obtain ⟨f, ⟨_, v', ev, r⟩, _⟩ := S'.head1
    cases ev
    have e := Rp.unbl r
    subst e
    exact ⟨b.1, v, rfl, rfl, k _ G' H' g (S'.pop1.push .bl)⟩) fun _ _ z => z⟩⟩
/-- e == b of ints, e that changes slots -/
theorem EM.eqI {m : R (Int × S)} {out : S → List Sl} {m2 : S → R Int} (hu : J.X.A.units + 64 < cLine) (ha : EM J Γx Γ a m (fun b => .va (enc b.1)) (fun b => out b.2)) (hb : ∀ t, ES J (out t) b (m2 t)) (w : ∀ t, Wk (out t) Γx) :
    EM J Γx Γ (.Compare a [.Eq] [b] pos) (m.bind fun t => (m2 t.2).bind fun y => .ok (decide (t.1 = y), t.2)) (fun b => .va (enc b.1)) (fun b => out b.2) := by
  have hb' : PE J.X b (fun σ H Q => ∃ t, tS J (out t) (m2 t) σ H Q) := ⟨fun pins s σ H Q I ⟨t, q⟩ => (hb t).pe.run pins s σ H Q I q⟩
  exact ⟨pe_wk (pe_cmpR (op_eqD hu) ha.pe hb' (nomark _)) fun σ H Q ⟨G, S, q⟩ => ⟨G, S, wp_mono (wp_bind.mp q) (fun t k u G' H' g S' => by
    obtain ⟨f, ⟨_, v', ev, r⟩, _⟩ := S'.head1
    cases ev
    have e := Rp.unint r
    subst e
    refine ⟨t.2, G', S'.pop1, wp_mono (wp_bind.mp k) (fun y k2 v G2 H2 g2 r2 => ?_) fun n a z => z.wk (w t.2)⟩
    have e := Rp.unint r2
    subst e
    refine ⟨enc t.1, enc y, (Rp.int (i := t.1)).dp, (Rp.int (i := y)).dp, shaped_of (x := t.1) (by decide) (K := J.K) (H := H2) .int, shaped_of (x := y) (by decide) (K := J.K) (H := H2) .int, ?_⟩
    rw [EncEq.eqv]
    exact k2 _ G2 H2 (g.trans g2.gg) ((S'.pop1.gr g2).push .bl)) fun _ _ z => z⟩⟩
/-- return e, where e changes slots, out of a def that hands back a value -/
theorem BD.retES {out : β → Fl} {m : R γ} {rv : γ → α} {out1 : γ → List Sl} (h : EM J Γx Γ e m (fun b => .va (enc (rv b))) out1) (hp : PeOk J Γx) (jj : γ → β) (hj : ∀ t, out (jj t) = .rt (enc (rv t)) := by intro _; rfl) : BD J Γ [.Return (some e) pos] (m.bind fun a => .ok (jj a)) out :=
  ⟨pss_one (ps_wk (ps_ret h.pe) fun D σ H ⟨G, S, q⟩ => ⟨G, S, wp_mono (wp_bind.mp q) (fun a k v G' H' g S' => by
    have k' : FlP J D (out (jj a)) := k
    rw [hj] at k'
    obtain ⟨f, ⟨_, v', ev, r⟩, _⟩ := S'.head1
    cases ev
    exact k' v G' H' S'.pop1.ed r) fun n a z => erE_of hp z σ⟩)⟩
theorem BX.retES {out : β → Fl} {m : R γ} {rv : γ → α} {out1 : γ → List Sl} (h : EM J Γx Γ e m (fun b => .va (enc (rv b))) out1) (hp : PeOk J Γx) (jj : γ → β) (hj : ∀ t, out (jj t) = .rt (enc (rv t)) := by intro _; rfl) : BX J Γ [.Return (some e) pos] (m.bind fun a => .ok (jj a)) out :=
  ⟨BD.retES h hp jj hj, fun b hb => by
    obtain ⟨a, _, e⟩ := bind_eq hb
    cases e
    rw [hj]; trivial⟩
/-- {x: y, ..}: the name's own things become the dict's -/
theorem EM.dctMv {s0 : Sl} {names : List Str} {m : R τ} {sls : τ → List Sl} {jj : Nat} {q0 : Pos} (hN : J.X.N[j]? = some y) (hG : Γ[j]? = some s0) (hs0 : ∀ G H o f, SlAt J.K G H s0 o f → ∃ v, o = some v) (h : EDX J Γ pos ks es names m sls)
    (hall : (some (Expr.Constant (.str x) jj q0) :: ks).all (·.isSome) = true := by rfl) (hl : (some (Expr.Constant (.str x) jj q0) :: ks).length = (Expr.Name y p :: es).length := by rfl) (h15 : (some (Expr.Constant (.str x) jj q0) :: ks).length ≤ 15 := by exact Nat.le_of_ble_eq_true rfl) (hn : names.length ≤ 14 := by exact Nat.le_of_ble_eq_true rfl) (nd : (x :: names).Nodup := by decide +kernel)
    (hv : Vis J.X.env.scope y := by first | exact Or.inl rfl | exact Or.inr (Or.inl rfl) | exact Or.inr (Or.inr rfl)) (hd : (y == ("__debug__" : Str)) = false := by decide) (hcd : (y == ("__classdict__" : Str)) = false := by decide) :
    EM J Γ Γ (.Dict (some (.Constant (.str x) jj q0) :: ks) (.Name y p :: es) pos) m (fun t => .rc none .dct ((x, s0) :: names.zip (sls t))) (fun _ => Γ.set j .no) := by
  obtain ⟨trs, h1, h2⟩ := h.ex
  refine ⟨pe_wk (pe_disp (pps_cons pe_str (pe_var hN hv hd hcd) h1) hall hl (by simp) h15) fun σ H Q ⟨G, S, w⟩ => fun p np => ?_⟩
  have g0 := Gr.loose (o := .dK []) S.gh np
  have gp : G p = none := ex_none S.gh np
  obtain ⟨o, f0, e1, a0, nd0, h0, mu⟩ := S.mu hG
  obtain ⟨v0, rfl⟩ := hs0 G H o f0 a0
  have there0 := a0.there
  refine ⟨v0, e1, h2 _ _ _ ⟨G, S.gr g0, wp_mono w (fun t k vs fps G' H' g hlen s ndf nf => ?_) fun _ _ z => z⟩⟩
  have gt := g0.trans g
  have hp' : H' p = some (.dK []) := g.hh _ _ upd_same
  have gp' : G' p = none := gn_keep g gp ⟨_, upd_same⟩
  have hz : (names.zip vs).length ≤ 14 := by rw [List.length_zip]; omega
  have hpf : p ∉ fps.flatten := fun z => by
    have := (nf p z).1
    rw [upd_same] at this; cases this
  have hp0 : p ∉ f0 := fun z => by
    obtain ⟨u, hu⟩ := there0 p z
    rw [np] at hu; cases hu
  have hff : ∀ q ∈ fps.flatten, q ∉ f0 := fun q hq z => by
    obtain ⟨u, hu⟩ := there0 q z
    have h3 := g0.hh _ _ hu
    rw [(nf q hq).1] at h3; cases h3
  have hnm : (names.zip vs).map (·.1) = names := List.map_fst_zip (by omega)
  refine ⟨hp', (Sum.inr x, v0) :: kvS (names.zip vs), ?_, by rw [List.length_cons, kvS_length]; omega, ?_⟩
  · show (V.str x, v0) :: _ = (kV (Sum.inr x), v0) :: (kvS (names.zip vs)).map _
    unfold kvS
    rw [List.map_map]
    rfl
  · have hm : mergeK [] ((Sum.inr x, v0) :: kvS (names.zip vs)) = kvS ((x, v0) :: names.zip vs) := mergeK_kvS ((x, v0) :: names.zip vs) [] (by rw [List.nil_append, List.map_cons, hnm]; exact nd)
    rw [hm]
    have m : Mu G H f0 G' (upd H' p (.dK (kvS ((x, v0) :: names.zip vs)))) := ⟨gt.gg, fun a u z => by rw [upd_ne (fun y => by rw [y, gp'] at z; cases z)]; exact gt.gh a u z, fun a u z _ => by rw [upd_ne (fun y => by rw [y, np] at z; cases z)]; exact gt.hh a u z, fun a u z => by
      by_cases ha : a = p
      · subst ha; exact ⟨_, upd_same⟩
      · rw [upd_ne ha]; exact ⟨u, gt.hh a u z⟩, fun a u z => (gt.nw a u z).imp id .inl⟩
    refine k (.ref p) G' _ gt.gg (mu G H G' _ f0 (.rc none .dct ((x, s0) :: names.zip (sls t))) (.ref p) (p :: (f0 ++ fps.flatten)) .no [] (Gr.refl S.gh) m (fun q hq => .inl hq) ⟨recR_gd _ _ _ _, p, _, (x, v0) :: names.zip vs, f0 ++ fps.flatten, rfl, (fun _ z => nomatch z), rfl, upd_same, rfl, ?_⟩ rfl ?_ fun q hq => ?_)
    · refine .cons (a0.cg gt.gg fun q hq => ?_) ((fls_of s hlen.symm).cg (Ex.refl _) fun q hq => upd_ne (fun z => hpf (z ▸ hq) : q ≠ p))
      obtain ⟨u, hu⟩ := there0 q hq
      rw [upd_ne (fun z => hp0 (z ▸ hq) : q ≠ p), hu]
      exact gt.hh _ _ hu
    · rw [List.append_nil]
      refine List.nodup_cons.mpr ⟨fun z => (List.mem_append.mp z).elim hp0 hpf, List.nodup_append.mpr ⟨nd0, ndf, fun a ha b hb e => hff b hb (e ▸ ha)⟩⟩
    · rw [List.append_nil] at hq
      rcases List.mem_cons.mp hq with rfl | hq
      · exact ⟨gp', .inr np⟩
      · rcases List.mem_append.mp hq with z | z
        · exact ⟨gn_keep gt (h0 q z).1 (there0 q z), .inl z⟩
        · refine ⟨(nf q z).2, .inr ?_⟩
          have := (nf q z).1
          rw [upd_ne (fun y => hpf (y ▸ z) : q ≠ p)] at this
          exact this
end
/-! ### 59. makings by given arguments and defaults -/
section
variable {J : Jd} {Γ : List Sl} {a b e : Expr} {es : List Expr} {pos p : Pos} {y : Str} {k : Nat} {α β τ τ2 : Type} [Enc α] {C g : Addr} {fd : FuncData} {ps : List Str} {dvs : List V} {dss : List Value}
theorem EX.makeD {encs : τ → List D} {e2 : τ2 → List D} {f : Unit → τ2 → R β} {fs' : β → List (Str × Sl)} {m : R τ} {dd : List D} (mk : Mk J.K C g) (F : FnOk J.X.prog J.X.w J.X.K J.X.mg J.X.base (L2.CX J.X.prog J.X.w) k g fd ps (PrM J.T J.K (fun _ => []) e2 (.ins C) (fun _ : Unit => []) f (fun _ => .va .none) fs')) (hr : Room (k + 1) J.X.A) (hm : J.X.mg y = some (.ref C)) (hb : Binds J.X.K fd ps dss) (hd : Vals dvs dss) (hdd : ∀ H, RpA J.K H dvs dd) (ext : τ → τ2) (h2 : ∀ t, e2 (ext t) = encs t ++ dd)
    (ha : EA0 J Γ (e :: es) m encs) (hg : Gl J.X y := by rfl) (hdb : (y == ("__debug__" : Str)) = false := by decide) (he : starEach (e :: es) J.X.env = (false, eval e J.X.env) :: starEach es J.X.env := by rfl) (hpl : (backTo pos (starEach es J.X.env)).any (·.1) = false := by rfl) :
    EX J Γ (.Call (.Name y p) (e :: es) [] pos) (m.bind fun t => f () (ext t)) (fun b => .rc none (.ins C) (fs' b)) :=
  EX.make (encs := encs) (e2 := fun t => e2 (ext t)) (f := fun u t => f u (ext t)) (dd := dd) mk (F.imp fun vs H Q E ⟨B, z, x, vs1, vs2, q, fp, h⟩ => ⟨B, z, ext x, vs1, vs2, q, fp, h⟩) hr hm hb hd hdd h2 ha hg hdb he hpl
theorem encL_of (xs : List (Tx × Int)) : enc (xs.map Th.of) = enc xs := by
  show PyData.list _ = PyData.list _
  rw [List.map_map]
  rfl
theorem encLL_of (xs : List (List (Tx × Int))) : enc (xs.map (List.map Th.of)) = enc xs := by
  show PyData.list _ = PyData.list _
  rw [List.map_map]
  exact congrArg PyData.list (List.map_congr_left fun x _ => encL_of x)
theorem allP_list {α β : Type} [Enc α] [Enc β] {g : α → R β} (h : ∀ a y, g a = .ok y → enc y = enc a) (xs : List α) (ys : List β) (e : allP g xs = .ok ys) : enc ys = enc xs := by
  show PyData.list _ = PyData.list _
  rw [allP_enc h xs ys e]
/-- [e], e a list of its own -/
theorem EP.one [NoList α] {m : R (List α)} (h : EF J Γ e m) (hst : starEach (e :: []) J.X.env = (false, eval e J.X.env) :: starEach [] J.X.env := by rfl) : EP J Γ (.List [e] pos) (m.bind fun xs => .ok [xs]) :=
  ⟨pe_wk (pe_lst (pa_cons h.pe pa_nil hst)) fun σ H Q ⟨G, S, w⟩ => ⟨G, S, wp_mono (wp_bind.mp w) (fun xs k q ws G' H' g n n' hq ra => ⟨sz1000 (Nat.le_of_ble_eq_true rfl), fun p hp => by
    have eg := Gr.loose (o := .lst [.ref q]) g.gh hp
    have hne : q ≠ p := fun z => by rw [z, hp] at hq; cases hq
    exact k (.ref p) [p, q] G' _ (g.trans eg) (.inl ⟨p, [.ref q], [enc xs], [q], rfl, rfl, rfl, upd_same, OwnA.cons (f := [q]) (fs := []) (.inl ⟨q, ws, xs.map enc, rfl, rfl, rfl, by rw [upd_ne hne]; exact hq, ra⟩) .nil⟩) (by simp [Ne.symm hne]) (fun r hr => by
      rcases List.mem_cons.mp hr with rfl | hr
      · exact ⟨ex_none g.hh hp, ex_none g.gh hp⟩
      · rw [List.mem_singleton] at hr; subst hr; exact ⟨n, n'⟩)⟩) fun _ _ z => z⟩⟩
end
/-! ### 60. how often a sign stands in a text -/
open PySem.StrLaws in
theorem occ_go (t : Tx) (c : Nat) : ∀ (n i : Nat) (st : Array Nat × Nat), i + n ≤ t.length + 1 → st.1.size ≤ i → st.2 ≤ i →
    ((forIn (List.range' i n) st (occBody (txs t) (txs [c]) t.length (t.length + 1))).run.fst).size = st.1.size + ((t.drop i).take n).count c
  | 0, i, st, _, _, _ => by simp
  | n + 1, i, st, h1, h2, h3 => by
    rw [List.range'_succ, List.forIn_cons]
    have hs : (i + (txs [c]).length ≤ t.length ∧ Builtin.Str.subAt (txs t) (txs [c]) i = true) ↔ t[i]? = some c := by
      have := subAt_one (txs t) c i
      rw [txs_length, txs_cps] at this
      exact this
    by_cases hc : t[i]? = some c
    · obtain ⟨a1, a2⟩ := hs.mpr hc
      obtain ⟨hi, e⟩ := List.getElem?_eq_some_iff.mp hc
      have e2 : occBody (txs t) (txs [c]) t.length (t.length + 1) i st = pure (ForInStep.yield (st.1.push i, i + (txs [c]).length)) := by
        unfold occBody
        rw [if_pos ⟨⟨⟨by omega, h3⟩, a1⟩, a2⟩]
      rw [e2]
      have ih := occ_go t c n (i + 1) (st.1.push i, i + (txs [c]).length) (by omega) (by simp only [Array.size_push]; omega) (by show i + (txs [c]).length ≤ i + 1; rw [txs_length]; exact Nat.le_refl _)
      refine Eq.trans ih ?_
      rw [List.drop_eq_getElem_cons hi, List.take_succ_cons, List.count_cons, e]
      simp only [Array.size_push, beq_self_eq_true, if_true]
      omega
    · have e2 : occBody (txs t) (txs [c]) t.length (t.length + 1) i st = pure (ForInStep.yield (st.1, st.2)) := by
        unfold occBody
        rw [if_neg fun q => hc (hs.mp ⟨q.1.2, q.2⟩)]
      rw [e2]
      have ih := occ_go t c n (i + 1) (st.1, st.2) (by omega) (by show st.1.size ≤ i + 1; omega) (by show st.2 ≤ i + 1; omega)
      refine Eq.trans ih ?_
      by_cases hi : i < t.length
      · rw [List.drop_eq_getElem_cons hi, List.take_succ_cons, List.count_cons]
        have hne : ¬ t[i] = c := fun q => hc (by rw [List.getElem?_eq_getElem hi, q])
        simp [hne]
      · rw [List.drop_of_length_le (by omega), List.drop_of_length_le (by omega)]
        simp
theorem count_one (t : Tx) (c : Nat) : Txt.count (txs t) (txs [c]) = (t.count c : Int) := by
  unfold Txt.count
  rw [PySem.StrLaws.occ_eq, Array.length_toList, txs_length]
  have := occ_go t c (t.length + 1 - 0) 0 (#[], 0) (by omega) (Nat.le_refl _) (Nat.le_refl _)
  rw [this, List.drop_zero, List.take_of_length_le (by omega)]
  simp
def countTxM (t s : Tx) : R Int := match s with
  | [c] => .ok (t.count c : Int)
  | _ => .stuck
section
variable {J : Jd} {Γ : List Sl} {a b : Expr} {pos apos : Pos}
theorem ES.countTx {m1 m2 : R Tx} {call : Expr} (h1 : ES J Γ a m1) (h2 : ES J Γ b m2) (hc : ∀ te ta, PE J.X a te → PE J.X b ta → PE J.X call (tBM J.X.K "str" (fun x xs H Q => ∃ a b, x = .str a ∧ xs = [.str b] ∧ Q (.int (Txt.count a b)) H) te (tCons ta tNil))) :
    ES J Γ call (m1.bind fun t => m2.bind fun s => countTxM t s) :=
  ⟨pe_wk (hc _ _ h1.pe h2.pe) fun σ H Q ⟨G, S, w⟩ => ⟨G, S, wp_mono (wp_bind.mp w) (fun t k v G1 H1 g1 r1 => by
    obtain ⟨rfl, ok1⟩ := rp_tx r1
    refine ⟨rfl, G1, S.gr g1, wp_mono (wp_bind.mp k) (fun s k2 u G2 H2 g2 r2 => ?_) fun _ _ z => z⟩
    obtain ⟨rfl, ok2⟩ := rp_tx r2
    refine ⟨txs t, txs s, rfl, rfl, ?_⟩
    match s, k2 with
    | [c], k2 =>
      rw [count_one]
      exact k2 _ G2 H2 (g1.trans g2) .int
    | [], k2 => exact k2.elim
    | _ :: _ :: _, k2 => exact k2.elim) fun _ _ z => z⟩⟩
end
/-! ### 61. d.get(k, x) -/
def dgetD {κ β : Type} [DecidableEq κ] (d : List (κ × β)) (k : κ) (x : β) : β := (dfind d k).getD x
section
variable {J : Jd} {Γ : List Sl} {a b c e : Expr} {pos apos p p2 p3 : Pos} {x : Str} {κ β : Type} [DecidableEq κ] [Enc κ] [DKey κ] [Enc β]
theorem ES.dgetD {i : Nat} {d : List (κ × β)} {mk : R κ} {mx : R β} (hu : J.X.A.units + 1 < cLine) (h : ES J Γ b mk) (h2 : ES J Γ c mx) (hN : J.X.N[i]? = some x) (hG : Γ[i]? = some (.dk (encKV d))) (m : M2 J.X (.Name x p) "get" apos b c pos := by exact ⟨by rfl, by rfl, by rfl, by rfl⟩) (hv : Vis J.X.env.scope x := by first | exact Or.inl rfl | exact Or.inr (Or.inl rfl) | exact Or.inr (Or.inr rfl))
    (hd : (x == ("__debug__" : Str)) = false := by decide) (hcd : (x == ("__classdict__" : Str)) = false := by decide) : ES J Γ (.Call (.Attribute (.Name x p) "get" apos) [b, c] [] pos) (mk.bind fun k => mx.bind fun y => .ok (M.dgetD d k y)) :=
  ⟨pe_wk (pe_dget2 hu (pe_var hN hv hd hcd) h.pe h2.pe m) fun σ H Q ⟨G, S, w⟩ => by
    obtain ⟨l, kv, e1, hl, r, gl⟩ := S.dk hG
    refine ⟨.ref l, e1, l, rfl, .inl ⟨kv, .inl hl⟩, G, S, wp_mono (wp_bind.mp w) (fun z k y G2 H2 g2 rz => ⟨G2, S.gr g2, wp_mono (wp_bind.mp k) (fun z2 k2 y2 G3 H3 g3 rz2 => ?_) fun _ _ z => z⟩) fun _ _ z => z⟩
    have ez := DKey.rel (rz.ex g3.gg)
    subst ez
    have g := g2.trans g3
    have hl3 := g.hh _ _ hl
    rcases kva_find (k := z) (r.ex g.gg) with ⟨h1, h2⟩ | ⟨v, b, h1, h2, h3⟩
    · refine ⟨none, by rw [← h1]; exact DGet.k hl3, k2 _ G3 H3 g ?_⟩
      show Rp _ _ _ (Enc.enc (M.dgetD d z z2))
      unfold M.dgetD
      rw [h2]
      exact rz2
    · refine ⟨some v, by rw [← h1]; exact DGet.k hl3, k2 _ G3 H3 g ?_⟩
      show Rp _ _ _ (Enc.enc (M.dgetD d z z2))
      unfold M.dgetD
      rw [h2]
      exact h3⟩
end
/-! ### 62. C(.., k = v); pairs of a text and an int in order -/
section
variable {X : Cx} {CX : CXT} {k n : Nat} {f C : Addr} {fd : FuncData} {ps ks : List Str} {sp : Sp} {E : L2.St → XK} {x : Str} {p pos : Pos} {e : Expr} {es : List Expr} {kws : List Keyword} {t tk : TA} {g : List Value → List Value → List Value}
def tMakeNX (C : Addr) (n m : Nat) (sp : Sp) (E : L2.St → XK) (t tk : TA) : TE := fun σ H Q => t σ H fun vs H1 => tk σ H1 fun zs H2 => vs.length = n ∧ zs.length = m ∧
  ∀ x dx, H2 x = none → H2 dx = none → dx ≠ x → sp (.ref x :: (vs ++ zs)) (upd (upd H2 dx (.own x)) x (.ins C dx [])) (fun v H3 => v = .non ∧ Q (.ref x) H3) (E σ)
theorem run_makeNX {pins : List (Addr × Obj)} {σ : L2.St} {H : Hp} {s : Shared} {Q : VK} {us ws : List Value} {vs zs : List V} (mk : Mk X.K C f) (F : FnOk X.prog X.w X.K X.mg X.base CX k f fd ps sp) (hr : Room (k + 1) X.A) (hb : KBn X.K fd ps (n + 1) ks g (fun vs zs => vs ++ zs))
    (hx : PassesAt CX X σ (E σ)) (I : Inv X pins σ H s) (r : Vals vs us) (rz : Vals zs ws) (l1 : vs.length = n) (l2 : zs.length = ks.length)
    (h : ∀ x dx, H x = none → H dx = none → dx ≠ x → sp (.ref x :: (vs ++ zs)) (upd (upd H dx (.own x)) x (.ins C dx [])) (fun v H2 => v = .non ∧ Q (.ref x) H2) (E σ)) :
    wpAny (model X.prog X.w) X.A (call (.ref C) us (ks.zip ws)) (L2.EP X pins σ Q) X.xe s := by
  have hq := h (s.heap.objs.size + 1) s.heap.objs.size (I.hok.fresh (Nat.le_succ _)) (I.hok.fresh (Nat.le_refl _)) (Nat.ne_of_lt (Nat.lt_succ_self _))
  have I2 := Inv.made (C := C) I
  have r1 : Vals (V.ref (s.heap.objs.size + 1) :: vs) (Value.ref (s.heap.objs.size + 1) :: us) := .cons rfl r
  have r2 := hb.rel r1 rz
  have e1 : (Value.ref (s.heap.objs.size + 1) :: us).length = n + 1 := r1.length.symm.trans (congrArg Nat.succ l1)
  have e2 : ws.length = ks.length := rz.length.symm.trans l2
  refine wpAny_call (make_map (f := f) I.kIn mk.makes mk.init (beq_iff_eq.mp mk.fn) (codeAny_mono (F.run _ X.stack _ _ ⟨Value.ref (s.heap.objs.size + 1) :: us, ks.zip ws⟩ (g (Value.ref (s.heap.objs.size + 1) :: us) ws) _ _ (E σ) (hr.make C us (ks.zip ws))
    (I2.env0.make C us (ks.zip ws)) (hb.to _ (Value.ref (s.heap.objs.size + 1) :: us) ws I2.kIn e1 e2) r2 hq) fun r s' hq' => ?_))
  cases r with
  | error e => exact hx pins _ _ e s' I2 hq'
  | ok fl =>
    cases fl with
    | ret u =>
      obtain ⟨v, H', I3, rv, ev, q3⟩ := I2.after hq'
      subst ev
      exact ⟨rv, ⟨V.ref (s.heap.objs.size + 1), H', I3, rfl, q3⟩⟩
    | next => exact False.elim hq'
    | brk => exact False.elim hq'
    | cont => exact False.elim hq'
theorem pe_makeNX (mk : Mk X.K C f) (F : FnOk X.prog X.w X.K X.mg X.base CX k f fd ps sp) (hr : Room (k + 1) X.A) (hg : Gl X x) (hm : X.mg x = some (.ref C)) (hb : KBn X.K fd ps (n + 1) ks g (fun vs zs => vs ++ zs)) (hx : ∀ σ, PassesAt CX X σ (E σ))
    (ha : PA X (e :: es) t) (hkw : PK X kws tk) (hall : (backToKw pos (keywordEach kws X.env)).all (·.1.isSome) = true := by rfl) (hks : (backToKw pos (keywordEach kws X.env)).filterMap (·.1) = ks := by rfl)
    (hdb : (x == ("__debug__" : Str)) = false := by decide) (he : starEach (e :: es) X.env = (false, eval e X.env) :: starEach es X.env := by rfl)
    (hpl : ((backTo pos (starEach (e :: es) X.env)).any (·.1) || (backToKw pos (keywordEach kws X.env)).any (·.1.isNone)) = false := by rfl) :
    PE X (.Call (.Name x p) (e :: es) kws pos) (tMakeNX C n ks.length sp E t tk) := by
  refine ⟨fun pins s σ H Q I h => ?_⟩
  refine wpAny_Call_Name_kw (ld_glob I hg hm ?_ hdb)
  refine PySem.W.callWith_KW (h₀ := X.base) I.ok.mod.kin mk.kp hall (thn (ha.run pos pins s σ H _ I h) fun us s1 ⟨vs, H1, I1, r, q⟩ => ?_) hpl he
  refine thn (hkw.run pos pins s1 σ H1 _ I1 q) fun ws s2 ⟨zs, H2, I2, rz, l1, l2, q2⟩ => ⟨I2.kIn, ?_⟩
  rw [hks]
  exact run_makeNX mk F hr hb (hx σ) I2 r rz l1 l2 q2
end
section
variable {J : Jd} {Γ : List Sl} {a b e ek : Expr} {es : List Expr} {pos p kpos : Pos} {y kn : Str} {k : Nat} {β γ τ τ2 : Type} [Enc γ] {C g : Addr} {fd : FuncData} {ps : List Str}
/-- C(.., kn = ek) -/
theorem EX.makeK {encs : τ → List D} {e2 : τ2 → List D} {f : Unit → τ2 → R β} {fs' : β → List (Str × Sl)} {m : R τ} {mk2 : R γ} (mk : Mk J.K C g) (F : FnOk J.X.prog J.X.w J.X.K J.X.mg J.X.base (L2.CX J.X.prog J.X.w) k g fd ps (PrM J.T J.K (fun _ => []) e2 (.ins C) (fun _ : Unit => []) f (fun _ => .va .none) fs')) (hr : Room (k + 1) J.X.A) (hm : J.X.mg y = some (.ref C)) (hb : ∃ gg, KBn J.X.K fd ps ((e :: es).length + 1) [kn] gg (fun vs zs => vs ++ zs)) (ext : τ → γ → τ2) (h2 : ∀ t v, e2 (ext t v) = encs t ++ [enc v])
    (ha : EA0 J Γ (e :: es) m encs) (hk : ES J Γ ek mk2) (hg : Gl J.X y := by rfl) (hdb : (y == ("__debug__" : Str)) = false := by decide) (hall : (backToKw pos (keywordEach [⟨some kn, ek, kpos⟩] J.X.env)).all (·.1.isSome) = true := by rfl) (hks : (backToKw pos (keywordEach [⟨some kn, ek, kpos⟩] J.X.env)).filterMap (·.1) = [kn] := by rfl)
    (he : starEach (e :: es) J.X.env = (false, eval e J.X.env) :: starEach es J.X.env := by rfl) (hpl : ((backTo pos (starEach (e :: es) J.X.env)).any (·.1) || (backToKw pos (keywordEach [⟨some kn, ek, kpos⟩] J.X.env)).any (·.1.isNone)) = false := by rfl) :
    EX J Γ (.Call (.Name y p) (e :: es) [⟨some kn, ek, kpos⟩] pos) (m.bind fun t => mk2.bind fun v => f () (ext t v)) (fun b => .rc none (.ins C) (fs' b)) := by
  obtain ⟨gg, hb⟩ := hb
  exact ⟨pe_wk (pe_makeNX mk F hr hg hm hb (passAt J.tk) ha.pa (pk_cons hk.pe pk_nil) hall hks hdb he hpl) fun σ H Q ⟨G, S, w⟩ => ⟨G, S, wp_mono (wp_bind.mp w) (fun t kq vs G1 H1 g1 r1 => ⟨G1, S.gr g1, wp_mono (wp_bind.mp kq) (fun v kq2 u G2 H2 g2 r2 => by
    refine ⟨by rw [r1.length, ha.len], rfl, ?_⟩
    intro q dx nq ndx ne
    have g12 := g1.trans g2
    have hq0 : upd H2 dx (.own q) q = none := by rw [upd_ne (Ne.symm ne)]; exact nq
    have ga := Gr.loose (o := .own q) g2.gh ndx
    have gb := Gr.loose (o := .ins C dx []) ga.gh hq0
    have gt := (g12.trans ga).trans gb
    have n0 : ∀ r ∈ [q], H r = none := fun r hr => by rw [List.mem_singleton] at hr; subst hr; exact ex_none g12.hh nq
    refine ⟨G2, (), ext t v, [], vs ++ [u], q, [q], rfl, gb.gh, .nil, by rw [h2]; exact (r1.ex g2.gg).append (.cons r2 .nil), ⟨q, _, [], [], rfl, (fun _ z => nomatch z), rfl, upd_same, ⟨dx, rfl⟩, .nil⟩, by simp, fun r hr => by rw [List.mem_singleton] at hr; subst hr; exact ex_none g2.gh nq, wp_mono kq2 (fun b k2 v' G' H' fr fa m as aa nd hn => ?_) fun n' a z G' H' cls d m ok => z G' H' cls d (S.gr (gt.mu m n0)) ok⟩
    obtain ⟨efr, v'', ev, rv⟩ := as
    cases ev
    refine ⟨Rp.unnon rv, ?_⟩
    have nd2 := (List.nodup_append.mp nd).2.1
    refine k2 (.ref q) fa G' H' (gt.mu m n0) nd2 (fun r hr => ⟨?_, (hn r (List.mem_append_right _ hr)).1⟩) ⟨recR_gd _ _ _ _, aa⟩
    rcases (hn r (List.mem_append_right _ hr)).2 with z | z
    · exact n0 r z
    · exact ex_none gt.hh z) fun n' a z => (fun G' H' cls d S' ok => z G' H' cls d S' ok)⟩) fun _ _ z => z⟩⟩
end
/-! #### pairs of a text and an int -/
def leTI (p q : Tx × Int) : Bool := !(if q.1 = p.1 then decide (q.2 < p.2) else decide (q.1 < p.1))
theorem dataLe_ti : PySem.W.dataLe false (enc : Tx × Int → D) = leTI := by
  rw [PySem.W.dataLe_eq]
  funext p q
  show (!PySem.W.dataLt (.tuple [.str (txs q.1), .int q.2]) (.tuple [.str (txs p.1), .int p.2])) = _
  rw [PySem.W.dataLt_pair (by simp [PySem.W.alike]) (by simp [PySem.W.alike])]
  have e1 : PyData.eqv (.str (txs q.1)) (.str (txs p.1)) = decide (q.1 = p.1) := EncEq.eqv (α := Tx) q.1 p.1
  have e2 : PyData.eqv (.int q.2) (.int p.2) = decide (q.2 = p.2) := EncEq.eqv (α := Int) q.2 p.2
  rw [e1, e2, PySem.W.dataLt_str, PySem.W.dataLt_int, txs_cps, txs_cps]
  unfold leTI
  by_cases h : q.1 = p.1
  · simp only [h, decide_true, if_true]
    by_cases h2 : q.2 = p.2
    · simp [h2]
    · simp [h2]
  · simp only [h, decide_false, Bool.false_eq_true, if_false]
instance : EncSort (Tx × Int) := ⟨fun a b => by show PySem.W.alike (.tuple [.str (txs a.1), .int a.2]) (.tuple [.str (txs b.1), .int b.2]) = true; simp [PySem.W.alike, PySem.W.alikeAll], .inl fun a => ⟨_, _, rfl⟩, leTI, dataLe_ti⟩
theorem leTI_iff {p q : Tx × Int} : leTI p q = true ↔ (q.1 = p.1 ∧ p.2 ≤ q.2) ∨ (q.1 ≠ p.1 ∧ p.1 ≤ q.1) := by
  unfold leTI
  by_cases h : q.1 = p.1
  · simp only [h, if_true, Bool.not_eq_true', decide_eq_false_iff_not]
    constructor
    · intro h2; exact .inl ⟨trivial, by omega⟩
    · rintro (⟨_, h2⟩ | ⟨h2, _⟩)
      · omega
      · exact absurd rfl h2
  · simp only [h, if_false, Bool.not_eq_true', decide_eq_false_iff_not]
    constructor
    · intro h2; exact .inr ⟨h, h2⟩
    · rintro (⟨h2, _⟩ | ⟨_, h2⟩)
      · exact h2.elim
      · exact h2
theorem leTI_trans (a b c : Tx × Int) (h1 : leTI a b = true) (h2 : leTI b c = true) : leTI a c = true := by
  rw [leTI_iff] at *
  rcases h1 with ⟨e1, h1⟩ | ⟨n1, h1⟩
  · rcases h2 with ⟨e2, h2⟩ | ⟨n2, h2⟩
    · exact .inl ⟨e2.trans e1, by omega⟩
    · exact .inr ⟨by rw [← e1]; exact n2, by rw [← e1]; exact h2⟩
  · rcases h2 with ⟨e2, h2⟩ | ⟨n2, h2⟩
    · exact .inr ⟨by rw [e2]; exact n1, by rw [e2]; exact h1⟩
    · refine .inr ⟨fun e => ?_, List.le_trans h1 h2⟩
      rw [e] at h2
      exact n1 (List.le_antisymm h2 h1)
theorem leTI_total (a b : Tx × Int) : (leTI a b || leTI b a) = true := by
  rw [Bool.or_eq_true, leTI_iff, leTI_iff]
  by_cases e : b.1 = a.1
  · by_cases h : a.2 ≤ b.2
    · exact .inl (.inl ⟨e, h⟩)
    · exact .inr (.inl ⟨e.symm, by omega⟩)
  · rcases List.le_total a.1 b.1 with h | h
    · exact .inl (.inr ⟨e, h⟩)
    · exact .inr (.inr ⟨fun q => e q.symm, h⟩)
theorem leTI_anti (a b : Tx × Int) (h1 : leTI a b = true) (h2 : leTI b a = true) : a = b := by
  rw [leTI_iff] at h1 h2
  rcases h1 with ⟨e1, h1⟩ | ⟨n1, h1⟩
  · rcases h2 with ⟨e2, h2⟩ | ⟨n2, h2⟩
    · exact Prod.ext e2 (by omega)
    · exact absurd e1.symm n2
  · rcases h2 with ⟨e2, h2⟩ | ⟨n2, h2⟩
    · exact absurd e2.symm n1
    · exact absurd (List.le_antisymm h2 h1) n1
/-- alike but for their order: sorted they are the same -/
theorem upTI_perm {xs ys : List (Tx × Int)} (h : xs.Perm ys) : upD xs = upD ys :=
  List.Perm.eq_of_pairwise (le := fun a b => leTI a b = true) (fun a b _ _ => leTI_anti a b) (List.pairwise_mergeSort leTI_trans leTI_total xs) (List.pairwise_mergeSort leTI_trans leTI_total ys) ((upD_perm.trans h).trans upD_perm.symm)
/-! ### 63. longer lists of several kinds -/
structure W5 (α β γ δ ε : Type) where
  a : α
  b : β
  c : γ
  d : δ
  e : ε
  deriving DecidableEq
section
variable {α β γ δ ε : Type} [Enc α] [Enc β] [Enc γ] [Enc δ] [Enc ε]
instance : Enc (W5 α β γ δ ε) := ⟨fun p => .list [enc p.1, enc p.2, enc p.3, enc p.4, enc p.5]⟩
instance [EncDep α] [EncDep β] [EncDep γ] [EncDep δ] : EncDep (W4 α β γ δ) := ⟨dep α + dep β + dep γ + dep δ + 1, fun p => depth_lst (n := dep α + dep β + dep γ + dep δ) fun d hd => by
  have h1 := hdep p.1; have h2 := hdep p.2; have h3 := hdep p.3; have h4 := hdep p.4
  simp only [List.mem_cons, List.not_mem_nil, or_false] at hd
  rcases hd with rfl | rfl | rfl | rfl <;> omega⟩
instance [EncDep α] [EncDep β] [EncDep γ] [EncDep δ] [EncDep ε] : EncDep (W5 α β γ δ ε) := ⟨dep α + dep β + dep γ + dep δ + dep ε + 1, fun p => depth_lst (n := dep α + dep β + dep γ + dep δ + dep ε) fun d hd => by
  have h1 := hdep p.1; have h2 := hdep p.2; have h3 := hdep p.3; have h4 := hdep p.4; have h5 := hdep p.5
  simp only [List.mem_cons, List.not_mem_nil, or_false] at hd
  rcases hd with rfl | rfl | rfl | rfl | rfl <;> omega⟩
instance : EncNN (W4 α β γ δ) := ⟨fun _ => ⟨rfl, rfl⟩⟩
instance : EncNN (W5 α β γ δ ε) := ⟨fun _ => ⟨rfl, rfl⟩⟩
instance [DecidableEq α] [DecidableEq β] [DecidableEq γ] [DecidableEq δ] [EncEq α] [EncEq β] [EncEq γ] [EncEq δ] : EncEq (W4 α β γ δ) := ⟨fun a b => by
  cases a; cases b
  show PyData.eqv (.list [_, _, _, _]) (.list [_, _, _, _]) = _
  simp [PyData.eqv, PyData.eqvAll, EncEq.eqv]⟩
instance [DecidableEq α] [DecidableEq β] [DecidableEq γ] [DecidableEq δ] [DecidableEq ε] [EncEq α] [EncEq β] [EncEq γ] [EncEq δ] [EncEq ε] : EncEq (W5 α β γ δ ε) := ⟨fun a b => by
  cases a; cases b
  show PyData.eqv (.list [_, _, _, _, _]) (.list [_, _, _, _, _]) = _
  simp [PyData.eqv, PyData.eqvAll, EncEq.eqv]⟩
end
/-! ### 64. a list of lists that is a part, walked while it stands -/
section
variable {J : Jd} {Γ : List Sl} {i j jn k : Nat} {op : Option Addr} {rk : RK} {fs : List (Str × Sl)} {e : Expr} {body : List Stmt} {f x y : Str} {pos pos2 p p2 tp : Pos} {α σ : Type} [Enc α]
/-- .. the list itself and its items known -/
def dpVs (p : Addr) (vs : List V) (ds : List D) (K : PySem.W.Frag) (G H : Hp) (o : Option V) (f : List Addr) : Prop := ∃ fs, dpW p vs fs ds K G H o f
theorem dpVs_gd (p : Addr) (vs : List V) (ds : List D) (K : PySem.W.Frag) : Gd (dpVs p vs ds K) := ⟨fun g h ⟨fs, w⟩ => ⟨fs, (dpW_gd p vs fs ds K).1 g h w⟩, fun ⟨fs, w⟩ => (dpW_gd p vs fs ds K).2 w⟩
theorem EL.aliasW {xss : List (List α)} {xs : List α} {pl q : Addr} {vs : List V} {n : Nat} (k : Nat) (hN : J.X.N[j]? = some y) (hj : Γ[j]? = some (.rw (.ref q))) (hG : Γ[i]? = some (.rc op rk fs)) (hij : i ≠ j) (hf : fs[k]? = some (f, .gn (dpVs pl vs (xss.map enc)))) (hq : vs[n]? = some (.ref q)) (hx : xss[n]? = some xs)
    (hv : Vis J.X.env.scope y := by first | exact Or.inl rfl | exact Or.inr (Or.inl rfl) | exact Or.inr (Or.inr rfl))
    (hd : (y == ("__debug__" : Str)) = false := by decide) (hcd : (y == ("__classdict__" : Str)) = false := by decide) : EL J Γ (.Name y p) (.ok xs) :=
  ⟨pe_wk (EL.alias (α := α) (Γ := Γ.set i (.rc op rk (fs.set k (f, .gn (dpQ q n (xss.map enc)))))) k hN (by rw [List.getElem?_set_ne hij]; exact hj) (List.getElem?_set_self (List.getElem?_eq_some_iff.mp hG).1) (List.getElem?_set_self (List.getElem?_eq_some_iff.mp hf).1) hx hv hd hcd).pe fun σ H Q ⟨G, S, w⟩ =>
    ⟨G, S.fconv hG hf fun _ _ _ v fp _ _ _ _ ⟨_, fz, e1, e2, h1, h2⟩ => by
      cases e1
      exact ⟨dpQ_gd _ _ _ _, pl, vs, fz, rfl, e2, h1, h2, hq⟩, w⟩⟩
theorem BS.forLive {xss : List (List α)} {es : List Expr} {kk : Nat} {h : σ → Int × List α → R σ} (r : RdF J e i rk f) (hG : Γ[i]? = some (.rc op rk fs)) (hf : fs[k]? = some (f, .dp (enc xss))) (nd : (fs.map (·.1)).Nodup)
    (hg : PG J.X (.Tuple es kk tp) (gTup J.K 2 (gCons (gName jn) (gCons (gName j) gNil)))) (Gw : Addr → List V → σ → List Sl) (Gf : σ → List Sl) (s0 : σ)
    (hw : ∀ pl vs, Wk (Γ.set i (.rc op rk (fs.set k (f, .gn (dpVs pl vs (xss.map enc)))))) (Gw pl vs s0))
    (hGw : ∀ pl vs s, (Gw pl vs s)[i]? = some (.rc op rk (fs.set k (f, .gn (dpVs pl vs (xss.map enc))))))
    (hGf : ∀ pl vs s, (Gw pl vs s).set i (.rc op rk fs) = Gf s)
    (hb : ∀ (F : Hp) (pl : Addr) (vs : List V) (s : σ) (n : Nat) (q : Addr) (x : Int × List α), vs[n]? = some (.ref q) → xss[n]? = some x.2 → BD (J.fl F) (((Gw pl vs s).set jn (.va (enc x.1))).set j (.rw (.ref q))) body (h s x) (fun s' => .nx (Gw pl vs s')))
    (hm : J.X.mg "enumerate" = none) (hgl : Gl J.X "enumerate" := by rfl) (he : starEach [e] J.X.env = (false, eval e J.X.env) :: starEach [] J.X.env := by rfl)
    (hc : J.X.calm = true := by rfl) (hs : ∀ x, foldedSetIterable (.Call (.Name "enumerate" p) [e] [] pos) J.X.env x = pure x := by intro _; rfl) :
    BS J Γ (.For (.Tuple es kk tp) (.Call (.Name "enumerate" p) [e] [] pos) body [] pos2) (loopF h (enumL xss) s0) (fun s => .nx (Gf s)) := by
  have hb' : PSs J.X body (fun D σ' H => ∃ (F : Hp) (pl : Addr) (vs : List V) (s : σ) (n : Nat) (q : Addr) (xs : List α), vs[n]? = some (.ref q) ∧ xss[n]? = some xs ∧ tBD (J.fl F) (((Gw pl vs s).set jn (.va (enc (n : Int)))).set j (.rw (.ref q))) (h s ((n : Int), xs)) (fun s' => .nx (Gw pl vs s')) D σ' H) := ⟨fun pins s σ H D I ⟨F, pl, vs, s', n, q, xs, h1, h2, w⟩ => (hb F pl vs s' n q (n, xs) h1 h2).ps.run pins s σ H D I w⟩
  have hk : k < fs.length := (List.getElem?_eq_some_iff.mp hf).1
  have hfs : fs.set k (f, .dp (enc xss)) = fs := by
    obtain ⟨hi, hv⟩ := List.getElem?_eq_some_iff.mp hf
    rw [← hv]; exact List.set_getElem_self hi
  refine ⟨ps_wk (ps_for J.po hc (pi_enum hgl hm (pa_cons r.pe pa_nil he) he) hg hb' hs) fun D σ' H ⟨G, S, q⟩ => ?_⟩
  obtain ⟨p', u, vs, gg, e1, hop, h1, h2, h3, nd0, -, -⟩ := S.recO hG
  have hn := h3.names
  obtain ⟨v0, g1, f0, g2, e4, e5, ⟨_, v1, ev, ow⟩, -⟩ := h3.at hf
  cases ev
  obtain ⟨l, lv, lf, rfl, rfl, hl, oa⟩ := dp_list ow
  have hlen : lv.length = xss.length := by rw [oa.length, List.length_map]
  refine ⟨p', u, vs, .ref l, e1, h1, h2, lookup_at (by rw [hn]; exact nd) e4, l, lv, rfl, .inl (.inl hl), ?_⟩
  have S0 : Sat J (Γ.set i (.rc op rk (fs.set k (f, .gn (dpVs l lv (xss.map enc)))))) G σ' H := S.fconv hG hf fun pp u' vs' v fp z1 z2 z3 z4 ⟨_, v', ev, ow'⟩ => by
    rw [e1] at z1
    cases z1
    rw [h1] at z2
    cases z2
    cases rk_inj h2 z3
    rw [e4] at z4
    cases z4
    cases ev
    obtain ⟨l', lv', lf', e7, e8, hl', oa'⟩ := dp_list ow'
    cases e7
    rw [hl] at hl'
    cases hl'
    exact ⟨dpVs_gd _ _ _ _, lf', rfl, e8, hl, oa'⟩
  have part : ∀ {c : Bs} {G2 : Hp} {σ2 : L2.St} {H2 : Hp} {s : σ}, SatG J.K c (Gw l lv s) G2 σ2 H2 → H2 l = some (.lst lv) ∧ ∃ lf, OwnA J.K G2 H2 lv (xss.map enc) lf := fun {c G2 σ2 H2 s} S2 => by
    obtain ⟨p', u, vs, gg, e1, hop, h1, h2, h3, nd0, -, -⟩ := S2.recO (hGw l lv s)
    obtain ⟨v0, g1, f0, g2, e4, e5, ⟨_, lf, ev, ef, hl, ow⟩, -⟩ := h3.at (List.getElem?_set_self hk)
    exact ⟨hl, lf, ow⟩
  refine ⟨fun t m σ2 H2 => m = xss.length - t ∧ t ≤ xss.length ∧ ∃ s G2, Sat (J.fl G) (Gw l lv s) G2 σ2 H2 ∧ (loopF h ((enumL xss).drop t) s).wp (fun b => FlP J D (.nx (Gf b))) (ErB J),
    ⟨xss.length, by simp, Nat.zero_le _, s0, G, (S0.wk (hw l lv)).flo (Ex.refl _), q⟩, ?_⟩
  rintro t m σ2 H2 ⟨rfl, hi, s, G2, S2, k2⟩
  obtain ⟨hl2, lf2, oa2⟩ := part S2
  by_cases hlt : t < xss.length
  · refine .inr ⟨⟨lv, lv[t]'(by omega), .inl (.inl hl2), List.getElem?_eq_getElem (by omega)⟩, fun σ' H' => xss.length - (t + 1) = xss.length - (t + 1) ∧ t + 1 ≤ xss.length ∧ ∃ s G2, Sat (J.fl G) (Gw l lv s) G2 σ' H' ∧ (loopF h ((enumL xss).drop (t + 1)) s).wp (fun b => FlP J D (.nx (Gf b))) (ErB J),
      fun σ' H' h => ⟨xss.length - (t + 1), by omega, h⟩, fun x H' hy => ?_⟩
    obtain ⟨T, v, rfl, hT, rfl, hv⟩ := hy
    have hv := hv lv (.inl (.inl hl2))
    have hds : (xss.map enc)[t]? = some (.list ((xss[t]).map enc)) := by
      rw [List.getElem?_map, List.getElem?_eq_getElem hlt]
      rfl
    obtain ⟨q1, ws, f1, f2, v1, v2, -, -, -⟩ := oa2.at hds
    rw [hv] at v1
    cases v1
    have g := Gr.new (o := .tup [.int (t : Nat), .ref q1]) S2.gh hT
    have S3 := S2.gr g
    refine ⟨T, _, rfl, .inl (.inl upd_same), rfl, _, _, rfl, _, _, rfl, rfl, G, l, lv, s, t, q1, xss[t], hv, List.getElem?_eq_getElem hlt, _, (S3.setva (i := jn) (d := enc ((t : Nat) : Int)) .int).setrw, ?_⟩
    rw [List.drop_eq_getElem_cons (by rw [enumL_length]; exact hlt)] at k2
    have hen : (enumL xss)[t]'(by rw [enumL_length]; exact hlt) = ((t : Int), xss[t]) := by
      have := enumL_get (xs := xss) (i := t)
      rw [List.getElem?_eq_getElem hlt, List.getElem?_eq_getElem (by rw [enumL_length]; exact hlt)] at this
      exact Option.some.inj this
    rw [hen] at k2
    exact wp_mono (wp_bind.mp k2) (fun s' k3 => fun G σ H S => ⟨rfl, hlt, s', G, S, k3⟩) fun _ _ z => z
  · have ei : t = xss.length := by omega
    subst ei
    rw [List.drop_of_length_le (by rw [enumL_length]; exact Nat.le_refl _)] at k2
    have k2 : FlP J D (.nx (Gf s)) := k2
    refine .inl ⟨⟨lv, .inl (.inl hl2), by omega⟩, k2 G2 σ2 H2 ?_⟩
    have S4 := (S2.unflo S.fl).fconv (hGw l lv s) (List.getElem?_set_self hk) (s' := .dp (enc xss)) fun _ _ _ v fp _ _ _ _ ⟨_, lf, e1, e2, h1, h2⟩ => by
      cases e1
      exact ⟨dpR_gd _ _, .ref l, rfl, .inl ⟨l, lv, xss.map enc, lf, rfl, rfl, e2, h1, h2⟩⟩
    rw [List.set_set, hfs, hGf] at S4
    exact S4
end
/-! ### 65. a, b = [x, y]; a list of which some may be None -/
theorem TgS.lst {α : Type} [Enc α] {K : PySem.W.Frag} {n : Nat} {gs : TGs} {js : List Nat} {up : List Sl → List D → List Sl} (h : TgsS K gs n js up) (ds : α → List D) (he : ∀ a, enc a = .list (ds a) ∧ (ds a).length = n := by intro _; exact ⟨rfl, rfl⟩) : TgS (α := α) K (gLst K n gs) js (fun Γ a => up Γ (ds a)) :=
  ⟨fun c σ H G v a Γ Q S r k => by
    rw [(he a).1] at r
    obtain ⟨p, vs, rfl, ht, r2⟩ := r.unlst
    exact ⟨p, vs, rfl, Evl.ex_l S.gh ht, by rw [r2.length]; exact (he a).2, h.sem c σ H G vs _ Γ Q S r2 (he a).2 k⟩⟩
section
variable {J : Jd} {Γ : List Sl} {sts : List Stmt} {α β : Type} [Enc α] {out : β → Fl}
theorem set_somes {i : Nat} {xs : List α} (hG : Γ[i]? = some (.ow (xs.map enc))) : Γ.set i (.ow ((xs.map some).map (enc (α := Option α)))) = Γ := by
  rw [map_somes]
  obtain ⟨hi, hv⟩ := List.getElem?_eq_some_iff.mp hG
  rw [← hv]; exact List.set_getElem_self hi
theorem BD.somes {i : Nat} {xs : List α} {m : R β} (hG : Γ[i]? = some (.ow (xs.map enc))) (h : BD J (Γ.set i (.ow ((xs.map some).map (enc (α := Option α))))) sts m out) : BD J Γ sts m out := by
  rw [set_somes hG] at h; exact h
theorem BX.somes {i : Nat} {xs : List α} {m : R β} (hG : Γ[i]? = some (.ow (xs.map enc))) (h : BX J (Γ.set i (.ow ((xs.map some).map (enc (α := Option α))))) sts m out) : BX J Γ sts m out := by
  rw [set_somes hG] at h; exact h
end
/-! ### 66. str.startswith -/
theorem starts_eq (t s : Tx) : Txt.startswith (txs t) (txs s) = s.isPrefixOf t := by
  unfold Txt.startswith
  rw [PySem.StrLaws.subAt_eq, txs_length, txs_length, txs_cps, txs_cps, List.drop_zero, Nat.zero_add]
  rw [Bool.eq_iff_iff, Bool.and_eq_true, List.isPrefixOf_iff_prefix, decide_eq_true_iff, beq_iff_eq]
  constructor
  · rintro ⟨_, h⟩
    have e := List.take_append_drop s.length t
    rw [h] at e
    exact ⟨t.drop s.length, e⟩
  · rintro ⟨r, rfl⟩
    exact ⟨by rw [List.length_append]; omega, List.take_left⟩
section
variable {J : Jd} {Γ : List Sl} {a b : Expr}
theorem ES.startsTx {m1 m2 : R Tx} {call : Expr} (h1 : ES J Γ a m1) (h2 : ES J Γ b m2) (hc : ∀ te ta, PE J.X a te → PE J.X b ta → PE J.X call (tBM J.X.K "str" (fun x xs H Q => ∃ a b, x = .str a ∧ xs = [.str b] ∧ Q (.bl (Txt.startswith a b)) H) te (tCons ta tNil))) :
    ES J Γ call (m1.bind fun t => m2.bind fun s => .ok (List.isPrefixOf s t)) :=
  ⟨pe_wk (hc _ _ h1.pe h2.pe) fun σ H Q ⟨G, S, w⟩ => ⟨G, S, wp_mono (wp_bind.mp w) (fun t k v G1 H1 g1 r1 => by
    obtain ⟨rfl, ok1⟩ := rp_tx r1
    refine ⟨rfl, G1, S.gr g1, wp_mono (wp_bind.mp k) (fun s k2 u G2 H2 g2 r2 => ?_) fun _ _ z => z⟩
    obtain ⟨rfl, ok2⟩ := rp_tx r2
    refine ⟨txs t, txs s, rfl, rfl, ?_⟩
    rw [starts_eq]
    exact k2 _ G2 H2 (g1.trans g2) .bl) fun _ _ z => z⟩⟩
end
/-! ### 67. lists of six kinds -/
structure W6 (α β γ δ ε ζ : Type) where
  a : α
  b : β
  c : γ
  d : δ
  e : ε
  f : ζ
  deriving DecidableEq
section
variable {α β γ δ ε ζ : Type} [Enc α] [Enc β] [Enc γ] [Enc δ] [Enc ε] [Enc ζ]
instance : Enc (W6 α β γ δ ε ζ) := ⟨fun p => .list [enc p.1, enc p.2, enc p.3, enc p.4, enc p.5, enc p.6]⟩
instance [EncDep α] [EncDep β] [EncDep γ] [EncDep δ] [EncDep ε] [EncDep ζ] : EncDep (W6 α β γ δ ε ζ) := ⟨dep α + dep β + dep γ + dep δ + dep ε + dep ζ + 1, fun p => depth_lst (n := dep α + dep β + dep γ + dep δ + dep ε + dep ζ) fun d hd => by
  have h1 := hdep p.1; have h2 := hdep p.2; have h3 := hdep p.3; have h4 := hdep p.4; have h5 := hdep p.5; have h6 := hdep p.6
  simp only [List.mem_cons, List.not_mem_nil, or_false] at hd
  rcases hd with rfl | rfl | rfl | rfl | rfl | rfl <;> omega⟩
instance : EncNN (W6 α β γ δ ε ζ) := ⟨fun _ => ⟨rfl, rfl⟩⟩
instance [DecidableEq α] [DecidableEq β] [DecidableEq γ] [DecidableEq δ] [DecidableEq ε] [DecidableEq ζ] [EncEq α] [EncEq β] [EncEq γ] [EncEq δ] [EncEq ε] [EncEq ζ] : EncEq (W6 α β γ δ ε ζ) := ⟨fun a b => by
  cases a; cases b
  show PyData.eqv (.list [_, _, _, _, _, _]) (.list [_, _, _, _, _, _]) = _
  simp [PyData.eqv, PyData.eqvAll, EncEq.eqv]⟩
end
/-! ### 68. 2 * text -/
section
open PySem PySem.Spec PySem.Builtin PySem.Builtin.Str
variable {prog : Program} {w : World} {A : Around} {E : Value → Shared → Prop} {s : Shared}
theorem mulL_str {x : Str} {n : Int} {t u : Tok} {Q : Value → Shared → Prop} (hok : MulOk x n) (h : ∀ t' k, Q (.str (Txt.mul x n) t') { s with toks := k }) : wpAny (model prog w) A (binaryOp .Mult (.int n u) (.str x t)) Q E s := by
  refine lm_binaryOp_repeat_right (T := "str") (U := "int") (by decide) (fun s' => typeIs_int s' n u) (typeIs_str s x t) F.fills_int_mul noFill_str_mul F.slot_int_mul lm_noRepeat_int repeat_str F.slot_int_index.lookup
    (call_gives F.slot_int_mul (typeIs_int s n u) F.entry_int_mul (F.args_int_mul_2 _ _) (AutoIntG3.int___mul___int_str_0 n u x t)
      ⟨rfl, typeIs_str s x t, call_gives F.slot_str_mul (typeIs_str s x t) F.entry_str_mul (F.args_str_mul_2 _ _) (gives_str_mul x n t u hok.1 hok.2.1 hok.2.2) ?_⟩)
  unfold Txt.mul at h
  by_cases h1 : n < 1
  · rw [if_pos h1]; have h' := h s.toks (s.toks + 1); rw [if_pos h1] at h'; exact ⟨by decide, h'⟩
  · rw [if_neg h1]; refine post_val_or_made (fun hc => fits_reps (hok.2.2 h1 (by simpa using hc))) fun t' k => ?_
    have h' := h t' k; rw [if_neg h1] at h'; exact h'
theorem mul_two (t : Tx) : Txt.mul (txs t) 2 = txs (t ++ t) := by
  unfold Txt.mul
  rw [if_neg (by decide)]
  by_cases h : t = []
  · subst h; rfl
  · have hl : (txs t).length ≠ 0 := by rw [txs_length]; exact fun e => h (List.length_eq_zero_iff.mp e)
    rw [if_neg (by simpa using hl)]
    show (⟨(List.replicate 2 (txs t).cps).foldl (· ++ ·) #[]⟩ : Str) = _
    unfold txs
    simp [List.replicate]
end
section
variable {J : Jd} {Γ : List Sl} {a : Expr} {pos : Pos}
theorem op_twice {X : Cx} : OpR X (binaryOp .Mult) (fun x y H Q => ∃ j : Tx, x = .int 2 ∧ y = .str (txs j) ∧ j.length + j.length ≤ 16777216 ∧ Q (.str (txs (j ++ j))) H) := by
  intro pins s σ H x y v u Q I rx ry h
  obtain ⟨j, rfl, rfl, hz, q⟩ := h
  obtain ⟨t, rfl⟩ := rx
  obtain ⟨t2, rfl⟩ := ry
  refine mulL_str (mulOk_of j.length 2 (by rw [txs_length]; exact Nat.le_refl _) (by decide) (by decide) (by decide) (by omega)) fun t' k => ?_
  rw [mul_two]
  exact ⟨.str (txs (j ++ j)), H, I.tok _, ⟨_, rfl⟩, q⟩
theorem ES.twice {m1 : R Tx} {j : Nat} {p : Pos} (ha : ES J Γ a m1) : ES J Γ (.BinOp (.Constant (.int 2) j p) .Mult a pos) (m1.bind fun x => catTxM x x) :=
  ⟨pe_wk (pe_op op_twice pe_int ha.pe) fun σ H Q ⟨G, S, w⟩ => ⟨G, S, wp_mono (wp_bind.mp w) (fun x q v G1 H1 g1 r1 => by
    obtain ⟨rfl, ok1⟩ := rp_tx r1
    unfold catTxM at q
    by_cases hz : x.length + x.length ≤ 16777216
    · rw [if_pos hz] at q
      exact ⟨x, rfl, rfl, hz, q _ G1 H1 g1 (Rp.tx fun c hc => (List.mem_append.mp hc).elim (ok1 c) (ok1 c))⟩
    · rw [if_neg hz] at q; exact q.elim) fun _ _ z => z⟩⟩
end
/-! ### 69. a method of a thing just made -/
section
variable {J : Jd} {Γ : List Sl} {e : Expr} {pos apos : Pos} {mn : Str} {k : Nat} {α β γ ρ : Type} [Enc α] [Enc ρ] {C g : Addr} {fd : FuncData} {ps : List Str} {pl : Sem Bool}
theorem ES.methRX {m : R β} {f : β × Unit → R ρ} {fz : β → List (Str × Sl)} (h : EX J Γ e m (fun b => .rc none (.ins C) (fz b))) (F : FnOk J.X.prog J.X.w J.X.K J.X.mg J.X.base (L2.CX J.X.prog J.X.w) k g fd ps (PrR J.T J.K (fun t : β × Unit => [.ob (.ins C) (fz t.1)]) f)) (hr : Room k J.X.A) (c : Cls J.K C) (hm : Meth J.K C mn g) (hb : Binds J.X.K fd ps []) (hmn : ∀ z, mn ∉ (fz z).map (·.1))
    (ht : eval (.Call (.Attribute e mn apos) [] [] pos) J.X.env = (do
      let ov ← eval e J.X.env
      standAt apos.atName
      let (f, first) ← holding [ov] (getMethod ov mn pl)
      callWith pos f first (backTo pos (starEach [] J.X.env)) (backToKw pos (keywordEach [] J.X.env))) := by rfl) :
    ES J Γ (.Call (.Attribute e mn apos) [] [] pos) (m.bind fun z => f (z, ())) :=
  ⟨pe_wk (pe_methX0 h.pe c hm F hr hb .nil (passAt J.tk) ht) fun σ H Q ⟨G, S, w⟩ => ⟨G, S, wp_mono (wp_bind.mp w) (fun z kz v fp G1 H1 g1 nd n0 a => by
    obtain ⟨gd, a⟩ := a
    obtain ⟨p', u, vs, gg, e2, _, e3, h1, ⟨dx, h2⟩, h3⟩ := id a
    cases e2
    refine ⟨p', dx, vs, rfl, by rw [h1, h2], lookup_no (by rw [h3.names]; exact hmn z), ?_⟩
    exact ⟨G1, (z, ()), [fp], g1.gh, .cons ⟨gd, a⟩ .nil, wp_mono kz (fun r k2 v G' H' g' rr => k2 v G' H' (g1.trans g') rr) fun n a z => erE_gr S g1 z⟩) fun _ _ z => z⟩⟩
theorem ES.methMX {m : R β} {e2 : Unit → List D} {fs : β → List (Str × Sl)} {f : β → Unit → R γ} {rv : γ → α} {fs' : γ → List (Str × Sl)} (h : EX J Γ e m (fun b => .rc none (.ins C) (fs b))) (F : FnOk J.X.prog J.X.w J.X.K J.X.mg J.X.base (L2.CX J.X.prog J.X.w) k g fd ps (PrM J.T J.K (fun _ => []) e2 (.ins C) fs f (fun b => .va (enc (rv b))) fs')) (he2 : e2 () = []) (hr : Room k J.X.A) (c : Cls J.K C) (hm : Meth J.K C mn g) (hb : Binds J.X.K fd ps []) (hmn : ∀ z, mn ∉ (fs z).map (·.1))
    (ht : eval (.Call (.Attribute e mn apos) [] [] pos) J.X.env = (do
      let ov ← eval e J.X.env
      standAt apos.atName
      let (f, first) ← holding [ov] (getMethod ov mn pl)
      callWith pos f first (backTo pos (starEach [] J.X.env)) (backToKw pos (keywordEach [] J.X.env))) := by rfl) :
    ES J Γ (.Call (.Attribute e mn apos) [] [] pos) (m.bind fun z => (f z ()).bind fun b => .ok (rv b)) :=
  ⟨pe_wk (pe_methX0 h.pe c hm F hr hb .nil (passAt J.tk) ht) fun σ H Q ⟨G, S, w⟩ => ⟨G, S, wp_mono (wp_bind.mp w) (fun z kz v fp G1 H1 g1 nd n0 a => by
    obtain ⟨gd, a⟩ := a
    obtain ⟨p', u, vs, gg, e3, _, e4, h1, ⟨dx, h2⟩, h3⟩ := id a
    cases e3
    refine ⟨p', dx, vs, rfl, by rw [h1, h2], lookup_no (by rw [h3.names]; exact hmn z), ?_⟩
    refine ⟨G1, z, (), [], [], p', fp, rfl, g1.gh, .nil, by rw [he2]; exact .nil, a, nd, fun r hr => (n0 r hr).2, wp_mono (wp_bind.mp kz) (fun b k2 v' G' H' fr fa mm as aa nd' hn => ?_) fun n' a z G' H' cls d mm ok => z G' H' cls d (S.gr (g1.mu mm fun q hq => (n0 q hq).1)) ok⟩
    obtain ⟨_, v2, ev, rr⟩ := as
    cases ev
    exact k2 v' G' H' (g1.mu mm fun q hq => (n0 q hq).1) rr) fun _ _ z => z⟩⟩
end
/-! ### 70. [f, g][i](..) -/
section
variable {X : Cx} {CX : CXT} {k0 k1 : Nat} {f0 f1 : Addr} {fd0 fd1 : FuncData} {ps0 ps1 : List Str} {sp0 sp1 : Sp} {E : L2.St → XK} {t : TA} {tf : TE} {fe e : Expr} {es : List Expr} {pos : Pos}
theorem pe_callB (F0 : FnOk X.prog X.w X.K X.mg X.base CX k0 f0 fd0 ps0 sp0) (F1 : FnOk X.prog X.w X.K X.mg X.base CX k1 f1 fd1 ps1 sp1) (hr0 : Room k0 X.A) (hr1 : Room k1 X.A) (hk0 : PySem.W.keepIn X.K (.ref f0) = true) (hk1 : PySem.W.keepIn X.K (.ref f1) = true) (hb0 : Binds X.K fd0 ps0 []) (hb1 : Binds X.K fd1 ps1 []) (hx : ∀ σ, PassesAt CX X σ (E σ))
    (hf : PE X fe tf) (ha : PA X (e :: es) t) (he : starEach (e :: es) X.env = (false, eval e X.env) :: starEach es X.env := by rfl) (hpl : (backTo pos (starEach es X.env)).any (·.1) = false := by rfl)
    (ht : eval (.Call fe (e :: es) [] pos) X.env = (do callWith pos (← eval fe X.env) [] (backTo pos (starEach (e :: es) X.env)) (backToKw pos (keywordEach [] X.env))) := by rfl) :
    PE X (.Call fe (e :: es) [] pos) (fun σ H Q => tf σ H fun v H1 => (v = .ref f0 ∧ tCallS sp0 E t σ H1 Q) ∨ (v = .ref f1 ∧ tCallS sp1 E t σ H1 Q)) := by
  refine ⟨fun pins s σ H Q I h => ?_⟩
  refine Call_ (thn (hf.run pins s σ H _ I h) fun u s1 ⟨x, H1, I1, rx, q⟩ => ?_) ht
  rcases q with ⟨ex, q⟩ | ⟨ex, q⟩
  · subst ex
    obtain rfl : u = Value.ref f0 := rx
    exact PySem.W.callWith_K (h₀ := X.base) I.ok.mod.kin hk0 (thn (ha.run pos pins s1 σ H1 _ I1 q) fun us s2 ⟨vs, H2, I2, r, q⟩ => ⟨I2.kIn, run_fnS F0 hr0 hb0 (hx σ) I2 r q⟩) he hpl
  · subst ex
    obtain rfl : u = Value.ref f1 := rx
    exact PySem.W.callWith_K (h₀ := X.base) I.ok.mod.kin hk1 (thn (ha.run pos pins s1 σ H1 _ I1 q) fun us s2 ⟨vs, H2, I2, r, q⟩ => ⟨I2.kIn, run_fnS F1 hr1 hb1 (hx σ) I2 r q⟩) he hpl
end
section
variable {J : Jd} {Γ : List Sl} {e ix : Expr} {es : List Expr} {pos p0 p1 lp sp : Pos} {x0 x1 : Str} {k0 k1 : Nat} {τ ρ : Type} [Enc ρ] {f0 f1 : Addr} {fd0 fd1 : FuncData} {ps0 ps1 : List Str} {encs : τ → List D}
theorem EF.call2 {mi : R Int} {m : R τ} {fM0 fM1 : τ → R (List ρ)} (F0 : FnOk J.X.prog J.X.w J.X.K J.X.mg J.X.base (L2.CX J.X.prog J.X.w) k0 f0 fd0 ps0 (PrF J.T J.K encs fM0)) (F1 : FnOk J.X.prog J.X.w J.X.K J.X.mg J.X.base (L2.CX J.X.prog J.X.w) k1 f1 fd1 ps1 (PrF J.T J.K encs fM1)) (hr0 : Room k0 J.X.A) (hr1 : Room k1 J.X.A)
    (hm0 : J.X.mg x0 = some (.ref f0)) (hm1 : J.X.mg x1 = some (.ref f1)) (hk0 : PySem.W.keepIn J.X.K (.ref f0) = true) (hk1 : PySem.W.keepIn J.X.K (.ref f1) = true) (hb0 : Binds J.X.K fd0 ps0 []) (hb1 : Binds J.X.K fd1 ps1 []) (hi : ES J Γ ix mi) (ha : EA0 J Γ (e :: es) m encs)
    (hg0 : Gl J.X x0 := by rfl) (hg1 : Gl J.X x1 := by rfl) (hd0 : (x0 == ("__debug__" : Str)) = false := by decide) (hd1 : (x1 == ("__debug__" : Str)) = false := by decide) (hs : PlainIx ix := by intro _ _; rfl)
    (he0 : starEach [.Name x0 p0, .Name x1 p1] J.X.env = (false, eval (.Name x0 p0) J.X.env) :: starEach [.Name x1 p1] J.X.env := by rfl) (he1 : starEach [.Name x1 p1] J.X.env = (false, eval (.Name x1 p1) J.X.env) :: starEach [] J.X.env := by rfl)
    (he : starEach (e :: es) J.X.env = (false, eval e J.X.env) :: starEach es J.X.env := by rfl) (hpl : (backTo pos (starEach es J.X.env)).any (·.1) = false := by rfl)
    (ht : eval (.Call (.Subscript (.List [.Name x0 p0, .Name x1 p1] lp) ix sp) (e :: es) [] pos) J.X.env = (do callWith pos (← eval (.Subscript (.List [.Name x0 p0, .Name x1 p1] lp) ix sp) J.X.env) [] (backTo pos (starEach (e :: es) J.X.env)) (backToKw pos (keywordEach [] J.X.env))) := by rfl) :
    EF J Γ (.Call (.Subscript (.List [.Name x0 p0, .Name x1 p1] lp) ix sp) (e :: es) [] pos) (mi.bind fun i => if i = 0 then m.bind fM0 else if i = 1 then m.bind fM1 else .stuck) :=
  ⟨pe_wk (pe_callB F0 F1 hr0 hr1 hk0 hk1 hb0 hb1 (passAt J.tk) (pe_ix ix_list (pe_lst (pa_cons (pe_glob (v := .ref f0) hg0 hm0 rfl hd0) (pa_cons (pe_glob (v := .ref f1) hg1 hm1 rfl hd1) pa_nil he1) he0)) hi.pe hs) ha.pa he hpl ht) fun σ H Q ⟨G, S, w⟩ => by
    refine ⟨sz1000 (by show 2 ≤ 1000; decide), fun l nl => ?_⟩
    have gl := Gr.loose (o := .lst [.ref f0, .ref f1]) S.gh nl
    refine ⟨G, S.gr gl, wp_mono (wp_bind.mp w) (fun i k2 v G2 H2 g2 r2 => ?_) fun _ _ z => z⟩
    have e := Rp.unint r2
    subst e
    have hl2 : H2 l = some (.lst [.ref f0, .ref f1]) := g2.hh _ _ upd_same
    have g12 := gl.trans g2
    by_cases q0 : i = 0
    · subst q0
      rw [if_pos rfl] at k2
      refine ⟨l, _, 0, .ref f0, rfl, rfl, .inl (.inl hl2), rfl, .inl ⟨rfl, G2, S.gr g12, wp_mono (wp_bind.mp k2) (fun t q vs G1 H1 g1 r1 => ?_) fun _ _ z => z⟩⟩
      exact ⟨G1, t, g1.gh, r1, wp_mono q (fun r q2 l ls G' H' g' n1 n2 hp rr => q2 l ls G' H' (g12.trans (g1.trans g')) (ex_none (g12.trans g1).hh n1) n2 hp rr) fun n a z => erE_gr S (g12.trans g1) z⟩
    · rw [if_neg q0] at k2
      by_cases q1 : i = 1
      · subst q1
        rw [if_pos rfl] at k2
        refine ⟨l, _, 1, .ref f1, rfl, rfl, .inl (.inl hl2), rfl, .inr ⟨rfl, G2, S.gr g12, wp_mono (wp_bind.mp k2) (fun t q vs G1 H1 g1 r1 => ?_) fun _ _ z => z⟩⟩
        exact ⟨G1, t, g1.gh, r1, wp_mono q (fun r q2 l ls G' H' g' n1 n2 hp rr => q2 l ls G' H' (g12.trans (g1.trans g')) (ex_none (g12.trans g1).hh n1) n2 hp rr) fun n a z => erE_gr S (g12.trans g1) z⟩
      · rw [if_neg q1] at k2
        exact k2.elim⟩
end
/-! ### 69. jobs: tuples within lists within tuples -/
inductive Jb where
  | me (n : Int)
  | ga (a b c : Int)
  | se (ws : List Tx)
  | ti (n : Int) (js : List Jb)
def kMe : Tx := [109, 101, 97, 115, 117, 114, 101]
def kGa : Tx := [103, 97, 112, 115]
def kSe : Tx := [115, 101, 116]
def kTi : Tx := [116, 105, 109, 101, 115]
mutual
def Jb.e : Jb → D
  | .me n => .tuple [enc kMe, enc n]
  | .ga a b c => .tuple [enc kGa, enc a, enc b, enc c]
  | .se ws => .tuple [enc kSe, enc ws]
  | .ti n js => .tuple [enc kTi, enc n, .list (Jb.es js)]
def Jb.es : List Jb → List D
  | [] => []
  | j :: js => Jb.e j :: Jb.es js
end
instance : Enc Jb := ⟨Jb.e⟩
theorem Jb.es_map : ∀ js : List Jb, Jb.es js = js.map enc
  | [] => by simp [Jb.es]
  | j :: js => by rw [Jb.es, Jb.es_map js]; rfl
theorem enc_me (n : Int) : enc (Jb.me n) = .tuple [enc kMe, enc n] := by show Jb.e _ = _; rw [Jb.e]
theorem enc_ga (a b c : Int) : enc (Jb.ga a b c) = .tuple [enc kGa, enc a, enc b, enc c] := by show Jb.e _ = _; rw [Jb.e]
theorem enc_se (ws : List Tx) : enc (Jb.se ws) = .tuple [enc kSe, enc ws] := by show Jb.e _ = _; rw [Jb.e]
theorem enc_ti (n : Int) (js : List Jb) : enc (Jb.ti n js) = .tuple [enc kTi, enc n, enc js] := by show Jb.e _ = _; rw [Jb.e, Jb.es_map]; rfl
noncomputable instance : DecidableEq Jb := fun _ _ => Classical.propDecidable _
theorem eqv_tx {t u : Tx} : PyData.eqv (enc t) (enc u) = decide (t = u) := EncEq.eqv t u
mutual
theorem Jb.eqv : ∀ a b : Jb, PyData.eqv (Jb.e a) (Jb.e b) = true ↔ a = b
  | .me n, b => by
    cases b <;> simp [Jb.e, PyData.eqv, PyData.eqvAll, eqv_tx, EncEq.eqv, kMe, kGa, kSe, kTi]
  | .ga x y z, b => by
    cases b <;> simp [Jb.e, PyData.eqv, PyData.eqvAll, eqv_tx, EncEq.eqv, kMe, kGa, kSe, kTi]
  | .se ws, b => by
    cases b <;> simp [Jb.e, PyData.eqv, PyData.eqvAll, eqv_tx, EncEq.eqv, kMe, kGa, kSe, kTi]
  | .ti n js, b => by
    cases b with
    | ti m ks =>
      have h := Jb.eqvs js ks
      simp only [Jb.e, PyData.eqv, PyData.eqvAll, EncEq.eqv, Bool.and_eq_true, decide_eq_true_eq, Jb.ti.injEq]
      constructor
      · rintro ⟨_, h1, h2, _⟩; exact ⟨h1, h.mp h2⟩
      · rintro ⟨h1, h2⟩; exact ⟨trivial, h1, h.mpr h2, trivial⟩
    | _ => simp [Jb.e, PyData.eqv, PyData.eqvAll, eqv_tx, EncEq.eqv, kMe, kGa, kSe, kTi]
theorem Jb.eqvs : ∀ a b : List Jb, PyData.eqvAll (Jb.es a) (Jb.es b) = true ↔ a = b
  | [], [] => by simp [Jb.es, PyData.eqvAll]
  | [], b :: bs => by simp [Jb.es, PyData.eqvAll]
  | a :: as, [] => by simp [Jb.es, PyData.eqvAll]
  | a :: as, b :: bs => by
    have h1 := Jb.eqv a b
    have h2 := Jb.eqvs as bs
    simp only [Jb.es, PyData.eqvAll, Bool.and_eq_true, List.cons.injEq, h1, h2]
end
noncomputable instance : EncEq Jb := ⟨fun a b => by
  have h : PyData.eqv (enc a) (enc b) = true ↔ a = b := Jb.eqv a b
  by_cases e : a = b
  · rw [decide_eq_true e, h.mpr e]
  · rw [decide_eq_false e]; exact Bool.eq_false_iff.mpr fun z => e (h.mp z)⟩
theorem Jb.tup (j : Jb) : ∃ d ds, enc j = .tuple (d :: ds) := by
  cases j
  · exact ⟨_, _, enc_me _⟩
  · exact ⟨_, _, enc_ga _ _ _⟩
  · exact ⟨_, _, enc_se _⟩
  · exact ⟨_, _, enc_ti _ _⟩
instance : EncNN Jb := ⟨fun a => by obtain ⟨d, ds, e⟩ := a.tup; rw [e]; exact ⟨rfl, rfl⟩⟩
instance : NoList Jb := ⟨fun a _ h => by obtain ⟨d, ds, e⟩ := a.tup; rw [e] at h; cases h⟩
/-- what a job tells -/
def Jb.kind : Jb → Tx
  | .me _ => kMe
  | .ga _ _ _ => kGa
  | .se _ => kSe
  | .ti _ _ => kTi
def Jb.i1 : Jb → R Int
  | .me n => .ok n
  | .ga a _ _ => .ok a
  | .se _ => .stuck
  | .ti n _ => .ok n
def Jb.i2 : Jb → R Int
  | .ga _ b _ => .ok b
  | _ => .stuck
def Jb.i3 : Jb → R Int
  | .ga _ _ c => .ok c
  | _ => .stuck
def Jb.w1 : Jb → R (List Tx)
  | .se ws => .ok ws
  | _ => .stuck
def Jb.j2 : Jb → R (List Jb)
  | .ti _ js => .ok js
  | _ => .stuck
def Jb.ns : Jb → R (Tp Int)
  | .me n => .ok ⟨[n]⟩
  | .ga a b c => .ok ⟨[a, b, c]⟩
  | _ => .stuck
def Jb.g3 : Jb → R (T3 Int Int Int)
  | .ga a b c => .ok (T3.mk a b c)
  | _ => .stuck
/-- x is told of k -/
def IxE {α β : Type} [Enc α] [Enc β] (k : Int) (g : α → R β) : Prop := ∀ x, (∃ y ds, g x = .ok y ∧ enc x = .tuple ds ∧ atI ds k = some (enc y)) ∨ g x = .stuck
theorem Jb.ixk : IxE 0 (fun j => R.ok (Jb.kind j)) := fun j => .inl (by
  cases j
  · exact ⟨_, _, rfl, enc_me _, rfl⟩
  · exact ⟨_, _, rfl, enc_ga _ _ _, rfl⟩
  · exact ⟨_, _, rfl, enc_se _, rfl⟩
  · exact ⟨_, _, rfl, enc_ti _ _, rfl⟩)
theorem Jb.ix1 : IxE 1 Jb.i1 := fun j => by
  cases j
  · exact .inl ⟨_, _, rfl, enc_me _, rfl⟩
  · exact .inl ⟨_, _, rfl, enc_ga _ _ _, rfl⟩
  · exact .inr rfl
  · exact .inl ⟨_, _, rfl, enc_ti _ _, rfl⟩
theorem Jb.ix2 : IxE 2 Jb.i2 := fun j => by
  cases j
  · exact .inr rfl
  · exact .inl ⟨_, _, rfl, enc_ga _ _ _, rfl⟩
  · exact .inr rfl
  · exact .inr rfl
theorem Jb.ix3 : IxE 3 Jb.i3 := fun j => by
  cases j
  · exact .inr rfl
  · exact .inl ⟨_, _, rfl, enc_ga _ _ _, rfl⟩
  · exact .inr rfl
  · exact .inr rfl
theorem Jb.ixw : IxE 1 Jb.w1 := fun j => by
  cases j
  · exact .inr rfl
  · exact .inr rfl
  · exact .inl ⟨_, _, rfl, enc_se _, rfl⟩
  · exact .inr rfl
theorem Jb.ixj : IxE 2 Jb.j2 := fun j => by
  cases j
  · exact .inr rfl
  · exact .inr rfl
  · exact .inr rfl
  · exact .inl ⟨_, _, rfl, enc_ti _ _, rfl⟩
def TlE {α β : Type} [Enc α] [Enc β] (g : α → R β) : Prop := ∀ x, (∃ y d ds, g x = .ok y ∧ enc x = .tuple (d :: ds) ∧ enc y = .tuple ds) ∨ g x = .stuck
theorem Jb.tln : TlE Jb.ns := fun j => by
  cases j
  · exact .inl ⟨_, _, _, rfl, enc_me _, rfl⟩
  · exact .inl ⟨_, _, _, rfl, enc_ga _ _ _, rfl⟩
  · exact .inr rfl
  · exact .inr rfl
theorem Jb.tlg : TlE Jb.g3 := fun j => by
  cases j
  · exact .inr rfl
  · exact .inl ⟨_, _, _, rfl, enc_ga _ _ _, rfl⟩
  · exact .inr rfl
  · exact .inr rfl
section
variable {J : Jd} {Γ : List Sl} {a b e : Expr} {pos p p2 : Pos} {α β : Type} [Enc α] [Enc β]
/-- e[k], of a tuple -/
theorem ES.ixE {m : R α} {k : Int} {jj : Nat} {g : α → R β} (h : IxE k g) (ha : ES J Γ a m) : ES J Γ (.Subscript a (.Constant (.int k) jj p) pos) (m.bind g) :=
  ⟨pe_wk (pe_ix ix_tup ha.pe pe_int (fun _ _ => rfl)) fun σ H Q ⟨G, S, w⟩ => ⟨G, S, wp_mono (wp_bind.mp w) (fun t q v G1 H1 g1 r1 => by
    rcases h t with ⟨y, ds, e1, e2, e3⟩ | e1
    · rw [e1] at q
      rw [e2] at r1
      obtain ⟨p, vs, rfl, ht, r2⟩ := r1.untup
      obtain ⟨u, hu, ru⟩ := atI_rp r2 e3
      exact ⟨p, vs, k, u, rfl, rfl, Evl.ex_t g1.gh ht, hu, q u G1 H1 g1 ru⟩
    · rw [e1] at q
      exact q.elim) fun _ _ z => z⟩⟩
/-- e[1:], of a tuple -/
theorem ES.tlE {lo hi : Option Expr} {m : R α} {g : α → R β} (h : TlE g) (ha : ES J Γ a m) (hlo : EO J Γ lo (.ok (some 1))) (hhi : EO J Γ hi (.ok none)) : ES J Γ (.Subscript a (.Slice lo hi none p2) pos) (m.bind g) :=
  ⟨pe_wk (pe_slice sl_tup ha.pe hlo.po hhi.po) fun σ H Q ⟨G, S, w⟩ => ⟨G, S, wp_mono (wp_bind.mp w) (fun t k1 v G1 H1 g1 r1 => by
    rcases h t with ⟨y, d, ds, e1, e2, e3⟩ | e1
    · rw [e1] at k1
      rw [e2] at r1
      obtain ⟨p, vs, rfl, hs, hr⟩ := r1.untup
      obtain ⟨v0, vs0, rfl, hr0, hr1⟩ := hr.uncons
      have hx : HT.sIx (v0 :: vs0).length 0 (some 1) = 1 := by unfold HT.sIx; simp
      have hy : HT.sIx (v0 :: vs0).length (v0 :: vs0).length none = (v0 :: vs0).length := by unfold HT.sIx; rfl
      refine ⟨G1, S.gr g1, fun G2 H2 g2 => ⟨G2, S.gr (g1.trans g2), fun G3 H3 g3 => ⟨p, v0 :: vs0, rfl, Evl.ex_t (g1.gh.trans (g2.hh.trans g3.hh)) hs, (by rw [hx]; rintro ⟨z, _⟩; cases z), fun q nq => ?_⟩⟩⟩
      have g := g1.trans (g2.trans g3)
      have eg := Gr.new (o := .tup (cutV (v0 :: vs0) (some 1) none)) g.gh nq
      refine k1 (.ref q) _ _ (g.trans eg) ?_
      rw [e3]
      refine Rp.tup (.inl (.inl upd_same)) ?_
      have hc : cutV (v0 :: vs0) (some 1) none = vs0 := by unfold cutV; rw [hx, hy]; simp
      have h5 := hr1.ex ((g2.trans g3).trans eg).gg
      rw [hc] at h5 ⊢
      exact h5
    · rw [e1] at k1
      exact k1.elim) fun _ _ z => z⟩⟩
/-- the same data, told otherwise -/
theorem ES.asE {m : R α} {m' : R β} (h : ES J Γ e m) (hq : (m.bind fun x => .ok (enc x)) = m'.bind fun y => .ok (enc y)) : ES J Γ e m' :=
  ⟨pe_wk h.pe fun σ H Q ⟨G, S, w⟩ => ⟨G, S, by
    cases m with
    | ok x =>
      cases m' with
      | ok y =>
        have hq : enc x = enc y := R.ok.inj hq
        intro v G1 H1 g1 r1
        rw [hq] at r1
        exact w v G1 H1 g1 r1
      | stuck => cases hq
      | exc n v => cases hq
    | stuck =>
      cases m' with
      | ok y => cases hq
      | stuck => exact w
      | exc n v => cases hq
    | exc n v =>
      cases m' with
      | ok y => cases hq
      | stuck => cases hq
      | exc n' v' =>
        cases hq
        exact w⟩⟩
/-- the depth of data is not too great -/
noncomputable def eqD {α : Type} [Enc α] [DecidableEq α] (x y : α) : R Bool := @ite _ ((enc x).depth ≤ 64 ∧ (enc y).depth ≤ 64) (Classical.propDecidable _) (.ok (decide (x = y))) .stuck
theorem shaped_dep {x : α} (hd : (enc x).depth ≤ 64) {K : PySem.W.Frag} {H : Hp} {v : V} (r : Rp K H v (enc x)) : SeqAt.shaped (enc x) = true := by
  unfold SeqAt.shaped
  rw [show (enc x).canLay0 = true from r.dk]
  simp only [Bool.true_and, decide_eq_true_eq]
  exact hd
theorem ES.eqD [DecidableEq α] [EncEq α] (hu : J.X.A.units + 64 < cLine) {m1 m2 : R α} (ha : EV J Γ a m1) (hb : EV J Γ b m2) : ES J Γ (.Compare a [.Eq] [b] pos) (m1.bind fun x => m2.bind fun y => M.eqD x y) :=
  ⟨pe_wk (pe_cmpR (op_eqD hu) ha.pe hb.pe (nomark _)) (op2 (f := fun x y => M.eqD x y) (fun x y G H σ v u Q S r1 r2 w => by
    unfold M.eqD at w
    by_cases hz : (enc x).depth ≤ 64 ∧ (enc y).depth ≤ 64
    · rw [if_pos hz] at w
      exact ⟨enc x, enc y, r1.dp, r2.dp, shaped_dep hz.1 r1, shaped_dep hz.2 r2, w (.bl (PyData.eqv (enc x) (enc y))) G H (Gr.refl S.gh) (by rw [EncEq.eqv]; exact .bl)⟩
    · rw [if_neg hz] at w
      exact w.elim) i_id i_id)⟩
theorem ET.eqD [DecidableEq α] [EncEq α] (hu : J.X.A.units + 64 < cLine) {m1 m2 : R α} (ha : EV J Γ a m1) (hb : EV J Γ b m2) : ET J Γ (.Compare a [.Eq] [b] pos) (m1.bind fun x => m2.bind fun y => M.eqD x y) :=
  ⟨pt_wk (pt_cmpR (op_eqD hu) ha.pe hb.pe (nomark _)) (op2B (f := fun x y => M.eqD x y) (fun x y G H σ v u Q S r1 r2 w => by
    unfold M.eqD at w
    by_cases hz : (enc x).depth ≤ 64 ∧ (enc y).depth ≤ 64
    · rw [if_pos hz] at w
      exact ⟨enc x, enc y, r1.dp, r2.dp, shaped_dep hz.1 r1, shaped_dep hz.2 r2, by rw [EncEq.eqv]; exact w G H (Gr.refl S.gh)⟩
    · rw [if_neg hz] at w
      exact w.elim) i_id i_id)⟩
noncomputable def neD {α : Type} [Enc α] [DecidableEq α] (x y : α) : R Bool := (eqD x y).bind fun b => .ok (!b)
theorem ES.neD [DecidableEq α] [EncEq α] (hu : J.X.A.units + 64 < cLine) {m1 m2 : R α} (ha : EV J Γ a m1) (hb : EV J Γ b m2) : ES J Γ (.Compare a [.NotEq] [b] pos) (m1.bind fun x => m2.bind fun y => M.neD x y) :=
  ⟨pe_wk (pe_cmpR (op_neD hu) ha.pe hb.pe (nomark _)) (op2 (f := fun x y => M.neD x y) (fun x y G H σ v u Q S r1 r2 w => by
    unfold M.neD M.eqD at w
    by_cases hz : (enc x).depth ≤ 64 ∧ (enc y).depth ≤ 64
    · rw [if_pos hz] at w
      exact ⟨enc x, enc y, r1.dp, r2.dp, shaped_dep hz.1 r1, shaped_dep hz.2 r2, w (.bl (!PyData.eqv (enc x) (enc y))) G H (Gr.refl S.gh) (by rw [EncEq.eqv]; exact .bl)⟩
    · rw [if_neg hz] at w
      exact w.elim) i_id i_id)⟩
theorem ET.neD [DecidableEq α] [EncEq α] (hu : J.X.A.units + 64 < cLine) {m1 m2 : R α} (ha : EV J Γ a m1) (hb : EV J Γ b m2) : ET J Γ (.Compare a [.NotEq] [b] pos) (m1.bind fun x => m2.bind fun y => M.neD x y) :=
  ⟨pt_wk (pt_cmpR (op_neD hu) ha.pe hb.pe (nomark _)) (op2B (f := fun x y => M.neD x y) (fun x y G H σ v u Q S r1 r2 w => by
    unfold M.neD M.eqD at w
    by_cases hz : (enc x).depth ≤ 64 ∧ (enc y).depth ≤ 64
    · rw [if_pos hz] at w
      exact ⟨enc x, enc y, r1.dp, r2.dp, shaped_dep hz.1 r1, shaped_dep hz.2 r2, by rw [EncEq.eqv]; exact w G H (Gr.refl S.gh)⟩
    · rw [if_neg hz] at w
      exact w.elim) i_id i_id)⟩
end
/-! ### 70. a def that calls itself: the walk for no fuel -/
section
variable {P : Program} {w : World} {K : PySem.W.Frag} {mg : Str → Option Value} {base : Heap} {T : CT} {τ ρ : Type} [Enc ρ] {k : Nat} {f : Addr} {fd : FuncData} {ps : List Str} {encs : τ → List D}
theorem fn_stuckS {fM : τ → R ρ} (h : ∀ t, fM t = .stuck) : FnOk P w K mg base (L2.CX P w) k f fd ps (PrS T K encs fM) :=
  ⟨fun vs H Q E ⟨B, x, _, _, z⟩ => by rw [h x] at z; exact z.elim, fun A outer s H args us vs Q E _ _ _ _ ⟨B, x, _, _, z⟩ => by rw [h x] at z; exact z.elim⟩
theorem fn_stuckF {fM : τ → R (List ρ)} (h : ∀ t, fM t = .stuck) : FnOk P w K mg base (L2.CX P w) k f fd ps (PrF T K encs fM) :=
  ⟨fun vs H Q E ⟨B, x, _, _, z⟩ => by rw [h x] at z; exact z.elim, fun A outer s H args us vs Q E _ _ _ _ ⟨B, x, _, _, z⟩ => by rw [h x] at z; exact z.elim⟩
theorem fn_stuckP {fM : τ → R ρ} (h : ∀ t, fM t = .stuck) : FnOk P w K mg base (L2.CX P w) k f fd ps (PrP T K encs fM) :=
  ⟨fun vs H Q E ⟨B, x, _, _, z⟩ => by rw [h x] at z; exact z.elim, fun A outer s H args us vs Q E _ _ _ _ ⟨B, x, _, _, z⟩ => by rw [h x] at z; exact z.elim⟩
end
/-! ### 71. a, b, c = a list of three -/
def w3L {α : Type} : List α → R (W3 α α α)
  | [a, b, c] => .ok (W3.mk a b c)
  | _ => .stuck
theorem w3L_enc {α : Type} [Enc α] : ∀ (xs : List α) y, w3L xs = .ok y → enc y = enc xs := by
  intro xs y h
  match xs, h with
  | [a, b, c], h => cases h; rfl
  | [], h => cases h
  | [_], h => cases h
  | [_, _], h => cases h
  | _ :: _ :: _ :: _ :: _, h => cases h
theorem w3L_ne {α : Type} : ∀ (xs : List α) n x, w3L xs ≠ .exc n x := by
  intro xs n x h
  match xs, h with
  | [a, b, c], h => cases h
  | [], h => cases h
  | [_], h => cases h
  | [_, _], h => cases h
  | _ :: _ :: _ :: _ :: _, h => cases h
/-! ### 72. the last list of a list of lists, taken off -/
section
variable {K : PySem.W.Frag} {c : Bs} {Γ : List Sl} {G H : Hp} {σ : L2.St}
theorem OwnA.snoc : ∀ {ds : List D} {vs : List V} {d : D} {f : List Addr}, OwnA K G H vs (ds ++ [d]) f → ∃ vs' v f1 f2, vs = vs' ++ [v] ∧ f = f1 ++ f2 ∧ OwnA K G H vs' ds f1 ∧ Own1 K G H v d f2
  | [], vs, d, f, h => by
    cases h with
    | cons a r =>
      cases r
      exact ⟨[], _, [], _, rfl, by simp, .nil, a⟩
  | e :: ds, vs, d, f, h => by
    cases h with
    | cons a r =>
      obtain ⟨vs', v, f1, f2, e1, e2, h1, h2⟩ := OwnA.snoc r
      subst e1
      subst e2
      exact ⟨_ :: vs', v, _ ++ f1, f2, rfl, by rw [List.append_assoc], .cons a h1, h2⟩
/-- a slot in two -/
theorem SatG.split (S : SatG K c Γ G σ H) {i : Nat} {s0 s1 s2 : Sl} {v : V} (e : Γ[i]? = some s0) (h : ∀ o f, σ[i]? = some o → SlAt K G H s0 o f → ∃ f1 f2, f = f1 ++ f2 ∧ SlAt K G H s1 o f1 ∧ SlAt K G H s2 (some v) f2) : SatG K c (s2 :: Γ.set i s1) G (some v :: σ) H := by
  obtain ⟨fs, h1, h2, h3⟩ := S.sl
  obtain ⟨o, f, e1, e2, a⟩ := h1.get e
  obtain ⟨f1, f2, rfl, a1, a2⟩ := h o f e1 a
  have hself : σ.set i o = σ := by
    obtain ⟨hi, hv⟩ := List.getElem?_eq_some_iff.mp e1
    rw [← hv]; exact List.set_getElem_self hi
  have hf : (f1 ++ f2).Nodup := h2.sublist (List.sublist_flatten_of_mem (List.mem_of_getElem? e2))
  obtain ⟨n1, n2, n3⟩ := List.nodup_append.mp hf
  have hff : ∀ p ∈ f1 ++ f2, p ∈ fs.flatten := fun p hp => List.mem_flatten.mpr ⟨_, List.mem_of_getElem? e2, hp⟩
  have h4 := h1.set (i := i) a1
  rw [hself] at h4
  refine ⟨S.bg, S.gh, S.h0, S.th, S.sep, S.fl, f2 :: fs.set i f1, .cons a2 h4, ?_, fun q hq => ?_⟩
  · rw [List.flatten_cons]
    refine List.nodup_append.mpr ⟨n2, nodup_set h2 n1 (fun p hp => .inr ⟨_, e2, List.mem_append_left _ hp⟩), fun x hx y hy z => ?_⟩
    subst z
    rcases flatten_set_sub' h2 e2 x hy with w | w
    · exact w (List.mem_append_right _ hx)
    · exact n3 x w x hx rfl
  · rw [List.flatten_cons] at hq
    rcases List.mem_append.mp hq with hq | hq
    · exact h3 q (hff q (List.mem_append_right _ hq))
    · rcases flatten_set_sub q hq with w | w
      · exact h3 q w
      · exact h3 q (hff q (List.mem_append_left _ w))
/-- a list of lists, and a list that was its last one -/
def dpP (q : Addr) (d : D) (es : List D) (K : PySem.W.Frag) (G H : Hp) (o : Option V) (f : List Addr) : Prop := ∃ f1 ws, f = f1 ++ [q] ∧ dpR d K G H o f1 ∧ H q = some (.lst ws) ∧ RpA K G ws es
theorem dpP_gd (q : Addr) (d : D) (es : List D) (K : PySem.W.Frag) : Gd (dpP q d es K) := ⟨fun g h ⟨f1, ws, e1, h1, h2, h3⟩ => ⟨f1, ws, e1, (dpR_gd d K).cg g (fun p hp => h p (by rw [e1]; exact List.mem_append_left _ hp)) h1, (h q (by rw [e1]; simp)).trans h2, h3.ex g⟩, fun ⟨f1, ws, e1, h1, h2, h3⟩ p hp => by
  rw [e1] at hp
  rcases List.mem_append.mp hp with hp | hp
  · exact (dpR_gd d K).kd h1 p hp
  · rw [List.mem_singleton] at hp
    subst hp
    exact ⟨_, h2, .inl ⟨ws, rfl⟩⟩⟩
end
section
variable {J : Jd} {Γ : List Sl} {a e call : Expr} {p pos : Pos} {i : Nat} {α : Type} [Enc α]
theorem ES.lenV {m : R (List α)} (h : EV J Γ a m) (hm : J.X.mg "len" = none) (hg : Gl J.X "len" := by rfl) (he : starEach [a] J.X.env = (false, eval a J.X.env) :: starEach [] J.X.env := by rfl) : ES J Γ (.Call (.Name "len" p) [a] [] pos) (m.bind fun xs => .ok (xs.length : Int)) :=
  ⟨pe_wk (L2.pe_callB call_len_seq hg hm PySem.boot_len (pa_cons h.pe pa_nil he) (he := he)) fun σ H Q ⟨G, S, w⟩ => ⟨G, S, wp_mono (wp_bind.mp w) (fun xs k v G' H' g r => by
    have r : Rp J.K H' v (.list (xs.map enc)) := r
    obtain ⟨q, vs, rfl, hl, hr⟩ := r.unlst
    refine ⟨q, vs, rfl, .inl hl, ?_⟩
    rw [hr.length, List.length_map]
    exact k _ G' H' g .int) fun _ _ z => z⟩⟩
/-- S.pop(), S a list of lists -/
theorem EM.popDp {xss : List (List α)} (hc : PE J.X call (tBM0 J.X.K "list" rPop (tVar i))) (hG : Γ[i]? = some (.dp (enc xss))) : EM J Γ Γ call (M.popL xss) (fun b => .ow (b.1.map enc)) (fun b => Γ.set i (.dp (enc b.2))) :=
  ⟨pe_wk hc fun σ H Q ⟨G, S, w⟩ => by
    obtain ⟨o, f, e1, ⟨_, v, rfl, ow⟩, nd, h3, upd'⟩ := S.openS hG
    obtain ⟨l, lv, lf, rfl, rfl, hl, oa⟩ := dp_list ow
    refine ⟨.ref l, e1, .inl ⟨rfl, _, .inl (.inl hl)⟩, ?_⟩
    unfold M.popL at w
    cases hx : xss.getLast? with
    | none => rw [hx] at w; exact w.elim
    | some xs =>
      rw [hx] at w
      have hne : xss = xss.dropLast ++ [xs] := by obtain ⟨ys, e⟩ := List.getLast?_eq_some_iff.mp hx; rw [e]; simp
      have oa' : OwnA J.K G H lv (xss.dropLast.map enc ++ [enc xs]) lf := by rw [hne, List.map_append] at oa; exact oa
      obtain ⟨lv', u, f1, f2, rfl, rfl, oa1, oa2⟩ := oa'.snoc
      rcases oa2 with ⟨q, ws, es, rfl, e2, rfl, hq, ra⟩ | ⟨n, _⟩
      · have e2 : PyData.list (xs.map enc) = PyData.list es := e2
        injection e2 with e2
        subst e2
        have hlq : l ∉ f1 ++ [q] := (List.nodup_cons.mp nd).1
        refine ⟨l, lv' ++ [.ref q], .ref q, rfl, rfl, hl, by simp, ?_⟩
        have S2 := upd' G H l (.lst lv') (.gn (dpP q (enc xss.dropLast) (xs.map enc))) (l :: (f1 ++ [q])) (Gr.refl S.gh) (by simp) nd (fun r hr => .inl hr)
          ⟨dpP_gd _ _ _ _, l :: f1, ws, rfl, ⟨.ref l, rfl, .inl ⟨l, lv', xss.dropLast.map enc, f1, rfl, rfl, rfl, upd_same, oa1.fr fun z => hlq (List.mem_append_left _ z)⟩⟩, (upd_ne fun z => hlq (by rw [z]; simp)).trans hq, ra⟩
        have hil : i < Γ.length := (List.getElem?_eq_some_iff.mp hG).1
        have S3 := S2.split (i := i) (s0 := .gn (dpP q (enc xss.dropLast) (xs.map enc))) (s1 := .dp (enc xss.dropLast)) (s2 := .ow (xs.map enc)) (v := .ref q) (by simp [hil]) fun o f _ ⟨_, f1, ws, e1, h1, h2, h3⟩ => ⟨f1, [q], e1, ⟨dpR_gd _ _, h1⟩, q, ws, rfl, rfl, h2, h3⟩
        rw [List.set_set] at S3
        have : (lv' ++ [V.ref q]).dropLast = lv' := by simp
        rw [this]
        exact w (.ref q) G _ (Ex.refl _) S3
      · exact absurd rfl (n _)⟩
end
/-! ### 73. S[k].append((text, M.pop(), x)) -/
section
variable {J : Jd} {Γ : List Sl} {e call : Expr} {p2 : Pos} {i j l : Nat} {s : Str}
theorem BS.appTi {π : Type} {mp : R π} {get : π → List Jb} {put : π → List Jb → List Sl} {ns : List Int} {js : List Jb} (h : PL J Γ e mp get put)
    (hc : ∀ t1, PE J.X e t1 → PE J.X call (tBM J.X.K "list" rAppend t1 (tCons (tTup (tCons (tC (.str s)) (tCons (tBM0 J.X.K "list" rPop (tVar j)) (tCons (tVar l) tNil)))) tNil)))
    (hs1 : TxIs s kTi) (hp : PeOk J Γ) (hj : Γ[j]? = some (.ow (ns.map enc))) (hpj : ∀ t ys, (put t ys)[j]? = some (.ow (ns.map enc))) (hl : Γ[l]? = some (.va (enc js))) (hs : swapsWith call none p2.line J.X.env = pure false := by rfl) :
    BS J Γ (.Expr call p2) (mp.bind fun t => (M.popL ns).bind fun b => (pushM (get t) (Jb.ti b.1 js)).bind fun ys => .ok (t, b.2, ys)) (fun b => .nx ((put b.1 b.2.2).set j (.ow (b.2.1.map enc)))) :=
  ⟨ps_wk (ps_expr (hc _ h.pe) hs) fun D σ H ⟨G, S, w⟩ => ⟨G, S, wp_mono (wp_bind.mp w) (fun t k q ws G1 H1 g1 hq rq put' => by
    have S1 := S.gr g1
    obtain ⟨m, mv, ej, hm, rm, gm⟩ := S1.ow hj
    obtain ⟨o, f, el, ⟨rfl, v3, rfl, r3⟩, -⟩ := S1.get hl
    refine ⟨.inl ⟨rfl, _, .inl (.inl hq)⟩, ?_⟩
    cases hx : ns.getLast? with
    | none => rw [show M.popL ns = .stuck from by unfold M.popL; rw [hx]] at k; exact k.elim
    | some n =>
      have hne : ns = ns.dropLast ++ [n] := by obtain ⟨ys, e⟩ := List.getLast?_eq_some_iff.mp hx; rw [e]; simp
      rw [show M.popL ns = .ok (n, ns.dropLast) from by unfold M.popL; rw [hx], ok_bind] at k
      have hnl : ns.length = ns.dropLast.length + 1 := by have := congrArg List.length hne; simpa using this
      have hml : mv.length = ns.length := by rw [rm.length, List.length_map]
      have hmq : q ≠ m := fun z => by
        have S2 := put' G1 H1 [] [] (Gr.refl S1.gh) .nil
        obtain ⟨m', mv', ej', hm', rm', -⟩ := S2.ow (hpj t [])
        rw [ej] at ej'
        cases ej'
        rw [z, upd_same] at hm'
        cases hm'
        have := rm'.length
        rw [List.length_map] at this
        simp at this
        omega
      obtain ⟨u, hu, ru⟩ := rm.get (i := ns.length - 1) (d := enc n) (by rw [List.getElem?_map, ← List.getLast?_eq_getElem?, hx]; rfl)
      refine ⟨.ref m, ej, .inl ⟨rfl, _, .inl (.inl hm)⟩, m, mv, u, rfl, rfl, hm, by rw [hml]; exact hu, v3, el, sz1000 (show 3 ≤ 1000 by decide), fun a ha => ?_⟩
      have ham : a ≠ m := fun z => by rw [z, upd_same] at ha; cases ha
      rw [upd_ne ham] at ha
      have haq : a ≠ q := fun z => by rw [z, hq] at ha; cases ha
      unfold pushM at k
      by_cases hz : (get t).length < 16777216
      · rw [if_pos hz] at k
        refine ⟨q, ws, .ref a, rfl, rfl, by rw [upd_ne haq.symm, upd_ne hmq]; exact hq, szlt.mpr (by rw [rq.length, List.length_map]; exact hz), ?_⟩
        have g2 := Gr.new (o := .tup [.str s, u, v3]) S1.gh ha
        have rj : Rp J.K (upd G1 a (.tup [.str s, u, v3])) (.ref a) (enc (Jb.ti n js)) := by
          rw [enc_ti]
          obtain ⟨rfl, ok⟩ := hs1
          exact Rp.tup (.inl (.inl upd_same)) (.cons ⟨.str _, dk_str ok⟩ (.cons (ru.ex g2.gg) (.cons (r3.ex g2.gg) .nil)))
        have SA := put' _ _ (ws ++ [.ref a]) (get t ++ [Jb.ti n js]) g2 (by rw [List.map_append]; exact (rq.ex g2.gg).append (.cons rj .nil))
        have SB := SA.mut (hpj t _) ej (vs' := mv.dropLast) (ds' := ns.dropLast.map enc) (by
          rw [List.dropLast_eq_take, List.dropLast_eq_take, List.map_take, hml]
          exact (rm.ex g2.gg).take _)
        have eh : upd (upd (upd H1 a (.tup [.str s, u, v3])) q (.lst (ws ++ [.ref a]))) m (.lst mv.dropLast) = upd (upd (upd H1 m (.lst mv.dropLast)) a (.tup [.str s, u, v3])) q (.lst (ws ++ [.ref a])) := by
          funext x
          by_cases x1 : x = m
          · subst x1
            rw [upd_same, upd_ne hmq.symm, upd_ne ham.symm, upd_same]
          · rw [upd_ne x1]
            by_cases x2 : x = q
            · subst x2
              rw [upd_same, upd_same]
            · rw [upd_ne x2, upd_ne x2]
              by_cases x3 : x = a
              · subst x3
                rw [upd_same, upd_same]
              · rw [upd_ne x3, upd_ne x3, upd_ne x1]
        rw [eh] at SB
        exact k _ σ _ SB
      · rw [if_neg hz] at k; exact k.elim) fun n a z => erE_of hp z σ⟩⟩
end
/-! ### 74. text.replace(..) in a list that begins with a + "text": a token is out by then -/
open CwR (pet_replC tReplC)
section
variable {X : Cx} {e : Expr} {es : List Expr} {te : TE} {ta : TA} {x : Str} {j : Nat} {c pos : Pos} {op : Operator} {r : R2}
/-- behind e a token is out -/
def PEK (X : Cx) (e : Expr) (t : TE) : Prop := ∀ (pins : List (Addr × Obj)) (s : Shared) (σ : L2.St) (H : Hp) (Q : VK), Inv X pins σ H s → t σ H Q → wpAny (model X.prog X.w) X.A (eval e X.env) (fun v s1 => 1 ≤ s1.toks ∧ L2.EP X pins σ Q v s1) X.xe s
theorem pek_opC (ho : OpR X (binaryOp op) r) (ha : PE X e te) : PEK X (.BinOp e op (.Constant (.str x) j c) pos) (tOp r te (tC (.str x))) := by
  intro pins s σ H Q I h
  refine wpAny_BinOp (thn (ha.run pins s σ H _ I h) fun v s1 ⟨x1, H1, I1, r1, q1⟩ => ?_)
  refine Calls.Constant_str ?_
  refine wpAny_mono (PySem.wpAny_toks (ho pins { s1 with toks := s1.toks + 1 } σ H1 x1 (.str x) v _ Q (I1.tok _) r1 ⟨_, rfl⟩ q1)) (fun v s2 q => ⟨?_, q.2⟩) fun _ _ z => z.2
  have hk : s1.toks + 1 ≤ s2.toks := q.1
  omega
theorem pa_consK (ha : PEK X e te) (hr : PAT X es ta) (hs : starEach (e :: es) X.env = (false, eval e X.env) :: starEach es X.env := by rfl) : PA X (e :: es) (tCons te ta) := by
  refine ⟨fun pos pins s σ H Q I h => ?_⟩
  rw [hs]
  show wpAny _ _ (spliced ((false, eval e X.env) :: backTo pos (starEach es X.env))) _ _ s
  refine Calls.spliced_cons (thn (ha pins s σ H _ I h) fun u s1 ⟨hk, x, H1, I1, r1, q1⟩ => ?_)
  exact thn (hr pos pins s1 σ H1 _ hk I1 q1) fun us s2 ⟨xs, H2, I2, r2, q2⟩ => ⟨x :: xs, H2, I2, .cons r1 r2, q2⟩
end
theorem replS_mem {y z : Tx} : ∀ (s : Nat) (l : Tx) (c : Nat), c ∈ PySem.StrLaws.replS y z s l → c ∈ z ∨ c ∈ l
  | _, [], c, h => by rw [PySem.StrLaws.replS] at h; cases h
  | 0, d :: r, c, h => by
    rw [PySem.StrLaws.replS] at h
    split at h
    · rcases List.mem_append.mp h with h | h
      · exact .inl h
      · exact (replS_mem _ r c h).imp id fun z => List.mem_cons_of_mem _ z
    · rcases List.mem_cons.mp h with rfl | h
      · exact .inr (by simp)
      · exact (replS_mem 0 r c h).imp id fun z => List.mem_cons_of_mem _ z
  | s + 1, d :: r, c, h => by
    rw [PySem.StrLaws.replS] at h
    exact (replS_mem s r c h).imp id fun z => List.mem_cons_of_mem _ z
noncomputable def replM (t y z : Tx) : R Tx := @ite _ (t.length + (t.length + 1) * z.length ≤ 16777216 ∧ 1 ≤ y.length) (Classical.propDecidable _) (.ok (PySem.StrLaws.replL y z t)) .stuck
structure EST (J : Jd) (Γ : List Sl) (e : Expr) {α : Type} [Enc α] (m : R α) : Prop where
  pe : PET J.X e (tS J Γ m)
structure ESK (J : Jd) (Γ : List Sl) (e : Expr) {α : Type} [Enc α] (m : R α) : Prop where
  pe : PEK J.X e (tS J Γ m)
structure EA0T (J : Jd) (Γ : List Sl) (es : List Expr) {τ : Type} (m : R τ) (encs : τ → List D) : Prop where
  pa : PAT J.X es (tAr J Γ m encs)
  len : ∀ t, (encs t).length = es.length
section
variable {J : Jd} {Γ : List Sl} {a b e : Expr} {es : List Expr} {pos p : Pos} {α τ : Type} [Enc α]
theorem EST.of {m : R α} (h : ES J Γ e m) : EST J Γ e m := ⟨fun pins s σ H Q _ I q => h.pe.run pins s σ H Q I q⟩
theorem EA0T.nil : EA0T J Γ [] (.ok ()) (fun _ => []) := ⟨fun pos pins s σ H Q h0 I ⟨G, S, w⟩ => pat_nil pos pins s σ H Q h0 I (w [] G H (Gr.refl S.gh) .nil), fun _ => rfl⟩
theorem EA0T.cons {m1 : R α} {m2 : R τ} {encs : τ → List D} (h : EST J Γ e m1) (hs : EA0T J Γ es m2 encs) (hst : starEach (e :: es) J.X.env = (false, eval e J.X.env) :: starEach es J.X.env := by rfl) :
    EA0T J Γ (e :: es) (m1.bind fun a => m2.bind fun t => .ok (a, t)) (fun t => enc t.1 :: encs t.2) := ⟨fun pos pins s σ H Q h0 I ⟨G, S, w⟩ => pat_cons h.pe hs.pa hst pos pins s σ H Q h0 I ⟨G, S, wp_mono (wp_bind.mp w) (fun x k v G1 H1 g1 r1 =>
      ⟨G1, S.gr g1, wp_mono (wp_bind.mp k) (fun t k2 vs G2 H2 g2 r2 => k2 (v :: vs) G2 H2 (g1.trans g2) (.cons (r1.ex g2.gg) r2)) fun _ _ z => z⟩) fun _ _ z => z⟩, fun t => by rw [List.length_cons, List.length_cons, hs.len]⟩
theorem EA0.consK {m1 : R α} {m2 : R τ} {encs : τ → List D} (h : ESK J Γ e m1) (hs : EA0T J Γ es m2 encs) (hst : starEach (e :: es) J.X.env = (false, eval e J.X.env) :: starEach es J.X.env := by rfl) :
    EA0 J Γ (e :: es) (m1.bind fun a => m2.bind fun t => .ok (a, t)) (fun t => enc t.1 :: encs t.2) := ⟨pa_wk (pa_consK h.pe hs.pa hst) fun σ H Q ⟨G, S, w⟩ => ⟨G, S, wp_mono (wp_bind.mp w) (fun x k v G1 H1 g1 r1 =>
      ⟨G1, S.gr g1, wp_mono (wp_bind.mp k) (fun t k2 vs G2 H2 g2 r2 => k2 (v :: vs) G2 H2 (g1.trans g2) (.cons (r1.ex g2.gg) r2)) fun _ _ z => z⟩) fun _ _ z => z⟩, fun t => by rw [List.length_cons, List.length_cons, hs.len]⟩
/-- a + "text", first -/
theorem ESK.catC {m : R Tx} {x : Str} {t : Tx} {j : Nat} {c : Pos} (ha : ES J Γ a m) (ht : TxIs x t) : ESK J Γ (.BinOp a .Add (.Constant (.str x) j c) pos) (m.bind fun s => catTxM s t) :=
  ⟨fun pins s σ H Q I ⟨G, S, w⟩ => pek_opC op_add_str ha.pe pins s σ H Q I ⟨G, S, wp_mono (wp_bind.mp w) (fun u k v G1 H1 g1 r1 => by
    obtain ⟨rfl, ok1⟩ := rp_tx r1
    obtain ⟨rfl, ok2⟩ := ht
    unfold catTxM at k
    by_cases hz : u.length + t.length ≤ 16777216
    · rw [if_pos hz] at k
      refine ⟨txs u, txs t, rfl, rfl, by rw [txs_length, txs_length]; exact szl.mpr hz, ?_⟩
      rw [txs_append]
      exact k _ G1 H1 g1 (Rp.tx fun d hd => (List.mem_append.mp hd).elim (ok1 d) (txok_iff.mp ok2 d))
    · rw [if_neg hz] at k; exact k.elim) fun _ _ z => z⟩⟩
/-- a.replace("y", "z") -/
theorem EST.repl {m : R Tx} {x1 x2 : Str} {y z : Tx} {j k : Nat} {c0 c1 apos : Pos} (ha : ES J Γ a m) (h1 : TxIs x1 y) (h2 : TxIs x2 z) (hyz : (x1 == x2) = false := by decide)
    (hst : starEach [.Constant (.str x1) j c0, .Constant (.str x2) k c1] J.X.env = [(false, eval (.Constant (.str x1) j c0) J.X.env), (false, eval (.Constant (.str x2) k c1) J.X.env)] := by rfl)
    (hbase : attributeBase a "replace" J.X.env (eval a J.X.env) = eval a J.X.env := by rfl) (hline : (apos.endLine == pos.line) = true := by rfl) :
    EST J Γ (.Call (.Attribute a "replace" apos) [.Constant (.str x1) j c0, .Constant (.str x2) k c1] [] pos) (m.bind fun t => replM t y z) :=
  ⟨fun pins s σ H Q h0 I ⟨G, S, w⟩ => pet_replC ha.pe hyz hst hbase hline pins s σ H Q h0 I ⟨G, S, wp_mono (wp_bind.mp w) (fun u k v G1 H1 g1 r1 => by
    obtain ⟨rfl, ok1⟩ := rp_tx r1
    obtain ⟨rfl, o1⟩ := h1
    obtain ⟨rfl, o2⟩ := h2
    unfold replM at k
    by_cases hz : u.length + (u.length + 1) * z.length ≤ 16777216 ∧ 1 ≤ y.length
    · rw [if_pos hz] at k
      refine ⟨txs u, rfl, by rw [txs_length, txs_length]; exact hz.1, ?_⟩
      have e : Txt.replace (txs u) (txs y) (txs z) = txs (PySem.StrLaws.replL y z u) := by
        have e1 := PySem.StrLaws.replace_list (x := txs u) (y := txs y) (z := txs z) (by rw [txs_length]; exact hz.2)
        rw [txs_cps, txs_cps, txs_cps] at e1
        have : ∀ {a : Str} {l : Tx}, a.cps.toList = l → a = txs l := fun {a l} h => by
          cases a with
          | mk cps =>
            unfold txs
            rw [← h]
        exact this e1
      rw [e]
      exact k _ G1 H1 g1 (Rp.tx fun d hd => (replS_mem 0 u d hd).elim (txok_iff.mp o2 d) (ok1 d))
    · rw [if_neg hz] at k; exact k.elim) fun _ _ z => z⟩⟩
end
/-! ### 75. a method that calls itself; a part that is handed back -/
section
variable {P : Program} {w : World} {K : PySem.W.Frag} {mg : Str → Option Value} {base : Heap} {T : CT} {τ β Z : Type} {k : Nat} {f : Addr} {fd : FuncData} {ps : List Str} {e1 e2 : τ → List D} {rk : RK} {fs : Z → List (Str × Sl)} {ret : β → Sl} {fs' : β → List (Str × Sl)}
theorem fn_stuckM {fM : Z → τ → R β} (h : ∀ z t, fM z t = .stuck) : FnOk P w K mg base (L2.CX P w) k f fd ps (PrM T K e1 e2 rk fs fM ret fs') :=
  ⟨fun vs H Q E ⟨B, z, x, vs1, vs2, p, fp, _, _, _, _, _, _, _, q⟩ => by rw [h z x] at q; exact q.elim, fun A outer s H args us vs Q E _ _ _ _ ⟨B, z, x, vs1, vs2, p, fp, _, _, _, _, _, _, _, q⟩ => by rw [h z x] at q; exact q.elim⟩
end
section
variable {J : Jd} {Γ : List Sl} {i : Nat} {op : Option Addr} {rk : RK} {fs : List (Str × Sl)} {e : Expr} {f : Str} {pos : Pos} {α β : Type} [Enc α] {out : β → Fl}
/-- return x.f, a list of its own -/
theorem BD.retFd {xs : List α} (r : RdF J e i rk f) (hG : Γ[i]? = some (.rc op rk fs)) (k : Nat) (hf : fs[k]? = some (f, .ow (xs.map enc))) (nd : (fs.map (·.1)).Nodup) (nf : J.c.F0 = []) (j : β) (hj : out j = .rf (xs.map enc) := by rfl) : BD J Γ [.Return (some e) pos] (.ok j) out :=
  ⟨pss_one (ps_wk (ps_ret r.pe) fun D σ H ⟨G, S, q⟩ => by
    have q' : FlP J D (out j) := q
    rw [hj] at q'
    obtain ⟨o, ff, e1, ⟨_, p, u, vs, g, rfl, _, rfl, h1, h2, hF⟩, h3⟩ := S.get hG
    obtain ⟨v, g1, f2, g2, e4, rfl, ⟨l, ws, rfl, ev, hl, rv⟩, _⟩ := hF.at hf
    cases ev
    obtain ⟨n1, n2⟩ := h3 l (by simp)
    refine ⟨p, u, vs, .ref l, e1, h1, h2, lookup_at (by rw [hF.names]; exact nd) e4, q' l ws G H S.ed ?_ n1 hl rv⟩
    rcases n2 with z | z
    · rw [nf] at z; cases z
    · exact z)⟩
theorem BX.retFd {xs : List α} (r : RdF J e i rk f) (hG : Γ[i]? = some (.rc op rk fs)) (k : Nat) (hf : fs[k]? = some (f, .ow (xs.map enc))) (nd : (fs.map (·.1)).Nodup) (nf : J.c.F0 = []) (j : β) (hj : out j = .rf (xs.map enc) := by rfl) : BX J Γ [.Return (some e) pos] (.ok j) out := ⟨BD.retFd r hG k hf nd nf j hj, fun b hb => by cases hb; rw [hj]; trivial⟩
end
section
variable {J : Jd} {Γ : List Sl} {pos p : Pos} {y : Str} {k : Nat} {β : Type} {C g : Addr} {fd : FuncData} {ps : List Str} {dvs : List V} {dss : List Value}
/-- C() -/
theorem EX.make0 {e2 : Unit → List D} {f : Unit → Unit → R β} {fs' : β → List (Str × Sl)} (mk : Mk J.K C g) (F : FnOk J.X.prog J.X.w J.X.K J.X.mg J.X.base (L2.CX J.X.prog J.X.w) k g fd ps (PrM J.T J.K (fun _ => []) e2 (.ins C) (fun _ : Unit => []) f (fun _ => .va .none) fs')) (hr : Room (k + 1) J.X.A) (hm : J.X.mg y = some (.ref C)) (hb : Binds J.X.K fd ps []) (h2 : e2 () = [])
    (hg : Gl J.X y := by rfl) (hdb : (y == ("__debug__" : Str)) = false := by decide) :
    EX J Γ (.Call (.Name y p) [] [] pos) (f () ()) (fun b => .rc none (.ins C) (fs' b)) :=
  ⟨pe_wk (pe_makeX0 mk F hr hg hm hb .nil (passAt J.tk) hdb) fun σ H Q ⟨G, S, w⟩ => by
    intro q dx nq ndx ne
    have g1 : Gr G H G H := Gr.refl S.gh
    have hq0 : upd H dx (.own q) q = none := by rw [upd_ne (Ne.symm ne)]; exact nq
    have ga := Gr.loose (o := .own q) g1.gh ndx
    have gb := Gr.loose (o := .ins C dx []) ga.gh hq0
    have gt := (g1.trans ga).trans gb
    have n0 : ∀ r ∈ [q], H r = none := fun r hr => by rw [List.mem_singleton] at hr; subst hr; exact ex_none g1.hh nq
    refine ⟨G, (), (), [], [], q, [q], rfl, gb.gh, .nil, by rw [h2]; exact .nil, ⟨q, _, [], [], rfl, (fun _ z => nomatch z), rfl, upd_same, ⟨dx, rfl⟩, .nil⟩, by simp, fun r hr => by rw [List.mem_singleton] at hr; subst hr; exact ex_none g1.gh nq, wp_mono w (fun b k2 v G' H' fr fa m as aa nd hn => ?_) fun n' a z G' H' cls d m ok => z G' H' cls d (S.gr (gt.mu m n0)) ok⟩
    obtain ⟨efr, v', ev, rv⟩ := as
    cases ev
    refine ⟨Rp.unnon rv, ?_⟩
    have nd2 := (List.nodup_append.mp nd).2.1
    refine k2 (.ref q) fa G' H' (gt.mu m n0) nd2 (fun r hr => ⟨?_, (hn r (List.mem_append_right _ hr)).1⟩) ⟨recR_gd _ _ _ _, aa⟩
    rcases (hn r (List.mem_append_right _ hr)).2 with z | z
    · exact n0 r z
    · exact ex_none gt.hh z⟩
end
/-! ### 76. text * n -/
noncomputable def repTxM (t : Tx) (n : Int) : R Tx := @ite _ ((0 ≤ n ∧ n ≤ 4096) ∧ t.length ≤ 4096) (Classical.propDecidable _) (.ok (List.replicate n.toNat t).flatten) .stuck
theorem foldl_flat (t : Array Nat) : ∀ (n : Nat) (acc : Array Nat), ((List.replicate n t).foldl (· ++ ·) acc).toList = acc.toList ++ (List.replicate n t.toList).flatten
  | 0, acc => by simp
  | n + 1, acc => by
    rw [List.replicate_succ, List.foldl_cons, foldl_flat t n, List.replicate_succ, List.flatten_cons, Array.toList_append, List.append_assoc]
theorem mul_txs (t : Tx) (n : Int) (h : 0 ≤ n) : Txt.mul (txs t) n = txs (List.replicate n.toNat t).flatten := by
  unfold Txt.mul
  by_cases h0 : n < 1
  · rw [if_pos h0, show n = 0 by omega]
    rfl
  · rw [if_neg h0]
    split
    · rename_i q
      simp only [Bool.or_eq_true, beq_iff_eq] at q
      rcases q with q | q
      · rw [q]
        simp
      · rw [txs_length] at q
        rw [List.length_eq_zero_iff.mp q]
        congr 1
        simp
    · unfold txs
      have e := foldl_flat ⟨t⟩ n.toNat #[]
      simp only [List.nil_append] at e
      congr 1
      apply Array.toList_inj.mp
      rw [e]
section
variable {J : Jd} {Γ : List Sl} {a b : Expr} {pos : Pos}
theorem op_repTx {X : Cx} : OpR X (binaryOp .Mult) (fun x y H Q => ∃ (j : Tx) (n : Int), x = .str (txs j) ∧ y = .int n ∧ ((0 ≤ n ∧ n ≤ 4096) ∧ j.length ≤ 4096) ∧ Q (.str (txs (List.replicate n.toNat j).flatten)) H) := by
  intro pins s σ H x y v u Q I rx ry h
  obtain ⟨j, n, rfl, rfl, hz, q⟩ := h
  obtain ⟨t, rfl⟩ := rx
  obtain ⟨t2, rfl⟩ := ry
  refine SB.mul (mulOk_of 4096 4096 (by rw [txs_length]; exact hz.2) (by omega) (by omega) (by decide) (by decide)) fun t' k => ?_
  rw [mul_txs j n hz.1.1]
  exact ⟨.str _, H, I.tok _, ⟨_, rfl⟩, q⟩
theorem ES.repTx {m1 : R Tx} {m2 : R Int} (ha : ES J Γ a m1) (hb : ES J Γ b m2) : ES J Γ (.BinOp a .Mult b pos) (m1.bind fun x => m2.bind fun n => repTxM x n) :=
  ⟨pe_wk (pe_op op_repTx ha.pe hb.pe) fun σ H Q ⟨G, S, w⟩ => ⟨G, S, wp_mono (wp_bind.mp w) (fun x q v G1 H1 g1 r1 => ⟨G1, S.gr g1, wp_mono (wp_bind.mp q) (fun n q2 u G2 H2 g2 r2 => by
    obtain ⟨rfl, ok1⟩ := rp_tx r1
    have en := Rp.unint r2
    subst en
    unfold repTxM at q2
    by_cases hz : (0 ≤ n ∧ n ≤ 4096) ∧ x.length ≤ 4096
    · rw [if_pos hz] at q2
      exact ⟨x, n, rfl, rfl, hz, q2 _ G2 H2 (g1.trans g2) (Rp.tx fun c hc => by
        obtain ⟨l, hl, hc⟩ := List.mem_flatten.mp hc
        rw [List.eq_of_mem_replicate hl] at hc
        exact ok1 c hc)⟩
    · rw [if_neg hz] at q2; exact q2.elim) fun _ _ z => z⟩) fun _ _ z => z⟩⟩
end
/-! ### 77. a text, and what may be lists of one's own, in a list -/
section
variable {K : PySem.W.Frag} {G H G' H' : Hp}
/-- [text, y]: the list, and y, one's own -/
def hdR (a y : D) (K : PySem.W.Frag) (G H : Hp) (o : Option V) (f : List Addr) : Prop := ∃ q v0 v1 f1, o = some (.ref q) ∧ f = q :: f1 ∧ H q = some (.lst [v0, v1]) ∧ Rp K G v0 a ∧ Own2 K G H v1 y f1
theorem hdR_gd (a y : D) (K : PySem.W.Frag) : Gd (hdR a y K) := ⟨fun g h ⟨q, v0, v1, f1, e1, e2, h1, h2, h3⟩ => ⟨q, v0, v1, f1, e1, e2, (h q (by rw [e2]; simp)).trans h1, h2.ex g, h3.cg g fun p hp => h p (by rw [e2]; exact List.mem_cons_of_mem _ hp)⟩, fun ⟨q, v0, v1, f1, e1, e2, h1, h2, h3⟩ p hp => by
    rw [e2] at hp
    rcases List.mem_cons.mp hp with rfl | hp
    · exact ⟨_, h1, .inl ⟨_, rfl⟩⟩
    · exact (h3.kd p hp).elim fun vs e => ⟨_, e, .inl ⟨vs, rfl⟩⟩⟩
abbrev Sl.hd (a y : D) : Sl := .gn (hdR a y)
theorem hdR.rp {a y : D} {v : V} {f : List Addr} (e : Ex G H) (h : hdR a y K G H (some v) f) : Rp K H v (.list [a, y]) := by
  obtain ⟨q, v0, v1, f1, e1, e2, h1, h2, h3⟩ := h
  cases e1
  exact Rp.lst (.inl (.inl h1)) (.cons (h2.ex e) (.cons (h3.rp e) .nil))
/-- .. its inner list known -/
def hdW (q : Addr) (v0 : V) (a : D) (p : Addr) (vs : List V) (fs : List Addr) (ds : List D) (K : PySem.W.Frag) (G H : Hp) (o : Option V) (f : List Addr) : Prop := o = some (.ref q) ∧ f = q :: p :: fs ∧ H q = some (.lst [v0, .ref p]) ∧ Rp K G v0 a ∧ H p = some (.lst vs) ∧ OwnA K G H vs ds fs
theorem hdW_gd (q : Addr) (v0 : V) (a : D) (p : Addr) (vs : List V) (fs : List Addr) (ds : List D) (K : PySem.W.Frag) : Gd (hdW q v0 a p vs fs ds K) := ⟨fun g h ⟨e1, e2, h0, hr, h1, h2⟩ => ⟨e1, e2, (h q (by rw [e2]; simp)).trans h0, hr.ex g, (h p (by rw [e2]; simp)).trans h1, h2.cg g fun r hr => h r (by rw [e2]; exact List.mem_cons_of_mem _ (List.mem_cons_of_mem _ hr))⟩, fun ⟨e1, e2, h0, _, h1, h2⟩ r hm => by
    rw [e2] at hm
    rcases List.mem_cons.mp hm with rfl | hm
    · exact ⟨_, h0, .inl ⟨_, rfl⟩⟩
    · rcases List.mem_cons.mp hm with rfl | hm
      · exact ⟨_, h1, .inl ⟨vs, rfl⟩⟩
      · exact (h2.kd r hm).elim fun vs e => ⟨_, e, .inl ⟨vs, rfl⟩⟩⟩
end
/-! #### defs that hand back a slot -/
def PrG (T : CT) (K : PySem.W.Frag) {τ ρ : Type} (encs : τ → List D) (f : τ → R ρ) (ret : ρ → Sl) : Sp := fun vs H Q E => ∃ (B : Hp) (x : τ), Ex B H ∧ RpA K B vs (encs x) ∧
  (f x).wp (fun r => ∀ v fs G' H', Gr B H G' H' → SlAt K G' H' (ret r) (some v) fs → fs.Nodup → (∀ p ∈ fs, H p = none ∧ G' p = none) → Q v H') (fun n a => ∀ G' H' cls d, Gr B H G' H' → ExOk T n a cls d H' → E cls d H')
section
variable {P : Program} {w : World} {K : PySem.W.Frag} {mg : Str → Option Value} {base : Heap}
theorem fn_G {x qual : Str} {st : Stmt} {f : Addr} {fd : FuncData} {N ps : List Str} {k : Nat} {τ ρ : Type} {T : CT} {encs : τ → List D} {fM : τ → R ρ} {ret : ρ → Sl} (F : Fun K x qual st f fd) (S : FnScope N ps (defScope st)) (hlen : ∀ t, (encs t).length = ps.length)
    (body : ∀ (cdv : Value) (A : Around) (outer : List Env) (s : Shared) (H : Hp) (E : XK) (B : Hp) (t : τ), Room k (A.deeper (envOfC qual (defScope st) s.heap.objs.size f cdv)) →
      BD (dj P w K mg base T N qual (defScope st) f cdv A outer s H E B) (G0 (encs t) (N.length - ps.length)) (defBody st) (fM t) (fun r => .rg (slR (ret r)))) : FnOk P w K mg base (L2.CX P w) (k + 1) f fd ps (PrG T K encs fM ret) := by
  refine F.okX S (fun vs H Q E ⟨B, t, _, r, _⟩ => by rw [r.length, hlen]) fun cdv A outer s H vs Q E hr ⟨B, t, eB, r, q⟩ => ⟨_, (body cdv A outer s H E B t hr).ps, B, ?_, wp_mono q (fun v k => ?_) fun n a z => ?_⟩
  · have h := sat_start (N := N) eB r
    rw [hlen] at h
    exact h
  · intro v fs G H' ed o nd n
    exact k v fs G H' (ed_gr ed rfl) o nd fun p hp => ⟨(n p hp).1.elim (fun z => nomatch z) fun z => z, (n p hp).2⟩
  · exact fun σ H' cls d ⟨G, ed⟩ ok => z G H' cls d (ed_gr (c := ⟨B, H, [], fun _ => none⟩) ed rfl) ok
end
section
variable {J : Jd} {Γ : List Sl} {a b e e1 e2 : Expr} {es : List Expr} {pos p p2 py px : Pos} {x y : Str} {k : Nat} {α β τ ρ : Type} [Enc α] [Enc β] {f g : Addr} {fd : FuncData} {ps : List Str} {encs : τ → List D} {out : β → Fl} {body : List Stmt}
theorem EX.callG {m : R τ} {fM : τ → R ρ} {ret : ρ → Sl} (F : FnOk J.X.prog J.X.w J.X.K J.X.mg J.X.base (L2.CX J.X.prog J.X.w) k f fd ps (PrG J.T J.K encs fM ret)) (hr : Room k J.X.A) (hm : J.X.mg x = some (.ref f)) (hk : PySem.W.keepIn J.X.K (.ref f) = true) (hb : Binds J.X.K fd ps [])
    (ha : EA0 J Γ (e :: es) m encs) (hg : Gl J.X x := by rfl) (hdb : (x == ("__debug__" : Str)) = false := by decide) (he : starEach (e :: es) J.X.env = (false, eval e J.X.env) :: starEach es J.X.env := by rfl) (hpl : (backTo pos (starEach es J.X.env)).any (·.1) = false := by rfl) :
    EX J Γ (.Call (.Name x p) (e :: es) [] pos) (m.bind fM) ret :=
  ⟨pe_wk (pe_callS F hr hg hm hk hb (passAt J.tk) ha.pa hdb he hpl) fun σ H Q ⟨G, S, w⟩ => ⟨G, S, wp_mono (wp_bind.mp w) (fun t q vs G1 H1 g1 r1 =>
    ⟨G1, t, g1.gh, r1, wp_mono q (fun r q2 v fs G' H' g' o nd n => q2 v fs G' H' (g1.trans g') nd (fun p hp => ⟨ex_none g1.hh (n p hp).1, (n p hp).2⟩) o) fun n a z => erE_gr S g1 z⟩) fun _ _ z => z⟩⟩
/-- such a value, looked at at once -/
theorem EV.ofX {m : R ρ} {sl : ρ → Sl} {h : ρ → α} (hx : EX J Γ e m sl) (hs : ∀ r (G H : Hp) (v : V) (f : List Addr), Ex G H → SlAt J.K G H (sl r) (some v) f → Rp J.K H v (enc (h r))) : EV J Γ e (m.bind fun r => .ok (h r)) :=
  ⟨pe_wk hx.pe fun σ H Q ⟨G, S, w⟩ => ⟨G, S, wp_mono (wp_bind.mp w) (fun r k v f G' H' g nd n s => k v G' H' g (hs r G' H' v f g.gh s)) fun _ _ z => z⟩⟩
/-- [e1, e2] -/
theorem EX.hd [NoList β] {m1 : R α} {m2 : R β} (h1 : ES J Γ e1 m1) (h2 : ES J Γ e2 m2) (he : starEach [e1, e2] J.X.env = (false, eval e1 J.X.env) :: starEach [e2] J.X.env := by rfl) (he2 : starEach [e2] J.X.env = (false, eval e2 J.X.env) :: starEach [] J.X.env := by rfl) :
    EX J Γ (.List [e1, e2] pos) (m1.bind fun a => m2.bind fun b => .ok (a, b)) (fun t => .hd (enc t.1) (enc t.2)) :=
  ⟨pe_wk (pe_lst (pa_cons h1.pe (pa_cons h2.pe pa_nil he2) he)) fun σ H Q ⟨G, S, w⟩ => ⟨G, S, wp_mono (wp_bind.mp w) (fun a k v G1 H1 g1 r1 => ⟨G1, S.gr g1, wp_mono (wp_bind.mp k) (fun b k2 u G2 H2 g2 r2 => ⟨sz1000 (Nat.le_of_ble_eq_true rfl), fun q hq => by
    have g := g1.trans g2
    have eg := Gr.loose (o := .lst [v, u]) g2.gh hq
    exact k2 (.ref q) [q] G2 _ (g.trans eg) (by simp) (fun r hr => by
      rw [List.mem_singleton] at hr
      subst hr
      exact ⟨ex_none g.hh hq, ex_none g2.gh hq⟩) ⟨hdR_gd _ _ _, q, v, u, [], rfl, rfl, upd_same, r1.ex g2.gg, .inr ⟨NoList.nl b, rfl, r2⟩⟩⟩) fun _ _ z => z⟩) fun _ _ z => z⟩⟩
/-- return [e1, x], x lists of one's own -/
theorem BD.retHd {i : Nat} {d : D} {a0 : α} (h1 : ES J Γ e1 (.ok a0)) (hN : J.X.N[i]? = some x) (hG : Γ[i]? = some (.dp d)) (nf : J.c.F0 = []) (j : β) (hj : out j = .rg (slR (.hd (enc a0) d)) := by rfl) (hv : Vis J.X.env.scope x := by first | exact Or.inl rfl | exact Or.inr (Or.inl rfl) | exact Or.inr (Or.inr rfl))
    (hd : (x == ("__debug__" : Str)) = false := by decide) (hcd : (x == ("__classdict__" : Str)) = false := by decide) (he : starEach [e1, .Name x p] J.X.env = (false, eval e1 J.X.env) :: starEach [.Name x p] J.X.env := by rfl) (he2 : starEach [.Name x p] J.X.env = (false, eval (.Name x p) J.X.env) :: starEach [] J.X.env := by rfl) :
    BD J Γ [.Return (some (.List [e1, .Name x p] p2)) pos] (.ok j) out :=
  ⟨pss_one (ps_wk (ps_ret (pe_lst (pa_cons h1.pe (pa_cons (pe_var hN hv hd hcd) pa_nil he2) he))) fun D σ H ⟨G, S, q⟩ => ⟨G, S, fun v G1 H1 g1 r1 => by
    have q' : FlP J D (out j) := q
    rw [hj] at q'
    have S1 := S.gr g1
    obtain ⟨u, ff, e1, ow, nd, n⟩ := S1.dp hG
    refine ⟨u, e1, sz1000 (Nat.le_of_ble_eq_true rfl), fun r hr => ?_⟩
    have eg := Gr.loose (o := .lst [v, u]) g1.gh hr
    have hrf : r ∉ ff := fun z => by
      obtain ⟨ws, hw⟩ := ow.kd r z
      rw [hr] at hw; cases hw
    refine q' (.ref r) (r :: ff) G1 _ (S1.gr eg).ed ⟨hdR_gd _ _ _, r, v, u, ff, rfl, rfl, upd_same, r1, ow.fr hrf⟩ (List.nodup_cons.mpr ⟨hrf, nd⟩) fun z hz => ?_
    rcases List.mem_cons.mp hz with rfl | hz
    · exact ⟨.inr (h0_new S1 hr), ex_none g1.gh hr⟩
    · exact ⟨(n z hz).2, (n z hz).1⟩⟩)⟩
theorem BX.retHd {i : Nat} {d : D} {a0 : α} (h1 : ES J Γ e1 (.ok a0)) (hN : J.X.N[i]? = some x) (hG : Γ[i]? = some (.dp d)) (nf : J.c.F0 = []) (j : β) (hj : out j = .rg (slR (.hd (enc a0) d)) := by rfl) (hv : Vis J.X.env.scope x := by first | exact Or.inl rfl | exact Or.inr (Or.inl rfl) | exact Or.inr (Or.inr rfl))
    (hd : (x == ("__debug__" : Str)) = false := by decide) (hcd : (x == ("__classdict__" : Str)) = false := by decide) (he : starEach [e1, .Name x p] J.X.env = (false, eval e1 J.X.env) :: starEach [.Name x p] J.X.env := by rfl) (he2 : starEach [.Name x p] J.X.env = (false, eval (.Name x p) J.X.env) :: starEach [] J.X.env := by rfl) :
    BX J Γ [.Return (some (.List [e1, .Name x p] p2)) pos] (.ok j) out := ⟨BD.retHd h1 hN hG nf j hj hv hd hcd he he2, fun b hb => by cases hb; rw [hj]; trivial⟩
/-- x, and x[1], looked at -/
theorem EV.hd {i : Nat} {w : W2 α β} (hN : J.X.N[i]? = some x) (hG : Γ[i]? = some (.hd (enc w.1) (enc w.2))) (hv : Vis J.X.env.scope x := by first | exact Or.inl rfl | exact Or.inr (Or.inl rfl) | exact Or.inr (Or.inr rfl))
    (hd : (x == ("__debug__" : Str)) = false := by decide) (hcd : (x == ("__classdict__" : Str)) = false := by decide) : EV J Γ (.Name x p) (.ok w) :=
  ⟨pe_wk (pe_var hN hv hd hcd) fun σ H Q ⟨G, S, q⟩ => by
    obtain ⟨o, f, e1, ⟨_, a⟩, _⟩ := S.get hG
    have a' := a
    obtain ⟨r, v0, v1, f1, rfl, _⟩ := a'
    exact ⟨.ref r, e1, q (.ref r) G H (Gr.refl S.gh) (hdR.rp S.gh a)⟩⟩
theorem EV.hd1 {i jj : Nat} {w : W2 α β} (hN : J.X.N[i]? = some x) (hG : Γ[i]? = some (.hd (enc w.1) (enc w.2))) (hv : Vis J.X.env.scope x := by first | exact Or.inl rfl | exact Or.inr (Or.inl rfl) | exact Or.inr (Or.inr rfl))
    (hd : (x == ("__debug__" : Str)) = false := by decide) (hcd : (x == ("__classdict__" : Str)) = false := by decide) : EV J Γ (.Subscript (.Name x p) (.Constant (.int 1) jj p2) pos) (.ok w.2) :=
  ⟨pe_wk (pe_ix ix_list (pe_var hN hv hd hcd) pe_int (fun _ _ => rfl)) fun σ H Q ⟨G, S, q⟩ => by
    obtain ⟨o, f, e1, ⟨_, r, v0, v1, f1, rfl, e2, h1, h2, h3⟩, _⟩ := S.get hG
    exact ⟨.ref r, e1, r, [v0, v1], 1, v1, rfl, rfl, .inl (.inl h1), rfl, q v1 G H (Gr.refl S.gh) (h3.rp S.gh)⟩⟩
/-- a D of any kind -/
structure AnyD where
  d : D
instance : Enc AnyD := ⟨AnyD.d⟩
/-- the walk over so many of them; r: the list that is walked -/
theorem items_goH {i j n : Nat} {xss : List (List α)} {f : List α → R (List α)} {q0 p r : Addr} {v0 : V} {a0 : D} {vs : List V} {fs : List Addr} {D : Ends} (hij : i ≠ j) (hi : i < Γ.length) (hn : n ≤ xss.length) (hlen : vs.length = xss.length) (ndp : (q0 :: p :: fs).Nodup) (hr : r = p) (hj : j < J.X.N.length) (hjl : j < Γ.length)
    (hb : ∀ (R : PySem.W.Frag → Hp → Hp → Option V → List Addr → Prop), BI J j ((Γ.set i (.gn R)).set j .no) body f) {G : Hp} {σ : L2.St} {H : Hp} (S : Sat J ((Γ.set i (.gn (hdW q0 v0 a0 p vs fs (xss.map enc)))).set j .no) G σ H) (hrH : H r = some (.lst (vs.take n))) (hpr : r = p → n = vs.length)
    (q : (mpXGo f (xss.take n)).wp (fun ys => ∀ G σ H, Sat J ((Γ.set i (.gn (hdW q0 v0 a0 p vs fs ((ys ++ xss.drop n).map enc)))).set j .no) G σ H → D.nx σ H) (ErB J)) :
    ∃ W : Nat → Nat → L2.St → Hp → Prop, (∃ m, W 0 m σ H) ∧ ∀ t m σ H, W t m σ H →
      ((Itl J.K r).stop t H ∧ D.nx σ H) ∨ ((Itl J.K r).go t H ∧ ∃ N : L2.St → Hp → Prop, (∀ σ' H', N σ' H' → ∃ m', m' < m ∧ W (t + 1) m' σ' H') ∧ ∀ x H', (Itl J.K r).yld t H x H' → gName j x σ H' fun σ2 H2 =>
        (fun D σ H => ∃ R, tItem J j ((Γ.set i (.gn R)).set j .no) f D σ H) { D with nx := N, ct := N, bk := D.nx } σ2 H2) := by
  refine ⟨fun t m σ2 H2 => m = n - t ∧ t ≤ n ∧ H2 r = some (.lst (vs.take n)) ∧ ∃ (done : List (List α)) (G2 : Hp), done.length = t ∧ Sat J ((Γ.set i (.gn (hdW q0 v0 a0 p vs fs ((done ++ xss.drop t).map enc)))).set j .no) G2 σ2 H2 ∧
    (mpXGo f ((xss.take n).drop t)).wp (fun ys => ∀ G σ H, Sat J ((Γ.set i (.gn (hdW q0 v0 a0 p vs fs ((done ++ ys ++ xss.drop n).map enc)))).set j .no) G σ H → D.nx σ H) (ErB J), ⟨n, by simp, Nat.zero_le _, hrH, [], G, rfl, S, q⟩, ?_⟩
  rintro t m σ2 H2 ⟨rfl, htn, hrH2, done, G2, hd, S2, k⟩
  have hij' : ((Γ.set i (.gn (hdW q0 v0 a0 p vs fs ((done ++ xss.drop t).map enc)))).set j .no)[i]? = some (.gn (hdW q0 v0 a0 p vs fs ((done ++ xss.drop t).map enc))) := by
    rw [List.getElem?_set_ne (Ne.symm hij), List.getElem?_set_self hi]
  have hlt' : (vs.take n).length = n := by rw [List.length_take]; omega
  by_cases hlt : t < n
  · have htx : t < xss.length := by omega
    refine .inr ⟨⟨vs.take n, (vs.take n)[t]'(by omega), .inl (.inl hrH2), List.getElem?_eq_getElem (by omega)⟩, fun σ' H' => n - (t + 1) = n - (t + 1) ∧ t + 1 ≤ n ∧ H' r = some (.lst (vs.take n)) ∧ ∃ (done : List (List α)) (G2 : Hp), done.length = t + 1 ∧ Sat J ((Γ.set i (.gn (hdW q0 v0 a0 p vs fs ((done ++ xss.drop (t + 1)).map enc)))).set j .no) G2 σ' H' ∧
      (mpXGo f ((xss.take n).drop (t + 1))).wp (fun ys => ∀ G σ H, Sat J ((Γ.set i (.gn (hdW q0 v0 a0 p vs fs ((done ++ ys ++ xss.drop n).map enc)))).set j .no) G σ H → D.nx σ H) (ErB J), fun σ' H' h => ⟨n - (t + 1), by omega, h⟩, fun x H' hy => ?_⟩
    obtain ⟨rfl, hy⟩ := hy
    have hx := hy (vs.take n) (.inl (.inl hrH2))
    have S3 : Sat J ((Γ.set i (.gn (hdW q0 v0 a0 p vs fs ((done ++ xss.drop t).map enc)))).set j .no) G2 (σ2.set j (some x)) H' := by
      have := S2.setno (i := j) (o := some x)
      rwa [List.set_set] at this
    obtain ⟨o, f0, e1, ⟨_, rfl, rfl, hq0, hra, hp, oa⟩, nd, h3, upd'⟩ := S3.openS hij'
    have hds : ((done ++ xss.drop t).map enc)[t]? = some (.list ((xss[t]).map enc)) := by
      rw [List.getElem?_map, List.getElem?_append_right (by omega), hd, Nat.sub_self, List.getElem?_drop, Nat.add_zero, List.getElem?_eq_getElem htx]
      rfl
    obtain ⟨q1, ws, f1, f2, v1, v2, h1, h2, kk⟩ := oa.at hds
    have hvx : vs[t]? = some x := by
      rw [List.getElem?_take] at hx
      rwa [if_pos hlt] at hx
    rw [v1] at hvx
    cases hvx
    have hσ : (σ2.set j (some (.ref q1)))[j]? = some (some (.ref q1)) := by
      rw [List.getElem?_set_self]
      have h5 := S2.sl
      obtain ⟨fs5, h6, _, _⟩ := h5
      have := h6.length
      rw [List.length_set, List.length_set] at this
      omega
    refine ⟨_, G2, q1, ws, xss[t], S3, hσ, h1, h2, ?_⟩
    have hdrop : (xss.take n).drop t = xss[t] :: (xss.take n).drop (t + 1) := by
      rw [List.drop_eq_getElem_cons (by rw [List.length_take]; omega)]
      simp
    rw [hdrop] at k
    have k : (R.bind (f xss[t]) fun y => R.bind (mpXGo f ((xss.take n).drop (t + 1))) fun ys => .ok (y :: ys)).wp _ _ := k
    refine wp_mono (wp_bind.mp k) (fun y k2 G4 H4 ws' g r' => ?_) fun _ _ z => z
    have hqp : q1 ≠ p := fun z => by
      have := (List.nodup_cons.mp (List.nodup_cons.mp nd).2).1
      rw [v2, ← z] at this
      exact this (by simp)
    have hqq : q1 ≠ q0 := fun z => by
      have := (List.nodup_cons.mp nd).1
      rw [v2, ← z] at this
      exact this (by simp)
    have hqr : q1 ≠ r := by
      rw [hr]
      exact hqp
    have hq12 : q1 ∉ f1 ++ f2 := by
      have := (List.nodup_cons.mp (List.nodup_cons.mp nd).2).2
      rw [v2] at this
      intro z
      obtain ⟨n1, n2, n3⟩ := List.nodup_append.mp this
      rcases List.mem_append.mp z with z | z
      · exact n3 q1 z q1 (by simp) rfl
      · exact (List.nodup_cons.mp n2).1 z
    refine ⟨rfl, hlt, by rw [upd_ne (Ne.symm hqr)]; exact g.hh _ _ hrH2, done ++ [y], G4, by rw [List.length_append, hd]; rfl, ?_, ?_⟩
    · have hset : ((done ++ xss.drop t).map (enc (α := List α))).set t (.list (y.map enc)) = ((done ++ [y]) ++ xss.drop (t + 1)).map enc := by
        rw [List.drop_eq_getElem_cons htx, List.map_append, List.map_append, List.map_append, List.set_append_right _ _ (by rw [List.length_map]; omega), List.length_map, hd, Nat.sub_self, List.append_assoc]
        rfl
      have S5 := upd' G4 H4 q1 (.lst ws') (.gn (hdW q0 v0 a0 p vs fs (((done ++ xss.drop t).map enc).set t (.list (y.map enc))))) (q0 :: p :: fs) g (by rw [v2]; simp) nd (fun q hq => .inl hq) ⟨hdW_gd _ _ _ _ _ _ _ _, rfl, rfl, by rw [upd_ne (Ne.symm hqq)]; exact g.hh _ _ hq0, hra.ex g.gg, by rw [upd_ne (Ne.symm hqp)]; exact g.hh _ _ hp, kk G4 H4 ws' _ g.gg g.hh hq12 r'⟩
      rw [hset, List.set_comm _ _ (Ne.symm hij), List.set_set] at S5
      exact S5
    · refine wp_mono (wp_bind.mp k2) (fun ys k3 => ?_) fun _ _ z => z
      have k3 : ∀ G σ H, Sat J ((Γ.set i (.gn (hdW q0 v0 a0 p vs fs ((done ++ (y :: ys) ++ xss.drop n).map enc)))).set j .no) G σ H → D.nx σ H := k3
      rw [show done ++ [y] ++ ys = done ++ (y :: ys) by simp]
      exact k3
  · have ei : t = n := by omega
    subst ei
    have k : (mpXGo f ((xss.take t).drop t)).wp _ _ := k
    rw [List.drop_of_length_le (by rw [List.length_take]; omega)] at k
    have k : ∀ G σ H, Sat J ((Γ.set i (.gn (hdW q0 v0 a0 p vs fs ((done ++ [] ++ xss.drop t).map enc)))).set j .no) G σ H → D.nx σ H := k
    rw [List.append_nil] at k
    exact .inl ⟨⟨vs.take t, .inl (.inl hrH2), by omega⟩, k G2 σ2 H2 S2⟩
theorem own2_list {K : PySem.W.Frag} {G H : Hp} {v : V} {ds : List D} {f : List Addr} (o : Own2 K G H v (.list ds) f) : ∃ p vs fs, v = .ref p ∧ f = p :: fs ∧ H p = some (.lst vs) ∧ OwnA K G H vs ds fs := by
  rcases o with ⟨p, vs, ds', fs, e1, e2, e3, h1, h2⟩ | ⟨n, _⟩
  · injection e2 with e2
    subst e2
    exact ⟨p, vs, fs, e1, e3, h1, h2⟩
  · exact absurd rfl (n ds)
theorem hd_of_W {K : PySem.W.Frag} {c : Bs} {G H : Hp} {σ : L2.St} {i j : Nat} {q0 p : Addr} {v0 : V} {a0 : D} {vs : List V} {fs : List Addr} {yss : List α} (hij : i ≠ j) (hi : i < Γ.length) (S : SatG K c ((Γ.set i (.gn (hdW q0 v0 a0 p vs fs (yss.map enc)))).set j .no) G σ H) : SatG K c ((Γ.set i (.hd a0 (enc yss))).set j .no) G σ H := by
  have h := S.conv (i := i) (s0 := .gn (hdW q0 v0 a0 p vs fs (yss.map enc))) (s1 := .hd a0 (enc yss)) (by rw [List.getElem?_set_ne (Ne.symm hij), List.getElem?_set_self hi]) fun o f _ ⟨_, e1, e2, h0, hr, h1, h2⟩ => ⟨hdR_gd _ _ _, q0, v0, .ref p, p :: fs, e1, e2, h0, hr, .inl ⟨p, vs, yss.map enc, fs, rfl, rfl, rfl, h1, h2⟩⟩
  rwa [List.set_comm _ _ (Ne.symm hij), List.set_set] at h
/-- for y in x[1]: each changes -/
theorem BS.forH {i j jj : Nat} {a0 : D} {w : Dy} {f : List AnyD → R (List AnyD)} (hN : J.X.N[i]? = some x) (hij : i ≠ j) (hjN : J.X.N.Nodup) (hj : J.X.N[j]? = some y) (hy : Loc J.X.env.scope y) (hG : Γ[i]? = some (.hd a0 (enc w))) (hjl : j < Γ.length) (hb : ∀ R, BI J j ((Γ.set i (.gn R)).set j .no) body f)
    (hc : J.X.calm = true := by rfl) (hs : ∀ z, foldedSetIterable (.Subscript (.Name x px) (.Constant (.int 1) jj p2) p) J.X.env z = pure z := by intro _; rfl) (hv : Vis J.X.env.scope x := by first | exact Or.inl rfl | exact Or.inr (Or.inl rfl) | exact Or.inr (Or.inr rfl))
    (hd : (x == ("__debug__" : Str)) = false := by decide) (hcd : (x == ("__classdict__" : Str)) = false := by decide) (hf : J.X.fn y = true ∨ J.X.env.scope.names.lookup y = some .local := by first | exact .inl rfl | exact .inr rfl) :
    BS J Γ (.For (.Name y py) (.Subscript (.Name x px) (.Constant (.int 1) jj p2) p) body [] pos) ((dnM w : R (List (List AnyD))).bind fun xss => mpXGo f xss) (fun yss => .nx ((Γ.set i (.hd a0 (enc yss))).set j .no)) := by
  have hb' : PSs J.X body (fun D σ H => ∃ R, tItem J j ((Γ.set i (.gn R)).set j .no) f D σ H) := ⟨fun pins s σ H D I ⟨R, q⟩ => (hb R).ps.run pins s σ H D I q⟩
  have hi : i < Γ.length := (List.getElem?_eq_some_iff.mp hG).1
  refine ⟨ps_wk (ps_for J.po hc (pi_list (pe_ix ix_list (pe_var hN hv hd hcd) pe_int (fun _ _ => rfl))) (pg_name (i := j) hjN hj hy hf) hb' hs) fun D σ H ⟨G, S, q⟩ => ?_⟩
  have q := wp_bind.mp q
  unfold dnM at q
  by_cases hx : ∃ a : List (List AnyD), enc a = w.d
  · rw [dif_pos hx] at q
    have hw : enc (Classical.choose hx) = w.d := Classical.choose_spec hx
    generalize Classical.choose hx = xss at hw q
    have q : (mpXGo f xss).wp _ _ := q
    obtain ⟨o, f0, e1, ⟨_, r, v0, v1, f1, rfl, rfl, h1, h2, h3⟩, nd, conv⟩ := S.openR hG
    have h3 : Own2 J.K G H v1 (.list (xss.map enc)) f1 := by
      have : enc w = .list (xss.map enc) := hw.symm
      rw [← this]
      exact h3
    obtain ⟨p, vs, fs, rfl, rfl, hl, oa⟩ := own2_list h3
    have hlen : vs.length = xss.length := by rw [oa.length, List.length_map]
    have S1 := conv (.gn (hdW r v0 a0 p vs fs (xss.map enc))) ⟨hdW_gd _ _ _ _ _ _ _ _, rfl, rfl, h1, h2, hl, oa⟩
    have S2 := S1.forget j (by rw [List.length_set]; exact hjl)
    refine ⟨.ref r, e1, r, [v0, .ref p], 1, .ref p, rfl, rfl, .inl (.inl h1), rfl, p, rfl, ⟨vs, .inl (.inl hl)⟩, ?_⟩
    refine items_goH (n := xss.length) hij hi (Nat.le_refl _) hlen nd rfl (List.getElem?_eq_some_iff.mp hj).1 hjl hb S2 (by rw [← hlen, List.take_length]; exact hl) (fun _ => hlen.symm) ?_
    rw [List.take_length, List.drop_length]
    refine wp_mono q (fun yss k G σ H S3 => ?_) fun _ _ z => z
    rw [List.append_nil] at S3
    exact k G σ H (hd_of_W hij hi S3)
  · rw [dif_neg hx] at q
    exact q.elim
/-- x[1].clear() -/
theorem BS.clearH {i jj : Nat} {a0 : D} {yss : List (List AnyD)} {call : Expr} (hN : J.X.N[i]? = some x) (hG : Γ[i]? = some (.hd a0 (enc yss))) (hc : ∀ {te : TE}, PE J.X (.Subscript (.Name x px) (.Constant (.int 1) jj p2) p) te → PE J.X call (tBM0 J.X.K "list" rClear te)) (hs : swapsWith call none py.line J.X.env = pure false := by rfl)
    (hv : Vis J.X.env.scope x := by first | exact Or.inl rfl | exact Or.inr (Or.inl rfl) | exact Or.inr (Or.inr rfl))
    (hd : (x == ("__debug__" : Str)) = false := by decide) (hcd : (x == ("__classdict__" : Str)) = false := by decide) : BS J Γ (.Expr call py) (.ok ()) (fun _ => .nx (Γ.set i .no)) := by
  refine ⟨ps_wk (ps_expr (hc (pe_ix ix_list (pe_var hN hv hd hcd) pe_int (fun _ _ => rfl))) hs) fun D σ H ⟨G, S, q⟩ => ?_⟩
  obtain ⟨o, f0, e1, ⟨_, r, v0, v1, f1, rfl, rfl, h1, h2, h3⟩, nd, h4, upd'⟩ := S.openS hG
  obtain ⟨p, vs, fs, rfl, rfl, hl, oa⟩ := own2_list h3
  have hrp : r ≠ p := fun z => (List.nodup_cons.mp nd).1 (by rw [z]; simp)
  refine ⟨.ref r, e1, r, [v0, .ref p], 1, .ref p, rfl, rfl, .inl (.inl h1), rfl, .inl ⟨rfl, _, .inl (.inl hl)⟩, p, vs, rfl, rfl, hl, ?_⟩
  have q : ∀ G σ H, Sat J (Γ.set i .no) G σ H → D.nx σ H := q
  exact q G σ _ (upd' G H p (.lst []) .no [] (Gr.refl S.gh) (by simp) List.nodup_nil (fun z hz => by cases hz) rfl)
end
section
variable {J : Jd} {Γ : List Sl} {e : Expr} {pos : Pos} {β τ : Type} {out : β → Fl} {j : Nat}
theorem ES.anyN : ES J Γ (.Constant .none j pos) (.ok (AnyD.mk .none)) := ⟨(ES.non (J := J) (Γ := Γ)).pe⟩
theorem BX.retX {m : R τ} {sl : τ → Sl} (h : EX J Γ e m sl) (hp : PeOk J Γ) (jj : τ → β) (hj : ∀ a, out (jj a) = .rg (slR (sl a)) := by intro _; rfl) : BX J Γ [.Return (some e) pos] (m.bind fun a => .ok (jj a)) out :=
  ⟨BD.retX h hp jj hj, fun b hb => by
    obtain ⟨a, _, e⟩ := bind_eq hb
    cases e
    rw [hj]; trivial⟩
end
end M

/-! plain lemmas about mirrors -/
namespace M
open PySem L2 PySem.Spec PyProof.Rows
/-- it hands back a value of which P holds -/
def R.Sat {α : Type} (m : R α) (P : α → Prop) : Prop := ∃ a, m = .ok a ∧ P a
theorem sat_ok {α : Type} {a : α} {P : α → Prop} (h : P a) : (R.ok a).Sat P := ⟨a, rfl, h⟩
theorem sat_bind {α β : Type} {m : R α} {f : α → R β} {P : α → Prop} {Q : β → Prop} (h : m.Sat P) (k : ∀ a, P a → (f a).Sat Q) : (m.bind f).Sat Q := by
  obtain ⟨a, rfl, ha⟩ := h
  exact k a ha
theorem sat_mono {α : Type} {m : R α} {P Q : α → Prop} (h : m.Sat P) (k : ∀ a, P a → Q a) : m.Sat Q := by
  obtain ⟨a, e, ha⟩ := h
  exact ⟨a, e, k a ha⟩
theorem eq_of_sat {α : Type} {m : R α} {b : α} (h : m.Sat fun a => a = b) : m = .ok b := by
  obtain ⟨a, rfl, rfl⟩ := h
  rfl
theorem sat_eq {α : Type} {m : R α} {b : α} {P : α → Prop} (e : m = .ok b) (h : P b) : m.Sat P := ⟨b, e, h⟩
theorem loopF_inv {α σ : Type} {f : σ → α → R σ} {xs : List α} {s : σ} (I : Nat → σ → Prop) (h0 : I 0 s) (hs : ∀ i x s, xs[i]? = some x → I i s → (f s x).Sat (I (i + 1))) : (loopF f xs s).Sat (I xs.length) := by
  induction xs generalizing s I with
  | nil => exact sat_ok h0
  | cons x xs ih =>
    refine sat_bind (hs 0 x s rfl h0) fun s' h' => ?_
    exact ih (fun i => I (i + 1)) h' fun i y s e q => hs (i + 1) y s (by simpa using e) q
/-- by the part gone through -/
theorem loopF_pre {α σ : Type} {f : σ → α → R σ} {xs : List α} {s : σ} (I : List α → σ → Prop) (h0 : I [] s) (hs : ∀ pre x post s, xs = pre ++ x :: post → I pre s → (f s x).Sat (I (pre ++ [x]))) : (loopF f xs s).Sat (I xs) := by
  have key : ∀ (ys pre : List α) (s : σ), xs = pre ++ ys → I pre s → (loopF f ys s).Sat (I xs) := by
    intro ys
    induction ys with
    | nil => intro pre s e h; rw [List.append_nil] at e; subst e; exact sat_ok h
    | cons y ys ih =>
      intro pre s e h
      refine sat_bind (hs pre y ys s e h) fun s' h' => ?_
      exact ih (pre ++ [y]) s' (by rw [e]; simp) h'
  exact key xs [] s rfl h0
theorem loopS_none {α ρ : Type} {f : α → R (Option ρ)} {xs : List α} (h : ∀ x ∈ xs, f x = .ok none) : loopS f xs = .ok none := by
  induction xs with
  | nil => rfl
  | cons x xs ih =>
    simp only [loopS, h x List.mem_cons_self, ok_bind]
    exact ih fun y hy => h y (List.mem_cons_of_mem _ hy)
theorem loopS_find {α ρ : Type} {f : α → R (Option ρ)} {g : α → Option ρ} {xs : List α} (h : ∀ x ∈ xs, f x = .ok (g x)) : loopS f xs = .ok (xs.findSome? g) := by
  induction xs with
  | nil => rfl
  | cons x xs ih =>
    simp only [loopS, h x List.mem_cons_self, ok_bind, List.findSome?_cons]
    cases g x with
    | none => exact ih fun y hy => h y (List.mem_cons_of_mem _ hy)
    | some r => rfl
theorem loopS_any {α ρ : Type} {f : α → R (Option ρ)} {p : α → Bool} {r : ρ} {xs : List α} (h : ∀ x ∈ xs, f x = .ok (if p x = true then some r else none)) : loopS f xs = .ok (if xs.any p = true then some r else none) := by
  induction xs with
  | nil => rfl
  | cons x xs ih =>
    have i := ih fun y hy => h y (List.mem_cons_of_mem _ hy)
    simp only [loopS, h x List.mem_cons_self, ok_bind, List.any_cons]
    by_cases e : p x = true
    · simp [e]
    · simp [e, i]
theorem mpGo_eq {α β : Type} {f : α → R β} {g : α → β} {xs : List α} (h : ∀ x ∈ xs, f x = .ok (g x)) : mpGo f xs = .ok (xs.map g) := by
  induction xs with
  | nil => rfl
  | cons x xs ih => simp only [mpGo, h x List.mem_cons_self, noexc_ok, ok_bind, ih fun y hy => h y (List.mem_cons_of_mem _ hy), List.map_cons]
theorem mpM_ok {α β : Type} {f : α → R β} {g : α → β} {xs : List α} (hl : xs.length < 16777216) (h : ∀ x ∈ xs, f x = .ok (g x)) : mpM f xs = .ok (xs.map g) := by
  unfold mpM
  rw [if_pos hl, mpGo_eq h]
theorem lcGo_eq {α β : Type} {p : α → R Bool} {f : α → R β} {q : α → Bool} {g : α → β} {xs : List α} (hp : ∀ x ∈ xs, p x = .ok (q x)) (h : ∀ x ∈ xs, q x = true → f x = .ok (g x)) : lcGo p f xs = .ok ((xs.filter q).map g) := by
  induction xs with
  | nil => rfl
  | cons x xs ih =>
    have i := ih (fun y hy => hp y (List.mem_cons_of_mem _ hy)) fun y hy => h y (List.mem_cons_of_mem _ hy)
    simp only [lcGo, hp x List.mem_cons_self, noexc_ok, ok_bind]
    cases hq : q x with
    | true => rw [if_pos rfl, h x List.mem_cons_self hq, noexc_ok, ok_bind, i, ok_bind, List.filter_cons_of_pos hq, List.map_cons]
    | false => rw [if_neg (by decide), i, List.filter_cons_of_neg (by rw [hq]; decide)]
theorem lcM_ok {α β : Type} {p : α → R Bool} {f : α → R β} {q : α → Bool} {g : α → β} {xs : List α} (hl : xs.length < 16777216) (hp : ∀ x ∈ xs, p x = .ok (q x)) (h : ∀ x ∈ xs, q x = true → f x = .ok (g x)) : lcM p f xs = .ok ((xs.filter q).map g) := by
  unfold lcM
  rw [if_pos hl, lcGo_eq hp h]
theorem ixN_in {n : Nat} {i : Int} (h0 : 0 ≤ i) (h1 : i < n) : ixN n i = some i.toNat := by unfold ixN; rw [if_pos h0, if_pos h1]
theorem ixM_eq {α : Type} {xs : List α} {i : Int} (h0 : 0 ≤ i) (h1 : i < xs.length) : ixM xs i = .ok (xs[i.toNat]'(by omega)) := by
  unfold ixM atI
  rw [ixN_in h0 h1]
  simp only [Option.bind_some]
  rw [List.getElem?_eq_getElem (by omega)]
theorem ixM_nat {α : Type} {xs : List α} {k : Nat} (h : k < xs.length) : ixM xs (k : Int) = .ok xs[k] := by
  rw [ixM_eq (by omega) (by omega)]
  simp
theorem sat_ix {α β : Type} {xs : List α} {i : Int} {f : α → R β} {Q : β → Prop} (h0 : 0 ≤ i) (h1 : i < xs.length) (k : ∀ a, a ∈ xs → (f a).Sat Q) : ((ixM xs i).bind f).Sat Q := by
  rw [ixM_eq h0 h1, ok_bind]
  exact k _ (List.getElem_mem _)
theorem mulM_ok {x y : Int} (h : (-(2 ^ 64) < x ∧ x < 2 ^ 64) ∨ (-(2 ^ 64) < y ∧ y < 2 ^ 64)) : mulM x y = .ok (x * y) := by unfold mulM; rw [if_pos h]
theorem fdivM_ok {x y : Int} (h : 0 < y ∧ y < 1073741824) : fdivM x y = .ok (x / y) := by unfold fdivM; rw [if_pos h]
theorem modM_ok {x y : Int} (h : 0 < y) : modM x y = .ok (x % y) := by unfold modM; rw [if_pos h]
theorem rangeM_ok {n : Int} (h : -(2 ^ 62) ≤ n ∧ n < 2 ^ 62) : rangeM n = .ok (irange 0 n.toNat) := by unfold rangeM; rw [if_pos h]
theorem catM_ok {α : Type} {xs ys : List α} (h : xs.length + ys.length ≤ 16777216) : catM xs ys = .ok (xs ++ ys) := by unfold catM; rw [if_pos h]
theorem pushM_ok {α : Type} {xs : List α} {a : α} (h : xs.length < 16777216) : pushM xs a = .ok (xs ++ [a]) := by unfold pushM; rw [if_pos h]
theorem cutL_len {α : Type} {xs : List α} {lo hi : Option Int} : (cutL xs lo hi).length ≤ xs.length := by
  unfold cutL
  rw [List.length_take, List.length_drop]
  omega
theorem irange_mem {lo : Int} {n : Nat} {x : Int} : x ∈ irange lo n ↔ lo ≤ x ∧ x < lo + n := by
  unfold irange
  rw [List.mem_map]
  constructor
  · rintro ⟨k, hk, rfl⟩
    rw [List.mem_range] at hk
    omega
  · intro h
    exact ⟨(x - lo).toNat, by rw [List.mem_range]; omega, by omega⟩
theorem mem_signs {t : Tx} {x : Tx} : x ∈ signs t ↔ ∃ c ∈ t, x = [c] := by
  unfold signs
  rw [List.mem_map]
  constructor
  · rintro ⟨c, h, rfl⟩; exact ⟨c, h, rfl⟩
  · rintro ⟨c, h, rfl⟩; exact ⟨c, h, rfl⟩
/-! teeth -/
/-- a has all of b's -/
def tHas (a b : Nat) : Bool := a &&& b == b
theorem band_nat (a b : Nat) : Builtin.bitAnd (a : Int) (b : Int) = ((a &&& b : Nat) : Int) := by
  rw [bitAnd_pp (by omega) (by omega)]
  simp
theorem tHas_iff {a b : Nat} (hb : b < 128) : tHas a b = true ↔ ∀ i, i < 7 → b / 2 ^ i % 2 ≤ a / 2 ^ i % 2 := by
  unfold tHas
  rw [beq_iff_eq]
  constructor
  · intro h i hi
    have h2 : (a &&& b).testBit i = b.testBit i := by rw [h]
    rw [Nat.testBit_and, Nat.testBit_eq_decide_div_mod_eq, Nat.testBit_eq_decide_div_mod_eq] at h2
    have h3 := Nat.mod_two_eq_zero_or_one (b / 2 ^ i)
    have h4 := Nat.mod_two_eq_zero_or_one (a / 2 ^ i)
    rcases h3 with h3 | h3 <;> rcases h4 with h4 | h4 <;> simp [h3, h4] at h2 ⊢
  · intro h
    apply Nat.eq_of_testBit_eq
    intro i
    rw [Nat.testBit_and]
    by_cases hi : i < 7
    · have h2 := h i hi
      rw [Nat.testBit_eq_decide_div_mod_eq, Nat.testBit_eq_decide_div_mod_eq]
      have h3 := Nat.mod_two_eq_zero_or_one (b / 2 ^ i)
      have h4 := Nat.mod_two_eq_zero_or_one (a / 2 ^ i)
      rcases h3 with h3 | h3 <;> rcases h4 with h4 | h4 <;> simp [h3, h4] at h2 ⊢
    · have : b.testBit i = false := Nat.testBit_lt_two_pow (Nat.lt_of_lt_of_le hb (by
        have : 2 ^ 7 ≤ 2 ^ i := Nat.pow_le_pow_right (by decide) (by omega)
        omega))
      rw [this, Bool.and_false]
/-- the teeth one by one -/
def bitsHas (a b : Int) : Bool := (irange 0 7).all fun k => decide (b / 2 ^ k.toNat % 2 ≤ a / 2 ^ k.toNat % 2)
theorem bitsHas_eq {a b : Nat} (hb : b < 128) : bitsHas (a : Int) (b : Int) = tHas a b := by
  rw [Bool.eq_iff_iff, tHas_iff hb]
  unfold bitsHas
  rw [List.all_eq_true]
  constructor
  · intro h i hi
    have h2 := h (i : Int) (irange_mem.mpr (by omega))
    rw [decide_eq_true_iff] at h2
    simp only [Int.toNat_natCast] at h2
    have e1 : (b : Int) / 2 ^ i % 2 = ((b / 2 ^ i % 2 : Nat) : Int) := by
      rw [Int.natCast_emod, Int.natCast_ediv, two_pow_cast] <;> rfl
    have e2 : (a : Int) / 2 ^ i % 2 = ((a / 2 ^ i % 2 : Nat) : Int) := by
      rw [Int.natCast_emod, Int.natCast_ediv, two_pow_cast] <;> rfl
    rw [e1, e2] at h2
    omega
  · intro h x hx
    obtain ⟨h0, h1⟩ := irange_mem.mp hx
    obtain ⟨i, rfl⟩ := Int.eq_ofNat_of_zero_le h0
    rw [decide_eq_true_iff]
    simp only [Int.toNat_natCast]
    have e1 : (b : Int) / 2 ^ i % 2 = ((b / 2 ^ i % 2 : Nat) : Int) := by
      rw [Int.natCast_emod, Int.natCast_ediv, two_pow_cast] <;> rfl
    have e2 : (a : Int) / 2 ^ i % 2 = ((a / 2 ^ i % 2 : Nat) : Int) := by
      rw [Int.natCast_emod, Int.natCast_ediv, two_pow_cast] <;> rfl
    rw [e1, e2]
    have := h i (by omega)
    omega
theorem bind_asc {α β γ : Type} (m : R α) (f : α → R β) (g : β → R γ) : (m.bind f).bind g = m.bind fun a => (f a).bind g := by
  cases m <;> rfl
theorem ixK {α : Type} {xs : List α} {k : Nat} {a : α} (h : xs[k]? = some a) : ixM xs (k : Int) = .ok a := by
  obtain ⟨h1, h2⟩ := List.getElem?_eq_some_iff.mp h
  rw [ixM_nat h1, h2]
theorem ix0 {α : Type} {a : α} {xs : List α} : ixM (a :: xs) 0 = .ok a := ixK (k := 0) rfl
theorem ix1 {α : Type} {a0 a : α} {xs : List α} : ixM (a0 :: a :: xs) 1 = .ok a := ixK (k := 1) rfl
theorem ix2 {α : Type} {a0 a1 a : α} {xs : List α} : ixM (a0 :: a1 :: a :: xs) 2 = .ok a := ixK (k := 2) rfl
theorem ix3 {α : Type} {a0 a1 a2 a : α} {xs : List α} : ixM (a0 :: a1 :: a2 :: a :: xs) 3 = .ok a := ixK (k := 3) rfl
theorem ix4 {α : Type} {a0 a1 a2 a3 a : α} {xs : List α} : ixM (a0 :: a1 :: a2 :: a3 :: a :: xs) 4 = .ok a := ixK (k := 4) rfl
theorem ix5 {α : Type} {a0 a1 a2 a3 a4 a : α} {xs : List α} : ixM (a0 :: a1 :: a2 :: a3 :: a4 :: a :: xs) 5 = .ok a := ixK (k := 5) rfl
theorem ix6 {α : Type} {a0 a1 a2 a3 a4 a5 a : α} {xs : List α} : ixM (a0 :: a1 :: a2 :: a3 :: a4 :: a5 :: a :: xs) 6 = .ok a := ixK (k := 6) rfl
theorem ix7 {α : Type} {a0 a1 a2 a3 a4 a5 a6 a : α} {xs : List α} : ixM (a0 :: a1 :: a2 :: a3 :: a4 :: a5 :: a6 :: a :: xs) 7 = .ok a := ixK (k := 7) rfl
theorem pow_at {i : Nat} {x : Int} (h : [(1 : Int), (2 : Int), (4 : Int), (8 : Int), (16 : Int), (32 : Int), (64 : Int)][i]? = some x) : i < 7 ∧ x = 2 ^ i := by
  have hi := (List.getElem?_eq_some_iff.mp h).1
  simp only [List.length_cons, List.length_nil] at hi
  refine ⟨by omega, ?_⟩
  have : i = 0 ∨ i = 1 ∨ i = 2 ∨ i = 3 ∨ i = 4 ∨ i = 5 ∨ i = 6 := by omega
  rcases this with rfl | rfl | rfl | rfl | rfl | rfl | rfl <;> simp at h <;> omega
theorem pow_ix {x : Int} (h0 : 0 ≤ x) (h1 : x < 7) : ixM [(1 : Int), (2 : Int), (4 : Int), (8 : Int), (16 : Int), (32 : Int), (64 : Int)] x = .ok (2 ^ x.toNat) := by
  have : x = 0 ∨ x = 1 ∨ x = 2 ∨ x = 3 ∨ x = 4 ∨ x = 5 ∨ x = 6 := by omega
  rcases this with rfl | rfl | rfl | rfl | rfl | rfl | rfl <;> rfl
theorem pow7 {i : Nat} (h : i < 7) : (0 : Int) < 2 ^ i ∧ (2 : Int) ^ i < 1073741824 := by
  have : i = 0 ∨ i = 1 ∨ i = 2 ∨ i = 3 ∨ i = 4 ∨ i = 5 ∨ i = 6 := by omega
  rcases this with rfl | rfl | rfl | rfl | rfl | rfl | rfl <;> decide
theorem bitsHas_any {a b : Int} : (!(irange 0 7).any fun k => decide (a / 2 ^ k.toNat % 2 < b / 2 ^ k.toNat % 2)) = bitsHas a b := by
  unfold bitsHas
  rw [List.not_any_eq_all_not]
  congr 1
  funext k
  rw [Bool.eq_iff_iff]
  simp only [Bool.not_eq_true', decide_eq_false_iff_not, decide_eq_true_iff]
  omega
theorem band_self {a : Int} (h : 0 ≤ a) : Builtin.bitAnd a a = a := by
  obtain ⟨n, rfl⟩ := Int.eq_ofNat_of_zero_le h
  rw [band_nat, Nat.and_self]
theorem band_zero {a : Int} (h : 0 ≤ a) : Builtin.bitAnd a 0 = 0 := by
  obtain ⟨n, rfl⟩ := Int.eq_ofNat_of_zero_le h
  exact (band_nat n 0).trans (by rw [Nat.and_zero]; rfl)
theorem band_127 {a : Int} (h : 0 ≤ a) (h1 : a < 128) : Builtin.bitAnd 127 a = a := by
  obtain ⟨n, rfl⟩ := Int.eq_ofNat_of_zero_le h
  refine (band_nat 127 n).trans ?_
  rw [Nat.and_comm]
  congr 1
  exact (Nat.and_two_pow_sub_one_eq_mod n 7).trans (Nat.mod_eq_of_lt (by omega))
theorem band_has {a b : Int} (ha : 0 ≤ a) (hb : 0 ≤ b) (hb1 : b < 128) : decide (Builtin.bitAnd a b = b) = bitsHas a b := by
  obtain ⟨n, rfl⟩ := Int.eq_ofNat_of_zero_le ha
  obtain ⟨m, rfl⟩ := Int.eq_ofNat_of_zero_le hb
  rw [bitsHas_eq (by omega), band_nat]
  unfold tHas
  rw [Bool.eq_iff_iff]
  simp only [decide_eq_true_iff, beq_iff_eq]
  omega
/-! texts, slices, comprehensions known in part -/
theorem powM_ok {x y : Int} (h : 0 ≤ y ∧ y ≤ 1000000 ∧ x.natAbs < 2 ^ 64) : powM x y = .ok (x ^ y.toNat) := by unfold powM; rw [if_pos h]
theorem rangeMS_ok {c m n : Int} (h : ((-(2 ^ 62) ≤ m ∧ m < 2 ^ 62) ∧ -(2 ^ 62) ≤ n ∧ n < 2 ^ 62) ∧ 0 < c ∧ c < 1000) : rangeMS c m n = .ok (srange m n c) := by unfold rangeMS; rw [if_pos h]
theorem rangeM2_ok {m n : Int} (h : (-(2 ^ 62) ≤ m ∧ m < 2 ^ 62) ∧ -(2 ^ 62) ≤ n ∧ n < 2 ^ 62) : rangeM2 m n = .ok (irange m (n - m).toNat) := by unfold rangeM2; rw [if_pos h]
theorem rangeM3_ok {m n : Int} (h : (-(2 ^ 62) ≤ m ∧ m < 2 ^ 62) ∧ -(2 ^ 62) ≤ n ∧ n < 2 ^ 62) : rangeM3 m n = .ok (drange m n) := by unfold rangeM3; rw [if_pos h]
theorem catTxM_ok {s t : Tx} (h : s.length + t.length ≤ 16777216) : catTxM s t = .ok (s ++ t) := by unfold catTxM; rw [if_pos h]
theorem joinM_ok {s : Tx} {xs : List Tx} (h : (xs.map List.length).sum + xs.length * s.length ≤ 16777216) : joinM s xs = .ok (TL.joinL s xs) := by unfold joinM; rw [if_pos h]
theorem lenTxM_ok {t : Tx} (h : t.length ≤ 16777216) : lenTxM t = .ok (t.length : Int) := by unfold lenTxM; rw [if_pos h]
theorem sliceTxM_ok {t : Tx} {l h : Option Int} (hz : t.length ≤ 16777216) : sliceTxM t l h = .ok (cutL t l h) := by unfold sliceTxM; rw [if_pos hz]
theorem ixTxM_ok {t : Tx} {i : Int} (hz : t.length ≤ 16777216) (h0 : 0 ≤ i) (h1 : i < t.length) : ixTxM t i = .ok [t[i.toNat]'(by omega)] := by
  unfold ixTxM atI
  rw [if_pos hz, ixN_in h0 h1]
  simp only [Option.bind_some]
  rw [List.getElem?_eq_getElem (by omega)]
theorem cut_take {α : Type} {xs : List α} {k : Int} (h0 : 0 ≤ k) : cutL xs none (some k) = xs.take k.toNat := by
  obtain ⟨n, rfl⟩ := Int.eq_ofNat_of_zero_le h0
  unfold cutL
  rw [HT.sIx_none, HT.sIx_nat, List.drop_zero, Nat.sub_zero, Int.toNat_natCast]
  by_cases h : n ≤ xs.length
  · rw [Nat.min_eq_left h]
  · rw [Nat.min_eq_right (by omega), List.take_of_length_le (Nat.le_refl _), List.take_of_length_le (by omega)]
theorem cut_drop {α : Type} {xs : List α} {k : Int} (h0 : 0 ≤ k) : cutL xs (some k) none = xs.drop k.toNat := by
  obtain ⟨n, rfl⟩ := Int.eq_ofNat_of_zero_le h0
  unfold cutL
  rw [HT.sIx_none, HT.sIx_nat, Int.toNat_natCast]
  by_cases h : n ≤ xs.length
  · rw [Nat.min_eq_left h, List.take_of_length_le (by rw [List.length_drop]; omega)]
  · rw [Nat.min_eq_right (by omega), List.drop_of_length_le (Nat.le_refl _), List.drop_of_length_le (l := xs) (i := n) (by omega), List.take_nil]
theorem cut_mid {α : Type} {xs : List α} {k l : Int} (h0 : 0 ≤ k) (h1 : 0 ≤ l) : cutL xs (some k) (some l) = (xs.take l.toNat).drop k.toNat := by
  obtain ⟨n, rfl⟩ := Int.eq_ofNat_of_zero_le h0
  obtain ⟨m, rfl⟩ := Int.eq_ofNat_of_zero_le h1
  unfold cutL
  rw [HT.sIx_nat, HT.sIx_nat, Int.toNat_natCast, Int.toNat_natCast]
  apply List.ext_getElem?
  intro i
  rw [List.getElem?_take, List.getElem?_drop, List.getElem?_drop, List.getElem?_take]
  by_cases h2 : n ≤ xs.length
  · rw [Nat.min_eq_left h2]
    by_cases h3 : n + i < xs.length
    · by_cases h4 : n + i < m
      · rw [if_pos (by omega), if_pos h4]
      · rw [if_neg (by omega), if_neg h4]
    · rw [List.getElem?_eq_none (by omega)]
      split <;> split <;> rfl
  · rw [List.getElem?_eq_none (by omega), List.getElem?_eq_none (by omega)]
    split <;> split <;> rfl
theorem cut_init {α : Type} {xs : List α} (h : 1 ≤ xs.length) : cutL xs none (some (-1)) = xs.dropLast := by
  have e : HT.sIx xs.length xs.length (some (-1)) = xs.length - 1 := by
    show (if (-1 : Int) < 0 then ((-1 : Int) + (xs.length : Int)).toNat else min (-1 : Int).toNat xs.length) = _
    rw [if_pos (by decide)]
    omega
  unfold cutL
  rw [e, HT.sIx_none, List.drop_zero, List.dropLast_eq_take, Nat.sub_zero]
theorem ix_last {α : Type} {xs : List α} (h : 1 ≤ xs.length) : ixM xs (-1) = .ok (xs[xs.length - 1]'(by omega)) := by
  unfold ixM atI ixN
  rw [if_neg (by decide), if_pos (by omega)]
  simp only [Option.bind_some]
  have e : ((-1 : Int) + (xs.length : Int)).toNat = xs.length - 1 := by omega
  rw [e, List.getElem?_eq_getElem (by omega)]
theorem mpGo_sat {α β : Type} {f : α → R β} {P : β → Prop} : ∀ {xs : List α}, (∀ x ∈ xs, (f x).Sat P) → (mpGo f xs).Sat fun ys => ys.length = xs.length ∧ ∀ y ∈ ys, P y
  | [], _ => sat_ok ⟨rfl, by simp⟩
  | x :: xs, h => by
    unfold mpGo
    obtain ⟨y, e, hy⟩ := h x List.mem_cons_self
    obtain ⟨ys, e2, h2, h3⟩ := mpGo_sat (xs := xs) fun z hz => h z (List.mem_cons_of_mem _ hz)
    rw [e, noexc_ok, ok_bind, e2, ok_bind]
    refine sat_ok ⟨by simp [h2], fun z hz => ?_⟩
    rcases List.mem_cons.mp hz with rfl | hz
    · exact hy
    · exact h3 z hz
theorem mpM_sat {α β : Type} {f : α → R β} {P : β → Prop} {xs : List α} (hl : xs.length < 16777216) (h : ∀ x ∈ xs, (f x).Sat P) : (mpM f xs).Sat fun ys => ys.length = xs.length ∧ ∀ y ∈ ys, P y := by
  unfold mpM
  rw [if_pos hl]
  exact mpGo_sat h
theorem joinL_nil : ∀ xs : List Tx, TL.joinL [] xs = xs.flatten
  | [] => rfl
  | [p] => by simp [TL.joinL]
  | p :: q :: r => by
    rw [TL.joinL, joinL_nil (q :: r)]
    simp
theorem joinL_len {s : Tx} : ∀ xs : List Tx, (TL.joinL s xs).length ≤ (xs.map List.length).sum + xs.length * s.length
  | [] => by simp [TL.joinL]
  | [p] => by simp [TL.joinL]
  | p :: q :: r => by
    have ih := joinL_len (s := s) (q :: r)
    rw [TL.joinL]
    simp only [List.length_append, List.map_cons, List.sum_cons, List.length_cons, Nat.add_mul] at ih ⊢
    omega
theorem sum_len_le {b : Nat} : ∀ {xs : List Tx}, (∀ x ∈ xs, x.length ≤ b) → (xs.map List.length).sum ≤ xs.length * b
  | [], _ => by simp
  | x :: xs, h => by
    have h1 := h x List.mem_cons_self
    have h2 := sum_len_le (xs := xs) fun y hy => h y (List.mem_cons_of_mem _ hy)
    rw [List.map_cons, List.sum_cons, List.length_cons, Nat.add_mul]
    omega
/-- joined: each but the last with the mark behind it, then the last -/
theorem joinL_last {s : Tx} : ∀ {xs : List Tx} (h : 1 ≤ xs.length), TL.joinL s xs = (xs.dropLast.flatMap fun w => w ++ s) ++ xs[xs.length - 1]'(by omega)
  | [p], _ => by simp [TL.joinL]
  | p :: q :: r, _ => by
    have ih := joinL_last (s := s) (xs := q :: r) (by simp)
    rw [TL.joinL, ih]
    simp
end M

namespace LW
open PySem PySem.Spec PyProof.Rows L2 M
/-! ### texts -/
def tx0 : Tx := [97, 98, 99, 100, 101, 102, 103, 104, 105, 106, 107, 108, 109, 110, 111, 112, 113, 114, 115, 116, 117, 118, 119, 120, 121, 122, 46, 44, 45, 39]
def tx1 : Tx := [111, 100, 100]
def tx2 : Tx := [114, 101, 102, 117, 115, 101, 100]
def tx3 : Tx := [116, 111, 108, 100]
abbrev nx_CasterError : Nat := 0
abbrev nx_NoCase : Nat := 1
abbrev nx_NoKeys : Nat := 2
/-! ### things with parts -/
/-! ### mirrors -/
/-- _law_mixed -/
noncomputable def l_mixed (vcell : Int) (vk : Int) : R Int :=
  R.bind (R.bind (R.bind (R.bind (R.bind (mulM (7919 * vk) vk) fun z1 => .ok ((vcell % 2147483647) + z1)) fun z2 => .ok (z2 + vk)) fun z3 => .ok (z3 + (1 : Int))) fun z4 => .ok (z4 * 48271)) fun z5 => .ok (z5 % 2147483647)

/-- _law_bits -/
noncomputable def l_bits (vone_here : Int) : R Int :=
  let vmany : Int := (0 : Int)
  R.bind (whileF (fun (s6 : Int × Int) => .ok (decide ((0 : Int) < s6.2))) (fun (s6 : Int × Int) => let vmany_1 : Int := s6.1 + (s6.2 % 2)
  let vone_here_1 : Int := s6.2 / 2
  .ok (vmany_1, vone_here_1)) 1000000 (vmany, vone_here)) fun (s8 : Int × Int) => .ok s8.1

/-- _law_teeth -/
noncomputable def l_teeth (vnumber : Int) (vmany : Int) : R (List Int) :=
  let vteeth_here : (List Int) := ([] : List Int)
  R.bind (R.bind (rangeM vmany) fun z14 => loopF (fun (s9 : Int × (List Int)) (x10 : Int) => let vnumber_1 : Int := (((s9.1 + x10) + (1 : Int)) * 69621) % 2147483647
  let vone_here : Int := (vnumber_1 / 7) % 128
  R.bind (whileF (fun (s11 : Int) => .ok (decide (s11 ∈ s9.2))) (fun (s11 : Int) => let vone_here_1 : Int := (s11 + (1 : Int)) % 128
  .ok vone_here_1) 1000000 vone_here) fun (s13 : Int) => R.bind (pushM s9.2 s13) fun (vteeth_here_1 : (List Int)) => .ok (vnumber_1, vteeth_here_1)) z14 (vnumber, vteeth_here)) fun (s15 : Int × (List Int)) => R.bind (R.bind (mpM (fun (x18 : Int) => R.bind (l_bits x18) fun z19 => .ok (z19, x18)) s15.2) fun z20 => .ok (upD z20)) fun z22 => mpM (fun (x21 : (Int × Int)) => .ok x21.2) z22

/-- _law_cell_at -/
noncomputable def l_cell_at (vscript : (List Int)) (vk : Int) : R Int :=
  if (decide (vk < (List.length vscript : Int))) = true then ixM vscript vk else .ok (0 : Int)

/-- _law_case -/
noncomputable def l_case (vscript : (List Int)) (vmost : Int) : R (List (T4 Tx Int Int Int)) :=
  let vsigns : Tx := tx0
  R.bind (R.bind (l_cell_at vscript (0 : Int)) fun z23 => l_mixed z23 (90 : Int)) fun (vnumber : Int) => R.bind (l_teeth vnumber ((1 : Int) + ((vnumber / 3) % 6))) fun (vteeth_here : (List Int)) => let vcase_here : (List (T4 Tx Int Int Int)) := ([] : List (T4 Tx Int Int Int))
  R.bind (loopF (fun (s24 : Int × (List (T4 Tx Int Int Int))) (x25 : (Int × Int)) => let vnumber_1 : Int := (((s24.1 + x25.1) + (1 : Int)) * 48271) % 2147483647
  R.bind (R.bind (R.bind (R.bind (R.bind (l_cell_at vscript (0 : Int)) fun z26 => .ok (z26 / 7)) fun z27 => .ok (z27 + (11 * x25.1))) fun z28 => .ok (z28 % 30)) fun z29 => ixTxM vsigns z29) fun (vsign : Tx) => R.bind (R.bind (R.bind (modM (vnumber_1 / 500) (vmost + (1 : Int))) fun z30 => .ok (T4.mk vsign ((1 : Int) + ((vnumber_1 / 5) % 99)) x25.2 z30)) fun z31 => pushM s24.2 z31) fun (vcase_here_1 : (List (T4 Tx Int Int Int))) => .ok (vnumber_1, vcase_here_1)) (enumL vteeth_here) (vnumber, vcase_here)) fun (s32 : Int × (List (T4 Tx Int Int Int))) => .ok s32.2

/-- _law_due -/
noncomputable def l_due (vcase_here : (List (T4 Tx Int Int Int))) (vbroken : (List (Int × Int))) : R Dy :=
  R.bind (mpM (fun (x33 : (T4 Tx Int Int Int)) => repM [(x33.1, x33.3)] x33.4) vcase_here) fun (vlanes : (List (List (Tx × Int)))) => R.bind (repM [(0 : Int)] (List.length vcase_here : Int)) fun (vused : (List Int)) => R.bind (loopC (fun (s34 : (List (List (Tx × Int))) × (List Int)) (x35 : (Int × (Int × Int))) => let t36 : (Int × Int) := x35.2
  R.bind (if (!(decide ((0 : Int) ≤ t36.1) && decide (t36.1 < (List.length vcase_here : Int)))) = true then .ok true else R.bind (ixM s34.2 t36.1) fun z38 => R.bind (R.bind (ixM vcase_here t36.1) fun z37 => .ok z37.4) fun z39 => .ok (decide (z38 = z39))) fun z50 => if z50 = true then .ok (Ct.rt (up x35.1)) else R.bind (R.bind (ixM vcase_here t36.1) fun z40 => .ok z40.3) fun (vown : Int) => if ((decide (t36.2 < (1 : Int))) || (!decide ((Builtin.bitAnd t36.2 vown) = t36.2))) = true then .ok (Ct.rt (up x35.1)) else R.bind (R.bind (R.bind (R.bind (ixM vcase_here t36.1) fun z41 => .ok z41.1) fun z42 => .ok (z42, vown - t36.2)) fun z46 => R.bind (ixJ s34.1 t36.1) fun z43 => R.bind (ixM s34.2 t36.1) fun z47 => R.bind (setM z43.2 z47 z46) fun z44 => .ok (z43, z44)) fun (s45 : (Nat × (List (Tx × Int))) × (List (Tx × Int))) => R.bind (R.bind (R.bind (ixM s34.2 t36.1) fun z48 => .ok (z48 + (1 : Int))) fun z49 => setM s34.2 t36.1 z49) fun (vused_1 : (List Int)) => .ok (Ct.nx ((List.set s34.1 s45.1.1 s45.2), vused_1))) (enumL vbroken) (vlanes, vused)) (ctK (fun (s51 : (List (List (Tx × Int))) × (List Int)) => .ok (up s51.1)) (fun (r52 : Dy) => r52))

/-- has_all -/
noncomputable def p_has_all (vteeth : Int) (vothers : Int) : R Bool :=
  .ok (decide ((Builtin.bitAnd vteeth vothers) = vothers))

/-- channels_of -/
noncomputable def p_channels_of (vcase : (List (T4 Tx Int Int Int))) (vbroken : (List (Int × Int))) : R (List (List (Tx × Int))) :=
  R.bind (mpM (fun (x53 : (T4 Tx Int Int Int)) => repM [(x53.1, x53.3)] x53.4) vcase) fun (vfound : (List (List (Tx × Int)))) => R.bind (repM [(0 : Int)] (List.length vcase : Int)) fun (vtold : (List Int)) => R.bind (loopF (fun (s54 : (List (List (Tx × Int))) × (List Int)) (x55 : (Int × (Int × Int))) => let t56 : (Int × Int) := x55.2
  R.bind (if (decide (t56.1 < (0 : Int))) = true then .ok true else if (decide ((List.length vcase : Int) ≤ t56.1)) = true then .ok true else R.bind (ixM s54.2 t56.1) fun z58 => R.bind (R.bind (ixM s54.1 t56.1) fun z57 => .ok (List.length z57 : Int)) fun z59 => .ok (decide (z58 = z59))) fun z70 => if z70 = true then .exc 1 (some x55.1) else R.bind (R.bind (ixM s54.1 t56.1) fun z60 => R.bind (ixM s54.2 t56.1) fun z61 => ixM z60 z61) fun (t62 : (Tx × Int)) => R.bind (if (decide (t56.2 < (1 : Int))) = true then .ok true else R.bind (p_has_all t62.2 t56.2) fun z63 => .ok (!z63)) fun z69 => if z69 = true then .exc 1 (some x55.1) else R.bind (R.bind (ixJ s54.1 t56.1) fun z64 => R.bind (ixM s54.2 t56.1) fun z67 => R.bind (setM z64.2 z67 (t62.1, t62.2 - t56.2)) fun z65 => .ok (z64, z65)) fun (s66 : (Nat × (List (Tx × Int))) × (List (Tx × Int))) => R.bind (R.bind (ixM s54.2 t56.1) fun z68 => setM s54.2 t56.1 (z68 + (1 : Int))) fun (vtold_1 : (List Int)) => .ok ((List.set s54.1 s66.1.1 s66.2), vtold_1)) (enumL vbroken) (vfound, vtold)) fun (s71 : (List (List (Tx × Int))) × (List Int)) => .ok s71.1

/-- _law_told -/
noncomputable def l_told (vcase_here : (List (T4 Tx Int Int Int))) (vbroken : (List (Int × Int))) : R (W2 Tx Dy) :=
  R.bind (tryN (R.bind (p_channels_of vcase_here vbroken) fun (vfound : (List (List (Tx × Int)))) => .ok vfound) (fun (s72 : (List (List (Tx × Int)))) => .ok (Ct.nx s72)) (pickN (([1], (fun (en74 : Nat) (ev74 : Option Int) => if ((!(inN [1] en74)) || ((!(inN [1] en74)) || (inN [] en74))) = true then .ok (Ct.rt (W2.mk tx1 (up ()))) else R.bind (if inN [1] en74 = true then payM ev74 else .stuck) fun z75 => .ok (Ct.rt (W2.mk tx2 (up z75))))) :: []))) (ctK (fun (s76 : (List (List (Tx × Int)))) => .ok (W2.mk tx3 (up s76))) (fun (r77 : (W2 Tx Dy)) => r77))

/-- _law_right -/
noncomputable def l_right (vcase_here : (List (T4 Tx Int Int Int))) (vbroken : (List (Int × Int))) : R Bool :=
  let vhanded : (W2 (List (T4 Tx Int Int Int)) (List (Int × Int))) := (W2.mk vcase_here vbroken)
  R.bind (l_due vcase_here vbroken) fun (vone_here : Dy) => R.bind (R.bind (ixM [tx2, tx3] (if (isi (Enc.enc vone_here) PT.lst) = true then (1 : Int) else 0)) fun z78 => .ok (W2.mk z78 vone_here)) fun (vdue_here : (W2 Tx Dy)) => R.bind (l_told vhanded.1 vhanded.2) fun (w79 : (W2 Tx Dy)) => if ((!PyData.eqv (Enc.enc w79) (Enc.enc vdue_here)) || ((isi (Enc.enc w79.2) PT.bl) || (!decide (vhanded = (W2.mk vcase_here vbroken))))) = true then .ok false else R.bind (if (isi (Enc.enc w79.2) PT.lst) = true then R.bind (R.bind (dnM w79.2 : R (List (List AnyD))) fun xss => mpXGo (fun (ys : List AnyD) => pushM ys (AnyD.mk .none)) xss) fun (y81 : List (List AnyD)) => R.bind (.ok ()) fun (u82 : Unit) => .ok () else .ok ()) fun (s83 : Unit) => R.bind (l_told vcase_here vbroken) fun z84 => .ok (PyData.eqv (Enc.enc z84) (Enc.enc vdue_here))

/-- _law_one -/
noncomputable def l_one (vcase_here : (List (T4 Tx Int Int Int))) (vnumber : Int) : R (Int × Int) :=
  R.bind (modM vnumber (List.length vcase_here : Int)) fun (vchannel : Int) => if (decide (((vnumber / 7) % 9) = (0 : Int))) = true then R.bind (ixM [-(1 : Int), (List.length vcase_here : Int), (List.length vcase_here : Int) + ((vnumber / 63) % 9)] ((vnumber / 700) % 3)) fun (vchannel_1 : Int) => .ok (vchannel_1, (1 : Int)) else R.bind (R.bind (ixM vcase_here vchannel) fun z85 => .ok z85.3) fun (vown : Int) => let vother : Int := (vnumber / 630) % 128
  R.bind (ixM [Builtin.bitAnd vown vother, Builtin.bitAnd vown vother, vown, (0 : Int), vother, vown + (128 : Int), (0 : Int) - (1 : Int), Builtin.bitAnd vown vother] ((vnumber / 63) % 8)) fun (vlost : Int) => .ok (vchannel, vlost)

/-- law -/
noncomputable def law_ (vscript : (List Int)) : R Bool :=
  R.bind (l_case vscript (5 : Int)) fun (vcase_here : (List (T4 Tx Int Int Int))) => let vgood : (List (Int × Int)) := ([] : List (Int × Int))
  R.bind (loopC (fun (s86 : (List (Int × Int))) (x87 : (Int × Int)) => R.bind (R.bind (l_mixed x87.2 x87.1) fun z88 => l_one vcase_here z88) fun (vone_here : (Int × Int)) => R.bind (R.bind (R.bind (R.bind (catM s86 [vone_here]) fun z89 => l_right vcase_here z89) fun z90 => .ok (!z90)) fun z93 => if z93 = true then .ok true else R.bind (R.bind (catM [vone_here] s86) fun z91 => l_right vcase_here z91) fun z92 => .ok (!z92)) fun z97 => if z97 = true then .ok (Ct.rt false) else R.bind (R.bind (R.bind (catM s86 [vone_here]) fun z94 => l_due vcase_here z94) fun z95 => .ok (isi (Enc.enc z95) PT.lst)) fun z96 => if z96 = true then R.bind (catM s86 [vone_here]) fun (vgood_1 : (List (Int × Int))) => .ok (Ct.nx vgood_1) else .ok (Ct.nx s86)) (enumL (cutL vscript (some (1 : Int)) (some (21 : Int)))) vgood) (ctK (fun (s98 : (List (Int × Int))) => l_right vcase_here ([] : List (Int × Int))) (fun (r99 : Bool) => r99))

theorem tx0_is : TxIs (Str.ofString "abcdefghijklmnopqrstuvwxyz.,-'") tx0 := ⟨by decide +kernel, by decide +kernel⟩
theorem tx1_is : TxIs (Str.ofString "odd") tx1 := ⟨by decide +kernel, by decide +kernel⟩
theorem tx2_is : TxIs (Str.ofString "refused") tx2 := ⟨by decide +kernel, by decide +kernel⟩
theorem tx3_is : TxIs (Str.ofString "told") tx3 := ⟨by decide +kernel, by decide +kernel⟩
/-! ### the text -/
def iniS (i : Nat) : Stmt := match PySem.Challenge.pw_linecaster_k40_broken_matrices_told.main.body.getD i (.Pass ⟨0, 0, 0, 0⟩) with | .ClassDef _ _ _ (b :: _) _ _ _ _ _ _ _ => b | st => st
def topS (i : Nat) : Stmt := PySem.Challenge.pw_linecaster_k40_broken_matrices_told.main.body.getD i (.Pass ⟨0, 0, 0, 0⟩)
/-- what the walks ask of the written part -/
structure TX (K : PySem.W.Frag) (mg : Str → Option Value) where
  ct : CT
  f__law_mixed : Addr
  d__law_mixed : FuncData
  F__law_mixed : Fun K "_law_mixed" "_law_mixed" (topS 10) f__law_mixed d__law_mixed
  b__law_mixed : Binds K d__law_mixed ["_law_cell", "_law_k"] []
  g__law_mixed : mg "_law_mixed" = some (.ref f__law_mixed)
  k__law_mixed : PySem.W.keepIn K (.ref f__law_mixed) = true
  f__law_bits : Addr
  d__law_bits : FuncData
  F__law_bits : Fun K "_law_bits" "_law_bits" (topS 11) f__law_bits d__law_bits
  b__law_bits : Binds K d__law_bits ["_law_one_here"] []
  g__law_bits : mg "_law_bits" = some (.ref f__law_bits)
  k__law_bits : PySem.W.keepIn K (.ref f__law_bits) = true
  f__law_teeth : Addr
  d__law_teeth : FuncData
  F__law_teeth : Fun K "_law_teeth" "_law_teeth" (topS 12) f__law_teeth d__law_teeth
  b__law_teeth : Binds K d__law_teeth ["_law_number", "_law_many"] []
  g__law_teeth : mg "_law_teeth" = some (.ref f__law_teeth)
  k__law_teeth : PySem.W.keepIn K (.ref f__law_teeth) = true
  f__law_cell_at : Addr
  d__law_cell_at : FuncData
  F__law_cell_at : Fun K "_law_cell_at" "_law_cell_at" (topS 9) f__law_cell_at d__law_cell_at
  b__law_cell_at : Binds K d__law_cell_at ["_law_script", "_law_k"] []
  g__law_cell_at : mg "_law_cell_at" = some (.ref f__law_cell_at)
  k__law_cell_at : PySem.W.keepIn K (.ref f__law_cell_at) = true
  f__law_case : Addr
  d__law_case : FuncData
  F__law_case : Fun K "_law_case" "_law_case" (topS 13) f__law_case d__law_case
  b__law_case : Binds K d__law_case ["_law_script", "_law_most"] []
  g__law_case : mg "_law_case" = some (.ref f__law_case)
  k__law_case : PySem.W.keepIn K (.ref f__law_case) = true
  f__law_due : Addr
  d__law_due : FuncData
  F__law_due : Fun K "_law_due" "_law_due" (topS 15) f__law_due d__law_due
  b__law_due : Binds K d__law_due ["_law_case_here", "_law_broken"] []
  g__law_due : mg "_law_due" = some (.ref f__law_due)
  k__law_due : PySem.W.keepIn K (.ref f__law_due) = true
  f_has_all : Addr
  d_has_all : FuncData
  F_has_all : Fun K "has_all" "has_all" (topS 5) f_has_all d_has_all
  b_has_all : Binds K d_has_all ["teeth", "others"] []
  g_has_all : mg "has_all" = some (.ref f_has_all)
  k_has_all : PySem.W.keepIn K (.ref f_has_all) = true
  f_channels_of : Addr
  d_channels_of : FuncData
  F_channels_of : Fun K "channels_of" "channels_of" (topS 7) f_channels_of d_channels_of
  b_channels_of : Binds K d_channels_of ["case", "broken"] []
  g_channels_of : mg "channels_of" = some (.ref f_channels_of)
  k_channels_of : PySem.W.keepIn K (.ref f_channels_of) = true
  f__law_told : Addr
  d__law_told : FuncData
  F__law_told : Fun K "_law_told" "_law_told" (topS 16) f__law_told d__law_told
  b__law_told : Binds K d__law_told ["_law_case_here", "_law_broken"] []
  g__law_told : mg "_law_told" = some (.ref f__law_told)
  k__law_told : PySem.W.keepIn K (.ref f__law_told) = true
  f__law_right : Addr
  d__law_right : FuncData
  F__law_right : Fun K "_law_right" "_law_right" (topS 17) f__law_right d__law_right
  b__law_right : Binds K d__law_right ["_law_case_here", "_law_broken"] []
  g__law_right : mg "_law_right" = some (.ref f__law_right)
  k__law_right : PySem.W.keepIn K (.ref f__law_right) = true
  f__law_one : Addr
  d__law_one : FuncData
  F__law_one : Fun K "_law_one" "_law_one" (topS 14) f__law_one d__law_one
  b__law_one : Binds K d__law_one ["_law_case_here", "_law_number"] []
  g__law_one : mg "_law_one" = some (.ref f__law_one)
  k__law_one : PySem.W.keepIn K (.ref f__law_one) = true
  f_law : Addr
  d_law : FuncData
  F_law : Fun K "law" "law" (topS 18) f_law d_law
  b_law : Binds K d_law ["_law_script"] []
  g_law : mg "law" = some (.ref f_law)
  k_law : PySem.W.keepIn K (.ref f_law) = true
  e_CasterError : Addr
  g_CasterError : mg "CasterError" = some (.ref e_CasterError)
  z_CasterError : ct.cls 0 = e_CasterError
  s1_CasterError : PySem.W.specialIn K (.ref e_CasterError) "__getattribute__" = some (some (.builtin "type.__getattribute__"))
  s2_CasterError : PySem.W.readsIn K e_CasterError (.type "type") = true
  s3_CasterError : PySem.W.findCls K (.ref e_CasterError) (.type "type") "__init__" = some (.val (.builtin "ValueError.__init__"))
  e_NoCase : Addr
  g_NoCase : mg "NoCase" = some (.ref e_NoCase)
  z_NoCase : ct.cls 1 = e_NoCase
  x_NoCase : OexC K e_NoCase
  w_NoCase : ct.fld 1 = some "at"
  i_NoCase : Addr
  id_NoCase : FuncData
  F_NoCase : Fun K "__init__" "NoCase.__init__" (iniS 2) i_NoCase id_NoCase
  bI_NoCase : Binds K id_NoCase ["self", "at"] []
  iC_NoCase : PySem.W.findIn K (.ref e_NoCase) "__init__" = some (some (.ref i_NoCase))
  tI_NoCase : PySem.W.typeIn K (.ref i_NoCase) = some (.type "function")
  no_NoCase : PySem.W.findIn K (.ref e_NoCase) "at" = some none
  e_NoKeys : Addr
  g_NoKeys : mg "NoKeys" = some (.ref e_NoKeys)
  z_NoKeys : ct.cls 2 = e_NoKeys
  v_NoCase : ExcC K (ct.cls 1)
  nc_NoCase : PySem.W.findIn K (.ref (ct.cls 1)) "at" = some none
  q_NoCase_NoCase : PySem.W.kitOne K (.ref (ct.cls 1)) (.ref e_NoCase) = some true
  q_NoCase_NoKeys : PySem.W.kitOne K (.ref (ct.cls 1)) (.ref e_NoKeys) = some false
  q_NoCase_ValueError : PySem.W.kitOne K (.ref (ct.cls 1)) (.type "ValueError") = some true
  m_NoCase_CasterError : PySem.W.exmOne K (.ref (ct.cls 1)) (.ref e_CasterError) = some true
  n_ValueError : mg "ValueError" = none
  n_bool : mg "bool" = none
  n_enumerate : mg "enumerate" = none
  n_int : mg "int" = none
  n_isinstance : mg "isinstance" = none
  n_len : mg "len" = none
  n_list : mg "list" = none
  n_range : mg "range" = none
  n_sorted : mg "sorted" = none
theorem u1 {A : Around} {k : Nat} (hr : Room k A) : A.units + 1 < cLine := by have := hr.un; omega
theorem u65h {A : Around} {k : Nat} (hr : L2H.RoomH k A) : A.units + 65 < cLine := by have := hr.un; omega
theorem u64h {A : Around} {k : Nat} (hr : L2H.RoomH k A) : A.units + 64 < cLine := by have := hr.un; omega
theorem u66 {A : Around} {k : Nat} (hr : Room k A) : A.units + 66 < cLine := by have := hr.un; omega
theorem u65 {A : Around} {k : Nat} (hr : Room k A) : A.units + 65 < cLine := by have := hr.un; omega
theorem scI_NoCase : FnScope ["self", "at"] ["self", "at"] (defScope (iniS 2)) := ⟨rfl, rfl, rfl, by decide +kernel, rfl, by decide +kernel, by decide +kernel⟩
theorem okI_NoCase {P : Program} {w : World} {K : PySem.W.Frag} {mg : Str → Option Value} {base : Heap} (T : TX K mg) : FnOk P w K mg base (L2.CX P w) 1 T.i_NoCase T.id_NoCase ["self", "at"] (initSp T.e_NoCase "at") :=
  init_go T.F_NoCase scI_NoCase rfl fun cdv A outer s H E => ⟨_, pss_cons (ps_expr (pe_oinit rfl T.g_CasterError T.s1_CasterError T.s2_CasterError T.s3_CasterError (pa_cons (pv 0) (pa_cons pe_str pa_nil)))) (pss_one (ps_ost (pv 0) (pv 1))), fun a v Q e k => init_end T.x_NoCase T.no_NoCase e k⟩
abbrev s_l_mixed : Stmt := topS 10
theorem sc_l_mixed : FnScope ["_law_cell", "_law_k"] ["_law_cell", "_law_k"] (defScope s_l_mixed) := ⟨rfl, rfl, rfl, by decide +kernel, rfl, by decide +kernel, by decide +kernel⟩
theorem ok_l_mixed {P : Program} {w : World} {K : PySem.W.Frag} {mg : Str → Option Value} {base : Heap} (T : TX K mg) : FnOk P w K mg base (L2.CX P w) 1 T.f__law_mixed T.d__law_mixed ["_law_cell", "_law_k"] (PrS T.ct K (fun t : Int × Int × Unit => [Enc.enc t.1, Enc.enc t.2.1]) (fun t : Int × Int × Unit => l_mixed t.1 t.2.1)) :=
  fn_S T.F__law_mixed sc_l_mixed (fun _ => rfl) (fun r => .rt (Enc.enc r)) (fun _ => .inl rfl) fun cdv A outer s H E B ⟨vcell, vk, _⟩ hr =>
    show BD _ _ _ (l_mixed vcell vk) _ from BD.cast
    (BD.ret0 (ES.modk (k := 2147483647) (ES.mulk (k := 48271) (ES.add (ES.add (ES.add (ES.modk (k := 2147483647) (ES.name (i := 0) (a := vcell) rfl rfl)) (ES.mul (ES.kmul (k := 7919) (ES.name (i := 1) (a := vk) rfl rfl)) (ES.name (i := 1) (a := vk) rfl rfl))) (ES.name (i := 1) (a := vk) rfl rfl)) (ES.int (i := 1))))) (pdl fun _ _ h => h)) (by unfold l_mixed; first | (simp only [ok_bind]; done) | (simp only [ok_bind, M.bind_assoc]; done) | (simp only [ok_bind]; rfl) | rfl | (simp only [ok_bind, M.bind_assoc]; rfl))

abbrev s_l_bits : Stmt := topS 11
theorem sc_l_bits : FnScope ["_law_one_here", "_law_many"] ["_law_one_here"] (defScope s_l_bits) := ⟨rfl, rfl, rfl, by decide +kernel, rfl, by decide +kernel, by decide +kernel⟩
theorem ok_l_bits {P : Program} {w : World} {K : PySem.W.Frag} {mg : Str → Option Value} {base : Heap} (T : TX K mg) : FnOk P w K mg base (L2.CX P w) 1 T.f__law_bits T.d__law_bits ["_law_one_here"] (PrS T.ct K (fun t : Int × Unit => [Enc.enc t.1]) (fun t : Int × Unit => l_bits t.1)) :=
  fn_S T.F__law_bits sc_l_bits (fun _ => rfl) (fun r => .rt (Enc.enc r)) (fun _ => .inl rfl) fun cdv A outer s H E B ⟨vone_here, _⟩ hr =>
    show BD _ _ _ (l_bits vone_here) _ from BD.cast
    (BD.seq (BS.asg (i := 1) (ES.int (i := 0)) (pdl fun _ _ h => h) sc_l_bits.nd rfl (.inl rfl)) (fun _ => rfl) fun vmany => (BD.seq (BS.whF (fun (s6 : Int × Int) => [.va (Enc.enc s6.2), .va (Enc.enc s6.1)]) (vmany, vone_here) 1000000 (by exact (.keep (.keep Wk.nil))) (fun _ => (pdl fun _ _ h => h)) (fun s6 => (ET.gt (ES.name (i := 0) (a := s6.2) rfl rfl) (ES.int (i := 0)))) (fun s6 => (BD.seq (BS.asg (i := 1) (ES.add (ES.name (i := 1) (a := s6.1) rfl rfl) (ES.modk (k := 2) (ES.name (i := 0) (a := s6.2) rfl rfl))) (pdl fun _ _ h => h) sc_l_bits.nd rfl (.inl rfl)) (fun _ => rfl) fun vmany_1 => (BD.seq (BS.asg (i := 0) (ES.fdivk (k := 2) (ES.name (i := 0) (a := s6.2) rfl rfl)) (pdl fun _ _ h => h) sc_l_bits.nd rfl (.inl rfl)) (fun _ => rfl) fun vone_here_1 => (BD.nil (b := (vmany_1, vone_here_1)) rfl (by exact (.keep (.keep Wk.nil)))))))) (fun _ => rfl) fun s8 => (BD.ret0 (ES.name (i := 1) (a := s8.1) rfl rfl) (pdl fun _ _ h => h)))) (by unfold l_bits; first | (simp only [ok_bind]; done) | (simp only [ok_bind, M.bind_assoc]; done) | (simp only [ok_bind]; rfl) | rfl | (simp only [ok_bind, M.bind_assoc]; rfl))

abbrev s_l_teeth : Stmt := topS 12
theorem sc_l_teeth : FnScope ["_law_number", "_law_many", "_law_teeth_here", "_law_k", "_law_one_here", "_law_bits_here"] ["_law_number", "_law_many"] (defScope s_l_teeth) := ⟨rfl, rfl, rfl, by decide +kernel, rfl, by decide +kernel, by decide +kernel⟩
theorem ok_l_teeth {P : Program} {w : World} {K : PySem.W.Frag} {mg : Str → Option Value} {base : Heap} (T : TX K mg) : FnOk P w K mg base (L2.CX P w) 2 T.f__law_teeth T.d__law_teeth ["_law_number", "_law_many"] (PrF T.ct K (fun t : Int × Int × Unit => [Enc.enc t.1, Enc.enc t.2.1]) (fun t : Int × Int × Unit => l_teeth t.1 t.2.1)) :=
  fn_F T.F__law_teeth sc_l_teeth (fun _ => rfl) fun cdv A outer s H E B ⟨vnumber, vmany, _⟩ hr =>
    show BD _ _ _ (l_teeth vnumber vmany) _ from BD.cast
    (BD.seq (BS.asgF (i := 2) (EF.nil (α := Int)) (pdl fun _ _ h => h) sc_l_teeth.nd rfl (.inl rfl)) (fun _ => rfl) fun vteeth_here => (BD.seq (BS.forF (IT.range (ES.name (i := 1) (a := vmany) rfl rfl) T.n_range) (pg_name (i := 3) sc_l_teeth.nd rfl (.inl rfl)) TgS.name (fun (s9 : Int × (List Int)) => [.va (Enc.enc s9.1), .va (Enc.enc vmany), .ow (List.map Enc.enc s9.2), .no, .no, .no]) (vnumber, vteeth_here) (by exact (.keep (.keep (.keep (.drop (.drop (.drop Wk.nil))))))) (pdl fun _ _ h => h) (fun _ s9 x10 => (BD.wk (Γ' := [.va (Enc.enc s9.1), .va (Enc.enc vmany), .ow (List.map Enc.enc s9.2), .va (Enc.enc x10), .no, .no]) (BD.seq (BS.asg (i := 0) (ES.modk (k := 2147483647) (ES.mulk (k := 69621) (ES.add (ES.add (ES.name (i := 0) (a := s9.1) rfl rfl) (ES.name (i := 3) (a := x10) rfl rfl)) (ES.int (i := 1))))) (pdl fun _ _ h => h) sc_l_teeth.nd rfl (.inl rfl)) (fun _ => rfl) fun vnumber_1 => (BD.seq (BS.asg (i := 4) (ES.modk (k := 128) (ES.fdivk (k := 7) (ES.name (i := 0) (a := vnumber_1) rfl rfl))) (pdl fun _ _ h => h) sc_l_teeth.nd rfl (.inl rfl)) (fun _ => rfl) fun vone_here => (BD.seq (BS.whF (fun (s11 : Int) => [.va (Enc.enc vnumber_1), .va (Enc.enc vmany), .ow (List.map Enc.enc s9.2), .va (Enc.enc x10), .va (Enc.enc s11), .no]) vone_here 1000000 (by exact (.keep (.keep (.keep (.keep (.keep (.drop Wk.nil))))))) (fun _ => (pdl fun _ _ h => h)) (fun s11 => (ET.inL (u65 hr) (ES.val (ES.name (i := 4) (a := s11) rfl rfl)) (EL.val (EL.own (i := 2) (a := s9.2) rfl rfl)))) (fun s11 => (BD.seq (BS.asg (i := 4) (ES.modk (k := 128) (ES.add (ES.name (i := 4) (a := s11) rfl rfl) (ES.int (i := 1)))) (pdl fun _ _ h => h) sc_l_teeth.nd rfl (.inl rfl)) (fun _ => rfl) fun vone_here_1 => (BD.nil (b := vone_here_1) rfl (by exact (.keep (.keep (.keep (.keep (.keep (.drop Wk.nil))))))))))) (fun _ => rfl) fun s13 => (BD.seq (BS.app (i := 2) (xs := s9.2) (fun _ h => pe_bm PySem.F.plainAttrs_list PySem.F.slot_list_append PySem.F.type_list_append mt_append (pv 2) (pa_cons h pa_nil)) (ES.name (i := 4) (a := s13) rfl rfl) (pdl fun _ _ h => h) rfl) (fun _ => rfl) fun vteeth_here_1 => (BD.nil (b := (vnumber_1, vteeth_here_1)) rfl (by exact (.keep (.keep (.keep (.drop (.drop (.drop Wk.nil)))))))))))) (by exact (.keep (.keep (.keep (.keep (.drop (.drop Wk.nil)))))))))) (fun _ => rfl) fun s15 => (BD.freeze (i := 2) (xs := s15.2) rfl (BD.retF0 (EF.mp [("_law_bits_here", 5), ("_law_one_here", 4)] rfl sc_l_teeth.nd (IT.list (EF.st (EF.sortD (u66 hr) (EF.li (EF.mp [("_law_one_here", 4)] rfl sc_l_teeth.nd (IT.list (ES.name (i := 2) (a := s15.2) rfl rfl)) (blkOk_by (N := ["_law_number", "_law_many", "_law_teeth_here", "_law_k", "_law_one_here", "_law_bits_here"]) (sc := defScope s_l_teeth) (by decide +kernel)) (fun _ _ _ _ _ => (pg_name (i := 4) sc_l_teeth.nd rfl (.inl rfl))) TgS.name (by decide) (fun _ _ _ _ _ _ x18 => (ES.tup (EA.cons (ES.call (ok_l_bits T) (hr.mono (by decide)) T.g__law_bits T.k__law_bits T.b__law_bits (EA.cons (ES.name (i := 4) (a := x18) rfl rfl) EA.nil)) (EA.cons (ES.name (i := 4) (a := x18) rfl rfl) EA.nil)) (fun (t : Int × Int × Unit) => (t.1, t.2.1)))))) T.n_sorted))) (blkOk_by (N := ["_law_number", "_law_many", "_law_teeth_here", "_law_k", "_law_one_here", "_law_bits_here"]) (sc := defScope s_l_teeth) (by decide +kernel)) (fun _ _ _ _ _ => (pg_tup rfl (pgs_cons (pg_name (i := 5) sc_l_teeth.nd rfl (.inl rfl)) (pgs_cons (pg_name (i := 4) sc_l_teeth.nd rfl (.inl rfl)) pgs_nil)))) (TgS.tup (TgsS.cons (TgsS.cons TgsS.nil)) (fun (a : (Int × Int)) => [Enc.enc a.1, Enc.enc a.2])) (by decide) (fun _ _ _ _ _ _ x21 => (ES.name (i := 4) (a := x21.2) rfl rfl))) (pdl fun _ _ h => h))))) (by unfold l_teeth; first | (simp only [ok_bind]; done) | (simp only [ok_bind, M.bind_assoc]; done) | (simp only [ok_bind]; rfl) | rfl | (simp only [ok_bind, M.bind_assoc]; rfl))

abbrev s_l_cell_at : Stmt := topS 9
theorem sc_l_cell_at : FnScope ["_law_script", "_law_k"] ["_law_script", "_law_k"] (defScope s_l_cell_at) := ⟨rfl, rfl, rfl, by decide +kernel, rfl, by decide +kernel, by decide +kernel⟩
theorem ok_l_cell_at {P : Program} {w : World} {K : PySem.W.Frag} {mg : Str → Option Value} {base : Heap} (T : TX K mg) : FnOk P w K mg base (L2.CX P w) 1 T.f__law_cell_at T.d__law_cell_at ["_law_script", "_law_k"] (PrS T.ct K (fun t : (List Int) × Int × Unit => [Enc.enc t.1, Enc.enc t.2.1]) (fun t : (List Int) × Int × Unit => l_cell_at t.1 t.2.1)) :=
  fn_S T.F__law_cell_at sc_l_cell_at (fun _ => rfl) (fun r => .rt (Enc.enc r)) (fun _ => .inl rfl) fun cdv A outer s H E B ⟨vscript, vk, _⟩ hr =>
    show BD _ _ _ (l_cell_at vscript vk) _ from BD.cast
    (BD.ifR (ET.lt (ES.name (i := 1) (a := vk) rfl rfl) (ES.len (ES.li (ES.name (i := 0) (a := vscript) rfl rfl)) T.n_len)) (pdl fun _ _ h => h) (BX.ret0 (ES.ix (ES.li (ES.name (i := 0) (a := vscript) rfl rfl)) (ES.name (i := 1) (a := vk) rfl rfl)) (pdl fun _ _ h => h)) (BD.ret0 (ES.int (i := 0)) (pdl fun _ _ h => h))) (by unfold l_cell_at; first | (simp only [ok_bind]; done) | (simp only [ok_bind, M.bind_assoc]; done) | (simp only [ok_bind]; rfl) | rfl | (simp only [ok_bind, M.bind_assoc]; rfl))

abbrev s_l_case : Stmt := topS 13
theorem sc_l_case : FnScope ["_law_script", "_law_most", "_law_signs", "_law_number", "_law_teeth_here", "_law_case_here", "_law_k", "_law_one_here", "_law_sign"] ["_law_script", "_law_most"] (defScope s_l_case) := ⟨rfl, rfl, rfl, by decide +kernel, rfl, by decide +kernel, by decide +kernel⟩
theorem ok_l_case {P : Program} {w : World} {K : PySem.W.Frag} {mg : Str → Option Value} {base : Heap} (T : TX K mg) : FnOk P w K mg base (L2.CX P w) 3 T.f__law_case T.d__law_case ["_law_script", "_law_most"] (PrF T.ct K (fun t : (List Int) × Int × Unit => [Enc.enc t.1, Enc.enc t.2.1]) (fun t : (List Int) × Int × Unit => l_case t.1 t.2.1)) :=
  fn_F T.F__law_case sc_l_case (fun _ => rfl) fun cdv A outer s H E B ⟨vscript, vmost, _⟩ hr =>
    show BD _ _ _ (l_case vscript vmost) _ from BD.cast
    (BD.seq (BS.asg (i := 2) (ES.str tx0_is) (pdl fun _ _ h => h) sc_l_case.nd rfl (.inl rfl)) (fun _ => rfl) fun vsigns => (BD.seq (BS.asg (i := 3) (ES.call (ok_l_mixed T) (hr.mono (by decide)) T.g__law_mixed T.k__law_mixed T.b__law_mixed (EA.cons (ES.call (ok_l_cell_at T) (hr.mono (by decide)) T.g__law_cell_at T.k__law_cell_at T.b__law_cell_at (EA.cons (ES.name (i := 0) (a := vscript) rfl rfl) (EA.cons (ES.int (i := 0)) EA.nil))) (EA.cons (ES.int (i := 90)) EA.nil))) (pdl fun _ _ h => h) sc_l_case.nd rfl (.inl rfl)) (fun _ => rfl) fun vnumber => (BD.wk (Γ' := [.va (Enc.enc vscript), .va (Enc.enc vmost), .va (Enc.enc vsigns), .va (Enc.enc vnumber), .no, .no, .no, .no, .no]) (BD.seq (BS.asg (i := 4) (EF.st (EF.call (ok_l_teeth T) (hr.mono (by decide)) T.g__law_teeth T.k__law_teeth T.b__law_teeth (EA.cons (ES.name (i := 3) (a := vnumber) rfl rfl) (EA.cons (ES.add (ES.int (i := 1)) (ES.modk (k := 6) (ES.fdivk (k := 3) (ES.name (i := 3) (a := vnumber) rfl rfl)))) EA.nil)))) (pdl fun _ _ h => h) sc_l_case.nd rfl (.inl rfl)) (fun _ => rfl) fun vteeth_here => (BD.seq (BS.asgF (i := 5) (EF.nil (α := (T4 Tx Int Int Int))) (pdl fun _ _ h => h) sc_l_case.nd rfl (.inl rfl)) (fun _ => rfl) fun vcase_here => (BD.seq (BS.forF (IT.enum (ES.name (i := 4) (a := vteeth_here) rfl rfl) T.n_enumerate) (pg_tup rfl (pgs_cons (pg_name (i := 6) sc_l_case.nd rfl (.inl rfl)) (pgs_cons (pg_name (i := 7) sc_l_case.nd rfl (.inl rfl)) pgs_nil))) (TgS.tup (TgsS.cons (TgsS.cons TgsS.nil)) (fun (a : (Int × Int)) => [Enc.enc a.1, Enc.enc a.2])) (fun (s24 : Int × (List (T4 Tx Int Int Int))) => [.va (Enc.enc vscript), .va (Enc.enc vmost), .va (Enc.enc vsigns), .va (Enc.enc s24.1), .va (Enc.enc vteeth_here), .ow (List.map Enc.enc s24.2), .no, .no, .no]) (vnumber, vcase_here) (by exact (.keep (.keep (.keep (.keep (.keep (.keep (.drop (.drop (.drop Wk.nil)))))))))) (pdl fun _ _ h => h) (fun _ s24 x25 => (BD.seq (BS.asg (i := 3) (ES.modk (k := 2147483647) (ES.mulk (k := 48271) (ES.add (ES.add (ES.name (i := 3) (a := s24.1) rfl rfl) (ES.name (i := 6) (a := x25.1) rfl rfl)) (ES.int (i := 1))))) (pdl fun _ _ h => h) sc_l_case.nd rfl (.inl rfl)) (fun _ => rfl) fun vnumber_1 => (BD.seq (BS.asg (i := 8) (ES.ixTx (ES.name (i := 2) (a := vsigns) rfl rfl) (ES.modk (k := 30) (ES.add (ES.fdivk (k := 7) (ES.call (ok_l_cell_at T) (hr.mono (by decide)) T.g__law_cell_at T.k__law_cell_at T.b__law_cell_at (EA.cons (ES.name (i := 0) (a := vscript) rfl rfl) (EA.cons (ES.int (i := 0)) EA.nil)))) (ES.kmul (k := 11) (ES.name (i := 6) (a := x25.1) rfl rfl))))) (pdl fun _ _ h => h) sc_l_case.nd rfl (.inl rfl)) (fun _ => rfl) fun vsign => (BD.seq (BS.app (i := 5) (xs := s24.2) (fun _ h => pe_bm PySem.F.plainAttrs_list PySem.F.slot_list_append PySem.F.type_list_append mt_append (pv 5) (pa_cons h pa_nil)) (ES.tup (EA.cons (ES.name (i := 8) (a := vsign) rfl rfl) (EA.cons (ES.add (ES.int (i := 1)) (ES.modk (k := 99) (ES.fdivk (k := 5) (ES.name (i := 3) (a := vnumber_1) rfl rfl)))) (EA.cons (ES.name (i := 7) (a := x25.2) rfl rfl) (EA.cons (ES.mod (ES.fdivk (k := 500) (ES.name (i := 3) (a := vnumber_1) rfl rfl)) (ES.add (ES.name (i := 1) (a := vmost) rfl rfl) (ES.int (i := 1)))) EA.nil)))) (fun (t : Tx × Int × Int × Int × Unit) => (T4.mk t.1 t.2.1 t.2.2.1 t.2.2.2.1))) (pdl fun _ _ h => h) rfl) (fun _ => rfl) fun vcase_here_1 => (BD.nil (b := (vnumber_1, vcase_here_1)) rfl (by exact (.keep (.keep (.keep (.keep (.keep (.keep (.drop (.drop (.drop Wk.nil)))))))))))))))) (fun _ => rfl) fun s32 => (BD.retO (i := 5) (xs := s32.2) rfl rfl rfl s32.2)))) (by exact (.keep (.keep (.keep (.keep (.drop (.drop (.drop (.drop (.drop Wk.nil))))))))))))) (by unfold l_case; first | (simp only [ok_bind]; done) | (simp only [ok_bind, M.bind_assoc]; done) | (simp only [ok_bind]; rfl) | rfl | (simp only [ok_bind, M.bind_assoc]; rfl))

abbrev s_l_due : Stmt := topS 15
theorem sc_l_due : FnScope ["_law_case_here", "_law_broken", "_law_lanes", "_law_sign", "_law_width", "_law_teeth_here", "_law_many", "_law_used", "_law_k", "_law_one_here", "_law_channel", "_law_lost", "_law_own"] ["_law_case_here", "_law_broken"] (defScope s_l_due) := ⟨rfl, rfl, rfl, by decide +kernel, rfl, by decide +kernel, by decide +kernel⟩
theorem ok_l_due {P : Program} {w : World} {K : PySem.W.Frag} {mg : Str → Option Value} {base : Heap} (T : TX K mg) : FnOk P w K mg base (L2.CX P w) 1 T.f__law_due T.d__law_due ["_law_case_here", "_law_broken"] (PrS T.ct K (fun t : (List (T4 Tx Int Int Int)) × (List (Int × Int)) × Unit => [Enc.enc t.1, Enc.enc t.2.1]) (fun t : (List (T4 Tx Int Int Int)) × (List (Int × Int)) × Unit => l_due t.1 t.2.1)) :=
  fn_S T.F__law_due sc_l_due (fun _ => rfl) (fun r => .rt (Enc.enc r)) (fun _ => .inl rfl) fun cdv A outer s H E B ⟨vcase_here, vbroken, _⟩ hr =>
    show BD _ _ _ (l_due vcase_here vbroken) _ from BD.cast
    (BD.wk (Γ' := [.va (Enc.enc vcase_here), .va (Enc.enc vbroken), .no, .no, .no, .no, .no, .no, .no, .no, .no, .no, .no]) (BD.seq (BS.mpP (i := 2) [("_law_sign", 3), ("_law_width", 4), ("_law_teeth_here", 5), ("_law_many", 6)] (pdl fun _ _ h => h) rfl sc_l_due.nd rfl rfl (sw_true rfl rfl rfl (by decide +kernel)) (IT.list (ES.name (i := 0) (a := vcase_here) rfl rfl)) (blkOk_by (N := ["_law_case_here", "_law_broken", "_law_lanes", "_law_sign", "_law_width", "_law_teeth_here", "_law_many", "_law_used", "_law_k", "_law_one_here", "_law_channel", "_law_lost", "_law_own"]) (sc := defScope s_l_due) (by decide +kernel)) (fun _ _ _ _ _ => (pg_tup rfl (pgs_cons (pg_name (i := 3) sc_l_due.nd rfl (.inl rfl)) (pgs_cons (pg_name (i := 4) sc_l_due.nd rfl (.inl rfl)) (pgs_cons (pg_name (i := 5) sc_l_due.nd rfl (.inl rfl)) (pgs_cons (pg_name (i := 6) sc_l_due.nd rfl (.inl rfl)) pgs_nil)))))) (TgS.tup (TgsS.cons (TgsS.cons (TgsS.cons (TgsS.cons TgsS.nil)))) (fun (a : (T4 Tx Int Int Int)) => [Enc.enc a.1, Enc.enc a.2, Enc.enc a.3, Enc.enc a.4])) (by decide) (fun _ _ _ _ _ _ x33 => (EF.rep (EF.li (EF.lst (EA.cons (ES.tup0 (EA0.cons (ES.name (i := 3) (a := x33.1) rfl rfl) (EA0.cons (ES.name (i := 5) (a := x33.3) rfl rfl) EA0.nil)) (fun (t : Tx × Int × Unit) => (t.1, t.2.1))) EA.nil) (fun t => [t.1]))) (ES.name (i := 6) (a := x33.4) rfl rfl)))) (fun _ => rfl) fun vlanes => (BD.seq (BS.asgF (i := 7) (EF.rep (EF.li (EF.lst (EA.cons (ES.int (i := 0)) EA.nil) (fun t => [t.1]))) (ES.len (ES.li (ES.name (i := 0) (a := vcase_here) rfl rfl)) T.n_len)) (pdl fun _ _ h => h) sc_l_due.nd rfl (.inl rfl)) (fun _ => rfl) fun vused => (BD.seqC (fun (r52 : Dy) => r52) (BS.forC (ρ := Dy) (IT.enum (ES.name (i := 1) (a := vbroken) rfl rfl) T.n_enumerate) (pg_tup rfl (pgs_cons (pg_name (i := 8) sc_l_due.nd rfl (.inl rfl)) (pgs_cons (pg_name (i := 9) sc_l_due.nd rfl (.inl rfl)) pgs_nil))) (TgS.tup (TgsS.cons (TgsS.cons TgsS.nil)) (fun (a : (Int × (Int × Int))) => [Enc.enc a.1, Enc.enc a.2])) (fun (s34 : (List (List (Tx × Int))) × (List Int)) => [.va (Enc.enc vcase_here), .va (Enc.enc vbroken), .dp (Enc.enc s34.1), .no, .no, .no, .no, .ow (List.map Enc.enc s34.2), .no, .no, .no, .no, .no]) (fun r => Fl.rt (Enc.enc r)) (vlanes, vused) (fun _ => trivial) (by exact (.keep (.keep (.keep (.drop (.drop (.drop (.drop (.keep (.drop (.drop (.drop (.drop (.drop Wk.nil)))))))))))))) (pdl fun _ _ h => h) (fun _ s34 x35 => (BD.seq (BS.asgT (α := (Int × Int)) (ES.name (i := 9) (a := x35.2) rfl rfl) (pg_tup rfl (pgs_cons (pg_name (i := 10) sc_l_due.nd rfl (.inl rfl)) (pgs_cons (pg_name (i := 11) sc_l_due.nd rfl (.inl rfl)) pgs_nil))) (TgS.tup (TgsS.cons (TgsS.cons TgsS.nil)) (fun (a : (Int × Int)) => [Enc.enc a.1, Enc.enc a.2])) (pdl fun _ _ h => h)) (fun _ => rfl) fun t36 => (BD.ifR (EW.et (EW.or (ET.not (ET.chainP (fun _ => op_le) (fun _ => op_lt) (ES.int (i := 0)) (ES.name (i := 10) (a := t36.1) rfl rfl) (ES.len (ES.li (ES.name (i := 0) (a := vcase_here) rfl rfl)) T.n_len))) (EW.or1 (ET.eq hr.units (ES.val (ES.ix (EL.own (i := 7) (a := s34.2) rfl rfl) (ES.name (i := 10) (a := t36.1) rfl rfl))) (ES.val (ES.it (ES.ix (ES.li (ES.name (i := 0) (a := vcase_here) rfl rfl)) (ES.name (i := 10) (a := t36.1) rfl rfl)) (fun t => t.4))))))) (pdl fun _ _ h => h) (BX.ret (ES.up (hd := Nat.le_of_ble_eq_true rfl) (α := Int) (ES.name (i := 8) (a := x35.1) rfl rfl)) (pdl fun _ _ h => h) (fun a => Ct.rt a)) (BD.wk (Γ' := [.va (Enc.enc vcase_here), .va (Enc.enc vbroken), .dp (Enc.enc s34.1), .no, .no, .no, .no, .ow (List.map Enc.enc s34.2), .va (Enc.enc x35.1), .va (Enc.enc x35.2), .va (Enc.enc t36.1), .va (Enc.enc t36.2), .no]) (BD.seq (BS.asg (i := 12) (ES.it (ES.ix (ES.li (ES.name (i := 0) (a := vcase_here) rfl rfl)) (ES.name (i := 10) (a := t36.1) rfl rfl)) (fun t => t.3)) (pdl fun _ _ h => h) sc_l_due.nd rfl (.inl rfl)) (fun _ => rfl) fun vown => (BD.ifR (EW.et (EW.orP (ET.lt (ES.name (i := 11) (a := t36.2) rfl rfl) (ES.int (i := 1))) (EW.or1 (ET.ne hr.units (ES.val (ES.band (ES.name (i := 11) (a := t36.2) rfl rfl) (ES.name (i := 12) (a := vown) rfl rfl))) (ES.val (ES.name (i := 11) (a := t36.2) rfl rfl)))))) (pdl fun _ _ h => h) (BX.ret (ES.up (hd := Nat.le_of_ble_eq_true rfl) (α := Int) (ES.name (i := 8) (a := x35.1) rfl rfl)) (pdl fun _ _ h => h) (fun a => Ct.rt a)) (BD.seq (BS.pset (ES.tup (EA.cons (ES.it (ES.ix (ES.li (ES.name (i := 0) (a := vcase_here) rfl rfl)) (ES.name (i := 10) (a := t36.1) rfl rfl)) (fun t => t.1)) (EA.cons (ES.sub (ES.name (i := 12) (a := vown) rfl rfl) (ES.name (i := 11) (a := t36.2) rfl rfl)) EA.nil)) (fun (t : Tx × Int × Unit) => (t.1, t.2.1))) (PL.dpix (i := 2) (xss := s34.1) (ES.name (i := 10) (a := t36.1) rfl rfl) rfl rfl) (ES.ix (EL.own (i := 7) (a := s34.2) rfl rfl) (ES.name (i := 10) (a := t36.1) rfl rfl)) (pdl fun _ _ h => h)) (fun _ => rfl) fun s45 => (BD.seq (BS.setI (i := 7) (xs := s34.2) (ES.add (ES.ix (EL.own (i := 7) (a := s34.2) rfl rfl) (ES.name (i := 10) (a := t36.1) rfl rfl)) (ES.int (i := 1))) (ES.name (i := 10) (a := t36.1) rfl rfl) (pdl fun _ _ h => h) rfl rfl) (fun _ => rfl) fun vused_1 => (BD.nil (b := Ct.nx ((List.set s34.1 s45.1.1 s45.2), vused_1)) rfl (by exact (.keep (.keep (.keep (.drop (.drop (.drop (.drop (.keep (.drop (.drop (.drop (.drop (.drop Wk.nil))))))))))))))))))) (by exact (.keep (.keep (.keep (.drop (.drop (.drop (.drop (.keep (.keep (.keep (.keep (.keep (.drop Wk.nil))))))))))))))))))) fun s51 => (BD.freezeP (i := 2) rfl (BD.ret0 (ES.up (hd := Nat.le_of_ble_eq_true rfl) (α := (List (List (Tx × Int)))) (ES.name (i := 2) (a := s51.1) rfl rfl)) (pdl fun _ _ h => h)))))) (by exact (.keep (.keep (.drop (.drop (.drop (.drop (.drop (.drop (.drop (.drop (.drop (.drop (.drop Wk.nil))))))))))))))) (by unfold l_due; first | (simp only [ok_bind]; done) | (simp only [ok_bind, M.bind_assoc]; done) | (simp only [ok_bind]; rfl) | rfl | (simp only [ok_bind, M.bind_assoc]; rfl))

abbrev s_p_has_all : Stmt := topS 5
theorem sc_p_has_all : FnScope ["teeth", "others"] ["teeth", "others"] (defScope s_p_has_all) := ⟨rfl, rfl, rfl, by decide +kernel, rfl, by decide +kernel, by decide +kernel⟩
theorem ok_p_has_all {P : Program} {w : World} {K : PySem.W.Frag} {mg : Str → Option Value} {base : Heap} (T : TX K mg) : FnOk P w K mg base (L2.CX P w) 1 T.f_has_all T.d_has_all ["teeth", "others"] (PrS T.ct K (fun t : Int × Int × Unit => [Enc.enc t.1, Enc.enc t.2.1]) (fun t : Int × Int × Unit => p_has_all t.1 t.2.1)) :=
  fn_S T.F_has_all sc_p_has_all (fun _ => rfl) (fun r => .rt (Enc.enc r)) (fun _ => .inl rfl) fun cdv A outer s H E B ⟨vteeth, vothers, _⟩ hr =>
    show BD _ _ _ (p_has_all vteeth vothers) _ from BD.cast
    (BD.ret0 (ES.eq hr.units (ES.val (ES.band (ES.name (i := 0) (a := vteeth) rfl rfl) (ES.name (i := 1) (a := vothers) rfl rfl))) (ES.val (ES.name (i := 1) (a := vothers) rfl rfl))) (pdl fun _ _ h => h)) (by unfold p_has_all; first | (simp only [ok_bind]; done) | (simp only [ok_bind, M.bind_assoc]; done) | (simp only [ok_bind]; rfl) | rfl | (simp only [ok_bind, M.bind_assoc]; rfl))

abbrev s_p_channels_of : Stmt := topS 7
theorem sc_p_channels_of : FnScope ["case", "broken", "found", "sign", "width", "teeth", "many", "told", "at", "one", "channel", "lost"] ["case", "broken"] (defScope s_p_channels_of) := ⟨rfl, rfl, rfl, by decide +kernel, rfl, by decide +kernel, by decide +kernel⟩
theorem ok_p_channels_of {P : Program} {w : World} {K : PySem.W.Frag} {mg : Str → Option Value} {base : Heap} (T : TX K mg) : FnOk P w K mg base (L2.CX P w) 3 T.f_channels_of T.d_channels_of ["case", "broken"] (PrP T.ct K (fun t : (List (T4 Tx Int Int Int)) × (List (Int × Int)) × Unit => [Enc.enc t.1, Enc.enc t.2.1]) (fun t : (List (T4 Tx Int Int Int)) × (List (Int × Int)) × Unit => p_channels_of t.1 t.2.1)) :=
  fn_P T.F_channels_of sc_p_channels_of (fun _ => rfl) fun cdv A outer s H E B ⟨vcase, vbroken, _⟩ hr =>
    show BD _ _ _ (p_channels_of vcase vbroken) _ from BD.cast
    (BD.wk (Γ' := [.va (Enc.enc vcase), .va (Enc.enc vbroken), .no, .no, .no, .no, .no, .no, .no, .no, .no, .no]) (BD.seq (BS.mpP (i := 2) [("sign", 3), ("width", 4), ("teeth", 5), ("many", 6)] (pdl fun _ _ h => h) rfl sc_p_channels_of.nd rfl rfl (sw_true rfl rfl rfl (by decide +kernel)) (IT.list (ES.name (i := 0) (a := vcase) rfl rfl)) (blkOk_by (N := ["case", "broken", "found", "sign", "width", "teeth", "many", "told", "at", "one", "channel", "lost"]) (sc := defScope s_p_channels_of) (by decide +kernel)) (fun _ _ _ _ _ => (pg_tup rfl (pgs_cons (pg_name (i := 3) sc_p_channels_of.nd rfl (.inl rfl)) (pgs_cons (pg_name (i := 4) sc_p_channels_of.nd rfl (.inl rfl)) (pgs_cons (pg_name (i := 5) sc_p_channels_of.nd rfl (.inl rfl)) (pgs_cons (pg_name (i := 6) sc_p_channels_of.nd rfl (.inl rfl)) pgs_nil)))))) (TgS.tup (TgsS.cons (TgsS.cons (TgsS.cons (TgsS.cons TgsS.nil)))) (fun (a : (T4 Tx Int Int Int)) => [Enc.enc a.1, Enc.enc a.2, Enc.enc a.3, Enc.enc a.4])) (by decide) (fun _ _ _ _ _ _ x53 => (EF.rep (EF.li (EF.lst (EA.cons (ES.tup0 (EA0.cons (ES.name (i := 3) (a := x53.1) rfl rfl) (EA0.cons (ES.name (i := 5) (a := x53.3) rfl rfl) EA0.nil)) (fun (t : Tx × Int × Unit) => (t.1, t.2.1))) EA.nil) (fun t => [t.1]))) (ES.name (i := 6) (a := x53.4) rfl rfl)))) (fun _ => rfl) fun vfound => (BD.seq (BS.asgF (i := 7) (EF.rep (EF.li (EF.lst (EA.cons (ES.int (i := 0)) EA.nil) (fun t => [t.1]))) (ES.len (ES.li (ES.name (i := 0) (a := vcase) rfl rfl)) T.n_len)) (pdl fun _ _ h => h) sc_p_channels_of.nd rfl (.inl rfl)) (fun _ => rfl) fun vtold => (BD.seq (BS.forF (IT.enum (ES.name (i := 1) (a := vbroken) rfl rfl) T.n_enumerate) (pg_tup rfl (pgs_cons (pg_name (i := 8) sc_p_channels_of.nd rfl (.inl rfl)) (pgs_cons (pg_name (i := 9) sc_p_channels_of.nd rfl (.inl rfl)) pgs_nil))) (TgS.tup (TgsS.cons (TgsS.cons TgsS.nil)) (fun (a : (Int × (Int × Int))) => [Enc.enc a.1, Enc.enc a.2])) (fun (s54 : (List (List (Tx × Int))) × (List Int)) => [.va (Enc.enc vcase), .va (Enc.enc vbroken), .dp (Enc.enc s54.1), .no, .no, .no, .no, .ow (List.map Enc.enc s54.2), .no, .no, .no, .no]) (vfound, vtold) (by exact (.keep (.keep (.keep (.drop (.drop (.drop (.drop (.keep (.drop (.drop (.drop (.drop Wk.nil))))))))))))) (pdl fun _ _ h => h) (fun _ s54 x55 => (BD.seq (BS.asgT (α := (Int × Int)) (ES.name (i := 9) (a := x55.2) rfl rfl) (pg_tup rfl (pgs_cons (pg_name (i := 10) sc_p_channels_of.nd rfl (.inl rfl)) (pgs_cons (pg_name (i := 11) sc_p_channels_of.nd rfl (.inl rfl)) pgs_nil))) (TgS.tup (TgsS.cons (TgsS.cons TgsS.nil)) (fun (a : (Int × Int)) => [Enc.enc a.1, Enc.enc a.2])) (pdl fun _ _ h => h)) (fun _ => rfl) fun t56 => (BD.ifR (EW.et (EW.or (ET.lt (ES.name (i := 10) (a := t56.1) rfl rfl) (ES.int (i := 0))) (EW.or (ET.ge (ES.name (i := 10) (a := t56.1) rfl rfl) (ES.len (ES.li (ES.name (i := 0) (a := vcase) rfl rfl)) T.n_len)) (EW.or1 (ET.eq hr.units (ES.val (ES.ix (EL.own (i := 7) (a := s54.2) rfl rfl) (ES.name (i := 10) (a := t56.1) rfl rfl))) (ES.val (ES.len (EL.edix (ED.dp (i := 2) (xss := s54.1) rfl rfl) (ES.name (i := 10) (a := t56.1) rfl rfl)) T.n_len))))))) (pdl fun _ _ h => h) (BX.raise (n := 1) T.x_NoCase T.iC_NoCase T.tI_NoCase (okI_NoCase T) (hr.mono (by decide)) T.bI_NoCase passF T.g_NoCase T.z_NoCase T.w_NoCase (ES.name (i := 8) (a := x55.1) rfl rfl) (pdl fun _ _ h => h)) (BD.wk (Γ' := [.va (Enc.enc vcase), .va (Enc.enc vbroken), .dp (Enc.enc s54.1), .no, .no, .no, .no, .ow (List.map Enc.enc s54.2), .va (Enc.enc x55.1), .va (Enc.enc x55.2), .va (Enc.enc t56.1), .va (Enc.enc t56.2)]) (BD.seq (BS.asgT (α := (Tx × Int)) (ES.ix (EL.edix (ED.dp (i := 2) (xss := s54.1) rfl rfl) (ES.name (i := 10) (a := t56.1) rfl rfl)) (ES.ix (EL.own (i := 7) (a := s54.2) rfl rfl) (ES.name (i := 10) (a := t56.1) rfl rfl))) (pg_tup rfl (pgs_cons (pg_name (i := 3) sc_p_channels_of.nd rfl (.inl rfl)) (pgs_cons (pg_name (i := 5) sc_p_channels_of.nd rfl (.inl rfl)) pgs_nil))) (TgS.tup (TgsS.cons (TgsS.cons TgsS.nil)) (fun (a : (Tx × Int)) => [Enc.enc a.1, Enc.enc a.2])) (pdl fun _ _ h => h)) (fun _ => rfl) fun t62 => (BD.ifR (EW.et (EW.or (ET.lt (ES.name (i := 11) (a := t56.2) rfl rfl) (ES.int (i := 1))) (EW.or1 (ET.not (ET.val (ES.call (ok_p_has_all T) (hr.mono (by decide)) T.g_has_all T.k_has_all T.b_has_all (EA.cons (ES.name (i := 5) (a := t62.2) rfl rfl) (EA.cons (ES.name (i := 11) (a := t56.2) rfl rfl) EA.nil)))))))) (pdl fun _ _ h => h) (BX.raise (n := 1) T.x_NoCase T.iC_NoCase T.tI_NoCase (okI_NoCase T) (hr.mono (by decide)) T.bI_NoCase passF T.g_NoCase T.z_NoCase T.w_NoCase (ES.name (i := 8) (a := x55.1) rfl rfl) (pdl fun _ _ h => h)) (BD.seq (BS.pset (ES.tup0 (EA0.cons (ES.name (i := 3) (a := t62.1) rfl rfl) (EA0.cons (ES.sub (ES.name (i := 5) (a := t62.2) rfl rfl) (ES.name (i := 11) (a := t56.2) rfl rfl)) EA0.nil)) (fun (t : Tx × Int × Unit) => (t.1, t.2.1))) (PL.dpix (i := 2) (xss := s54.1) (ES.name (i := 10) (a := t56.1) rfl rfl) rfl rfl) (ES.ix (EL.own (i := 7) (a := s54.2) rfl rfl) (ES.name (i := 10) (a := t56.1) rfl rfl)) (pdl fun _ _ h => h)) (fun _ => rfl) fun s66 => (BD.seq (BS.augIx (i := 7) (h := fun a b => a + b) (xs := s54.2) ip_add (ES.name (i := 10) (a := t56.1) rfl rfl) (ES.int (i := 1)) (pdl fun _ _ h => h) rfl rfl) (fun _ => rfl) fun vtold_1 => (BD.nil (b := ((List.set s54.1 s66.1.1 s66.2), vtold_1)) rfl (by exact (.keep (.keep (.keep (.drop (.drop (.drop (.drop (.keep (.drop (.drop (.drop (.drop Wk.nil)))))))))))))))))) (by exact (.keep (.keep (.keep (.drop (.drop (.drop (.drop (.keep (.keep (.keep (.keep (.keep Wk.nil)))))))))))))))))) (fun _ => rfl) fun s71 => (BD.retP (i := 2) rfl rfl rfl s71.1)))) (by exact (.keep (.keep (.drop (.drop (.drop (.drop (.drop (.drop (.drop (.drop (.drop (.drop Wk.nil)))))))))))))) (by unfold p_channels_of; first | (simp only [ok_bind]; done) | (simp only [ok_bind, M.bind_assoc]; done) | (simp only [ok_bind]; rfl) | rfl | (simp only [ok_bind, M.bind_assoc]; rfl))

abbrev s_l_told : Stmt := topS 16
theorem sc_l_told : FnScope ["_law_case_here", "_law_broken", "_law_found", "e"] ["_law_case_here", "_law_broken"] (defScope s_l_told) := ⟨rfl, rfl, rfl, by decide +kernel, rfl, by decide +kernel, by decide +kernel⟩
theorem ok_l_told {P : Program} {w : World} {K : PySem.W.Frag} {mg : Str → Option Value} {base : Heap} (T : TX K mg) : FnOk P w K mg base (L2.CX P w) 4 T.f__law_told T.d__law_told ["_law_case_here", "_law_broken"] (PrG T.ct K (fun t : (List (T4 Tx Int Int Int)) × (List (Int × Int)) × Unit => [Enc.enc t.1, Enc.enc t.2.1]) (fun t : (List (T4 Tx Int Int Int)) × (List (Int × Int)) × Unit => l_told t.1 t.2.1) (fun r : (W2 Tx Dy) => .hd (Enc.enc r.1) (Enc.enc r.2))) :=
  fn_G T.F__law_told sc_l_told (fun _ => rfl) fun cdv A outer s H E B ⟨vcase_here, vbroken, _⟩ hr =>
    show BD _ _ _ (l_told vcase_here vbroken) _ from BD.cast
    (BD.seqC (fun (r77 : (W2 Tx Dy)) => r77) (BS.tryN (out := (ctA (ρ := (W2 Tx Dy)) (fun (s73 : (List (List (Tx × Int)))) => [.va (Enc.enc vcase_here), .va (Enc.enc vbroken), .dp (Enc.enc s73), .no]) (fun r => Fl.rg (slR (.hd (Enc.enc r.1) (Enc.enc r.2)))))) (m := R.bind (p_channels_of vcase_here vbroken) fun (vfound : (List (List (Tx × Int)))) => .ok vfound) (Γ1 := [.va (Enc.enc vcase_here), .va (Enc.enc vbroken), .no, .no]) (G1 := (fun (s72 : (List (List (Tx × Int)))) => [.va (Enc.enc vcase_here), .va (Enc.enc vbroken), .dp (Enc.enc s72), .no])) (fun _ _ _ _ _ => BD.cast (BD.seq (BS.asgP (i := 2) (EP.call (ok_p_channels_of T) (hr.mono (by decide)) T.g_channels_of T.k_channels_of T.b_channels_of (EA.cons (ES.name (i := 0) (a := vcase_here) rfl rfl) (EA.cons (ES.name (i := 1) (a := vbroken) rfl rfl) EA.nil))) (pdw (by repeat' (first | exact Wk.nil | refine Wk.keep ?_ | refine Wk.drop ?_))) sc_l_told.nd rfl (.inl rfl)) (fun _ => rfl) fun vfound => (BD.nil (b := vfound) rfl (by exact (.keep (.keep (.keep (.drop Wk.nil))))))) (by first | rfl | (simp only [ok_bind]; done) | (simp only [ok_bind]; rfl))) (ClN.named (i := 3) (c := .ref T.e_CasterError) (ns := [1]) rfl sc_l_told.nd rfl rfl (by intro b; first | rfl | trivial | (cases b <;> first | rfl | trivial)) ⟨rfl, by decide, .inl T.g_CasterError⟩ (fun ea74 eo74 ep74 ec74 ed74 en74 ev74 eh74 eX74 => (BD.ifR (EW.et (EW.orP (ET.not (ET.val (ES.isE (i := 3) eX74 ((show ∀ n ∈ [1], ExcC K (T.ct.cls n) from (yesC T.v_NoCase yes0)) en74 eh74) rfl rfl T.n_isinstance T.g_NoCase ((show ∀ n ∈ [1], PySem.W.kitOne K (.ref (T.ct.cls n)) (.ref T.e_NoCase) = some (inN [1] n) from (yesC T.q_NoCase_NoCase yes0)) en74 eh74)))) (EW.orP (ET.not (ET.val (ES.isEB (nm := "ValueError") (i := 3) eX74 ((show ∀ n ∈ [1], ExcC K (T.ct.cls n) from (yesC T.v_NoCase yes0)) en74 eh74) rfl rfl T.n_isinstance T.n_ValueError ((show ∀ n ∈ [1], PySem.W.kitOne K (.ref (T.ct.cls n)) (.type "ValueError") = some (inN [1] n) from (yesC T.q_NoCase_ValueError yes0)) en74 eh74)))) (EW.or1 (ET.val (ES.isE (i := 3) eX74 ((show ∀ n ∈ [1], ExcC K (T.ct.cls n) from (yesC T.v_NoCase yes0)) en74 eh74) rfl rfl T.n_isinstance T.g_NoKeys ((show ∀ n ∈ [1], PySem.W.kitOne K (.ref (T.ct.cls n)) (.ref T.e_NoKeys) = some (inN [] n) from (yesC T.q_NoCase_NoKeys yes0)) en74 eh74))))))) pdn (BX.retX (EX.hd (ES.str tx1_is) ES.non) pdn (fun t => Ct.rt (W2.mk t.1 (up t.2 (Nat.le_of_ble_eq_true rfl))))) (BD.retX (EX.hd (ES.str tx2_is) (ES.xf (g := inN [1] en74) (i := 3) eX74 ((show ∀ n ∈ [1], ExcC K (T.ct.cls n) from (yesC T.v_NoCase yes0)) en74 eh74) rfl rfl ((show ∀ n ∈ [1], inN [1] n = true → T.ct.fld n = some "at" ∧ PySem.W.findIn K (.ref (T.ct.cls n)) "at" = some none from (yesC (fun _ => ⟨T.w_NoCase, T.nc_NoCase⟩) yes0)) en74 eh74))) pdn (fun t => Ct.rt (W2.mk t.1 (up t.2 (Nat.le_of_ble_eq_true rfl))))))) (by exact (yesC T.m_NoCase_CasterError yes0)) (by exact noN_of yes0) ClN.nil) (fun s72 => (BD.nil (b := (Ct.nx s72)) rfl (by exact (.keep (.keep (.keep (.drop Wk.nil)))))))) fun s76 => (BD.retHd (i := 2) (a0 := tx3) (ES.str tx3_is) rfl rfl rfl (W2.mk tx3 (up s76)))) (by unfold l_told; first | (simp only [ok_bind]; done) | (simp only [ok_bind, M.bind_assoc]; done) | (simp only [ok_bind]; rfl) | rfl | (simp only [ok_bind, M.bind_assoc]; rfl))

abbrev s_l_right : Stmt := topS 17
theorem sc_l_right : FnScope ["_law_case_here", "_law_broken", "_law_handed", "_law_one_here", "_law_due_here", "_law_found", "_law_lane"] ["_law_case_here", "_law_broken"] (defScope s_l_right) := ⟨rfl, rfl, rfl, by decide +kernel, rfl, by decide +kernel, by decide +kernel⟩
theorem ok_l_right {P : Program} {w : World} {K : PySem.W.Frag} {mg : Str → Option Value} {base : Heap} (T : TX K mg) : FnOk P w K mg base (L2.CX P w) 5 T.f__law_right T.d__law_right ["_law_case_here", "_law_broken"] (PrS T.ct K (fun t : (List (T4 Tx Int Int Int)) × (List (Int × Int)) × Unit => [Enc.enc t.1, Enc.enc t.2.1]) (fun t : (List (T4 Tx Int Int Int)) × (List (Int × Int)) × Unit => l_right t.1 t.2.1)) :=
  fn_S T.F__law_right sc_l_right (fun _ => rfl) (fun r => .rt (Enc.enc r)) (fun _ => .inl rfl) fun cdv A outer s H E B ⟨vcase_here, vbroken, _⟩ hr =>
    show BD _ _ _ (l_right vcase_here vbroken) _ from BD.cast
    (BD.seq (BS.asg (i := 2) (ES.hl0 (EA0.cons (EF.st (EF.list (ES.li (ES.name (i := 0) (a := vcase_here) rfl rfl)) T.n_list)) (EA0.cons (EF.st (EF.list (ES.li (ES.name (i := 1) (a := vbroken) rfl rfl)) T.n_list)) EA0.nil)) (fun (t : (List (T4 Tx Int Int Int)) × (List (Int × Int)) × Unit) => W2.mk t.1 t.2.1) (by intro _; rfl) (by exact Nat.le_of_ble_eq_true rfl)) (pdl fun _ _ h => h) sc_l_right.nd rfl (.inl rfl)) (fun _ => rfl) fun vhanded => (BD.seq (BS.asg (i := 3) (ES.call (ok_l_due T) (hr.mono (by decide)) T.g__law_due T.k__law_due T.b__law_due (EA.cons (ES.name (i := 0) (a := vcase_here) rfl rfl) (EA.cons (ES.name (i := 1) (a := vbroken) rfl rfl) EA.nil))) (pdl fun _ _ h => h) sc_l_right.nd rfl (.inl rfl)) (fun _ => rfl) fun vone_here => (BD.seq (BS.asg (i := 4) (ES.hl (EA.cons (ES.ix (EF.li (EF.lst (EA.cons (ES.str tx2_is) (EA.cons (ES.str tx3_is) EA.nil)) (fun t => [t.1, t.2.1]))) (ES.intB (ES.isi PT.lst (ES.val (ES.name (i := 3) (a := vone_here) rfl rfl)) T.n_isinstance T.n_list) T.n_int)) (EA.cons (ES.name (i := 3) (a := vone_here) rfl rfl) EA.nil)) (fun (t : Tx × Dy × Unit) => W2.mk t.1 t.2.1)) (pdl fun _ _ h => h) sc_l_right.nd rfl (.inl rfl)) (fun _ => rfl) fun vdue_here => (BD.wk (Γ' := [.va (Enc.enc vcase_here), .va (Enc.enc vbroken), .va (Enc.enc vhanded), .va (Enc.enc vone_here), .va (Enc.enc vdue_here), .no, .no]) (BD.seq (BS.asgX (i := 5) (EX.callG (ok_l_told T) (hr.mono (by decide)) T.g__law_told T.k__law_told T.b__law_told (EA0.cons (ES.hit (ES.name (i := 2) (a := vhanded) rfl rfl) (fun t => t.1)) (EA0.cons (ES.hit (ES.name (i := 2) (a := vhanded) rfl rfl) (fun t => t.2)) EA0.nil))) (pdl fun _ _ h => h) sc_l_right.nd rfl (.inl rfl)) (fun _ => rfl) fun w79 => (BD.ifR (EW.et (EW.orP (ET.neY hr.units (EV.hd (i := 5) (w := w79) rfl rfl) (ES.val (ES.name (i := 4) (a := vdue_here) rfl rfl))) (EW.orP (ET.val (ES.isi PT.bl (EV.hd1 (i := 5) (w := w79) rfl rfl) T.n_isinstance T.n_bool)) (EW.or1 (ET.ne hr.units (ES.val (ES.name (i := 2) (a := vhanded) rfl rfl)) (ES.val (ES.hl0 (EA0.cons (ES.name (i := 0) (a := vcase_here) rfl rfl) (EA0.cons (ES.name (i := 1) (a := vbroken) rfl rfl) EA0.nil)) (fun (t : (List (T4 Tx Int Int Int)) × (List (Int × Int)) × Unit) => W2.mk t.1 t.2.1) (by intro _; rfl) (by exact Nat.le_of_ble_eq_true rfl)))))))) (pdl fun _ _ h => h) (BX.ret0 ES.bl (pdl fun _ _ h => h)) (BD.seq (BS.ifE (out := (fun (s80 : Unit) => Fl.nx [.va (Enc.enc vcase_here), .va (Enc.enc vbroken), .va (Enc.enc vhanded), .va (Enc.enc vone_here), .va (Enc.enc vdue_here), .no, .no])) (ET.val (ES.isi PT.lst (EV.hd1 (i := 5) (w := w79) rfl rfl) T.n_isinstance T.n_list)) (pdl fun _ _ h => h) (BD.seq (BS.forH (i := 5) (j := 6) (w := w79.2) (f := (fun (ys : List AnyD) => pushM ys (AnyD.mk .none))) rfl (by decide) sc_l_right.nd rfl (.inl rfl) rfl (Nat.le_of_ble_eq_true rfl) (fun _ => BI.app (c := AnyD.mk .none) (fun _ h => pe_bm PySem.F.plainAttrs_list PySem.F.slot_list_append PySem.F.type_list_append mt_append (pv 6) (pa_cons h pa_nil)) (ES.anyN) rfl)) (fun _ => rfl) fun y81 => (BD.seq (BS.clearH (i := 5) (yss := y81) rfl rfl (fun h => pe_bm0 PySem.F.plainAttrs_list PySem.F.slot_list_clear PySem.F.type_list_clear mt_clear h) rfl) (fun _ => rfl) fun u82 => (BD.nil (b := ()) rfl (by exact (.keep (.keep (.keep (.keep (.keep (.drop (.drop Wk.nil))))))))))) (BD.nil (b := ()) rfl (by exact (.keep (.keep (.keep (.keep (.keep (.drop (.drop Wk.nil)))))))))) (fun _ => rfl) fun s83 => (BD.ret0 (ES.eqY hr.units (EV.ofX (h := fun (r : (W2 Tx Dy)) => r) (EX.callG (ok_l_told T) (hr.mono (by decide)) T.g__law_told T.k__law_told T.b__law_told (EA0.cons (ES.name (i := 0) (a := vcase_here) rfl rfl) (EA0.cons (ES.name (i := 1) (a := vbroken) rfl rfl) EA0.nil))) (fun _ _ _ _ _ ex s => hdR.rp ex s.2)) (ES.val (ES.name (i := 4) (a := vdue_here) rfl rfl))) (pdl fun _ _ h => h))))) (by exact (.keep (.keep (.keep (.keep (.keep (.drop (.drop Wk.nil)))))))))))) (by unfold l_right; first | (simp only [ok_bind]; done) | (simp only [ok_bind, M.bind_assoc]; done) | (simp only [ok_bind]; rfl) | rfl | (simp only [ok_bind, M.bind_assoc]; rfl))

abbrev s_l_one : Stmt := topS 14
theorem sc_l_one : FnScope ["_law_case_here", "_law_number", "_law_channel", "_law_own", "_law_other", "_law_lost"] ["_law_case_here", "_law_number"] (defScope s_l_one) := ⟨rfl, rfl, rfl, by decide +kernel, rfl, by decide +kernel, by decide +kernel⟩
theorem ok_l_one {P : Program} {w : World} {K : PySem.W.Frag} {mg : Str → Option Value} {base : Heap} (T : TX K mg) : FnOk P w K mg base (L2.CX P w) 1 T.f__law_one T.d__law_one ["_law_case_here", "_law_number"] (PrS T.ct K (fun t : (List (T4 Tx Int Int Int)) × Int × Unit => [Enc.enc t.1, Enc.enc t.2.1]) (fun t : (List (T4 Tx Int Int Int)) × Int × Unit => l_one t.1 t.2.1)) :=
  fn_S T.F__law_one sc_l_one (fun _ => rfl) (fun r => .rt (Enc.enc r)) (fun _ => .inl rfl) fun cdv A outer s H E B ⟨vcase_here, vnumber, _⟩ hr =>
    show BD _ _ _ (l_one vcase_here vnumber) _ from BD.cast
    (BD.seq (BS.asg (i := 2) (ES.mod (ES.name (i := 1) (a := vnumber) rfl rfl) (ES.len (ES.li (ES.name (i := 0) (a := vcase_here) rfl rfl)) T.n_len)) (pdl fun _ _ h => h) sc_l_one.nd rfl (.inl rfl)) (fun _ => rfl) fun vchannel => (BD.ifR (ET.eq hr.units (ES.val (ES.modk (k := 9) (ES.fdivk (k := 7) (ES.name (i := 1) (a := vnumber) rfl rfl)))) (ES.val (ES.int (i := 0)))) (pdl fun _ _ h => h) (BX.seq (BS.asg (i := 2) (ES.ix (EF.li (EF.lst (EA.cons (ES.neg (ES.int (i := 1))) (EA.cons (ES.len (ES.li (ES.name (i := 0) (a := vcase_here) rfl rfl)) T.n_len) (EA.cons (ES.add (ES.len (ES.li (ES.name (i := 0) (a := vcase_here) rfl rfl)) T.n_len) (ES.modk (k := 9) (ES.fdivk (k := 63) (ES.name (i := 1) (a := vnumber) rfl rfl)))) EA.nil))) (fun t => [t.1, t.2.1, t.2.2.1]))) (ES.modk (k := 3) (ES.fdivk (k := 700) (ES.name (i := 1) (a := vnumber) rfl rfl)))) (pdl fun _ _ h => h) sc_l_one.nd rfl (.inl rfl)) (fun _ => rfl) fun vchannel_1 => (BX.ret0 (ES.tup0 (EA0.cons (ES.name (i := 2) (a := vchannel_1) rfl rfl) (EA0.cons (ES.int (i := 1)) EA0.nil)) (fun (t : Int × Int × Unit) => (t.1, t.2.1))) (pdl fun _ _ h => h))) (BD.wk (Γ' := [.va (Enc.enc vcase_here), .va (Enc.enc vnumber), .va (Enc.enc vchannel), .no, .no, .no]) (BD.seq (BS.asg (i := 3) (ES.it (ES.ix (ES.li (ES.name (i := 0) (a := vcase_here) rfl rfl)) (ES.name (i := 2) (a := vchannel) rfl rfl)) (fun t => t.3)) (pdl fun _ _ h => h) sc_l_one.nd rfl (.inl rfl)) (fun _ => rfl) fun vown => (BD.seq (BS.asg (i := 4) (ES.modk (k := 128) (ES.fdivk (k := 630) (ES.name (i := 1) (a := vnumber) rfl rfl))) (pdl fun _ _ h => h) sc_l_one.nd rfl (.inl rfl)) (fun _ => rfl) fun vother => (BD.seq (BS.asg (i := 5) (ES.ix (EF.li (EF.lst (EA.cons (ES.band (ES.name (i := 3) (a := vown) rfl rfl) (ES.name (i := 4) (a := vother) rfl rfl)) (EA.cons (ES.band (ES.name (i := 3) (a := vown) rfl rfl) (ES.name (i := 4) (a := vother) rfl rfl)) (EA.cons (ES.name (i := 3) (a := vown) rfl rfl) (EA.cons (ES.int (i := 0)) (EA.cons (ES.name (i := 4) (a := vother) rfl rfl) (EA.cons (ES.add (ES.name (i := 3) (a := vown) rfl rfl) (ES.int (i := 128))) (EA.cons (ES.sub (ES.int (i := 0)) (ES.int (i := 1))) (EA.cons (ES.band (ES.name (i := 3) (a := vown) rfl rfl) (ES.name (i := 4) (a := vother) rfl rfl)) EA.nil)))))))) (fun t => [t.1, t.2.1, t.2.2.1, t.2.2.2.1, t.2.2.2.2.1, t.2.2.2.2.2.1, t.2.2.2.2.2.2.1, t.2.2.2.2.2.2.2.1]))) (ES.modk (k := 8) (ES.fdivk (k := 63) (ES.name (i := 1) (a := vnumber) rfl rfl)))) (pdl fun _ _ h => h) sc_l_one.nd rfl (.inl rfl)) (fun _ => rfl) fun vlost => (BD.ret0 (ES.tup0 (EA0.cons (ES.name (i := 2) (a := vchannel) rfl rfl) (EA0.cons (ES.name (i := 5) (a := vlost) rfl rfl) EA0.nil)) (fun (t : Int × Int × Unit) => (t.1, t.2.1))) (pdl fun _ _ h => h))))) (by exact (.keep (.keep (.keep (.drop (.drop (.drop Wk.nil)))))))))) (by unfold l_one; first | (simp only [ok_bind]; done) | (simp only [ok_bind, M.bind_assoc]; done) | (simp only [ok_bind]; rfl) | rfl | (simp only [ok_bind, M.bind_assoc]; rfl))

abbrev s_law_ : Stmt := topS 18
theorem sc_law_ : FnScope ["_law_script", "_law_case_here", "_law_good", "_law_k", "_law_cell", "_law_one_here"] ["_law_script"] (defScope s_law_) := ⟨rfl, rfl, rfl, by decide +kernel, rfl, by decide +kernel, by decide +kernel⟩
theorem ok_law_ {P : Program} {w : World} {K : PySem.W.Frag} {mg : Str → Option Value} {base : Heap} (T : TX K mg) : FnOk P w K mg base (L2.CX P w) 6 T.f_law T.d_law ["_law_script"] (PrS T.ct K (fun t : (List Int) × Unit => [Enc.enc t.1]) (fun t : (List Int) × Unit => law_ t.1)) :=
  fn_S T.F_law sc_law_ (fun _ => rfl) (fun r => .rt (Enc.enc r)) (fun _ => .inl rfl) fun cdv A outer s H E B ⟨vscript, _⟩ hr =>
    show BD _ _ _ (law_ vscript) _ from BD.cast
    (BD.wk (Γ' := [.va (Enc.enc vscript), .no, .no, .no, .no, .no]) (BD.seq (BS.asg (i := 1) (EF.st (EF.call (ok_l_case T) (hr.mono (by decide)) T.g__law_case T.k__law_case T.b__law_case (EA.cons (ES.name (i := 0) (a := vscript) rfl rfl) (EA.cons (ES.int (i := 5)) EA.nil)))) (pdl fun _ _ h => h) sc_law_.nd rfl (.inl rfl)) (fun _ => rfl) fun vcase_here => (BD.seq (BS.asg (i := 2) (EF.st (EF.nil (α := (Int × Int)))) (pdl fun _ _ h => h) sc_law_.nd rfl (.inl rfl)) (fun _ => rfl) fun vgood => (BD.seqC (fun (r99 : Bool) => r99) (BS.forC (ρ := Bool) (IT.enum (EF.st (EF.slice (ES.li (ES.name (i := 0) (a := vscript) rfl rfl)) (EO.sm (ES.int (i := 1))) (EO.sm (ES.int (i := 21))))) T.n_enumerate) (pg_tup rfl (pgs_cons (pg_name (i := 3) sc_law_.nd rfl (.inl rfl)) (pgs_cons (pg_name (i := 4) sc_law_.nd rfl (.inl rfl)) pgs_nil))) (TgS.tup (TgsS.cons (TgsS.cons TgsS.nil)) (fun (a : (Int × Int)) => [Enc.enc a.1, Enc.enc a.2])) (fun (s86 : (List (Int × Int))) => [.va (Enc.enc vscript), .va (Enc.enc vcase_here), .va (Enc.enc s86), .no, .no, .no]) (fun r => Fl.rt (Enc.enc r)) vgood (fun _ => trivial) (by exact (.keep (.keep (.keep (.drop (.drop (.drop Wk.nil))))))) (pdl fun _ _ h => h) (fun _ s86 x87 => (BD.seq (BS.asg (i := 5) (ES.call (ok_l_one T) (hr.mono (by decide)) T.g__law_one T.k__law_one T.b__law_one (EA.cons (ES.name (i := 1) (a := vcase_here) rfl rfl) (EA.cons (ES.call (ok_l_mixed T) (hr.mono (by decide)) T.g__law_mixed T.k__law_mixed T.b__law_mixed (EA.cons (ES.name (i := 4) (a := x87.2) rfl rfl) (EA.cons (ES.name (i := 3) (a := x87.1) rfl rfl) EA.nil))) EA.nil))) (pdl fun _ _ h => h) sc_law_.nd rfl (.inl rfl)) (fun _ => rfl) fun vone_here => (BD.ifR (EW.et (EW.or (ET.not (ET.val (ES.call (ok_l_right T) (hr.mono (by decide)) T.g__law_right T.k__law_right T.b__law_right (EA.cons (ES.name (i := 1) (a := vcase_here) rfl rfl) (EA.cons (EF.st (EF.cat (ES.li (ES.name (i := 2) (a := s86) rfl rfl)) (EF.li (EF.lst (EA.cons (ES.name (i := 5) (a := vone_here) rfl rfl) EA.nil) (fun t => [t.1]))))) EA.nil))))) (EW.or1 (ET.not (ET.val (ES.call (ok_l_right T) (hr.mono (by decide)) T.g__law_right T.k__law_right T.b__law_right (EA.cons (ES.name (i := 1) (a := vcase_here) rfl rfl) (EA.cons (EF.st (EF.cat (EF.li (EF.lst (EA.cons (ES.name (i := 5) (a := vone_here) rfl rfl) EA.nil) (fun t => [t.1]))) (ES.li (ES.name (i := 2) (a := s86) rfl rfl)))) EA.nil)))))))) (pdl fun _ _ h => h) (BX.ret ES.bl (pdl fun _ _ h => h) (fun a => Ct.rt a)) (BS.toBD (BS.ifE (ET.val (ES.isi PT.lst (ES.val (ES.call (ok_l_due T) (hr.mono (by decide)) T.g__law_due T.k__law_due T.b__law_due (EA.cons (ES.name (i := 1) (a := vcase_here) rfl rfl) (EA.cons (EF.st (EF.cat (ES.li (ES.name (i := 2) (a := s86) rfl rfl)) (EF.li (EF.lst (EA.cons (ES.name (i := 5) (a := vone_here) rfl rfl) EA.nil) (fun t => [t.1]))))) EA.nil)))) T.n_isinstance T.n_list)) (pdl fun _ _ h => h) (BD.seq (BS.asg (i := 2) (EF.st (EF.cat (ES.li (ES.name (i := 2) (a := s86) rfl rfl)) (EF.li (EF.lst (EA.cons (ES.name (i := 5) (a := vone_here) rfl rfl) EA.nil) (fun t => [t.1]))))) (pdl fun _ _ h => h) sc_law_.nd rfl (.inl rfl)) (fun _ => rfl) fun vgood_1 => (BD.nil (b := Ct.nx vgood_1) rfl (by exact (.keep (.keep (.keep (.drop (.drop (.drop Wk.nil))))))))) (BD.nil (b := Ct.nx s86) rfl (by exact (.keep (.keep (.keep (.drop (.drop (.drop Wk.nil)))))))))))))) fun s98 => (BD.ret0 (ES.call (ok_l_right T) (hr.mono (by decide)) T.g__law_right T.k__law_right T.b__law_right (EA.cons (ES.name (i := 1) (a := vcase_here) rfl rfl) (EA.cons (EF.st (EF.nil (α := (Int × Int)))) EA.nil))) (pdl fun _ _ h => h))))) (by exact (.keep (.drop (.drop (.drop (.drop (.drop Wk.nil)))))))) (by unfold law_; first | (simp only [ok_bind]; done) | (simp only [ok_bind, M.bind_assoc]; done) | (simp only [ok_bind]; rfl) | rfl | (simp only [ok_bind, M.bind_assoc]; rfl))

/-! ### what the top has written -/
theorem all_mk {l : PySem.W.OpenLaw} {w : World} {K : PySem.W.Frag} {h : Heap} {mg : Str → Option Value} {fa : Addr} (X : K.In h) (G : h.Ns mainGlobals mg) (hfa : mg "law" = some (.ref fa))
    {f0 : Addr} {od0 an0 : Option Addr} {sl0 : Array (Option Value)} {oc0 kV0 dc0 pm0 cd0 ct0 : Value}
    {f1 : Addr} {od1 an1 : Option Addr} {sl1 : Array (Option Value)} {oc1 kV1 dc1 pm1 cd1 ct1 : Value}
    {f2 : Addr} {od2 an2 : Option Addr} {sl2 : Array (Option Value)} {oc2 kV2 dc2 pm2 cd2 ct2 : Value}
    {f3 : Addr} {od3 an3 : Option Addr} {sl3 : Array (Option Value)} {oc3 kV3 dc3 pm3 cd3 ct3 : Value}
    {f4 : Addr} {od4 an4 : Option Addr} {sl4 : Array (Option Value)} {oc4 kV4 dc4 pm4 cd4 ct4 : Value}
    {f5 : Addr} {od5 an5 : Option Addr} {sl5 : Array (Option Value)} {oc5 kV5 dc5 pm5 cd5 ct5 : Value}
    {f6 : Addr} {od6 an6 : Option Addr} {sl6 : Array (Option Value)} {oc6 kV6 dc6 pm6 cd6 ct6 : Value}
    {f7 : Addr} {od7 an7 : Option Addr} {sl7 : Array (Option Value)} {oc7 kV7 dc7 pm7 cd7 ct7 : Value}
    {f8 : Addr} {od8 an8 : Option Addr} {sl8 : Array (Option Value)} {oc8 kV8 dc8 pm8 cd8 ct8 : Value}
    {f9 : Addr} {od9 an9 : Option Addr} {sl9 : Array (Option Value)} {oc9 kV9 dc9 pm9 cd9 ct9 : Value}
    {f10 : Addr} {od10 an10 : Option Addr} {sl10 : Array (Option Value)} {oc10 kV10 dc10 pm10 cd10 ct10 : Value}
    {f11 : Addr} {od11 an11 : Option Addr} {sl11 : Array (Option Value)} {oc11 kV11 dc11 pm11 cd11 ct11 : Value}
    {e_CasterError : Addr}
    {e_NoCase : Addr}
    {nm_NoCase q_NoCase : Str} {N_NoCase : Addr} {bs_NoCase bm_NoCase : List Value} {sn_NoCase : List Str} {sub_NoCase : List Value} {ab_NoCase : Bool} {col_NoCase : Option Bool} {dd_NoCase : Option Addr} {m0_NoCase m1_NoCase m2_NoCase m3_NoCase m5_NoCase : Option Value}
    {i_NoCase : Addr} {ocI_NoCase kVI_NoCase dcI_NoCase pmI_NoCase cdI_NoCase ctI_NoCase : Value} {odI_NoCase anI_NoCase : Option Addr} {slI_NoCase : Array (Option Value)}
    {e_NoKeys : Addr}
    (a0 : PySem.W.nsIn K mainGlobals "_law_mixed" = some (some (.ref f0))) (l0 : K.lookup f0 = some ⟨oc0, od0, .func (PySem.W.fnOf "_law_mixed" "_law_mixed" (defArgs s_l_mixed) (defBody s_l_mixed) (defScope s_l_mixed) .none kV0 dc0 pm0 an0 cd0 ct0), sl0⟩) (c0 : PySem.W.codeIn K cd0 "_law_mixed" = true) (k0 : PySem.W.keepIn K (.ref f0) = true)
    (a1 : PySem.W.nsIn K mainGlobals "_law_bits" = some (some (.ref f1))) (l1 : K.lookup f1 = some ⟨oc1, od1, .func (PySem.W.fnOf "_law_bits" "_law_bits" (defArgs s_l_bits) (defBody s_l_bits) (defScope s_l_bits) .none kV1 dc1 pm1 an1 cd1 ct1), sl1⟩) (c1 : PySem.W.codeIn K cd1 "_law_bits" = true) (k1 : PySem.W.keepIn K (.ref f1) = true)
    (a2 : PySem.W.nsIn K mainGlobals "_law_teeth" = some (some (.ref f2))) (l2 : K.lookup f2 = some ⟨oc2, od2, .func (PySem.W.fnOf "_law_teeth" "_law_teeth" (defArgs s_l_teeth) (defBody s_l_teeth) (defScope s_l_teeth) .none kV2 dc2 pm2 an2 cd2 ct2), sl2⟩) (c2 : PySem.W.codeIn K cd2 "_law_teeth" = true) (k2 : PySem.W.keepIn K (.ref f2) = true)
    (a3 : PySem.W.nsIn K mainGlobals "_law_cell_at" = some (some (.ref f3))) (l3 : K.lookup f3 = some ⟨oc3, od3, .func (PySem.W.fnOf "_law_cell_at" "_law_cell_at" (defArgs s_l_cell_at) (defBody s_l_cell_at) (defScope s_l_cell_at) .none kV3 dc3 pm3 an3 cd3 ct3), sl3⟩) (c3 : PySem.W.codeIn K cd3 "_law_cell_at" = true) (k3 : PySem.W.keepIn K (.ref f3) = true)
    (a4 : PySem.W.nsIn K mainGlobals "_law_case" = some (some (.ref f4))) (l4 : K.lookup f4 = some ⟨oc4, od4, .func (PySem.W.fnOf "_law_case" "_law_case" (defArgs s_l_case) (defBody s_l_case) (defScope s_l_case) .none kV4 dc4 pm4 an4 cd4 ct4), sl4⟩) (c4 : PySem.W.codeIn K cd4 "_law_case" = true) (k4 : PySem.W.keepIn K (.ref f4) = true)
    (a5 : PySem.W.nsIn K mainGlobals "_law_due" = some (some (.ref f5))) (l5 : K.lookup f5 = some ⟨oc5, od5, .func (PySem.W.fnOf "_law_due" "_law_due" (defArgs s_l_due) (defBody s_l_due) (defScope s_l_due) .none kV5 dc5 pm5 an5 cd5 ct5), sl5⟩) (c5 : PySem.W.codeIn K cd5 "_law_due" = true) (k5 : PySem.W.keepIn K (.ref f5) = true)
    (a6 : PySem.W.nsIn K mainGlobals "has_all" = some (some (.ref f6))) (l6 : K.lookup f6 = some ⟨oc6, od6, .func (PySem.W.fnOf "has_all" "has_all" (defArgs s_p_has_all) (defBody s_p_has_all) (defScope s_p_has_all) .none kV6 dc6 pm6 an6 cd6 ct6), sl6⟩) (c6 : PySem.W.codeIn K cd6 "has_all" = true) (k6 : PySem.W.keepIn K (.ref f6) = true)
    (a7 : PySem.W.nsIn K mainGlobals "channels_of" = some (some (.ref f7))) (l7 : K.lookup f7 = some ⟨oc7, od7, .func (PySem.W.fnOf "channels_of" "channels_of" (defArgs s_p_channels_of) (defBody s_p_channels_of) (defScope s_p_channels_of) .none kV7 dc7 pm7 an7 cd7 ct7), sl7⟩) (c7 : PySem.W.codeIn K cd7 "channels_of" = true) (k7 : PySem.W.keepIn K (.ref f7) = true)
    (a8 : PySem.W.nsIn K mainGlobals "_law_told" = some (some (.ref f8))) (l8 : K.lookup f8 = some ⟨oc8, od8, .func (PySem.W.fnOf "_law_told" "_law_told" (defArgs s_l_told) (defBody s_l_told) (defScope s_l_told) .none kV8 dc8 pm8 an8 cd8 ct8), sl8⟩) (c8 : PySem.W.codeIn K cd8 "_law_told" = true) (k8 : PySem.W.keepIn K (.ref f8) = true)
    (a9 : PySem.W.nsIn K mainGlobals "_law_right" = some (some (.ref f9))) (l9 : K.lookup f9 = some ⟨oc9, od9, .func (PySem.W.fnOf "_law_right" "_law_right" (defArgs s_l_right) (defBody s_l_right) (defScope s_l_right) .none kV9 dc9 pm9 an9 cd9 ct9), sl9⟩) (c9 : PySem.W.codeIn K cd9 "_law_right" = true) (k9 : PySem.W.keepIn K (.ref f9) = true)
    (a10 : PySem.W.nsIn K mainGlobals "_law_one" = some (some (.ref f10))) (l10 : K.lookup f10 = some ⟨oc10, od10, .func (PySem.W.fnOf "_law_one" "_law_one" (defArgs s_l_one) (defBody s_l_one) (defScope s_l_one) .none kV10 dc10 pm10 an10 cd10 ct10), sl10⟩) (c10 : PySem.W.codeIn K cd10 "_law_one" = true) (k10 : PySem.W.keepIn K (.ref f10) = true)
    (a11 : PySem.W.nsIn K mainGlobals "law" = some (some (.ref f11))) (l11 : K.lookup f11 = some ⟨oc11, od11, .func (PySem.W.fnOf "law" "law" (defArgs s_law_) (defBody s_law_) (defScope s_law_) .none kV11 dc11 pm11 an11 cd11 ct11), sl11⟩) (c11 : PySem.W.codeIn K cd11 "law" = true) (k11 : PySem.W.keepIn K (.ref f11) = true)
    (z0 : PySem.W.nsIn K mainGlobals "ValueError" = some none)
    (z1 : PySem.W.nsIn K mainGlobals "bool" = some none)
    (z2 : PySem.W.nsIn K mainGlobals "enumerate" = some none)
    (z3 : PySem.W.nsIn K mainGlobals "int" = some none)
    (z4 : PySem.W.nsIn K mainGlobals "isinstance" = some none)
    (z5 : PySem.W.nsIn K mainGlobals "len" = some none)
    (z6 : PySem.W.nsIn K mainGlobals "list" = some none)
    (z7 : PySem.W.nsIn K mainGlobals "range" = some none)
    (z8 : PySem.W.nsIn K mainGlobals "sorted" = some none)
    (aC_CasterError : PySem.W.nsIn K mainGlobals "CasterError" = some (some (.ref e_CasterError)))
    (sB_CasterError : PySem.W.subIn K (.ref e_CasterError) (.type "BaseException") = some true)
    (tT_CasterError : PySem.W.typeIn K (.ref e_CasterError) = some (.type "type"))
    (iS_CasterError : PySem.W.isClsIn K e_CasterError = true)
    (s1_CasterError : PySem.W.specialIn K (.ref e_CasterError) "__getattribute__" = some (some (.builtin "type.__getattribute__")))
    (s2_CasterError : PySem.W.readsIn K e_CasterError (.type "type") = true)
    (s3_CasterError : PySem.W.findCls K (.ref e_CasterError) (.type "type") "__init__" = some (.val (.builtin "ValueError.__init__")))
    (aC_NoCase : PySem.W.nsIn K mainGlobals "NoCase" = some (some (.ref e_NoCase)))
    (sB_NoCase : PySem.W.subIn K (.ref e_NoCase) (.type "BaseException") = some true)
    (tT_NoCase : PySem.W.typeIn K (.ref e_NoCase) = some (.type "type"))
    (iS_NoCase : PySem.W.isClsIn K e_NoCase = true)
    (xL_NoCase : K.lookup e_NoCase = some (excClassObj nm_NoCase q_NoCase e_NoCase N_NoCase bs_NoCase bm_NoCase true sn_NoCase sub_NoCase ab_NoCase col_NoCase dd_NoCase m0_NoCase m1_NoCase m2_NoCase m3_NoCase m5_NoCase "ValueError.__new__"))
    (rv_NoCase : PySem.HandSPX.refsVE bm_NoCase = true)
    (sa_NoCase : PySem.W.findIn K (.ref e_NoCase) "__setattr__" = some (some (.builtin "object.__setattr__")))
    (kC_NoCase : PySem.W.keepIn K (.ref e_NoCase) = true)
    (iC_NoCase : PySem.W.findIn K (.ref e_NoCase) "__init__" = some (some (.ref i_NoCase)))
    (tI_NoCase : PySem.W.typeIn K (.ref i_NoCase) = some (.type "function"))
    (lI_NoCase : K.lookup i_NoCase = some ⟨ocI_NoCase, odI_NoCase, .func (PySem.W.fnOf "__init__" "NoCase.__init__" (defArgs (iniS 2)) (defBody (iniS 2)) (defScope (iniS 2)) .none kVI_NoCase dcI_NoCase pmI_NoCase anI_NoCase cdI_NoCase ctI_NoCase), slI_NoCase⟩)
    (cI_NoCase : PySem.W.codeIn K cdI_NoCase "NoCase.__init__" = true)
    (kI_NoCase : PySem.W.keepIn K (.ref i_NoCase) = true)
    (nb_NoCase : PySem.W.findIn K (.ref e_NoCase) "at" = some none)
    (aC_NoKeys : PySem.W.nsIn K mainGlobals "NoKeys" = some (some (.ref e_NoKeys)))
    (sB_NoKeys : PySem.W.subIn K (.ref e_NoKeys) (.type "BaseException") = some true)
    (tT_NoKeys : PySem.W.typeIn K (.ref e_NoKeys) = some (.type "type"))
    (iS_NoKeys : PySem.W.isClsIn K e_NoKeys = true)
    (vg_NoCase : PySem.W.findIn K (.ref e_NoCase) "__getattribute__" = some (some (.builtin "BaseException.__getattribute__")))
    (vk_NoCase : PySem.W.findIn K (.ref e_NoCase) "__getattr__" = some none)
    (vd_NoCase : PySem.W.hasDictIn K e_NoCase = true)
    (va_NoCase : PySem.W.findIn K (.ref e_NoCase) "__class__" = some (some (.builtin "object.__class__")))
    (vm_NoCase : PySem.W.mroIn K e_NoCase (.type "object") = some true)
    (vn_ : PySem.W.specialIn K (.builtin "object.__class__") "__get__" = some (some (.builtin "getset_descriptor.__get__")))
    (vt_ : PySem.W.takesIn K (.builtin "object.__class__") = some true)
    (sv_NoCase_ValueError : PySem.W.subIn K (.ref e_NoCase) (.type "ValueError") = some true)
    (sm_NoCase_CasterError : PySem.W.subIn K (.ref e_NoCase) (.ref e_CasterError) = some true)
    (sm_NoCase_NoCase : PySem.W.subIn K (.ref e_NoCase) (.ref e_NoCase) = some true)
    (sm_NoCase_NoKeys : PySem.W.subIn K (.ref e_NoCase) (.ref e_NoKeys) = some false)
    (sm_NoKeys_NoKeys : PySem.W.subIn K (.ref e_NoKeys) (.ref e_NoKeys) = some true) :
    ∃ (T : TX K mg) (fd : FuncData), T.f_law = fa ∧ fd = T.d_law ∧ (∀ (s : Shared) (v : Value), BindsTo s fd ⟨[v], []⟩ [("_law_script", v)]) := by
  have e := hfa.symm.trans (PySem.W.mg_of X G a11)
  cases e
  have F0 := fun_mk (st := s_l_mixed) l0 c0 k0
  have b0 := F0.binds (ps := ["_law_cell", "_law_k"]) fun _ _ _ _ _ _ us hl => match us, hl with | [_, _], _ => rfl
  have F1 := fun_mk (st := s_l_bits) l1 c1 k1
  have b1 := F1.binds (ps := ["_law_one_here"]) fun _ _ _ _ _ _ us hl => match us, hl with | [_], _ => rfl
  have F2 := fun_mk (st := s_l_teeth) l2 c2 k2
  have b2 := F2.binds (ps := ["_law_number", "_law_many"]) fun _ _ _ _ _ _ us hl => match us, hl with | [_, _], _ => rfl
  have F3 := fun_mk (st := s_l_cell_at) l3 c3 k3
  have b3 := F3.binds (ps := ["_law_script", "_law_k"]) fun _ _ _ _ _ _ us hl => match us, hl with | [_, _], _ => rfl
  have F4 := fun_mk (st := s_l_case) l4 c4 k4
  have b4 := F4.binds (ps := ["_law_script", "_law_most"]) fun _ _ _ _ _ _ us hl => match us, hl with | [_, _], _ => rfl
  have F5 := fun_mk (st := s_l_due) l5 c5 k5
  have b5 := F5.binds (ps := ["_law_case_here", "_law_broken"]) fun _ _ _ _ _ _ us hl => match us, hl with | [_, _], _ => rfl
  have F6 := fun_mk (st := s_p_has_all) l6 c6 k6
  have b6 := F6.binds (ps := ["teeth", "others"]) fun _ _ _ _ _ _ us hl => match us, hl with | [_, _], _ => rfl
  have F7 := fun_mk (st := s_p_channels_of) l7 c7 k7
  have b7 := F7.binds (ps := ["case", "broken"]) fun _ _ _ _ _ _ us hl => match us, hl with | [_, _], _ => rfl
  have F8 := fun_mk (st := s_l_told) l8 c8 k8
  have b8 := F8.binds (ps := ["_law_case_here", "_law_broken"]) fun _ _ _ _ _ _ us hl => match us, hl with | [_, _], _ => rfl
  have F9 := fun_mk (st := s_l_right) l9 c9 k9
  have b9 := F9.binds (ps := ["_law_case_here", "_law_broken"]) fun _ _ _ _ _ _ us hl => match us, hl with | [_, _], _ => rfl
  have F10 := fun_mk (st := s_l_one) l10 c10 k10
  have b10 := F10.binds (ps := ["_law_case_here", "_law_number"]) fun _ _ _ _ _ _ us hl => match us, hl with | [_, _], _ => rfl
  have F11 := fun_mk (st := s_law_) l11 c11 k11
  have b11 := F11.binds (ps := ["_law_script"]) fun _ _ _ _ _ _ us hl => match us, hl with | [_], _ => rfl
  have FI_NoCase := fun_mk (st := iniS 2) lI_NoCase cI_NoCase kI_NoCase
  have bI_NoCase := FI_NoCase.binds (ps := ["self", "at"]) fun _ _ _ _ _ _ us hl => match us, hl with | [_, _], _ => rfl
  exact ⟨{ ct := ⟨fun n => ([e_CasterError, e_NoCase, e_NoKeys] : List Addr).getD n 0, fun n => ([none, some "at", some "at"] : List (Option Str)).getD n none⟩, e_CasterError := e_CasterError, g_CasterError := PySem.W.mg_of X G aC_CasterError, z_CasterError := rfl, s1_CasterError := s1_CasterError, s2_CasterError := s2_CasterError, s3_CasterError := s3_CasterError, e_NoCase := e_NoCase, g_NoCase := PySem.W.mg_of X G aC_NoCase, z_NoCase := rfl, x_NoCase := ⟨⟨_, _, _, _, _, _, _, _, _, _, _, _, _, _, _, xL_NoCase, rv_NoCase⟩, sa_NoCase, sB_NoCase, tT_NoCase, kC_NoCase⟩, w_NoCase := rfl, i_NoCase := i_NoCase, id_NoCase := _, F_NoCase := FI_NoCase, bI_NoCase := bI_NoCase, iC_NoCase := iC_NoCase, tI_NoCase := tI_NoCase, no_NoCase := nb_NoCase, e_NoKeys := e_NoKeys, g_NoKeys := PySem.W.mg_of X G aC_NoKeys, z_NoKeys := rfl, v_NoCase := ⟨vg_NoCase, vk_NoCase, sB_NoCase, vd_NoCase, va_NoCase, vn_, vt_, vm_NoCase⟩, nc_NoCase := nb_NoCase, q_NoCase_NoCase := kone_own iS_NoCase tT_NoCase sm_NoCase_NoCase sm_NoCase_NoCase, q_NoCase_NoKeys := kone_own iS_NoKeys tT_NoKeys sm_NoKeys_NoKeys sm_NoCase_NoKeys, q_NoCase_ValueError := kone_ty (by decide +kernel) sv_NoCase_ValueError, m_NoCase_CasterError := exm_own sB_CasterError iS_CasterError tT_CasterError sm_NoCase_CasterError, f__law_mixed := f0, d__law_mixed := _, F__law_mixed := F0, b__law_mixed := b0, g__law_mixed := PySem.W.mg_of X G a0, k__law_mixed := k0, f__law_bits := f1, d__law_bits := _, F__law_bits := F1, b__law_bits := b1, g__law_bits := PySem.W.mg_of X G a1, k__law_bits := k1, f__law_teeth := f2, d__law_teeth := _, F__law_teeth := F2, b__law_teeth := b2, g__law_teeth := PySem.W.mg_of X G a2, k__law_teeth := k2, f__law_cell_at := f3, d__law_cell_at := _, F__law_cell_at := F3, b__law_cell_at := b3, g__law_cell_at := PySem.W.mg_of X G a3, k__law_cell_at := k3, f__law_case := f4, d__law_case := _, F__law_case := F4, b__law_case := b4, g__law_case := PySem.W.mg_of X G a4, k__law_case := k4, f__law_due := f5, d__law_due := _, F__law_due := F5, b__law_due := b5, g__law_due := PySem.W.mg_of X G a5, k__law_due := k5, f_has_all := f6, d_has_all := _, F_has_all := F6, b_has_all := b6, g_has_all := PySem.W.mg_of X G a6, k_has_all := k6, f_channels_of := f7, d_channels_of := _, F_channels_of := F7, b_channels_of := b7, g_channels_of := PySem.W.mg_of X G a7, k_channels_of := k7, f__law_told := f8, d__law_told := _, F__law_told := F8, b__law_told := b8, g__law_told := PySem.W.mg_of X G a8, k__law_told := k8, f__law_right := f9, d__law_right := _, F__law_right := F9, b__law_right := b9, g__law_right := PySem.W.mg_of X G a9, k__law_right := k9, f__law_one := f10, d__law_one := _, F__law_one := F10, b__law_one := b10, g__law_one := PySem.W.mg_of X G a10, k__law_one := k10, f_law := fa, d_law := _, F_law := F11, b_law := b11, g_law := PySem.W.mg_of X G a11, k_law := k11, n_ValueError := PySem.W.mg_none_of X G z0, n_bool := PySem.W.mg_none_of X G z1, n_enumerate := PySem.W.mg_none_of X G z2, n_int := PySem.W.mg_none_of X G z3, n_isinstance := PySem.W.mg_none_of X G z4, n_len := PySem.W.mg_none_of X G z5, n_list := PySem.W.mg_none_of X G z6, n_range := PySem.W.mg_none_of X G z7, n_sorted := PySem.W.mg_none_of X G z8 }, _, rfl, rfl, fun s v => .of_eq rfl⟩
theorem ix_nn {xs : List Int} {i : Int} (h0 : 0 ≤ i) (h1 : i < xs.length) (h : ∀ x ∈ xs, 0 ≤ x) : ∃ a, ixM xs i = .ok a ∧ 0 ≤ a := ⟨_, ixM_eq h0 h1, h _ (List.getElem_mem _)⟩
theorem ix_tab {α : Type} {xs : List α} {i : Int} (h0 : 0 ≤ i) (h1 : i < xs.length) : ∃ a, ixM xs i = .ok a ∧ a ∈ xs := ⟨_, ixM_eq h0 h1, List.getElem_mem _⟩
theorem ix_sat {α : Type} {xs : List α} {i : Int} (h0 : 0 ≤ i) (h1 : i < xs.length) : (ixM xs i).Sat fun a => a ∈ xs := ⟨_, ixM_eq h0 h1, List.getElem_mem _⟩
theorem getD_at {α : Type} {xs : List α} {i : Nat} {d : α} (h : i < xs.length) : xs.getD i d = xs[i] := by simp [h]
theorem nd_inj {α : Type} {xs : List α} (h : xs.Nodup) {i j : Nat} (hi : i < xs.length) (hj : j < xs.length) (e : xs[i] = xs[j]) : i = j := by
  have hp := List.pairwise_iff_getElem.mp h
  rcases Nat.lt_trichotomy i j with h1 | h1 | h1
  · exact absurd e (hp i j hi hj h1)
  · exact h1
  · exact absurd e.symm (hp j i hj hi h1)
theorem loopC_find {α σ ρ : Type} {f : σ → α → R (Ct σ ρ)} {p : α → Bool} {g : α → σ} {s : σ} : ∀ {xs : List α}, (∀ x ∈ xs, f s x = .ok (if p x = true then .bk (g x) else .nx s)) → loopC f xs s = .ok (match xs.find? p with | some x => .bk (g x) | none => .nx s)
  | [], _ => rfl
  | x :: xs, h => by
    unfold loopC
    rw [h x List.mem_cons_self, ok_bind]
    by_cases e : p x = true
    · simp [e]
    · have ih := loopC_find (xs := xs) fun y hy => h y (List.mem_cons_of_mem _ hy)
      simp only [e, if_false, Bool.false_eq_true]
      rw [ih, List.find?_cons_of_neg e]
theorem whileF_sat {σ : Type} {c : σ → R Bool} {f : σ → R σ} (I : σ → Prop) (μ : σ → Nat) (b : σ → Bool) (hc : ∀ s, I s → c s = .ok (b s)) (hf : ∀ s, I s → b s = true → (f s).Sat fun s' => I s' ∧ μ s' < μ s) : ∀ (n : Nat) (s : σ), I s → μ s < n → (whileF c f n s).Sat fun s' => I s' ∧ b s' = false
  | 0, s, _, h => by omega
  | n + 1, s, hI, h => by
    unfold whileF
    rw [hc s hI, ok_bind]
    cases hb : b s with
    | false => rw [if_neg (by decide)]; exact sat_ok ⟨hI, hb⟩
    | true =>
      rw [if_pos rfl]
      exact sat_bind (hf s hI hb) fun s' ⟨h1, h2⟩ => whileF_sat I μ b hc hf n s' h1 (by omega)
theorem cell_at_sat {v : List Int} {k : Int} (h : 0 ≤ k) : (l_cell_at v k).Sat fun _ => True := by
  unfold l_cell_at
  split
  · rename_i hk
    rw [decide_eq_true_iff] at hk
    exact sat_eq (ixM_eq h hk) trivial
  · exact sat_ok trivial
theorem mixed_sat {c k : Int} (hk : -1000000000 ≤ k ∧ k < 1000000000) : (l_mixed c k).Sat fun y => 0 ≤ y ∧ y < 2147483647 := by
  unfold l_mixed
  rw [mulM_ok (.inr (by omega)), ok_bind, ok_bind, ok_bind, ok_bind, ok_bind]
  exact sat_ok (by omega)
def chOk (ch : T4 Tx Int Int Int) : Prop := (∃ c ∈ tx0, ch.1 = [c]) ∧ (1 ≤ ch.2 ∧ ch.2 ≤ 99) ∧ (0 ≤ ch.3 ∧ ch.3 < 128) ∧ (0 ≤ ch.4 ∧ ch.4 ≤ 40)
/-- a case: so many channels, all in their bounds, signs unlike, teeth unlike -/
structure CaseOk (cs : List (T4 Tx Int Int Int)) : Prop where
  len : 1 ≤ cs.length ∧ cs.length ≤ 30
  ch : ∀ x ∈ cs, chOk x
  nds : (cs.map fun x => x.1).Nodup
  ndc : (cs.map fun x => x.3).Nodup
theorem tx0_nd : tx0.Nodup := by decide
def bitsK : Nat → Int → Int
  | 0, _ => 0
  | k + 1, x => x % 2 + bitsK k (x / 2)
theorem bitsK_zero : ∀ k, bitsK k 0 = 0
  | 0 => rfl
  | k + 1 => by unfold bitsK; have := bitsK_zero k; simpa using this
theorem tooth_go : ∀ (k n : Nat) (m x : Int), 0 ≤ x → x < 2 ^ k → k < n → whileF (fun (s : Int × Int) => R.ok (decide ((0 : Int) < s.2))) (fun (s : Int × Int) => R.ok (s.1 + (s.2 % 2), s.2 / 2)) n (m, x) = .ok (m + bitsK k x, 0)
  | 0, n + 1, m, x, h0, h1, h2 => by
    have e : x = 0 := by simp at h1; omega
    subst e
    unfold whileF
    simp [bitsK]
  | k + 1, n + 1, m, x, h0, h1, h2 => by
    unfold whileF
    rw [ok_bind]
    by_cases hx : 0 < x
    · rw [if_pos (by simpa using hx), ok_bind, tooth_go k n (m + x % 2) (x / 2) (by omega) (by rw [Int.pow_succ] at h1; omega) (by omega)]
      rw [show bitsK (k + 1) x = x % 2 + bitsK k (x / 2) from rfl, Int.add_assoc]
    · have e : x = 0 := by omega
      subst e
      rw [if_neg (by simp), bitsK_zero]
      simp
def bitsN (n : Nat) : Nat := n % 2 + (n / 2 % 2 + (n / 2 / 2 % 2 + (n / 2 / 2 / 2 % 2 + (n / 2 / 2 / 2 / 2 % 2 + (n / 2 / 2 / 2 / 2 / 2 % 2 + n / 2 / 2 / 2 / 2 / 2 / 2 % 2)))))
theorem bitsK_N {x : Int} (h : 0 ≤ x) : bitsK 7 x = (bitsN x.toNat : Int) := by
  unfold bitsN
  simp only [bitsK]
  omega
theorem bits_eq {x : Int} (h : 0 ≤ x ∧ x < 128) : l_bits x = .ok (bitsN x.toNat : Int) := by
  unfold l_bits
  dsimp only
  rw [tooth_go 7 1000000 0 x h.1 (by omega) (by omega), ok_bind, bitsK_N h.1]
  simp
theorem rank7 : ∀ a : Nat, a < 128 → ∀ b : Nat, b < 128 → bitsN a ≤ bitsN b → a ≠ b → a &&& b ≠ b := by decide +kernel
theorem rankI {a b : Int} (ha : 0 ≤ a ∧ a < 128) (hb : 0 ≤ b ∧ b < 128) (h : bitsN a.toNat ≤ bitsN b.toNat) (hne : a ≠ b) : Builtin.bitAnd a b ≠ b := by
  obtain ⟨n, rfl⟩ := Int.eq_ofNat_of_zero_le ha.1
  obtain ⟨m, rfl⟩ := Int.eq_ofNat_of_zero_le hb.1
  rw [band_nat]
  have := rank7 n (by omega) m (by omega) h (by omega)
  omega
theorem nodup_sub_len {α : Type} [DecidableEq α] : ∀ {xs ys : List α}, xs.Nodup → (∀ x ∈ xs, x ∈ ys) → xs.length ≤ ys.length
  | [], ys, _, _ => Nat.zero_le _
  | x :: xs, ys, h, hs => by
    obtain ⟨h1, h2⟩ := List.nodup_cons.mp h
    have ih := nodup_sub_len (xs := xs) (ys := ys.erase x) h2 fun y hy => (List.mem_erase_of_ne (fun e : y = x => h1 (by rw [← e]; exact hy))).mpr (hs y (List.mem_cons_of_mem _ hy))
    have hx := hs x List.mem_cons_self
    have hl := List.length_erase_of_mem hx
    have hp := List.length_pos_of_mem hx
    simp only [List.length_cons]
    omega
/-- the next one that is not there -/
theorem next_go {L : List Int} : ∀ (d n : Nat) (a : Int), 0 ≤ a ∧ a < 128 → (a + d) % 128 ∉ L → d < n → (whileF (fun (s : Int) => R.ok (decide (s ∈ L))) (fun (s : Int) => let b : Int := (s + (1 : Int)) % 128
  .ok b) n a).Sat fun b => (0 ≤ b ∧ b < 128) ∧ b ∉ L
  | d, 0, a, _, _, h => by omega
  | d, n + 1, a, ha, hn, h => by
    unfold whileF
    rw [ok_bind]
    by_cases hm : a ∈ L
    · rw [if_pos (decide_eq_true hm)]
      dsimp only
      rw [ok_bind]
      cases d with
      | zero =>
        have e : (a + ((0 : Nat) : Int)) % 128 = a := by omega
        rw [e] at hn
        exact absurd hm hn
      | succ d =>
        refine next_go d n _ (by omega) ?_ (by omega)
        have e : ((a + 1) % 128 + (d : Int)) % 128 = (a + ((d + 1 : Nat) : Int)) % 128 := by omega
        rw [e]
        exact hn
    · rw [if_neg (by simp [hm])]
      exact sat_ok ⟨ha, hm⟩
theorem next_sat {L : List Int} (hl : L.length < 128) {a : Int} (ha : 0 ≤ a ∧ a < 128) : (whileF (fun (s : Int) => R.ok (decide (s ∈ L))) (fun (s : Int) => let b : Int := (s + (1 : Int)) % 128
  .ok b) 1000000 a).Sat fun b => (0 ≤ b ∧ b < 128) ∧ b ∉ L := by
  have hex : ∃ x ∈ irange 0 128, x ∉ L := Classical.byContradiction fun hn => by
    have hall : ∀ x ∈ irange 0 128, x ∈ L := fun x hx => Classical.byContradiction fun hz => hn ⟨x, hx, hz⟩
    have hnd : (irange 0 128).Nodup := by decide +kernel
    have := nodup_sub_len hnd hall
    rw [irange_length] at this
    omega
  obtain ⟨x, hx, hxl⟩ := hex
  have hx := irange_mem.mp hx
  refine next_go ((x - a) % 128).toNat 1000000 a ha ?_ (by omega)
  have e : (a + (((x - a) % 128).toNat : Int)) % 128 = x := by omega
  rw [e]
  exact hxl
theorem teeth_sat {n m : Int} (hn : 0 ≤ n) (hm : 0 ≤ m ∧ m ≤ 40) : (l_teeth n m).Sat fun ts => ts.length = m.toNat ∧ (ts.Nodup ∧ ts.Pairwise fun a b => Builtin.bitAnd a b ≠ b) ∧ ∀ x ∈ ts, 0 ≤ x ∧ x < 128 := by
  unfold l_teeth
  dsimp only
  rw [rangeM_ok (by omega), ok_bind]
  refine sat_bind (loopF_inv (fun i (s : Int × List Int) => 0 ≤ s.1 ∧ s.2.length = i ∧ s.2.Nodup ∧ ∀ x ∈ s.2, 0 ≤ x ∧ x < 128) ⟨hn, rfl, List.nodup_nil, by simp⟩ ?_) ?_
  · rintro i x s e ⟨h0, h1, h2, h3⟩
    have hx := irange_mem.mp (List.mem_of_getElem? e)
    have hi := (List.getElem?_eq_some_iff.mp e).1
    rw [irange_length] at hi
    refine sat_bind (next_sat (L := s.2) (by omega) (by omega)) fun b ⟨hb1, hb2⟩ => ?_
    rw [pushM_ok (by omega), ok_bind]
    refine sat_ok ⟨by dsimp only; omega, by simp [h1], ?_, fun y hy => ?_⟩
    · dsimp only
      rw [List.nodup_append]
      exact ⟨h2, by simp, fun a ha b' hb' => by rw [List.mem_singleton] at hb'; subst hb'; exact fun e => hb2 (e ▸ ha)⟩
    · dsimp only at hy
      rw [List.mem_append, List.mem_singleton] at hy
      rcases hy with hy | rfl
      · exact h3 y hy
      · exact hb1
  · rintro s ⟨h0, h1, h2, h3⟩
    rw [irange_length] at h1
    rw [mpM_ok (g := fun x : Int => ((bitsN x.toNat : Int), x)) (by omega) fun x hx => by rw [bits_eq (h3 x hx), ok_bind], ok_bind, ok_bind]
    have hp : ((upD (s.2.map fun x : Int => ((bitsN x.toNat : Int), x))).map fun p => p.2).Perm s.2 := by
      have := (upD_perm (xs := s.2.map fun x : Int => ((bitsN x.toNat : Int), x))).map fun p => p.2
      rw [List.map_map] at this
      have e : ((fun p : Int × Int => p.2) ∘ fun x : Int => ((bitsN x.toNat : Int), x)) = id := rfl
      rw [e, List.map_id] at this
      exact this
    have hl := hp.length_eq
    rw [List.length_map] at hl
    rw [mpM_ok (g := fun p : Int × Int => p.2) (by omega) fun _ _ => rfl]
    have hnd := hp.nodup_iff.mpr h2
    refine sat_ok ⟨by rw [List.length_map]; omega, ⟨hnd, ?_⟩, fun x hx => h3 x (hp.mem_iff.mp hx)⟩
    have hs := upP_sorted (xs := s.2.map fun x : Int => ((bitsN x.toNat : Int), x))
    have hm : ∀ p ∈ upD (s.2.map fun x : Int => ((bitsN x.toNat : Int), x)), p.1 = (bitsN p.2.toNat : Int) ∧ p.2 ∈ s.2 := fun p hp => by
      obtain ⟨c, hc, rfl⟩ := List.mem_map.mp (upD_perm.mem_iff.mp hp)
      exact ⟨rfl, hc⟩
    refine List.Pairwise.imp_of_mem (fun {a b} ha hb h => ?_) (List.Pairwise.and (List.pairwise_map.mpr (List.Pairwise.imp_of_mem (fun {p q} hp hq h => ?_) hs) : List.Pairwise (fun a b : Int => bitsN a.toNat ≤ bitsN b.toNat) _) hnd)
    · exact rankI (h3 a (hp.mem_iff.mp ha)) (h3 b (hp.mem_iff.mp hb)) h.1 h.2
    · have e1 := (hm p hp).1
      have e2 := (hm q hq).1
      omega
theorem step11 {f i j : Int} (hi : 0 ≤ i ∧ i < 30) (hj : 0 ≤ j ∧ j < 30) (e : (f + 11 * i) % 30 = (f + 11 * j) % 30) : i = j := by omega
theorem casego_sat {v : List Int} {ts : List Int} {n : Int} {most : Int} (hn : 0 ≤ n) (hm : 0 ≤ most ∧ most ≤ 40) (ht : (1 ≤ ts.length ∧ ts.length ≤ 30) ∧ (ts.Nodup ∧ ts.Pairwise fun a b => Builtin.bitAnd a b ≠ b) ∧ ∀ x ∈ ts, 0 ≤ x ∧ x < 128) :
    (loopF (fun (s27 : Int × (List (T4 Tx Int Int Int))) (x28 : (Int × Int)) => let vnumber_1 : Int := (((s27.1 + x28.1) + (1 : Int)) * 48271) % 2147483647
  R.bind (R.bind (R.bind (R.bind (R.bind (l_cell_at v (0 : Int)) fun z29 => .ok (z29 / 7)) fun z30 => .ok (z30 + (11 * x28.1))) fun z31 => .ok (z31 % 30)) fun z32 => ixTxM tx0 z32) fun (vsign : Tx) => R.bind (R.bind (R.bind (modM (vnumber_1 / 500) (most + (1 : Int))) fun z33 => .ok (T4.mk vsign ((1 : Int) + ((vnumber_1 / 5) % 99)) x28.2 z33)) fun z34 => pushM s27.2 z34) fun (vcase_here_1 : (List (T4 Tx Int Int Int))) => .ok (vnumber_1, vcase_here_1)) (enumL ts) (n, [])).Sat fun s => CaseOk s.2 ∧ (∀ ch ∈ s.2, ch.4 ≤ most) ∧ (s.2.map fun c => c.3).Pairwise fun a b => Builtin.bitAnd a b ≠ b := by
  obtain ⟨a0, ha0, -⟩ := cell_at_sat (v := v) (k := 0) (by decide)
  refine sat_mono (loopF_inv (fun i s => (0 ≤ s.1 ∧ s.2.length = i) ∧ (∀ x ∈ s.2, chOk x ∧ x.4 ≤ most) ∧ (∀ k : Nat, (hk : k < s.2.length) → (s.2[k].1 = [tx0.getD ((a0 / 7 + 11 * (k : Int)) % 30).toNat 0]) ∧ s.2[k].3 = ts.getD k 0)) ⟨⟨hn, rfl⟩, by simp, fun k hk => by simp at hk⟩ ?_) ?_
  · rintro i x s e ⟨⟨h0, h1⟩, h2, h3⟩
    rw [enumL_get] at e
    have hi : i < ts.length := by
      cases q : ts[i]? with
      | none => rw [q] at e; cases e
      | some t => exact (List.getElem?_eq_some_iff.mp q).1
    rw [List.getElem?_eq_getElem hi] at e
    cases e
    dsimp only
    have h30 : (tx0.length : Int) = 30 := rfl
    rw [ha0]
    simp only [ok_bind]
    rw [ixTxM_ok (by decide) (by omega) (by omega), ok_bind, modM_ok (by omega), ok_bind, ok_bind, pushM_ok (by omega), ok_bind]
    have ht2 := ht.2.2 ts[i] (List.getElem_mem hi)
    have hm2 := Int.emod_lt_of_pos ((((s.1 + (i : Int)) + 1) * 48271) % 2147483647 / 500) (show 0 < most + 1 by omega)
    have hm3 := Int.emod_nonneg ((((s.1 + (i : Int)) + 1) * 48271) % 2147483647 / 500) (show most + 1 ≠ 0 by omega)
    refine sat_ok ⟨⟨by dsimp only; omega, by simp [h1]⟩, fun y hy => ?_, fun k hk => ?_⟩
    · dsimp only at hy
      rw [List.mem_append, List.mem_singleton] at hy
      rcases hy with hy | rfl
      · exact h2 y hy
      · exact ⟨⟨⟨_, List.getElem_mem _, rfl⟩, by dsimp only; omega, ht2, by dsimp only; omega⟩, by dsimp only; omega⟩
    · dsimp only at hk ⊢
      by_cases hks : k < s.2.length
      · rw [List.getElem_append_left hks]
        exact h3 k hks
      · have ek : k = s.2.length := by rw [List.length_append, List.length_singleton] at hk; omega
        subst ek
        rw [List.getElem_append_right (Nat.le_refl _)]
        simp only [Nat.sub_self, List.getElem_cons_zero]
        rw [h1, getD_at (by omega), getD_at (by omega)]
        exact ⟨rfl, rfl⟩
  · rintro s ⟨⟨h0, h1⟩, h2, h3⟩
    rw [enumL_length] at h1
    refine ⟨⟨by omega, fun x hx => (h2 x hx).1, ?_, ?_⟩, fun x hx => (h2 x hx).2, ?_⟩
    · refine List.pairwise_iff_getElem.mpr fun i j hi hj hij he => ?_
      rw [List.length_map] at hi hj
      have he : s.2[i].1 = s.2[j].1 := by simpa using he
      rw [(h3 i (by omega)).1, (h3 j hj).1] at he
      have h30 : tx0.length = 30 := rfl
      have e1 : tx0.getD ((a0 / 7 + 11 * (i : Int)) % 30).toNat 0 = tx0.getD ((a0 / 7 + 11 * (j : Int)) % 30).toNat 0 := by simpa using he
      rw [getD_at (by omega), getD_at (by omega)] at e1
      have e2 := nd_inj tx0_nd _ _ e1
      have e3 := step11 (f := a0 / 7) (i := (i : Int)) (j := (j : Int)) (by omega) (by omega) (by omega)
      omega
    · refine List.pairwise_iff_getElem.mpr fun i j hi hj hij he => ?_
      rw [List.length_map] at hi hj
      have he : s.2[i].3 = s.2[j].3 := by simpa using he
      rw [(h3 i (by omega)).2, (h3 j hj).2, getD_at (by omega), getD_at (by omega)] at he
      have e2 := nd_inj ht.2.1.1 _ _ he
      omega
    · have e : (s.2.map fun c => c.3) = ts := by
        apply List.ext_getElem
        · rw [List.length_map]; omega
        · intro i hi1 hi2
          rw [List.getElem_map, (h3 i (by rw [List.length_map] at hi1; exact hi1)).2, getD_at hi2]
      rw [e]
      exact ht.2.1.2
theorem case_sat {v : List Int} {most : Int} (hm : 0 ≤ most ∧ most ≤ 40) : (l_case v most).Sat fun cs => CaseOk cs ∧ (∀ ch ∈ cs, ch.4 ≤ most) ∧ (cs.map fun c => c.3).Pairwise fun a b => Builtin.bitAnd a b ≠ b := by
  unfold l_case
  dsimp only
  refine sat_bind (sat_bind (cell_at_sat (by decide)) fun a _ => mixed_sat (by decide)) fun n ⟨hn0, hn1⟩ => ?_
  refine sat_bind (teeth_sat hn0 (by omega)) fun ts ⟨h1, h2, h3⟩ => ?_
  exact sat_bind (casego_sat hn0 hm ⟨by omega, h2, h3⟩) fun s hs => sat_ok hs
theorem ixJ_ok {α : Type} {xss : List (List α)} {i : Int} (h0 : 0 ≤ i) (h1 : i < xss.length) : ixJ xss i = .ok (i.toNat, xss[i.toNat]'(by omega)) := by
  unfold ixJ
  rw [ixN_in h0 h1]
  simp only
  rw [List.getElem?_eq_getElem (by omega)]
theorem and_comm0 {x y : Int} (hx : 0 ≤ x) (hy : 0 ≤ y) : Builtin.bitAnd x y = Builtin.bitAnd y x := by
  unfold Builtin.bitAnd
  rw [decide_eq_true hx, decide_eq_true hy]
  show ((x.toNat &&& y.toNat : Nat) : Int) = ((y.toNat &&& x.toNat : Nat) : Int)
  rw [Nat.and_comm]
theorem setM_at {α : Type} {xs : List α} {i : Nat} {a : α} (h : i < xs.length) : setM xs (i : Int) a = .ok (xs.set i a) := by
  unfold setM
  rw [ixN_in (Int.natCast_nonneg i) (by omega)]
  rfl
section
variable {cs : List (T4 Tx Int Int Int)}
/-- lanes and how many of each are told -/
structure LInv (cs : List (T4 Tx Int Int Int)) (L : List (List (Tx × Int))) (U : List Int) : Prop where
  ll : L.length = cs.length
  ul : U.length = cs.length
  lane : ∀ i (h : i < cs.length), ((L[i]'(by omega)).length : Int) = cs[i].4
  used : ∀ i (h : i < cs.length), 0 ≤ U[i]'(by omega) ∧ U[i]'(by omega) ≤ cs[i].4
  rest : ∀ i (h : i < cs.length) (j : Nat) (hj : j < (L[i]'(by omega)).length), U[i]'(by omega) ≤ j → (L[i]'(by omega))[j] = (cs[i].1, cs[i].3)
theorem inv_put {L : List (List (Tx × Int))} {U : List Int} (I : LInv cs L U) {i : Nat} (hi : i < cs.length) (hu : U[i]'(by rw [I.ul]; exact hi) < cs[i].4) {v : Tx × Int} : LInv cs (L.set i ((L[i]'(by rw [I.ll]; exact hi)).set (U[i]'(by rw [I.ul]; exact hi)).toNat v)) (U.set i (U[i]'(by rw [I.ul]; exact hi) + 1)) := by
  have h1 := I.ll
  have h2 := I.ul
  refine ⟨by rw [List.length_set]; exact h1, by rw [List.length_set]; exact h2, fun k hk => ?_, fun k hk => ?_, fun k hk j hj hle => ?_⟩
  · by_cases e : i = k
    · subst e
      rw [List.getElem_set_self, List.length_set]
      exact I.lane i hk
    · rw [List.getElem_set_ne e]
      exact I.lane k hk
  · by_cases e : i = k
    · subst e
      rw [List.getElem_set_self]
      have := I.used i hk
      omega
    · rw [List.getElem_set_ne e]
      exact I.used k hk
  · by_cases e : i = k
    · subst e
      simp only [List.getElem_set_self] at hj hle ⊢
      have h0 := (I.used i hk).1
      rw [List.length_set] at hj
      rw [List.getElem_set_ne (by omega)]
      exact I.rest i hk j hj (by omega)
    · simp only [List.getElem_set_ne e] at hj hle ⊢
      exact I.rest k hk j hj hle
abbrev LSt := List (List (Tx × Int)) × List Int
noncomputable def stP (cs : List (T4 Tx Int Int Int)) (s54 : LSt) (x55 : Int × (Int × Int)) : R LSt := let t56 : (Int × Int) := x55.2
  R.bind (if (decide (t56.1 < (0 : Int))) = true then .ok true else if (decide ((List.length cs : Int) ≤ t56.1)) = true then .ok true else R.bind (ixM s54.2 t56.1) fun z58 => R.bind (R.bind (ixM s54.1 t56.1) fun z57 => .ok (List.length z57 : Int)) fun z59 => .ok (decide (z58 = z59))) fun z70 => if z70 = true then .exc 1 (some x55.1) else R.bind (R.bind (ixM s54.1 t56.1) fun z60 => R.bind (ixM s54.2 t56.1) fun z61 => ixM z60 z61) fun (t62 : (Tx × Int)) => R.bind (if (decide (t56.2 < (1 : Int))) = true then .ok true else R.bind (p_has_all t62.2 t56.2) fun z63 => .ok (!z63)) fun z69 => if z69 = true then .exc 1 (some x55.1) else R.bind (R.bind (ixJ s54.1 t56.1) fun z64 => R.bind (ixM s54.2 t56.1) fun z67 => R.bind (setM z64.2 z67 (t62.1, t62.2 - t56.2)) fun z65 => .ok (z64, z65)) fun (s66 : (Nat × (List (Tx × Int))) × (List (Tx × Int))) => R.bind (R.bind (ixM s54.2 t56.1) fun z68 => setM s54.2 t56.1 (z68 + (1 : Int))) fun (vtold_1 : (List Int)) => .ok ((List.set s54.1 s66.1.1 s66.2), vtold_1)
noncomputable def stL (cs : List (T4 Tx Int Int Int)) (s34 : LSt) (x35 : Int × (Int × Int)) : R (Ct LSt Dy) := let t36 : (Int × Int) := x35.2
  R.bind (if (!(decide ((0 : Int) ≤ t36.1) && decide (t36.1 < (List.length cs : Int)))) = true then .ok true else R.bind (ixM s34.2 t36.1) fun z38 => R.bind (R.bind (ixM cs t36.1) fun z37 => .ok z37.4) fun z39 => .ok (decide (z38 = z39))) fun z50 => if z50 = true then .ok (Ct.rt (up x35.1)) else R.bind (R.bind (ixM cs t36.1) fun z40 => .ok z40.3) fun (vown : Int) => if ((decide (t36.2 < (1 : Int))) || (!decide ((Builtin.bitAnd t36.2 vown) = t36.2))) = true then .ok (Ct.rt (up x35.1)) else R.bind (R.bind (R.bind (R.bind (ixM cs t36.1) fun z41 => .ok z41.1) fun z42 => .ok (z42, vown - t36.2)) fun z46 => R.bind (ixJ s34.1 t36.1) fun z43 => R.bind (ixM s34.2 t36.1) fun z47 => R.bind (setM z43.2 z47 z46) fun z44 => .ok (z43, z44)) fun (s45 : (Nat × (List (Tx × Int))) × (List (Tx × Int))) => R.bind (R.bind (R.bind (ixM s34.2 t36.1) fun z48 => .ok (z48 + (1 : Int))) fun z49 => setM s34.2 t36.1 z49) fun (vused_1 : (List Int)) => .ok (Ct.nx ((List.set s34.1 s45.1.1 s45.2), vused_1))
theorem step_two (h3 : ∀ ch ∈ cs, 0 ≤ ch.3) {s : LSt} (I : LInv cs s.1 s.2) (x : Int × (Int × Int)) :
    (∃ s', stP cs s x = .ok s' ∧ stL cs s x = .ok (.nx s') ∧ LInv cs s'.1 s'.2) ∨ (stP cs s x = .exc 1 (some x.1) ∧ stL cs s x = .ok (.rt (up x.1))) := by
  obtain ⟨k, ch, lost⟩ := x
  obtain ⟨L, U⟩ := s
  have h1 : L.length = cs.length := I.ll
  have h2 : U.length = cs.length := I.ul
  unfold stP stL
  dsimp only at I ⊢
  by_cases c0 : ch < 0
  · right
    rw [if_pos (decide_eq_true c0), ok_bind, if_pos rfl, if_pos (by simp; omega), ok_bind, if_pos rfl]
    exact ⟨rfl, rfl⟩
  · rw [if_neg (by simpa using c0)]
    by_cases c1 : (cs.length : Int) ≤ ch
    · right
      rw [if_pos (decide_eq_true c1), ok_bind, if_pos rfl, if_pos (by simp; omega), ok_bind, if_pos rfl]
      exact ⟨rfl, rfl⟩
    · obtain ⟨i, rfl⟩ := Int.eq_ofNat_of_zero_le (show 0 ≤ ch by omega)
      have hi : i < cs.length := by omega
      rw [if_neg (by simpa using c1), if_neg (by simp; omega)]
      have hln := I.lane i hi
      have hus := I.used i hi
      rw [ixM_nat (xs := U) (k := i) (by omega), ixM_nat (xs := L) (k := i) (by omega), ixM_nat (xs := cs) (k := i) hi]
      simp only [ok_bind]
      rw [hln]
      by_cases c2 : U[i]'(by omega) = cs[i].4
      · right
        rw [decide_eq_true c2, if_pos rfl, if_pos rfl]
        exact ⟨rfl, rfl⟩
      · rw [decide_eq_false c2, if_neg (by decide), if_neg (by decide)]
        have hlt : U[i]'(by omega) < cs[i].4 := by omega
        obtain ⟨u, hu⟩ := Int.eq_ofNat_of_zero_le hus.1
        have hul : u < (L[i]'(by omega)).length := by omega
        have hr := I.rest i hi u hul (by omega)
        rw [hu, ixM_nat hul, hr]
        simp only [ok_bind]
        have hch3 := h3 _ (List.getElem_mem hi)
        have hall : (if (decide (lost < (1 : Int))) = true then .ok true else R.bind (p_has_all cs[i].3 lost) fun z63 => .ok (!z63) : R Bool) = .ok ((decide (lost < (1 : Int))) || (!decide ((Builtin.bitAnd lost cs[i].3) = lost))) := by
          by_cases q : lost < 1
          · rw [if_pos (decide_eq_true q), decide_eq_true q, Bool.true_or]
          · rw [if_neg (by simpa using q), decide_eq_false q, Bool.false_or]
            unfold p_has_all
            rw [ok_bind, and_comm0 hch3 (show 0 ≤ lost by omega)]
        rw [hall, ok_bind]
        by_cases c3 : ((decide (lost < (1 : Int))) || (!decide ((Builtin.bitAnd lost cs[i].3) = lost))) = true
        · right
          rw [if_pos c3, if_pos c3]
          exact ⟨rfl, rfl⟩
        · left
          rw [if_neg c3, if_neg c3, ixJ_ok (Int.natCast_nonneg i) (by omega)]
          simp only [ok_bind, Int.toNat_natCast]
          rw [setM_at hul, ok_bind, ok_bind, setM_at (show i < U.length by omega), ok_bind]
          have hI := inv_put I hi hlt (v := (cs[i].1, cs[i].3 - lost))
          simp only [hu, Int.toNat_natCast] at hI
          exact ⟨_, rfl, rfl, hI⟩
theorem run_two (h3 : ∀ ch ∈ cs, 0 ≤ ch.3) : ∀ {xs : List (Int × (Int × Int))} {s : LSt}, LInv cs s.1 s.2 →
    (∃ s', loopF (stP cs) xs s = .ok s' ∧ loopC (stL cs) xs s = .ok (.nx s') ∧ LInv cs s'.1 s'.2) ∨ ∃ k : Int, loopF (stP cs) xs s = .exc 1 (some k) ∧ loopC (stL cs) xs s = .ok (.rt (up k))
  | [], s, I => .inl ⟨s, rfl, rfl, I⟩
  | x :: xs, s, I => by
    rcases step_two h3 I x with ⟨s', e1, e2, I'⟩ | ⟨e1, e2⟩
    · rcases run_two h3 (xs := xs) I' with ⟨s2, f1, f2, I2⟩ | ⟨k, f1, f2⟩
      · exact .inl ⟨s2, by rw [loopF, e1, ok_bind, f1], by rw [loopC, e2, ok_bind]; exact f2, I2⟩
      · exact .inr ⟨k, by rw [loopF, e1, ok_bind, f1], by rw [loopC, e2, ok_bind]; exact f2⟩
    · exact .inr ⟨x.1, by rw [loopF, e1]; rfl, by rw [loopC, e2, ok_bind]⟩
def lanes0 (cs : List (T4 Tx Int Int Int)) : List (List (Tx × Int)) := cs.map fun ch => List.replicate ch.4.toNat (ch.1, ch.3)
theorem rep1 {α : Type} {a : α} {n : Int} (h : 0 ≤ n ∧ n ≤ 1000) : repM [a] n = .ok (List.replicate n.toNat a) := by
  unfold repM
  rw [if_pos ⟨by omega, by omega, by rw [List.length_singleton]; omega⟩]
  simp
theorem told_two (hc : CaseOk cs) {br : List (Int × Int)} : (∃ L, p_channels_of cs br = .ok L ∧ l_due cs br = .ok (up L) ∧ ∀ l ∈ L, l.length ≤ 40) ∨ ∃ k : Int, p_channels_of cs br = .exc 1 (some k) ∧ l_due cs br = .ok (up k) := by
  have hlen := hc.len
  have h3 : ∀ ch ∈ cs, 0 ≤ ch.3 := fun ch h => (hc.ch ch h).2.2.1.1
  have h4 : ∀ ch ∈ cs, 0 ≤ ch.4 ∧ ch.4 ≤ 40 := fun ch h => (hc.ch ch h).2.2.2
  have hm : mpM (fun (x : T4 Tx Int Int Int) => repM [(x.1, x.3)] x.4) cs = .ok (lanes0 cs) := mpM_ok (g := fun ch : T4 Tx Int Int Int => List.replicate ch.4.toNat (ch.1, ch.3)) (by omega) fun ch h => rep1 (by have := h4 ch h; omega)
  have hr : repM [(0 : Int)] (List.length cs : Int) = .ok (List.replicate cs.length 0) := by
    have := rep1 (a := (0 : Int)) (n := (cs.length : Int)) (by omega)
    rw [Int.toNat_natCast] at this
    exact this
  have I0 : LInv cs (lanes0 cs) (List.replicate cs.length 0) := by
    unfold lanes0
    refine ⟨by rw [List.length_map], by rw [List.length_replicate], fun i hi => ?_, fun i hi => ?_, fun i hi j hj _ => ?_⟩
    · have := h4 _ (List.getElem_mem hi)
      rw [List.getElem_map, List.length_replicate]
      omega
    · rw [List.getElem_replicate]
      exact ⟨Int.le_refl _, (h4 _ (List.getElem_mem hi)).1⟩
    · simp only [List.getElem_map, List.getElem_replicate]
  have e1 : p_channels_of cs br = R.bind (loopF (stP cs) (enumL br) (lanes0 cs, List.replicate cs.length 0)) fun s => .ok s.1 := by
    unfold p_channels_of
    rw [hm, ok_bind, hr, ok_bind]
    rfl
  have e2 : l_due cs br = R.bind (loopC (stL cs) (enumL br) (lanes0 cs, List.replicate cs.length 0)) (ctK (fun (s51 : (List (List (Tx × Int))) × (List Int)) => .ok (up s51.1)) (fun (r52 : Dy) => r52)) := by
    unfold l_due
    rw [hm, ok_bind, hr, ok_bind]
    rfl
  rcases run_two h3 (xs := enumL br) (s := (lanes0 cs, List.replicate cs.length 0)) I0 with ⟨s', f1, f2, I⟩ | ⟨k, f1, f2⟩
  · refine .inl ⟨s'.1, by rw [e1, f1, ok_bind], by rw [e2, f2, ok_bind]; rfl, fun l hl => ?_⟩
    obtain ⟨i, hi, rfl⟩ := List.mem_iff_getElem.mp hl
    have h1 := I.ll
    have := I.lane i (by omega)
    have := h4 _ (List.getElem_mem (show i < cs.length by omega))
    omega
  · exact .inr ⟨k, by rw [e1, f1]; rfl, by rw [e2, f2, ok_bind]; rfl⟩
theorem any_list {L : List (List (Tx × Int))} : ∃ xss : List (List AnyD), (dnM (up L) : R (List (List AnyD))) = .ok xss ∧ Enc.enc xss = Enc.enc L := by
  have hx : ∃ a : List (List AnyD), Enc.enc a = (up L).d := ⟨L.map fun l => l.map fun x => AnyD.mk (Enc.enc x), by
    show PyData.list _ = PyData.list _
    rw [List.map_map]
    refine congrArg PyData.list (List.map_congr_left fun l _ => ?_)
    show PyData.list _ = PyData.list _
    rw [List.map_map]
    rfl⟩
  exact ⟨Classical.choose hx, by unfold dnM; rw [dif_pos hx], Classical.choose_spec hx⟩
theorem push_all : ∀ {xss : List (List AnyD)}, (∀ l ∈ xss, l.length ≤ 40) → ∃ yss, mpXGo (fun (ys : List AnyD) => pushM ys (AnyD.mk .none)) xss = .ok yss
  | [], _ => ⟨_, rfl⟩
  | x :: xss, h => by
    obtain ⟨yss, e⟩ := push_all (xss := xss) fun l hl => h l (List.mem_cons_of_mem _ hl)
    have := h x List.mem_cons_self
    refine ⟨(x ++ [AnyD.mk .none]) :: yss, ?_⟩
    rw [mpXGo, pushM_ok (by omega), ok_bind, e, ok_bind]
theorem right_ok (hc : CaseOk cs) {br : List (Int × Int)} : l_right cs br = .ok true := by
  unfold l_right
  dsimp only
  rcases told_two hc (br := br) with ⟨L, e1, e2, hl⟩ | ⟨k, e1, e2⟩
  · have ht : l_told cs br = .ok (W2.mk tx3 (up L)) := by
      unfold l_told
      rw [e1]
      simp [tryN, R.bind, ctK]
    have hq : PyData.eqv (Enc.enc (W2.mk tx3 (up L))) (Enc.enc (W2.mk tx3 (up L))) = true := (EncEq.eqv (W2.mk tx3 L) (W2.mk tx3 L)).trans (decide_eq_true rfl)
    have hi1 : isi (Enc.enc (up L)) PT.lst = true := rfl
    have hi2 : isi (Enc.enc (up L)) PT.bl = false := rfl
    rw [e2, ok_bind, if_pos hi1, show ixM [tx2, tx3] 1 = .ok tx3 from ixM_nat (xs := [tx2, tx3]) (k := 1) (by simp), ok_bind, ok_bind, ht, ok_bind]
    dsimp only
    rw [hq, hi2, hi1, decide_eq_true rfl]
    obtain ⟨xss, f1, f2⟩ := any_list (L := L)
    have hxl : ∀ l ∈ xss, l.length ≤ 40 := fun l hlx => by
      have f2 : PyData.list (xss.map Enc.enc) = PyData.list (L.map Enc.enc) := f2
      injection f2 with f2
      have hm : Enc.enc l ∈ L.map (Enc.enc : List (Tx × Int) → D) := f2 ▸ List.mem_map_of_mem hlx
      obtain ⟨l2, hl2, e⟩ := List.mem_map.mp hm
      have e : PyData.list (l2.map Enc.enc) = PyData.list (l.map Enc.enc) := e
      injection e with e
      have := congrArg List.length e
      rw [List.length_map, List.length_map] at this
      have := hl l2 hl2
      omega
    obtain ⟨yss, f3⟩ := push_all hxl
    rw [f1, ok_bind, f3, ok_bind, ok_bind, if_neg (by decide), if_pos rfl, ok_bind, ok_bind, hq]
  · have ht : l_told cs br = .ok (W2.mk tx2 (up k)) := by
      unfold l_told
      rw [e1]
      simp [tryN, pickN, inN, R.bind, R.noexc, ctK, payM]
    have hq : PyData.eqv (Enc.enc (W2.mk tx2 (up k))) (Enc.enc (W2.mk tx2 (up k))) = true := (EncEq.eqv (W2.mk tx2 k) (W2.mk tx2 k)).trans (decide_eq_true rfl)
    have hi1 : isi (Enc.enc (up k)) PT.lst = false := rfl
    have hi2 : isi (Enc.enc (up k)) PT.bl = false := rfl
    rw [e2, ok_bind, hi1, if_neg (by decide), show ixM [tx2, tx3] 0 = .ok tx2 from ixM_nat (xs := [tx2, tx3]) (k := 0) (by simp), ok_bind, ok_bind, ht, ok_bind]
    dsimp only
    rw [hq, hi2, hi1, decide_eq_true rfl, if_neg (by decide), if_neg (by decide), ok_bind, ok_bind, hq]
theorem one_sat (hc : CaseOk cs) {n : Int} : (l_one cs n).Sat fun _ => True := by
  have hlen := hc.len
  unfold l_one
  rw [modM_ok (by omega), ok_bind]
  split
  · refine sat_bind (ix_sat (by omega) (by simp only [List.length_cons, List.length_nil]; omega)) fun _ _ => sat_ok trivial
  · rw [ixM_eq (Int.emod_nonneg _ (by omega)) (Int.emod_lt_of_pos _ (by omega)), ok_bind, ok_bind]
    refine sat_bind (ix_sat (by omega) (by simp only [List.length_cons, List.length_nil]; omega)) fun _ _ => sat_ok trivial
end
theorem law_true (ns : List Int) (h : ns.length ≤ 63) : law_ ns = .ok true := by
  unfold law_
  obtain ⟨cs, hcs, hc, -⟩ := case_sat (v := ns) (most := 5) (by decide)
  rw [hcs, ok_bind]
  dsimp only
  have hcl : (cutL ns (some (1 : Int)) (some (21 : Int))).length ≤ 20 := by
    rw [cut_mid (by decide) (by decide), List.length_drop, List.length_take]
    have : (21 : Int).toNat = 21 := rfl
    have : (1 : Int).toNat = 1 := rfl
    omega
  have key : ∀ (xs : List (Int × Int)) (g : List (Int × Int)), (∀ x ∈ xs, 0 ≤ x.1 ∧ x.1 < 1000) → g.length + xs.length ≤ 100 → ∃ g', loopC (fun (s86 : (List (Int × Int))) (x87 : (Int × Int)) => R.bind (R.bind (l_mixed x87.2 x87.1) fun z88 => l_one cs z88) fun (vone_here : (Int × Int)) => R.bind (R.bind (R.bind (R.bind (catM s86 [vone_here]) fun z89 => l_right cs z89) fun z90 => .ok (!z90)) fun z93 => if z93 = true then .ok true else R.bind (R.bind (catM [vone_here] s86) fun z91 => l_right cs z91) fun z92 => .ok (!z92)) fun z97 => if z97 = true then .ok (Ct.rt false) else R.bind (R.bind (R.bind (catM s86 [vone_here]) fun z94 => l_due cs z94) fun z95 => .ok (isi (Enc.enc z95) PT.lst)) fun z96 => if z96 = true then R.bind (catM s86 [vone_here]) fun (vgood_1 : (List (Int × Int))) => .ok (Ct.nx vgood_1) else .ok (Ct.nx s86)) xs g = (.ok (Ct.nx g') : R (Ct (List (Int × Int)) Bool)) := by
    intro xs
    induction xs with
    | nil => intro g _ _; exact ⟨g, rfl⟩
    | cons x xs ih =>
      intro g hx hl
      rw [List.length_cons] at hl
      obtain ⟨n, en, -⟩ := mixed_sat (c := x.2) (k := x.1) (by have := hx x List.mem_cons_self; omega)
      obtain ⟨o, eo, -⟩ := one_sat hc (n := n)
      have hcat : catM g [o] = .ok (g ++ [o]) := catM_ok (by rw [List.length_singleton]; omega)
      have hcat2 : catM [o] g = .ok ([o] ++ g) := catM_ok (by rw [List.length_singleton]; omega)
      have hd : ∃ d, l_due cs (g ++ [o]) = .ok d := by
        rcases told_two hc (br := g ++ [o]) with ⟨L, _, e2, _⟩ | ⟨k, _, e2⟩
        · exact ⟨_, e2⟩
        · exact ⟨_, e2⟩
      obtain ⟨d, ed⟩ := hd
      rw [loopC, en, ok_bind, eo, ok_bind, hcat, ok_bind, right_ok hc, ok_bind, ok_bind, if_neg (by decide), hcat2, ok_bind, right_ok hc, ok_bind, ok_bind, if_neg (by decide), ok_bind, ed, ok_bind, ok_bind]
      by_cases q : isi (Enc.enc d) PT.lst = true
      · rw [if_pos q, ok_bind, ok_bind]
        exact ih _ (fun y hy => hx y (List.mem_cons_of_mem _ hy)) (by rw [List.length_append, List.length_singleton]; omega)
      · rw [if_neg q, ok_bind]
        exact ih _ (fun y hy => hx y (List.mem_cons_of_mem _ hy)) (by omega)
  obtain ⟨g, e⟩ := key (enumL (cutL ns (some (1 : Int)) (some (21 : Int)))) [] (fun x hx => by
    obtain ⟨i, hi, rfl⟩ := List.mem_iff_getElem.mp hx
    have := enumL_get (xs := cutL ns (some (1 : Int)) (some (21 : Int))) (i := i)
    rw [enumL_length] at hi
    rw [List.getElem?_eq_getElem (by rw [enumL_length]; exact hi), List.getElem?_eq_getElem hi] at this
    have := Option.some.inj this
    rw [this]
    dsimp only
    omega) (by rw [enumL_length]; simp only [List.length_nil]; omega)
  rw [e, ok_bind]
  exact right_ok hc
end LW
open PySem PySem.W PyProof.Rows
set_option maxHeartbeats 0 in
theorem PySem.Challenge.cw_linecaster_k40_broken_matrices_told_holds : PySem.Challenge.rw_linecaster_k40_broken_matrices_told.Holds := by
  w_on; o_law; k_head; (case hw => w_witness2)
  k_fill
  refine L2.walk_of (l := PySem.Challenge.rw_linecaster_k40_broken_matrices_told) (n := 63) (k := 6) (x := "_law_script") (CX := fun w => L2.CX PySem.Challenge.pw_linecaster_k40_broken_matrices_told w) (sp := fun w => M.SpL _) rfl (by decide) rfl ⟨rfl, by decide, by decide⟩ (fun w h Y => PySem.W.kIn_of Y) ?F (fun _ _ a ns hl _ hS => ⟨a, ns, rfl, hS, hl, fun _ => rfl⟩) (fun _ _ _ _ _ h => M.cx_law h)
  case F =>
    intro w mg fa h KX G hmg
    obtain ⟨T, fd, e1, e2, hb⟩ := (by
      refine' LW.all_mk (l := PySem.Challenge.rw_linecaster_k40_broken_matrices_told) (w := w) KX G hmg ?a0 ?l0 ?c0 ?k0 ?a1 ?l1 ?c1 ?k1 ?a2 ?l2 ?c2 ?k2 ?a3 ?l3 ?c3 ?k3 ?a4 ?l4 ?c4 ?k4 ?a5 ?l5 ?c5 ?k5 ?a6 ?l6 ?c6 ?k6 ?a7 ?l7 ?c7 ?k7 ?a8 ?l8 ?c8 ?k8 ?a9 ?l9 ?c9 ?k9 ?a10 ?l10 ?c10 ?k10 ?a11 ?l11 ?c11 ?k11 ?z0 ?z1 ?z2 ?z3 ?z4 ?z5 ?z6 ?z7 ?z8 ?aC_CasterError ?sB_CasterError ?tT_CasterError ?iS_CasterError ?s1_CasterError ?s2_CasterError ?s3_CasterError ?aC_NoCase ?sB_NoCase ?tT_NoCase ?iS_NoCase ?xL_NoCase ?rv_NoCase ?sa_NoCase ?kC_NoCase ?iC_NoCase ?tI_NoCase ?lI_NoCase ?cI_NoCase ?kI_NoCase ?nb_NoCase ?aC_NoKeys ?sB_NoKeys ?tT_NoKeys ?iS_NoKeys ?vg_NoCase ?vk_NoCase ?vd_NoCase ?va_NoCase ?vm_NoCase ?vn_ ?vt_ ?sv_NoCase_ValueError ?sm_NoCase_CasterError ?sm_NoCase_NoCase ?sm_NoCase_NoKeys ?sm_NoKeys_NoKeys
      (case a0 => k_is); (case l0 => k_is); (case c0 => k_is); (case k0 => k_is); (case a1 => k_is); (case l1 => k_is); (case c1 => k_is); (case k1 => k_is); (case a2 => k_is); (case l2 => k_is); (case c2 => k_is); (case k2 => k_is); (case a3 => k_is); (case l3 => k_is); (case c3 => k_is); (case k3 => k_is); (case a4 => k_is); (case l4 => k_is); (case c4 => k_is); (case k4 => k_is); (case a5 => k_is); (case l5 => k_is); (case c5 => k_is); (case k5 => k_is); (case a6 => k_is); (case l6 => k_is); (case c6 => k_is); (case k6 => k_is); (case a7 => k_is); (case l7 => k_is); (case c7 => k_is); (case k7 => k_is); (case a8 => k_is); (case l8 => k_is); (case c8 => k_is); (case k8 => k_is); (case a9 => k_is); (case l9 => k_is); (case c9 => k_is); (case k9 => k_is); (case a10 => k_is); (case l10 => k_is); (case c10 => k_is); (case k10 => k_is); (case a11 => k_is); (case l11 => k_is); (case c11 => k_is); (case k11 => k_is); (case z0 => k_is); (case z1 => k_is); (case z2 => k_is); (case z3 => k_is); (case z4 => k_is); (case z5 => k_is); (case z6 => k_is); (case z7 => k_is); (case z8 => k_is); (case aC_CasterError => k_is); (case sB_CasterError => k_is); (case tT_CasterError => k_is); (case iS_CasterError => k_is); (case s1_CasterError => first | k_is | rfl | decide +kernel); (case s2_CasterError => first | k_is | rfl | decide +kernel); (case s3_CasterError => first | k_is | rfl | decide +kernel); (case aC_NoCase => k_is); (case sB_NoCase => k_is); (case tT_NoCase => k_is); (case iS_NoCase => k_is); (case xL_NoCase => k_is); (case rv_NoCase => decide +kernel); (case sa_NoCase => k_is); (case kC_NoCase => k_is); (case iC_NoCase => k_is); (case tI_NoCase => k_is); (case lI_NoCase => k_is); (case cI_NoCase => k_is); (case kI_NoCase => k_is); (case nb_NoCase => k_is); (case aC_NoKeys => k_is); (case sB_NoKeys => k_is); (case tT_NoKeys => k_is); (case iS_NoKeys => k_is); (case vg_NoCase => k_is); (case vk_NoCase => k_is); (case vd_NoCase => k_is); (case va_NoCase => k_is); (case vm_NoCase => k_is); (case vn_ => first | k_is | rfl | decide +kernel); (case vt_ => first | k_is | rfl | decide +kernel); (case sv_NoCase_ValueError => first | rfl | k_is); (case sm_NoCase_CasterError => first | rfl | k_is); (case sm_NoCase_NoCase => first | rfl | k_is); (case sm_NoCase_NoKeys => first | rfl | k_is); (case sm_NoKeys_NoKeys => first | rfl | k_is))
    subst e1 e2
    exact ⟨_, hb, fun base _ _ => (LW.ok_law_ T).imp fun vs H Q E h => M.law_imp LW.law_true h⟩

