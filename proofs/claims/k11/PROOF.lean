import PyProof.Rows.All
import Wide.All
import OpenK.AllK
import Wide.FinOn
import HandS.ForMost
import HandS.Evl
import HandS.Wide
import HandS.HeadHook1
import HandS.Deep
import HandS.SortInts
import HandS.SortRule
import HandS.IsInst
import HandS.Defaults
import HandS.More
import HandS.HeadHook2
import HandS.Conv
import KE.DataCmp
import HandS.SetFor
import PySem.Challenge.RW_rollcall_k11_whole_largest_of_all
import PyProof.StrLawsIn
import KE.KStateDown
import HandS.WordsExc
import HandS.Head0
import HandS.Head1
import HandS.Head2
import HandS.HeadEnd
import Lean
set_option Elab.async false
set_option linter.all false
set_option maxRecDepth 100000
set_option maxHeartbeats 4000000
/-! M1: data, what represents it, slots, states -/
namespace M
open PySem L2
open Evl (Ex)

inductive D where
  | non | bl (b : Bool) | int (i : Int) | str (x : Str)
  | lst (xs : List D) | tup (xs : List D)
  | dic (kvs : List (Key × D)) | dit (kvs : List (List Key × D))
  /-- the script -/
  | scr (ns : List Int)
  /-- an instance of a class, by its attributes -/
  | obj (C : Str) (xs : List Str) (ds : List D)
  /-- a dict, locked while it is walked -/
  | lkd (kvs : List (Key × D))
  /-- a tuple of whole numbers, its own object known -/
  | tnt (ns : List Int)

inductive Rep (K : PySem.W.Frag) (F : Hp) : V → D → Prop where
  | non : Rep K F .non .non
  | bl (b : Bool) : Rep K F (.bl b) (.bl b)
  | int (i : Int) : Rep K F (.int i) (.int i)
  | str (x : Str) : Rep K F (.str x) (.str x)
  | lst {p : Addr} {vs : List V} {ds : List D} (h : F p = some (.lst vs)) (hl : vs.length = ds.length) (hr : ∀ (i : Nat) v d, vs[i]? = some v → ds[i]? = some d → Rep K F v d) : Rep K F (.ref p) (.lst ds)
  | tup {p : Addr} {vs : List V} {ds : List D} (h : F p = some (.tup vs)) (hl : vs.length = ds.length) (hr : ∀ (i : Nat) v d, vs[i]? = some v → ds[i]? = some d → Rep K F v d) : Rep K F (.ref p) (.tup ds)
  | dic {p : Addr} {vs : List (Key × V)} {ds : List (Key × D)} (h : F p = some (.dK vs)) (hk : vs.map (·.1) = ds.map (·.1)) (hr : ∀ (i : Nat) k v k' d, vs[i]? = some (k, v) → ds[i]? = some (k', d) → Rep K F v d) : Rep K F (.ref p) (.dic ds)
  | dit {p : Addr} {vs : List (List Key × V)} {ds : List (List Key × D)} (h : F p = some (.dT vs)) (hk : vs.map (·.1) = ds.map (·.1)) (hr : ∀ (i : Nat) k v k' d, vs[i]? = some (k, v) → ds[i]? = some (k', d) → Rep K F v d) : Rep K F (.ref p) (.dit ds)
  | scr {p : Addr} {ns : List Int} (h : SqL K F p (ns.map V.int)) : Rep K F (.ref p) (.scr ns)
  | obj {p dx : Addr} {C : Str} {xs : List Str} {vs : List V} {ds : List D} (h : F p = some (.ins (He.ga K C) dx (xs.zip vs))) (hx : F dx = some (.own p)) (hl : xs.length = vs.length) (hl2 : vs.length = ds.length) (hr : ∀ (i : Nat) v d, vs[i]? = some v → ds[i]? = some d → Rep K F v d) : Rep K F (.ref p) (.obj C xs ds)

  | lkd {p : Addr} {od : Obj} {vs : List (Key × V)} {ds : List (Key × D)} (h : F p = some (.frz od (.dK vs))) (hk : vs.map (·.1) = ds.map (·.1)) (hr : ∀ (i : Nat) k v k' d, vs[i]? = some (k, v) → ds[i]? = some (k', d) → Rep K F v d) : Rep K F (.ref p) (.lkd ds)
  | tnt {p : Addr} {od : Obj} {ns : List Int} (h : F p = some (.frz od (.tup (ns.map V.int)))) (hd : od.dict = none) (hc : od.cls = .type "tuple") : Rep K F (.ref p) (.tnt ns)

structure Reps (K : PySem.W.Frag) (F : Hp) (vs : List V) (ds : List D) : Prop where
  len : vs.length = ds.length
  at_ : ∀ (i : Nat) v d, vs[i]? = some v → ds[i]? = some d → Rep K F v d
structure KVs {κ : Type} (K : PySem.W.Frag) (F : Hp) (vs : List (κ × V)) (ds : List (κ × D)) : Prop where
  keys : vs.map (·.1) = ds.map (·.1)
  at_ : ∀ (i : Nat) k v k' d, vs[i]? = some (k, v) → ds[i]? = some (k', d) → Rep K F v d

section
variable {K : PySem.W.Frag} {F F' H H' : Hp} {v : V} {d : D} {vs : List V} {ds : List D}
theorem Rep.mono (e : Ex F F') (h : Rep K F v d) : Rep K F' v d := by
  induction h with
  | non => exact .non
  | bl b => exact .bl b
  | int b => exact .int b
  | str b => exact .str b
  | lst h hl _ ih => exact .lst (e _ _ h) hl ih
  | tup h hl _ ih => exact .tup (e _ _ h) hl ih
  | dic h hk _ ih => exact .dic (e _ _ h) hk ih
  | dit h hk _ ih => exact .dit (e _ _ h) hk ih
  | scr h => exact .scr (Evl.ex_l e h)
  | obj h hx hl hl2 _ ih => exact .obj (e _ _ h) (e _ _ hx) hl hl2 ih
  | lkd h hk _ ih => exact .lkd (e _ _ h) hk ih
  | tnt h hd hc => exact .tnt (e _ _ h) hd hc
theorem Reps.mono (e : Ex F F') (h : Reps K F vs ds) : Reps K F' vs ds := ⟨h.len, fun i v d a b => (h.at_ i v d a b).mono e⟩
theorem KVs.mono {κ : Type} {vs : List (κ × V)} {ds : List (κ × D)} (e : Ex F F') (h : KVs K F vs ds) : KVs K F' vs ds := ⟨h.keys, fun i k v k' d a b => (h.at_ i k v k' d a b).mono e⟩
theorem Reps.nil : Reps K F [] [] := ⟨rfl, fun i v d a => by simp at a⟩
theorem Reps.cons (h : Rep K F v d) (r : Reps K F vs ds) : Reps K F (v :: vs) (d :: ds) := by
  refine ⟨by simp [r.len], fun i v' d' a b => ?_⟩
  cases i with
  | zero =>
    simp at a b
    rw [← a, ← b]
    exact h
  | succ i =>
    simp at a b
    exact r.at_ i v' d' a b
theorem Reps.nil_inv {vs : List V} (r : Reps K F vs []) : vs = [] := List.length_eq_zero_iff.mp r.len
theorem Reps.cons_inv {vs : List V} (r : Reps K F vs (d :: ds)) : ∃ v ws, vs = v :: ws ∧ Rep K F v d ∧ Reps K F ws ds := by
  cases vs with
  | nil => exact absurd r.len (by simp)
  | cons v ws =>
    refine ⟨v, ws, rfl, r.at_ 0 v d rfl rfl, ⟨by have := r.len; simpa using this, fun i v' d' a b => r.at_ (i + 1) v' d' (by simpa using a) (by simpa using b)⟩⟩
theorem Reps.append {ws : List V} {es : List D} (r : Reps K F vs ds) (q : Reps K F ws es) : Reps K F (vs ++ ws) (ds ++ es) := by
  refine ⟨by simp [r.len, q.len], fun i v d a b => ?_⟩
  by_cases h : i < vs.length
  · rw [List.getElem?_append_left h] at a
    rw [List.getElem?_append_left (by rw [← r.len]; exact h)] at b
    exact r.at_ i v d a b
  · have h : vs.length ≤ i := Nat.le_of_not_lt h
    rw [List.getElem?_append_right h] at a
    rw [List.getElem?_append_right (by rw [← r.len]; exact h), ← r.len] at b
    exact q.at_ _ v d a b
theorem Reps.get (r : Reps K F vs ds) {i : Nat} (h : ds[i]? = some d) : ∃ v, vs[i]? = some v ∧ Rep K F v d := by
  obtain ⟨h1, h2⟩ := List.getElem?_eq_some_iff.mp h
  have h3 : i < vs.length := by rw [r.len]; exact h1
  exact ⟨vs[i], List.getElem?_eq_getElem h3, r.at_ i _ _ (List.getElem?_eq_getElem h3) h⟩
theorem Reps.set (r : Reps K F vs ds) (h : Rep K F v d) (i : Nat) : Reps K F (vs.set i v) (ds.set i d) := by
  refine ⟨by simp [r.len], fun j v' d' a b => ?_⟩
  by_cases e : i = j
  · subst e
    rw [List.getElem?_set] at a b
    simp only [if_true] at a b
    split at a
    · split at b
      · cases a; cases b; exact h
      · cases b
    · cases a
  · rw [List.getElem?_set_ne e] at a b
    exact r.at_ j v' d' a b
theorem Reps.take (r : Reps K F vs ds) (n : Nat) : Reps K F (vs.take n) (ds.take n) :=
  ⟨by simp [r.len], fun i v d a b => by
    rw [List.getElem?_take] at a b
    split at a
    · rw [if_pos (by assumption)] at b
      exact r.at_ i v d a b
    · cases a⟩
theorem Reps.drop (r : Reps K F vs ds) (n : Nat) : Reps K F (vs.drop n) (ds.drop n) :=
  ⟨by simp [r.len], fun i v d a b => by
    rw [List.getElem?_drop] at a b
    exact r.at_ _ v d a b⟩
theorem Reps.reverse (r : Reps K F vs ds) : Reps K F vs.reverse ds.reverse :=
  ⟨by simp [r.len], fun i v d a b => by
    have h1 : i < vs.length := by
      have := (List.getElem?_eq_some_iff.mp a).1
      simpa using this
    rw [List.getElem?_reverse h1] at a
    rw [List.getElem?_reverse (by rw [← r.len]; exact h1), ← r.len] at b
    exact r.at_ _ v d a b⟩
theorem Reps.eraseIdx (r : Reps K F vs ds) (n : Nat) : Reps K F (vs.eraseIdx n) (ds.eraseIdx n) := by
  rw [List.eraseIdx_eq_take_drop_succ, List.eraseIdx_eq_take_drop_succ]
  exact (r.take n).append (r.drop _)
theorem Reps.dropLast (r : Reps K F vs ds) : Reps K F vs.dropLast ds.dropLast := by
  rw [List.dropLast_eq_take, List.dropLast_eq_take, r.len]
  exact r.take _
end

/-! ### typed values -/
class Enc (α : Type) where
  enc : α → D
open Enc (enc)
instance : Enc D := ⟨id⟩
instance : Enc Unit := ⟨fun _ => .non⟩
instance : Enc Bool := ⟨.bl⟩
instance : Enc Int := ⟨.int⟩
instance : Enc Str := ⟨.str⟩
instance {α : Type} [Enc α] : Enc (List α) := ⟨fun xs => .lst (xs.map enc)⟩
instance {α : Type} [Enc α] : Enc (Option α) := ⟨fun x => match x with | none => .non | some a => enc a⟩
instance {α β : Type} [Enc α] [Enc β] : Enc (α × β) := ⟨fun p => .tup [enc p.1, enc p.2]⟩
structure T3 (α β γ : Type) where
  a : α
  b : β
  c : γ
  deriving DecidableEq
structure T4 (α β γ δ : Type) where
  a : α
  b : β
  c : γ
  d : δ
  deriving DecidableEq
instance {α β γ : Type} [Enc α] [Enc β] [Enc γ] : Enc (T3 α β γ) := ⟨fun p => .tup [enc p.a, enc p.b, enc p.c]⟩
instance {α β γ δ : Type} [Enc α] [Enc β] [Enc γ] [Enc δ] : Enc (T4 α β γ δ) := ⟨fun p => .tup [enc p.a, enc p.b, enc p.c, enc p.d]⟩
/-- a tuple of any length of one kind -/
structure Tu (α : Type) where
  xs : List α
instance {α : Type} [Enc α] : Enc (Tu α) := ⟨fun t => .tup (t.xs.map enc)⟩
/-- the script -/
structure Scr where
  ns : List Int
instance : Enc Scr := ⟨fun t => .scr t.ns⟩
structure Dk (α : Type) where
  kvs : List (Key × α)
instance {α : Type} [Enc α] : Enc (Dk α) := ⟨fun t => .dic (t.kvs.map fun p => (p.1, enc p.2))⟩
structure Dt (α : Type) where
  kvs : List (List Key × α)
instance {α : Type} [Enc α] : Enc (Dt α) := ⟨fun t => .dit (t.kvs.map fun p => (p.1, enc p.2))⟩

/-! ### slots -/
inductive Sl where
  | no
  | fz (d : D)
  | own (ds : List D)
  | at_ (p : Addr) (ds : List D)
  | owd (kvs : List (Key × D))
  | owt (kvs : List (List Key × D))
  /-- a list of things of one's own -/
  | ol (ss : List Sl)
  /-- an instance of one's own, by its attributes -/
  | ob (C : Str) (xs : List Str) (ss : List Sl)
  /-- a tuple of things of one's own -/
  | ot_ (ss : List Sl)
  /-- a thing whose value is known -/
  | kn (w : V) (s : Sl)
abbrev Sl.f {α : Type} [Enc α] (a : α) : Sl := .fz (enc a)
abbrev Sl.o {α : Type} [Enc α] (a : List α) : Sl := .own (a.map enc)
abbrev Sl.od {α : Type} [Enc α] (a : Dk α) : Sl := .owd (a.kvs.map fun p => (p.1, enc p.2))
abbrev Sl.ot {α : Type} [Enc α] (a : Dt α) : Sl := .owt (a.kvs.map fun p => (p.1, enc p.2))
/-- an own list of own lists -/
abbrev Sl.o2 {α : Type} [Enc α] (a : List (List α)) : Sl := .ol (a.map fun l => Sl.own (l.map enc))

mutual
def SlR (K : PySem.W.Frag) (F H : Hp) : Sl → Option V → List Addr → Prop
  | .no, _, fp => fp = []
  | .fz d, v, fp => fp = [] ∧ ∃ x, v = some x ∧ Rep K F x d
  | .own ds, v, fp => ∃ p vs, fp = [p] ∧ v = some (.ref p) ∧ H p = some (.lst vs) ∧ Reps K F vs ds
  | .at_ p ds, v, fp => ∃ vs, fp = [p] ∧ v = some (.ref p) ∧ H p = some (.lst vs) ∧ Reps K F vs ds
  | .owd kvs, v, fp => ∃ p vs, fp = [p] ∧ v = some (.ref p) ∧ H p = some (.dK vs) ∧ KVs K F vs kvs
  | .owt kvs, v, fp => ∃ p vs, fp = [p] ∧ v = some (.ref p) ∧ H p = some (.dT vs) ∧ KVs K F vs kvs
  | .ol ss, v, fp => ∃ p vs fps, fp = p :: fps ∧ v = some (.ref p) ∧ H p = some (.lst vs) ∧ SlRL K F H ss (vs.map some) fps
  | .ob C xs ss, v, fp => ∃ p dx vs fps, fp = p :: dx :: fps ∧ v = some (.ref p) ∧ H p = some (.ins (He.ga K C) dx (xs.zip vs)) ∧ H dx = some (.own p) ∧ xs.length = vs.length ∧ SlRL K F H ss (vs.map some) fps
  | .ot_ ss, v, fp => ∃ p vs fps, fp = p :: fps ∧ v = some (.ref p) ∧ H p = some (.tup vs) ∧ SlRL K F H ss (vs.map some) fps
  | .kn w s, v, fp => v = some w ∧ SlR K F H s v fp
def SlRL (K : PySem.W.Frag) (F H : Hp) : List Sl → List (Option V) → List Addr → Prop
  | [], vs, fp => vs = [] ∧ fp = []
  | s :: ss, vs, fp => ∃ v ws f1 f2, vs = v :: ws ∧ fp = f1 ++ f2 ∧ SlR K F H s v f1 ∧ SlRL K F H ss ws f2
end

inductive SlRs (K : PySem.W.Frag) (F H : Hp) : List Sl → List (Option V) → List Addr → Prop where
  | nil : SlRs K F H [] [] []
  | cons {s : Sl} {v : Option V} {fp : List Addr} {ss : List Sl} {vs : List (Option V)} {fps : List Addr} (h : SlR K F H s v fp) (t : SlRs K F H ss vs fps) : SlRs K F H (s :: ss) (v :: vs) (fp ++ fps)
theorem slrl_iff {K : PySem.W.Frag} {F H : Hp} : ∀ {ss : List Sl} {vs : List (Option V)} {fp : List Addr}, SlRL K F H ss vs fp ↔ SlRs K F H ss vs fp
  | [], vs, fp => by
    constructor
    · rintro ⟨rfl, rfl⟩; exact .nil
    · intro h; cases h; exact ⟨rfl, rfl⟩
  | s :: ss, vs, fp => by
    constructor
    · rintro ⟨v, ws, f1, f2, rfl, rfl, h1, h2⟩
      exact .cons h1 (slrl_iff.mp h2)
    · intro h
      cases h with
      | cons h t => exact ⟨_, _, _, _, rfl, rfl, h, slrl_iff.mpr t⟩

section
variable {K : PySem.W.Frag} {F F' H H' : Hp}
mutual
theorem SlR.mono' (e : Ex F F') : ∀ (s : Sl) (v : Option V) (fp : List Addr), SlR K F H s v fp → (∀ p ∈ fp, H' p = H p) → SlR K F' H' s v fp
  | .no, v, fp, h, k => h
  | .fz d, v, fp, h, k => by
    obtain ⟨h1, x, h2, h3⟩ := h
    exact ⟨h1, x, h2, h3.mono e⟩
  | .own ds, v, fp, h, k => by
    obtain ⟨p, vs, rfl, h2, h3, h4⟩ := h
    exact ⟨p, vs, rfl, h2, (k p (by simp)).trans h3, h4.mono e⟩
  | .at_ p ds, v, fp, h, k => by
    obtain ⟨vs, rfl, h2, h3, h4⟩ := h
    exact ⟨vs, rfl, h2, (k p (by simp)).trans h3, h4.mono e⟩
  | .owd ds, v, fp, h, k => by
    obtain ⟨p, vs, rfl, h2, h3, h4⟩ := h
    exact ⟨p, vs, rfl, h2, (k p (by simp)).trans h3, h4.mono e⟩
  | .owt ds, v, fp, h, k => by
    obtain ⟨p, vs, rfl, h2, h3, h4⟩ := h
    exact ⟨p, vs, rfl, h2, (k p (by simp)).trans h3, h4.mono e⟩
  | .ol ss, v, fp, h, k => by
    obtain ⟨p, vs, fps, rfl, h2, h3, h4⟩ := h
    exact ⟨p, vs, fps, rfl, h2, (k p (by simp)).trans h3, SlRL.mono' e ss _ _ h4 fun q hq => k q (by simp [hq])⟩
  | .ob C xs ss, v, fp, h, k => by
    obtain ⟨p, dx, vs, fps, rfl, h2, h3, h4, h5, h6⟩ := h
    exact ⟨p, dx, vs, fps, rfl, h2, (k p (by simp)).trans h3, (k dx (by simp)).trans h4, h5, SlRL.mono' e ss _ _ h6 fun q hq => k q (by simp [hq])⟩
  | .ot_ ss, v, fp, h, k => by
    obtain ⟨p, vs, fps, rfl, h2, h3, h4⟩ := h
    exact ⟨p, vs, fps, rfl, h2, (k p (by simp)).trans h3, SlRL.mono' e ss _ _ h4 fun q hq => k q (by simp [hq])⟩
  | .kn w s, v, fp, h, k => ⟨h.1, SlR.mono' e s v fp h.2 k⟩
theorem SlRL.mono' (e : Ex F F') : ∀ (ss : List Sl) (vs : List (Option V)) (fp : List Addr), SlRL K F H ss vs fp → (∀ p ∈ fp, H' p = H p) → SlRL K F' H' ss vs fp
  | [], vs, fp, h, k => h
  | s :: ss, vs, fp, h, k => by
    obtain ⟨v, ws, f1, f2, rfl, rfl, h1, h2⟩ := h
    exact ⟨v, ws, f1, f2, rfl, rfl, SlR.mono' e s _ _ h1 fun p hp => k p (List.mem_append_left _ hp), SlRL.mono' e ss _ _ h2 fun p hp => k p (List.mem_append_right _ hp)⟩
end
theorem SlR.mono {s : Sl} {v : Option V} {fp : List Addr} (e : Ex F F') (h : SlR K F H s v fp) (k : ∀ p ∈ fp, H' p = H p) : SlR K F' H' s v fp := SlR.mono' e s v fp h k
mutual
theorem SlR.dom' : ∀ (s : Sl) (v : Option V) (fp : List Addr), SlR K F H s v fp → ∀ p ∈ fp, ∃ o, H p = some o
  | .no, v, fp, h => by rw [show fp = [] from h]; simp
  | .fz d, v, fp, h => by rw [h.1]; simp
  | .own ds, v, fp, h => by
    obtain ⟨p, vs, rfl, h2, h3, h4⟩ := h
    intro q hq
    rw [List.mem_singleton.mp hq]
    exact ⟨_, h3⟩
  | .at_ p ds, v, fp, h => by
    obtain ⟨vs, rfl, h2, h3, h4⟩ := h
    intro q hq
    rw [List.mem_singleton.mp hq]
    exact ⟨_, h3⟩
  | .owd ds, v, fp, h => by
    obtain ⟨p, vs, rfl, h2, h3, h4⟩ := h
    intro q hq
    rw [List.mem_singleton.mp hq]
    exact ⟨_, h3⟩
  | .owt ds, v, fp, h => by
    obtain ⟨p, vs, rfl, h2, h3, h4⟩ := h
    intro q hq
    rw [List.mem_singleton.mp hq]
    exact ⟨_, h3⟩
  | .ol ss, v, fp, h => by
    obtain ⟨p, vs, fps, rfl, h2, h3, h4⟩ := h
    intro q hq
    rcases List.mem_cons.mp hq with rfl | hq
    · exact ⟨_, h3⟩
    · exact SlRL.dom' ss _ _ h4 q hq
  | .ob C xs ss, v, fp, h => by
    obtain ⟨p, dx, vs, fps, rfl, h2, h3, h4, h5, h6⟩ := h
    intro q hq
    rcases List.mem_cons.mp hq with rfl | hq
    · exact ⟨_, h3⟩
    · rcases List.mem_cons.mp hq with rfl | hq
      · exact ⟨_, h4⟩
      · exact SlRL.dom' ss _ _ h6 q hq
  | .ot_ ss, v, fp, h => by
    obtain ⟨p, vs, fps, rfl, h2, h3, h4⟩ := h
    intro q hq
    rcases List.mem_cons.mp hq with rfl | hq
    · exact ⟨_, h3⟩
    · exact SlRL.dom' ss _ _ h4 q hq
  | .kn w s, v, fp, h => SlR.dom' s v fp h.2
theorem SlRL.dom' : ∀ (ss : List Sl) (vs : List (Option V)) (fp : List Addr), SlRL K F H ss vs fp → ∀ p ∈ fp, ∃ o, H p = some o
  | [], vs, fp, h => by rw [h.2]; simp
  | s :: ss, vs, fp, h => by
    obtain ⟨v, ws, f1, f2, rfl, rfl, h1, h2⟩ := h
    intro p hp
    rcases List.mem_append.mp hp with hp | hp
    · exact SlR.dom' s _ _ h1 p hp
    · exact SlRL.dom' ss _ _ h2 p hp
end
theorem SlR.dom {s : Sl} {v : Option V} {fp : List Addr} (h : SlR K F H s v fp) : ∀ p ∈ fp, ∃ o, H p = some o := SlR.dom' s v fp h
theorem SlRs.mono {ss : List Sl} {vs : List (Option V)} {fp : List Addr} (e : Ex F F') (h : SlRs K F H ss vs fp) (k : ∀ p ∈ fp, H' p = H p) : SlRs K F' H' ss vs fp := by
  induction h with
  | nil => exact .nil
  | cons h t ih => exact .cons (h.mono e fun p hp => k p (List.mem_append_left _ hp)) (ih fun p hp => k p (List.mem_append_right _ hp))
theorem SlRs.dom {ss : List Sl} {vs : List (Option V)} {fp : List Addr} (h : SlRs K F H ss vs fp) : ∀ p ∈ fp, ∃ o, H p = some o := by
  induction h with
  | nil => simp
  | cons h t ih =>
    intro p hp
    rcases List.mem_append.mp hp with hp | hp
    · exact h.dom p hp
    · exact ih p hp
theorem SlRs.len {ss : List Sl} {vs : List (Option V)} {fp : List Addr} (h : SlRs K F H ss vs fp) : ss.length = vs.length := by
  induction h with
  | nil => rfl
  | cons h t ih => simp [ih]
/-- one slot, and the others' cells -/
theorem SlRs.at {ss : List Sl} {vs : List (Option V)} {fp : List Addr} (h : SlRs K F H ss vs fp) : ∀ {i : Nat} {s : Sl}, ss[i]? = some s →
    ∃ (v : Option V) (l m r : List Addr), vs[i]? = some v ∧ fp = l ++ m ++ r ∧ SlR K F H s v m ∧
      (∀ (F' H' : Hp) (s' : Sl) (v' : Option V) (m' : List Addr), Ex F F' → (∀ p ∈ l ++ r, H' p = H p) → SlR K F' H' s' v' m' → SlRs K F' H' (ss.set i s') (vs.set i v') (l ++ m' ++ r)) := by
  induction h with
  | nil => intro i s e; simp at e
  | @cons s0 v0 fp0 ss0 vs0 fps0 h t ih =>
    intro i s e
    cases i with
    | zero =>
      simp at e
      subst e
      refine ⟨v0, [], fp0, fps0, rfl, by simp, h, fun F' H' s' v' m' e k q => ?_⟩
      simp only [List.set_cons_zero, List.nil_append]
      exact .cons q (t.mono e fun p hp => k p (by simpa using hp))
    | succ i =>
      simp at e
      obtain ⟨v, l, m, r, h1, h2, h3, h4⟩ := ih e
      refine ⟨v, fp0 ++ l, m, r, by simpa using h1, by rw [h2]; simp, h3, fun F' H' s' v' m' e k q => ?_⟩
      simp only [List.set_cons_succ]
      have z := h4 F' H' s' v' m' e (fun p hp => k p (by
        rcases List.mem_append.mp hp with hp | hp
        · exact List.mem_append_left _ (List.mem_append_right _ hp)
        · exact List.mem_append_right _ hp)) q
      have y := SlRs.cons (h.mono (H' := H') e fun p hp => k p (List.mem_append_left _ (List.mem_append_left _ hp))) z
      simpa using y
end

/-! ### states -/
/-- F0: what was known at the entry; B: what stands beside; F: what is known to stay -/
structure Ok (K : PySem.W.Frag) (F0 B F : Hp) (Γ : List Sl) (σ : L2.St) (H : Hp) : Prop where
  f0 : Ex F0 F
  fh : Ex F H
  bh : Ex B H
  nb : ∀ q o, B q = some o → F q = F0 q
  sl : ∃ fp, SlRs K F H Γ σ fp ∧ fp.Nodup ∧ ∀ p ∈ fp, F p = none ∧ B p = none
structure OkH (F0 B F H : Hp) : Prop where
  f0 : Ex F0 F
  fh : Ex F H
  bh : Ex B H
  nb : ∀ q o, B q = some o → F q = F0 q
theorem Ok.h {K : PySem.W.Frag} {F0 B F H : Hp} {Γ : List Sl} {σ : L2.St} (k : Ok K F0 B F Γ σ H) : OkH F0 B F H := ⟨k.f0, k.fh, k.bh, k.nb⟩
/-- what an expression may do -/
structure Ext (F H F' H' : Hp) : Prop where
  ff : Ex F F'
  hh : Ex H H'
  fh : Ex F' H'
  old : ∀ q o, H q = some o → F' q = F q
theorem Ext.refl {F H : Hp} (e : Ex F H) : Ext F H F H := ⟨Ex.refl F, Ex.refl H, e, fun _ _ _ => rfl⟩
theorem Ext.trans {F H F1 H1 F2 H2 : Hp} (a : Ext F H F1 H1) (b : Ext F1 H1 F2 H2) : Ext F H F2 H2 :=
  ⟨a.ff.trans b.ff, a.hh.trans b.hh, b.fh, fun q o e => (b.old q o (a.hh q o e)).trans (a.old q o e)⟩
theorem none_of {F H : Hp} {p : Addr} (e : Ex F H) (h : H p = none) : F p = none := Evl.fresh_back e h
/-- a new object, known to stay from now on -/
theorem Ext.new {F H : Hp} {p : Addr} {o : HO} (e : Ex F H) (h : H p = none) : Ext F H (upd F p o) (upd H p o) := by
  refine ⟨Ex.new (none_of e h), Ex.new h, fun a u q => ?_, fun q u k => by rw [upd_ne (ne_of_none k h)]⟩
  unfold upd at q ⊢
  split at q
  · rename_i z; rw [if_pos z]; exact q
  · rename_i z; rw [if_neg z]; exact e a u q
/-- a new object of one's own -/
theorem Ext.newOwn {F H : Hp} {p : Addr} {o : HO} (e : Ex F H) (h : H p = none) : Ext F H F (upd H p o) :=
  ⟨Ex.refl F, Ex.new h, e.trans (Ex.new h), fun _ _ _ => rfl⟩
/-- .. known to stay -/
theorem Ext.freeze {F H F' H' : Hp} {p : Addr} {o : HO} (e : Ext F H F' H') (h : H p = none) (hf : F' p = none) (ho : H' p = some o) : Ext F H (upd F' p o) H' := by
  refine ⟨e.ff.trans (Ex.new hf), e.hh, fun a u q => ?_, fun q u k => by rw [upd_ne (ne_of_none k h)]; exact e.old q u k⟩
  unfold upd at q
  split at q
  · rename_i z; cases q; rw [z]; exact ho
  · exact e.fh a u q

section
variable {K : PySem.W.Frag} {F0 B F F' H H' : Hp} {Γ : List Sl} {σ : L2.St} {d : D} {v : V} {i : Nat}
theorem Ok.ext (k : Ok K F0 B F Γ σ H) (e : Ext F H F' H') : Ok K F0 B F' Γ σ H' := by
  obtain ⟨fp, h1, h2, h3⟩ := k.sl
  refine ⟨k.f0.trans e.ff, e.fh, k.bh.trans e.hh, fun q o b => (e.old q o (k.bh q o b)).trans (k.nb q o b), fp, h1.mono e.ff (fun p hp => ?_), h2, fun p hp => ?_⟩
  · obtain ⟨o, ho⟩ := h1.dom p hp
    rw [ho]
    exact e.hh p o ho
  · obtain ⟨o, ho⟩ := h1.dom p hp
    exact ⟨(e.old p o ho).trans (h3 p hp).1, (h3 p hp).2⟩
theorem nodup_mid {l m r m' : List Addr} (h : (l ++ m ++ r).Nodup) (h1 : m'.Nodup) (h2 : ∀ p ∈ m', p ∈ m ∨ p ∉ l ++ r) : (l ++ m' ++ r).Nodup := by
  rw [List.nodup_append, List.nodup_append] at h ⊢
  obtain ⟨⟨a1, a2, a3⟩, a4, a5⟩ := h
  refine ⟨⟨a1, h1, fun x hx y hy e => ?_⟩, a4, fun x hx y hy e => ?_⟩
  · subst e
    rcases h2 x hy with q | q
    · exact a3 x hx x q rfl
    · exact q (List.mem_append_left _ hx)
  · subst e
    rcases List.mem_append.mp hx with q | q
    · exact a5 x (List.mem_append_left _ q) x hy rfl
    · rcases h2 x q with z | z
      · exact a5 x (List.mem_append_right _ z) x hy rfl
      · exact z (List.mem_append_right _ hy)
theorem Ok.len (k : Ok K F0 B F Γ σ H) : Γ.length = σ.length := let ⟨_, h, _⟩ := k.sl; h.len
/-- a slot, and what may come of it -/
theorem Ok.mod {s : Sl} (k : Ok K F0 B F Γ σ H) (hi : Γ[i]? = some s) : ∃ v m, σ[i]? = some v ∧ SlR K F H s v m ∧ (∀ p ∈ m, F p = none ∧ B p = none) ∧ m.Nodup ∧
    ∀ (F' H' : Hp) (s' : Sl) (v' : Option V) (m' : List Addr), Ex F F' → Ex F' H' → (∀ q o, q ∉ m → H q = some o → H' q = some o) → (∀ q o, H q = some o → q ∉ m → F' q = F q) →
      SlR K F' H' s' v' m' → m'.Nodup → (∀ p ∈ m', p ∈ m ∨ H p = none) → (∀ p ∈ m', F' p = none) → Ok K F0 B F' (Γ.set i s') (σ.set i v') H' := by
  obtain ⟨fp, h1, h2, h3⟩ := k.sl
  obtain ⟨w, l, m, r, a1, a2, a3, a4⟩ := h1.at hi
  have hm : ∀ p ∈ m, F p = none ∧ B p = none := fun p hp => h3 p (by rw [a2]; exact List.mem_append_left _ (List.mem_append_right _ hp))
  rw [a2] at h2
  have dj : ∀ p ∈ l ++ r, p ∉ m := fun p hp hm => by
    rw [List.nodup_append, List.nodup_append] at h2
    obtain ⟨⟨b1, b2, b3⟩, b4, b5⟩ := h2
    rcases List.mem_append.mp hp with q | q
    · exact b3 p q p hm rfl
    · exact b5 p (List.mem_append_right _ hm) p q rfl
  have lr : ∀ p ∈ l ++ r, p ∈ fp := fun p hp => by
    rw [a2]
    rcases List.mem_append.mp hp with q | q
    · exact List.mem_append_left _ (List.mem_append_left _ q)
    · exact List.mem_append_right _ q
  have nm : m.Nodup := by
    rw [List.nodup_append, List.nodup_append] at h2
    exact h2.1.2.1
  refine ⟨w, m, a1, a3, hm, nm, fun F' H' s' v' m' e1 e2 e3 e4 e5 e6 e7 e8 => ?_⟩
  refine ⟨k.f0.trans e1, e2, fun q o b => ?_, fun q o b => ?_, l ++ m' ++ r, a4 F' H' s' v' m' e1 (fun p hp => ?_) e5, nodup_mid h2 e6 fun p hp => ?_, fun p hp => ?_⟩
  · exact e3 q o (fun z => by rw [(hm q z).2] at b; cases b) (k.bh q o b)
  · exact (e4 q o (k.bh q o b) (fun z => by rw [(hm q z).2] at b; cases b)).trans (k.nb q o b)
  · obtain ⟨o, ho⟩ := h1.dom p (lr p hp)
    rw [ho]
    exact e3 p o (dj p hp) ho
  · rcases e7 p hp with z | z
    · exact .inl z
    · refine .inr fun y => ?_
      obtain ⟨o, ho⟩ := h1.dom p (lr p y)
      rw [z] at ho
      cases ho
  · have old : ∀ p ∈ l ++ r, F' p = none ∧ B p = none := fun p hp => by
      obtain ⟨o, ho⟩ := h1.dom p (lr p hp)
      exact ⟨(e4 p o ho (dj p hp)).trans (h3 p (lr p hp)).1, (h3 p (lr p hp)).2⟩
    rcases List.mem_append.mp hp with hp | hp
    · rcases List.mem_append.mp hp with hp | hp
      · exact old p (List.mem_append_left _ hp)
      · refine ⟨e8 p hp, ?_⟩
        rcases e7 p hp with z | z
        · exact (hm p z).2
        · exact none_of k.bh z
    · exact old p (List.mem_append_right _ hp)
/-- a value that stays comes to a slot -/
theorem Ok.fz {s : Sl} (k : Ok K F0 B F Γ σ H) (hi : Γ[i]? = some s) (r : Rep K F v d) : Ok K F0 B F (Γ.set i (.fz d)) (σ.set i (some v)) H := by
  obtain ⟨w, m, h1, h2, h3, _, h4⟩ := k.mod hi
  exact h4 F H _ _ [] (Ex.refl F) k.fh (fun q o _ e => e) (fun _ _ _ _ => rfl) ⟨rfl, v, rfl, r⟩ List.nodup_nil (fun p hp => by cases hp) fun p hp => by cases hp
/-- a new object of one's own comes to a slot -/
theorem Ok.newOwn {s s' : Sl} {p : Addr} (k : Ok K F0 B F Γ σ H) (e : Ext F H F' H') (hi : Γ[i]? = some s) (hn : H p = none) (hf : F' p = none) (r : SlR K F' H' s' (some v) [p]) : Ok K F0 B F' (Γ.set i s') (σ.set i (some v)) H' := by
  obtain ⟨w, m, h1, h2, h3, _, h4⟩ := k.mod hi
  refine h4 F' H' s' _ [p] e.ff e.fh (fun q o _ a => e.hh q o a) (fun q o a _ => e.old q o a) r (by simp) (fun q hq => .inr ?_) fun q hq => ?_
  · rw [List.mem_singleton.mp hq]
    exact hn
  · rw [List.mem_singleton.mp hq]
    exact hf
/-- slots forgotten -/
inductive Sub : List Sl → List Sl → Prop where
  | nil : Sub [] []
  | s {x : Sl} {a b : List Sl} (h : Sub a b) : Sub (x :: a) (x :: b)
  | n {x : Sl} {a b : List Sl} (h : Sub a b) : Sub (x :: a) (.no :: b)
theorem SlRs.sub {Γ' : List Sl} (h : Sub Γ Γ') : ∀ {σ : L2.St} {fp : List Addr}, SlRs K F H Γ σ fp → fp.Nodup → ∃ fp', SlRs K F H Γ' σ fp' ∧ fp'.Nodup ∧ ∀ p ∈ fp', p ∈ fp := by
  induction h with
  | nil =>
    intro σ fp k _
    cases k
    exact ⟨[], .nil, List.nodup_nil, fun p hp => hp⟩
  | s h ih =>
    intro σ fp k nd
    cases k with
    | @cons _ v fp1 _ vs fps k1 k2 =>
      rw [List.nodup_append] at nd
      obtain ⟨n1, n2, n3⟩ := nd
      obtain ⟨fp', a1, a2, a3⟩ := ih k2 n2
      refine ⟨fp1 ++ fp', .cons k1 a1, ?_, fun p hp => ?_⟩
      · rw [List.nodup_append]
        exact ⟨n1, a2, fun x hx y hy => n3 x hx y (a3 y hy)⟩
      · rcases List.mem_append.mp hp with z | z
        · exact List.mem_append_left _ z
        · exact List.mem_append_right _ (a3 p z)
  | n h ih =>
    intro σ fp k nd
    cases k with
    | @cons _ v fp1 _ vs fps k1 k2 =>
      rw [List.nodup_append] at nd
      obtain ⟨n1, n2, n3⟩ := nd
      obtain ⟨fp', a1, a2, a3⟩ := ih k2 n2
      exact ⟨[] ++ fp', .cons rfl a1, a2, fun p hp => List.mem_append_right _ (a3 p hp)⟩
theorem Ok.sub {Γ' : List Sl} (k : Ok K F0 B F Γ σ H) (h : Sub Γ Γ') : Ok K F0 B F Γ' σ H := by
  obtain ⟨fp, h1, h2, h3⟩ := k.sl
  obtain ⟨fp', a1, a2, a3⟩ := SlRs.sub h h1 h2
  exact ⟨k.f0, k.fh, k.bh, k.nb, fp', a1, a2, fun p hp => h3 p (a3 p hp)⟩
theorem Ok.get {d : D} (k : Ok K F0 B F Γ σ H) (hi : Γ[i]? = some (.fz d)) : ∃ v, σ[i]? = some (some v) ∧ Rep K F v d := by
  obtain ⟨w, m, h1, h2, _⟩ := k.mod hi
  obtain ⟨_, x, rfl, r⟩ := h2
  exact ⟨x, h1, r⟩
/-- an own list becomes one that stays -/
theorem Ok.freeze {ds : List D} (k : Ok K F0 B F Γ σ H) (hi : Γ[i]? = some (.own ds)) : ∃ F', Ex F F' ∧ Ok K F0 B F' (Γ.set i (.fz (.lst ds))) σ H := by
  obtain ⟨w, m, h1, h2, h3, _, h4⟩ := k.mod hi
  obtain ⟨p, vs, rfl, rfl, e1, e2⟩ := h2
  have fn : F p = none := (h3 p (by simp)).1
  have ex : Ex F (upd F p (.lst vs)) := Ex.new fn
  have z := h4 (upd F p (.lst vs)) H (.fz (.lst ds)) (some (.ref p)) [] ex (fun a u q => by
    unfold upd at q
    split at q
    · rename_i y; cases q; rw [y]; exact e1
    · exact k.fh a u q) (fun q o _ a => a) (fun q o _ nq => upd_ne (fun y => nq (by simp [y]))) ⟨rfl, _, rfl, .lst upd_same e2.len (e2.mono ex).at_⟩ List.nodup_nil (fun p hp => by cases hp) fun p hp => by cases hp
  refine ⟨_, ex, ?_⟩
  have e : σ.set i (some (.ref p)) = σ := by
    obtain ⟨hl, hv⟩ := List.getElem?_eq_some_iff.mp h1
    rw [← hv]
    exact List.set_getElem_self hl
  rwa [e] at z
end
end M
/-! M2: what expressions give -/
namespace M
open PySem L2
open Evl (Ex)
open Enc (enc)

def EvM {α : Type} [Enc α] (K : PySem.W.Frag) (te : TE) (Γ : List Sl) (m : Option α) : Prop :=
  ∀ a, m = some a → ∀ (F0 B F : Hp) (σ : L2.St) (H : Hp), Ok K F0 B F Γ σ H → ∀ Q : VK, (∀ v F' H', Ext F H F' H' → Rep K F' v (enc a) → Q v H') → te σ H Q
/-- a list that is read now -/
def EvL {α : Type} [Enc α] (K : PySem.W.Frag) (te : TE) (Γ : List Sl) (m : Option (List α)) : Prop :=
  ∀ a, m = some a → ∀ (F0 B F : Hp) (σ : L2.St) (H : Hp), Ok K F0 B F Γ σ H → ∀ Q : VK, (∀ p vs F' H', Ext F H F' H' → H' p = some (.lst vs) → Reps K F' vs (a.map enc) → Q (.ref p) H') → te σ H Q
/-- a new list -/
def EvN {α : Type} [Enc α] (K : PySem.W.Frag) (te : TE) (Γ : List Sl) (m : Option (List α)) : Prop :=
  ∀ a, m = some a → ∀ (F0 B F : Hp) (σ : L2.St) (H : Hp), Ok K F0 B F Γ σ H → ∀ Q : VK, (∀ p vs F' H', Ext F H F' H' → H p = none → F' p = none → H' p = some (.lst vs) → Reps K F' vs (a.map enc) → Q (.ref p) H') → te σ H Q
def EvT (K : PySem.W.Frag) (tt : TT) (Γ : List Sl) (m : Option Bool) : Prop :=
  ∀ a, m = some a → ∀ (F0 B F : Hp) (σ : L2.St) (H : Hp), Ok K F0 B F Γ σ H → ∀ Q : Bool → Hp → Prop, (∀ F' H', Ext F H F' H' → Q a H') → tt σ H Q
/-- arguments -/
def EvA (K : PySem.W.Frag) (ta : TA) (Γ : List Sl) (m : Option (List D)) : Prop :=
  ∀ a, m = some a → ∀ (F0 B F : Hp) (σ : L2.St) (H : Hp), Ok K F0 B F Γ σ H → ∀ Q : List V → Hp → Prop, (∀ vs F' H', Ext F H F' H' → Reps K F' vs a → Q vs H') → ta σ H Q
/-- .. of one kind -/
def EvH {α : Type} [Enc α] (K : PySem.W.Frag) (ta : TA) (Γ : List Sl) (m : Option (List α)) : Prop := EvA K ta Γ (m.map fun xs => xs.map enc)

/-- operations by values -/
def R2M {α β γ : Type} [Enc α] [Enc β] [Enc γ] (K : PySem.W.Frag) (r : R2) (f : α → β → Option γ) : Prop :=
  ∀ a b c, f a b = some c → ∀ (F H : Hp) (v w : V), Ex F H → Rep K F v (enc a) → Rep K F w (enc b) → ∀ Q : VK, (∀ u F' H', Ext F H F' H' → Rep K F' u (enc c) → Q u H') → r v w H Q
def R1M {α γ : Type} [Enc α] [Enc γ] (K : PySem.W.Frag) (r : V → Hp → VK → Prop) (f : α → Option γ) : Prop :=
  ∀ a c, f a = some c → ∀ (F H : Hp) (v : V), Ex F H → Rep K F v (enc a) → ∀ Q : VK, (∀ u F' H', Ext F H F' H' → Rep K F' u (enc c) → Q u H') → r v H Q
/-- a built-in's call -/
def RCM {γ : Type} [Enc γ] (K : PySem.W.Frag) (r : List V → Hp → VK → Prop) (f : List D → Option γ → Prop) : Prop :=
  ∀ ds m c, f ds m → m = some c → ∀ (F H : Hp) (vs : List V), Ex F H → Reps K F vs ds → ∀ Q : VK, (∀ u F' H', Ext F H F' H' → Rep K F' u (enc c) → Q u H') → r vs H Q

section
variable {K : PySem.W.Frag} {Γ : List Sl} {α β γ δ : Type} [Enc α] [Enc β] [Enc γ] [Enc δ] {ta tb tc te : TE} {ma : Option α} {mb : Option β} {mc : Option γ} {md : Option δ}

theorem em_var {i : Nat} {a : α} (h : Γ[i]? = some (.f a)) : EvM K (tVar i) Γ (some a) := fun a' e F0 B F σ H k Q q => by
  cases e
  obtain ⟨v, h1, h2⟩ := k.get h
  exact ⟨v, h1, q v F H (Ext.refl k.fh) h2⟩
/-- a name that is None or a value, read as the value -/
theorem em_some {i : Nat} {x : Option α} (h : Γ[i]? = some (.f x)) : EvM K (tVar i) Γ x := fun a' e F0 B F σ H k Q q => by
  obtain ⟨v, h1, h2⟩ := k.get h
  subst e
  exact ⟨v, h1, q v F H (Ext.refl k.fh) h2⟩
theorem em_int {i : Int} : EvM K (tC (.int i)) Γ (some i) := fun a' e F0 B F σ H k Q q => by
  cases e
  exact q _ F H (Ext.refl k.fh) (.int i)
theorem em_str {i : Str} : EvM K (tC (.str i)) Γ (some i) := fun a' e F0 B F σ H k Q q => by
  cases e
  exact q _ F H (Ext.refl k.fh) (.str i)
theorem em_bl {i : Bool} : EvM K (tC (.bl i)) Γ (some i) := fun a' e F0 B F σ H k Q q => by
  cases e
  exact q _ F H (Ext.refl k.fh) (.bl i)
theorem em_non : EvM K (tC .non) Γ (some (none : Option α)) := fun a' e F0 B F σ H k Q q => by
  cases e
  exact q _ F H (Ext.refl k.fh) .non
theorem em_unit : EvM K (tC .non) Γ (some ()) := fun a' e F0 B F σ H k Q q => by
  cases e
  exact q _ F H (Ext.refl k.fh) .non
theorem em_up (h : EvM K te Γ ma) : EvM K te Γ (ma.map some) := fun a' e F0 B F σ H k Q q => by
  obtain ⟨a, e1, rfl⟩ := Option.map_eq_some_iff.mp e
  exact h a e1 F0 B F σ H k Q q
theorem em_D (h : EvM K te Γ ma) : EvM K te Γ (ma.map enc : Option D) := fun a' e F0 B F σ H k Q q => by
  obtain ⟨a, e1, rfl⟩ := Option.map_eq_some_iff.mp e
  exact h a e1 F0 B F σ H k Q q
theorem em_eq {m : Option α} (h : EvM K te Γ ma) (e : ma = m) : EvM K te Γ m := e ▸ h
/-- .. the result under the same data -/
theorem em_as {m : Option β} (h : EvM K te Γ ma) (e : ∀ b, m = some b → ∃ a, ma = some a ∧ (enc a : D) = enc b) : EvM K te Γ m := fun b e1 F0 B F σ H k Q q => by
  obtain ⟨a, e2, e3⟩ := e b e1
  exact h a e2 F0 B F σ H k Q fun v F' H' x r => q v F' H' x (e3 ▸ r)

theorem em_op {r : R2} {f : α → β → Option γ} (hr : R2M K r f) (ha : EvM K ta Γ ma) (hb : EvM K tb Γ mb) : EvM K (tOp r ta tb) Γ (ma.bind fun a => mb.bind fun b => f a b) := fun c e F0 B F σ H k Q q => by
  obtain ⟨a, e1, e⟩ := Option.bind_eq_some_iff.mp e
  obtain ⟨b, e2, e⟩ := Option.bind_eq_some_iff.mp e
  refine ha a e1 F0 B F σ H k _ fun v F1 H1 x1 r1 => ?_
  refine hb b e2 F0 B F1 σ H1 (k.ext x1) _ fun w F2 H2 x2 r2 => ?_
  exact hr a b c e F2 H2 v w x2.fh (r1.mono x2.ff) r2 Q fun u F3 H3 x3 r3 => q u F3 H3 ((x1.trans x2).trans x3) r3
theorem em_un {r : V → Hp → VK → Prop} {f : α → Option γ} (hr : R1M K r f) (ha : EvM K ta Γ ma) : EvM K (tUn r ta) Γ (ma.bind fun a => f a) := fun c e F0 B F σ H k Q q => by
  obtain ⟨a, e1, e⟩ := Option.bind_eq_some_iff.mp e
  refine ha a e1 F0 B F σ H k _ fun v F1 H1 x1 r1 => ?_
  exact hr a c e F1 H1 v x1.fh r1 Q fun u F3 H3 x3 r3 => q u F3 H3 (x1.trans x3) r3

/-! ### by values -/
theorem Rep.int_inv {F : Hp} {v : V} {i : Int} (h : Rep K F v (enc i)) : v = .int i := by cases h; rfl
theorem Rep.bl_inv {F : Hp} {v : V} {i : Bool} (h : Rep K F v (enc i)) : v = .bl i := by cases h; rfl
theorem Rep.str_inv {F : Hp} {v : V} {i : Str} (h : Rep K F v (enc i)) : v = .str i := by cases h; rfl
theorem Rep.lst_inv {F : Hp} {v : V} {i : List α} (h : Rep K F v (enc i)) : ∃ p vs, v = .ref p ∧ F p = some (.lst vs) ∧ Reps K F vs (i.map enc) := by
  cases h with
  | lst h hl hr => exact ⟨_, _, rfl, h, hl, hr⟩
theorem Rep.tup_inv {F : Hp} {v : V} {ds : List D} (h : Rep K F v (.tup ds)) : ∃ p vs, v = .ref p ∧ F p = some (.tup vs) ∧ Reps K F vs ds := by
  cases h with
  | tup h hl hr => exact ⟨_, _, rfl, h, hl, hr⟩
theorem rm_i0 {g : Int → Int → Int} : R2M K (rI0 fun i j => .int (g i j)) (fun a b => some (g a b)) := fun a b c e F H v w x ra rb Q q => by
  cases e
  rw [ra.int_inv, rb.int_inv]
  exact ⟨a, b, rfl, rfl, q _ F H (Ext.refl x) (.int _)⟩
theorem rm_b0 {g : Int → Int → Bool} : R2M K (rI0 fun i j => .bl (g i j)) (fun a b => some (g a b)) := fun a b c e F H v w x ra rb Q q => by
  cases e
  rw [ra.int_inv, rb.int_inv]
  exact ⟨a, b, rfl, rfl, q _ F H (Ext.refl x) (.bl _)⟩
theorem rm_i {C : Int → Int → Prop} [∀ i j, Decidable (C i j)] {g : Int → Int → Int} : R2M K (rI C fun i j => .int (g i j)) (fun a b => if C a b then some (g a b) else none) := fun a b c e F H v w x ra rb Q q => by
  dsimp only at e
  split at e
  · cases e
    rw [ra.int_inv, rb.int_inv]
    exact ⟨a, b, rfl, rfl, by assumption, q _ F H (Ext.refl x) (.int _)⟩
  · cases e
instance : ∀ i j, Decidable (CMulW i j) := fun i j => by unfold CMulW; infer_instance
instance : ∀ i j, Decidable (CDivW i j) := fun i j => by unfold CDivW; infer_instance
instance : ∀ i j, Decidable (CPow i j) := fun i j => by unfold CPow; infer_instance
def CMulX (a b : Int) : Prop := CMul a b ∨ CMulW a b
instance (a b : Int) : Decidable (CMulX a b) := by unfold CMulX CMul CMulW; infer_instance
theorem op_mulX {X : Cx} : OpR X (binaryOp .Mult) (rI CMulX fun i j => .int (i * j)) := opI fun _ _ _ _ _ _ _ hc q => PySem.P.mul_int q (hc.elim CMul.ok CMulW.ok)
def mulM (a b : Int) : Option Int := if CMulX a b then some (a * b) else none
def divM (a b : Int) : Option Int := if CDivW a b then some (a / b) else none
def modM (a b : Int) : Option Int := if 0 < b then some (a % b) else none
def shrM (a b : Int) : Option Int := if 0 ≤ b then some (a / 2 ^ b.toNat) else none
theorem em_add {ma mb : Option Int} (ha : EvM K ta Γ ma) (hb : EvM K tb Γ mb) : EvM K (tOp (rI0 fun i j => .int (i + j)) ta tb) Γ (ma.bind fun a => mb.bind fun b => some (a + b)) := em_op rm_i0 ha hb
theorem em_sub {ma mb : Option Int} (ha : EvM K ta Γ ma) (hb : EvM K tb Γ mb) : EvM K (tOp (rI0 fun i j => .int (i - j)) ta tb) Γ (ma.bind fun a => mb.bind fun b => some (a - b)) := em_op rm_i0 ha hb
theorem em_mul {ma mb : Option Int} (ha : EvM K ta Γ ma) (hb : EvM K tb Γ mb) : EvM K (tOp (rI CMulX fun i j => .int (i * j)) ta tb) Γ (ma.bind fun a => mb.bind fun b => mulM a b) := em_op rm_i ha hb
theorem em_div {ma mb : Option Int} (ha : EvM K ta Γ ma) (hb : EvM K tb Γ mb) : EvM K (tOp (rI CDivW fun i j => .int (i / j)) ta tb) Γ (ma.bind fun a => mb.bind fun b => divM a b) := em_op rm_i ha hb
theorem em_mod {ma mb : Option Int} (ha : EvM K ta Γ ma) (hb : EvM K tb Γ mb) : EvM K (tOp (rI (fun _ j => 0 < j) fun i j => .int (i % j)) ta tb) Γ (ma.bind fun a => mb.bind fun b => modM a b) := em_op rm_i ha hb
theorem em_shr {ma mb : Option Int} (ha : EvM K ta Γ ma) (hb : EvM K tb Γ mb) : EvM K (tOp (rI (fun _ j => 0 ≤ j) fun i j => .int (i / 2 ^ j.toNat)) ta tb) Γ (ma.bind fun a => mb.bind fun b => shrM a b) := em_op rm_i ha hb
/-- the right side known: no check is left -/
theorem em_divC {ma : Option Int} {n : Int} (ha : EvM K ta Γ ma) (hb : EvM K tb Γ (some n)) (hn : CDivW 0 n) : EvM K (tOp (rI CDivW fun i j => .int (i / j)) ta tb) Γ (ma.bind fun a => some (a / n)) :=
  em_eq (em_div ha hb) (by congr; funext a; show divM a n = _; unfold divM; rw [if_pos (show CDivW a n from hn)])
theorem em_modC {ma : Option Int} {n : Int} (ha : EvM K ta Γ ma) (hb : EvM K tb Γ (some n)) (hn : 0 < n) : EvM K (tOp (rI (fun _ j => 0 < j) fun i j => .int (i % j)) ta tb) Γ (ma.bind fun a => some (a % n)) :=
  em_eq (em_mod ha hb) (by congr; funext a; show modM a n = _; unfold modM; rw [if_pos hn])
/-- ** of two known numbers -/
theorem em_powC {a b : Int} (h : CPow a b) (ha : EvM K ta Γ (some a)) (hb : EvM K tb Γ (some b)) : EvM K (tOp (rI CPow fun i j => .int (i ^ j.toNat)) ta tb) Γ (some (a ^ b.toNat)) :=
  em_eq (em_op (rm_i (g := fun i j => i ^ j.toNat)) ha hb) (by show (if CPow a b then some (a ^ b.toNat) else none) = _; rw [if_pos h])
theorem em_neg {ma : Option Int} (ha : EvM K ta Γ ma) : EvM K (tUn (rU fun i => .int (-i)) ta) Γ (ma.bind fun a => some (-a)) := em_un (fun a c e F H v x ra Q q => by
  cases e
  rw [ra.int_inv]
  exact ⟨a, rfl, q _ F H (Ext.refl x) (.int _)⟩) ha
theorem em_lt {ma mb : Option Int} (ha : EvM K ta Γ ma) (hb : EvM K tb Γ mb) : EvM K (tOp (rI0 fun i j => .bl (decide (i < j))) ta tb) Γ (ma.bind fun a => mb.bind fun b => some (decide (a < b))) := em_op rm_b0 ha hb
theorem em_le {ma mb : Option Int} (ha : EvM K ta Γ ma) (hb : EvM K tb Γ mb) : EvM K (tOp (rI0 fun i j => .bl (decide (i ≤ j))) ta tb) Γ (ma.bind fun a => mb.bind fun b => some (decide (a ≤ b))) := em_op rm_b0 ha hb
theorem em_gt {ma mb : Option Int} (ha : EvM K ta Γ ma) (hb : EvM K tb Γ mb) : EvM K (tOp (rI0 fun i j => .bl (decide (j < i))) ta tb) Γ (ma.bind fun a => mb.bind fun b => some (decide (b < a))) := em_op rm_b0 ha hb
theorem em_ge {ma mb : Option Int} (ha : EvM K ta Γ ma) (hb : EvM K tb Γ mb) : EvM K (tOp (rI0 fun i j => .bl (decide (j ≤ i))) ta tb) Γ (ma.bind fun a => mb.bind fun b => some (decide (b ≤ a))) := em_op rm_b0 ha hb
/-- kinds whose == is decided by the values -/
class Scal (α : Type) extends Enc α where
  dec : DecidableEq α
  v : α → V
  rep : ∀ (K : PySem.W.Frag) (F : Hp) (x : V) (a : α), Rep K F x (enc a) → x = v a
  sc : ∀ a b, scal (v a) (v b) = true
  inj : ∀ a b, v a = v b → a = b
  flat : ∀ a, flatV (v a) = true
  eqv : ∀ a b, eqV (v a) (v b) = decide (a = b)
instance {α : Type} [s : Scal α] : DecidableEq α := s.dec
instance : Scal Int := ⟨inferInstance, V.int, fun _ _ _ _ h => h.int_inv, fun _ _ => rfl, fun _ _ h => V.int.inj h, fun _ => rfl, fun a b => by simp [eqV, Bool.beq_eq_decide_eq]⟩
instance : Scal Bool := ⟨inferInstance, V.bl, fun _ _ _ _ h => h.bl_inv, fun _ _ => rfl, fun _ _ h => V.bl.inj h, fun _ => rfl, fun a b => by cases a <;> cases b <;> rfl⟩
instance : Scal Str := ⟨inferInstance, V.str, fun _ _ _ _ h => h.str_inv, fun _ _ => rfl, fun _ _ h => V.str.inj h, fun _ => rfl, fun a b => by simp [eqV, Bool.beq_eq_decide_eq]⟩
theorem rm_eq {α : Type} [Scal α] : R2M K rEq (fun a b : α => some (decide (a = b))) := fun a b c e F H v w x ra rb Q q => by
  cases e
  rw [Scal.rep K F v a ra, Scal.rep K F w b rb]
  refine ⟨Scal.sc a b, ?_⟩
  have e : decide (Scal.v a = Scal.v b) = decide (a = b) := by
    by_cases h : a = b
    · rw [h]; simp
    · rw [decide_eq_false h, decide_eq_false fun z => h (Scal.inj a b z)]
  rw [e]
  exact q _ F H (Ext.refl x) (.bl _)
theorem rm_ne {α : Type} [Scal α] : R2M K rNe (fun a b : α => some (!decide (a = b))) := fun a b c e F H v w x ra rb Q q => by
  cases e
  rw [Scal.rep K F v a ra, Scal.rep K F w b rb]
  refine ⟨Scal.sc a b, ?_⟩
  have e : decide (Scal.v a = Scal.v b) = decide (a = b) := by
    by_cases h : a = b
    · rw [h]; simp
    · rw [decide_eq_false h, decide_eq_false fun z => h (Scal.inj a b z)]
  rw [e]
  exact q _ F H (Ext.refl x) (.bl _)
theorem em_eqS {α : Type} [Scal α] {ma mb : Option α} (ha : EvM K ta Γ ma) (hb : EvM K tb Γ mb) : EvM K (tOp rEq ta tb) Γ (ma.bind fun a => mb.bind fun b => some (decide (a = b))) := em_op rm_eq ha hb
theorem em_neS {α : Type} [Scal α] {ma mb : Option α} (ha : EvM K ta Γ ma) (hb : EvM K tb Γ mb) : EvM K (tOp rNe ta tb) Γ (ma.bind fun a => mb.bind fun b => some (!decide (a = b))) := em_op rm_ne ha hb
/-- is None -/
class NotNon (α : Type) [Enc α] : Prop where
  nn : ∀ (K : PySem.W.Frag) (F : Hp) (x : V) (a : α), Rep K F x (enc a) → x ≠ .non
instance : NotNon Int := ⟨fun _ _ x a h e => by rw [h.int_inv] at e; cases e⟩
instance : NotNon Bool := ⟨fun _ _ x a h e => by rw [h.bl_inv] at e; cases e⟩
instance : NotNon Str := ⟨fun _ _ x a h e => by rw [h.str_inv] at e; cases e⟩
instance : NotNon (List α) := ⟨fun _ _ x a h e => by obtain ⟨p, vs, e1, _⟩ := h.lst_inv; rw [e1] at e; cases e⟩
instance : NotNon (α × β) := ⟨fun _ _ x a h e => by obtain ⟨p, vs, e1, _⟩ := Rep.tup_inv h; rw [e1] at e; cases e⟩
instance : NotNon (T3 α β γ) := ⟨fun _ _ x a h e => by obtain ⟨p, vs, e1, _⟩ := Rep.tup_inv h; rw [e1] at e; cases e⟩
instance : NotNon (T4 α β γ δ) := ⟨fun _ _ x a h e => by obtain ⟨p, vs, e1, _⟩ := Rep.tup_inv h; rw [e1] at e; cases e⟩
instance : NotNon (Dk α) := ⟨fun _ _ x a h e => by subst e; cases h⟩
instance : NotNon (Dt α) := ⟨fun _ _ x a h e => by subst e; cases h⟩
theorem non_iff {F : Hp} {v : V} [NotNon α] {x : Option α} (h : Rep K F v (enc x)) : decide (v = .non) = x.isNone := by
  cases x with
  | none =>
    have e : v = .non := by
      have h' : Rep K F v .non := h
      cases h'
      rfl
    rw [e]
    rfl
  | some a => exact decide_eq_false (NotNon.nn K F v a h)
theorem em_isN [NotNon α] {mx : Option (Option α)} (ha : EvM K ta Γ mx) : EvM K (tIsN ta) Γ (mx.bind fun a => some a.isNone) := fun c e F0 B F σ H k Q q => by
  obtain ⟨a, e1, e⟩ := Option.bind_eq_some_iff.mp e
  cases e
  refine ha a e1 F0 B F σ H k _ fun v F1 H1 x1 r1 => ?_
  have z := non_iff r1
  show Q (.bl (decide (v = .non))) H1
  rw [z]
  exact q _ F1 H1 x1 (.bl _)
theorem em_notN [NotNon α] {mx : Option (Option α)} (ha : EvM K ta Γ mx) : EvM K (tNotN ta) Γ (mx.bind fun a => some a.isSome) := fun c e F0 B F σ H k Q q => by
  obtain ⟨a, e1, e⟩ := Option.bind_eq_some_iff.mp e
  cases e
  refine ha a e1 F0 B F σ H k _ fun v F1 H1 x1 r1 => ?_
  have z := non_iff r1
  show Q (.bl (!decide (v = .non))) H1
  rw [z]
  have y : (!a.isNone) = a.isSome := by cases a <;> rfl
  rw [y]
  exact q _ F1 H1 x1 (.bl _)

/-! ### tests -/
theorem et_test {m : Option Bool} (h : EvM K te Γ m) : EvT K (tTest te) Γ m := fun c e F0 B F σ H k Q q =>
  h c e F0 B F σ H k _ fun v F1 H1 x1 r1 => ⟨c, r1.bl_inv, q F1 H1 x1⟩
theorem et_B {m : Option Bool} (h : EvM K te Γ m) : EvT K (tB te) Γ m := fun c e F0 B F σ H k Q q =>
  h c e F0 B F σ H k _ fun v F1 H1 x1 r1 => ⟨c, r1.bl_inv, q F1 H1 x1⟩
theorem et_eq {t : TT} {m m' : Option Bool} (h : EvT K t Γ m) (e : m = m') : EvT K t Γ m' := e ▸ h
theorem et_and {t u : TT} {m n : Option Bool} (h1 : EvT K t Γ m) (h2 : EvT K u Γ n) : EvT K (tAnd t u) Γ (m.bind fun a => if a = true then n else some false) := fun c e F0 B F σ H k Q q => by
  obtain ⟨a, e1, e⟩ := Option.bind_eq_some_iff.mp e
  refine h1 a e1 F0 B F σ H k _ fun F1 H1 x1 => ?_
  cases a with
  | true => exact h2 c e F0 B F1 σ H1 (k.ext x1) Q fun F2 H2 x2 => q F2 H2 (x1.trans x2)
  | false =>
    cases e
    exact q F1 H1 x1
theorem et_or {t u : TT} {m n : Option Bool} (h1 : EvT K t Γ m) (h2 : EvT K u Γ n) : EvT K (tOr t u) Γ (m.bind fun a => if a = true then some true else n) := fun c e F0 B F σ H k Q q => by
  obtain ⟨a, e1, e⟩ := Option.bind_eq_some_iff.mp e
  refine h1 a e1 F0 B F σ H k _ fun F1 H1 x1 => ?_
  cases a with
  | false => exact h2 c e F0 B F1 σ H1 (k.ext x1) Q fun F2 H2 x2 => q F2 H2 (x1.trans x2)
  | true =>
    cases e
    exact q F1 H1 x1
theorem et_andP {t u : TT} {a b : Bool} (h1 : EvT K t Γ (some a)) (h2 : EvT K u Γ (some b)) : EvT K (tAnd t u) Γ (some (a && b)) := et_eq (et_and h1 h2) (by cases a <;> rfl)
theorem et_orP {t u : TT} {a b : Bool} (h1 : EvT K t Γ (some a)) (h2 : EvT K u Γ (some b)) : EvT K (tOr t u) Γ (some (a || b)) := et_eq (et_or h1 h2) (by cases a <;> rfl)
theorem et_not {t : TT} {m : Option Bool} (h : EvT K t Γ m) : EvT K (tNot t) Γ (m.bind fun a => some (!a)) := fun c e F0 B F σ H k Q q => by
  obtain ⟨a, e1, e⟩ := Option.bind_eq_some_iff.mp e
  cases e
  exact h a e1 F0 B F σ H k _ q
theorem em_andV {m n : Option Bool} (h1 : EvM K ta Γ m) (h2 : EvM K tb Γ n) : EvM K (tAndV ta tb) Γ (m.bind fun a => if a = true then n else some false) := fun c e F0 B F σ H k Q q => by
  obtain ⟨a, e1, e⟩ := Option.bind_eq_some_iff.mp e
  refine h1 a e1 F0 B F σ H k _ fun v F1 H1 x1 r1 => ⟨a, r1.bl_inv, ?_⟩
  cases a with
  | true => exact h2 c e F0 B F1 σ H1 (k.ext x1) Q fun u F2 H2 x2 r2 => q u F2 H2 (x1.trans x2) r2
  | false =>
    cases e
    exact q _ F1 H1 x1 (.bl _)
theorem em_orV {m n : Option Bool} (h1 : EvM K ta Γ m) (h2 : EvM K tb Γ n) : EvM K (tOrV ta tb) Γ (m.bind fun a => if a = true then some true else n) := fun c e F0 B F σ H k Q q => by
  obtain ⟨a, e1, e⟩ := Option.bind_eq_some_iff.mp e
  refine h1 a e1 F0 B F σ H k _ fun v F1 H1 x1 r1 => ⟨a, r1.bl_inv, ?_⟩
  cases a with
  | false => exact h2 c e F0 B F1 σ H1 (k.ext x1) Q fun u F2 H2 x2 r2 => q u F2 H2 (x1.trans x2) r2
  | true =>
    cases e
    exact q _ F1 H1 x1 (.bl _)
theorem em_andVP {a b : Bool} (h1 : EvM K ta Γ (some a)) (h2 : EvM K tb Γ (some b)) : EvM K (tAndV ta tb) Γ (some (a && b)) := em_eq (em_andV h1 h2) (by cases a <;> rfl)
theorem em_orVP {a b : Bool} (h1 : EvM K ta Γ (some a)) (h2 : EvM K tb Γ (some b)) : EvM K (tOrV ta tb) Γ (some (a || b)) := em_eq (em_orV h1 h2) (by cases a <;> rfl)
theorem em_notV {m : Option Bool} (h : EvM K ta Γ m) : EvM K (tNotV ta) Γ (m.bind fun a => some (!a)) := fun c e F0 B F σ H k Q q => by
  obtain ⟨a, e1, e⟩ := Option.bind_eq_some_iff.mp e
  cases e
  exact h a e1 F0 B F σ H k _ fun v F1 H1 x1 r1 => ⟨a, r1.bl_inv, q _ F1 H1 x1 (.bl _)⟩
theorem em_if {t : TT} {m : Option Bool} {n1 n2 : Option α} (h : EvT K t Γ m) (h1 : EvM K ta Γ n1) (h2 : EvM K tb Γ n2) : EvM K (tIf t ta tb) Γ (m.bind fun a => if a = true then n1 else n2) := fun c e F0 B F σ H k Q q => by
  obtain ⟨a, e1, e⟩ := Option.bind_eq_some_iff.mp e
  refine h a e1 F0 B F σ H k _ fun F1 H1 x1 => ?_
  cases a with
  | true => exact h1 c e F0 B F1 σ H1 (k.ext x1) Q fun u F2 H2 x2 r2 => q u F2 H2 (x1.trans x2) r2
  | false => exact h2 c e F0 B F1 σ H1 (k.ext x1) Q fun u F2 H2 x2 r2 => q u F2 H2 (x1.trans x2) r2
/-- a < b < c -/
theorem em_chain {r r' : R2} {f : α → β → Option Bool} {g : β → γ → Option Bool} (hr : R2M K r f) (hr' : R2M K r' g) (ha : EvM K ta Γ ma) (hb : EvM K tb Γ mb) (hc : EvM K tc Γ mc) :
    EvM K (tChain r r' ta tb tc) Γ (ma.bind fun a => mb.bind fun b => (f a b).bind fun z => if z = true then mc.bind fun c => g b c else some false) := fun d e F0 B F σ H k Q q => by
  obtain ⟨a, e1, e⟩ := Option.bind_eq_some_iff.mp e
  obtain ⟨b, e2, e⟩ := Option.bind_eq_some_iff.mp e
  obtain ⟨z, e3, e⟩ := Option.bind_eq_some_iff.mp e
  refine ha a e1 F0 B F σ H k _ fun v F1 H1 x1 r1 => ?_
  refine hb b e2 F0 B F1 σ H1 (k.ext x1) _ fun w F2 H2 x2 r2 => ?_
  refine hr a b z e3 F2 H2 v w x2.fh (r1.mono x2.ff) r2 _ fun u F3 H3 x3 r3 => ⟨z, r3.bl_inv, ?_⟩
  cases z with
  | true =>
    obtain ⟨c, e4, e⟩ := Option.bind_eq_some_iff.mp (show (mc.bind fun c => g b c) = some d from e)
    have k3 := (k.ext x1).ext (x2.trans x3)
    exact hc c e4 F0 B F3 σ H3 k3 _ fun u4 F4 H4 x4 r4 => hr' b c d e F4 H4 w u4 x4.fh (r2.mono (x3.ff.trans x4.ff)) r4 Q fun u5 F5 H5 x5 r5 => q u5 F5 H5 ((((x1.trans x2).trans x3).trans x4).trans x5) r5
  | false =>
    cases e
    exact q _ F3 H3 ((x1.trans x2).trans x3) (.bl _)

/-! ### arguments, tuples, lists -/
theorem ea_nil : EvA K tNil Γ (some []) := fun c e F0 B F σ H k Q q => by
  cases e
  exact q [] F H (Ext.refl k.fh) .nil
theorem ea_cons {tr : TA} {mr : Option (List D)} (h : EvM K ta Γ ma) (hr : EvA K tr Γ mr) : EvA K (tCons ta tr) Γ (ma.bind fun a => mr.bind fun r => some (enc a :: r)) := fun c e F0 B F σ H k Q q => by
  obtain ⟨a, e1, e⟩ := Option.bind_eq_some_iff.mp e
  obtain ⟨r, e2, e⟩ := Option.bind_eq_some_iff.mp e
  cases e
  refine h a e1 F0 B F σ H k _ fun v F1 H1 x1 r1 => ?_
  exact hr r e2 F0 B F1 σ H1 (k.ext x1) _ fun vs F2 H2 x2 r2 => q _ F2 H2 (x1.trans x2) (.cons (r1.mono x2.ff) r2)
theorem ea_eq {tr : TA} {m m' : Option (List D)} (h : EvA K tr Γ m) (e : m = m') : EvA K tr Γ m' := e ▸ h
theorem eh_nil : EvH K tNil Γ (some ([] : List α)) := ea_nil
theorem eh_cons {tr : TA} {mr : Option (List α)} (h : EvM K ta Γ ma) (hr : EvH K tr Γ mr) : EvH K (tCons ta tr) Γ (ma.bind fun a => mr.bind fun r => some (a :: r)) :=
  ea_eq (ea_cons h hr) (by cases ma <;> cases mr <;> rfl)
theorem size_small {n : Nat} (h : n ≤ 1000) : n ≤ sizeLine := Nat.le_trans h (by decide)
/-- a new tuple -/
theorem em_tupD {t : TA} {m : Option (List D)} (h : EvA K t Γ m) (hl : ∀ ds, m = some ds → ds.length ≤ 1000) (f : List D → Option γ) (hf : ∀ ds c, m = some ds → f ds = some c → enc c = D.tup ds) : EvM K (tTup t) Γ (m.bind f) := fun c e F0 B F σ H k Q q => by
  obtain ⟨ds, e1, e⟩ := Option.bind_eq_some_iff.mp e
  refine h ds e1 F0 B F σ H k _ fun vs F1 H1 x1 r1 => ⟨size_small (by rw [r1.len]; exact hl ds e1), fun p hp => ?_⟩
  have x2 := Ext.new (o := .tup vs) x1.fh hp
  refine q _ _ _ (x1.trans x2) ?_
  rw [hf ds c e1 e]
  exact .tup upd_same r1.len (r1.mono x2.ff).at_
theorem em_t2 (ha : EvM K ta Γ ma) (hb : EvM K tb Γ mb) : EvM K (tTup (tCons ta (tCons tb tNil))) Γ (ma.bind fun a => mb.bind fun b => some (a, b)) := fun c e => by
  obtain ⟨a, e1, e⟩ := Option.bind_eq_some_iff.mp e
  obtain ⟨b, e2, e⟩ := Option.bind_eq_some_iff.mp e
  cases e
  subst e1 e2
  exact em_tupD (ea_cons ha (ea_cons hb ea_nil)) (fun ds e => by cases e; show 2 ≤ 1000; decide) (fun _ => some (a, b)) (fun ds c e e' => by cases e; cases e'; rfl) (a, b) rfl
theorem em_t3 (ha : EvM K ta Γ ma) (hb : EvM K tb Γ mb) (hc : EvM K tc Γ mc) : EvM K (tTup (tCons ta (tCons tb (tCons tc tNil)))) Γ (ma.bind fun a => mb.bind fun b => mc.bind fun c => some (T3.mk a b c)) := fun c e => by
  obtain ⟨a, e1, e⟩ := Option.bind_eq_some_iff.mp e
  obtain ⟨b, e2, e⟩ := Option.bind_eq_some_iff.mp e
  obtain ⟨d, e3, e⟩ := Option.bind_eq_some_iff.mp e
  cases e
  subst e1 e2 e3
  exact em_tupD (ea_cons ha (ea_cons hb (ea_cons hc ea_nil))) (fun ds e => by cases e; show 3 ≤ 1000; decide) (fun _ => some (T3.mk a b d)) (fun ds c e e' => by cases e; cases e'; rfl) (T3.mk a b d) rfl
theorem em_t4 {td : TE} (ha : EvM K ta Γ ma) (hb : EvM K tb Γ mb) (hc : EvM K tc Γ mc) (hd : EvM K td Γ md) :
    EvM K (tTup (tCons ta (tCons tb (tCons tc (tCons td tNil))))) Γ (ma.bind fun a => mb.bind fun b => mc.bind fun c => md.bind fun d => some (T4.mk a b c d)) := fun c e => by
  obtain ⟨a, e1, e⟩ := Option.bind_eq_some_iff.mp e
  obtain ⟨b, e2, e⟩ := Option.bind_eq_some_iff.mp e
  obtain ⟨d, e3, e⟩ := Option.bind_eq_some_iff.mp e
  obtain ⟨d4, e4, e⟩ := Option.bind_eq_some_iff.mp e
  cases e
  subst e1 e2 e3 e4
  exact em_tupD (ea_cons ha (ea_cons hb (ea_cons hc (ea_cons hd ea_nil)))) (fun ds e => by cases e; show 4 ≤ 1000; decide) (fun _ => some (T4.mk a b d d4)) (fun ds c e e' => by cases e; cases e'; rfl) (T4.mk a b d d4) rfl
theorem em_tu {t : TA} {m : Option (List α)} (h : EvH K t Γ m) (hl : ∀ ds, m = some ds → ds.length ≤ 1000) : EvM K (tTup t) Γ (m.bind fun xs => some (Tu.mk xs)) := fun c e => by
  obtain ⟨a, e1, e⟩ := Option.bind_eq_some_iff.mp e
  cases e
  subst e1
  exact em_tupD h (fun ds e => by cases e; rw [List.length_map]; exact hl a rfl) (fun _ => some (Tu.mk a)) (fun ds c e e' => by cases e; cases e'; rfl) _ rfl
/-- a new list written out -/
theorem en_lst {t : TA} {m : Option (List α)} (h : EvH K t Γ m) (hl : ∀ xs, m = some xs → xs.length ≤ 1000) : EvN K (tLst t) Γ m := fun a e F0 B F σ H k Q q => by
  subst e
  refine h _ rfl F0 B F σ H k _ fun vs F1 H1 x1 r1 => ⟨size_small (by rw [r1.len, List.length_map]; exact hl a rfl), fun p hp => ?_⟩
  exact q p vs F1 _ (x1.trans (Ext.newOwn x1.fh hp)) (Evl.fresh_back x1.hh hp) (none_of x1.fh hp) upd_same r1
theorem en_nil : EvN K (tLst tNil) Γ (some ([] : List α)) := en_lst eh_nil (fun xs e => by cases e; exact Nat.zero_le _)
theorem en_eq {m m' : Option (List α)} (h : EvN K te Γ m) (e : m = m') : EvN K te Γ m' := e ▸ h
/-- a new list that stays -/
theorem em_of {m : Option (List α)} (h : EvN K te Γ m) : EvM K te Γ m := fun a e F0 B F σ H k Q q => h a e F0 B F σ H k Q fun p vs F1 H1 x1 hn hf hp r => by
  have x2 := x1.freeze hn hf hp
  exact q _ _ _ x2 (.lst upd_same r.len (r.mono (Ex.new hf)).at_)
theorem el_of {m : Option (List α)} (h : EvM K te Γ m) : EvL K te Γ m := fun a e F0 B F σ H k Q q => h a e F0 B F σ H k Q fun v F1 H1 x1 r => by
  obtain ⟨p, vs, rfl, h1, h2⟩ := r.lst_inv
  exact q p vs F1 H1 x1 (x1.fh _ _ h1) h2
theorem el_n {m : Option (List α)} (h : EvN K te Γ m) : EvL K te Γ m := fun a e F0 B F σ H k Q q => h a e F0 B F σ H k Q fun p vs F1 H1 x1 hn hf hp r => q p vs F1 H1 x1 hp r
theorem el_own {i : Nat} {xs : List α} (h : Γ[i]? = some (.o xs)) : EvL K (tVar i) Γ (some xs) := fun a e F0 B F σ H k Q q => by
  cases e
  obtain ⟨w, m, h1, h2, _⟩ := k.mod h
  obtain ⟨p, vs, rfl, rfl, h3, h4⟩ := h2
  exact ⟨_, h1, q p vs F H (Ext.refl k.fh) h3 h4⟩
theorem el_at {i : Nat} {p : Addr} {xs : List α} (h : Γ[i]? = some (.at_ p (xs.map enc))) : EvL K (tVar i) Γ (some xs) := fun a e F0 B F σ H k Q q => by
  cases e
  obtain ⟨w, m, h1, h2, _⟩ := k.mod h
  obtain ⟨vs, rfl, rfl, h3, h4⟩ := h2
  exact ⟨_, h1, q p vs F H (Ext.refl k.fh) h3 h4⟩
theorem em_len {m : Option (List α)} (h : EvL K ta Γ m) : EvM K (tCB (Evl.rLenS K) (tCons ta tNil)) Γ (m.bind fun xs => some (xs.length : Int)) := fun c e F0 B F σ H k Q q => by
  obtain ⟨xs, e1, e⟩ := Option.bind_eq_some_iff.mp e
  cases e
  refine h xs e1 F0 B F σ H k _ fun p vs F1 H1 x1 h1 r1 => ⟨p, vs, rfl, Or.inl (Evl.sq_of h1), ?_⟩
  have z : vs.length = xs.length := by rw [r1.len, List.length_map]
  rw [z]
  exact q _ F1 H1 x1 (.int _)
theorem em_lenS {m : Option Str} (h : EvM K ta Γ m) : EvM K (tCB (fun xs H Q => ∃ z, xs = [.str z] ∧ z.length ≤ sizeLine ∧ Q (.int z.length) H) (tCons ta tNil)) Γ (m.bind fun x => if x.length ≤ sizeLine then some (x.length : Int) else none) := fun c e F0 B F σ H k Q q => by
  obtain ⟨xs, e1, e⟩ := Option.bind_eq_some_iff.mp e
  split at e
  · cases e
    refine h xs e1 F0 B F σ H k _ fun v F1 H1 x1 r1 => ⟨xs, by rw [r1.str_inv], by assumption, q _ F1 H1 x1 (.int _)⟩
  · cases e
/-- xs[i] -/
theorem reps_at {F : Hp} {vs : List V} {xs : List α} (r : Reps K F vs (xs.map enc)) {i : Int} {a : α} (h : atI xs i = some a) : ∃ v, atI vs i = some v ∧ Rep K F v (enc a) := by
  unfold atI at h ⊢
  obtain ⟨j, e1, e2⟩ := Option.bind_eq_some_iff.mp h
  have z : vs.length = xs.length := by rw [r.len, List.length_map]
  rw [z, e1]
  have e3 : (xs.map enc)[j]? = some (enc a) := by rw [List.getElem?_map, e2]; rfl
  obtain ⟨v, e4, e5⟩ := r.get e3
  exact ⟨v, e4, e5⟩
theorem em_ixL {m : Option (List α)} {mi : Option Int} (h : EvL K ta Γ m) (hi : EvM K tb Γ mi) : EvM K (tOp (rIxL K) ta tb) Γ (m.bind fun xs => mi.bind fun i => atI xs i) := fun c e F0 B F σ H k Q q => by
  obtain ⟨xs, e1, e⟩ := Option.bind_eq_some_iff.mp e
  obtain ⟨i, e2, e⟩ := Option.bind_eq_some_iff.mp e
  refine h xs e1 F0 B F σ H k _ fun p vs F1 H1 x1 h1 r1 => ?_
  refine hi i e2 F0 B F1 σ H1 (k.ext x1) _ fun w F2 H2 x2 r2 => ?_
  obtain ⟨v, a1, a2⟩ := reps_at (r1.mono x2.ff) e
  exact ⟨p, vs, i, v, rfl, r2.int_inv, Evl.sq_of (x2.hh _ _ h1), a1, q v F2 H2 (x1.trans x2) a2⟩
/-- t[0], t[1], .. of a tuple -/
theorem em_prj {ds : α → List D} (hd : ∀ a, (enc a : D) = .tup (ds a)) {j : Nat} {g : α → β} (hj : ∀ a, (ds a)[j]? = some (enc (g a))) (h : EvM K ta Γ ma) (hi : EvM K tb Γ (some (j : Int))) : EvM K (tOp (rIxT K) ta tb) Γ (ma.bind fun a => some (g a)) := fun c e F0 B F σ H k Q q => by
  obtain ⟨a, e1, e⟩ := Option.bind_eq_some_iff.mp e
  cases e
  refine h a e1 F0 B F σ H k _ fun v F1 H1 x1 r1 => ?_
  rw [hd a] at r1
  obtain ⟨p, vs, rfl, h1, h2⟩ := Rep.tup_inv r1
  refine hi _ rfl F0 B F1 σ H1 (k.ext x1) _ fun w F2 H2 x2 r2 => ?_
  obtain ⟨u, a1, a2⟩ := (h2.mono x2.ff).get (hj a)
  exact ⟨p, vs, j, u, rfl, r2.int_inv, Evl.st_of (x2.hh _ _ (x1.fh _ _ h1)), atI_nat a1, q u F2 H2 (x1.trans x2) a2⟩
theorem em_fst {m : Option (α × β)} (h : EvM K ta Γ m) : EvM K (tOp (rIxT K) ta (tC (.int 0))) Γ (m.bind fun a => some a.1) := em_prj (j := 0) (ds := fun a : α × β => [enc a.1, enc a.2]) (fun _ => rfl) (fun _ => rfl) h em_int
theorem em_snd {m : Option (α × β)} (h : EvM K ta Γ m) : EvM K (tOp (rIxT K) ta (tC (.int 1))) Γ (m.bind fun a => some a.2) := em_prj (j := 1) (ds := fun a : α × β => [enc a.1, enc a.2]) (fun _ => rfl) (fun _ => rfl) h em_int
theorem em_3a {m : Option (T3 α β γ)} (h : EvM K ta Γ m) : EvM K (tOp (rIxT K) ta (tC (.int 0))) Γ (m.bind fun a => some a.a) := em_prj (j := 0) (ds := fun a : T3 α β γ => [enc a.a, enc a.b, enc a.c]) (fun _ => rfl) (fun _ => rfl) h em_int
theorem em_3b {m : Option (T3 α β γ)} (h : EvM K ta Γ m) : EvM K (tOp (rIxT K) ta (tC (.int 1))) Γ (m.bind fun a => some a.b) := em_prj (j := 1) (ds := fun a : T3 α β γ => [enc a.a, enc a.b, enc a.c]) (fun _ => rfl) (fun _ => rfl) h em_int
theorem em_3c {m : Option (T3 α β γ)} (h : EvM K ta Γ m) : EvM K (tOp (rIxT K) ta (tC (.int 2))) Γ (m.bind fun a => some a.c) := em_prj (j := 2) (ds := fun a : T3 α β γ => [enc a.a, enc a.b, enc a.c]) (fun _ => rfl) (fun _ => rfl) h em_int
theorem em_4a {m : Option (T4 α β γ δ)} (h : EvM K ta Γ m) : EvM K (tOp (rIxT K) ta (tC (.int 0))) Γ (m.bind fun a => some a.a) := em_prj (j := 0) (ds := fun a : T4 α β γ δ => [enc a.a, enc a.b, enc a.c, enc a.d]) (fun _ => rfl) (fun _ => rfl) h em_int
theorem em_4b {m : Option (T4 α β γ δ)} (h : EvM K ta Γ m) : EvM K (tOp (rIxT K) ta (tC (.int 1))) Γ (m.bind fun a => some a.b) := em_prj (j := 1) (ds := fun a : T4 α β γ δ => [enc a.a, enc a.b, enc a.c, enc a.d]) (fun _ => rfl) (fun _ => rfl) h em_int
theorem em_4c {m : Option (T4 α β γ δ)} (h : EvM K ta Γ m) : EvM K (tOp (rIxT K) ta (tC (.int 2))) Γ (m.bind fun a => some a.c) := em_prj (j := 2) (ds := fun a : T4 α β γ δ => [enc a.a, enc a.b, enc a.c, enc a.d]) (fun _ => rfl) (fun _ => rfl) h em_int
theorem em_4d {m : Option (T4 α β γ δ)} (h : EvM K ta Γ m) : EvM K (tOp (rIxT K) ta (tC (.int 3))) Γ (m.bind fun a => some a.d) := em_prj (j := 3) (ds := fun a : T4 α β γ δ => [enc a.a, enc a.b, enc a.c, enc a.d]) (fun _ => rfl) (fun _ => rfl) h em_int

/-- the script: its length, an item -/
theorem Rep.scr_inv {F : Hp} {v : V} {i : Scr} (h : Rep K F v (enc i)) : ∃ p, v = .ref p ∧ SqL K F p (i.ns.map V.int) := by
  cases h with
  | scr h => exact ⟨_, rfl, h⟩
theorem em_lenC {m : Option Scr} (h : EvM K ta Γ m) : EvM K (tCB (Evl.rLenS K) (tCons ta tNil)) Γ (m.bind fun xs => some (xs.ns.length : Int)) := fun c e F0 B F σ H k Q q => by
  obtain ⟨xs, e1, e⟩ := Option.bind_eq_some_iff.mp e
  cases e
  refine h xs e1 F0 B F σ H k _ fun v F1 H1 x1 r1 => ?_
  obtain ⟨p, rfl, h1⟩ := r1.scr_inv
  refine ⟨p, _, rfl, Or.inl (Evl.ex_l x1.fh h1), ?_⟩
  rw [List.length_map]
  exact q _ F1 H1 x1 (.int _)
theorem em_ixC {m : Option Scr} {mi : Option Int} (h : EvM K ta Γ m) (hi : EvM K tb Γ mi) : EvM K (tOp (rIxL K) ta tb) Γ (m.bind fun xs => mi.bind fun i => atI xs.ns i) := fun c e F0 B F σ H k Q q => by
  obtain ⟨xs, e1, e⟩ := Option.bind_eq_some_iff.mp e
  obtain ⟨i, e2, e⟩ := Option.bind_eq_some_iff.mp e
  refine h xs e1 F0 B F σ H k _ fun v F1 H1 x1 r1 => ?_
  obtain ⟨p, rfl, h1⟩ := r1.scr_inv
  refine hi i e2 F0 B F1 σ H1 (k.ext x1) _ fun w F2 H2 x2 r2 => ?_
  have a1 : atI (xs.ns.map V.int) i = some (.int c) := by
    unfold atI at e ⊢
    obtain ⟨j, e3, e4⟩ := Option.bind_eq_some_iff.mp e
    rw [List.length_map, e3]
    show (xs.ns.map V.int)[j]? = _
    rw [List.getElem?_map, e4]
    rfl
  exact ⟨p, _, i, _, rfl, r2.int_inv, Evl.ex_l (x1.fh.trans x2.hh) h1, a1, q _ F2 H2 (x1.trans x2) (.int c)⟩

/-! ### calls of defs -/
/-- the promise of a def whose arguments stay -/
def spM {γ : Type} [Enc γ] (K : PySem.W.Frag) (n : Nat) (P : List D → Option γ → Prop) : Sp := fun vs H Q _ =>
  ∃ (ds : List D) (m : Option γ) (c : γ) (F : Hp), ds.length = n ∧ Ex F H ∧ Reps K F vs ds ∧ P ds m ∧ m = some c ∧ ∀ v F' H', Ext F H F' H' → Rep K F' v (enc c) → Q v H'
def sp1 (K : PySem.W.Frag) (f : α → Option γ) : Sp := spM K 1 fun ds m => ∃ a, ds = [enc a] ∧ m = f a
def sp2 (K : PySem.W.Frag) (f : α → β → Option γ) : Sp := spM K 2 fun ds m => ∃ a b, ds = [enc a, enc b] ∧ m = f a b
def sp3 (K : PySem.W.Frag) (f : α → β → γ → Option δ) : Sp := spM K 3 fun ds m => ∃ a b c, ds = [enc a, enc b, enc c] ∧ m = f a b c
def sp4 {ε : Type} [Enc ε] (K : PySem.W.Frag) (f : α → β → γ → δ → Option ε) : Sp := spM K 4 fun ds m => ∃ a b c d, ds = [enc a, enc b, enc c, enc d] ∧ m = f a b c d
def sp5 {ε ζ : Type} [Enc ε] [Enc ζ] (K : PySem.W.Frag) (f : α → β → γ → δ → ε → Option ζ) : Sp := spM K 5 fun ds m => ∃ a b c d e, ds = [enc a, enc b, enc c, enc d, enc e] ∧ m = f a b c d e
def sp6 {ε ζ η : Type} [Enc ε] [Enc ζ] [Enc η] (K : PySem.W.Frag) (f : α → β → γ → δ → ε → ζ → Option η) : Sp := spM K 6 fun ds m => ∃ a b c d e z, ds = [enc a, enc b, enc c, enc d, enc e, enc z] ∧ m = f a b c d e z
theorem em_call {E : XK} {n : Nat} {P : List D → Option γ → Prop} {t : TA} {m : Option (List D)} (h : EvA K t Γ m) (f : List D → Option γ) (hf : ∀ ds, m = some ds → ds.length = n ∧ P ds (f ds)) : EvM K (tCall (spM K n P) [] E t) Γ (m.bind f) := fun c e F0 B F σ H k Q q => by
  obtain ⟨ds, e1, e⟩ := Option.bind_eq_some_iff.mp e
  refine h ds e1 F0 B F σ H k _ fun vs F1 H1 x1 r1 => ?_
  refine ⟨ds, f ds, c, F1, (hf ds e1).1, x1.fh, by rw [List.append_nil]; exact r1, (hf ds e1).2, e, fun v F2 H2 x2 r2 => q v F2 H2 (x1.trans x2) r2⟩
theorem em_c1 {E : XK} {f : α → Option γ} (ha : EvM K ta Γ ma) : EvM K (tCall (sp1 K f) [] E (tCons ta tNil)) Γ (ma.bind fun a => f a) := fun c e => by
  obtain ⟨a, e1, e⟩ := Option.bind_eq_some_iff.mp e
  subst e1
  exact em_call (ea_cons ha ea_nil) (fun _ => f a) (fun ds e => by cases e; exact ⟨rfl, a, rfl, rfl⟩) c e
theorem em_c2 {E : XK} {f : α → β → Option γ} (ha : EvM K ta Γ ma) (hb : EvM K tb Γ mb) : EvM K (tCall (sp2 K f) [] E (tCons ta (tCons tb tNil))) Γ (ma.bind fun a => mb.bind fun b => f a b) := fun c e => by
  obtain ⟨a, e1, e⟩ := Option.bind_eq_some_iff.mp e
  obtain ⟨b, e2, e⟩ := Option.bind_eq_some_iff.mp e
  subst e1 e2
  exact em_call (ea_cons ha (ea_cons hb ea_nil)) (fun _ => f a b) (fun ds e => by cases e; exact ⟨rfl, a, b, rfl, rfl⟩) c e
theorem em_c3 {E : XK} {f : α → β → γ → Option δ} (ha : EvM K ta Γ ma) (hb : EvM K tb Γ mb) (hc : EvM K tc Γ mc) : EvM K (tCall (sp3 K f) [] E (tCons ta (tCons tb (tCons tc tNil)))) Γ (ma.bind fun a => mb.bind fun b => mc.bind fun c => f a b c) := fun c e => by
  obtain ⟨a, e1, e⟩ := Option.bind_eq_some_iff.mp e
  obtain ⟨b, e2, e⟩ := Option.bind_eq_some_iff.mp e
  obtain ⟨d, e3, e⟩ := Option.bind_eq_some_iff.mp e
  subst e1 e2 e3
  exact em_call (ea_cons ha (ea_cons hb (ea_cons hc ea_nil))) (fun _ => f a b d) (fun ds e => by cases e; exact ⟨rfl, a, b, d, rfl, rfl⟩) c e
variable {ε ζ η : Type} [Enc ε] [Enc ζ] [Enc η] {td te' tf : TE} {me : Option ε} {mf : Option ζ}
theorem em_c4 {E : XK} {f : α → β → γ → δ → Option ε} (ha : EvM K ta Γ ma) (hb : EvM K tb Γ mb) (hc : EvM K tc Γ mc) (hd : EvM K td Γ md) :
    EvM K (tCall (sp4 K f) [] E (tCons ta (tCons tb (tCons tc (tCons td tNil))))) Γ (ma.bind fun a => mb.bind fun b => mc.bind fun c => md.bind fun d => f a b c d) := fun c e => by
  obtain ⟨a, e1, e⟩ := Option.bind_eq_some_iff.mp e
  obtain ⟨b, e2, e⟩ := Option.bind_eq_some_iff.mp e
  obtain ⟨d, e3, e⟩ := Option.bind_eq_some_iff.mp e
  obtain ⟨x, e4, e⟩ := Option.bind_eq_some_iff.mp e
  subst e1 e2 e3 e4
  exact em_call (ea_cons ha (ea_cons hb (ea_cons hc (ea_cons hd ea_nil)))) (fun _ => f a b d x) (fun ds e => by cases e; exact ⟨rfl, a, b, d, x, rfl, rfl⟩) c e
theorem em_c5 {E : XK} {f : α → β → γ → δ → ε → Option ζ} (ha : EvM K ta Γ ma) (hb : EvM K tb Γ mb) (hc : EvM K tc Γ mc) (hd : EvM K td Γ md) (he : EvM K te' Γ me) :
    EvM K (tCall (sp5 K f) [] E (tCons ta (tCons tb (tCons tc (tCons td (tCons te' tNil)))))) Γ (ma.bind fun a => mb.bind fun b => mc.bind fun c => md.bind fun d => me.bind fun e => f a b c d e) := fun c e => by
  obtain ⟨a, e1, e⟩ := Option.bind_eq_some_iff.mp e
  obtain ⟨b, e2, e⟩ := Option.bind_eq_some_iff.mp e
  obtain ⟨d, e3, e⟩ := Option.bind_eq_some_iff.mp e
  obtain ⟨x, e4, e⟩ := Option.bind_eq_some_iff.mp e
  obtain ⟨y, e5, e⟩ := Option.bind_eq_some_iff.mp e
  subst e1 e2 e3 e4 e5
  exact em_call (ea_cons ha (ea_cons hb (ea_cons hc (ea_cons hd (ea_cons he ea_nil))))) (fun _ => f a b d x y) (fun ds e => by cases e; exact ⟨rfl, a, b, d, x, y, rfl, rfl⟩) c e
theorem em_c6 {E : XK} {f : α → β → γ → δ → ε → ζ → Option η} (ha : EvM K ta Γ ma) (hb : EvM K tb Γ mb) (hc : EvM K tc Γ mc) (hd : EvM K td Γ md) (he : EvM K te' Γ me) (hf : EvM K tf Γ mf) :
    EvM K (tCall (sp6 K f) [] E (tCons ta (tCons tb (tCons tc (tCons td (tCons te' (tCons tf tNil))))))) Γ (ma.bind fun a => mb.bind fun b => mc.bind fun c => md.bind fun d => me.bind fun e => mf.bind fun z => f a b c d e z) := fun c e => by
  obtain ⟨a, e1, e⟩ := Option.bind_eq_some_iff.mp e
  obtain ⟨b, e2, e⟩ := Option.bind_eq_some_iff.mp e
  obtain ⟨d, e3, e⟩ := Option.bind_eq_some_iff.mp e
  obtain ⟨x, e4, e⟩ := Option.bind_eq_some_iff.mp e
  obtain ⟨y, e5, e⟩ := Option.bind_eq_some_iff.mp e
  obtain ⟨z, e6, e⟩ := Option.bind_eq_some_iff.mp e
  subst e1 e2 e3 e4 e5 e6
  exact em_call (ea_cons ha (ea_cons hb (ea_cons hc (ea_cons hd (ea_cons he (ea_cons hf ea_nil)))))) (fun _ => f a b d x y z) (fun ds e => by cases e; exact ⟨rfl, a, b, d, x, y, z, rfl, rfl⟩) c e
end
end M
/-! M3: statements, loops, comprehensions, defs -/
namespace M
open PySem L2
open Evl (Ex)
open Enc (enc)

abbrev Hdl (T : Type) := T → Hp → Hp → Ends → Prop
def BM {T : Type} (K : PySem.W.Frag) (t : TS) (Γ : List Sl) (m : Option T) (hd : Hdl T) : Prop :=
  ∀ o, m = some o → ∀ (F0 B F : Hp) (σ : L2.St) (H : Hp) (D : Ends), Ok K F0 B F Γ σ H → hd o F0 B D → t D σ H
/-- the block runs through -/
def hdA {A : Type} (K : PySem.W.Frag) (G : A → List Sl) : Hdl A := fun a F0 B D => ∀ F σ H, Ok K F0 B F (G a) σ H → D.nx σ H
/-- a value is handed back -/
def hdF {R : Type} [Enc R] (K : PySem.W.Frag) : Hdl R := fun r F0 B D => ∀ v F H, OkH F0 B F H → Rep K F v (enc r) → D.rt v H
/-- nothing is handed back: the block's end is the def's -/
def hdU : Hdl Unit := fun _ F0 B D => ∀ F σ H, OkH F0 B F H → D.nx σ H ∧ D.rt .non H
/-- a loop's turn: on to the next one -/
def hdC {S : Type} (K : PySem.W.Frag) (G : S → List Sl) : Hdl S := fun s F0 B D => ∀ F σ H, Ok K F0 B F (G s) σ H → D.ct σ H
def hdCN {S : Type} (K : PySem.W.Frag) (G : S → List Sl) : Hdl S := fun s F0 B D => ∀ F σ H, Ok K F0 B F (G s) σ H → D.nx σ H ∧ D.ct σ H
/-- .. on, out, or back -/
inductive Stp (S R : Type) where
  | go (s : S) | bk (s : S) | rt (r : R)
inductive Lo (S R : Type) where
  | dn (s : S) | rt (r : R)
def hdS {S R : Type} (K : PySem.W.Frag) (G : S → List Sl) (hr : Hdl R) : Hdl (Stp S R) := fun o F0 B D => match o with
  | .go s => ∀ F σ H, Ok K F0 B F (G s) σ H → D.ct σ H
  | .bk s => ∀ F σ H, Ok K F0 B F (G s) σ H → D.bk σ H
  | .rt r => hr r F0 B D
def hdSN {S R : Type} (K : PySem.W.Frag) (G : S → List Sl) (hr : Hdl R) : Hdl (Stp S R) := fun o F0 B D => match o with
  | .go s => ∀ F σ H, Ok K F0 B F (G s) σ H → D.nx σ H ∧ D.ct σ H
  | .bk s => ∀ F σ H, Ok K F0 B F (G s) σ H → D.bk σ H
  | .rt r => hr r F0 B D
/-- what a def hands back does not hang on what else the block may do -/
def RtOnly {R : Type} (hr : Hdl R) : Prop := ∀ r F0 B (D D' : Ends), D.rt = D'.rt → hr r F0 B D → hr r F0 B D'
theorem rt_F {R : Type} [Enc R] {K : PySem.W.Frag} : RtOnly (hdF (R := R) K) := fun r F0 B D D' e h v F H k x => by
  rw [← e]
  exact h v F H k x

section
variable {K : PySem.W.Frag} {Γ : List Sl} {α β γ δ : Type} [Enc α] [Enc β] [Enc γ] [Enc δ] {ta tb tc te : TE} {ma : Option α} {mb : Option β} {mc : Option γ} {T A S R : Type} {hd : Hdl T} {u w t : TS}

theorem bm_eq {m m' : Option T} (h : BM K t Γ m hd) (e : m = m') : BM K t Γ m' hd := e ▸ h
theorem bm_sub {Γ' : List Sl} {m : Option T} (s : Sub Γ Γ') (h : BM K t Γ' m hd) : BM K t Γ m hd := fun o e F0 B F σ H D k q => h o e F0 B F σ H D (k.sub s) q
/-- an own list becomes one that stays -/
theorem bm_frz {i : Nat} {xs : List α} {m : Option T} (hi : Γ[i]? = some (.o xs)) (h : BM K t (Γ.set i (.f xs)) m hd) : BM K t Γ m hd := fun o e F0 B F σ H D k q => by
  obtain ⟨F', x, k'⟩ := k.freeze hi
  exact h o e F0 B F' σ H D k' q
theorem bm_asg {i : Nat} {s : Sl} {k : α → Option T} (hi : Γ[i]? = some s) (h : EvM K te Γ ma) (hk : ∀ a, BM K u (Γ.set i (.f a)) (k a) hd) : BM K (tSeq (tAsg te (gName i)) u) Γ (ma.bind k) hd := fun o e F0 B F σ H D ok q => by
  obtain ⟨a, e1, e⟩ := Option.bind_eq_some_iff.mp e
  exact h a e1 F0 B F σ H ok _ fun v F1 H1 x1 r1 => hk a o e F0 B F1 _ H1 D ((ok.ext x1).fz hi r1) q
theorem bm_asgN {i : Nat} {s : Sl} {m : Option (List α)} {k : List α → Option T} (hi : Γ[i]? = some s) (h : EvN K te Γ m) (hk : ∀ a, BM K u (Γ.set i (.o a)) (k a) hd) : BM K (tSeq (tAsg te (gName i)) u) Γ (m.bind k) hd := fun o e F0 B F σ H D ok q => by
  obtain ⟨a, e1, e⟩ := Option.bind_eq_some_iff.mp e
  refine h a e1 F0 B F σ H ok _ fun p vs F1 H1 x1 hn hf hp r1 => hk a o e F0 B F1 _ H1 D (ok.newOwn x1 hi hn hf ⟨p, vs, rfl, rfl, hp, r1⟩) q
theorem bm_aug {i : Nat} {f : Int → Int → Int} {a : Int} {m : Option Int} {k : Int → Option T} (hi : Γ[i]? = some (.f a)) (h : EvM K te Γ m) (hk : ∀ b, BM K u (Γ.set i (.f b)) (k b) hd) : BM K (tSeq (tAug i te (ipI f)) u) Γ (m.bind fun b => k (f a b)) hd := fun o e F0 B F σ H D ok q => by
  obtain ⟨b, e1, e⟩ := Option.bind_eq_some_iff.mp e
  obtain ⟨v, h1, h2⟩ := ok.get hi
  refine ⟨v, h1, h b e1 F0 B F σ H ok _ fun w F1 H1 x1 r1 => ⟨a, b, h2.int_inv, r1.int_inv, ?_⟩⟩
  exact hk _ o e F0 B F1 _ H1 D ((ok.ext x1).fz hi (.int _)) q
theorem bm_drop {k : α → Option T} (h : EvM K te Γ ma) (hk : ∀ a, BM K u Γ (k a) hd) : BM K (tSeq (tDrop te) u) Γ (ma.bind k) hd := fun o e F0 B F σ H D ok q => by
  obtain ⟨a, e1, e⟩ := Option.bind_eq_some_iff.mp e
  exact h a e1 F0 B F σ H ok _ fun v F1 H1 x1 r1 => hk a o e F0 B F1 _ H1 D (ok.ext x1) q
theorem bm_skip {m : Option T} (hk : BM K u Γ m hd) : BM K (tSeq tNext u) Γ m hd := fun o e F0 B F σ H D ok q => hk o e F0 B F σ H D ok q
theorem bm_ret (h : EvM K te Γ ma) : BM K (tRet te) Γ ma (hdF K) := fun o e F0 B F σ H D ok q =>
  h o e F0 B F σ H ok _ fun v F1 H1 x1 r1 => q v F1 H1 (ok.ext x1).h r1
theorem bm_retN : BM K tRetN Γ (some ()) hdU := fun o e F0 B F σ H D ok q => (q F σ H ok.h).2
theorem bm_end : BM K tNext Γ (some ()) hdU := fun o e F0 B F σ H D ok q => (q F σ H ok.h).1
theorem bm_nx {G : A → List Sl} {a : A} (h : Sub Γ (G a)) : BM K tNext Γ (some a) (hdA K G) := fun o e F0 B F σ H D ok q => by
  cases e
  exact q F σ H (ok.sub h)
theorem bm_nxC {G : A → List Sl} {a : A} (h : Sub Γ (G a)) : BM K tNext Γ (some a) (hdCN K G) := fun o e F0 B F σ H D ok q => by
  cases e
  exact (q F σ H (ok.sub h)).1
theorem bm_ct {G : A → List Sl} {a : A} (h : Sub Γ (G a)) : BM K tCont Γ (some a) (hdC K G) := fun o e F0 B F σ H D ok q => by
  cases e
  exact q F σ H (ok.sub h)
theorem bm_nxS {G : S → List Sl} {hr : Hdl R} {a : S} (h : Sub Γ (G a)) : BM K tNext Γ (some (.go a)) (hdSN K G hr) := fun o e F0 B F σ H D ok q => by
  cases e
  exact (q F σ H (ok.sub h)).1
theorem bm_ctS {G : S → List Sl} {hr : Hdl R} {a : S} (h : Sub Γ (G a)) : BM K tCont Γ (some (.go a)) (hdS K G hr) := fun o e F0 B F σ H D ok q => by
  cases e
  exact q F σ H (ok.sub h)
theorem bm_bkS {G : S → List Sl} {hr : Hdl R} {a : S} (h : Sub Γ (G a)) : BM K tBreak Γ (some (.bk a)) (hdS K G hr) := fun o e F0 B F σ H D ok q => by
  cases e
  exact q F σ H (ok.sub h)
theorem bm_retS {G : S → List Sl} {hr : Hdl α} (h : BM K t Γ ma hr) : BM K t Γ (ma.map .rt) (hdS K G hr) := fun o e F0 B F σ H D ok q => by
  obtain ⟨a, e1, rfl⟩ := Option.map_eq_some_iff.mp e
  exact h a e1 F0 B F σ H D ok q
/-- both ways meet behind the if -/
theorem bm_if {c : TT} {m : Option Bool} {m1 m2 : Option A} {G : A → List Sl} {k : A → Option T} (hc : EvT K c Γ m) (h1 : BM K t Γ m1 (hdA K G)) (h2 : BM K u Γ m2 (hdA K G)) (hk : ∀ a, BM K w (G a) (k a) hd) :
    BM K (tSeq (tIfS c t u) w) Γ (m.bind fun b => (if b = true then m1 else m2).bind k) hd := fun o e F0 B F σ H D ok q => by
  obtain ⟨b, e1, e4⟩ := Option.bind_eq_some_iff.mp e
  obtain ⟨a, e2, e3⟩ := Option.bind_eq_some_iff.mp e4
  clear e e4
  refine hc b e1 F0 B F σ H ok _ fun F1 H1 x1 => ?_
  cases b with
  | true => exact h1 a e2 F0 B F1 σ H1 { D with nx := w D } (ok.ext x1) fun F2 σ2 H2 ok2 => hk a o e3 F0 B F2 σ2 H2 D ok2 q
  | false => exact h2 a e2 F0 B F1 σ H1 { D with nx := w D } (ok.ext x1) fun F2 σ2 H2 ok2 => hk a o e3 F0 B F2 σ2 H2 D ok2 q
/-- hd1 asks nothing of what lies behind -/
def Imp (hd hd1 : Hdl T) : Prop := ∀ o F0 B (D : Ends) (X : L2.St → Hp → Prop), hd o F0 B D → hd1 o F0 B { D with nx := X }
theorem imp_F {R : Type} [Enc R] : Imp (hdF (R := R) K) (hdF K) := fun _ _ _ _ _ h => h
theorem imp_U {h1 : Hdl Unit} (e : h1 = fun _ F0 B D => ∀ F H, OkH F0 B F H → D.rt .non H) : Imp hdU h1 := by
  subst e
  exact fun _ _ _ _ _ h F H k => (h F [] H k).2
theorem imp_C {G : S → List Sl} : Imp (hdCN K G) (hdC K G) := fun _ _ _ _ _ h F σ H k => (h F σ H k).2
theorem imp_CC {G : S → List Sl} : Imp (hdC K G) (hdC K G) := fun _ _ _ _ _ h F σ H k => h F σ H k
theorem imp_S {G : S → List Sl} {hr : Hdl R} (rt : RtOnly hr) : Imp (hdSN K G hr) (hdS K G hr) := fun o F0 B D X h => by
  cases o with
  | go s => exact fun F σ H k => (h F σ H k).2
  | bk s => exact h
  | rt r => exact rt r F0 B D _ rfl h
theorem imp_SS {G : S → List Sl} {hr : Hdl R} (rt : RtOnly hr) : Imp (hdS K G hr) (hdS K G hr) := fun o F0 B D X h => by
  cases o with
  | go s => exact h
  | bk s => exact h
  | rt r => exact rt r F0 B D _ rfl h
/-- the first way does not come behind the if -/
theorem bm_ifT {hd1 : Hdl T} {c : TT} {m : Option Bool} {m1 m2 : Option T} (im : Imp hd hd1) (hc : EvT K c Γ m) (h1 : BM K t Γ m1 hd1) (h2 : BM K w Γ m2 hd) :
    BM K (tSeq (tIfS c t tNext) w) Γ (m.bind fun b => if b = true then m1 else m2) hd := fun o e F0 B F σ H D ok q => by
  obtain ⟨b, e1, e⟩ := Option.bind_eq_some_iff.mp e
  refine hc b e1 F0 B F σ H ok _ fun F1 H1 x1 => ?_
  cases b with
  | true => exact h1 o e F0 B F1 σ H1 _ (ok.ext x1) (im o F0 B D _ q)
  | false => exact h2 o e F0 B F1 σ H1 D (ok.ext x1) q
/-- an if at the end -/
theorem bm_ifE {c : TT} {m : Option Bool} {m1 m2 : Option T} (hc : EvT K c Γ m) (h1 : BM K t Γ m1 hd) (h2 : BM K w Γ m2 hd) : BM K (tIfS c t w) Γ (m.bind fun b => if b = true then m1 else m2) hd := fun o e F0 B F σ H D ok q => by
  obtain ⟨b, e1, e⟩ := Option.bind_eq_some_iff.mp e
  refine hc b e1 F0 B F σ H ok _ fun F1 H1 x1 => ?_
  cases b with
  | true => exact h1 o e F0 B F1 σ H1 D (ok.ext x1) q
  | false => exact h2 o e F0 B F1 σ H1 D (ok.ext x1) q
/-- .. each way ends, with an else -/
theorem bm_ifTE {hd1 : Hdl T} {c : TT} {m : Option Bool} {m1 m2 : Option T} (im : Imp hd hd1) (hc : EvT K c Γ m) (h1 : BM K t Γ m1 hd1) (h2 : BM K u Γ m2 hd1) : BM K (tSeq (tIfS c t u) w) Γ (m.bind fun b => if b = true then m1 else m2) hd := fun o e F0 B F σ H D ok q => by
  obtain ⟨b, e1, e⟩ := Option.bind_eq_some_iff.mp e
  refine hc b e1 F0 B F σ H ok _ fun F1 H1 x1 => ?_
  cases b with
  | true => exact h1 o e F0 B F1 σ H1 _ (ok.ext x1) (im o F0 B D _ q)
  | false => exact h2 o e F0 B F1 σ H1 _ (ok.ext x1) (im o F0 B D _ q)

/-! ### what is walked -/
/-- the items come, whatever else changes (I: what stays true) -/
structure ItOk (K : PySem.W.Frag) (J : It) (I : Hp → Hp → Prop) (xs : List α) : Prop where
  stop : ∀ F H, I F H → J.stop xs.length H
  item : ∀ F H, I F H → Ex F H → ∀ i x, xs[i]? = some x → J.go i H ∧ ∀ v H2, J.yld i H v H2 → ∃ F2, Ext F H F2 H2 ∧ Rep K F2 v (enc x)
def Stay (F : Hp) : Hp → Hp → Prop := fun F1 H1 => Ex F F1 ∧ Ex F1 H1
def EvI (K : PySem.W.Frag) (wi : TI) (Γ : List Sl) (m : Option (List α)) : Prop :=
  ∀ a, m = some a → ∀ (F0 B F : Hp) (σ : L2.St) (H : Hp), Ok K F0 B F Γ σ H → ∀ R : It → Hp → Prop, (∀ J F' H', Ext F H F' H' → ItOk K J (Stay F') a → R J H') → wi σ H R
theorem itl_ok {p : Addr} {I : Hp → Hp → Prop} {xs : List α} (h : ∀ F H, I F H → ∃ vs, SqL K H p vs ∧ Reps K F vs (xs.map enc)) : ItOk K (Itl K p) I xs where
  stop := fun F H i => by
    obtain ⟨vs, h1, h2⟩ := h F H i
    exact ⟨vs, h1, by rw [h2.len, List.length_map]; exact Nat.le_refl _⟩
  item := fun F H i e j x hx => by
    obtain ⟨vs, h1, h2⟩ := h F H i
    obtain ⟨v, a1, a2⟩ := h2.get (i := j) (d := enc x) (by rw [List.getElem?_map, hx]; rfl)
    refine ⟨⟨vs, v, h1, a1⟩, fun u H2 y => ?_⟩
    obtain ⟨rfl, y⟩ := y
    have z := y vs h1
    rw [a1] at z
    cases z
    exact ⟨F, Ext.refl e, a2⟩
theorem ei_list {m : Option (List α)} (h : EvM K te Γ m) : EvI K (iList K te) Γ m := fun a e F0 B F σ H k R q => h a e F0 B F σ H k _ fun v F1 H1 x1 r => by
  obtain ⟨p, vs, rfl, h1, h2⟩ := r.lst_inv
  exact ⟨p, rfl, ⟨vs, Evl.sq_of (x1.fh _ _ h1)⟩, q _ F1 H1 x1 (itl_ok fun F2 H2 i => ⟨vs, Evl.sq_of ((i.1.trans i.2) _ _ h1), h2.mono i.1⟩)⟩
def rngL (a b : Int) : List Int := (List.range (b - a).toNat).map fun i => a + (i : Nat)
def In62 (a : Int) : Prop := -(2 ^ 62) ≤ a ∧ a < 2 ^ 62
instance : DecidablePred In62 := fun a => by unfold In62; infer_instance
def rngM (a b : Int) : Option (List Int) := if In62 a ∧ In62 b then some (rngL a b) else none
theorem itr_ok {lo : Int} {n : Nat} {I : Hp → Hp → Prop} : ItOk K (Itr lo n) I ((List.range n).map fun i => lo + (i : Nat)) where
  stop := fun F H i => by
    show n ≤ _
    simp
  item := fun F H i e j x hx => by
    obtain ⟨h1, h2⟩ := List.getElem?_eq_some_iff.mp hx
    simp at h1 h2
    refine ⟨h1, fun v H2 y => ?_⟩
    obtain ⟨rfl, rfl⟩ := y
    subst h2
    exact ⟨F, Ext.refl e, .int _⟩
theorem ei_rng1 {ma : Option Int} (h : EvM K ta Γ ma) : EvI K (iRng1 (tCons ta tNil)) Γ (ma.bind fun b => rngM 0 b) := fun a e F0 B F σ H k R q => by
  obtain ⟨b, e1, e⟩ := Option.bind_eq_some_iff.mp e
  unfold rngM at e
  split at e
  · rename_i hb
    cases e
    refine h b e1 F0 B F σ H k _ fun v F1 H1 x1 r1 => ⟨b, by rw [r1.int_inv], hb.2.1, hb.2.2, q _ F1 H1 x1 ?_⟩
    have z : (b - 0).toNat = b.toNat := by omega
    unfold rngL
    rw [z]
    exact itr_ok
  · cases e
theorem ei_rng2 {ma mb : Option Int} (h : EvM K ta Γ ma) (h' : EvM K tb Γ mb) : EvI K (iRng2 (tCons ta (tCons tb tNil))) Γ (ma.bind fun a => mb.bind fun b => rngM a b) := fun c e F0 B F σ H k R q => by
  obtain ⟨a, e1, e⟩ := Option.bind_eq_some_iff.mp e
  obtain ⟨b, e2, e⟩ := Option.bind_eq_some_iff.mp e
  unfold rngM at e
  split at e
  · rename_i hb
    cases e
    refine h a e1 F0 B F σ H k _ fun v F1 H1 x1 r1 => ?_
    refine h' b e2 F0 B F1 σ H1 (k.ext x1) _ fun w F2 H2 x2 r2 => ⟨a, b, by rw [r1.int_inv, r2.int_inv], ⟨hb.1.1, hb.1.2, hb.2.1, hb.2.2⟩, q _ F2 H2 (x1.trans x2) itr_ok⟩
  · cases e
/-- range(a, b, c), the step known -/
def rngC (a b c : Int) : List Int := (List.range (Builtin.Range.rangeSize a b c).toNat).map fun i => a + (i : Nat) * c
instance (a b c : Int) (n : Nat) : Decidable (RgC a b c n) := by unfold RgC; infer_instance
def rngCM (a b c : Int) : Option (List Int) := if RgC a b c (Builtin.Range.rangeSize a b c).toNat then some (rngC a b c) else none
theorem itc_ok {lo c : Int} {n : Nat} {I : Hp → Hp → Prop} : ItOk K (Itc lo c n) I ((List.range n).map fun i => lo + (i : Nat) * c) where
  stop := fun F H i => by
    show n ≤ _
    simp
  item := fun F H i e j x hx => by
    obtain ⟨h1, h2⟩ := List.getElem?_eq_some_iff.mp hx
    simp at h1 h2
    refine ⟨h1, fun v H2 y => ?_⟩
    obtain ⟨rfl, rfl⟩ := y
    subst h2
    exact ⟨F, Ext.refl e, .int _⟩
theorem ei_rng3 {ma mb mc : Option Int} (h : EvM K ta Γ ma) (h' : EvM K tb Γ mb) (h'' : EvM K tc Γ mc) : EvI K (iRng3 (tCons ta (tCons tb (tCons tc tNil)))) Γ (ma.bind fun a => mb.bind fun b => mc.bind fun c => rngCM a b c) := fun d e F0 B F σ H k R q => by
  obtain ⟨a, e1, e⟩ := Option.bind_eq_some_iff.mp e
  obtain ⟨b, e2, e⟩ := Option.bind_eq_some_iff.mp e
  obtain ⟨c, e3, e⟩ := Option.bind_eq_some_iff.mp e
  unfold rngCM at e
  split at e
  · rename_i hb
    cases e
    refine h a e1 F0 B F σ H k _ fun v F1 H1 x1 r1 => ?_
    refine h' b e2 F0 B F1 σ H1 (k.ext x1) _ fun w F2 H2 x2 r2 => ?_
    refine h'' c e3 F0 B F2 σ H2 (k.ext (x1.trans x2)) _ fun z F3 H3 x3 r3 => ⟨a, b, c, _, by rw [r1.int_inv, r2.int_inv, r3.int_inv], hb, q _ F3 H3 ((x1.trans x2).trans x3) itc_ok⟩
  · cases e
theorem its_ok {x : Str} {I : Hp → Hp → Prop} : ItOk K (Its x) I (x.cps.toList.map fun c => (⟨#[c]⟩ : Str)) where
  stop := fun F H i => by
    show x.cps.size ≤ _
    simp
  item := fun F H i e j y hx => by
    rw [List.getElem?_map] at hx
    obtain ⟨c, h1, rfl⟩ := Option.map_eq_some_iff.mp hx
    have h2 : x.cps[j]? = some c := by simpa using h1
    refine ⟨(Array.getElem?_eq_some_iff.mp h2).1, fun v H2 y => ?_⟩
    obtain ⟨rfl, d, h3, rfl⟩ := y
    rw [h2] at h3
    cases h3
    exact ⟨F, Ext.refl e, .str _⟩
theorem ei_str {m : Option Str} (h : EvM K te Γ m) : EvI K (iStr te) Γ (m.bind fun x => some (x.cps.toList.map fun c => (⟨#[c]⟩ : Str))) := fun a e F0 B F σ H k R q => by
  obtain ⟨x, e1, e⟩ := Option.bind_eq_some_iff.mp e
  cases e
  exact h x e1 F0 B F σ H k _ fun v F1 H1 x1 r1 => ⟨x, r1.str_inv, q _ F1 H1 x1 its_ok⟩
/-- targets -/
def TgM (K : PySem.W.Frag) (g : TG) (Γ : List Sl) (x : α) (Γ' : List Sl) : Prop :=
  ∀ (F0 B F : Hp) (σ : L2.St) (H : Hp) (v : V), Ok K F0 B F Γ σ H → Rep K F v (enc x) → ∀ Q : L2.St → Hp → Prop, (∀ σ', Ok K F0 B F Γ' σ' H → Q σ' H) → g v σ H Q
theorem tg_name {i : Nat} {s : Sl} {x : α} (hi : Γ[i]? = some s) : TgM K (gName i) Γ x (Γ.set i (.f x)) := fun F0 B F σ H v k r Q q => q _ (k.fz hi r)
theorem tg_t2 {i j : Nat} {s s' : Sl} {x : α × β} (hi : Γ[i]? = some s) (hj : (Γ.set i (.f x.1))[j]? = some s') : TgM K (gTup K 2 (gCons (gName i) (gCons (gName j) gNil))) Γ x ((Γ.set i (.f x.1)).set j (.f x.2)) := fun F0 B F σ H v k r Q q => by
  obtain ⟨p, vs, rfl, h1, h2⟩ := Rep.tup_inv r
  obtain ⟨v1, ws, rfl, r1, h3⟩ := h2.cons_inv
  obtain ⟨v2, ws, rfl, r2, h4⟩ := h3.cons_inv
  cases h4.nil_inv
  exact ⟨p, _, rfl, Evl.st_of (k.fh _ _ h1), rfl, v1, _, rfl, v2, _, rfl, rfl, q _ ((k.fz hi r1).fz hj r2)⟩
theorem tg_t3 {i j l : Nat} {s s' s'' : Sl} {x : T3 α β γ} (hi : Γ[i]? = some s) (hj : (Γ.set i (.f x.a))[j]? = some s') (hl : ((Γ.set i (.f x.a)).set j (.f x.b))[l]? = some s'') :
    TgM K (gTup K 3 (gCons (gName i) (gCons (gName j) (gCons (gName l) gNil)))) Γ x (((Γ.set i (.f x.a)).set j (.f x.b)).set l (.f x.c)) := fun F0 B F σ H v k r Q q => by
  obtain ⟨p, vs, rfl, h1, h2⟩ := Rep.tup_inv r
  obtain ⟨v1, ws, rfl, r1, h3⟩ := h2.cons_inv
  obtain ⟨v2, ws, rfl, r2, h4⟩ := h3.cons_inv
  obtain ⟨v3, ws, rfl, r3, h5⟩ := h4.cons_inv
  cases h5.nil_inv
  exact ⟨p, _, rfl, Evl.st_of (k.fh _ _ h1), rfl, v1, _, rfl, v2, _, rfl, v3, _, rfl, rfl, q _ (((k.fz hi r1).fz hj r2).fz hl r3)⟩
theorem bm_asgT {g : TG} {Γ' : α → List Sl} {k : α → Option T} (hg : ∀ x, TgM K g Γ x (Γ' x)) (h : EvM K te Γ ma) (hk : ∀ a, BM K u (Γ' a) (k a) hd) : BM K (tSeq (tAsg te g) u) Γ (ma.bind k) hd := fun o e F0 B F σ H D ok q => by
  obtain ⟨a, e1, e⟩ := Option.bind_eq_some_iff.mp e
  exact h a e1 F0 B F σ H ok _ fun v F1 H1 x1 r1 => hg a F0 B F1 σ H1 v (ok.ext x1) r1 _ fun σ' ok' => hk a o e F0 B F1 σ' H1 D ok' q

/-! ### for -/
theorem foldM_nil {f : S → α → Option S} {s : S} : [].foldlM f s = some s := rfl
theorem foldM_cons {f : S → α → Option S} {s : S} {x : α} {xs : List α} : (x :: xs).foldlM f s = (f s x).bind fun s' => xs.foldlM f s' := by
  rw [List.foldlM_cons]
  rfl
/-- the frame widened by what is known at the loop's start -/
theorem Ok.deep {F0 B F F1 : Hp} {Γ' : List Sl} {σ : L2.St} {H : Hp} (h1 : OkH F0 B F1 H) (k : Ok K F0 B F Γ' σ H) : True := trivial
/-- THE LOOP: a turn goes on, out or back -/
theorem for_core {g : TG} {tb : TS} {G : S → List Sl} {s0 : S} {Γx : S → α → List Sl} {f : S → α → Option (Stp S R)} {hr : Hdl R} (rt : RtOnly hr)
    {J : It} {I : Hp → Hp → Prop} {F0 B F1 : Hp} {D : Ends} {xs : List α} (it : ItOk K J I xs) (hI : ∀ s F2 σ2 H2, Ex F1 F2 → Ok K F0 B F2 (G s) σ2 H2 → I F2 H2)
    (hg : ∀ s x, TgM K g (G s) x (Γx s x)) (hb : ∀ s x, BM K tb (Γx s x) (f s x) (hdSN K G hr))
    {lo : Lo S R} {run : List α → S → Option (Lo S R)}
    (hrun0 : ∀ s, run [] s = some (.dn s)) (hrun : ∀ x xs s, run (x :: xs) s = match f s x with | none => none | some (.go s') => run xs s' | some (.bk s') => some (.dn s') | some (.rt r) => some (.rt r))
    (hl : run xs s0 = some lo) {σ : L2.St} {H : Hp} (ok0 : Ok K F0 B F1 (G s0) σ H)
    (hn : ∀ s, lo = .dn s → ∀ F σ H, Ok K F0 B F (G s) σ H → D.nx σ H) (hq : ∀ r, lo = .rt r → hr r F0 B D) :
    ∃ W : Nat → Nat → L2.St → Hp → Prop, (∃ m, W 0 m σ H) ∧ ∀ i m σ H, W i m σ H →
      (J.stop i H ∧ D.nx σ H) ∨ (J.go i H ∧ ∃ N : L2.St → Hp → Prop, (∀ σ' H', N σ' H' → ∃ m', m' < m ∧ W (i + 1) m' σ' H') ∧ ∀ x H', J.yld i H x H' → g x σ H' fun σ2 H2 => tb { D with nx := N, ct := N, bk := D.nx } σ2 H2) := by
  -- the state of a turn: what is left to run
  refine ⟨fun i m σ H => m = xs.length - i ∧ i ≤ xs.length ∧ ∃ s F2, Ex F1 F2 ∧ Ok K F0 B F2 (G s) σ H ∧ run (xs.drop i) s = some lo, ⟨xs.length, by simp, Nat.zero_le _, s0, F1, Ex.refl _, ok0, hl⟩, ?_⟩
  rintro i m σ2 H2 ⟨rfl, hi2, s, F2, e2, ok2, run2⟩
  by_cases hlt : i < xs.length
  · right
    have hx : xs[i]? = some xs[i] := List.getElem?_eq_getElem hlt
    have dr : xs.drop i = xs[i] :: xs.drop (i + 1) := List.drop_eq_getElem_cons hlt
    rw [dr, hrun] at run2
    obtain ⟨go, yl⟩ := it.item F2 H2 (hI s F2 σ2 H2 e2 ok2) ok2.fh i _ hx
    refine ⟨go, fun σ' H' => ∃ s F3, Ex F1 F3 ∧ Ok K F0 B F3 (G s) σ' H' ∧ run (xs.drop (i + 1)) s = some lo, fun σ' H' n => ⟨xs.length - (i + 1), by omega, rfl, hlt, n⟩, fun v H' y => ?_⟩
    obtain ⟨F3, x3, r3⟩ := yl v H' y
    have ok3 := ok2.ext x3
    have e3 : Ex F1 F3 := e2.trans x3.ff
    -- from now on what is known at the turn's start stays
    refine hg s xs[i] F3 (fun q => if (F3 q).isSome then F3 q else B q) F3 σ2 H' v ⟨Ex.refl _, ok3.fh, ?_, ?_, ?_⟩ r3 _ fun σ4 ok4 => ?_
    · intro q o e
      dsimp only at e
      split at e
      · exact ok3.fh q o e
      · exact ok3.bh q o e
    · intro q o e; rfl
    · obtain ⟨fp, a1, a2, a3⟩ := ok3.sl
      refine ⟨fp, a1, a2, fun p hp => ⟨(a3 p hp).1, ?_⟩⟩
      show (if (F3 p).isSome then F3 p else B p) = none
      rw [(a3 p hp).1]
      exact (a3 p hp).2
    have back : ∀ {F Γ σ H}, Ok K F3 (fun q => if (F3 q).isSome then F3 q else B q) F Γ σ H → Ok K F0 B F Γ σ H ∧ Ex F1 F := fun {F Γ σ H} k => by
      refine ⟨⟨ok3.f0.trans k.f0, k.fh, fun q o e => ?_, fun q o e => ?_, ?_⟩, e3.trans k.f0⟩
      · cases z : F3 q with
        | some u =>
          have y : (fun q => if (F3 q).isSome then F3 q else B q) q = some u := by
            show (if (F3 q).isSome then F3 q else B q) = some u
            rw [z]
            rfl
          have y2 := k.bh q u y
          have y3 := ok3.fh q u z
          have y4 := ok3.bh q o e
          rw [y3] at y4
          rw [y2]
          exact y4
        | none =>
          have y : (fun q => if (F3 q).isSome then F3 q else B q) q = some o := by
            show (if (F3 q).isSome then F3 q else B q) = some o
            rw [z]
            exact e
          exact k.bh q o y
      · cases z : F3 q with
        | some u =>
          rw [k.f0 q u z, ← ok3.nb q o e, z]
        | none =>
          have y : (fun q => if (F3 q).isSome then F3 q else B q) q = some o := by
            show (if (F3 q).isSome then F3 q else B q) = some o
            rw [z]
            exact e
          rw [k.nb q o y, ok3.nb q o e]
      · obtain ⟨fp, a1, a2, a3⟩ := k.sl
        refine ⟨fp, a1, a2, fun p hp => ⟨(a3 p hp).1, ?_⟩⟩
        have y := (a3 p hp).2
        have z : (if (F3 p).isSome then F3 p else B p) = none := y
        split at z
        · rename_i c
          rw [z] at c
          cases c
        · exact z
    cases ef : f s xs[i] with
    | none => rw [ef] at run2; cases run2
    | some o =>
      rw [ef] at run2
      have ok4' := (back ok4).1
      cases o with
      | go s' =>
        refine hb s xs[i] _ ef F3 _ F3 σ4 H' _ ok4 fun F σ H k => ?_
        obtain ⟨k1, k2⟩ := back k
        exact ⟨⟨s', F, k2, k1, run2⟩, ⟨s', F, k2, k1, run2⟩⟩
      | bk s' =>
        cases run2
        refine hb s xs[i] _ ef F0 B F3 σ4 H' _ ok4' fun F σ H k => hn s' rfl F σ H k
      | rt r =>
        cases run2
        exact hb s xs[i] _ ef F0 B F3 σ4 H' _ ok4' (rt r F0 B D _ rfl (hq r rfl))
  · left
    have e : i = xs.length := by omega
    subst e
    rw [List.drop_length, hrun0] at run2
    cases run2
    exact ⟨it.stop F2 H2 (hI s F2 σ2 H2 e2 ok2), hn s rfl F2 σ2 H2 ok2⟩
def loopM (f : S → α → Option (Stp S R)) : List α → S → Option (Lo S R)
  | [], s => some (.dn s)
  | x :: xs, s => match f s x with
    | none => none
    | some (.go s') => loopM f xs s'
    | some (.bk s') => some (.dn s')
    | some (.rt r) => some (.rt r)
/-- a loop whose turns may end it -/
theorem bm_forS {wi : TI} {g : TG} {tb : TS} {m : Option (List α)} {G : S → List Sl} {s0 : S} {Γx : S → α → List Sl} {f : S → α → Option (Stp S R)} {hr : Hdl R} {k : S → Option T} {ρ : R → T} (rt : RtOnly hr) (hρ : ∀ r F0 B D, hd (ρ r) F0 B D → hr r F0 B D)
    (hi : EvI K wi Γ m) (hs : Sub Γ (G s0)) (hg : ∀ s x, TgM K g (G s) x (Γx s x)) (hb : ∀ s x, BM K tb (Γx s x) (f s x) (hdSN K G hr)) (hk : ∀ s, BM K u (G s) (k s) hd) :
    BM K (tSeq (tFor wi g tb) u) Γ (m.bind fun xs => (loopM f xs s0).bind fun o => match o with | .dn s => k s | .rt r => some (ρ r)) hd := fun o e F0 B F σ H D ok q => by
  obtain ⟨xs, e1, e⟩ := Option.bind_eq_some_iff.mp e
  obtain ⟨lo, e2, e⟩ := Option.bind_eq_some_iff.mp e
  refine hi xs e1 F0 B F σ H ok _ fun J F1 H1 x1 it => ?_
  refine for_core (D := { D with nx := u D }) rt it (fun s F2 σ2 H2 e2 k2 => ⟨e2, k2.fh⟩) hg hb (run := loopM f) (fun _ => rfl) (fun x xs s => by rw [loopM]) e2 ((ok.ext x1).sub hs) (fun s es F σ H k2 => ?_) fun r er => ?_
  · subst es
    exact hk s o e F0 B F σ H D k2 q
  · subst er
    cases e
    exact rt r F0 B D _ rfl (hρ r F0 B D q)
theorem rt_none : RtOnly (R := Empty) (fun _ _ _ _ => True) := fun _ _ _ _ _ _ _ => trivial
/-- a loop that runs through (continue goes to the next turn) -/
theorem bm_for {wi : TI} {g : TG} {tb : TS} {m : Option (List α)} {G : S → List Sl} {s0 : S} {Γx : S → α → List Sl} {f : S → α → Option S} {k : S → Option T}
    (hi : EvI K wi Γ m) (hs : Sub Γ (G s0)) (hg : ∀ s x, TgM K g (G s) x (Γx s x)) (hb : ∀ s x, BM K tb (Γx s x) (f s x) (hdCN K G)) (hk : ∀ s, BM K u (G s) (k s) hd) :
    BM K (tSeq (tFor wi g tb) u) Γ (m.bind fun xs => (xs.foldlM f s0).bind k) hd := fun o e F0 B F σ H D ok q => by
  obtain ⟨xs, e1, e⟩ := Option.bind_eq_some_iff.mp e
  obtain ⟨s1, e2, e⟩ := Option.bind_eq_some_iff.mp e
  refine hi xs e1 F0 B F σ H ok _ fun J F1 H1 x1 it => ?_
  refine for_core (R := Empty) (D := { D with nx := u D }) (f := fun s x => (f s x).map Stp.go) (hr := fun _ _ _ _ => True) rt_none it (fun s F2 σ2 H2 e2 k2 => ⟨e2, k2.fh⟩) hg (fun s x o' e' F0 B F σ H D ok q => ?_) (run := fun xs s => (xs.foldlM f s).map Lo.dn) (fun s => rfl) (fun x xs s => ?_) (by rw [e2]; rfl) ((ok.ext x1).sub hs) (fun s es F σ H k2 => ?_) (fun r => r.elim)
  · obtain ⟨a, e3, rfl⟩ := Option.map_eq_some_iff.mp e'
    exact hb s x a e3 F0 B F σ H D ok q
  · rw [foldM_cons]
    cases f s x <;> rfl
  · cases es
    exact hk s1 o e F0 B F σ H D k2 q

/-- an own list is walked: it stands still meanwhile -/
theorem Ok.hold {F0 B F : Hp} {σ : L2.St} {H : Hp} {i : Nat} {ds : List D} (k : Ok K F0 B F Γ σ H) (hi : Γ[i]? = some (.own ds)) : ∃ p vs, σ[i]? = some (some (.ref p)) ∧ H p = some (.lst vs) ∧ Reps K F vs ds ∧ Ok K F0 B F (Γ.set i (.at_ p ds)) σ H := by
  obtain ⟨w, m, h1, h2, h3, nd, h4⟩ := k.mod hi
  obtain ⟨p, vs, rfl, rfl, e1, e2⟩ := h2
  have z := h4 F H (.at_ p ds) (some (.ref p)) [p] (Ex.refl F) k.fh (fun q o _ a => a) (fun q o _ nq => rfl) ⟨vs, rfl, rfl, e1, e2⟩ nd (fun p hp => .inl hp) fun p hp => (h3 p hp).1
  have e : σ.set i (some (.ref p)) = σ := by
    obtain ⟨hl, hv⟩ := List.getElem?_eq_some_iff.mp h1
    rw [← hv]
    exact List.set_getElem_self hl
  rw [e] at z
  exact ⟨p, vs, h1, e1, e2, z⟩
theorem Ok.unhold {F0 B F : Hp} {σ : L2.St} {H : Hp} {i : Nat} {p : Addr} {ds : List D} (k : Ok K F0 B F Γ σ H) (hi : Γ[i]? = some (.at_ p ds)) : Ok K F0 B F (Γ.set i (.own ds)) σ H := by
  obtain ⟨w, m, h1, h2, h3, nd, h4⟩ := k.mod hi
  obtain ⟨vs, rfl, rfl, e1, e2⟩ := h2
  have z := h4 F H (.own ds) (some (.ref p)) [p] (Ex.refl F) k.fh (fun q o _ a => a) (fun q o _ nq => rfl) ⟨p, vs, rfl, rfl, e1, e2⟩ nd (fun p hp => .inl hp) fun p hp => (h3 p hp).1
  have e : σ.set i (some (.ref p)) = σ := by
    obtain ⟨hl, hv⟩ := List.getElem?_eq_some_iff.mp h1
    rw [← hv]
    exact List.set_getElem_self hl
  rwa [e] at z
theorem bm_unat {i : Nat} {p : Addr} {xs : List α} {m : Option T} (hi : Γ[i]? = some (.at_ p (xs.map enc))) (h : BM K t (Γ.set i (.o xs)) m hd) : BM K t Γ m hd := fun o e F0 B F σ H D k q => h o e F0 B F σ H D (k.unhold hi) q
theorem held_ok {F0 B F : Hp} {σ : L2.St} {H : Hp} {i : Nat} {p : Addr} {xs : List α} (k : Ok K F0 B F Γ σ H) (hi : Γ[i]? = some (.at_ p (xs.map enc))) : ∃ vs, SqL K H p vs ∧ Reps K F vs (xs.map enc) := by
  obtain ⟨w, m, h1, h2, _⟩ := k.mod hi
  obtain ⟨vs, _, _, e1, e2⟩ := h2
  exact ⟨vs, Evl.sq_of e1, e2⟩
theorem bm_forO {l : Nat} {xs : List α} {g : TG} {tb : TS} {G : Addr → S → List Sl} {s0 : S} {Γx : Addr → S → α → List Sl} {f : S → α → Option S} {k : S → Option T}
    (hx : Γ[l]? = some (.o xs)) (hs : ∀ p, Sub (Γ.set l (.at_ p (xs.map enc))) (G p s0)) (hG : ∀ p s, (G p s)[l]? = some (.at_ p (xs.map enc)))
    (hg : ∀ p s x, TgM K g (G p s) x (Γx p s x)) (hb : ∀ p s x, BM K tb (Γx p s x) (f s x) (hdCN K (G p))) (hk : ∀ p s, BM K u (G p s) (k s) hd) :
    BM K (tSeq (tFor (iList K (tVar l)) g tb) u) Γ ((xs.foldlM f s0).bind k) hd := fun o e F0 B F σ H D ok q => by
  obtain ⟨s1, e2, e⟩ := Option.bind_eq_some_iff.mp e
  obtain ⟨p, vs, h1, h2, h3, ok1⟩ := ok.hold hx
  refine ⟨_, h1, p, rfl, ⟨vs, Evl.sq_of h2⟩, ?_⟩
  refine for_core (R := Empty) (F1 := F) (D := { D with nx := u D }) (G := G p) (f := fun s x => (f s x).map Stp.go) (hr := fun _ _ _ _ => True) (I := fun F H => ∃ vs, SqL K H p vs ∧ Reps K F vs (xs.map enc)) rt_none (itl_ok fun _ _ i => i) (fun s F2 σ2 H2 e2 k2 => held_ok k2 (hG p s)) (hg p) (fun s x o' e' F0 B F σ H D ok q => ?_) (run := fun xs s => (xs.foldlM f s).map Lo.dn) (fun s => rfl) (fun x xs s => ?_) (by rw [e2]; rfl) (ok1.sub (hs p)) (fun s es F σ H k2 => ?_) (fun r => r.elim)
  · obtain ⟨a, e3, rfl⟩ := Option.map_eq_some_iff.mp e'
    exact hb p s x a e3 F0 B F σ H D ok q
  · rw [foldM_cons]
    cases f s x <;> rfl
  · cases es
    exact hk p s1 o e F0 B F σ H D k2 q
theorem bm_forOS {l : Nat} {xs : List α} {g : TG} {tb : TS} {G : Addr → S → List Sl} {s0 : S} {Γx : Addr → S → α → List Sl} {f : S → α → Option (Stp S R)} {hr : Hdl R} {k : S → Option T} {ρ : R → T} (rt : RtOnly hr) (hρ : ∀ r F0 B D, hd (ρ r) F0 B D → hr r F0 B D)
    (hx : Γ[l]? = some (.o xs)) (hs : ∀ p, Sub (Γ.set l (.at_ p (xs.map enc))) (G p s0)) (hG : ∀ p s, (G p s)[l]? = some (.at_ p (xs.map enc)))
    (hg : ∀ p s x, TgM K g (G p s) x (Γx p s x)) (hb : ∀ p s x, BM K tb (Γx p s x) (f s x) (hdSN K (G p) hr)) (hk : ∀ p s, BM K u (G p s) (k s) hd) :
    BM K (tSeq (tFor (iList K (tVar l)) g tb) u) Γ ((loopM f xs s0).bind fun o => match o with | .dn s => k s | .rt r => some (ρ r)) hd := fun o e F0 B F σ H D ok q => by
  obtain ⟨lo, e2, e⟩ := Option.bind_eq_some_iff.mp e
  obtain ⟨p, vs, h1, h2, h3, ok1⟩ := ok.hold hx
  refine ⟨_, h1, p, rfl, ⟨vs, Evl.sq_of h2⟩, ?_⟩
  refine for_core (F1 := F) (D := { D with nx := u D }) (G := G p) (I := fun F H => ∃ vs, SqL K H p vs ∧ Reps K F vs (xs.map enc)) rt (itl_ok fun _ _ i => i) (fun s F2 σ2 H2 e2 k2 => held_ok k2 (hG p s)) (hg p) (hb p) (run := loopM f) (fun _ => rfl) (fun x xs s => by rw [loopM]) e2 (ok1.sub (hs p)) (fun s es F σ H k2 => ?_) fun r er => ?_
  · subst es
    exact hk p s o e F0 B F σ H D k2 q
  · subst er
    cases e
    exact rt r F0 B D _ rfl (hρ r F0 B D q)

/-! ### while -/
def wl (c : S → Option Bool) (f : S → Option (Stp S R)) : Nat → S → Option (Lo S R)
  | 0, _ => none
  | n + 1, s => (c s).bind fun b => if b = true then (match f s with
      | none => none
      | some (.go s') => wl c f n s'
      | some (.bk s') => some (.dn s')
      | some (.rt r) => some (.rt r)) else some (.dn s)
theorem wl_mono {c : S → Option Bool} {f : S → Option (Stp S R)} : ∀ {n m : Nat} {s : S} {r : Lo S R}, n ≤ m → wl c f n s = some r → wl c f m s = some r
  | 0, _, _, _, _, h => by cases h
  | n + 1, 0, _, _, h, _ => by omega
  | n + 1, m + 1, s, r, h, e => by
    rw [wl] at e ⊢
    obtain ⟨b, e1, e⟩ := Option.bind_eq_some_iff.mp e
    rw [e1]
    show (if b = true then _ else _) = _
    cases b with
    | false => exact e
    | true =>
      rw [if_pos rfl] at e ⊢
      cases ef : f s with
      | none => rw [ef] at e; cases e
      | some o =>
        rw [ef] at e
        cases o with
        | go s' => exact wl_mono (Nat.le_of_succ_le_succ h) e
        | bk s' => exact e
        | rt r => exact e
open Classical in
noncomputable def whileS (c : S → Option Bool) (f : S → Option (Stp S R)) (s : S) : Option (Lo S R) := if h : ∃ r n, wl c f n s = some r then some h.choose else none
theorem whileS_iff {c : S → Option Bool} {f : S → Option (Stp S R)} {s : S} {r : Lo S R} : whileS c f s = some r ↔ ∃ n, wl c f n s = some r := by
  unfold whileS
  constructor
  · intro h
    split at h
    · rename_i hx
      cases h
      exact hx.choose_spec
    · cases h
  · intro ⟨n, h⟩
    have hx : ∃ r n, wl c f n s = some r := ⟨r, n, h⟩
    rw [dif_pos hx]
    obtain ⟨n', h'⟩ := hx.choose_spec
    have a := wl_mono (Nat.le_max_left n n') h
    have b := wl_mono (Nat.le_max_right n n') h'
    rw [a] at b
    exact b.symm
theorem whileS_eq {c : S → Option Bool} {f : S → Option (Stp S R)} {s : S} : whileS c f s = (c s).bind fun b => if b = true then (match f s with
      | none => none
      | some (.go s') => whileS c f s'
      | some (.bk s') => some (.dn s')
      | some (.rt r) => some (.rt r)) else some (.dn s) := by
  apply Option.ext
  intro r
  rw [whileS_iff]
  constructor
  · rintro ⟨n, h⟩
    cases n with
    | zero => cases h
    | succ n =>
      rw [wl] at h
      obtain ⟨b, e1, e⟩ := Option.bind_eq_some_iff.mp h
      rw [e1]
      show (if b = true then _ else _) = _
      cases b with
      | false => exact e
      | true =>
        rw [if_pos rfl] at e ⊢
        cases ef : f s with
        | none => rw [ef] at e; cases e
        | some o =>
          rw [ef] at e
          cases o with
          | go s' => exact whileS_iff.mpr ⟨n, e⟩
          | bk s' => exact e
          | rt r => exact e
  · intro h
    obtain ⟨b, e1, e⟩ := Option.bind_eq_some_iff.mp h
    cases b with
    | false =>
      refine ⟨1, ?_⟩
      rw [wl, e1]
      exact e
    | true =>
      rw [if_pos rfl] at e
      cases ef : f s with
      | none => rw [ef] at e; cases e
      | some o =>
        rw [ef] at e
        cases o with
        | go s' =>
          obtain ⟨n, hn⟩ := whileS_iff.mp e
          refine ⟨n + 1, ?_⟩
          rw [wl, e1, Option.bind_some, if_pos rfl, ef]
          exact hn
        | bk s' =>
          refine ⟨1, ?_⟩
          rw [wl, e1, Option.bind_some, if_pos rfl, ef]
          exact e
        | rt r =>
          refine ⟨1, ?_⟩
          rw [wl, e1, Option.bind_some, if_pos rfl, ef]
          exact e
noncomputable def whileM (c : S → Option Bool) (f : S → Option S) (s : S) : Option S := (whileS (R := Empty) c (fun s => (f s).map .go) s).map fun o => match o with | .dn s => s | .rt r => r.elim
theorem whileM_eq {c : S → Option Bool} {f : S → Option S} {s : S} : whileM c f s = (c s).bind fun b => if b = true then (f s).bind (whileM c f) else some s := by
  unfold whileM
  rw [whileS_eq]
  cases c s with
  | none => rfl
  | some b =>
    cases b with
    | false => rfl
    | true => cases f s <;> rfl
theorem while_core {c : TT} {tb : TS} {G : S → List Sl} {s0 : S} {mc : S → Option Bool} {f : S → Option (Stp S R)} {hr : Hdl R} (rt : RtOnly hr) (hs : Sub Γ (G s0)) (hc : ∀ s, EvT K c (G s) (mc s)) (hb : ∀ s, BM K tb (G s) (f s) (hdSN K G hr))
    {lo : Lo S R} {n : Nat} (hl : wl mc f n s0 = some lo) {F0 B F : Hp} {σ : L2.St} {H : Hp} {D : Ends} (ok : Ok K F0 B F Γ σ H)
    (hn : ∀ s, lo = .dn s → ∀ F σ H, Ok K F0 B F (G s) σ H → D.nx σ H) (hq : ∀ r, lo = .rt r → hr r F0 B D) : tWhile c tb D σ H := by
  refine ⟨fun m σ H => ∃ s F2, Ok K F0 B F2 (G s) σ H ∧ wl mc f m s = some lo, ⟨n, s0, F, ok.sub hs, hl⟩, ?_⟩
  rintro m σ2 H2 ⟨s, F2, ok2, run2⟩
  cases m with
  | zero => cases run2
  | succ m =>
    rw [wl] at run2
    obtain ⟨b, e1, e⟩ := Option.bind_eq_some_iff.mp run2
    refine hc s b e1 F0 B F2 σ2 H2 ok2 _ fun F3 H3 x3 => ?_
    have ok3 := ok2.ext x3
    cases b with
    | false =>
      rw [if_neg Bool.false_ne_true] at e
      cases e
      exact hn s rfl F3 σ2 H3 ok3
    | true =>
      rw [if_pos rfl] at e
      refine ⟨fun σ' H' => ∃ s F3, Ok K F0 B F3 (G s) σ' H' ∧ wl mc f m s = some lo, fun σ' H' h => ⟨m, Nat.lt_succ_self _, h⟩, ?_⟩
      cases ef : f s with
      | none => rw [ef] at e; cases e
      | some o =>
        rw [ef] at e
        refine hb s _ ef F0 B F3 σ2 H3 _ ok3 ?_
        cases o with
        | go s' => exact fun F σ H k => ⟨⟨s', F, k, e⟩, ⟨s', F, k, e⟩⟩
        | bk s' =>
          cases e
          exact fun F σ H k => hn s' rfl F σ H k
        | rt r =>
          cases e
          exact rt r F0 B D _ rfl (hq r rfl)
theorem bm_whileS {c : TT} {tb : TS} {G : S → List Sl} {s0 : S} {mc : S → Option Bool} {f : S → Option (Stp S R)} {hr : Hdl R} {k : S → Option T} {ρ : R → T} (rt : RtOnly hr) (hρ : ∀ r F0 B D, hd (ρ r) F0 B D → hr r F0 B D)
    (hs : Sub Γ (G s0)) (hc : ∀ s, EvT K c (G s) (mc s)) (hb : ∀ s, BM K tb (G s) (f s) (hdSN K G hr)) (hk : ∀ s, BM K u (G s) (k s) hd) :
    BM K (tSeq (tWhile c tb) u) Γ ((whileS mc f s0).bind fun o => match o with | .dn s => k s | .rt r => some (ρ r)) hd := fun o e F0 B F σ H D ok q => by
  obtain ⟨lo, e2, e⟩ := Option.bind_eq_some_iff.mp e
  obtain ⟨n, e2⟩ := whileS_iff.mp e2
  refine while_core (D := { D with nx := u D }) rt hs hc hb e2 ok (fun s es F σ H k2 => ?_) fun r er => ?_
  · subst es
    exact hk s o e F0 B F σ H D k2 q
  · subst er
    cases e
    exact rt r F0 B D _ rfl (hρ r F0 B D q)
theorem bm_while {c : TT} {tb : TS} {G : S → List Sl} {s0 : S} {mc : S → Option Bool} {f : S → Option S} {k : S → Option T}
    (hs : Sub Γ (G s0)) (hc : ∀ s, EvT K c (G s) (mc s)) (hb : ∀ s, BM K tb (G s) (f s) (hdCN K G)) (hk : ∀ s, BM K u (G s) (k s) hd) :
    BM K (tSeq (tWhile c tb) u) Γ ((whileM mc f s0).bind k) hd := fun o e F0 B F σ H D ok q => by
  obtain ⟨s1, e2, e⟩ := Option.bind_eq_some_iff.mp e
  unfold whileM at e2
  obtain ⟨lo, e2, e3⟩ := Option.map_eq_some_iff.mp e2
  obtain ⟨n, e2⟩ := whileS_iff.mp e2
  refine while_core (R := Empty) (D := { D with nx := u D }) (f := fun s => (f s).map Stp.go) (hr := fun _ _ _ _ => True) rt_none hs hc (fun s o' e' F0 B F σ H D ok q => ?_) e2 ok (fun s es F σ H k2 => ?_) (fun r => r.elim)
  · obtain ⟨a, e4, rfl⟩ := Option.map_eq_some_iff.mp e'
    exact hb s a e4 F0 B F σ H D ok q
  · subst es
    cases e3
    exact hk s o e F0 B F σ H D k2 q
end
end M
/-! M4: comprehensions, changes of own lists and dicts, == and in, slices, defs -/
namespace M
open PySem L2
open Evl (Ex)
open Enc (enc)

section
variable {K : PySem.W.Frag} {Γ : List Sl} {α β γ δ : Type} [Enc α] [Enc β] [Enc γ] [Enc δ] {ta tb tc te : TE} {ma : Option α} {mb : Option β} {mc : Option γ} {T A S R : Type} {hd : Hdl T} {u w t : TS}

/-! ### comprehensions -/
def wipeG (Γ : List Sl) : List Nat → List Sl
  | [] => Γ
  | v :: vs => (wipeG Γ vs).set v .no
theorem Ok.wipe1 {F0 B F : Hp} {σ : L2.St} {H : Hp} (k : Ok K F0 B F Γ σ H) (v : Nat) : Ok K F0 B F (Γ.set v .no) (σ.set v none) H := by
  by_cases h : v < Γ.length
  · obtain ⟨w, m, h1, h2, h3, nd, h4⟩ := k.mod (i := v) (List.getElem?_eq_getElem h)
    exact h4 F H .no none [] (Ex.refl F) k.fh (fun q o _ a => a) (fun q o _ _ => rfl) rfl List.nodup_nil (fun p hp => by cases hp) fun p hp => by cases hp
  · have h : Γ.length ≤ v := Nat.le_of_not_lt h
    rw [List.set_eq_of_length_le h, List.set_eq_of_length_le (by rw [← k.len]; exact h)]
    exact k
theorem Ok.wipe {F0 B F : Hp} {σ : L2.St} {H : Hp} (k : Ok K F0 B F Γ σ H) : ∀ vs : List Nat, Ok K F0 B F (wipeG Γ vs) (L2.wipe σ vs) H
  | [] => k
  | v :: vs => (k.wipe vs).wipe1 v
theorem set_same_comm {σ : L2.St} {i j : Nat} {x y : Option V} : (((σ.set i x).set j y).set i none) = (σ.set j y).set i none := by
  by_cases h : i = j
  · subst h
    simp
  · rw [List.set_comm _ _ (Ne.symm h)]
    rw [List.set_comm (l := σ) _ _ (Ne.symm h)]
    simp
theorem wipe_set {σ : L2.St} {x : Option V} {j : Nat} : ∀ {vs : List Nat}, j ∈ vs → L2.wipe (σ.set j x) vs = L2.wipe σ vs
  | [], h => by cases h
  | v :: vs, h => by
    show (L2.wipe (σ.set j x) vs).set v none = (L2.wipe σ vs).set v none
    by_cases hv : j ∈ vs
    · rw [wipe_set hv]
    · have e : v = j := by
        rcases List.mem_cons.mp h with h | h
        · exact h.symm
        · exact absurd h hv
      subst e
      have : ∀ (ws : List Nat), v ∉ ws → (L2.wipe (σ.set v x) ws).set v none = (L2.wipe σ ws).set v none := by
        intro ws
        induction ws with
        | nil =>
          intro _
          show (σ.set v x).set v none = σ.set v none
          simp
        | cons a ws ih =>
          intro ha
          have h1 : v ≠ a := fun e => ha (by simp [e])
          have h2 : v ∉ ws := fun e => ha (List.mem_cons_of_mem _ e)
          show ((L2.wipe (σ.set v x) ws).set a none).set v none = ((L2.wipe σ ws).set a none).set v none
          rw [List.set_comm _ _ (Ne.symm h1), ih h2, List.set_comm _ _ (Ne.symm h1)]
      exact this vs hv
theorem wipe_idem {σ : L2.St} : ∀ vs : List Nat, L2.wipe (L2.wipe σ vs) vs = L2.wipe σ vs := by
  have key : ∀ (ws vs : List Nat), (∀ v ∈ ws, v ∈ vs) → L2.wipe (L2.wipe σ ws) vs = L2.wipe σ vs := by
    intro ws
    induction ws with
    | nil => intro vs _; rfl
    | cons a ws ih =>
      intro vs h
      show L2.wipe ((L2.wipe σ ws).set a none) vs = _
      rw [wipe_set (h a (by simp)), ih vs fun v hv => h v (List.mem_cons_of_mem _ hv)]
  exact fun vs => key vs vs fun v hv => hv
/-- the target's names are among vs -/
def TgW (g : TG) (vs : List Nat) : Prop := ∀ v σ H Q, g v (L2.wipe σ vs) H Q → g v (L2.wipe σ vs) H fun σ2 H2 => L2.wipe σ2 vs = L2.wipe σ vs ∧ Q σ2 H2
theorem tw_name {j : Nat} {vs : List Nat} (h : j ∈ vs) : TgW (gName j) vs := fun v σ H Q q => ⟨by rw [wipe_set h, wipe_idem], q⟩
theorem tw_t2 {i j : Nat} {vs : List Nat} (h : i ∈ vs) (h' : j ∈ vs) : TgW (gTup K 2 (gCons (gName i) (gCons (gName j) gNil))) vs := fun v σ H Q q => by
  obtain ⟨p, xs, e1, e2, e3, v1, r1, e4, v2, r2, e5, e6, q⟩ := q
  exact ⟨p, xs, e1, e2, e3, v1, r1, e4, v2, r2, e5, e6, by rw [wipe_set h', wipe_set h, wipe_idem], q⟩
theorem tw_t3 {i j l : Nat} {vs : List Nat} (h : i ∈ vs) (h' : j ∈ vs) (h'' : l ∈ vs) : TgW (gTup K 3 (gCons (gName i) (gCons (gName j) (gCons (gName l) gNil)))) vs := fun v σ H Q q => by
  obtain ⟨p, xs, e1, e2, e3, v1, r1, e4, v2, r2, e5, v3, r3, e7, e6, q⟩ := q
  exact ⟨p, xs, e1, e2, e3, v1, r1, e4, v2, r2, e5, v3, r3, e7, e6, by rw [wipe_set h'', wipe_set h', wipe_set h, wipe_idem], q⟩
def compM (c : α → Option Bool) (e : α → Option β) : List α → Option (List β)
  | [] => some []
  | x :: xs => (c x).bind fun b => if b = true then (e x).bind fun y => (compM c e xs).bind fun ys => some (y :: ys) else compM c e xs
def lcM (c : α → Option Bool) (e : α → Option β) (xs : List α) : Option (List β) := if xs.length < sizeLine then compM c e xs else none
theorem compM_len {c : α → Option Bool} {e : α → Option β} : ∀ {xs : List α} {ys : List β}, compM c e xs = some ys → ys.length ≤ xs.length
  | [], _, h => by cases h; exact Nat.le_refl _
  | x :: xs, ys, h => by
    rw [compM] at h
    obtain ⟨b, _, h⟩ := Option.bind_eq_some_iff.mp h
    split at h
    · obtain ⟨y, _, h⟩ := Option.bind_eq_some_iff.mp h
      obtain ⟨zs, h3, h⟩ := Option.bind_eq_some_iff.mp h
      cases h
      have := compM_len h3
      simp
      exact this
    · have := compM_len h
      simp
      omega
theorem en_lc {wi : TI} {g : TG} {tt : TT} {vs : List Nat} {m : Option (List α)} {Γx : α → List Sl} {c : α → Option Bool} {e : α → Option β}
    (hi : EvI K wi Γ m) (hg : ∀ x, TgM K g (wipeG Γ vs) x (Γx x)) (hw : TgW g vs) (ht : ∀ x, EvT K tt (Γx x) (c x)) (he : ∀ x, EvM K te (Γx x) (e x)) : EvN K (tLc wi g tt te vs) Γ (m.bind fun xs => lcM c e xs) := fun out eo F0 B F σ H k Q q => by
  obtain ⟨xs, e1, eo⟩ := Option.bind_eq_some_iff.mp eo
  unfold lcM at eo
  split at eo
  case isFalse => cases eo
  rename_i hlen
  refine hi xs e1 F0 B F σ H k _ fun J F1 H1 x1 it Dl hD => ?_
  refine ⟨fun i m H2 => m = xs.length - i ∧ i ≤ xs.length ∧ ∃ F2 acc dn rest, Ext F1 H1 F2 H2 ∧ F2 Dl = none ∧ H2 Dl = some (.lst acc) ∧ Reps K F2 acc (dn.map enc) ∧ acc.length ≤ i ∧ compM c e (xs.drop i) = some rest ∧ dn ++ rest = out,
    ⟨xs.length, by simp, Nat.zero_le _, F1, [], [], out, Ext.newOwn x1.fh hD, none_of x1.fh hD, upd_same, .nil, Nat.zero_le _, by simpa using eo, rfl⟩, ?_⟩
  rintro i m H2 ⟨rfl, hi2, F2, acc, dn, rest, x2, f2, h2, r2, l2, e2, o2⟩
  by_cases hlt : i < xs.length
  · right
    have hx : xs[i]? = some xs[i] := List.getElem?_eq_getElem hlt
    rw [List.drop_eq_getElem_cons hlt, compM] at e2
    obtain ⟨b, e3, e4⟩ := Option.bind_eq_some_iff.mp e2
    obtain ⟨go, yl⟩ := it.item F2 H2 ⟨x2.ff, x2.fh⟩ x2.fh i _ hx
    refine ⟨go, fun H' => ∃ F2 acc dn rest, Ext F1 H1 F2 H' ∧ F2 Dl = none ∧ H' Dl = some (.lst acc) ∧ Reps K F2 acc (dn.map enc) ∧ acc.length ≤ i + 1 ∧ compM c e (xs.drop (i + 1)) = some rest ∧ dn ++ rest = out, fun H' n => ⟨xs.length - (i + 1), by omega, rfl, hlt, n⟩, fun v H' y => ?_⟩
    obtain ⟨F3, x3, r3⟩ := yl v H' y
    have x13 := x2.trans x3
    have k3 := (k.ext (x1.trans x13)).wipe vs
    have h3 : H' Dl = some (.lst acc) := x3.hh _ _ h2
    have f3 : F3 Dl = none := (x3.old _ _ h2).trans f2
    refine hw v σ H' _ (hg xs[i] F0 B F3 _ H' v k3 r3 _ fun σ4 k4 => ?_)
    refine ht xs[i] b e3 F0 B F3 σ4 H' k4 _ fun F5 H5 x5 => ?_
    have x15 := x13.trans x5
    have f5 : F5 Dl = none := (x5.old _ _ h3).trans f3
    cases b with
    | false =>
      rw [if_neg Bool.false_ne_true] at e4
      show ∃ F2 acc dn rest, _
      exact ⟨F5, acc, dn, rest, x15, f5, x5.hh _ _ h3, r2.mono (x3.ff.trans x5.ff), by omega, e4, o2⟩
    | true =>
      rw [if_pos rfl] at e4
      obtain ⟨y, e5, e6⟩ := Option.bind_eq_some_iff.mp e4
      obtain ⟨ys, e7, e8⟩ := Option.bind_eq_some_iff.mp e6
      cases e8
      show te σ4 H5 _
      refine he xs[i] y e5 F0 B F5 σ4 H5 (k4.ext x5) _ fun u F6 H6 x6 r6 => ?_
      have h6 : H6 Dl = some (.lst acc) := x6.hh _ _ (x5.hh _ _ h3)
      have f6 : F6 Dl = none := (x6.old _ _ (x5.hh _ _ h3)).trans f5
      have x16 := x15.trans x6
      refine ⟨acc, h6, by omega, F6, acc ++ [u], dn ++ [y], ys, ⟨x16.ff, fun q o z => ?_, fun q o z => ?_, x16.old⟩, f6, upd_same, ?_, by simp; omega, e7, by simpa using o2⟩
      · rw [upd_ne (ne_of_none z hD)]
        exact x16.hh q o z
      · rw [upd_ne (ne_of_none z f6)]
        exact x6.fh q o z
      · rw [List.map_append]
        exact (r2.mono ((x3.ff.trans x5.ff).trans x6.ff)).append (.cons r6 .nil)
  · left
    have e5 : i = xs.length := by omega
    subst e5
    rw [List.drop_length] at e2
    cases e2
    rw [List.append_nil] at o2
    subst o2
    refine ⟨it.stop F2 H2 ⟨x2.ff, x2.fh⟩, q Dl acc F2 H2 (x1.trans x2) (Evl.fresh_back x1.hh hD) f2 h2 r2⟩
end
end M
/-! M5: changes of own lists and dicts, == and in, slices, sorts, defs -/
namespace M
open PySem L2
open Evl (Ex)
open Enc (enc)

/-- where an own list stands, and the slots when it changes -/
def Pl (K : PySem.W.Frag) (te : TE) (Γ : List Sl) (xs : List D) (G : List D → List Sl) : Prop :=
  ∀ (F0 B F : Hp) (σ : L2.St) (H : Hp), Ok K F0 B F Γ σ H → ∃ p vs, (∀ Q : VK, Q (.ref p) H → te σ H Q) ∧ H p = some (.lst vs) ∧ Reps K F vs xs ∧ F p = none ∧
    ∀ F' H' vs' xs', Ext F H F' H' → Reps K F' vs' xs' → Ok K F0 B F' (G xs') σ (upd H' p (.lst vs'))
/-- an own dict -/
def Pd (K : PySem.W.Frag) (te : TE) (Γ : List Sl) (xs : List (Key × D)) (G : List (Key × D) → List Sl) : Prop :=
  ∀ (F0 B F : Hp) (σ : L2.St) (H : Hp), Ok K F0 B F Γ σ H → ∃ p vs, (∀ Q : VK, Q (.ref p) H → te σ H Q) ∧ H p = some (.dK vs) ∧ KVs K F vs xs ∧ F p = none ∧
    ∀ F' H' vs' xs', Ext F H F' H' → KVs K F' vs' xs' → Ok K F0 B F' (G xs') σ (upd H' p (.dK vs'))

section
variable {K : PySem.W.Frag} {Γ : List Sl} {α β γ δ : Type} [Enc α] [Enc β] [Enc γ] [Enc δ] {ta tb tc te tp : TE} {ma : Option α} {mb : Option β} {mc : Option γ} {T A S R : Type} {hd : Hdl T} {u w t : TS}

theorem set_id {σ : L2.St} {i : Nat} {x : Option V} (h : σ[i]? = some x) : σ.set i x = σ := by
  obtain ⟨hl, hv⟩ := List.getElem?_eq_some_iff.mp h
  rw [← hv]
  exact List.set_getElem_self hl
theorem pl_var {i : Nat} {xs : List D} (h : Γ[i]? = some (.own xs)) : Pl K (tVar i) Γ xs (fun ys => Γ.set i (.own ys)) := fun F0 B F σ H k => by
  obtain ⟨w, m, h1, h2, h3, nd, h4⟩ := k.mod h
  obtain ⟨p, vs, rfl, rfl, e1, e2⟩ := h2
  have fp := (h3 p (by simp)).1
  refine ⟨p, vs, fun Q q => ⟨_, h1, q⟩, e1, e2, fp, fun F' H' vs' xs' x r => ?_⟩
  have f' : F' p = none := (x.old p _ e1).trans fp
  have z := h4 F' (upd H' p (.lst vs')) (.own xs') (some (.ref p)) [p] x.ff (fun q o e => by
    have ne : q ≠ p := fun y => by rw [y, f'] at e; cases e
    rw [upd_ne ne]
    exact x.fh q o e) (fun q o nq e => by
    have ne : q ≠ p := fun y => nq (by simp [y])
    rw [upd_ne ne]
    exact x.hh q o e) (fun q o e _ => x.old q o e) ⟨p, vs', rfl, rfl, upd_same, r⟩ nd (fun q hq => .inl hq) fun q hq => by rw [List.mem_singleton.mp hq]; exact f'
  rwa [set_id h1] at z
theorem pd_var {i : Nat} {xs : List (Key × D)} (h : Γ[i]? = some (.owd xs)) : Pd K (tVar i) Γ xs (fun ys => Γ.set i (.owd ys)) := fun F0 B F σ H k => by
  obtain ⟨w, m, h1, h2, h3, nd, h4⟩ := k.mod h
  obtain ⟨p, vs, rfl, rfl, e1, e2⟩ := h2
  have fp := (h3 p (by simp)).1
  refine ⟨p, vs, fun Q q => ⟨_, h1, q⟩, e1, e2, fp, fun F' H' vs' xs' x r => ?_⟩
  have f' : F' p = none := (x.old p _ e1).trans fp
  have z := h4 F' (upd H' p (.dK vs')) (.owd xs') (some (.ref p)) [p] x.ff (fun q o e => by
    have ne : q ≠ p := fun y => by rw [y, f'] at e; cases e
    rw [upd_ne ne]
    exact x.fh q o e) (fun q o nq e => by
    have ne : q ≠ p := fun y => nq (by simp [y])
    rw [upd_ne ne]
    exact x.hh q o e) (fun q o e _ => x.old q o e) ⟨p, vs', rfl, rfl, upd_same, r⟩ nd (fun q hq => .inl hq) fun q hq => by rw [List.mem_singleton.mp hq]; exact f'
  rwa [set_id h1] at z
/-- an own list, read -/
theorem el_pl {xs : List α} {G : List D → List Sl} (h : Pl K tp Γ (xs.map enc) G) : EvL K tp Γ (some xs) := fun a e F0 B F σ H k Q q => by
  cases e
  obtain ⟨p, vs, h1, h2, h3, _⟩ := h F0 B F σ H k
  exact h1 Q (q p vs F H (Ext.refl k.fh) h2 h3)

/-! ### changes of own lists -/
def apM (xs : List α) (a : α) : Option (List α) := if xs.length < sizeLine then some (xs ++ [a]) else none
theorem bm_app {xs : List α} {G : List D → List Sl} {k : List α → Option T} (hp : Pl K tp Γ (xs.map enc) G) (h : EvM K te Γ ma) (hk : ∀ ys : List α, BM K u (G (ys.map enc)) (k ys) hd) :
    BM K (tSeq (tDrop (tBM K "list" rAppend tp (tCons te tNil))) u) Γ (ma.bind fun a => (apM xs a).bind k) hd := fun o e F0 B F σ H D ok q => by
  obtain ⟨a, e1, e⟩ := Option.bind_eq_some_iff.mp e
  obtain ⟨ys, e2, e⟩ := Option.bind_eq_some_iff.mp e
  unfold apM at e2
  split at e2
  case isFalse => cases e2
  cases e2
  rename_i hl
  obtain ⟨p, vs, h1, h2, h3, h4, h5⟩ := hp F0 B F σ H ok
  refine h1 _ ⟨Or.inl ⟨rfl, _, Or.inl (Or.inl h2)⟩, ?_⟩
  refine h a e1 F0 B F σ H ok _ fun v F1 H1 x1 r1 => ⟨p, vs, v, rfl, rfl, x1.hh _ _ h2, by rw [h3.len, List.length_map]; exact hl, ?_⟩
  have z := h5 F1 H1 (vs ++ [v]) ((xs ++ [a]).map enc) x1 (by rw [List.map_append]; exact (h3.mono x1.ff).append (.cons r1 .nil))
  exact hk _ o e F0 B F1 σ _ D z q
def exM (xs ys : List α) : Option (List α) := if xs.length + ys.length ≤ sizeLine then some (xs ++ ys) else none
theorem bm_extd {xs : List α} {m : Option (List α)} {G : List D → List Sl} {k : List α → Option T} (hp : Pl K tp Γ (xs.map enc) G) (h : EvL K te Γ m) (hk : ∀ ys : List α, BM K u (G (ys.map enc)) (k ys) hd) :
    BM K (tSeq (tDrop (tBM K "list" rExtend tp (tCons te tNil))) u) Γ (m.bind fun zs => (exM xs zs).bind k) hd := fun o e F0 B F σ H D ok q => by
  obtain ⟨zs, e1, e⟩ := Option.bind_eq_some_iff.mp e
  obtain ⟨ys, e2, e⟩ := Option.bind_eq_some_iff.mp e
  unfold exM at e2
  split at e2
  case isFalse => cases e2
  cases e2
  rename_i hl
  obtain ⟨p, vs, h1, h2, h3, h4, h5⟩ := hp F0 B F σ H ok
  refine h1 _ ⟨Or.inl ⟨rfl, _, Or.inl (Or.inl h2)⟩, ?_⟩
  refine h zs e1 F0 B F σ H ok _ fun b ws F1 H1 x1 b1 r1 => ⟨p, b, vs, ws, rfl, rfl, x1.hh _ _ h2, b1, by rw [h3.len, r1.len, List.length_map, List.length_map]; exact hl, ?_⟩
  have z := h5 F1 H1 (vs ++ ws) ((xs ++ zs).map enc) x1 (by rw [List.map_append]; exact (h3.mono x1.ff).append r1)
  exact hk _ o e F0 B F1 σ _ D z q
def stM (xs : List α) (i : Int) (a : α) : Option (List α) := (ixN xs.length i).map fun j => xs.set j a
theorem bm_setL {xs : List α} {mi : Option Int} {G : List D → List Sl} {k : List α → Option T} (hp : Pl K tp Γ (xs.map enc) G) (h : EvM K te Γ ma) (hi : EvM K ta Γ mi) (hk : ∀ ys : List α, BM K u (G (ys.map enc)) (k ys) hd) :
    BM K (tSeq (tAsg te (gSub tp ta rSetL)) u) Γ (ma.bind fun a => mi.bind fun i => (stM xs i a).bind k) hd := fun o e F0 B F σ H D ok q => by
  obtain ⟨a, e1, e⟩ := Option.bind_eq_some_iff.mp e
  obtain ⟨i, e2, e⟩ := Option.bind_eq_some_iff.mp e
  obtain ⟨ys, e3, e⟩ := Option.bind_eq_some_iff.mp e
  unfold stM at e3
  obtain ⟨j, e4, rfl⟩ := Option.map_eq_some_iff.mp e3
  refine h a e1 F0 B F σ H ok _ fun v F1 H1 x1 r1 => ?_
  have ok1 := ok.ext x1
  obtain ⟨p, vs, h1, h2, h3, h4, h5⟩ := hp F0 B F1 σ H1 ok1
  refine h1 _ ?_
  refine hi i e2 F0 B F1 σ H1 ok1 _ fun w F2 H2 x2 r2 => ⟨p, vs, i, j, rfl, r2.int_inv, x2.hh _ _ h2, by rw [h3.len, List.length_map]; exact e4, ?_⟩
  have z := h5 F2 H2 (vs.set j v) ((xs.set j a).map enc) x2 (by rw [List.map_set]; exact (h3.mono x2.ff).set (r1.mono x2.ff) j)
  exact hk _ o e F0 B F2 σ _ D z q
/-- xs.pop(): as a statement, or to a name -/
theorem bm_popD {xs : List α} {G : List D → List Sl} {k : List α → Option T} (hp : Pl K tp Γ (xs.map enc) G) (hk : ∀ ys : List α, BM K u (G (ys.map enc)) (k ys) hd) :
    BM K (tSeq (tDrop (tBM0 K "list" rPop tp)) u) Γ (xs.getLast?.bind fun _ => k xs.dropLast) hd := fun o e F0 B F σ H D ok q => by
  obtain ⟨a, e1, e⟩ := Option.bind_eq_some_iff.mp e
  obtain ⟨p, vs, h1, h2, h3, h4, h5⟩ := hp F0 B F σ H ok
  have e2 : (xs.map enc)[vs.length - 1]? = some (enc a) := by
    rw [h3.len, List.length_map, List.getElem?_map, ← List.getLast?_eq_getElem?, e1]
    rfl
  obtain ⟨v, e3, r3⟩ := h3.get e2
  refine h1 _ ⟨Or.inl ⟨rfl, _, Or.inl (Or.inl h2)⟩, p, vs, v, rfl, rfl, h2, e3, ?_⟩
  have z := h5 F H vs.dropLast (xs.dropLast.map enc) (Ext.refl ok.fh) (by rw [List.map_dropLast]; exact h3.dropLast)
  exact hk _ o e F0 B F σ _ D z q
theorem bm_popA {i : Nat} {s : Sl} {xs : List α} {G : List D → List Sl} {k : α → List α → Option T} (hp : Pl K tp Γ (xs.map enc) G) (hi : ∀ ys, (G ys)[i]? = some s) (hk : ∀ (a : α) (ys : List α), BM K u ((G (ys.map enc)).set i (.f a)) (k a ys) hd) :
    BM K (tSeq (tAsg (tBM0 K "list" rPop tp) (gName i)) u) Γ (xs.getLast?.bind fun a => k a xs.dropLast) hd := fun o e F0 B F σ H D ok q => by
  obtain ⟨a, e1, e⟩ := Option.bind_eq_some_iff.mp e
  obtain ⟨p, vs, h1, h2, h3, h4, h5⟩ := hp F0 B F σ H ok
  have e2 : (xs.map enc)[vs.length - 1]? = some (enc a) := by
    rw [h3.len, List.length_map, List.getElem?_map, ← List.getLast?_eq_getElem?, e1]
    rfl
  obtain ⟨v, e3, r3⟩ := h3.get e2
  refine h1 _ ⟨Or.inl ⟨rfl, _, Or.inl (Or.inl h2)⟩, p, vs, v, rfl, rfl, h2, e3, ?_⟩
  have z := h5 F H vs.dropLast (xs.dropLast.map enc) (Ext.refl ok.fh) (by rw [List.map_dropLast]; exact h3.dropLast)
  exact hk a _ o e F0 B F _ _ D (z.fz (hi _) r3) q
/-- xs.pop(i), to a name -/
def poM (xs : List α) (i : Int) : Option (α × List α) := if -(2 ^ 63) ≤ i ∧ i < 2 ^ 63 then (seqIndex? i xs.length).bind fun k => (xs[k]?).bind fun a => some (a, xs.eraseIdx k) else none
theorem bm_popI {i : Nat} {s : Sl} {xs : List α} {mi : Option Int} {G : List D → List Sl} {k : α → List α → Option T} (hp : Pl K tp Γ (xs.map enc) G) (h : EvM K te Γ mi) (hi : ∀ ys, (G ys)[i]? = some s) (hk : ∀ (a : α) (ys : List α), BM K u ((G (ys.map enc)).set i (.f a)) (k a ys) hd) :
    BM K (tSeq (tAsg (tBM K "list" rPopAt tp (tCons te tNil)) (gName i)) u) Γ (mi.bind fun j => (poM xs j).bind fun q => k q.1 q.2) hd := fun o e F0 B F σ H D ok q => by
  obtain ⟨j, e1, e⟩ := Option.bind_eq_some_iff.mp e
  obtain ⟨⟨a, ys⟩, e2, e⟩ := Option.bind_eq_some_iff.mp e
  unfold poM at e2
  split at e2
  case isFalse => cases e2
  rename_i hb
  obtain ⟨n, e3, e2⟩ := Option.bind_eq_some_iff.mp e2
  obtain ⟨b, e4, e2⟩ := Option.bind_eq_some_iff.mp e2
  cases e2
  obtain ⟨p, vs, h1, h2, h3, h4, h5⟩ := hp F0 B F σ H ok
  refine h1 _ ⟨Or.inl ⟨rfl, _, Or.inl (Or.inl h2)⟩, ?_⟩
  refine h j e1 F0 B F σ H ok _ fun w F1 H1 x1 r1 => ?_
  have e5 : (xs.map enc)[n]? = some (enc a) := by rw [List.getElem?_map, e4]; rfl
  obtain ⟨v, e6, r6⟩ := h3.get e5
  refine ⟨p, vs, j, n, v, rfl, by rw [r1.int_inv], x1.hh _ _ h2, hb.1, hb.2, by rw [h3.len, List.length_map]; exact e3, e6, ?_⟩
  have z := h5 F1 H1 (vs.eraseIdx n) ((xs.eraseIdx n).map enc) x1 (by
    have y := (h3.mono x1.ff).eraseIdx n
    have l : (xs.eraseIdx n).map enc = (xs.map enc).eraseIdx n := by
      rw [List.eraseIdx_eq_take_drop_succ, List.eraseIdx_eq_take_drop_succ, List.map_append, List.map_take, List.map_drop]
    rw [l]
    exact y)
  exact hk a _ o e F0 B F1 _ _ D (z.fz (hi _) (r6.mono x1.ff)) q
theorem bm_rev {xs : List α} {G : List D → List Sl} {m : Option T} (hp : Pl K tp Γ (xs.map enc) G) (hk : BM K u (G (xs.reverse.map enc)) m hd) :
    BM K (tSeq (tDrop (tBM0 K "list" rReverse tp)) u) Γ m hd := fun o e F0 B F σ H D ok q => by
  obtain ⟨p, vs, h1, h2, h3, h4, h5⟩ := hp F0 B F σ H ok
  refine h1 _ ⟨Or.inl ⟨rfl, _, Or.inl (Or.inl h2)⟩, p, vs, rfl, rfl, h2, ?_⟩
  have z := h5 F H vs.reverse (xs.reverse.map enc) (Ext.refl ok.fh) (by rw [List.map_reverse]; exact h3.reverse)
  exact hk o e F0 B F σ _ D z q
/-- xs.insert(i, a) -/
def inM (xs : List α) (i : Int) (a : α) : Option (List α) := if xs.length < sizeLine ∧ 0 ≤ i ∧ i < 2 ^ 63 then some (xs.take i.toNat ++ a :: xs.drop i.toNat) else none

/-! ### dicts -/
/-- what may be a key -/
class KeyE (α : Type) extends Enc α where
  key : α → Key
  rep : ∀ (K : PySem.W.Frag) (F : Hp) (v : V) (a : α), Rep K F v (enc a) → v = kV (key a)
instance : KeyE Int := ⟨Sum.inl, fun _ _ _ _ h => h.int_inv⟩
instance : KeyE Str := ⟨Sum.inr, fun _ _ _ _ h => h.str_inv⟩
def look {κ : Type} [DecidableEq κ] (kvs : List (κ × α)) (k : κ) : Option α := (kvs.find? fun kv => decide (kv.1 = k)).map (·.2)
def put {κ : Type} [DecidableEq κ] (kvs : List (κ × α)) (k : κ) (v : α) : List (κ × α) := if kvs.any fun kv => decide (kv.1 = k) then kvs.map fun kv => if kv.1 = k then (kv.1, v) else kv else kvs ++ [(k, v)]
theorem KVs.cons_inv {κ : Type} {F : Hp} {vs : List (κ × V)} {k : κ} {d : D} {ds : List (κ × D)} (r : KVs K F vs ((k, d) :: ds)) : ∃ v ws, vs = (k, v) :: ws ∧ Rep K F v d ∧ KVs K F ws ds := by
  cases vs with
  | nil => exact absurd r.keys (by simp)
  | cons q ws =>
    obtain ⟨k', v⟩ := q
    have h := r.keys
    simp at h
    obtain ⟨rfl, h⟩ := h
    exact ⟨v, ws, rfl, r.at_ 0 _ v _ d rfl rfl, ⟨h, fun i a b c d' e1 e2 => r.at_ (i + 1) a b c d' (by simpa using e1) (by simpa using e2)⟩⟩
theorem KVs.nil_inv {κ : Type} {F : Hp} {vs : List (κ × V)} (r : KVs K F vs ([] : List (κ × D))) : vs = [] := by
  have h := r.keys
  simpa using h
theorem KVs.nil {κ : Type} {F : Hp} : KVs K F ([] : List (κ × V)) [] := ⟨rfl, fun i k v k' d a => by simp at a⟩
theorem KVs.cons {κ : Type} {F : Hp} {vs : List (κ × V)} {ds : List (κ × D)} {k : κ} {v : V} {d : D} (h : Rep K F v d) (r : KVs K F vs ds) : KVs K F ((k, v) :: vs) ((k, d) :: ds) := by
  refine ⟨by simp [r.keys], fun i a b c d' e1 e2 => ?_⟩
  cases i with
  | zero => simp at e1 e2; rw [← e1.2, ← e2.2]; exact h
  | succ i => exact r.at_ i a b c d' (by simpa using e1) (by simpa using e2)
theorem KVs.len {κ : Type} {F : Hp} {vs : List (κ × V)} {ds : List (κ × D)} (r : KVs K F vs ds) : vs.length = ds.length := by
  have := congrArg List.length r.keys
  simpa using this
theorem KVs.look {κ : Type} [DecidableEq κ] {F : Hp} (k : κ) : ∀ {xs : List (κ × α)} {vs : List (κ × V)}, KVs K F vs (xs.map fun p => (p.1, enc p.2)) → match M.look xs k with
    | none => valV vs k = none
    | some a => ∃ v, valV vs k = some v ∧ Rep K F v (enc a)
  | [], vs, r => by
    rw [r.nil_inv]
    rfl
  | (k', a) :: xs, vs, r => by
    obtain ⟨v, ws, rfl, r1, r2⟩ := KVs.cons_inv r
    by_cases e : k' = k
    · subst e
      have h1 : M.look ((k', a) :: xs) k' = some a := by simp [M.look]
      rw [h1]
      exact ⟨v, valV_pos (p := (k', v)) rfl, r1⟩
    · have h1 : M.look ((k', a) :: xs) k = M.look xs k := by simp [M.look, e]
      rw [h1, valV_neg (p := (k', v)) e]
      exact KVs.look k r2
theorem KVs.anyK {κ : Type} [DecidableEq κ] {F : Hp} (k : κ) : ∀ {xs : List (κ × α)} {vs : List (κ × V)}, KVs K F vs (xs.map fun p => (p.1, enc p.2)) → (vs.any fun kv => decide (kv.1 = k)) = xs.any fun kv => decide (kv.1 = k)
  | [], vs, r => by rw [r.nil_inv]; rfl
  | (k', a) :: xs, vs, r => by
    obtain ⟨v, ws, rfl, r1, r2⟩ := KVs.cons_inv r
    simp only [List.any_cons]
    rw [KVs.anyK k r2]
theorem KVs.repl {κ : Type} [DecidableEq κ] {F : Hp} (k : κ) {v : V} {a : α} (rv : Rep K F v (enc a)) : ∀ {xs : List (κ × α)} {vs : List (κ × V)}, KVs K F vs (xs.map fun p => (p.1, enc p.2)) →
    KVs K F (vs.map fun kv => if kv.1 = k then (kv.1, v) else kv) ((xs.map fun kv => if kv.1 = k then (kv.1, a) else kv).map fun p => (p.1, enc p.2))
  | [], vs, r => by rw [r.nil_inv]; exact .nil
  | (k', b) :: xs, vs, r => by
    obtain ⟨x, ws, rfl, r1, r2⟩ := KVs.cons_inv r
    have ih := KVs.repl k rv r2
    simp only [List.map_cons]
    by_cases e : k' = k
    · rw [if_pos e, if_pos e]
      exact .cons rv ih
    · rw [if_neg e, if_neg e]
      exact .cons r1 ih
theorem KVs.app1 {κ : Type} {F : Hp} {k : κ} {v : V} {d : D} (rv : Rep K F v d) : ∀ {ds : List (κ × D)} {vs : List (κ × V)}, KVs K F vs ds → KVs K F (vs ++ [(k, v)]) (ds ++ [(k, d)])
  | [], vs, r => by rw [r.nil_inv]; exact .cons rv .nil
  | (k', b) :: ds, vs, r => by
    obtain ⟨x, ws, rfl, r1, r2⟩ := KVs.cons_inv r
    exact .cons r1 (KVs.app1 rv r2)
theorem KVs.put {κ : Type} [DecidableEq κ] {F : Hp} {k : κ} {v : V} {a : α} (rv : Rep K F v (enc a)) {xs : List (κ × α)} {vs : List (κ × V)} (r : KVs K F vs (xs.map fun p => (p.1, enc p.2))) : KVs K F (putK vs k v) ((M.put xs k a).map fun p => (p.1, enc p.2)) := by
  unfold putK M.put
  rw [KVs.anyK k r]
  split
  · exact KVs.repl k rv r
  · rw [List.map_append]
    exact KVs.app1 rv r
/-- a dict that is read now -/
def EvD {α : Type} [Enc α] (K : PySem.W.Frag) (te : TE) (Γ : List Sl) (m : Option (Dk α)) : Prop :=
  ∀ a, m = some a → ∀ (F0 B F : Hp) (σ : L2.St) (H : Hp), Ok K F0 B F Γ σ H → ∀ Q : VK, (∀ p vs F' H', Ext F H F' H' → H' p = some (.dK vs) → KVs K F' vs (a.kvs.map fun p => (p.1, enc p.2)) → Q (.ref p) H') → te σ H Q
theorem ed_of {m : Option (Dk α)} (h : EvM K te Γ m) : EvD K te Γ m := fun a e F0 B F σ H k Q q => h a e F0 B F σ H k Q fun v F1 H1 x1 r => by
  cases r with
  | dic h hk hr => exact q _ _ F1 H1 x1 (x1.fh _ _ h) ⟨hk, hr⟩
theorem ed_pd {xs : Dk α} {G : List (Key × D) → List Sl} (h : Pd K tp Γ (xs.kvs.map fun p => (p.1, enc p.2)) G) : EvD K tp Γ (some xs) := fun a e F0 B F σ H k Q q => by
  cases e
  obtain ⟨p, vs, h1, h2, h3, _⟩ := h F0 B F σ H k
  exact h1 Q (q p vs F H (Ext.refl k.fh) h2 h3)
variable {κ : Type} [KeyE κ] {mk : Option κ} {md : Option (Dk α)}
theorem dget_of {F H : Hp} {p : Addr} {vs : List (Key × V)} {xs : Dk α} (e : H p = some (.dK vs)) (k : Key) : DGet H p (kV k) (valV vs k) := .k e
theorem em_din (hk : EvM K ta Γ mk) (h : EvD K te Γ md) : EvM K (tDIn ta te) Γ (mk.bind fun k => md.bind fun d => some (look d.kvs (KeyE.key k)).isSome) := fun c e F0 B F σ H ok Q q => by
  obtain ⟨k, e1, e⟩ := Option.bind_eq_some_iff.mp e
  obtain ⟨d, e2, e⟩ := Option.bind_eq_some_iff.mp e
  cases e
  refine hk k e1 F0 B F σ H ok _ fun v F1 H1 x1 r1 => ?_
  refine h d e2 F0 B F1 σ H1 (ok.ext x1) _ fun p vs F2 H2 x2 h2 r2 => ⟨p, valV vs (KeyE.key k), rfl, by rw [KeyE.rep K F1 v k r1]; exact .k h2, ?_⟩
  have z := KVs.look (KeyE.key k) r2
  have y : (valV vs (KeyE.key k)).isSome = (look d.kvs (KeyE.key k)).isSome := by
    revert z
    cases look d.kvs (KeyE.key k) with
    | none => intro z; rw [show valV vs (KeyE.key k) = none from z]; rfl
    | some a => intro ⟨v, z, _⟩; rw [z]; rfl
  rw [y]
  exact q _ F2 H2 (x1.trans x2) (.bl _)
theorem em_dnin (hk : EvM K ta Γ mk) (h : EvD K te Γ md) : EvM K (tDNotIn ta te) Γ (mk.bind fun k => md.bind fun d => some (!(look d.kvs (KeyE.key k)).isSome)) := fun c e F0 B F σ H ok Q q => by
  obtain ⟨k, e1, e⟩ := Option.bind_eq_some_iff.mp e
  obtain ⟨d, e2, e⟩ := Option.bind_eq_some_iff.mp e
  cases e
  refine hk k e1 F0 B F σ H ok _ fun v F1 H1 x1 r1 => ?_
  refine h d e2 F0 B F1 σ H1 (ok.ext x1) _ fun p vs F2 H2 x2 h2 r2 => ⟨p, valV vs (KeyE.key k), rfl, by rw [KeyE.rep K F1 v k r1]; exact .k h2, ?_⟩
  have z := KVs.look (KeyE.key k) r2
  have y : (valV vs (KeyE.key k)).isSome = (look d.kvs (KeyE.key k)).isSome := by
    revert z
    cases look d.kvs (KeyE.key k) with
    | none => intro z; rw [show valV vs (KeyE.key k) = none from z]; rfl
    | some a => intro ⟨v, z, _⟩; rw [z]; rfl
  rw [y]
  exact q _ F2 H2 (x1.trans x2) (.bl _)
theorem em_dget (h : EvD K te Γ md) (hk : EvM K ta Γ mk) : EvM K (tDGet te ta) Γ (md.bind fun d => mk.bind fun k => look d.kvs (KeyE.key k)) := fun c e F0 B F σ H ok Q q => by
  obtain ⟨d, e2, e⟩ := Option.bind_eq_some_iff.mp e
  obtain ⟨k, e1, e⟩ := Option.bind_eq_some_iff.mp e
  refine h d e2 F0 B F σ H ok _ fun p vs F1 H1 x1 h1 r1 => ?_
  refine hk k e1 F0 B F1 σ H1 (ok.ext x1) _ fun v F2 H2 x2 r2 => ?_
  have z := KVs.look (KeyE.key k) r1
  rw [e] at z
  obtain ⟨w, z1, z2⟩ := z
  exact ⟨p, w, rfl, by rw [KeyE.rep K F2 v k r2, ← z1]; exact .k (x2.hh _ _ h1), q w F2 H2 (x1.trans x2) (z2.mono x2.ff)⟩
/-- d.get(k, x) -/
theorem em_dget2 (h : EvD K te Γ md) (hk : EvM K ta Γ mk) (hx : EvM K tb Γ ma) : EvM K (tDGet2 te ta tb) Γ (md.bind fun d => mk.bind fun k => ma.bind fun x => some ((look d.kvs (KeyE.key k)).getD x)) := fun c e F0 B F σ H ok Q q => by
  obtain ⟨d, e2, e⟩ := Option.bind_eq_some_iff.mp e
  obtain ⟨k, e1, e⟩ := Option.bind_eq_some_iff.mp e
  obtain ⟨x, e3, e⟩ := Option.bind_eq_some_iff.mp e
  cases e
  refine h d e2 F0 B F σ H ok _ fun p vs F1 H1 x1 h1 r1 => ⟨p, rfl, .inl ⟨vs, .inl h1⟩, ?_⟩
  refine hk k e1 F0 B F1 σ H1 (ok.ext x1) _ fun v F2 H2 x2 r2 => ?_
  refine hx x e3 F0 B F2 σ H2 (ok.ext (x1.trans x2)) _ fun u F3 H3 x3 r3 => ?_
  have z := KVs.look (KeyE.key k) r1
  refine ⟨valV vs (KeyE.key k), by rw [KeyE.rep K F2 v k r2]; exact .k (x3.hh _ _ (x2.hh _ _ h1)), ?_⟩
  cases hl : look d.kvs (KeyE.key k) with
  | none =>
    rw [hl] at z q
    rw [show valV vs (KeyE.key k) = none from z]
    exact q u F3 H3 ((x1.trans x2).trans x3) r3
  | some a =>
    rw [hl] at z q
    obtain ⟨y, z, r⟩ := z
    rw [z]
    exact q y F3 H3 ((x1.trans x2).trans x3) (r.mono (x2.ff.trans x3.ff))
theorem bm_dput {xs : Dk α} {G : List (Key × D) → List Sl} {k : Dk α → Option T} (hp : Pd K tp Γ (xs.kvs.map fun p => (p.1, enc p.2)) G) (h : EvM K te Γ ma) (hi : EvM K ta Γ mk) (hk : ∀ ys : Dk α, BM K u (G (ys.kvs.map fun p => (p.1, enc p.2))) (k ys) hd) :
    BM K (tSeq (sDPut tp ta te) u) Γ (ma.bind fun a => mk.bind fun i => if xs.kvs.length < sizeLine then k ⟨put xs.kvs (KeyE.key i) a⟩ else none) hd := fun o e F0 B F σ H D ok q => by
  obtain ⟨a, e1, e⟩ := Option.bind_eq_some_iff.mp e
  obtain ⟨i, e2, e⟩ := Option.bind_eq_some_iff.mp e
  split at e
  case isFalse => cases e
  rename_i hl
  refine h a e1 F0 B F σ H ok _ fun v F1 H1 x1 r1 => ?_
  have ok1 := ok.ext x1
  obtain ⟨p, vs, h1, h2, h3, h4, h5⟩ := hp F0 B F1 σ H1 ok1
  refine h1 _ ?_
  refine hi i e2 F0 B F1 σ H1 ok1 _ fun w F2 H2 x2 r2 => ?_
  obtain rfl := KeyE.rep K F2 w i r2
  refine ⟨p, _, rfl, .k (x2.hh _ _ h2) (by rw [h3.len, List.length_map]; exact hl), ?_⟩
  have z := h5 F2 H2 (putK vs (KeyE.key i) v) _ x2 (KVs.put (r1.mono x2.ff) (h3.mono x2.ff))
  exact hk ⟨_⟩ o e F0 B F2 σ _ D z q
/-- x = {} -/
theorem bm_asgD {i : Nat} {s : Sl} {m : Option T} (hi : Γ[i]? = some s) (hk : BM K u (Γ.set i (.owd [])) m hd) : BM K (tSeq (tAsg tDNewK (gName i)) u) Γ m hd := fun o e F0 B F σ H D ok q p hp =>
  hk o e F0 B F _ _ D (ok.newOwn (Ext.newOwn ok.fh hp) hi hp (none_of ok.fh hp) ⟨p, [], rfl, rfl, upd_same, .nil⟩) q
theorem em_dnew : EvM K tDNewK Γ (some (⟨[]⟩ : Dk α)) := fun a e F0 B F σ H k Q q p hp => by
  cases e
  exact q _ _ _ (Ext.new k.fh hp) (.dic upd_same rfl fun i k v k' d a => by simp at a)
/-- an own dict becomes one that stays -/
theorem Ok.freezeD {F0 B F : Hp} {σ : L2.St} {H : Hp} {i : Nat} {ds : List (Key × D)} (k : Ok K F0 B F Γ σ H) (hi : Γ[i]? = some (.owd ds)) : ∃ F', Ex F F' ∧ Ok K F0 B F' (Γ.set i (.fz (.dic ds))) σ H := by
  obtain ⟨w, m, h1, h2, h3, _, h4⟩ := k.mod hi
  obtain ⟨p, vs, rfl, rfl, e1, e2⟩ := h2
  have fn : F p = none := (h3 p (by simp)).1
  have ex : Ex F (upd F p (.dK vs)) := Ex.new fn
  have z := h4 (upd F p (.dK vs)) H (.fz (.dic ds)) (some (.ref p)) [] ex (fun a u q => by
    unfold upd at q
    split at q
    · rename_i y; cases q; rw [y]; exact e1
    · exact k.fh a u q) (fun q o _ a => a) (fun q o _ nq => upd_ne (fun y => nq (by simp [y]))) ⟨rfl, _, rfl, .dic upd_same e2.keys (e2.mono ex).at_⟩ List.nodup_nil (fun p hp => by cases hp) fun p hp => by cases hp
  refine ⟨_, ex, ?_⟩
  rwa [set_id h1] at z
theorem bm_frzD {i : Nat} {xs : Dk α} {m : Option T} (hi : Γ[i]? = some (.od xs)) (h : BM K t (Γ.set i (.f xs)) m hd) : BM K t Γ m hd := fun o e F0 B F σ H D k q => by
  obtain ⟨F', x, k'⟩ := k.freezeD hi
  exact h o e F0 B F' σ H D k' q
end
end M
/-! M6: == and in at any depth, slices, list(), sorted, sums, isinstance, defs -/
namespace M
open PySem L2
open Evl (Ex)
open Enc (enc)

mutual
def toPy : D → PyData
  | .non => .none
  | .bl b => .bool b
  | .int i => .int i
  | .str s => .str s
  | .lst xs => .list (toPys xs)
  | .tup xs => .tuple (toPys xs)
  | .dic _ => .none
  | .dit _ => .none
  | .scr _ => .none
  | .obj _ _ _ => .none
  | .lkd _ => .none
  | .tnt ns => .tuple (ns.map PyData.int)
def toPys : List D → List PyData
  | [] => []
  | x :: xs => toPy x :: toPys xs
end
/-- data whose == is decided by the values -/
class EqD (α : Type) [Enc α] where
  dec : DecidableEq α
  dp : ∀ (K : PySem.W.Frag) (F H : Hp) (v : V) (a : α), Ex F H → Rep K F v (enc a) → Dp K H v (toPy (enc a))
  ok : α → Bool
  lay : ∀ a : α, ok a = true → PyData.canLay0 (toPy (enc a)) = true
  dep : Nat
  depth : ∀ a : α, PyData.depth (toPy (enc a)) ≤ dep
  eqv : ∀ a b : α, PyData.eqv (toPy (enc a)) (toPy (enc b)) = @decide (a = b) (dec a b)
section
variable {α β γ δ : Type} [Enc α] [Enc β] [Enc γ] [Enc δ]
instance : EqD Int := ⟨inferInstance, fun K F H v a e r => by rw [r.int_inv]; exact .int a, fun _ => true, fun a _ => by simp [enc, Enc.enc, toPy, PyData.canLay0], 0, fun a => by simp [enc, Enc.enc, toPy, PyData.depth], fun a b => by
  show (a == b) = decide (a = b)
  exact Bool.beq_eq_decide_eq a b⟩
instance : EqD Bool := ⟨inferInstance, fun K F H v a e r => by rw [r.bl_inv]; exact .bl a, fun _ => true, fun a _ => by simp [enc, Enc.enc, toPy, PyData.canLay0], 0, fun a => by simp [enc, Enc.enc, toPy, PyData.depth], fun a b => by
  show (a == b) = decide (a = b)
  exact Bool.beq_eq_decide_eq a b⟩
instance : EqD Str := ⟨inferInstance, fun K F H v a e r => by rw [r.str_inv]; exact .str a, PyData.strOk, fun a h => by simpa [enc, Enc.enc, toPy, PyData.canLay0] using h, 0, fun a => by simp [enc, Enc.enc, toPy, PyData.depth], fun a b => by
  show (a == b) = decide (a = b)
  exact Bool.beq_eq_decide_eq a b⟩
theorem dps_of [E : EqD α] {K : PySem.W.Frag} {F H : Hp} (e : Ex F H) : ∀ {xs : List α} {vs : List V}, Reps K F vs (xs.map enc) → DpAll K H vs (toPys (xs.map enc))
  | [], vs, r => by rw [r.nil_inv]; exact .nil
  | x :: xs, vs, r => by
    obtain ⟨v, ws, rfl, r1, r2⟩ := r.cons_inv
    exact .cons (E.dp K F H v x e r1) (dps_of e r2)
theorem lays [E : EqD α] : ∀ xs : List α, xs.all E.ok = true → PyData.canLayAll0 (toPys (xs.map enc)) = true
  | [], _ => by simp [toPys, PyData.canLayAll0]
  | x :: xs, h => by
    rw [List.all_cons, Bool.and_eq_true] at h
    simp [toPys, PyData.canLayAll0, E.lay x h.1, lays xs h.2]
theorem depths [E : EqD α] : ∀ xs : List α, PyData.depthAll (toPys (xs.map enc)) ≤ E.dep
  | [] => by simp [toPys, PyData.depthAll]
  | x :: xs => by
    have h1 := E.depth x
    have h2 := depths xs
    simp only [List.map_cons, toPys, PyData.depthAll]
    omega
theorem eqvs [E : EqD α] : ∀ xs ys : List α, PyData.eqvAll (toPys (xs.map enc)) (toPys (ys.map enc)) = @decide (xs = ys) (@List.hasDecEq α E.dec xs ys)
  | [], [] => by simp [toPys, PyData.eqvAll]
  | [], y :: ys => by simp [toPys, PyData.eqvAll]
  | x :: xs, [] => by simp [toPys, PyData.eqvAll]
  | x :: xs, y :: ys => by
    have i : DecidableEq α := E.dec
    simp only [List.map_cons, toPys, PyData.eqvAll, E.eqv x y, eqvs xs ys, List.cons.injEq, Bool.decide_and]
    congr 1 <;> congr
instance [E : EqD α] : EqD (List α) := ⟨@List.hasDecEq α E.dec, fun K F H v a e r => by
    obtain ⟨p, vs, rfl, h1, h2⟩ := r.lst_inv
    exact .lst (Evl.sq_of (e _ _ h1)) (dps_of e h2), fun a => a.all E.ok, fun a h => by
    show PyData.canLay0 (.list (toPys (a.map enc))) = true
    simp only [PyData.canLay0]
    exact lays a h, E.dep + 1, fun a => by
    show PyData.depth (.list (toPys (a.map enc))) ≤ _
    have := depths a
    simp only [PyData.depth]
    omega, fun a b => by
    show PyData.eqvAll (toPys (a.map enc)) (toPys (b.map enc)) = _
    exact eqvs a b⟩
instance [E1 : EqD α] [E2 : EqD β] : EqD (α × β) := ⟨@instDecidableEqProd _ _ E1.dec E2.dec, fun K F H v a e r => by
    obtain ⟨p, vs, rfl, h1, h2⟩ := Rep.tup_inv r
    obtain ⟨v1, ws, rfl, r1, h3⟩ := h2.cons_inv
    obtain ⟨v2, ws, rfl, r2, h4⟩ := h3.cons_inv
    cases h4.nil_inv
    exact .tup (Evl.st_of (e _ _ h1)) (.cons (E1.dp _ _ _ _ _ e r1) (.cons (E2.dp _ _ _ _ _ e r2) .nil)), fun a => E1.ok a.1 && E2.ok a.2, fun a h => by
    show PyData.canLay0 (.tuple [toPy (enc a.1), toPy (enc a.2)]) = true
    rw [Bool.and_eq_true] at h
    simp [PyData.canLay0, PyData.canLayAll0, E1.lay _ h.1, E2.lay _ h.2], max E1.dep E2.dep + 1, fun a => by
    show PyData.depth (.tuple [toPy (enc a.1), toPy (enc a.2)]) ≤ _
    have h1 := E1.depth a.1
    have h2 := E2.depth a.2
    simp only [PyData.depth, PyData.depthAll]
    omega, fun a b => by
    show (PyData.eqv (toPy (enc a.1)) (toPy (enc b.1)) && (PyData.eqv (toPy (enc a.2)) (toPy (enc b.2)) && true)) = _
    rw [E1.eqv, E2.eqv, Bool.and_true]
    by_cases h : a = b
    · subst h
      simp
    · refine Eq.trans ?_ (@decide_eq_false _ (@instDecidableEqProd _ _ E1.dec E2.dec a b) h).symm
      cases h1 : @decide (a.1 = b.1) (E1.dec a.1 b.1) with
      | false => rfl
      | true =>
        cases h2 : @decide (a.2 = b.2) (E2.dec a.2 b.2) with
        | false => rfl
        | true => exact absurd (Prod.ext (@of_decide_eq_true _ (E1.dec a.1 b.1) h1) (@of_decide_eq_true _ (E2.dec a.2 b.2) h2)) h⟩
instance [E1 : EqD α] [E2 : EqD β] [E3 : EqD γ] : EqD (T3 α β γ) := ⟨@instDecidableEqT3 _ _ _ E1.dec E2.dec E3.dec, fun K F H v a e r => by
    obtain ⟨p, vs, rfl, h1, h2⟩ := Rep.tup_inv r
    obtain ⟨v1, ws, rfl, r1, h3⟩ := h2.cons_inv
    obtain ⟨v2, ws, rfl, r2, h4⟩ := h3.cons_inv
    obtain ⟨v3, ws, rfl, r3, h5⟩ := h4.cons_inv
    cases h5.nil_inv
    exact .tup (Evl.st_of (e _ _ h1)) (.cons (E1.dp _ _ _ _ _ e r1) (.cons (E2.dp _ _ _ _ _ e r2) (.cons (E3.dp _ _ _ _ _ e r3) .nil))), fun a => E1.ok a.a && (E2.ok a.b && E3.ok a.c), fun a h => by
    show PyData.canLay0 (.tuple [toPy (enc a.a), toPy (enc a.b), toPy (enc a.c)]) = true
    rw [Bool.and_eq_true, Bool.and_eq_true] at h
    simp [PyData.canLay0, PyData.canLayAll0, E1.lay _ h.1, E2.lay _ h.2.1, E3.lay _ h.2.2], max E1.dep (max E2.dep E3.dep) + 1, fun a => by
    show PyData.depth (.tuple [toPy (enc a.a), toPy (enc a.b), toPy (enc a.c)]) ≤ _
    have h1 := E1.depth a.a
    have h2 := E2.depth a.b
    have h3 := E3.depth a.c
    simp only [PyData.depth, PyData.depthAll]
    omega, fun a b => by
    show (PyData.eqv (toPy (enc a.a)) (toPy (enc b.a)) && (PyData.eqv (toPy (enc a.b)) (toPy (enc b.b)) && (PyData.eqv (toPy (enc a.c)) (toPy (enc b.c)) && true))) = _
    rw [E1.eqv, E2.eqv, E3.eqv, Bool.and_true]
    by_cases h : a = b
    · subst h
      simp
    · refine Eq.trans ?_ (@decide_eq_false _ (@instDecidableEqT3 _ _ _ E1.dec E2.dec E3.dec a b) h).symm
      cases h1 : @decide (a.a = b.a) (E1.dec a.a b.a) with
      | false => rfl
      | true =>
        cases h2 : @decide (a.b = b.b) (E2.dec a.b b.b) with
        | false => rfl
        | true =>
          cases h3 : @decide (a.c = b.c) (E3.dec a.c b.c) with
          | false => rfl
          | true =>
            have e1 := @of_decide_eq_true _ (E1.dec a.a b.a) h1
            have e2 := @of_decide_eq_true _ (E2.dec a.b b.b) h2
            have e3 := @of_decide_eq_true _ (E3.dec a.c b.c) h3
            exact absurd (by cases a; cases b; simp at e1 e2 e3; simp [e1, e2, e3]) h⟩
end
def eqB {α : Type} [Enc α] [E : EqD α] (a b : α) : Bool := @decide (a = b) (E.dec a b)
theorem eqB_iff {α : Type} [Enc α] [E : EqD α] {a b : α} : eqB a b = true ↔ a = b := by
  unfold eqB
  exact @decide_eq_true_iff _ (E.dec a b)
def memB {α : Type} [Enc α] [E : EqD α] (a : α) (xs : List α) : Bool := xs.any fun z => eqB z a
theorem memB_iff {α : Type} [Enc α] [E : EqD α] {a : α} {xs : List α} : memB a xs = true ↔ a ∈ xs := by
  unfold memB
  rw [List.any_eq_true]
  constructor
  · rintro ⟨x, h1, h2⟩
    rw [eqB_iff] at h2
    exact h2 ▸ h1
  · intro h
    exact ⟨a, h, eqB_iff.mpr rfl⟩

section
variable {K : PySem.W.Frag} {Γ : List Sl} {α β γ δ : Type} [Enc α] [Enc β] [Enc γ] [Enc δ] {ta tb tc te tp : TE} {ma : Option α} {mb : Option β} {mc : Option γ} {T A S R : Type} {hd : Hdl T} {u w t : TS}

/-- kinds without texts -/
class EqT (α : Type) [Enc α] extends EqD α where
  all : ∀ a : α, ok a = true
instance : EqT Int := ⟨fun _ => rfl⟩
instance : EqT Bool := ⟨fun _ => rfl⟩
instance [E : EqT α] : EqT (List α) := ⟨fun a => List.all_eq_true.mpr fun x _ => E.all x⟩
instance [E1 : EqT α] [E2 : EqT β] : EqT (α × β) := ⟨fun a => by
  show (E1.ok a.1 && E2.ok a.2) = true
  rw [E1.all, E2.all]
  rfl⟩
instance [E1 : EqT α] [E2 : EqT β] [E3 : EqT γ] : EqT (T3 α β γ) := ⟨fun a => by
  show (E1.ok a.a && (E2.ok a.b && E3.ok a.c)) = true
  rw [E1.all, E2.all, E3.all]
  rfl⟩
theorem shaped_of [E : EqD α] (h : E.dep ≤ 64) (a : α) (ha : E.ok a = true) : SeqAt.shaped (toPy (enc a)) = true := by
  show (PyData.canLay0 (toPy (enc a)) && decide (PyData.depth (toPy (enc a)) ≤ 64)) = true
  rw [Bool.and_eq_true]
  exact ⟨E.lay a ha, decide_eq_true (Nat.le_trans (E.depth a) h)⟩
theorem em_eqD [E : EqT α] {m1 m2 : Option α} (hd : E.dep ≤ 64) (h1 : EvM K ta Γ m1) (h2 : EvM K tb Γ m2) : EvM K (tOp (rEqD K) ta tb) Γ (m1.bind fun a => m2.bind fun b => some (eqB a b)) := em_op (fun a b c e F H v w x ra rb Q q => by
  cases e
  refine ⟨toPy (enc a), toPy (enc b), E.dp K F H v a x ra, E.dp K F H w b x rb, shaped_of hd a (E.all a), shaped_of hd b (E.all b), ?_⟩
  rw [E.eqv]
  exact q _ F H (Ext.refl x) (.bl _)) h1 h2
theorem em_eqDs [E : EqD α] {m1 m2 : Option α} (hd : E.dep ≤ 64) (h1 : EvM K ta Γ m1) (h2 : EvM K tb Γ m2) : EvM K (tOp (rEqD K) ta tb) Γ (m1.bind fun a => m2.bind fun b => if E.ok a && E.ok b then some (eqB a b) else none) := em_op (fun a b c e F H v w x ra rb Q q => by
  split at e
  case isFalse => cases e
  rename_i hk
  rw [Bool.and_eq_true] at hk
  cases e
  refine ⟨toPy (enc a), toPy (enc b), E.dp K F H v a x ra, E.dp K F H w b x rb, shaped_of hd a hk.1, shaped_of hd b hk.2, ?_⟩
  rw [E.eqv]
  exact q _ F H (Ext.refl x) (.bl _)) h1 h2
theorem em_neD [E : EqT α] {m1 m2 : Option α} (hd : E.dep ≤ 64) (h1 : EvM K ta Γ m1) (h2 : EvM K tb Γ m2) : EvM K (tOp (rNeD K) ta tb) Γ (m1.bind fun a => m2.bind fun b => some (!eqB a b)) := em_op (fun a b c e F H v w x ra rb Q q => by
  cases e
  refine ⟨toPy (enc a), toPy (enc b), E.dp K F H v a x ra, E.dp K F H w b x rb, shaped_of hd a (E.all a), shaped_of hd b (E.all b), ?_⟩
  rw [E.eqv]
  exact q _ F H (Ext.refl x) (.bl _)) h1 h2
/-- lists read now -/
theorem em_neDs [E : EqD α] {m1 m2 : Option α} (hd : E.dep ≤ 64) (h1 : EvM K ta Γ m1) (h2 : EvM K tb Γ m2) : EvM K (tOp (rNeD K) ta tb) Γ (m1.bind fun a => m2.bind fun b => if E.ok a && E.ok b then some (!eqB a b) else none) := em_op (fun a b c e F H v w x ra rb Q q => by
  split at e
  case isFalse => cases e
  rename_i hk
  rw [Bool.and_eq_true] at hk
  cases e
  refine ⟨toPy (enc a), toPy (enc b), E.dp K F H v a x ra, E.dp K F H w b x rb, shaped_of hd a hk.1, shaped_of hd b hk.2, ?_⟩
  rw [E.eqv]
  exact q _ F H (Ext.refl x) (.bl _)) h1 h2
/-- lists read now -/
theorem em_eqL [E : EqT α] {m1 m2 : Option (List α)} (hd : E.dep + 1 ≤ 64) (h1 : EvL K ta Γ m1) (h2 : EvL K tb Γ m2) : EvM K (tOp (rEqD K) ta tb) Γ (m1.bind fun a => m2.bind fun b => some (eqB a b)) := fun c e F0 B F σ H k Q q => by
  obtain ⟨a, e1, e⟩ := Option.bind_eq_some_iff.mp e
  obtain ⟨b, e2, e⟩ := Option.bind_eq_some_iff.mp e
  cases e
  refine h1 a e1 F0 B F σ H k _ fun p vs F1 H1 x1 a1 r1 => ?_
  refine h2 b e2 F0 B F1 σ H1 (k.ext x1) _ fun p' ws F2 H2 x2 a2 r2 => ?_
  refine ⟨toPy (enc a), toPy (enc b), .lst (Evl.sq_of (x2.hh _ _ a1)) (dps_of x2.fh (r1.mono x2.ff)), .lst (Evl.sq_of a2) (dps_of x2.fh r2), shaped_of (E := inferInstance) hd a (EqT.all a), shaped_of (E := inferInstance) hd b (EqT.all b), ?_⟩
  have z := EqD.eqv a b
  rw [z]
  exact q _ F2 H2 (x1.trans x2) (.bl _)
theorem em_eqLs [E : EqD α] {m1 m2 : Option (List α)} (hd : E.dep + 1 ≤ 64) (h1 : EvL K ta Γ m1) (h2 : EvL K tb Γ m2) : EvM K (tOp (rEqD K) ta tb) Γ (m1.bind fun a => m2.bind fun b => if a.all E.ok && b.all E.ok then some (eqB a b) else none) := fun c e F0 B F σ H k Q q => by
  obtain ⟨a, e1, e⟩ := Option.bind_eq_some_iff.mp e
  obtain ⟨b, e2, e⟩ := Option.bind_eq_some_iff.mp e
  split at e
  case isFalse => cases e
  rename_i hk
  rw [Bool.and_eq_true] at hk
  cases e
  refine h1 a e1 F0 B F σ H k _ fun p vs F1 H1 x1 a1 r1 => ?_
  refine h2 b e2 F0 B F1 σ H1 (k.ext x1) _ fun p' ws F2 H2 x2 a2 r2 => ?_
  refine ⟨toPy (enc a), toPy (enc b), .lst (Evl.sq_of (x2.hh _ _ a1)) (dps_of x2.fh (r1.mono x2.ff)), .lst (Evl.sq_of a2) (dps_of x2.fh r2), shaped_of (E := inferInstance) hd a hk.1, shaped_of (E := inferInstance) hd b hk.2, ?_⟩
  have z := EqD.eqv a b
  rw [z]
  exact q _ F2 H2 (x1.trans x2) (.bl _)
theorem em_neL [E : EqT α] {m1 m2 : Option (List α)} (hd : E.dep + 1 ≤ 64) (h1 : EvL K ta Γ m1) (h2 : EvL K tb Γ m2) : EvM K (tOp (rNeD K) ta tb) Γ (m1.bind fun a => m2.bind fun b => some (!eqB a b)) := fun c e F0 B F σ H k Q q => by
  obtain ⟨a, e1, e⟩ := Option.bind_eq_some_iff.mp e
  obtain ⟨b, e2, e⟩ := Option.bind_eq_some_iff.mp e
  cases e
  refine h1 a e1 F0 B F σ H k _ fun p vs F1 H1 x1 a1 r1 => ?_
  refine h2 b e2 F0 B F1 σ H1 (k.ext x1) _ fun p' ws F2 H2 x2 a2 r2 => ?_
  refine ⟨toPy (enc a), toPy (enc b), .lst (Evl.sq_of (x2.hh _ _ a1)) (dps_of x2.fh (r1.mono x2.ff)), .lst (Evl.sq_of a2) (dps_of x2.fh r2), shaped_of (E := inferInstance) hd a (EqT.all a), shaped_of (E := inferInstance) hd b (EqT.all b), ?_⟩
  have z := EqD.eqv a b
  rw [z]
  exact q _ F2 H2 (x1.trans x2) (.bl _)
theorem em_neLs [E : EqD α] {m1 m2 : Option (List α)} (hd : E.dep + 1 ≤ 64) (h1 : EvL K ta Γ m1) (h2 : EvL K tb Γ m2) : EvM K (tOp (rNeD K) ta tb) Γ (m1.bind fun a => m2.bind fun b => if a.all E.ok && b.all E.ok then some (!eqB a b) else none) := fun c e F0 B F σ H k Q q => by
  obtain ⟨a, e1, e⟩ := Option.bind_eq_some_iff.mp e
  obtain ⟨b, e2, e⟩ := Option.bind_eq_some_iff.mp e
  split at e
  case isFalse => cases e
  rename_i hk
  rw [Bool.and_eq_true] at hk
  cases e
  refine h1 a e1 F0 B F σ H k _ fun p vs F1 H1 x1 a1 r1 => ?_
  refine h2 b e2 F0 B F1 σ H1 (k.ext x1) _ fun p' ws F2 H2 x2 a2 r2 => ?_
  refine ⟨toPy (enc a), toPy (enc b), .lst (Evl.sq_of (x2.hh _ _ a1)) (dps_of x2.fh (r1.mono x2.ff)), .lst (Evl.sq_of a2) (dps_of x2.fh r2), shaped_of (E := inferInstance) hd a hk.1, shaped_of (E := inferInstance) hd b hk.2, ?_⟩
  have z := EqD.eqv a b
  rw [z]
  exact q _ F2 H2 (x1.trans x2) (.bl _)
theorem any_eqv [E : EqD α] (a : α) : ∀ xs : List α, (toPys (xs.map enc)).any (fun z => PyData.eqv z (toPy (enc a))) = memB a xs
  | [] => rfl
  | x :: xs => by
    show (PyData.eqv (toPy (enc x)) (toPy (enc a)) || (toPys (xs.map enc)).any (fun z => PyData.eqv z (toPy (enc a)))) = _
    rw [E.eqv, any_eqv a xs]
    rfl
theorem em_inD [E : EqT α] {m1 : Option α} {m2 : Option (List α)} (hd : E.dep + 1 ≤ 64) (h1 : EvM K ta Γ m1) (h2 : EvL K tb Γ m2) : EvM K (tOp (rInD K) ta tb) Γ (m1.bind fun a => m2.bind fun b => some (memB a b)) := fun c e F0 B F σ H k Q q => by
  obtain ⟨a, e1, e⟩ := Option.bind_eq_some_iff.mp e
  obtain ⟨b, e2, e⟩ := Option.bind_eq_some_iff.mp e
  cases e
  refine h1 a e1 F0 B F σ H k _ fun v F1 H1 x1 r1 => ?_
  refine h2 b e2 F0 B F1 σ H1 (k.ext x1) _ fun p' ws F2 H2 x2 a2 r2 => ?_
  refine ⟨toPy (enc a), toPys (b.map enc), E.dp K F1 H2 v a (x1.fh.trans x2.hh) r1, .lst (Evl.sq_of a2) (dps_of x2.fh r2), shaped_of (Nat.le_trans (Nat.le_succ _) hd) a (E.all a), shaped_of (E := inferInstance) hd b (EqT.all b), ?_⟩
  rw [any_eqv]
  exact q _ F2 H2 (x1.trans x2) (.bl _)
theorem em_inDs [E : EqD α] {m1 : Option α} {m2 : Option (List α)} (hd : E.dep + 1 ≤ 64) (h1 : EvM K ta Γ m1) (h2 : EvL K tb Γ m2) : EvM K (tOp (rInD K) ta tb) Γ (m1.bind fun a => m2.bind fun b => if E.ok a && b.all E.ok then some (memB a b) else none) := fun c e F0 B F σ H k Q q => by
  obtain ⟨a, e1, e⟩ := Option.bind_eq_some_iff.mp e
  obtain ⟨b, e2, e⟩ := Option.bind_eq_some_iff.mp e
  split at e
  case isFalse => cases e
  rename_i hk
  rw [Bool.and_eq_true] at hk
  cases e
  refine h1 a e1 F0 B F σ H k _ fun v F1 H1 x1 r1 => ?_
  refine h2 b e2 F0 B F1 σ H1 (k.ext x1) _ fun p' ws F2 H2 x2 a2 r2 => ?_
  refine ⟨toPy (enc a), toPys (b.map enc), E.dp K F1 H2 v a (x1.fh.trans x2.hh) r1, .lst (Evl.sq_of a2) (dps_of x2.fh r2), shaped_of (Nat.le_trans (Nat.le_succ _) hd) a hk.1, shaped_of (E := inferInstance) hd b hk.2, ?_⟩
  rw [any_eqv]
  exact q _ F2 H2 (x1.trans x2) (.bl _)
theorem em_ninD [E : EqT α] {m1 : Option α} {m2 : Option (List α)} (hd : E.dep + 1 ≤ 64) (h1 : EvM K ta Γ m1) (h2 : EvL K tb Γ m2) : EvM K (tOp (rNotInD K) ta tb) Γ (m1.bind fun a => m2.bind fun b => some (!memB a b)) := fun c e F0 B F σ H k Q q => by
  obtain ⟨a, e1, e⟩ := Option.bind_eq_some_iff.mp e
  obtain ⟨b, e2, e⟩ := Option.bind_eq_some_iff.mp e
  cases e
  refine h1 a e1 F0 B F σ H k _ fun v F1 H1 x1 r1 => ?_
  refine h2 b e2 F0 B F1 σ H1 (k.ext x1) _ fun p' ws F2 H2 x2 a2 r2 => ?_
  refine ⟨toPy (enc a), toPys (b.map enc), E.dp K F1 H2 v a (x1.fh.trans x2.hh) r1, .lst (Evl.sq_of a2) (dps_of x2.fh r2), shaped_of (Nat.le_trans (Nat.le_succ _) hd) a (E.all a), shaped_of (E := inferInstance) hd b (EqT.all b), ?_⟩
  rw [any_eqv]
  exact q _ F2 H2 (x1.trans x2) (.bl _)
/-- x in xs, flat -/
theorem em_ninDs [E : EqD α] {m1 : Option α} {m2 : Option (List α)} (hd : E.dep + 1 ≤ 64) (h1 : EvM K ta Γ m1) (h2 : EvL K tb Γ m2) : EvM K (tOp (rNotInD K) ta tb) Γ (m1.bind fun a => m2.bind fun b => if E.ok a && b.all E.ok then some (!memB a b) else none) := fun c e F0 B F σ H k Q q => by
  obtain ⟨a, e1, e⟩ := Option.bind_eq_some_iff.mp e
  obtain ⟨b, e2, e⟩ := Option.bind_eq_some_iff.mp e
  split at e
  case isFalse => cases e
  rename_i hk
  rw [Bool.and_eq_true] at hk
  cases e
  refine h1 a e1 F0 B F σ H k _ fun v F1 H1 x1 r1 => ?_
  refine h2 b e2 F0 B F1 σ H1 (k.ext x1) _ fun p' ws F2 H2 x2 a2 r2 => ?_
  refine ⟨toPy (enc a), toPys (b.map enc), E.dp K F1 H2 v a (x1.fh.trans x2.hh) r1, .lst (Evl.sq_of a2) (dps_of x2.fh r2), shaped_of (Nat.le_trans (Nat.le_succ _) hd) a hk.1, shaped_of (E := inferInstance) hd b hk.2, ?_⟩
  rw [any_eqv]
  exact q _ F2 H2 (x1.trans x2) (.bl _)
/-- x in xs, flat -/
theorem scal_vs {α : Type} [Scal α] {F : Hp} : ∀ {xs : List α} {vs : List V}, Reps K F vs (xs.map enc) → vs = xs.map Scal.v
  | [], vs, r => r.nil_inv
  | x :: xs, vs, r => by
    obtain ⟨v, ws, rfl, r1, r2⟩ := r.cons_inv
    rw [Scal.rep K F v x r1, scal_vs r2]
    rfl
theorem flat_vs {α : Type} [Scal α] : ∀ xs : List α, (xs.map Scal.v).all flatV = true
  | [] => rfl
  | x :: xs => by
    simp only [List.map_cons, List.all_cons, Scal.flat, flat_vs xs, Bool.and_self]
theorem inV_vs {α : Type} [Scal α] (x : α) : ∀ xs : List α, inV (Scal.v x) (xs.map Scal.v) = decide (x ∈ xs)
  | [] => by simp [inV]
  | y :: ys => by
    have ih := inV_vs x ys
    unfold inV at ih ⊢
    simp only [List.map_cons, List.any_cons, Scal.eqv, ih, List.mem_cons, Bool.decide_or]
    congr 1
    by_cases h : x = y
    · subst h; rfl
    · rw [decide_eq_false h, decide_eq_false fun e => h e.symm]
theorem em_inS {α : Type} [Scal α] {m1 : Option α} {m2 : Option (List α)} (h1 : EvM K ta Γ m1) (h2 : EvL K tb Γ m2) : EvM K (tOp (rIn K false) ta tb) Γ (m1.bind fun a => m2.bind fun b => some (decide (a ∈ b))) := fun c e F0 B F σ H k Q q => by
  obtain ⟨a, e1, e⟩ := Option.bind_eq_some_iff.mp e
  obtain ⟨b, e2, e⟩ := Option.bind_eq_some_iff.mp e
  cases e
  refine h1 a e1 F0 B F σ H k _ fun v F1 H1 x1 r1 => ?_
  refine h2 b e2 F0 B F1 σ H1 (k.ext x1) _ fun p ws F2 H2 x2 a2 r2 => ?_
  rw [Scal.rep K F1 v a r1]
  refine ⟨p, ws, rfl, Or.inl (Evl.sq_of a2), Scal.flat a, by rw [scal_vs r2]; exact flat_vs b, ?_⟩
  rw [scal_vs r2, inV_vs]
  exact q _ F2 H2 (x1.trans x2) (.bl _)
theorem em_ninS {α : Type} [Scal α] {m1 : Option α} {m2 : Option (List α)} (h1 : EvM K ta Γ m1) (h2 : EvL K tb Γ m2) : EvM K (tOp (rIn K true) ta tb) Γ (m1.bind fun a => m2.bind fun b => some (!decide (a ∈ b))) := fun c e F0 B F σ H k Q q => by
  obtain ⟨a, e1, e⟩ := Option.bind_eq_some_iff.mp e
  obtain ⟨b, e2, e⟩ := Option.bind_eq_some_iff.mp e
  cases e
  refine h1 a e1 F0 B F σ H k _ fun v F1 H1 x1 r1 => ?_
  refine h2 b e2 F0 B F1 σ H1 (k.ext x1) _ fun p ws F2 H2 x2 a2 r2 => ?_
  rw [Scal.rep K F1 v a r1]
  refine ⟨p, ws, rfl, Or.inl (Evl.sq_of a2), Scal.flat a, by rw [scal_vs r2]; exact flat_vs b, ?_⟩
  rw [scal_vs r2, inV_vs]
  exact q _ F2 H2 (x1.trans x2) (.bl _)
/-- x in (a, b, ..) -/
theorem em_inT {α : Type} [Scal α] {m1 : Option α} {m2 : Option (Tu α)} {neg : Bool} (h1 : EvM K ta Γ m1) (h2 : EvM K tb Γ m2) : EvM K (tOp (rIn K neg) ta tb) Γ (m1.bind fun a => m2.bind fun b => some (if neg then !decide (a ∈ b.xs) else decide (a ∈ b.xs))) := fun c e F0 B F σ H k Q q => by
  obtain ⟨a, e1, e⟩ := Option.bind_eq_some_iff.mp e
  obtain ⟨b, e2, e⟩ := Option.bind_eq_some_iff.mp e
  cases e
  refine h1 a e1 F0 B F σ H k _ fun v F1 H1 x1 r1 => ?_
  refine h2 b e2 F0 B F1 σ H1 (k.ext x1) _ fun w F2 H2 x2 r2 => ?_
  obtain ⟨p, ws, rfl, a2, r3⟩ := Rep.tup_inv r2
  rw [Scal.rep K F1 v a r1]
  refine ⟨p, ws, rfl, Or.inr (Evl.st_of (x2.fh _ _ a2)), Scal.flat a, by rw [scal_vs r3]; exact flat_vs b.xs, ?_⟩
  rw [scal_vs r3, inV_vs]
  exact q _ F2 H2 (x1.trans x2) (.bl _)

/-! ### slices -/
def EvO (K : PySem.W.Frag) (to : TO) (Γ : List Sl) (m : Option (Option Int)) : Prop :=
  ∀ a, m = some a → ∀ (F0 B F : Hp) (σ : L2.St) (H : Hp), Ok K F0 B F Γ σ H → ∀ Q : Option Int → Hp → Prop, (∀ F' H', Ext F H F' H' → Q a H') → to σ H Q
theorem eo_none : EvO K tNoPart Γ (some none) := fun a e F0 B F σ H k Q q => by
  cases e
  exact q F H (Ext.refl k.fh)
theorem eo_some {m : Option Int} (h : EvM K te Γ m) : EvO K (tPart te) Γ (m.bind fun a => some (some a)) := fun a e F0 B F σ H k Q q => by
  obtain ⟨i, e1, e⟩ := Option.bind_eq_some_iff.mp e
  cases e
  exact h i e1 F0 B F σ H k _ fun v F1 H1 x1 r1 => ⟨i, r1.int_inv, q F1 H1 x1⟩
def cutL (xs : List α) (lo hi : Option Int) : List α := (xs.drop (HT.sIx xs.length 0 lo)).take (HT.sIx xs.length xs.length hi - HT.sIx xs.length 0 lo)
theorem en_slice {tl th : TO} {m : Option (List α)} {ml mh : Option (Option Int)} (h : EvL K te Γ m) (hl : EvO K tl Γ ml) (hh : EvO K th Γ mh) : EvN K (tSl (rSlL K) te tl th) Γ (m.bind fun xs => ml.bind fun l => mh.bind fun r => some (cutL xs l r)) := fun a e F0 B F σ H k Q q => by
  obtain ⟨xs, e1, e⟩ := Option.bind_eq_some_iff.mp e
  obtain ⟨l, e2, e⟩ := Option.bind_eq_some_iff.mp e
  obtain ⟨r, e3, e⟩ := Option.bind_eq_some_iff.mp e
  cases e
  refine h xs e1 F0 B F σ H k _ fun p vs F1 H1 x1 h1 r1 => ?_
  refine hl l e2 F0 B F1 σ H1 (k.ext x1) _ fun F2 H2 x2 => ?_
  refine hh r e3 F0 B F2 σ H2 (k.ext (x1.trans x2)) _ fun F3 H3 x3 => ⟨p, vs, rfl, Evl.sq_of (x3.hh _ _ (x2.hh _ _ h1)), fun p' hp => ?_⟩
  have x13 := (x1.trans x2).trans x3
  refine q p' _ F3 _ (x13.trans (Ext.newOwn x3.fh hp)) (Evl.fresh_back x13.hh hp) (none_of x3.fh hp) upd_same ?_
  unfold cutV cutL
  have z : vs.length = xs.length := by rw [r1.len, List.length_map]
  rw [z, List.map_take, List.map_drop]
  exact ((r1.mono (x2.ff.trans x3.ff)).drop _).take _
theorem em_sliceS {tl th : TO} {m : Option Str} {ml mh : Option (Option Int)} (h : EvM K te Γ m) (hl : EvO K tl Γ ml) (hh : EvO K th Γ mh) : EvM K (tSl rSlS te tl th) Γ (m.bind fun xs => ml.bind fun l => mh.bind fun r => if xs.length ≤ sizeLine then some (cutS xs l r) else none) := fun a e F0 B F σ H k Q q => by
  obtain ⟨xs, e1, e⟩ := Option.bind_eq_some_iff.mp e
  obtain ⟨l, e2, e⟩ := Option.bind_eq_some_iff.mp e
  obtain ⟨r, e3, e⟩ := Option.bind_eq_some_iff.mp e
  split at e
  case isFalse => cases e
  cases e
  refine h xs e1 F0 B F σ H k _ fun v F1 H1 x1 r1 => ?_
  refine hl l e2 F0 B F1 σ H1 (k.ext x1) _ fun F2 H2 x2 => ?_
  refine hh r e3 F0 B F2 σ H2 (k.ext (x1.trans x2)) _ fun F3 H3 x3 => ⟨xs, r1.str_inv, by assumption, q _ F3 H3 ((x1.trans x2).trans x3) (.str _)⟩

/-! ### list(), sorted, sum, min, max -/
theorem en_list {m : Option (List α)} (h : EvL K ta Γ m) : EvN K (tCB (Evl.rListS K) (tCons ta tNil)) Γ m := fun a e F0 B F σ H k Q q => by
  refine h a e F0 B F σ H k _ fun p vs F1 H1 x1 h1 r1 => ⟨p, vs, rfl, Or.inl (Evl.sq_of h1), fun l hl => ?_⟩
  exact q l vs F1 _ (x1.trans (Ext.newOwn x1.fh hl)) (Evl.fresh_back x1.hh hl) (none_of x1.fh hl) upd_same r1
theorem en_cat {m n : Option (List α)} (h : EvL K ta Γ m) (h' : EvL K tb Γ n) : EvN K (tOp rCat ta tb) Γ (m.bind fun xs => n.bind fun ys => exM xs ys) := fun a e F0 B F σ H k Q q => by
  obtain ⟨xs, e1, e4⟩ := Option.bind_eq_some_iff.mp e
  obtain ⟨ys, e2, e3⟩ := Option.bind_eq_some_iff.mp e4
  unfold exM at e3
  split at e3
  case isFalse => cases e3
  rename_i hl
  cases e3
  refine h xs e1 F0 B F σ H k _ fun p vs F1 H1 x1 h1 r1 => ?_
  refine h' ys e2 F0 B F1 σ H1 (k.ext x1) _ fun p' ws F2 H2 x2 h2 r2 => ⟨p, p', vs, ws, rfl, rfl, x2.hh _ _ h1, h2, by rw [r1.len, r2.len, List.length_map, List.length_map]; exact hl, fun l hn => ?_⟩
  have x12 := x1.trans x2
  exact q l _ F2 _ (x12.trans (Ext.newOwn x2.fh hn)) (Evl.fresh_back x12.hh hn) (none_of x2.fh hn) upd_same (by rw [List.map_append]; exact (r1.mono x2.ff).append r2)
theorem reps_ints {F : Hp} {vs : List V} {xs : List Int} (r : Reps K F vs (xs.map enc)) : vs = xs.map V.int := scal_vs r
theorem em_sum {m : Option (List Int)} (h : EvL K ta Γ m) : EvM K (tCB (rSum K) (tCons ta tNil)) Γ (m.bind fun xs => some xs.sum) := fun c e F0 B F σ H k Q q => by
  obtain ⟨xs, e1, e⟩ := Option.bind_eq_some_iff.mp e
  cases e
  exact h xs e1 F0 B F σ H k _ fun p vs F1 H1 x1 h1 r1 => ⟨p, xs, rfl, Evl.sq_of (by rw [h1, reps_ints r1]), q _ F1 H1 x1 (.int _)⟩
theorem em_minL {m : Option (List Int)} (h : EvL K ta Γ m) : EvM K (tCB (rMin K) (tCons ta tNil)) Γ (m.bind fun xs => xs.min?) := fun c e F0 B F σ H k Q q => by
  obtain ⟨xs, e1, e⟩ := Option.bind_eq_some_iff.mp e
  obtain ⟨hm, hl⟩ := List.min?_eq_some_iff.mp e
  refine h xs e1 F0 B F σ H k _ fun p vs F1 H1 x1 h1 r1 => ⟨p, xs, rfl, Evl.sq_of (by rw [h1, reps_ints r1]), List.length_pos_of_mem hm, fun y hy hle => ?_⟩
  have e2 : y = c := Int.le_antisymm (hle c hm) (hl y hy)
  rw [e2]
  exact q _ F1 H1 x1 (.int _)
theorem em_maxL {m : Option (List Int)} (h : EvL K ta Γ m) : EvM K (tCB (rMax K) (tCons ta tNil)) Γ (m.bind fun xs => xs.max?) := fun c e F0 B F σ H k Q q => by
  obtain ⟨xs, e1, e⟩ := Option.bind_eq_some_iff.mp e
  obtain ⟨hm, hl⟩ := List.max?_eq_some_iff.mp e
  refine h xs e1 F0 B F σ H k _ fun p vs F1 H1 x1 h1 r1 => ⟨p, xs, rfl, Evl.sq_of (by rw [h1, reps_ints r1]), List.length_pos_of_mem hm, fun y hy hle => ?_⟩
  have e2 : y = c := Int.le_antisymm (hl y hy) (hle c hm)
  rw [e2]
  exact q _ F1 H1 x1 (.int _)
def rMax2' : List V → Hp → VK → Prop := fun xs H Q => ∃ i j, xs = [.int i, .int j] ∧ Q (.int (if j > i then j else i)) H
def rMin2 : List V → Hp → VK → Prop := fun xs H Q => ∃ i j, xs = [.int i, .int j] ∧ Q (.int (if j < i then j else i)) H
def rAbs : List V → Hp → VK → Prop := fun xs H Q => ∃ i, xs = [.int i] ∧ Q (.int (if i < 0 then -i else i)) H
theorem call_max2' {X : Cx} (hc : X.calm = true) : CallR X (.builtin "max") rMax2' := call_max2 hc
theorem call_min2' {X : Cx} (hc : X.calm = true) : CallR X (.builtin "min") rMin2 := call_min2 hc
theorem call_abs' {X : Cx} : CallR X (.builtin "abs") rAbs := call_abs
theorem call_lenS {X : Cx} : CallR X (.builtin "len") (Evl.rLenS X.K) := call_len_seq
theorem call_listS {X : Cx} : CallR X (.type "list") (Evl.rListS X.K) := call_list_of
theorem em_max2 {m n : Option Int} (h : EvM K ta Γ m) (h' : EvM K tb Γ n) : EvM K (tCB rMax2' (tCons ta (tCons tb tNil))) Γ (m.bind fun a => n.bind fun b => some (max a b)) := fun c e F0 B F σ H k Q q => by
  obtain ⟨a, e1, e⟩ := Option.bind_eq_some_iff.mp e
  obtain ⟨b, e2, e⟩ := Option.bind_eq_some_iff.mp e
  cases e
  refine h a e1 F0 B F σ H k _ fun v F1 H1 x1 r1 => ?_
  refine h' b e2 F0 B F1 σ H1 (k.ext x1) _ fun w F2 H2 x2 r2 => ⟨a, b, by rw [r1.int_inv, r2.int_inv], ?_⟩
  have z : (if b > a then b else a) = max a b := by omega
  rw [z]
  exact q _ F2 H2 (x1.trans x2) (.int _)
theorem em_min2 {m n : Option Int} (h : EvM K ta Γ m) (h' : EvM K tb Γ n) : EvM K (tCB rMin2 (tCons ta (tCons tb tNil))) Γ (m.bind fun a => n.bind fun b => some (min a b)) := fun c e F0 B F σ H k Q q => by
  obtain ⟨a, e1, e⟩ := Option.bind_eq_some_iff.mp e
  obtain ⟨b, e2, e⟩ := Option.bind_eq_some_iff.mp e
  cases e
  refine h a e1 F0 B F σ H k _ fun v F1 H1 x1 r1 => ?_
  refine h' b e2 F0 B F1 σ H1 (k.ext x1) _ fun w F2 H2 x2 r2 => ⟨a, b, by rw [r1.int_inv, r2.int_inv], ?_⟩
  have z : (if b < a then b else a) = min a b := by omega
  rw [z]
  exact q _ F2 H2 (x1.trans x2) (.int _)
theorem em_abs {m : Option Int} (h : EvM K ta Γ m) : EvM K (tCB rAbs (tCons ta tNil)) Γ (m.bind fun a => some ((a.natAbs : Nat) : Int)) := fun c e F0 B F σ H k Q q => by
  obtain ⟨a, e1, e⟩ := Option.bind_eq_some_iff.mp e
  cases e
  refine h a e1 F0 B F σ H k _ fun v F1 H1 x1 r1 => ⟨a, by rw [r1.int_inv], ?_⟩
  have z : (if a < 0 then -a else a) = ((a.natAbs : Nat) : Int) := by omega
  rw [z]
  exact q _ F1 H1 x1 (.int _)
/-- int(flag) -/
def rInt1 : List V → Hp → VK → Prop := fun xs H Q => (∃ i, xs = [.int i] ∧ Q (.int i) H) ∨ ∃ k, xs = [.bl k] ∧ Q (.int (if k then 1 else 0)) H
theorem call_int1' {X : Cx} : CallR X (.type "int") rInt1 := call_int1
def b2i (b : Bool) : Int := if b = true then 1 else 0
theorem em_intB {m : Option Bool} (h : EvM K ta Γ m) : EvM K (tCB rInt1 (tCons ta tNil)) Γ (m.bind fun a => some (b2i a)) := fun c e F0 B F σ H k Q q => by
  obtain ⟨a, e1, e⟩ := Option.bind_eq_some_iff.mp e
  cases e
  exact h a e1 F0 B F σ H k _ fun v F1 H1 x1 r1 => .inr ⟨a, by rw [r1.bl_inv], q _ F1 H1 x1 (.int _)⟩
/-- sorted, ints -/
def sortI (xs : List Int) : List Int := xs.mergeSort (fun a b => decide (a ≤ b))
theorem sortI_perm (xs : List Int) : (sortI xs).Perm xs := List.mergeSort_perm xs _
theorem sortI_sorted (xs : List Int) : (sortI xs).Pairwise (· ≤ ·) := by
  have h := List.pairwise_mergeSort (le := fun a b : Int => decide (a ≤ b)) (fun a b c h1 h2 => by simp at h1 h2 ⊢; omega) (fun a b => by simp; omega) xs
  exact h.imp fun h => by simpa using h
theorem sortI_eq {xs ys : List Int} (h1 : ys.Perm xs) (h2 : ys.Pairwise (· ≤ ·)) : ys = sortI xs :=
  List.Perm.eq_of_pairwise (fun a b _ _ h3 h4 => Int.le_antisymm h3 h4) h2 (sortI_sorted xs) (h1.trans (sortI_perm xs).symm)
theorem vs_reps {F : Hp} : ∀ xs : List Int, Reps K F (xs.map V.int) (xs.map enc)
  | [] => .nil
  | x :: xs => .cons (.int x) (vs_reps xs)
theorem en_sortI {m : Option (List Int)} (h : EvL K ta Γ m) : EvN K (tCB (rSortedI K) (tCons ta tNil)) Γ (m.bind fun xs => some (sortI xs)) := fun c e F0 B F σ H k Q q => by
  obtain ⟨xs, e1, e⟩ := Option.bind_eq_some_iff.mp e
  cases e
  refine h xs e1 F0 B F σ H k _ fun p vs F1 H1 x1 h1 r1 => ⟨p, xs, rfl, Evl.sq_of (by rw [h1, reps_ints r1]), fun ns l a1 a2 hl => ?_⟩
  rw [sortI_eq a1 a2]
  exact q l _ F1 _ (x1.trans (Ext.newOwn x1.fh hl)) (Evl.fresh_back x1.hh hl) (none_of x1.fh hl) upd_same (vs_reps _)
/-- sorted, pairs of ints -/
def leP (p q : Int × Int) : Bool := decide (p.1 < q.1) || (decide (p.1 = q.1) && decide (p.2 ≤ q.2))
def sortP (xs : List (Int × Int)) : List (Int × Int) := xs.mergeSort leP
theorem leP_iff {p q : Int × Int} : leP p q = true ↔ p.1 < q.1 ∨ (p.1 = q.1 ∧ p.2 ≤ q.2) := by
  unfold leP
  simp
theorem sortP_perm (xs : List (Int × Int)) : (sortP xs).Perm xs := List.mergeSort_perm xs _
theorem sortP_sorted (xs : List (Int × Int)) : (sortP xs).Pairwise (fun p q => leP p q = true) :=
  List.pairwise_mergeSort (fun a b c h1 h2 => by rw [leP_iff] at h1 h2 ⊢; omega) (fun a b => by rw [Bool.or_eq_true, leP_iff, leP_iff]; omega) xs
theorem sortP_eq {xs ys : List (Int × Int)} (h1 : ys.Perm xs) (h2 : ys.Pairwise (fun p q => leP p q = true)) : ys = sortP xs :=
  List.Perm.eq_of_pairwise (le := fun p q => leP p q = true) (fun a b _ _ h3 h4 => by
    rw [leP_iff] at h3 h4
    exact Prod.ext (by omega) (by omega)) h2 (sortP_sorted xs) (h1.trans (sortP_perm xs).symm)
open Classical in
noncomputable def pairAt (H : Hp) (v : V) : Int × Int := if h : ∃ t a b, v = .ref t ∧ H t = some (.tup [.int a, .int b]) then (h.choose_spec.choose, h.choose_spec.choose_spec.choose) else (0, 0)
theorem pairAt_eq {H : Hp} {t : Addr} {a b : Int} (h : H t = some (.tup [.int a, .int b])) : pairAt H (.ref t) = (a, b) := by
  have hx : ∃ t' a' b', V.ref t = .ref t' ∧ H t' = some (.tup [.int a', .int b']) := ⟨t, a, b, rfl, h⟩
  unfold pairAt
  rw [dif_pos hx]
  obtain ⟨e1, e2⟩ := hx.choose_spec.choose_spec.choose_spec
  have e3 := V.ref.inj e1
  have e5 : H hx.choose = some (HO.tup [V.int a, V.int b]) := e3 ▸ h
  have e4 := HO.tup.inj (Option.some.inj (e5.symm.trans e2))
  simp only [List.cons.injEq, V.int.injEq, and_true] at e4
  exact Prod.ext e4.1.symm e4.2.symm
theorem pair_inv {F : Hp} {v : V} {p : Int × Int} (r : Rep K F v (enc p)) : ∃ t, v = .ref t ∧ F t = some (.tup [.int p.1, .int p.2]) := by
  obtain ⟨t, vs, rfl, h1, h2⟩ := Rep.tup_inv r
  obtain ⟨v1, ws, rfl, r1, h3⟩ := h2.cons_inv
  obtain ⟨v2, ws, rfl, r2, h4⟩ := h3.cons_inv
  cases h4.nil_inv
  exact ⟨t, rfl, by rw [h1, Rep.int_inv r1, Rep.int_inv r2]⟩
theorem pairs_map {F H : Hp} (x : Ex F H) : ∀ {xs : List (Int × Int)} {vs : List V}, Reps K F vs (xs.map enc) → vs.map (pairAt H) = xs ∧ ∀ v ∈ vs, ∃ t, v = .ref t ∧ F t = some (.tup [.int (pairAt H v).1, .int (pairAt H v).2])
  | [], vs, r => by rw [r.nil_inv]; exact ⟨rfl, fun v h => by cases h⟩
  | p :: xs, vs, r => by
    obtain ⟨v, ws, rfl, r1, r2⟩ := r.cons_inv
    obtain ⟨t, rfl, h⟩ := pair_inv r1
    obtain ⟨a, b⟩ := pairs_map x r2
    have e := pairAt_eq (x _ _ h)
    refine ⟨by rw [List.map_cons, a, e], fun w hw => ?_⟩
    rcases List.mem_cons.mp hw with rfl | hw
    · exact ⟨t, rfl, by rw [e]; exact h⟩
    · exact b w hw
theorem reps_pairs {F H : Hp} : ∀ {vs : List V}, (∀ v ∈ vs, ∃ t, v = .ref t ∧ F t = some (.tup [.int (pairAt H v).1, .int (pairAt H v).2])) → Reps K F vs ((vs.map (pairAt H)).map enc)
  | [], _ => .nil
  | v :: vs, h => by
    obtain ⟨t, rfl, e⟩ := h v (by simp)
    refine .cons ?_ (reps_pairs fun w hw => h w (List.mem_cons_of_mem _ hw))
    exact .tup e rfl (Reps.cons (.int _) (.cons (.int _) .nil)).at_
theorem en_sortP {m : Option (List (Int × Int))} (h : EvL K ta Γ m) : EvN K (tCB (rSortedPO K) (tCons ta tNil)) Γ (m.bind fun xs => some (sortP xs)) := fun c e F0 B F σ H k Q q => by
  obtain ⟨xs, e1, e⟩ := Option.bind_eq_some_iff.mp e
  cases e
  refine h xs e1 F0 B F σ H k _ fun p vs F1 H1 x1 h1 r1 => ?_
  obtain ⟨a1, a2⟩ := pairs_map x1.fh r1
  refine ⟨p, vs, pairAt H1, rfl, Evl.sq_of h1, fun v hv => ?_, fun ys l s1 s2 hl => ?_⟩
  · obtain ⟨t, e1, e2⟩ := a2 v hv
    exact ⟨t, e1, x1.fh _ _ e2⟩
  · have pm : (ys.map (pairAt H1)).Perm xs := by
      rw [← a1]
      exact s2.perm.map _
    have srt : (ys.map (pairAt H1)).Pairwise (fun p q => leP p q = true) := by
      refine List.pairwise_map.mpr (List.Pairwise.imp (fun {a b} hab => ?_) s1)
      have z : SrtO.lexB (pairAt H1 b) (pairAt H1 a) = false := hab
      have z2 := SrtO.lexB_no.mp z
      rw [leP_iff]
      omega
    rw [← sortP_eq pm srt] at q
    exact q l ys F1 _ (x1.trans (Ext.newOwn x1.fh hl)) (Evl.fresh_back x1.hh hl) (none_of x1.fh hl) upd_same (reps_pairs fun v hv => a2 v (s2.perm.mem_iff.mp hv))

/-! ### isinstance -/
/-- the built-in type of all values of a kind -/
class TyE (α : Type) [Enc α] where
  ty : String
  is : ∀ (K : PySem.W.Frag) (F H : Hp) (v : V) (a : α), Ex F H → Rep K F v (enc a) → TyX K H v (.type ty)
instance : TyE Int := ⟨"int", fun K F H v a x r => by rw [r.int_inv]; exact .base (.int a)⟩
instance : TyE Bool := ⟨"bool", fun K F H v a x r => by rw [r.bl_inv]; exact .base (.bl a)⟩
instance : TyE Str := ⟨"str", fun K F H v a x r => by rw [r.str_inv]; exact .base (.str a)⟩
instance : TyE (List α) := ⟨"list", fun K F H v a x r => by obtain ⟨p, vs, rfl, h1, h2⟩ := r.lst_inv; exact .base (.lst (x _ _ h1))⟩
instance : TyE (α × β) := ⟨"tuple", fun K F H v a x r => by obtain ⟨p, vs, rfl, h1, h2⟩ := Rep.tup_inv r; exact .base (.tup (x _ _ h1))⟩
instance : TyE (T3 α β γ) := ⟨"tuple", fun K F H v a x r => by obtain ⟨p, vs, rfl, h1, h2⟩ := Rep.tup_inv r; exact .base (.tup (x _ _ h1))⟩
instance : TyE (T4 α β γ δ) := ⟨"tuple", fun K F H v a x r => by obtain ⟨p, vs, rfl, h1, h2⟩ := Rep.tup_inv r; exact .base (.tup (x _ _ h1))⟩
instance : TyE (Tu α) := ⟨"tuple", fun K F H v a x r => by obtain ⟨p, vs, rfl, h1, h2⟩ := Rep.tup_inv r; exact .base (.tup (x _ _ h1))⟩
theorem em_isi [Ty : TyE α] {T' : String} {b : Bool} (hk : kitB Ty.ty T' = some b) (h : EvM K ta Γ ma) : EvM K (tCB (rIsi K) (tCons ta (tCons (tC (.ty T')) tNil))) Γ (ma.bind fun _ => some b) := fun c e F0 B F σ H k Q q => by
  obtain ⟨a, e1, e⟩ := Option.bind_eq_some_iff.mp e
  cases e
  refine h a e1 F0 B F σ H k _ fun v F1 H1 x1 r1 => ?_
  exact ⟨v, .ty T', .type Ty.ty, .type T', b, rfl, .ty T', Ty.is K F1 H1 v a x1.fh r1, kit_ty hk, q _ F1 H1 x1 (.bl _)⟩
theorem em_isiL {T' : String} {b : Bool} {m : Option (List α)} (hk : kitB "list" T' = some b) (h : EvL K ta Γ m) : EvM K (tCB (rIsi K) (tCons ta (tCons (tC (.ty T')) tNil))) Γ (m.bind fun _ => some b) := fun c e F0 B F σ H k Q q => by
  obtain ⟨a, e1, e⟩ := Option.bind_eq_some_iff.mp e
  cases e
  refine h a e1 F0 B F σ H k _ fun p vs F1 H1 x1 h1 r1 => ?_
  exact ⟨.ref p, .ty T', .type "list", .type T', b, rfl, .ty T', .base (.lst h1), kit_ty hk, q _ F1 H1 x1 (.bl _)⟩

/-! ### a def keeps its promise -/
theorem start_ok {F H : Hp} {vs : List V} {ds : List D} (x : Ex F H) (r : Reps K F vs ds) (n : Nat) : Ok K F H F (ds.map Sl.fz ++ List.replicate n .no) (vs.map some ++ List.replicate n none) H := by
  refine ⟨Ex.refl F, x, Ex.refl H, fun _ _ _ => rfl, [], ?_, List.nodup_nil, fun p hp => by cases hp⟩
  have none : ∀ n : Nat, SlRs K F H (List.replicate n .no) (List.replicate n none) [] := by
    intro n
    induction n with
    | zero => exact .nil
    | succ n ih =>
      rw [List.replicate_succ, List.replicate_succ]
      exact SlRs.cons (fp := []) rfl ih
  have all : ∀ (ds : List D) (vs : List V), Reps K F vs ds → SlRs K F H (ds.map Sl.fz ++ List.replicate n .no) (vs.map some ++ List.replicate n Option.none) [] := by
    intro ds
    induction ds with
    | nil =>
      intro vs r
      rw [r.nil_inv]
      exact none n
    | cons d ds ih =>
      intro vs r
      obtain ⟨v, ws, rfl, r1, r2⟩ := r.cons_inv
      exact SlRs.cons (fp := []) ⟨rfl, v, rfl, r1⟩ (ih ws r2)
  exact all ds vs r
theorem start_eq {N : List Str} {vs : List V} {n j : Nat} (h : vs.length = n) (hN : N.length = n + j) : L2.start N vs = vs.map some ++ List.replicate j none := by
  unfold L2.start
  rw [h, hN, Nat.add_sub_cancel_left]
/-- a def that hands back a value -/
theorem fn_M {n j : Nat} {P : List D → Option γ → Prop} {N : List Str} (hN : N.length = n + j) (hb : ∀ ds m, ds.length = n → P ds m → BM K t (ds.map Sl.fz ++ List.replicate j .no) m (hdF K)) (vs : List V) (H : Hp) (Q : VK) (E : XK) (h : spM K n P vs H Q E) :
    t { nx := fun _ H' => Q .non H', rt := Q } (L2.start N vs) H := by
  obtain ⟨ds, m, c, F, h1, h2, h3, h4, h5, h6⟩ := h
  rw [start_eq (by rw [h3.len, h1]) hN]
  refine hb ds m h1 h4 c h5 F H F _ H _ (start_ok h2 h3 j) ?_
  intro v F' H' k r
  exact h6 v F' H' ⟨k.f0, k.bh, k.fh, fun q o e => k.nb q o e⟩ r
theorem len_M {n : Nat} {P : List D → Option γ → Prop} (vs : List V) (H : Hp) (Q : VK) (E : XK) (h : spM K n P vs H Q E) : vs.length = n := by
  obtain ⟨ds, m, c, F, h1, h2, h3, _⟩ := h
  rw [h3.len, h1]
theorem fn1 {j : Nat} {N : List Str} {f : α → Option γ} (hN : N.length = 1 + j) (hb : ∀ a, BM K t (.f a :: List.replicate j .no) (f a) (hdF K)) (vs : List V) (H : Hp) (Q : VK) (E : XK) (h : sp1 K f vs H Q E) : t { nx := fun _ H' => Q .non H', rt := Q } (L2.start N vs) H :=
  fn_M hN (fun ds m _ p => by obtain ⟨a, rfl, rfl⟩ := p; exact hb a) vs H Q E h
theorem fn2 {j : Nat} {N : List Str} {f : α → β → Option γ} (hN : N.length = 2 + j) (hb : ∀ a b, BM K t (.f a :: .f b :: List.replicate j .no) (f a b) (hdF K)) (vs : List V) (H : Hp) (Q : VK) (E : XK) (h : sp2 K f vs H Q E) : t { nx := fun _ H' => Q .non H', rt := Q } (L2.start N vs) H :=
  fn_M hN (fun ds m _ p => by obtain ⟨a, b, rfl, rfl⟩ := p; exact hb a b) vs H Q E h
theorem fn3 {j : Nat} {N : List Str} {f : α → β → γ → Option δ} (hN : N.length = 3 + j) (hb : ∀ a b c, BM K t (.f a :: .f b :: .f c :: List.replicate j .no) (f a b c) (hdF K)) (vs : List V) (H : Hp) (Q : VK) (E : XK) (h : sp3 K f vs H Q E) : t { nx := fun _ H' => Q .non H', rt := Q } (L2.start N vs) H :=
  fn_M hN (fun ds m _ p => by obtain ⟨a, b, c, rfl, rfl⟩ := p; exact hb a b c) vs H Q E h
variable {ε ζ η : Type} [Enc ε] [Enc ζ] [Enc η]
theorem fn4 {j : Nat} {N : List Str} {f : α → β → γ → δ → Option ε} (hN : N.length = 4 + j) (hb : ∀ a b c d, BM K t (.f a :: .f b :: .f c :: .f d :: List.replicate j .no) (f a b c d) (hdF K)) (vs : List V) (H : Hp) (Q : VK) (E : XK) (h : sp4 K f vs H Q E) : t { nx := fun _ H' => Q .non H', rt := Q } (L2.start N vs) H :=
  fn_M hN (fun ds m _ p => by obtain ⟨a, b, c, d, rfl, rfl⟩ := p; exact hb a b c d) vs H Q E h
theorem fn5 {j : Nat} {N : List Str} {f : α → β → γ → δ → ε → Option ζ} (hN : N.length = 5 + j) (hb : ∀ a b c d e, BM K t (.f a :: .f b :: .f c :: .f d :: .f e :: List.replicate j .no) (f a b c d e) (hdF K)) (vs : List V) (H : Hp) (Q : VK) (E : XK) (h : sp5 K f vs H Q E) : t { nx := fun _ H' => Q .non H', rt := Q } (L2.start N vs) H :=
  fn_M hN (fun ds m _ p => by obtain ⟨a, b, c, d, e, rfl, rfl⟩ := p; exact hb a b c d e) vs H Q E h
theorem fn6 {j : Nat} {N : List Str} {f : α → β → γ → δ → ε → ζ → Option η} (hN : N.length = 6 + j) (hb : ∀ a b c d e z, BM K t (.f a :: .f b :: .f c :: .f d :: .f e :: .f z :: List.replicate j .no) (f a b c d e z) (hdF K)) (vs : List V) (H : Hp) (Q : VK) (E : XK) (h : sp6 K f vs H Q E) : t { nx := fun _ H' => Q .non H', rt := Q } (L2.start N vs) H :=
  fn_M hN (fun ds m _ p => by obtain ⟨a, b, c, d, e, z, rfl, rfl⟩ := p; exact hb a b c d e z) vs H Q E h
end
end M
/-! M7: the same where nothing can fail; defs by name -/
namespace M
open PySem L2
open Evl (Ex)
open Enc (enc)

section
variable {K : PySem.W.Frag} {Γ : List Sl} {α β γ δ : Type} [Enc α] [Enc β] [Enc γ] [Enc δ] {ta tb tc te tp : TE} {ma : Option α} {mb : Option β} {mc : Option γ} {T A S R : Type} {hd : Hdl T} {u w t : TS}
theorem em_addP {a b : Int} (ha : EvM K ta Γ (some a)) (hb : EvM K tb Γ (some b)) : EvM K (tOp (rI0 fun i j => .int (i + j)) ta tb) Γ (some (a + b)) := em_add ha hb
theorem em_subP {a b : Int} (ha : EvM K ta Γ (some a)) (hb : EvM K tb Γ (some b)) : EvM K (tOp (rI0 fun i j => .int (i - j)) ta tb) Γ (some (a - b)) := em_sub ha hb
theorem em_mulP {a b : Int} (ha : EvM K ta Γ (some a)) (hb : EvM K tb Γ (some b)) : EvM K (tOp (rI CMulX fun i j => .int (i * j)) ta tb) Γ (mulM a b) := em_mul ha hb
theorem em_divP {a b : Int} (ha : EvM K ta Γ (some a)) (hb : EvM K tb Γ (some b)) : EvM K (tOp (rI CDivW fun i j => .int (i / j)) ta tb) Γ (divM a b) := em_div ha hb
theorem em_modP {a b : Int} (ha : EvM K ta Γ (some a)) (hb : EvM K tb Γ (some b)) : EvM K (tOp (rI (fun _ j => 0 < j) fun i j => .int (i % j)) ta tb) Γ (modM a b) := em_mod ha hb
theorem em_shrP {a b : Int} (ha : EvM K ta Γ (some a)) (hb : EvM K tb Γ (some b)) : EvM K (tOp (rI (fun _ j => 0 ≤ j) fun i j => .int (i / 2 ^ j.toNat)) ta tb) Γ (shrM a b) := em_shr ha hb
theorem em_divCP {a n : Int} (hn : CDivW 0 n) (ha : EvM K ta Γ (some a)) (hb : EvM K tb Γ (some n)) : EvM K (tOp (rI CDivW fun i j => .int (i / j)) ta tb) Γ (some (a / n)) := em_divC ha hb hn
theorem em_modCP {a n : Int} (hn : 0 < n) (ha : EvM K ta Γ (some a)) (hb : EvM K tb Γ (some n)) : EvM K (tOp (rI (fun _ j => 0 < j) fun i j => .int (i % j)) ta tb) Γ (some (a % n)) := em_modC ha hb hn
theorem em_divCM {ma : Option Int} {n : Int} (hn : CDivW 0 n) (ha : EvM K ta Γ ma) (hb : EvM K tb Γ (some n)) : EvM K (tOp (rI CDivW fun i j => .int (i / j)) ta tb) Γ (ma.bind fun a => some (a / n)) := em_divC ha hb hn
theorem em_modCM {ma : Option Int} {n : Int} (hn : 0 < n) (ha : EvM K ta Γ ma) (hb : EvM K tb Γ (some n)) : EvM K (tOp (rI (fun _ j => 0 < j) fun i j => .int (i % j)) ta tb) Γ (ma.bind fun a => some (a % n)) := em_modC ha hb hn
/-- a factor known and small -/
theorem em_mulCM {ma : Option Int} {n : Int} (hn : -(2 ^ 64) < n ∧ n < 2 ^ 64) (ha : EvM K ta Γ ma) (hb : EvM K tb Γ (some n)) : EvM K (tOp (rI CMul fun i j => .int (i * j)) ta tb) Γ (ma.bind fun a => some (a * n)) := fun c e F0 B F σ H k Q q => by
  obtain ⟨a, e1, e⟩ := Option.bind_eq_some_iff.mp e
  cases e
  refine ha a e1 F0 B F σ H k _ fun v F1 H1 x1 r1 => ?_
  refine hb n rfl F0 B F1 σ H1 (k.ext x1) _ fun w F2 H2 x2 r2 => ?_
  exact ⟨a, n, r1.int_inv, r2.int_inv, .inr hn, q _ F2 H2 (x1.trans x2) (.int _)⟩
theorem em_mulDM {mb : Option Int} {n : Int} (hn : -(2 ^ 64) < n ∧ n < 2 ^ 64) (ha : EvM K ta Γ (some n)) (hb : EvM K tb Γ mb) : EvM K (tOp (rI CMul fun i j => .int (i * j)) ta tb) Γ (mb.bind fun b => some (n * b)) := fun c e F0 B F σ H k Q q => by
  obtain ⟨b, e1, e⟩ := Option.bind_eq_some_iff.mp e
  cases e
  refine ha n rfl F0 B F σ H k _ fun v F1 H1 x1 r1 => ?_
  refine hb b e1 F0 B F1 σ H1 (k.ext x1) _ fun w F2 H2 x2 r2 => ?_
  exact ⟨n, b, r1.int_inv, r2.int_inv, .inl hn, q _ F2 H2 (x1.trans x2) (.int _)⟩
theorem em_mulCP {a n : Int} (hn : -(2 ^ 64) < n ∧ n < 2 ^ 64) (ha : EvM K ta Γ (some a)) (hb : EvM K tb Γ (some n)) : EvM K (tOp (rI CMul fun i j => .int (i * j)) ta tb) Γ (some (a * n)) := em_mulCM hn ha hb
theorem em_mulDP {a n : Int} (hn : -(2 ^ 64) < n ∧ n < 2 ^ 64) (ha : EvM K ta Γ (some n)) (hb : EvM K tb Γ (some a)) : EvM K (tOp (rI CMul fun i j => .int (i * j)) ta tb) Γ (some (n * a)) := em_mulDM hn ha hb
theorem em_negP {a : Int} (ha : EvM K ta Γ (some a)) : EvM K (tUn (rU fun i => .int (-i)) ta) Γ (some (-a)) := em_neg ha
theorem em_ltP {a b : Int} (ha : EvM K ta Γ (some a)) (hb : EvM K tb Γ (some b)) : EvM K (tOp (rI0 fun i j => .bl (decide (i < j))) ta tb) Γ (some (decide (a < b))) := em_lt ha hb
theorem em_leP {a b : Int} (ha : EvM K ta Γ (some a)) (hb : EvM K tb Γ (some b)) : EvM K (tOp (rI0 fun i j => .bl (decide (i ≤ j))) ta tb) Γ (some (decide (a ≤ b))) := em_le ha hb
theorem em_gtP {a b : Int} (ha : EvM K ta Γ (some a)) (hb : EvM K tb Γ (some b)) : EvM K (tOp (rI0 fun i j => .bl (decide (j < i))) ta tb) Γ (some (decide (b < a))) := em_gt ha hb
theorem em_geP {a b : Int} (ha : EvM K ta Γ (some a)) (hb : EvM K tb Γ (some b)) : EvM K (tOp (rI0 fun i j => .bl (decide (j ≤ i))) ta tb) Γ (some (decide (b ≤ a))) := em_ge ha hb
theorem em_eqSP {α : Type} [Scal α] {a b : α} (ha : EvM K ta Γ (some a)) (hb : EvM K tb Γ (some b)) : EvM K (tOp rEq ta tb) Γ (some (decide (a = b))) := em_eqS ha hb
theorem em_neSP {α : Type} [Scal α] {a b : α} (ha : EvM K ta Γ (some a)) (hb : EvM K tb Γ (some b)) : EvM K (tOp rNe ta tb) Γ (some (!decide (a = b))) := em_neS ha hb
theorem em_isNP [NotNon α] {a : Option α} (ha : EvM K ta Γ (some a)) : EvM K (tIsN ta) Γ (some a.isNone) := em_isN ha
theorem em_notNP [NotNon α] {a : Option α} (ha : EvM K ta Γ (some a)) : EvM K (tNotN ta) Γ (some a.isSome) := em_notN ha
theorem et_notP {t : TT} {a : Bool} (h : EvT K t Γ (some a)) : EvT K (tNot t) Γ (some (!a)) := et_not h
theorem em_notVP {a : Bool} (h : EvM K ta Γ (some a)) : EvM K (tNotV ta) Γ (some (!a)) := em_notV h
theorem em_ifP {t : TT} {b : Bool} {n1 n2 : Option α} (h : EvT K t Γ (some b)) (h1 : EvM K ta Γ n1) (h2 : EvM K tb Γ n2) : EvM K (tIf t ta tb) Γ (if b = true then n1 else n2) := em_if h h1 h2
theorem eh_consP {tr : TA} {a : α} {r : List α} (h : EvM K ta Γ (some a)) (hr : EvH K tr Γ (some r)) : EvH K (tCons ta tr) Γ (some (a :: r)) := eh_cons h hr
theorem em_t2P {a : α} {b : β} (ha : EvM K ta Γ (some a)) (hb : EvM K tb Γ (some b)) : EvM K (tTup (tCons ta (tCons tb tNil))) Γ (some (a, b)) := em_t2 ha hb
theorem em_t3P {a : α} {b : β} {c : γ} (ha : EvM K ta Γ (some a)) (hb : EvM K tb Γ (some b)) (hc : EvM K tc Γ (some c)) : EvM K (tTup (tCons ta (tCons tb (tCons tc tNil)))) Γ (some (T3.mk a b c)) := em_t3 ha hb hc
theorem em_t4P {td : TE} {a : α} {b : β} {c : γ} {d : δ} (ha : EvM K ta Γ (some a)) (hb : EvM K tb Γ (some b)) (hc : EvM K tc Γ (some c)) (hd : EvM K td Γ (some d)) : EvM K (tTup (tCons ta (tCons tb (tCons tc (tCons td tNil))))) Γ (some (T4.mk a b c d)) := em_t4 ha hb hc hd
theorem em_tuP {t : TA} {xs : List α} (hl : xs.length ≤ 1000) (h : EvH K t Γ (some xs)) : EvM K (tTup t) Γ (some (Tu.mk xs)) := em_tu h fun ds e => by cases e; exact hl
theorem en_lstP {t : TA} {xs : List α} (hl : xs.length ≤ 1000) (h : EvH K t Γ (some xs)) : EvN K (tLst t) Γ (some xs) := en_lst h fun ds e => by cases e; exact hl
theorem em_lenP {xs : List α} (h : EvL K ta Γ (some xs)) : EvM K (tCB (Evl.rLenS K) (tCons ta tNil)) Γ (some (xs.length : Int)) := em_len h
theorem em_lenCP {xs : Scr} (h : EvM K ta Γ (some xs)) : EvM K (tCB (Evl.rLenS K) (tCons ta tNil)) Γ (some (xs.ns.length : Int)) := em_lenC h
theorem em_ixLP {xs : List α} {i : Int} (h : EvL K ta Γ (some xs)) (hi : EvM K tb Γ (some i)) : EvM K (tOp (rIxL K) ta tb) Γ (atI xs i) := em_ixL h hi
theorem em_ixCP {xs : Scr} {i : Int} (h : EvM K ta Γ (some xs)) (hi : EvM K tb Γ (some i)) : EvM K (tOp (rIxL K) ta tb) Γ (atI xs.ns i) := em_ixC h hi
theorem em_fstP {a : α × β} (h : EvM K ta Γ (some a)) : EvM K (tOp (rIxT K) ta (tC (.int 0))) Γ (some a.1) := em_fst h
theorem em_sndP {a : α × β} (h : EvM K ta Γ (some a)) : EvM K (tOp (rIxT K) ta (tC (.int 1))) Γ (some a.2) := em_snd h
theorem em_3aP {a : T3 α β γ} (h : EvM K ta Γ (some a)) : EvM K (tOp (rIxT K) ta (tC (.int 0))) Γ (some a.a) := em_3a h
theorem em_3bP {a : T3 α β γ} (h : EvM K ta Γ (some a)) : EvM K (tOp (rIxT K) ta (tC (.int 1))) Γ (some a.b) := em_3b h
theorem em_3cP {a : T3 α β γ} (h : EvM K ta Γ (some a)) : EvM K (tOp (rIxT K) ta (tC (.int 2))) Γ (some a.c) := em_3c h
theorem em_4aP {a : T4 α β γ δ} (h : EvM K ta Γ (some a)) : EvM K (tOp (rIxT K) ta (tC (.int 0))) Γ (some a.a) := em_4a h
theorem em_4bP {a : T4 α β γ δ} (h : EvM K ta Γ (some a)) : EvM K (tOp (rIxT K) ta (tC (.int 1))) Γ (some a.b) := em_4b h
theorem em_4cP {a : T4 α β γ δ} (h : EvM K ta Γ (some a)) : EvM K (tOp (rIxT K) ta (tC (.int 2))) Γ (some a.c) := em_4c h
theorem em_4dP {a : T4 α β γ δ} (h : EvM K ta Γ (some a)) : EvM K (tOp (rIxT K) ta (tC (.int 3))) Γ (some a.d) := em_4d h
theorem em_c1P {E : XK} {f : α → Option γ} {a : α} (ha : EvM K ta Γ (some a)) : EvM K (tCall (sp1 K f) [] E (tCons ta tNil)) Γ (f a) := em_c1 ha
theorem em_c2P {E : XK} {f : α → β → Option γ} {a : α} {b : β} (ha : EvM K ta Γ (some a)) (hb : EvM K tb Γ (some b)) : EvM K (tCall (sp2 K f) [] E (tCons ta (tCons tb tNil))) Γ (f a b) := em_c2 ha hb
theorem em_c3P {E : XK} {f : α → β → γ → Option δ} {a : α} {b : β} {c : γ} (ha : EvM K ta Γ (some a)) (hb : EvM K tb Γ (some b)) (hc : EvM K tc Γ (some c)) : EvM K (tCall (sp3 K f) [] E (tCons ta (tCons tb (tCons tc tNil)))) Γ (f a b c) := em_c3 ha hb hc
variable {ε ζ η : Type} [Enc ε] [Enc ζ] [Enc η] {td te' tf : TE}
theorem em_c4P {E : XK} {f : α → β → γ → δ → Option ε} {a : α} {b : β} {c : γ} {d : δ} (ha : EvM K ta Γ (some a)) (hb : EvM K tb Γ (some b)) (hc : EvM K tc Γ (some c)) (hd : EvM K td Γ (some d)) :
    EvM K (tCall (sp4 K f) [] E (tCons ta (tCons tb (tCons tc (tCons td tNil))))) Γ (f a b c d) := em_c4 ha hb hc hd
theorem em_c5P {E : XK} {f : α → β → γ → δ → ε → Option ζ} {a : α} {b : β} {c : γ} {d : δ} {e : ε} (ha : EvM K ta Γ (some a)) (hb : EvM K tb Γ (some b)) (hc : EvM K tc Γ (some c)) (hd : EvM K td Γ (some d)) (he : EvM K te' Γ (some e)) :
    EvM K (tCall (sp5 K f) [] E (tCons ta (tCons tb (tCons tc (tCons td (tCons te' tNil)))))) Γ (f a b c d e) := em_c5 ha hb hc hd he
theorem em_c6P {E : XK} {f : α → β → γ → δ → ε → ζ → Option η} {a : α} {b : β} {c : γ} {d : δ} {e : ε} {z : ζ} (ha : EvM K ta Γ (some a)) (hb : EvM K tb Γ (some b)) (hc : EvM K tc Γ (some c)) (hd : EvM K td Γ (some d)) (he : EvM K te' Γ (some e)) (hf : EvM K tf Γ (some z)) :
    EvM K (tCall (sp6 K f) [] E (tCons ta (tCons tb (tCons tc (tCons td (tCons te' (tCons tf tNil))))))) Γ (f a b c d e z) := em_c6 ha hb hc hd he hf
theorem em_dinP {κ : Type} [KeyE κ] {k : κ} {d : Dk α} (hk : EvM K ta Γ (some k)) (h : EvD K te Γ (some d)) : EvM K (tDIn ta te) Γ (some (look d.kvs (KeyE.key k)).isSome) := em_din hk h
theorem em_dninP {κ : Type} [KeyE κ] {k : κ} {d : Dk α} (hk : EvM K ta Γ (some k)) (h : EvD K te Γ (some d)) : EvM K (tDNotIn ta te) Γ (some (!(look d.kvs (KeyE.key k)).isSome)) := em_dnin hk h
theorem em_dgetP {κ : Type} [KeyE κ] {k : κ} {d : Dk α} (h : EvD K te Γ (some d)) (hk : EvM K ta Γ (some k)) : EvM K (tDGet te ta) Γ (look d.kvs (KeyE.key k)) := em_dget h hk
theorem em_dget2P {κ : Type} [KeyE κ] {k : κ} {x : α} {d : Dk α} (h : EvD K te Γ (some d)) (hk : EvM K ta Γ (some k)) (hx : EvM K tb Γ (some x)) : EvM K (tDGet2 te ta tb) Γ (some ((look d.kvs (KeyE.key k)).getD x)) := em_dget2 h hk hx
theorem em_eqDP [E : EqT α] {a b : α} (hd : E.dep ≤ 64) (h1 : EvM K ta Γ (some a)) (h2 : EvM K tb Γ (some b)) : EvM K (tOp (rEqD K) ta tb) Γ (some (eqB a b)) := em_eqD hd h1 h2
theorem em_neDP [E : EqT α] {a b : α} (hd : E.dep ≤ 64) (h1 : EvM K ta Γ (some a)) (h2 : EvM K tb Γ (some b)) : EvM K (tOp (rNeD K) ta tb) Γ (some (!eqB a b)) := em_neD hd h1 h2
theorem em_eqLP [E : EqT α] {a b : List α} (hd : E.dep + 1 ≤ 64) (h1 : EvL K ta Γ (some a)) (h2 : EvL K tb Γ (some b)) : EvM K (tOp (rEqD K) ta tb) Γ (some (eqB a b)) := em_eqL hd h1 h2
theorem em_neLP [E : EqT α] {a b : List α} (hd : E.dep + 1 ≤ 64) (h1 : EvL K ta Γ (some a)) (h2 : EvL K tb Γ (some b)) : EvM K (tOp (rNeD K) ta tb) Γ (some (!eqB a b)) := em_neL hd h1 h2
theorem em_inDP [E : EqT α] {a : α} {b : List α} (hd : E.dep + 1 ≤ 64) (h1 : EvM K ta Γ (some a)) (h2 : EvL K tb Γ (some b)) : EvM K (tOp (rInD K) ta tb) Γ (some (memB a b)) := em_inD hd h1 h2
theorem em_ninDP [E : EqT α] {a : α} {b : List α} (hd : E.dep + 1 ≤ 64) (h1 : EvM K ta Γ (some a)) (h2 : EvL K tb Γ (some b)) : EvM K (tOp (rNotInD K) ta tb) Γ (some (!memB a b)) := em_ninD hd h1 h2
theorem em_inSP {α : Type} [Scal α] {a : α} {b : List α} (h1 : EvM K ta Γ (some a)) (h2 : EvL K tb Γ (some b)) : EvM K (tOp (rIn K false) ta tb) Γ (some (decide (a ∈ b))) := em_inS h1 h2
theorem em_ninSP {α : Type} [Scal α] {a : α} {b : List α} (h1 : EvM K ta Γ (some a)) (h2 : EvL K tb Γ (some b)) : EvM K (tOp (rIn K true) ta tb) Γ (some (!decide (a ∈ b))) := em_ninS h1 h2
theorem eo_someP {a : Int} (h : EvM K te Γ (some a)) : EvO K (tPart te) Γ (some (some a)) := eo_some h
theorem en_sliceP {tl th : TO} {xs : List α} {l r : Option Int} (h : EvL K te Γ (some xs)) (hl : EvO K tl Γ (some l)) (hh : EvO K th Γ (some r)) : EvN K (tSl (rSlL K) te tl th) Γ (some (cutL xs l r)) := en_slice h hl hh
theorem en_catP {xs ys : List α} (h : EvL K ta Γ (some xs)) (h' : EvL K tb Γ (some ys)) : EvN K (tOp rCat ta tb) Γ (exM xs ys) := en_cat h h'
theorem em_sumP {xs : List Int} (h : EvL K ta Γ (some xs)) : EvM K (tCB (rSum K) (tCons ta tNil)) Γ (some xs.sum) := em_sum h
theorem em_minLP {xs : List Int} (h : EvL K ta Γ (some xs)) : EvM K (tCB (rMin K) (tCons ta tNil)) Γ xs.min? := em_minL h
theorem em_maxLP {xs : List Int} (h : EvL K ta Γ (some xs)) : EvM K (tCB (rMax K) (tCons ta tNil)) Γ xs.max? := em_maxL h
theorem em_max2P {a b : Int} (h : EvM K ta Γ (some a)) (h' : EvM K tb Γ (some b)) : EvM K (tCB rMax2' (tCons ta (tCons tb tNil))) Γ (some (max a b)) := em_max2 h h'
theorem em_min2P {a b : Int} (h : EvM K ta Γ (some a)) (h' : EvM K tb Γ (some b)) : EvM K (tCB rMin2 (tCons ta (tCons tb tNil))) Γ (some (min a b)) := em_min2 h h'
theorem em_absP {a : Int} (h : EvM K ta Γ (some a)) : EvM K (tCB rAbs (tCons ta tNil)) Γ (some ((a.natAbs : Nat) : Int)) := em_abs h
theorem em_intBP {a : Bool} (h : EvM K ta Γ (some a)) : EvM K (tCB rInt1 (tCons ta tNil)) Γ (some (b2i a)) := em_intB h
theorem en_sortIP {xs : List Int} (h : EvL K ta Γ (some xs)) : EvN K (tCB (rSortedI K) (tCons ta tNil)) Γ (some (sortI xs)) := en_sortI h
theorem en_sortPP {xs : List (Int × Int)} (h : EvL K ta Γ (some xs)) : EvN K (tCB (rSortedPO K) (tCons ta tNil)) Γ (some (sortP xs)) := en_sortP h
theorem em_isiP [Ty : TyE α] {a : α} {T' : String} {b : Bool} (hk : kitB Ty.ty T' = some b) (h : EvM K ta Γ (some a)) : EvM K (tCB (rIsi K) (tCons ta (tCons (tC (.ty T')) tNil))) Γ (some b) := em_isi hk h
theorem em_isiLP {a : List α} {T' : String} {b : Bool} (hk : kitB "list" T' = some b) (h : EvL K ta Γ (some a)) : EvM K (tCB (rIsi K) (tCons ta (tCons (tC (.ty T')) tNil))) Γ (some b) := em_isiL hk h
theorem ei_rng1P {b : Int} (h : EvM K ta Γ (some b)) : EvI K (iRng1 (tCons ta tNil)) Γ (rngM 0 b) := ei_rng1 h
theorem ei_rng2P {a b : Int} (h : EvM K ta Γ (some a)) (h' : EvM K tb Γ (some b)) : EvI K (iRng2 (tCons ta (tCons tb tNil))) Γ (rngM a b) := ei_rng2 h h'
theorem ei_rng3P {a b c : Int} (h : EvM K ta Γ (some a)) (h' : EvM K tb Γ (some b)) (h'' : EvM K tc Γ (some c)) : EvI K (iRng3 (tCons ta (tCons tb (tCons tc tNil)))) Γ (rngCM a b c) := ei_rng3 h h' h''
theorem ei_strP {x : Str} (h : EvM K te Γ (some x)) : EvI K (iStr te) Γ (some (x.cps.toList.map fun c => (⟨#[c]⟩ : Str))) := ei_str h
/-- what goes into a slot is written out -/
theorem bm_asgP {i : Nat} {s : Sl} {a : α} {m : Option T} (hi : Γ[i]? = some s) (h : EvM K te Γ (some a)) (hk : BM K u (Γ.set i (.f a)) m hd) : BM K (tSeq (tAsg te (gName i)) u) Γ m hd := fun o e F0 B F σ H D ok q =>
  h a rfl F0 B F σ H ok _ fun v F1 H1 x1 r1 => hk o e F0 B F1 _ H1 D ((ok.ext x1).fz hi r1) q
theorem bm_asgNP {i : Nat} {s : Sl} {a : List α} {m : Option T} (hi : Γ[i]? = some s) (h : EvN K te Γ (some a)) (hk : BM K u (Γ.set i (.o a)) m hd) : BM K (tSeq (tAsg te (gName i)) u) Γ m hd := fun o e F0 B F σ H D ok q =>
  h a rfl F0 B F σ H ok _ fun p vs F1 H1 x1 hn hf hp r1 => hk o e F0 B F1 _ H1 D (ok.newOwn x1 hi hn hf ⟨p, vs, rfl, rfl, hp, r1⟩) q
theorem bm_ifP {c : TT} {b : Bool} {m1 m2 : Option A} {G : A → List Sl} {k : A → Option T} (hc : EvT K c Γ (some b)) (h1 : BM K t Γ m1 (hdA K G)) (h2 : BM K u Γ m2 (hdA K G)) (hk : ∀ a, BM K w (G a) (k a) hd) :
    BM K (tSeq (tIfS c t u) w) Γ ((if b = true then m1 else m2).bind k) hd := bm_if hc h1 h2 hk
theorem bm_ifTP {hd1 : Hdl T} {c : TT} {b : Bool} {m1 m2 : Option T} (im : Imp hd hd1) (hc : EvT K c Γ (some b)) (h1 : BM K t Γ m1 hd1) (h2 : BM K w Γ m2 hd) : BM K (tSeq (tIfS c t tNext) w) Γ (if b = true then m1 else m2) hd := bm_ifT im hc h1 h2
theorem bm_ifEP {c : TT} {b : Bool} {m1 m2 : Option T} (hc : EvT K c Γ (some b)) (h1 : BM K t Γ m1 hd) (h2 : BM K w Γ m2 hd) : BM K (tIfS c t w) Γ (if b = true then m1 else m2) hd := bm_ifE hc h1 h2
theorem bm_ifTEP {hd1 : Hdl T} {c : TT} {b : Bool} {m1 m2 : Option T} (im : Imp hd hd1) (hc : EvT K c Γ (some b)) (h1 : BM K t Γ m1 hd1) (h2 : BM K u Γ m2 hd1) : BM K (tSeq (tIfS c t u) w) Γ (if b = true then m1 else m2) hd := bm_ifTE im hc h1 h2
/-- each way goes on by itself -/
theorem bm_ifD {c : TT} {m : Option Bool} {m1 m2 : Option T} (hc : EvT K c Γ m) (h1 : BM K (tSeq t w) Γ m1 hd) (h2 : BM K (tSeq u w) Γ m2 hd) : BM K (tSeq (tIfS c t u) w) Γ (m.bind fun b => if b = true then m1 else m2) hd := fun o e F0 B F σ H D ok q => by
  obtain ⟨b, e1, e⟩ := Option.bind_eq_some_iff.mp e
  refine hc b e1 F0 B F σ H ok _ fun F1 H1 x1 => ?_
  cases b with
  | true => exact h1 o e F0 B F1 σ H1 D (ok.ext x1) q
  | false => exact h2 o e F0 B F1 σ H1 D (ok.ext x1) q
theorem bm_ifDP {c : TT} {b : Bool} {m1 m2 : Option T} (hc : EvT K c Γ (some b)) (h1 : BM K (tSeq t w) Γ m1 hd) (h2 : BM K (tSeq u w) Γ m2 hd) : BM K (tSeq (tIfS c t u) w) Γ (if b = true then m1 else m2) hd := bm_ifD hc h1 h2
theorem bm_assoc {m : Option T} (h : BM K (tSeq t (tSeq u w)) Γ m hd) : BM K (tSeq (tSeq t u) w) Γ m hd := h
theorem bm_unnext {m : Option T} (h : BM K w Γ m hd) : BM K (tSeq tNext w) Γ m hd := h
/-- a loop's end: on, or back -/
def Lo.fin {T : Type} (k : S → Option T) (ρ : R → T) : Lo S R → Option T
  | .dn s => k s
  | .rt r => some (ρ r)
theorem bm_forS' {wi : TI} {g : TG} {tb : TS} {m : Option (List α)} {G : S → List Sl} {s0 : S} {Γx : S → α → List Sl} {f : S → α → Option (Stp S R)} {hr : Hdl R} {k : S → Option T} {ρ : R → T} (rt : RtOnly hr) (hρ : ∀ r F0 B D, hd (ρ r) F0 B D → hr r F0 B D)
    (hi : EvI K wi Γ m) (hs : Sub Γ (G s0)) (hg : ∀ s x, TgM K g (G s) x (Γx s x)) (hb : ∀ s x, BM K tb (Γx s x) (f s x) (hdSN K G hr)) (hk : ∀ s, BM K u (G s) (k s) hd) :
    BM K (tSeq (tFor wi g tb) u) Γ (m.bind fun xs => (loopM f xs s0).bind (Lo.fin k ρ)) hd := by
  refine bm_eq (bm_forS rt hρ hi hs hg hb hk) ?_
  congr
theorem bm_forSP {wi : TI} {g : TG} {tb : TS} {xs : List α} {G : S → List Sl} {s0 : S} {Γx : S → α → List Sl} {f : S → α → Option (Stp S R)} {hr : Hdl R} {k : S → Option T} {ρ : R → T} (rt : RtOnly hr) (hρ : ∀ r F0 B D, hd (ρ r) F0 B D → hr r F0 B D)
    (hi : EvI K wi Γ (some xs)) (hs : Sub Γ (G s0)) (hg : ∀ s x, TgM K g (G s) x (Γx s x)) (hb : ∀ s x, BM K tb (Γx s x) (f s x) (hdSN K G hr)) (hk : ∀ s, BM K u (G s) (k s) hd) :
    BM K (tSeq (tFor wi g tb) u) Γ ((loopM f xs s0).bind (Lo.fin k ρ)) hd := bm_forS' rt hρ hi hs hg hb hk
theorem bm_forP {wi : TI} {g : TG} {tb : TS} {xs : List α} {G : S → List Sl} {s0 : S} {Γx : S → α → List Sl} {f : S → α → Option S} {k : S → Option T}
    (hi : EvI K wi Γ (some xs)) (hs : Sub Γ (G s0)) (hg : ∀ s x, TgM K g (G s) x (Γx s x)) (hb : ∀ s x, BM K tb (Γx s x) (f s x) (hdCN K G)) (hk : ∀ s, BM K u (G s) (k s) hd) :
    BM K (tSeq (tFor wi g tb) u) Γ ((xs.foldlM f s0).bind k) hd := bm_for hi hs hg hb hk
theorem bm_forOS' {l : Nat} {xs : List α} {g : TG} {tb : TS} {G : Addr → S → List Sl} {s0 : S} {Γx : Addr → S → α → List Sl} {f : S → α → Option (Stp S R)} {hr : Hdl R} {k : S → Option T} {ρ : R → T} (rt : RtOnly hr) (hρ : ∀ r F0 B D, hd (ρ r) F0 B D → hr r F0 B D)
    (hx : Γ[l]? = some (.o xs)) (hs : ∀ p, Sub (Γ.set l (.at_ p (xs.map enc))) (G p s0)) (hG : ∀ p s, (G p s)[l]? = some (.at_ p (xs.map enc)))
    (hg : ∀ p s x, TgM K g (G p s) x (Γx p s x)) (hb : ∀ p s x, BM K tb (Γx p s x) (f s x) (hdSN K (G p) hr)) (hk : ∀ p s, BM K u (G p s) (k s) hd) :
    BM K (tSeq (tFor (iList K (tVar l)) g tb) u) Γ ((loopM f xs s0).bind (Lo.fin k ρ)) hd := by
  refine bm_eq (bm_forOS rt hρ hx hs hG hg hb hk) ?_
  congr
theorem bm_whileS' {c : TT} {tb : TS} {G : S → List Sl} {s0 : S} {mc : S → Option Bool} {f : S → Option (Stp S R)} {hr : Hdl R} {k : S → Option T} {ρ : R → T} (rt : RtOnly hr) (hρ : ∀ r F0 B D, hd (ρ r) F0 B D → hr r F0 B D)
    (hs : Sub Γ (G s0)) (hc : ∀ s, EvT K c (G s) (mc s)) (hb : ∀ s, BM K tb (G s) (f s) (hdSN K G hr)) (hk : ∀ s, BM K u (G s) (k s) hd) :
    BM K (tSeq (tWhile c tb) u) Γ ((whileS mc f s0).bind (Lo.fin k ρ)) hd := by
  refine bm_eq (bm_whileS rt hρ hs hc hb hk) ?_
  congr
theorem en_lcP {wi : TI} {g : TG} {tt : TT} {vs : List Nat} {xs : List α} {Γx : α → List Sl} {c : α → Option Bool} {e : α → Option β}
    (hi : EvI K wi Γ (some xs)) (hg : ∀ x, TgM K g (wipeG Γ vs) x (Γx x)) (hw : TgW g vs) (ht : ∀ x, EvT K tt (Γx x) (c x)) (he : ∀ x, EvM K te (Γx x) (e x)) : EvN K (tLc wi g tt te vs) Γ (lcM c e xs) := en_lc hi hg hw ht he
theorem et_yes : EvT K tYes Γ (some true) := fun a e F0 B F σ H k Q q => by
  cases e
  exact q F H (Ext.refl k.fh)
end

/-! ### defs by name -/
structure Fn (P : Program) (w : World) (K : PySem.W.Frag) (mg : Str → Option Value) (base : Heap) (k : Nat) (x : Str) (ps : List Str) (sp : Sp) : Prop where
  ex : ∃ fd, FnOk P w K mg base CX0 k (He.ga K x) fd ps sp ∧ Binds K fd ps [] ∧ ∃ oc od osl, K.lookup (He.ga K x) = some ⟨oc, od, .func fd, osl⟩
  kp : PySem.W.keepIn K (.ref (He.ga K x)) = true
  g : mg x = some (.ref (He.ga K x))
theorem pe_f {X : Cx} {x : Str} {p pos : Pos} {e : Expr} {es : List Expr} {t : TA} {k : Nat} {ps : List Str} {sp : Sp} (F : Fn X.prog X.w X.K X.mg X.base k x ps sp) (hr : Room k X.A) (hg : Gl X x) (ha : PA X (e :: es) t)
    (hdb : (x == ("__debug__" : Str)) = false := by decide) (he : starEach (e :: es) X.env = (false, eval e X.env) :: starEach es X.env := by rfl) (hpl : (backTo pos (starEach es X.env)).any (·.1) = false := by rfl) :
    PE X (.Call (.Name x p) (e :: es) [] pos) (tCall sp [] E0 t) := by
  obtain ⟨fd, h1, h2, _⟩ := F.ex
  exact pe_call h1 hr hg F.g F.kp h2 .nil pass0 ha hdb he hpl
end M
/-! M8: a few more words for the printer -/
namespace M
open PySem L2
open Evl (Ex)
open Enc (enc)

/-- a list of two things of unlike kinds -/
structure H2 (α β : Type) where
  a : α
  b : β
  deriving DecidableEq
instance {α β : Type} [Enc α] [Enc β] : Enc (H2 α β) := ⟨fun p => .lst [enc p.a, enc p.b]⟩
section
variable {K : PySem.W.Frag} {Γ : List Sl} {α β γ δ : Type} [Enc α] [Enc β] [Enc γ] [Enc δ] {ta tb tc te tp : TE} {ma : Option α} {mb : Option β} {mc : Option γ} {T A S R : Type} {hd : Hdl T} {u w t : TS}
theorem Rep.lstD_inv {F : Hp} {v : V} {ds : List D} (h : Rep K F v (.lst ds)) : ∃ p vs, v = .ref p ∧ F p = some (.lst vs) ∧ Reps K F vs ds := by
  cases h with
  | lst h hl hr => exact ⟨_, _, rfl, h, hl, hr⟩
instance : NotNon (H2 α β) := ⟨fun _ _ x a h e => by obtain ⟨p, vs, e1, _⟩ := Rep.lstD_inv h; rw [e1] at e; cases e⟩
instance : TyE (H2 α β) := ⟨"list", fun K F H v a x r => by obtain ⟨p, vs, rfl, h1, h2⟩ := Rep.lstD_inv r; exact .base (.lst (x _ _ h1))⟩
theorem em_h2 (ha : EvM K ta Γ ma) (hb : EvM K tb Γ mb) : EvM K (tLst (tCons ta (tCons tb tNil))) Γ (ma.bind fun a => mb.bind fun b => some (H2.mk a b)) := fun c e F0 B F σ H k Q q => by
  obtain ⟨a, e1, e⟩ := Option.bind_eq_some_iff.mp e
  obtain ⟨b, e2, e⟩ := Option.bind_eq_some_iff.mp e
  cases e
  refine ea_cons ha (ea_cons hb ea_nil) [enc a, enc b] (by rw [e1, e2]; rfl) F0 B F σ H k _ fun vs F1 H1 x1 r1 => ⟨size_small (by rw [r1.len]; show 2 ≤ 1000; decide), fun p hp => ?_⟩
  have x2 := Ext.new (o := .lst vs) x1.fh hp
  exact q _ _ _ (x1.trans x2) (.lst upd_same r1.len (r1.mono x2.ff).at_)
theorem em_h2P {a : α} {b : β} (ha : EvM K ta Γ (some a)) (hb : EvM K tb Γ (some b)) : EvM K (tLst (tCons ta (tCons tb tNil))) Γ (some (H2.mk a b)) := em_h2 ha hb
theorem em_hprj {ds : α → List D} (hd : ∀ a, (enc a : D) = .lst (ds a)) {j : Nat} {g : α → β} (hj : ∀ a, (ds a)[j]? = some (enc (g a))) (h : EvM K ta Γ ma) (hi : EvM K tb Γ (some (j : Int))) : EvM K (tOp (rIxL K) ta tb) Γ (ma.bind fun a => some (g a)) := fun c e F0 B F σ H k Q q => by
  obtain ⟨a, e1, e⟩ := Option.bind_eq_some_iff.mp e
  cases e
  refine h a e1 F0 B F σ H k _ fun v F1 H1 x1 r1 => ?_
  rw [hd a] at r1
  obtain ⟨p, vs, rfl, h1, h2⟩ := Rep.lstD_inv r1
  refine hi _ rfl F0 B F1 σ H1 (k.ext x1) _ fun w F2 H2 x2 r2 => ?_
  obtain ⟨u, a1, a2⟩ := (h2.mono x2.ff).get (hj a)
  exact ⟨p, vs, j, u, rfl, r2.int_inv, Evl.sq_of (x2.hh _ _ (x1.fh _ _ h1)), atI_nat a1, q u F2 H2 (x1.trans x2) a2⟩
theorem em_h2a {m : Option (H2 α β)} (h : EvM K ta Γ m) : EvM K (tOp (rIxL K) ta (tC (.int 0))) Γ (m.bind fun a => some a.a) := em_hprj (j := 0) (ds := fun a : H2 α β => [enc a.a, enc a.b]) (fun _ => rfl) (fun _ => rfl) h em_int
theorem em_h2b {m : Option (H2 α β)} (h : EvM K ta Γ m) : EvM K (tOp (rIxL K) ta (tC (.int 1))) Γ (m.bind fun a => some a.b) := em_hprj (j := 1) (ds := fun a : H2 α β => [enc a.a, enc a.b]) (fun _ => rfl) (fun _ => rfl) h em_int
theorem em_h2aP {a : H2 α β} (h : EvM K ta Γ (some a)) : EvM K (tOp (rIxL K) ta (tC (.int 0))) Γ (some a.a) := em_h2a h
theorem em_h2bP {a : H2 α β} (h : EvM K ta Γ (some a)) : EvM K (tOp (rIxL K) ta (tC (.int 1))) Γ (some a.b) := em_h2b h
instance [E1 : EqD α] [E2 : EqD β] : EqD (H2 α β) := ⟨@instDecidableEqH2 _ _ E1.dec E2.dec, fun K F H v a e r => by
    obtain ⟨p, vs, rfl, h1, h2⟩ := Rep.lstD_inv r
    obtain ⟨v1, ws, rfl, r1, h3⟩ := h2.cons_inv
    obtain ⟨v2, ws, rfl, r2, h4⟩ := h3.cons_inv
    cases h4.nil_inv
    exact .lst (Evl.sq_of (e _ _ h1)) (.cons (E1.dp _ _ _ _ _ e r1) (.cons (E2.dp _ _ _ _ _ e r2) .nil)), fun a => E1.ok a.a && E2.ok a.b, fun a h => by
    show PyData.canLay0 (.list [toPy (enc a.a), toPy (enc a.b)]) = true
    rw [Bool.and_eq_true] at h
    simp [PyData.canLay0, PyData.canLayAll0, E1.lay _ h.1, E2.lay _ h.2], max E1.dep E2.dep + 1, fun a => by
    show PyData.depth (.list [toPy (enc a.a), toPy (enc a.b)]) ≤ _
    have h1 := E1.depth a.a
    have h2 := E2.depth a.b
    simp only [PyData.depth, PyData.depthAll]
    omega, fun a b => by
    show (PyData.eqv (toPy (enc a.a)) (toPy (enc b.a)) && (PyData.eqv (toPy (enc a.b)) (toPy (enc b.b)) && true)) = _
    rw [E1.eqv, E2.eqv, Bool.and_true]
    by_cases h : a = b
    · subst h
      simp
    · refine Eq.trans ?_ (@decide_eq_false _ (@instDecidableEqH2 _ _ E1.dec E2.dec a b) h).symm
      cases h1 : @decide (a.a = b.a) (E1.dec a.a b.a) with
      | false => rfl
      | true =>
        cases h2 : @decide (a.b = b.b) (E2.dec a.b b.b) with
        | false => rfl
        | true =>
          have e1 := @of_decide_eq_true _ (E1.dec a.a b.a) h1
          have e2 := @of_decide_eq_true _ (E2.dec a.b b.b) h2
          exact absurd (by cases a; cases b; simp at e1 e2; simp [e1, e2]) h⟩
instance [E1 : EqT α] [E2 : EqT β] : EqT (H2 α β) := ⟨fun a => by
  show (E1.ok a.a && E2.ok a.b) = true
  rw [E1.all, E2.all]
  rfl⟩

/-! ### statements where nothing can fail ahead -/
theorem em_upP {a : α} (h : EvM K te Γ (some a)) : EvM K te Γ (some (some a)) := em_up h
theorem em_DP {a : α} (h : EvM K te Γ (some a)) : EvM K te Γ (some (enc a : D)) := em_D h
theorem em_nonD : EvM K (tC .non) Γ (some D.non) := em_D (α := Unit) em_unit
theorem bm_appP {xs : List α} {a : α} {G : List D → List Sl} {k : List α → Option T} (hp : Pl K tp Γ (xs.map enc) G) (h : EvM K te Γ (some a)) (hk : ∀ ys : List α, BM K u (G (ys.map enc)) (k ys) hd) :
    BM K (tSeq (tDrop (tBM K "list" rAppend tp (tCons te tNil))) u) Γ ((apM xs a).bind k) hd := bm_app hp h hk
theorem bm_extdP {xs zs : List α} {G : List D → List Sl} {k : List α → Option T} (hp : Pl K tp Γ (xs.map enc) G) (h : EvL K te Γ (some zs)) (hk : ∀ ys : List α, BM K u (G (ys.map enc)) (k ys) hd) :
    BM K (tSeq (tDrop (tBM K "list" rExtend tp (tCons te tNil))) u) Γ ((exM xs zs).bind k) hd := bm_extd hp h hk
theorem bm_setLP {xs : List α} {i : Int} {a : α} {G : List D → List Sl} {k : List α → Option T} (hp : Pl K tp Γ (xs.map enc) G) (h : EvM K te Γ (some a)) (hi : EvM K ta Γ (some i)) (hk : ∀ ys : List α, BM K u (G (ys.map enc)) (k ys) hd) :
    BM K (tSeq (tAsg te (gSub tp ta rSetL)) u) Γ ((stM xs i a).bind k) hd := bm_setL hp h hi hk
def dpM (d : Dk α) (k : Key) (a : α) : Option (Dk α) := if d.kvs.length < sizeLine then some ⟨put d.kvs k a⟩ else none
theorem bm_dput' {κ : Type} [KeyE κ] {mk : Option κ} {xs : Dk α} {G : List (Key × D) → List Sl} {k : Dk α → Option T} (hp : Pd K tp Γ (xs.kvs.map fun p => (p.1, enc p.2)) G) (h : EvM K te Γ ma) (hi : EvM K ta Γ mk) (hk : ∀ ys : Dk α, BM K u (G (ys.kvs.map fun p => (p.1, enc p.2))) (k ys) hd) :
    BM K (tSeq (sDPut tp ta te) u) Γ (ma.bind fun a => mk.bind fun i => (dpM xs (KeyE.key i) a).bind k) hd := by
  refine bm_eq (bm_dput hp h hi hk) ?_
  congr; funext a; congr; funext i
  unfold dpM
  split <;> rfl
theorem bm_dputP {κ : Type} [KeyE κ] {i : κ} {a : α} {xs : Dk α} {G : List (Key × D) → List Sl} {k : Dk α → Option T} (hp : Pd K tp Γ (xs.kvs.map fun p => (p.1, enc p.2)) G) (h : EvM K te Γ (some a)) (hi : EvM K ta Γ (some i)) (hk : ∀ ys : Dk α, BM K u (G (ys.kvs.map fun p => (p.1, enc p.2))) (k ys) hd) :
    BM K (tSeq (sDPut tp ta te) u) Γ ((dpM xs (KeyE.key i) a).bind k) hd := bm_dput' hp h hi hk
theorem bm_augP {i : Nat} {f : Int → Int → Int} {a b : Int} {m : Option T} (hi : Γ[i]? = some (.f a)) (h : EvM K te Γ (some b)) (hk : BM K u (Γ.set i (.f (f a b))) m hd) : BM K (tSeq (tAug i te (ipI f)) u) Γ m hd := fun o e F0 B F σ H D ok q => by
  obtain ⟨v, h1, h2⟩ := ok.get hi
  refine ⟨v, h1, h b rfl F0 B F σ H ok _ fun w F1 H1 x1 r1 => ⟨a, b, h2.int_inv, r1.int_inv, ?_⟩⟩
  exact hk o e F0 B F1 _ H1 D ((ok.ext x1).fz hi (.int _)) q
theorem bm_aug' {i : Nat} {f : Int → Int → Int} {a : Int} {m : Option Int} {k : Int → Option T} (hi : Γ[i]? = some (.f a)) (h : EvM K te Γ m) (hk : ∀ b, BM K u (Γ.set i (.f (f a b))) (k b) hd) : BM K (tSeq (tAug i te (ipI f)) u) Γ (m.bind k) hd := fun o e F0 B F σ H D ok q => by
  obtain ⟨b, e1, e⟩ := Option.bind_eq_some_iff.mp e
  obtain ⟨v, h1, h2⟩ := ok.get hi
  refine ⟨v, h1, h b e1 F0 B F σ H ok _ fun w F1 H1 x1 r1 => ⟨a, b, h2.int_inv, r1.int_inv, ?_⟩⟩
  exact hk b o e F0 B F1 _ H1 D ((ok.ext x1).fz hi (.int _)) q
def poL (xs : List α) : Option (α × List α) := xs.getLast?.bind fun a => some (a, xs.dropLast)
theorem bm_popD' {xs : List α} {G : List D → List Sl} {k : List α → Option T} (hp : Pl K tp Γ (xs.map enc) G) (hk : ∀ ys : List α, BM K u (G (ys.map enc)) (k ys) hd) :
    BM K (tSeq (tDrop (tBM0 K "list" rPop tp)) u) Γ ((poL xs).bind fun q => k q.2) hd := by
  refine bm_eq (bm_popD hp hk) ?_
  unfold poL
  cases xs.getLast? <;> rfl
theorem bm_popA' {i : Nat} {s : Sl} {xs : List α} {G : List D → List Sl} {k : α → List α → Option T} (hp : Pl K tp Γ (xs.map enc) G) (hi : ∀ ys, (G ys)[i]? = some s) (hk : ∀ (a : α) (ys : List α), BM K u ((G (ys.map enc)).set i (.f a)) (k a ys) hd) :
    BM K (tSeq (tAsg (tBM0 K "list" rPop tp) (gName i)) u) Γ ((poL xs).bind fun q => k q.1 q.2) hd := by
  refine bm_eq (bm_popA hp hi hk) ?_
  unfold poL
  cases xs.getLast? <;> rfl
theorem bm_popI' {i : Nat} {s : Sl} {xs : List α} {mi : Option Int} {G : List D → List Sl} {k : α → List α → Option T} (hp : Pl K tp Γ (xs.map enc) G) (h : EvM K te Γ mi) (hi : ∀ ys, (G ys)[i]? = some s) (hk : ∀ (a : α) (ys : List α), BM K u ((G (ys.map enc)).set i (.f a)) (k a ys) hd) :
    BM K (tSeq (tAsg (tBM K "list" rPopAt tp (tCons te tNil)) (gName i)) u) Γ (mi.bind fun j => (poM xs j).bind fun q => k q.1 q.2) hd := bm_popI hp h hi hk
theorem bm_popIP {i : Nat} {s : Sl} {xs : List α} {j : Int} {G : List D → List Sl} {k : α → List α → Option T} (hp : Pl K tp Γ (xs.map enc) G) (h : EvM K te Γ (some j)) (hi : ∀ ys, (G ys)[i]? = some s) (hk : ∀ (a : α) (ys : List α), BM K u ((G (ys.map enc)).set i (.f a)) (k a ys) hd) :
    BM K (tSeq (tAsg (tBM K "list" rPopAt tp (tCons te tNil)) (gName i)) u) Γ ((poM xs j).bind fun q => k q.1 q.2) hd := bm_popI hp h hi hk
theorem bm_retSN {G : S → List Sl} {hr : Hdl α} (h : BM K t Γ ma hr) : BM K t Γ (ma.map .rt) (hdSN K G hr) := fun o e F0 B F σ H D ok q => by
  obtain ⟨a, e1, rfl⟩ := Option.map_eq_some_iff.mp e
  exact h a e1 F0 B F σ H D ok q
/-- one way leaves, the other one goes on by itself -/
theorem bm_ifTD {hd1 : Hdl T} {c : TT} {m : Option Bool} {m1 m2 : Option T} (im : Imp hd hd1) (hc : EvT K c Γ m) (h1 : BM K t Γ m1 hd1) (h2 : BM K (tSeq u w) Γ m2 hd) : BM K (tSeq (tIfS c t u) w) Γ (m.bind fun b => if b = true then m1 else m2) hd := fun o e F0 B F σ H D ok q => by
  obtain ⟨b, e1, e⟩ := Option.bind_eq_some_iff.mp e
  refine hc b e1 F0 B F σ H ok _ fun F1 H1 x1 => ?_
  cases b with
  | true => exact h1 o e F0 B F1 σ H1 _ (ok.ext x1) (im o F0 B D _ q)
  | false => exact h2 o e F0 B F1 σ H1 D (ok.ext x1) q
theorem bm_ifTDP {hd1 : Hdl T} {c : TT} {b : Bool} {m1 m2 : Option T} (im : Imp hd hd1) (hc : EvT K c Γ (some b)) (h1 : BM K t Γ m1 hd1) (h2 : BM K (tSeq u w) Γ m2 hd) : BM K (tSeq (tIfS c t u) w) Γ (if b = true then m1 else m2) hd := bm_ifTD im hc h1 h2
theorem bm_ifDT {hd1 : Hdl T} {c : TT} {m : Option Bool} {m1 m2 : Option T} (im : Imp hd hd1) (hc : EvT K c Γ m) (h1 : BM K (tSeq t w) Γ m1 hd) (h2 : BM K u Γ m2 hd1) : BM K (tSeq (tIfS c t u) w) Γ (m.bind fun b => if b = true then m1 else m2) hd := fun o e F0 B F σ H D ok q => by
  obtain ⟨b, e1, e⟩ := Option.bind_eq_some_iff.mp e
  refine hc b e1 F0 B F σ H ok _ fun F1 H1 x1 => ?_
  cases b with
  | true => exact h1 o e F0 B F1 σ H1 D (ok.ext x1) q
  | false => exact h2 o e F0 B F1 σ H1 _ (ok.ext x1) (im o F0 B D _ q)
theorem bm_ifDTP {hd1 : Hdl T} {c : TT} {b : Bool} {m1 m2 : Option T} (im : Imp hd hd1) (hc : EvT K c Γ (some b)) (h1 : BM K (tSeq t w) Γ m1 hd) (h2 : BM K u Γ m2 hd1) : BM K (tSeq (tIfS c t u) w) Γ (if b = true then m1 else m2) hd := bm_ifDT im hc h1 h2
theorem em_chainP {f g : Int → Int → Bool} {a b c : Int} (ha : EvM K ta Γ (some a)) (hb : EvM K tb Γ (some b)) (hc : EvM K tc Γ (some c)) : EvM K (tChain (rI0 fun i j => .bl (f i j)) (rI0 fun i j => .bl (g i j)) ta tb tc) Γ (some (f a b && g b c)) :=
  em_eq (em_chain rm_b0 rm_b0 ha hb hc) (by
    show (if f a b = true then some (g b c) else some false) = _
    cases f a b <;> rfl)

/-! ### texts -/
def addS (a b : Str) : Option Str := if a.length + b.length ≤ sizeLine then some (a ++ b) else none
theorem em_addS {m n : Option Str} (h : EvM K ta Γ m) (h' : EvM K tb Γ n) : EvM K (tOp (fun x y H Q => ∃ i j, x = .str i ∧ y = .str j ∧ i.length + j.length ≤ sizeLine ∧ Q (.str (i ++ j)) H) ta tb) Γ (m.bind fun a => n.bind fun b => addS a b) := em_op (fun a b c e F H v w x ra rb Q q => by
  unfold addS at e
  split at e
  case isFalse => cases e
  cases e
  exact ⟨a, b, ra.str_inv, rb.str_inv, by assumption, q _ F H (Ext.refl x) (.str _)⟩) h h'
theorem em_addSP {a b : Str} (h : EvM K ta Γ (some a)) (h' : EvM K tb Γ (some b)) : EvM K (tOp (fun x y H Q => ∃ i j, x = .str i ∧ y = .str j ∧ i.length + j.length ≤ sizeLine ∧ Q (.str (i ++ j)) H) ta tb) Γ (addS a b) := em_addS h h'
def lenS (x : Str) : Option Int := if x.length ≤ sizeLine then some (x.length : Int) else none
theorem em_lenSP {x : Str} (h : EvM K ta Γ (some x)) : EvM K (tCB (fun xs H Q => ∃ z, xs = [.str z] ∧ z.length ≤ sizeLine ∧ Q (.int z.length) H) (tCons ta tNil)) Γ (lenS x) := em_lenS h
/-- s[i] -/
def atS (x : Str) (i : Int) : Option Str := if x.length ≤ sizeLine then (atI x.cps.toList i).map fun c => ⟨#[c]⟩ else none
theorem em_ixS {m : Option Str} {mi : Option Int} (h : EvM K ta Γ m) (h' : EvM K tb Γ mi) : EvM K (tOp rIxS ta tb) Γ (m.bind fun x => mi.bind fun i => atS x i) := em_op (fun a b c e F H v w x ra rb Q q => by
  unfold atS at e
  split at e
  case isFalse => cases e
  obtain ⟨ch, e1, rfl⟩ := Option.map_eq_some_iff.mp e
  exact ⟨a, b, ch, ra.str_inv, rb.int_inv, by assumption, e1, q _ F H (Ext.refl x) (.str _)⟩) h h'
theorem em_ixSP {x : Str} {i : Int} (h : EvM K ta Γ (some x)) (h' : EvM K tb Γ (some i)) : EvM K (tOp rIxS ta tb) Γ (atS x i) := em_ixS h h'
def cutSM (x : Str) (l r : Option Int) : Option Str := if x.length ≤ sizeLine then some (cutS x l r) else none
theorem em_sliceSP {tl th : TO} {x : Str} {l r : Option Int} (h : EvM K te Γ (some x)) (hl : EvO K tl Γ (some l)) (hh : EvO K th Γ (some r)) : EvM K (tSl rSlS te tl th) Γ (cutSM x l r) := em_sliceS h hl hh
def signs (x : Str) : List Str := x.cps.toList.map fun c => ⟨#[c]⟩
/-- one sign in a text -/
def inG (a x : Str) : Option Bool := match a.cps.toList with
  | [c] => some (decide (c ∈ x.cps.toList))
  | _ => none
def ninG (a x : Str) : Option Bool := match a.cps.toList with
  | [c] => some (!decide (c ∈ x.cps.toList))
  | _ => none
theorem one_sign {a : Str} {c : Nat} (h : a.cps.toList = [c]) : a = ⟨#[c]⟩ := by
  cases a with
  | mk cps =>
    simp at h
    congr
    exact Array.ext' (by simpa using h)
theorem em_inG {m n : Option Str} (h : EvM K ta Γ m) (h' : EvM K tb Γ n) : EvM K (tOp (fun x y H Q => ∃ (c : Nat) (z : Str), x = .str ⟨#[c]⟩ ∧ y = .str z ∧ Q (.bl (decide (c ∈ z.cps.toList))) H) ta tb) Γ (m.bind fun a => n.bind fun b => inG a b) := em_op (fun a b c e F H v w x ra rb Q q => by
  unfold inG at e
  split at e
  case h_2 => cases e
  rename_i ch hc
  cases e
  exact ⟨ch, b, by rw [ra.str_inv, one_sign hc], rb.str_inv, q _ F H (Ext.refl x) (.bl _)⟩) h h'
theorem em_ninG {m n : Option Str} (h : EvM K ta Γ m) (h' : EvM K tb Γ n) : EvM K (tOp (fun x y H Q => ∃ (c : Nat) (z : Str), x = .str ⟨#[c]⟩ ∧ y = .str z ∧ Q (.bl (!decide (c ∈ z.cps.toList))) H) ta tb) Γ (m.bind fun a => n.bind fun b => ninG a b) := em_op (fun a b c e F H v w x ra rb Q q => by
  unfold ninG at e
  split at e
  case h_2 => cases e
  rename_i ch hc
  cases e
  exact ⟨ch, b, by rw [ra.str_inv, one_sign hc], rb.str_inv, q _ F H (Ext.refl x) (.bl _)⟩) h h'
theorem em_inGP {a b : Str} (h : EvM K ta Γ (some a)) (h' : EvM K tb Γ (some b)) : EvM K (tOp (fun x y H Q => ∃ (c : Nat) (z : Str), x = .str ⟨#[c]⟩ ∧ y = .str z ∧ Q (.bl (decide (c ∈ z.cps.toList))) H) ta tb) Γ (inG a b) := em_inG h h'
theorem em_ninGP {a b : Str} (h : EvM K ta Γ (some a)) (h' : EvM K tb Γ (some b)) : EvM K (tOp (fun x y H Q => ∃ (c : Nat) (z : Str), x = .str ⟨#[c]⟩ ∧ y = .str z ∧ Q (.bl (!decide (c ∈ z.cps.toList))) H) ta tb) Γ (ninG a b) := em_ninG h h'
theorem em_mt {r : V → List V → Hp → VK → Prop} {f : Str → Str → γ} (hr : ∀ (a b : Str) (H : Hp) (Q : VK), (∀ v, Rep K H v (enc (f a b)) → Q v H) → r (.str a) [.str b] H Q) (hx : ∀ (F H : Hp) (v : V) (a b : Str), Rep K H v (enc (f a b)) → Rep K F v (enc (f a b))) {m n : Option Str} (h : EvM K ta Γ m) (h' : EvM K tb Γ n) : EvM K (tM1 r ta tb) Γ (m.bind fun a => n.bind fun b => some (f a b)) := fun c e F0 B F σ H k Q q => by
  obtain ⟨a, e1, e⟩ := Option.bind_eq_some_iff.mp e
  obtain ⟨b, e2, e⟩ := Option.bind_eq_some_iff.mp e
  cases e
  refine h a e1 F0 B F σ H k _ fun v F1 H1 x1 r1 => ?_
  rw [r1.str_inv]
  refine ⟨⟨a, rfl⟩, h' b e2 F0 B F1 σ H1 (k.ext x1) _ fun w F2 H2 x2 r2 => ?_⟩
  rw [r2.str_inv]
  exact hr a b H2 _ fun v rv => q v F2 H2 (x1.trans x2) (hx F2 H2 v a b rv)
theorem em_count {m n : Option Str} (h : EvM K ta Γ m) (h' : EvM K tb Γ n) : EvM K (tM1 (fun x xs H Q => ∃ a b, x = .str a ∧ xs = [.str b] ∧ Q (.int (Txt.count a b)) H) ta tb) Γ (m.bind fun a => n.bind fun b => some ((Txt.count a b : Int))) :=
  em_mt (f := fun a b => (Txt.count a b : Int)) (fun a b H Q q => ⟨a, b, rfl, rfl, q _ (.int _)⟩) (fun F H v a b r => by rw [r.int_inv]; exact .int _) h h'
theorem em_endswith {m n : Option Str} (h : EvM K ta Γ m) (h' : EvM K tb Γ n) : EvM K (tM1 (fun x xs H Q => ∃ a b, x = .str a ∧ xs = [.str b] ∧ Q (.bl (Txt.endswith a b)) H) ta tb) Γ (m.bind fun a => n.bind fun b => some (Txt.endswith a b)) :=
  em_mt (f := fun a b => Txt.endswith a b) (fun a b H Q q => ⟨a, b, rfl, rfl, q _ (.bl _)⟩) (fun F H v a b r => by rw [r.bl_inv]; exact .bl _) h h'
theorem em_countP {a b : Str} (h : EvM K ta Γ (some a)) (h' : EvM K tb Γ (some b)) : EvM K (tM1 (fun x xs H Q => ∃ a b, x = .str a ∧ xs = [.str b] ∧ Q (.int (Txt.count a b)) H) ta tb) Γ (some ((Txt.count a b : Int))) := em_count h h'
theorem em_endswithP {a b : Str} (h : EvM K ta Γ (some a)) (h' : EvM K tb Γ (some b)) : EvM K (tM1 (fun x xs H Q => ∃ a b, x = .str a ∧ xs = [.str b] ∧ Q (.bl (Txt.endswith a b)) H) ta tb) Γ (some (Txt.endswith a b)) := em_endswith h h'
/-- a tuple of one kind: walked, an item -/
theorem ei_tu {m : Option (Tu α)} (h : EvM K te Γ m) : EvI K (iTup K te) Γ (m.bind fun t => some t.xs) := fun a e F0 B F σ H k R q => by
  obtain ⟨t, e1, e⟩ := Option.bind_eq_some_iff.mp e
  cases e
  refine h t e1 F0 B F σ H k _ fun v F1 H1 x1 r => ?_
  obtain ⟨p, vs, rfl, h1, h2⟩ := Rep.tup_inv r
  refine ⟨p, rfl, ⟨vs, Evl.st_of (x1.fh _ _ h1)⟩, q _ F1 H1 x1 ⟨fun F H i => ⟨vs, Evl.st_of ((i.1.trans i.2) _ _ h1), by rw [h2.len, List.length_map]; exact Nat.le_refl _⟩, fun F H i e j x hx => ?_⟩⟩
  obtain ⟨v, a1, a2⟩ := h2.get (i := j) (d := enc x) (by rw [List.getElem?_map, hx]; rfl)
  have ht : SqT K H p vs := Evl.st_of ((i.1.trans i.2) _ _ h1)
  refine ⟨⟨vs, v, ht, a1⟩, fun u H2 y => ?_⟩
  obtain ⟨rfl, y⟩ := y
  have z := y vs ht
  rw [a1] at z
  cases z
  exact ⟨F, Ext.refl e, a2.mono i.1⟩
theorem ei_tuP {t : Tu α} (h : EvM K te Γ (some t)) : EvI K (iTup K te) Γ (some t.xs) := ei_tu h
theorem em_ixT {m : Option (Tu α)} {mi : Option Int} (h : EvM K ta Γ m) (hi : EvM K tb Γ mi) : EvM K (tOp (rIxT K) ta tb) Γ (m.bind fun xs => mi.bind fun i => atI xs.xs i) := fun c e F0 B F σ H k Q q => by
  obtain ⟨xs, e1, e⟩ := Option.bind_eq_some_iff.mp e
  obtain ⟨i, e2, e⟩ := Option.bind_eq_some_iff.mp e
  refine h xs e1 F0 B F σ H k _ fun v F1 H1 x1 r1 => ?_
  obtain ⟨p, vs, rfl, h1, h2⟩ := Rep.tup_inv r1
  refine hi i e2 F0 B F1 σ H1 (k.ext x1) _ fun w F2 H2 x2 r2 => ?_
  obtain ⟨v, a1, a2⟩ := reps_at (h2.mono x2.ff) e
  exact ⟨p, vs, i, v, rfl, r2.int_inv, Evl.st_of (x2.hh _ _ (x1.fh _ _ h1)), a1, q v F2 H2 (x1.trans x2) a2⟩
theorem em_ixTP {xs : Tu α} {i : Int} (h : EvM K ta Γ (some xs)) (hi : EvM K tb Γ (some i)) : EvM K (tOp (rIxT K) ta tb) Γ (atI xs.xs i) := em_ixT h hi
theorem em_ninT {α : Type} [Scal α] {m1 : Option α} {m2 : Option (Tu α)} (h1 : EvM K ta Γ m1) (h2 : EvM K tb Γ m2) : EvM K (tOp (rIn K true) ta tb) Γ (m1.bind fun a => m2.bind fun b => some (!decide (a ∈ b.xs))) := em_inT (neg := true) h1 h2
theorem em_inT' {α : Type} [Scal α] {m1 : Option α} {m2 : Option (Tu α)} (h1 : EvM K ta Γ m1) (h2 : EvM K tb Γ m2) : EvM K (tOp (rIn K false) ta tb) Γ (m1.bind fun a => m2.bind fun b => some (decide (a ∈ b.xs))) := em_inT (neg := false) h1 h2
theorem em_inTP {α : Type} [Scal α] {a : α} {b : Tu α} (h1 : EvM K ta Γ (some a)) (h2 : EvM K tb Γ (some b)) : EvM K (tOp (rIn K false) ta tb) Γ (some (decide (a ∈ b.xs))) := em_inT' h1 h2
theorem em_ninTP {α : Type} [Scal α] {a : α} {b : Tu α} (h1 : EvM K ta Γ (some a)) (h2 : EvM K tb Γ (some b)) : EvM K (tOp (rIn K true) ta tb) Γ (some (!decide (a ∈ b.xs))) := em_ninT h1 h2
theorem em_dlen {m : Option (Dk α)} (h : EvD K ta Γ m) : EvM K (tCB (fun xs H Q => ∃ a kvs, xs = [V.ref a] ∧ H a = some (.dK kvs) ∧ Q (.int kvs.length) H) (tCons ta tNil)) Γ (m.bind fun d => some (d.kvs.length : Int)) := fun c e F0 B F σ H k Q q => by
  obtain ⟨d, e1, e⟩ := Option.bind_eq_some_iff.mp e
  cases e
  refine h d e1 F0 B F σ H k _ fun p vs F1 H1 x1 h1 r1 => ⟨p, vs, rfl, h1, ?_⟩
  have z : vs.length = d.kvs.length := by rw [r1.len, List.length_map]
  rw [z]
  exact q _ F1 H1 x1 (.int _)
theorem em_dlenP {d : Dk α} (h : EvD K ta Γ (some d)) : EvM K (tCB (fun xs H Q => ∃ a kvs, xs = [V.ref a] ∧ H a = some (.dK kvs) ∧ Q (.int kvs.length) H) (tCons ta tNil)) Γ (some (d.kvs.length : Int)) := em_dlen h
theorem em_eqDsP [E : EqD α] {a b : α} (hd : E.dep ≤ 64) (h1 : EvM K ta Γ (some a)) (h2 : EvM K tb Γ (some b)) : EvM K (tOp (rEqD K) ta tb) Γ (if E.ok a && E.ok b then some (eqB a b) else none) := em_eqDs hd h1 h2
theorem em_neDsP [E : EqD α] {a b : α} (hd : E.dep ≤ 64) (h1 : EvM K ta Γ (some a)) (h2 : EvM K tb Γ (some b)) : EvM K (tOp (rNeD K) ta tb) Γ (if E.ok a && E.ok b then some (!eqB a b) else none) := em_neDs hd h1 h2
theorem em_eqLsP [E : EqD α] {a b : List α} (hd : E.dep + 1 ≤ 64) (h1 : EvL K ta Γ (some a)) (h2 : EvL K tb Γ (some b)) : EvM K (tOp (rEqD K) ta tb) Γ (if a.all E.ok && b.all E.ok then some (eqB a b) else none) := em_eqLs hd h1 h2
theorem em_neLsP [E : EqD α] {a b : List α} (hd : E.dep + 1 ≤ 64) (h1 : EvL K ta Γ (some a)) (h2 : EvL K tb Γ (some b)) : EvM K (tOp (rNeD K) ta tb) Γ (if a.all E.ok && b.all E.ok then some (!eqB a b) else none) := em_neLs hd h1 h2
end
theorem bt_len : bootBuiltins "len" = some (.builtin "len") := by decide +kernel
theorem bt_range : bootBuiltins "range" = some (.type "range") := by decide +kernel
theorem bt_isinstance : bootBuiltins "isinstance" = some (.builtin "isinstance") := by decide +kernel
theorem bt_int : bootBuiltins "int" = some (.type "int") := by decide +kernel
theorem bt_str : bootBuiltins "str" = some (.type "str") := by decide +kernel
theorem bt_bool : bootBuiltins "bool" = some (.type "bool") := by decide +kernel
theorem bt_list : bootBuiltins "list" = some (.type "list") := by decide +kernel
theorem bt_tuple : bootBuiltins "tuple" = some (.type "tuple") := by decide +kernel
theorem bt_dict : bootBuiltins "dict" = some (.type "dict") := by decide +kernel
theorem bt_min : bootBuiltins "min" = some (.builtin "min") := by decide +kernel
theorem bt_max : bootBuiltins "max" = some (.builtin "max") := by decide +kernel
theorem bt_abs : bootBuiltins "abs" = some (.builtin "abs") := by decide +kernel
theorem bt_sum : bootBuiltins "sum" = some (.builtin "sum") := by decide +kernel
theorem bt_sorted : bootBuiltins "sorted" = some (.builtin "sorted") := by decide +kernel
theorem bt_zip : bootBuiltins "zip" = some (.type "zip") := by decide +kernel
theorem bt_all : bootBuiltins "all" = some (.builtin "all") := by decide +kernel
theorem bt_any : bootBuiltins "any" = some (.builtin "any") := by decide +kernel
theorem bt_enumerate : bootBuiltins "enumerate" = some (.type "enumerate") := by decide +kernel
end M
/-! M9: ends -/
namespace M
open PySem PySem.Spec PyProof.Rows L2
open Evl (Ex)
open Enc (enc)

theorem hu65 {A : Around} {k : Nat} (hr : Room k A) : A.units + 65 < cLine := by have := hr.un; omega
theorem fn_look {K : PySem.W.Frag} {x qual : Str} {params : Arguments} {body : List Stmt} {scope : Scope} {dvs : List V} {kws : List (Str × V)} {f : Addr} {fd : FuncData} (F : FunD K x qual params body scope dvs kws f fd) : ∃ oc od osl, K.lookup f = some ⟨oc, od, .func fd, osl⟩ := by
  obtain ⟨oc, od, _, _, _, _, _, _, _, osl, _, h, _⟩ := F.ex
  exact ⟨oc, od, osl, h⟩
theorem fn_same {K : PySem.W.Frag} {x qual : Str} {params : Arguments} {body : List Stmt} {scope : Scope} {dvs : List V} {kws : List (Str × V)} {f : Addr} {fd fd2 : FuncData} (h : ∃ oc od osl, K.lookup f = some ⟨oc, od, .func fd2, osl⟩) (F : FunD K x qual params body scope dvs kws f fd) : fd2 = fd := by
  obtain ⟨oc, od, osl, h⟩ := h
  obtain ⟨oc', od', osl', h'⟩ := fn_look F
  rw [h] at h'
  cases h'; rfl
theorem law_end {K : PySem.W.Frag} {f : Scr → Option Bool} {a : Addr} {H : Hp} {ns : List Int} (hS : SqL K H a (ns.map V.int)) (h : f ⟨ns⟩ = some true) : sp1 K f [.ref a] H (fun v _ => v = .bl true) fun _ _ _ => False :=
  ⟨[enc (Scr.mk ns)], _, true, H, rfl, Ex.refl H, .cons (.scr hS) .nil, ⟨Scr.mk ns, rfl, rfl⟩, h, fun v F' H' x r => r.bl_inv⟩
end M
/-! M10: more words -/
namespace M
open PySem PySem.Spec PyProof.Rows L2
open Evl (Ex)
open Enc (enc)
def HL {α : Type} (m : Option (List α)) (n : Nat) : Prop := ∀ xs, m = some xs → xs.length ≤ n
theorem hl_v {α : Type} {xs : List α} : HL (some xs) xs.length := fun ys e => by cases e; exact Nat.le_refl _
theorem hl_c {α : Type} {ma : Option α} {m : Option (List α)} {n : Nat} (h : HL m n) : HL (ma.bind fun a => m.bind fun b => some (a :: b)) (n + 1) := fun xs e => by
  obtain ⟨a, _, e⟩ := Option.bind_eq_some_iff.mp e
  obtain ⟨b, e2, e⟩ := Option.bind_eq_some_iff.mp e
  cases e
  exact Nat.succ_le_succ (h b e2)
theorem hl_ok {α : Type} {m : Option (List α)} {n : Nat} (h : HL m n) (k : n ≤ 1000) : ∀ xs, m = some xs → xs.length ≤ 1000 := fun xs e => Nat.le_trans (h xs e) k
theorem en_lst' {K : PySem.W.Frag} {Γ : List Sl} {α : Type} [Enc α] {t : TA} {m : Option (List α)} {n : Nat} (h : EvH K t Γ m) (hl : HL m n) (k : n ≤ 1000) : EvN K (tLst t) Γ m := en_lst h (hl_ok hl k)
end M
/-! M11: longer tuples, things of any kind, more built-ins -/
namespace M
open PySem PySem.Spec PyProof.Rows L2
open Evl (Ex)
open Enc (enc)
section
variable {K : PySem.W.Frag} {Γ : List Sl} {α1 α2 α3 α4 : Type} [Enc α1] [Enc α2] [Enc α3] [Enc α4]
instance [E1 : EqD α1] [E2 : EqD α2] [E3 : EqD α3] [E4 : EqD α4] : EqD (T4 α1 α2 α3 α4) := ⟨@instDecidableEqT4 _ _ _ _ E1.dec E2.dec E3.dec E4.dec, fun K F H v a e r => by
    obtain ⟨p, vs, rfl, h1, g0⟩ := Rep.tup_inv r
    obtain ⟨v1, ws, rfl, r1, g1⟩ := g0.cons_inv
    obtain ⟨v2, ws, rfl, r2, g2⟩ := g1.cons_inv
    obtain ⟨v3, ws, rfl, r3, g3⟩ := g2.cons_inv
    obtain ⟨v4, ws, rfl, r4, g4⟩ := g3.cons_inv
    cases g4.nil_inv
    exact .tup (Evl.st_of (e _ _ h1)) (.cons (E1.dp _ _ _ _ _ e r1) (.cons (E2.dp _ _ _ _ _ e r2) (.cons (E3.dp _ _ _ _ _ e r3) (.cons (E4.dp _ _ _ _ _ e r4) .nil)))), fun a => E1.ok a.a && (E2.ok a.b && (E3.ok a.c && (E4.ok a.d))), fun a h => by
    show PyData.canLay0 (.tuple [toPy (enc a.a), toPy (enc a.b), toPy (enc a.c), toPy (enc a.d)]) = true
    simp only [Bool.and_eq_true] at h
    simp [PyData.canLay0, PyData.canLayAll0, E1.lay _ h.1, E2.lay _ h.2.1, E3.lay _ h.2.2.1, E4.lay _ h.2.2.2], (max E1.dep (max E2.dep (max E3.dep E4.dep))) + 1, fun a => by
    show PyData.depth (.tuple [toPy (enc a.a), toPy (enc a.b), toPy (enc a.c), toPy (enc a.d)]) ≤ _
    have h1 := E1.depth a.a
    have h2 := E2.depth a.b
    have h3 := E3.depth a.c
    have h4 := E4.depth a.d
    simp only [PyData.depth, PyData.depthAll]
    omega, fun a b => by
    show (PyData.eqv (toPy (enc a.a)) (toPy (enc b.a)) && (PyData.eqv (toPy (enc a.b)) (toPy (enc b.b)) && (PyData.eqv (toPy (enc a.c)) (toPy (enc b.c)) && (PyData.eqv (toPy (enc a.d)) (toPy (enc b.d)) && true)))) = _
    rw [E1.eqv, E2.eqv, E3.eqv, E4.eqv, Bool.and_true]
    by_cases h : a = b
    · subst h
      simp
    · refine Eq.trans ?_ (@decide_eq_false _ (@instDecidableEqT4 _ _ _ _ E1.dec E2.dec E3.dec E4.dec a b) h).symm
      rw [Bool.eq_false_iff]
      intro z
      simp only [Bool.and_eq_true, decide_eq_true_eq] at z
      apply h
      cases a
      cases b
      simp only at z
      obtain ⟨rfl, rfl, rfl, rfl⟩ := z
      rfl⟩
end
structure T5 (α1 α2 α3 α4 α5 : Type) where
  a : α1
  b : α2
  c : α3
  d : α4
  e : α5
  deriving DecidableEq
instance {α1 α2 α3 α4 α5 : Type} [Enc α1] [Enc α2] [Enc α3] [Enc α4] [Enc α5] : Enc (T5 α1 α2 α3 α4 α5) := ⟨fun p => .tup [enc p.a, enc p.b, enc p.c, enc p.d, enc p.e]⟩
section
variable {K : PySem.W.Frag} {Γ : List Sl} {α1 α2 α3 α4 α5 : Type} [Enc α1] [Enc α2] [Enc α3] [Enc α4] [Enc α5]
instance : NotNon (T5 α1 α2 α3 α4 α5) := ⟨fun _ _ x a h e => by obtain ⟨p, vs, e1, _⟩ := Rep.tup_inv h; rw [e1] at e; cases e⟩
instance : TyE (T5 α1 α2 α3 α4 α5) := ⟨"tuple", fun K F H v a x r => by obtain ⟨p, vs, rfl, h1, h2⟩ := Rep.tup_inv r; exact .base (.tup (x _ _ h1))⟩
theorem em_t5 {t0 t1 t2 t3 t4 : TE} {m0 : Option α1} {m1 : Option α2} {m2 : Option α3} {m3 : Option α4} {m4 : Option α5} (h0 : EvM K t0 Γ m0) (h1 : EvM K t1 Γ m1) (h2 : EvM K t2 Γ m2) (h3 : EvM K t3 Γ m3) (h4 : EvM K t4 Γ m4) : EvM K (tTup (tCons t0 (tCons t1 (tCons t2 (tCons t3 (tCons t4 tNil)))))) Γ (m0.bind fun x0 => m1.bind fun x1 => m2.bind fun x2 => m3.bind fun x3 => m4.bind fun x4 => some (T5.mk x0 x1 x2 x3 x4)) := fun c e => by
  obtain ⟨x0, e0, e⟩ := Option.bind_eq_some_iff.mp e
  obtain ⟨x1, e1, e⟩ := Option.bind_eq_some_iff.mp e
  obtain ⟨x2, e2, e⟩ := Option.bind_eq_some_iff.mp e
  obtain ⟨x3, e3, e⟩ := Option.bind_eq_some_iff.mp e
  obtain ⟨x4, e4, e⟩ := Option.bind_eq_some_iff.mp e
  cases e
  subst e0 e1 e2 e3 e4
  exact em_tupD (ea_cons h0 (ea_cons h1 (ea_cons h2 (ea_cons h3 (ea_cons h4 ea_nil))))) (fun ds e => by cases e; show 5 ≤ 1000; decide) (fun _ => some (T5.mk x0 x1 x2 x3 x4)) (fun ds c e e' => by cases e; cases e'; rfl) (T5.mk x0 x1 x2 x3 x4) rfl
theorem em_t5P {t0 t1 t2 t3 t4 : TE} {x0 : α1} {x1 : α2} {x2 : α3} {x3 : α4} {x4 : α5} (h0 : EvM K t0 Γ (some x0)) (h1 : EvM K t1 Γ (some x1)) (h2 : EvM K t2 Γ (some x2)) (h3 : EvM K t3 Γ (some x3)) (h4 : EvM K t4 Γ (some x4)) : EvM K (tTup (tCons t0 (tCons t1 (tCons t2 (tCons t3 (tCons t4 tNil)))))) Γ (some (T5.mk x0 x1 x2 x3 x4)) := em_t5 h0 h1 h2 h3 h4
theorem em_5a {te : TE} {m : Option (T5 α1 α2 α3 α4 α5)} (h : EvM K te Γ m) : EvM K (tOp (rIxT K) te (tC (.int 0))) Γ (m.bind fun a => some a.a) := em_prj (j := 0) (ds := fun a : (T5 α1 α2 α3 α4 α5) => [enc a.a, enc a.b, enc a.c, enc a.d, enc a.e]) (fun _ => rfl) (fun _ => rfl) h em_int
theorem em_5aP {te : TE} {a : (T5 α1 α2 α3 α4 α5)} (h : EvM K te Γ (some a)) : EvM K (tOp (rIxT K) te (tC (.int 0))) Γ (some a.a) := em_5a h
theorem em_5b {te : TE} {m : Option (T5 α1 α2 α3 α4 α5)} (h : EvM K te Γ m) : EvM K (tOp (rIxT K) te (tC (.int 1))) Γ (m.bind fun a => some a.b) := em_prj (j := 1) (ds := fun a : (T5 α1 α2 α3 α4 α5) => [enc a.a, enc a.b, enc a.c, enc a.d, enc a.e]) (fun _ => rfl) (fun _ => rfl) h em_int
theorem em_5bP {te : TE} {a : (T5 α1 α2 α3 α4 α5)} (h : EvM K te Γ (some a)) : EvM K (tOp (rIxT K) te (tC (.int 1))) Γ (some a.b) := em_5b h
theorem em_5c {te : TE} {m : Option (T5 α1 α2 α3 α4 α5)} (h : EvM K te Γ m) : EvM K (tOp (rIxT K) te (tC (.int 2))) Γ (m.bind fun a => some a.c) := em_prj (j := 2) (ds := fun a : (T5 α1 α2 α3 α4 α5) => [enc a.a, enc a.b, enc a.c, enc a.d, enc a.e]) (fun _ => rfl) (fun _ => rfl) h em_int
theorem em_5cP {te : TE} {a : (T5 α1 α2 α3 α4 α5)} (h : EvM K te Γ (some a)) : EvM K (tOp (rIxT K) te (tC (.int 2))) Γ (some a.c) := em_5c h
theorem em_5d {te : TE} {m : Option (T5 α1 α2 α3 α4 α5)} (h : EvM K te Γ m) : EvM K (tOp (rIxT K) te (tC (.int 3))) Γ (m.bind fun a => some a.d) := em_prj (j := 3) (ds := fun a : (T5 α1 α2 α3 α4 α5) => [enc a.a, enc a.b, enc a.c, enc a.d, enc a.e]) (fun _ => rfl) (fun _ => rfl) h em_int
theorem em_5dP {te : TE} {a : (T5 α1 α2 α3 α4 α5)} (h : EvM K te Γ (some a)) : EvM K (tOp (rIxT K) te (tC (.int 3))) Γ (some a.d) := em_5d h
theorem em_5e {te : TE} {m : Option (T5 α1 α2 α3 α4 α5)} (h : EvM K te Γ m) : EvM K (tOp (rIxT K) te (tC (.int 4))) Γ (m.bind fun a => some a.e) := em_prj (j := 4) (ds := fun a : (T5 α1 α2 α3 α4 α5) => [enc a.a, enc a.b, enc a.c, enc a.d, enc a.e]) (fun _ => rfl) (fun _ => rfl) h em_int
theorem em_5eP {te : TE} {a : (T5 α1 α2 α3 α4 α5)} (h : EvM K te Γ (some a)) : EvM K (tOp (rIxT K) te (tC (.int 4))) Γ (some a.e) := em_5e h
instance [E1 : EqD α1] [E2 : EqD α2] [E3 : EqD α3] [E4 : EqD α4] [E5 : EqD α5] : EqD (T5 α1 α2 α3 α4 α5) := ⟨@instDecidableEqT5 _ _ _ _ _ E1.dec E2.dec E3.dec E4.dec E5.dec, fun K F H v a e r => by
    obtain ⟨p, vs, rfl, h1, g0⟩ := Rep.tup_inv r
    obtain ⟨v1, ws, rfl, r1, g1⟩ := g0.cons_inv
    obtain ⟨v2, ws, rfl, r2, g2⟩ := g1.cons_inv
    obtain ⟨v3, ws, rfl, r3, g3⟩ := g2.cons_inv
    obtain ⟨v4, ws, rfl, r4, g4⟩ := g3.cons_inv
    obtain ⟨v5, ws, rfl, r5, g5⟩ := g4.cons_inv
    cases g5.nil_inv
    exact .tup (Evl.st_of (e _ _ h1)) (.cons (E1.dp _ _ _ _ _ e r1) (.cons (E2.dp _ _ _ _ _ e r2) (.cons (E3.dp _ _ _ _ _ e r3) (.cons (E4.dp _ _ _ _ _ e r4) (.cons (E5.dp _ _ _ _ _ e r5) .nil))))), fun a => E1.ok a.a && (E2.ok a.b && (E3.ok a.c && (E4.ok a.d && (E5.ok a.e)))), fun a h => by
    show PyData.canLay0 (.tuple [toPy (enc a.a), toPy (enc a.b), toPy (enc a.c), toPy (enc a.d), toPy (enc a.e)]) = true
    simp only [Bool.and_eq_true] at h
    simp [PyData.canLay0, PyData.canLayAll0, E1.lay _ h.1, E2.lay _ h.2.1, E3.lay _ h.2.2.1, E4.lay _ h.2.2.2.1, E5.lay _ h.2.2.2.2], (max E1.dep (max E2.dep (max E3.dep (max E4.dep E5.dep)))) + 1, fun a => by
    show PyData.depth (.tuple [toPy (enc a.a), toPy (enc a.b), toPy (enc a.c), toPy (enc a.d), toPy (enc a.e)]) ≤ _
    have h1 := E1.depth a.a
    have h2 := E2.depth a.b
    have h3 := E3.depth a.c
    have h4 := E4.depth a.d
    have h5 := E5.depth a.e
    simp only [PyData.depth, PyData.depthAll]
    omega, fun a b => by
    show (PyData.eqv (toPy (enc a.a)) (toPy (enc b.a)) && (PyData.eqv (toPy (enc a.b)) (toPy (enc b.b)) && (PyData.eqv (toPy (enc a.c)) (toPy (enc b.c)) && (PyData.eqv (toPy (enc a.d)) (toPy (enc b.d)) && (PyData.eqv (toPy (enc a.e)) (toPy (enc b.e)) && true))))) = _
    rw [E1.eqv, E2.eqv, E3.eqv, E4.eqv, E5.eqv, Bool.and_true]
    by_cases h : a = b
    · subst h
      simp
    · refine Eq.trans ?_ (@decide_eq_false _ (@instDecidableEqT5 _ _ _ _ _ E1.dec E2.dec E3.dec E4.dec E5.dec a b) h).symm
      rw [Bool.eq_false_iff]
      intro z
      simp only [Bool.and_eq_true, decide_eq_true_eq] at z
      apply h
      cases a
      cases b
      simp only at z
      obtain ⟨rfl, rfl, rfl, rfl, rfl⟩ := z
      rfl⟩
end
structure T6 (α1 α2 α3 α4 α5 α6 : Type) where
  a : α1
  b : α2
  c : α3
  d : α4
  e : α5
  f : α6
  deriving DecidableEq
instance {α1 α2 α3 α4 α5 α6 : Type} [Enc α1] [Enc α2] [Enc α3] [Enc α4] [Enc α5] [Enc α6] : Enc (T6 α1 α2 α3 α4 α5 α6) := ⟨fun p => .tup [enc p.a, enc p.b, enc p.c, enc p.d, enc p.e, enc p.f]⟩
section
variable {K : PySem.W.Frag} {Γ : List Sl} {α1 α2 α3 α4 α5 α6 : Type} [Enc α1] [Enc α2] [Enc α3] [Enc α4] [Enc α5] [Enc α6]
instance : NotNon (T6 α1 α2 α3 α4 α5 α6) := ⟨fun _ _ x a h e => by obtain ⟨p, vs, e1, _⟩ := Rep.tup_inv h; rw [e1] at e; cases e⟩
instance : TyE (T6 α1 α2 α3 α4 α5 α6) := ⟨"tuple", fun K F H v a x r => by obtain ⟨p, vs, rfl, h1, h2⟩ := Rep.tup_inv r; exact .base (.tup (x _ _ h1))⟩
theorem em_t6 {t0 t1 t2 t3 t4 t5 : TE} {m0 : Option α1} {m1 : Option α2} {m2 : Option α3} {m3 : Option α4} {m4 : Option α5} {m5 : Option α6} (h0 : EvM K t0 Γ m0) (h1 : EvM K t1 Γ m1) (h2 : EvM K t2 Γ m2) (h3 : EvM K t3 Γ m3) (h4 : EvM K t4 Γ m4) (h5 : EvM K t5 Γ m5) : EvM K (tTup (tCons t0 (tCons t1 (tCons t2 (tCons t3 (tCons t4 (tCons t5 tNil))))))) Γ (m0.bind fun x0 => m1.bind fun x1 => m2.bind fun x2 => m3.bind fun x3 => m4.bind fun x4 => m5.bind fun x5 => some (T6.mk x0 x1 x2 x3 x4 x5)) := fun c e => by
  obtain ⟨x0, e0, e⟩ := Option.bind_eq_some_iff.mp e
  obtain ⟨x1, e1, e⟩ := Option.bind_eq_some_iff.mp e
  obtain ⟨x2, e2, e⟩ := Option.bind_eq_some_iff.mp e
  obtain ⟨x3, e3, e⟩ := Option.bind_eq_some_iff.mp e
  obtain ⟨x4, e4, e⟩ := Option.bind_eq_some_iff.mp e
  obtain ⟨x5, e5, e⟩ := Option.bind_eq_some_iff.mp e
  cases e
  subst e0 e1 e2 e3 e4 e5
  exact em_tupD (ea_cons h0 (ea_cons h1 (ea_cons h2 (ea_cons h3 (ea_cons h4 (ea_cons h5 ea_nil)))))) (fun ds e => by cases e; show 6 ≤ 1000; decide) (fun _ => some (T6.mk x0 x1 x2 x3 x4 x5)) (fun ds c e e' => by cases e; cases e'; rfl) (T6.mk x0 x1 x2 x3 x4 x5) rfl
theorem em_t6P {t0 t1 t2 t3 t4 t5 : TE} {x0 : α1} {x1 : α2} {x2 : α3} {x3 : α4} {x4 : α5} {x5 : α6} (h0 : EvM K t0 Γ (some x0)) (h1 : EvM K t1 Γ (some x1)) (h2 : EvM K t2 Γ (some x2)) (h3 : EvM K t3 Γ (some x3)) (h4 : EvM K t4 Γ (some x4)) (h5 : EvM K t5 Γ (some x5)) : EvM K (tTup (tCons t0 (tCons t1 (tCons t2 (tCons t3 (tCons t4 (tCons t5 tNil))))))) Γ (some (T6.mk x0 x1 x2 x3 x4 x5)) := em_t6 h0 h1 h2 h3 h4 h5
theorem em_6a {te : TE} {m : Option (T6 α1 α2 α3 α4 α5 α6)} (h : EvM K te Γ m) : EvM K (tOp (rIxT K) te (tC (.int 0))) Γ (m.bind fun a => some a.a) := em_prj (j := 0) (ds := fun a : (T6 α1 α2 α3 α4 α5 α6) => [enc a.a, enc a.b, enc a.c, enc a.d, enc a.e, enc a.f]) (fun _ => rfl) (fun _ => rfl) h em_int
theorem em_6aP {te : TE} {a : (T6 α1 α2 α3 α4 α5 α6)} (h : EvM K te Γ (some a)) : EvM K (tOp (rIxT K) te (tC (.int 0))) Γ (some a.a) := em_6a h
theorem em_6b {te : TE} {m : Option (T6 α1 α2 α3 α4 α5 α6)} (h : EvM K te Γ m) : EvM K (tOp (rIxT K) te (tC (.int 1))) Γ (m.bind fun a => some a.b) := em_prj (j := 1) (ds := fun a : (T6 α1 α2 α3 α4 α5 α6) => [enc a.a, enc a.b, enc a.c, enc a.d, enc a.e, enc a.f]) (fun _ => rfl) (fun _ => rfl) h em_int
theorem em_6bP {te : TE} {a : (T6 α1 α2 α3 α4 α5 α6)} (h : EvM K te Γ (some a)) : EvM K (tOp (rIxT K) te (tC (.int 1))) Γ (some a.b) := em_6b h
theorem em_6c {te : TE} {m : Option (T6 α1 α2 α3 α4 α5 α6)} (h : EvM K te Γ m) : EvM K (tOp (rIxT K) te (tC (.int 2))) Γ (m.bind fun a => some a.c) := em_prj (j := 2) (ds := fun a : (T6 α1 α2 α3 α4 α5 α6) => [enc a.a, enc a.b, enc a.c, enc a.d, enc a.e, enc a.f]) (fun _ => rfl) (fun _ => rfl) h em_int
theorem em_6cP {te : TE} {a : (T6 α1 α2 α3 α4 α5 α6)} (h : EvM K te Γ (some a)) : EvM K (tOp (rIxT K) te (tC (.int 2))) Γ (some a.c) := em_6c h
theorem em_6d {te : TE} {m : Option (T6 α1 α2 α3 α4 α5 α6)} (h : EvM K te Γ m) : EvM K (tOp (rIxT K) te (tC (.int 3))) Γ (m.bind fun a => some a.d) := em_prj (j := 3) (ds := fun a : (T6 α1 α2 α3 α4 α5 α6) => [enc a.a, enc a.b, enc a.c, enc a.d, enc a.e, enc a.f]) (fun _ => rfl) (fun _ => rfl) h em_int
theorem em_6dP {te : TE} {a : (T6 α1 α2 α3 α4 α5 α6)} (h : EvM K te Γ (some a)) : EvM K (tOp (rIxT K) te (tC (.int 3))) Γ (some a.d) := em_6d h
theorem em_6e {te : TE} {m : Option (T6 α1 α2 α3 α4 α5 α6)} (h : EvM K te Γ m) : EvM K (tOp (rIxT K) te (tC (.int 4))) Γ (m.bind fun a => some a.e) := em_prj (j := 4) (ds := fun a : (T6 α1 α2 α3 α4 α5 α6) => [enc a.a, enc a.b, enc a.c, enc a.d, enc a.e, enc a.f]) (fun _ => rfl) (fun _ => rfl) h em_int
theorem em_6eP {te : TE} {a : (T6 α1 α2 α3 α4 α5 α6)} (h : EvM K te Γ (some a)) : EvM K (tOp (rIxT K) te (tC (.int 4))) Γ (some a.e) := em_6e h
theorem em_6f {te : TE} {m : Option (T6 α1 α2 α3 α4 α5 α6)} (h : EvM K te Γ m) : EvM K (tOp (rIxT K) te (tC (.int 5))) Γ (m.bind fun a => some a.f) := em_prj (j := 5) (ds := fun a : (T6 α1 α2 α3 α4 α5 α6) => [enc a.a, enc a.b, enc a.c, enc a.d, enc a.e, enc a.f]) (fun _ => rfl) (fun _ => rfl) h em_int
theorem em_6fP {te : TE} {a : (T6 α1 α2 α3 α4 α5 α6)} (h : EvM K te Γ (some a)) : EvM K (tOp (rIxT K) te (tC (.int 5))) Γ (some a.f) := em_6f h
instance [E1 : EqD α1] [E2 : EqD α2] [E3 : EqD α3] [E4 : EqD α4] [E5 : EqD α5] [E6 : EqD α6] : EqD (T6 α1 α2 α3 α4 α5 α6) := ⟨@instDecidableEqT6 _ _ _ _ _ _ E1.dec E2.dec E3.dec E4.dec E5.dec E6.dec, fun K F H v a e r => by
    obtain ⟨p, vs, rfl, h1, g0⟩ := Rep.tup_inv r
    obtain ⟨v1, ws, rfl, r1, g1⟩ := g0.cons_inv
    obtain ⟨v2, ws, rfl, r2, g2⟩ := g1.cons_inv
    obtain ⟨v3, ws, rfl, r3, g3⟩ := g2.cons_inv
    obtain ⟨v4, ws, rfl, r4, g4⟩ := g3.cons_inv
    obtain ⟨v5, ws, rfl, r5, g5⟩ := g4.cons_inv
    obtain ⟨v6, ws, rfl, r6, g6⟩ := g5.cons_inv
    cases g6.nil_inv
    exact .tup (Evl.st_of (e _ _ h1)) (.cons (E1.dp _ _ _ _ _ e r1) (.cons (E2.dp _ _ _ _ _ e r2) (.cons (E3.dp _ _ _ _ _ e r3) (.cons (E4.dp _ _ _ _ _ e r4) (.cons (E5.dp _ _ _ _ _ e r5) (.cons (E6.dp _ _ _ _ _ e r6) .nil)))))), fun a => E1.ok a.a && (E2.ok a.b && (E3.ok a.c && (E4.ok a.d && (E5.ok a.e && (E6.ok a.f))))), fun a h => by
    show PyData.canLay0 (.tuple [toPy (enc a.a), toPy (enc a.b), toPy (enc a.c), toPy (enc a.d), toPy (enc a.e), toPy (enc a.f)]) = true
    simp only [Bool.and_eq_true] at h
    simp [PyData.canLay0, PyData.canLayAll0, E1.lay _ h.1, E2.lay _ h.2.1, E3.lay _ h.2.2.1, E4.lay _ h.2.2.2.1, E5.lay _ h.2.2.2.2.1, E6.lay _ h.2.2.2.2.2], (max E1.dep (max E2.dep (max E3.dep (max E4.dep (max E5.dep E6.dep))))) + 1, fun a => by
    show PyData.depth (.tuple [toPy (enc a.a), toPy (enc a.b), toPy (enc a.c), toPy (enc a.d), toPy (enc a.e), toPy (enc a.f)]) ≤ _
    have h1 := E1.depth a.a
    have h2 := E2.depth a.b
    have h3 := E3.depth a.c
    have h4 := E4.depth a.d
    have h5 := E5.depth a.e
    have h6 := E6.depth a.f
    simp only [PyData.depth, PyData.depthAll]
    omega, fun a b => by
    show (PyData.eqv (toPy (enc a.a)) (toPy (enc b.a)) && (PyData.eqv (toPy (enc a.b)) (toPy (enc b.b)) && (PyData.eqv (toPy (enc a.c)) (toPy (enc b.c)) && (PyData.eqv (toPy (enc a.d)) (toPy (enc b.d)) && (PyData.eqv (toPy (enc a.e)) (toPy (enc b.e)) && (PyData.eqv (toPy (enc a.f)) (toPy (enc b.f)) && true)))))) = _
    rw [E1.eqv, E2.eqv, E3.eqv, E4.eqv, E5.eqv, E6.eqv, Bool.and_true]
    by_cases h : a = b
    · subst h
      simp
    · refine Eq.trans ?_ (@decide_eq_false _ (@instDecidableEqT6 _ _ _ _ _ _ E1.dec E2.dec E3.dec E4.dec E5.dec E6.dec a b) h).symm
      rw [Bool.eq_false_iff]
      intro z
      simp only [Bool.and_eq_true, decide_eq_true_eq] at z
      apply h
      cases a
      cases b
      simp only at z
      obtain ⟨rfl, rfl, rfl, rfl, rfl, rfl⟩ := z
      rfl⟩
end
section
variable {K : PySem.W.Frag} {Γ : List Sl} {α β γ : Type} [Enc α] [Enc β] [Enc γ] {ta tb tc te : TE} {ma : Option α} {mb : Option β} {mc : Option γ}
/-! ### tuple(list) -/
def rTupS (K : PySem.W.Frag) : List V → Hp → VK → Prop := fun xs H Q => ∃ p ys, xs = [.ref p] ∧ ((SqL K H p ys ∧ ∀ l, H l = none → Q (.ref l) (upd H l (.tup ys))) ∨ (SqT K H p ys ∧ Q (.ref p) H))
theorem call_tupS {X : Cx} : CallR X (.type "tuple") (rTupS X.K) := call_tuple_of
theorem em_tuple {m : Option (List α)} (h : EvL K ta Γ m) : EvM K (tCB (rTupS K) (tCons ta tNil)) Γ (m.bind fun xs => some (Tu.mk xs)) := fun c e F0 B F σ H k Q q => by
  obtain ⟨xs, e1, e⟩ := Option.bind_eq_some_iff.mp e
  cases e
  refine h xs e1 F0 B F σ H k _ fun p vs F1 H1 x1 h1 r1 => ⟨p, vs, rfl, Or.inl ⟨Evl.sq_of h1, fun l hl => ?_⟩⟩
  have x2 := Ext.new (o := .tup vs) x1.fh hl
  exact q _ _ _ (x1.trans x2) (.tup upd_same r1.len (r1.mono x2.ff).at_)
theorem em_tupleP {xs : List α} (h : EvL K ta Γ (some xs)) : EvM K (tCB (rTupS K) (tCons ta tNil)) Γ (some (Tu.mk xs)) := em_tuple h
/-- a power of two given numbers -/
def pw (a b : Int) : Int := a ^ b.toNat
theorem em_pw {a b : Int} (h : CPow a b) (ha : EvM K ta Γ (some a)) (hb : EvM K tb Γ (some b)) : EvM K (tOp (rI CPow fun i j => .int (i ^ j.toNat)) ta tb) Γ (some (pw a b)) := em_powC h ha hb
/-! ### a thing of any kind -/
def tyD : D → String
  | .non => "NoneType" | .bl _ => "bool" | .int _ => "int" | .str _ => "str" | .lst _ => "list" | .tup _ => "tuple" | .dic _ => "dict" | .dit _ => "dict" | .scr _ => "list" | .obj _ _ _ => "object" | .lkd _ => "object" | .tnt _ => "tuple"
def D.isO : D → Bool | .obj _ _ _ => true | .lkd _ => true | .tnt _ => true | _ => false
def isD (T : String) (d : D) : Option Bool := if d.isO = true then none else kitB (tyD d) T
theorem tyD_ok {F H : Hp} {v : V} {d : D} (ho : d.isO = false) (x : Ex F H) (r : Rep K F v d) : TyX K H v (.type (tyD d)) := by
  cases r with
  | non => exact .base .non
  | bl b => exact .base (.bl b)
  | int i => exact .base (.int i)
  | str s => exact .base (.str s)
  | lst h _ _ => exact .base (.lst (x _ _ h))
  | tup h _ _ => exact .base (.tup (x _ _ h))
  | dic h _ _ => exact .base (.dK (x _ _ h))
  | dit h _ _ => exact .base (.dT (x _ _ h))
  | scr h =>
    rcases h with (h | ⟨o, h⟩) | ⟨o, its, n, h1, h2, _⟩
    · exact .base (.lst (x _ _ h))
    · exact .base (.frz (x _ _ h))
    · exact .kList h1 h2
  | obj h _ _ _ _ => cases ho
  | lkd h _ _ => cases ho
  | tnt h _ _ => cases ho
theorem em_isiD {T' : String} {m : Option D} (h : EvM K ta Γ m) : EvM K (tCB (rIsi K) (tCons ta (tCons (tC (.ty T')) tNil))) Γ (m.bind fun d => isD T' d) := fun c e F0 B F σ H k Q q => by
  obtain ⟨d, e1, e⟩ := Option.bind_eq_some_iff.mp e
  unfold isD at e
  cases ho : d.isO with
  | true => rw [ho, if_pos rfl] at e; cases e
  | false =>
  rw [ho, if_neg (by decide)] at e
  refine h d e1 F0 B F σ H k _ fun v F1 H1 x1 r1 => ?_
  exact ⟨v, .ty T', .type (tyD d), .type T', c, rfl, .ty T', tyD_ok ho x1.fh r1, kit_ty e, q _ F1 H1 x1 (.bl _)⟩
theorem em_isiDP {T' : String} {d : D} (h : EvM K ta Γ (some d)) : EvM K (tCB (rIsi K) (tCons ta (tCons (tC (.ty T')) tNil))) Γ (isD T' d) := em_isiD h
/-- .. read as what it is -/
def D.str? : D → Option Str | .str s => some s | _ => none
def D.int? : D → Option Int | .int s => some s | _ => none
def D.bool? : D → Option Bool | .bl s => some s | _ => none
theorem em_dn {m : Option D} {f : D → Option α} (hf : ∀ d a, f d = some a → d = enc a) (h : EvM K ta Γ m) : EvM K ta Γ (m.bind f) := fun c e F0 B F σ H k Q q => by
  obtain ⟨d, e1, e⟩ := Option.bind_eq_some_iff.mp e
  refine h d e1 F0 B F σ H k _ fun v F1 H1 x1 r1 => q v F1 H1 x1 ?_
  rw [← hf d c e]; exact r1
theorem dn_str : ∀ (d : D) (a : Str), d.str? = some a → d = enc a := fun d a e => by cases d <;> cases e; rfl
theorem dn_int : ∀ (d : D) (a : Int), d.int? = some a → d = enc a := fun d a e => by cases d <;> cases e; rfl
theorem dn_bool : ∀ (d : D) (a : Bool), d.bool? = some a → d = enc a := fun d a e => by cases d <;> cases e; rfl
theorem em_dnP {d : D} {f : D → Option α} (hf : ∀ d a, f d = some a → d = enc a) (h : EvM K ta Γ (some d)) : EvM K ta Γ (f d) := em_dn hf h
/-- the script as a list -/
theorem SqL.lst {H : Hp} {p : Addr} {xs : List V} (h : SqL K H p xs) : True := trivial
end
end M
/-! M12: things of one's own: handed in, changed, handed back -/
namespace M
open PySem PySem.Spec PyProof.Rows L2
open Evl (Ex)
open Enc (enc)

section
variable {K : PySem.W.Frag} {F F' H H' F0 B : Hp} {Γ Γ' Δ : List Sl} {σ ws : L2.St}
theorem SlRs.append {a b : List Sl} {va vb : List (Option V)} {fa fb : List Addr} (h1 : SlRs K F H a va fa) (h2 : SlRs K F H b vb fb) : SlRs K F H (a ++ b) (va ++ vb) (fa ++ fb) := by
  induction h1 with
  | nil => exact h2
  | cons h t ih =>
    rw [List.append_assoc]
    exact .cons h ih
theorem SlRs.split {b : List Sl} {vb : List (Option V)} : ∀ {a : List Sl} {va : List (Option V)} {fp : List Addr}, a.length = va.length → SlRs K F H (a ++ b) (va ++ vb) fp → ∃ fa fb, fp = fa ++ fb ∧ SlRs K F H a va fa ∧ SlRs K F H b vb fb
  | [], [], fp, _, h => ⟨[], fp, rfl, .nil, h⟩
  | s :: a, v :: va, fp, hl, h => by
    cases h with
    | @cons _ _ f1 _ _ f2 h t =>
      obtain ⟨fa, fb, rfl, t1, t2⟩ := SlRs.split (by simpa using hl) t
      exact ⟨f1 ++ fa, fb, by simp, .cons h t1, t2⟩
/-- the same things, told otherwise -/
theorem Ok.re {σ' : L2.St} (k : Ok K F0 B F Γ σ H) (h : ∀ fp, SlRs K F H Γ σ fp → fp.Nodup → ∃ fp', SlRs K F H Γ' σ' fp' ∧ fp'.Nodup ∧ ∀ p ∈ fp', p ∈ fp) : Ok K F0 B F Γ' σ' H := by
  obtain ⟨fp, h1, h2, h3⟩ := k.sl
  obtain ⟨fp', a1, a2, a3⟩ := h fp h1 h2
  exact ⟨k.f0, k.fh, k.bh, k.nb, fp', a1, a2, fun p hp => h3 p (a3 p hp)⟩
theorem Ok.back (k : Ok K F0 B F (Δ ++ Γ) (ws ++ σ) H) (hl : Δ.length = ws.length) : Ok K F0 B F Γ σ H :=
  k.re fun fp h nd => by
    obtain ⟨fa, fb, rfl, h1, h2⟩ := SlRs.split hl h
    exact ⟨fb, h2, (List.nodup_append.mp nd).2.1, fun p hp => List.mem_append_right _ hp⟩
theorem Ok.back1 {s : Sl} {v : Option V} (k : Ok K F0 B F (s :: Γ) (v :: σ) H) : Ok K F0 B F Γ σ H := Ok.back (Δ := [s]) (ws := [v]) k rfl
/-- a new value comes ahead -/
theorem Ok.push {s : Sl} {v : V} {fr : List Addr} (k : Ok K F0 B F Γ σ H) (x : Ext F H F' H') (r : SlR K F' H' s (some v) fr) (nd : fr.Nodup) (nw : ∀ p ∈ fr, H p = none ∧ F' p = none) : Ok K F0 B F' (s :: Γ) (some v :: σ) H' := by
  have k' := k.ext x
  obtain ⟨fp, h1, h2, h3⟩ := k.sl
  have h1' : SlRs K F' H' Γ σ fp := h1.mono x.ff fun p hp => by
    obtain ⟨o, ho⟩ := h1.dom p hp
    rw [ho]; exact x.hh p o ho
  refine ⟨k'.f0, k'.fh, k'.bh, k'.nb, fr ++ fp, .cons r h1', ?_, fun p hp => ?_⟩
  · rw [List.nodup_append]
    refine ⟨nd, h2, fun a ha b hb e => ?_⟩
    subst e
    obtain ⟨o, ho⟩ := h1.dom a hb
    rw [(nw a ha).1] at ho; cases ho
  · rcases List.mem_append.mp hp with hp | hp
    · exact ⟨(nw p hp).2, none_of k.bh (nw p hp).1⟩
    · obtain ⟨o, ho⟩ := h1.dom p hp
      exact ⟨(x.old p o ho).trans (h3 p hp).1, (h3 p hp).2⟩
/-- .. behind some others -/
theorem Ok.pushFz {d : D} {v : V} (k : Ok K F0 B F (Δ ++ Γ) (ws ++ σ) H) (hl : Δ.length = ws.length) (r : Rep K F v d) : Ok K F0 B F ((Δ ++ [.fz d]) ++ Γ) ((ws ++ [some v]) ++ σ) H :=
  k.re fun fp h nd => by
    obtain ⟨fa, fb, rfl, h1, h2⟩ := SlRs.split hl h
    have h3 : SlRs K F H [.fz d] [some v] ([] ++ []) := .cons ⟨rfl, v, rfl, r⟩ .nil
    exact ⟨(fa ++ ([] ++ [])) ++ fb, (h1.append h3).append h2, by simpa using nd, fun p hp => by simpa using hp⟩
theorem set_same {σ : L2.St} {i : Nat} {x : Option V} (h : σ[i]? = some x) : σ.set i x = σ := set_id h
/-- an own thing goes ahead; its name knows where it is -/
theorem Ok.moveKn {i : Nat} {w : V} {s : Sl} (k : Ok K F0 B F (Δ ++ Γ) (ws ++ σ) H) (hl : Δ.length = ws.length) (hi : Γ[i]? = some (.kn w s)) : σ[i]? = some (some w) ∧ Ok K F0 B F ((Δ ++ [.kn w s]) ++ Γ.set i (.kn w .no)) ((ws ++ [some w]) ++ σ) H := by
  have k0 := k.back hl
  obtain ⟨v, m, a1, a2, _⟩ := k0.mod hi
  have ev : v = some w := a2.1
  subst ev
  refine ⟨a1, k.re fun fp h nd => ?_⟩
  obtain ⟨fa, fb, rfl, h1, h2⟩ := SlRs.split hl h
  obtain ⟨v, l, m, r, b1, rfl, b3, b4⟩ := h2.at hi
  have ev : v = some w := b3.1
  subst ev
  have z := b4 F H (.kn w .no) (some w) [] (Ex.refl F) (fun _ _ => rfl) ⟨rfl, rfl⟩
  rw [set_id b1] at z
  have h3 : SlRs K F H [.kn w s] [some w] (m ++ []) := .cons b3 .nil
  refine ⟨_, (h1.append h3).append z, ?_, fun p hp => ?_⟩
  · rw [List.append_nil, List.append_nil]
    have pm : (fa ++ m ++ (l ++ r)).Perm (fa ++ (l ++ m ++ r)) := by
      rw [List.append_assoc]
      refine List.Perm.append_left fa ?_
      rw [← List.append_assoc]
      exact List.Perm.append_right r List.perm_append_comm
    exact pm.nodup_iff.mpr nd
  · simp only [List.append_nil, List.mem_append] at hp ⊢
    rcases hp with (hp | hp) | hp | hp <;> simp [hp]
/-- the thing ahead comes back to its name -/
theorem Ok.backKn {i : Nat} {w : V} {s x : Sl} {v : Option V} (k : Ok K F0 B F (x :: .kn w s :: (Δ ++ Γ)) (v :: some w :: (ws ++ σ)) H) (hl : Δ.length = ws.length) (hi : Γ[i]? = some (.kn w .no)) : Ok K F0 B F (x :: (Δ ++ Γ.set i (.kn w s))) (v :: (ws ++ σ)) H :=
  k.re fun fp h nd => by
    cases h with
    | @cons _ _ f0 _ _ _ hx h =>
      cases h with
      | @cons _ _ f1 _ _ _ hs h =>
        obtain ⟨fa, fb, rfl, h1, h2⟩ := SlRs.split hl h
        obtain ⟨u, l, m, r, b1, rfl, b3, b4⟩ := h2.at hi
        have eu : u = some w := b3.1
        subst eu
        have em : m = [] := b3.2
        subst em
        have z := b4 F H (.kn w s) (some w) f1 (Ex.refl F) (fun _ _ => rfl) hs
        rw [set_id b1] at z
        refine ⟨_, .cons hx (h1.append z), ?_, fun p hp => ?_⟩
        · have pm : (f0 ++ (fa ++ (l ++ f1 ++ r))).Perm (f0 ++ (f1 ++ (fa ++ (l ++ [] ++ r)))) := by
            refine List.Perm.append_left f0 ?_
            rw [List.append_nil]
            refine List.Perm.trans ?_ (List.perm_append_comm_assoc fa f1 (l ++ r))
            refine List.Perm.append_left fa ?_
            rw [List.append_assoc]
            exact (List.perm_append_comm_assoc l f1 r)
          exact pm.nodup_iff.mpr nd
        · simp only [List.append_nil, List.mem_append] at hp ⊢
          rcases hp with hp | hp | (hp | hp) | hp <;> simp [hp]
theorem Ok.dropAt {s x : Sl} {v u : Option V} (k : Ok K F0 B F (x :: s :: Γ) (v :: u :: σ) H) : Ok K F0 B F (x :: Γ) (v :: σ) H :=
  k.re fun fp h nd => by
    cases h with
    | @cons _ _ f0 _ _ _ hx h =>
      cases h with
      | @cons _ _ f1 _ _ f2 hs h =>
        refine ⟨f0 ++ f2, .cons hx h, ?_, fun p hp => ?_⟩
        · rw [List.nodup_append] at nd ⊢
          refine ⟨nd.1, (List.nodup_append.mp nd.2.1).2.1, fun a ha b hb => nd.2.2 a ha b (List.mem_append_right _ hb)⟩
        · simp only [List.mem_append] at hp ⊢
          rcases hp with hp | hp <;> simp [hp]
/-- the thing ahead goes to a name -/
theorem Ok.mv {i : Nat} {s s1 : Sl} {v : Option V} (k : Ok K F0 B F (s :: Γ) (v :: σ) H) (hi : Γ[i]? = some s1) : Ok K F0 B F (Γ.set i s) (σ.set i v) H :=
  k.re fun fp h nd => by
    cases h with
    | @cons _ _ f0 _ _ _ hx h =>
      obtain ⟨u, l, m, r, b1, rfl, b3, b4⟩ := h.at hi
      have z := b4 F H s v f0 (Ex.refl F) (fun _ _ => rfl) hx
      refine ⟨_, z, ?_, fun p hp => ?_⟩
      · have pm : (l ++ f0 ++ r).Perm (f0 ++ (l ++ r)) := by
          rw [List.append_assoc]
          exact List.perm_append_comm_assoc l f0 r
        rw [pm.nodup_iff]
        have sb : (f0 ++ (l ++ r)).Sublist (f0 ++ (l ++ m ++ r)) := by
          refine List.Sublist.append_left ?_ f0
          rw [List.append_assoc]
          exact List.Sublist.append_left (List.sublist_append_right m r) l
        exact sb.nodup nd
      · simp only [List.mem_append] at hp ⊢
        rcases hp with (hp | hp) | hp <;> simp [hp]
/-- .. and back -/
theorem Ok.take {i : Nat} {s : Sl} (k : Ok K F0 B F Γ σ H) (hi : Γ[i]? = some s) : ∃ v, σ[i]? = some v ∧ Ok K F0 B F (s :: Γ.set i .no) (v :: σ) H := by
  obtain ⟨v, m, a1, a2, _⟩ := k.mod hi
  refine ⟨v, a1, k.re fun fp h nd => ?_⟩
  obtain ⟨u, l, m, r, b1, rfl, b3, b4⟩ := h.at hi
  have eu : u = v := Option.some.inj (b1.symm.trans a1)
  subst eu
  have z := b4 F H .no u [] (Ex.refl F) (fun _ _ => rfl) rfl
  rw [set_id b1] at z
  refine ⟨_, .cons b3 z, ?_, fun p hp => ?_⟩
  · have pm : (m ++ (l ++ [] ++ r)).Perm (l ++ m ++ r) := by
      rw [List.append_nil, List.append_assoc]
      exact List.perm_append_comm_assoc m l r
    exact pm.nodup_iff.mpr nd
  · simp only [List.append_nil, List.mem_append] at hp ⊢
    rcases hp with hp | hp | hp <;> simp [hp]
theorem slr_some : ∀ {s : Sl} {v : Option V} {m : List Addr}, SlR K F H s v m → s ≠ .no → (∀ w, s ≠ .kn w .no) → ∃ w, v = some w
  | .no, _, _, _, h, _ => absurd rfl h
  | .fz d, _, _, h, _, _ => ⟨_, h.2.choose_spec.1⟩
  | .own ds, _, _, h, _, _ => by obtain ⟨p, vs, _, h, _⟩ := h; exact ⟨_, h⟩
  | .at_ p ds, _, _, h, _, _ => by obtain ⟨vs, _, h, _⟩ := h; exact ⟨_, h⟩
  | .owd ds, _, _, h, _, _ => by obtain ⟨p, vs, _, h, _⟩ := h; exact ⟨_, h⟩
  | .owt ds, _, _, h, _, _ => by obtain ⟨p, vs, _, h, _⟩ := h; exact ⟨_, h⟩
  | .ol ss, _, _, h, _, _ => by obtain ⟨p, vs, _, _, h, _⟩ := h; exact ⟨_, h⟩
  | .ob C xs ss, _, _, h, _, _ => by obtain ⟨p, dx, vs, _, _, h, _⟩ := h; exact ⟨_, h⟩
  | .ot_ ss, _, _, h, _, _ => by obtain ⟨p, vs, _, _, h, _⟩ := h; exact ⟨_, h⟩
  | .kn w s, _, _, h, _, _ => ⟨w, h.1⟩
end

section
variable {K : PySem.W.Frag} {Γ Γ' : List Sl} {α β γ δ : Type} [Enc α] [Enc β] {ta tb tc te tp : TE} {ma : Option α} {T A S R : Type} {hd : Hdl T} {u w t : TS}

/-! ### judgements -/
/-- a new thing of one's own -/
def EvW (K : PySem.W.Frag) (te : TE) (Γ : List Sl) (m : Option γ) (rs : γ → Sl) : Prop :=
  ∀ a, m = some a → ∀ (F0 B F : Hp) (σ : L2.St) (H : Hp), Ok K F0 B F Γ σ H → ∀ Q : VK, (∀ v F' H' fr, Ext F H F' H' → SlR K F' H' (rs a) (some v) fr → fr.Nodup → (∀ p ∈ fr, H p = none ∧ F' p = none) → Q v H') → te σ H Q
/-- a value, and the slots behind -/
def EvS (K : PySem.W.Frag) (te : TE) (Γ : List Sl) (m : Option γ) (rs : γ → Sl) (G : γ → List Sl) : Prop :=
  ∀ a, m = some a → ∀ (F0 B F : Hp) (σ : L2.St) (H : Hp), Ok K F0 B F Γ σ H → ∀ Q : VK, (∀ v F' H', Ok K F0 B F' (rs a :: G a) (some v :: σ) H' → Q v H') → te σ H Q
/-- .. and some things between -/
def EvSF (K : PySem.W.Frag) (te : TE) (Γ : List Sl) (m : Option γ) (rs : γ → Sl) (D G : γ → List Sl) : Prop :=
  ∀ a, m = some a → ∀ (F0 B F : Hp) (σ : L2.St) (H : Hp), Ok K F0 B F Γ σ H → ∀ Q : VK, (∀ v ws F' H', ws.length = (D a).length → Ok K F0 B F' (rs a :: (D a ++ G a)) (some v :: (ws ++ σ)) H' → Q v H') → te σ H Q
/-- a test that may change things -/
def EvTS (K : PySem.W.Frag) (tt : TT) (Γ : List Sl) (m : Option γ) (b : γ → Bool) (G : γ → List Sl) : Prop :=
  ∀ a, m = some a → ∀ (F0 B F : Hp) (σ : L2.St) (H : Hp), Ok K F0 B F Γ σ H → ∀ Q : Bool → Hp → Prop, (∀ F' H', Ok K F0 B F' (G a) σ H' → Q (b a) H') → tt σ H Q
/-- arguments -/
def EvG (K : PySem.W.Frag) (ta : TA) (Γ Γ' : List Sl) (ss : List Sl) : Prop :=
  ∀ (F0 B F : Hp) (Δ : List Sl) (ws σ : L2.St) (H : Hp), Δ.length = ws.length → Ok K F0 B F (Δ ++ Γ) (ws ++ σ) H → ∀ Q : List V → Hp → Prop,
    (∀ vs F' H', vs.length = ss.length → Ok K F0 B F' ((Δ ++ ss) ++ Γ') ((ws ++ vs.map some) ++ σ) H' → Q vs H') → ta σ H Q

theorem ew_n {m : Option (List α)} (h : EvN K te Γ m) : EvW K te Γ m (fun a => .o a) := fun a e F0 B F σ H k Q q =>
  h a e F0 B F σ H k Q fun p vs F' H' x h1 h2 h3 r => q _ F' H' [p] x ⟨p, vs, rfl, rfl, h3, r⟩ (by simp) fun z hz => by rw [List.mem_singleton.mp hz]; exact ⟨h1, h2⟩
theorem en_w {m : Option (List α)} (h : EvW K te Γ m (fun a => .o a)) : EvN K te Γ m := fun a e F0 B F σ H k Q q =>
  h a e F0 B F σ H k Q fun v F' H' fr x r nd nw => by
    obtain ⟨p, vs, rfl, ev, h1, h2⟩ := r
    cases ev
    exact q p vs F' H' x (nw p (by simp)).1 (nw p (by simp)).2 h1 h2
theorem es_w {m : Option γ} {rs : γ → Sl} (h : EvW K te Γ m rs) : EvS K te Γ m rs (fun _ => Γ) := fun a e F0 B F σ H k Q q =>
  h a e F0 B F σ H k Q fun v F' H' fr x r nd nw => q v F' H' (k.push x r nd nw)
theorem es_m (h : EvM K te Γ ma) : EvS K te Γ ma (fun a => .f a) (fun _ => Γ) := fun a e F0 B F σ H k Q q =>
  h a e F0 B F σ H k Q fun v F' H' x r => q v F' H' (k.push x (fr := []) ⟨rfl, v, rfl, r⟩ List.nodup_nil fun p hp => by cases hp)
/-- a part of it that is read first -/
theorem es_arg {f : α → Option γ} {rs : γ → Sl} {G : γ → List Sl} (h : EvM K ta Γ ma) (k : ∀ a, EvM K ta Γ (some a) → EvS K te Γ (f a) rs G) : EvS K te Γ (ma.bind f) rs G := fun c e => by
  obtain ⟨a, e1, e⟩ := Option.bind_eq_some_iff.mp e
  subst e1
  exact k a h c e
theorem ew_arg {f : α → Option γ} {rs : γ → Sl} (h : EvM K ta Γ ma) (k : ∀ a, EvM K ta Γ (some a) → EvW K te Γ (f a) rs) : EvW K te Γ (ma.bind f) rs := fun c e => by
  obtain ⟨a, e1, e⟩ := Option.bind_eq_some_iff.mp e
  subst e1
  exact k a h c e
theorem eg_nil : EvG K tNil Γ Γ [] := fun F0 B F Δ ws σ H hl k Q q => by
  refine q [] F H rfl ?_
  simpa using k
theorem eg_fz {tr : TA} {a : α} {ss : List Sl} (h : EvM K te Γ (some a)) (hr : EvG K tr Γ Γ' ss) : EvG K (tCons te tr) Γ Γ' (.f a :: ss) := fun F0 B F Δ ws σ H hl k Q q => by
  refine h a rfl F0 B F σ H (k.back hl) _ fun v F1 H1 x1 r1 => ?_
  have k1 := (k.ext x1).pushFz hl r1
  refine hr F0 B F1 _ _ σ H1 (by simp [hl]) k1 _ fun vs F2 H2 hv k2 => ?_
  refine q (v :: vs) F2 H2 (by simp [hv]) ?_
  simpa using k2
theorem eg_mv {tr : TA} {i : Nat} {w : V} {s : Sl} {ss : List Sl} (hi : Γ[i]? = some (.kn w s)) (hr : EvG K tr (Γ.set i (.kn w .no)) Γ' ss) : EvG K (tCons (tVar i) tr) Γ Γ' (.kn w s :: ss) := fun F0 B F Δ ws σ H hl k Q q => by
  obtain ⟨e, k1⟩ := k.moveKn hl hi
  refine ⟨w, e, ?_⟩
  refine hr F0 B F _ _ σ H (by simp [hl]) k1 _ fun vs F2 H2 hv k2 => ?_
  refine q (w :: vs) F2 H2 (by simp [hv]) ?_
  simpa using k2

/-! ### promises -/
/-- of a def whose arguments stay, and which hands back a new thing -/
def spW (K : PySem.W.Frag) (n : Nat) (P : List D → Option γ → (γ → Sl) → Prop) : Sp := fun vs H Q _ =>
  ∃ (ds : List D) (m : Option γ) (rs : γ → Sl) (c : γ) (F : Hp), ds.length = n ∧ Ex F H ∧ Reps K F vs ds ∧ P ds m rs ∧ m = some c ∧ ∀ v F' H' fr, Ext F H F' H' → SlR K F' H' (rs c) (some v) fr → fr.Nodup → (∀ p ∈ fr, H p = none ∧ F' p = none) → Q v H'
theorem ew_call {E : XK} {n : Nat} {P : List D → Option γ → (γ → Sl) → Prop} {t : TA} {ds : List D} {m : Option γ} {rs : γ → Sl} (h : EvA K t Γ (some ds)) (hn : ds.length = n) (hP : P ds m rs) : EvW K (tCall (spW K n P) [] E t) Γ m rs := fun c e F0 B F σ H k Q q => by
  refine h ds rfl F0 B F σ H k _ fun vs F1 H1 x1 r1 => ?_
  refine ⟨ds, m, rs, c, F1, hn, x1.fh, by rw [List.append_nil]; exact r1, hP, e, fun v F2 H2 fr x2 r nd nw => q v F2 H2 fr (x1.trans x2) r nd fun p hp => ⟨?_, (nw p hp).2⟩⟩
  exact none_of x1.hh (nw p hp).1
/-- of a def that may change what it is handed -/
def spO (K : PySem.W.Frag) (n : Nat) (P : List Sl → Option γ → (γ → Sl) → (γ → List Sl) → Prop) : Sp := fun vs H Q _ =>
  ∃ (ss : List Sl) (m : Option γ) (rs : γ → Sl) (G : γ → List Sl) (c : γ) (F : Hp) (fp : List Addr), ss.length = n ∧ Ex F H ∧ SlRs K F H ss (vs.map some) fp ∧ fp.Nodup ∧ (∀ p ∈ fp, F p = none) ∧ P ss m rs G ∧ m = some c ∧
    ∀ v F' H' fp', Ex F F' → Ex F' H' → (∀ q o, q ∉ fp → H q = some o → H' q = some o) → (∀ q o, H q = some o → q ∉ fp → F' q = F q) → SlRs K F' H' (rs c :: G c) (some v :: vs.map some) fp' → fp'.Nodup →
      (∀ p ∈ fp', p ∈ fp ∨ H p = none) → (∀ p ∈ fp', F' p = none) → Q v H'
theorem esf_call {E : XK} {n : Nat} {P : List Sl → Option γ → (γ → Sl) → (γ → List Sl) → Prop} {t : TA} {ss : List Sl} {m : Option γ} {rs : γ → Sl} {G : γ → List Sl} (h : EvG K t Γ Γ' ss) (hn : ss.length = n) (hP : P ss m rs G) (hG : ∀ c, (G c).length = n) : EvSF K (tCall (spO K n P) [] E t) Γ m rs G (fun _ => Γ') := fun c e F0 B F σ H k Q q => by
  refine h F0 B F [] [] σ H rfl k _ fun vs F1 H1 hv k1 => ?_
  obtain ⟨fp, h1, h2, h3⟩ := k1.sl
  simp only [List.nil_append] at h1
  obtain ⟨fa, fb, rfl, s1, s2⟩ := SlRs.split (by rw [List.length_map, hv]) h1
  obtain ⟨nd1, nd2, nd3⟩ := List.nodup_append.mp h2
  refine ⟨ss, m, rs, G, c, F1, fa, hn, k1.fh, by rw [List.append_nil]; exact s1, nd1, fun p hp => (h3 p (List.mem_append_left _ hp)).1, hP, e, fun v F2 H2 fp' e1 e2 e3 e4 r nd' e5 e6 => ?_⟩
  rw [List.append_nil] at r
  refine q v (vs.map some) F2 H2 (by rw [List.length_map, hv, hn, hG]) ?_
  have ndisj : ∀ q, q ∈ fb → q ∉ fa := fun q hq hq' => nd3 q hq' q hq rfl
  have s2' : SlRs K F2 H2 Γ' σ fb := s2.mono e1 fun p hp => by
    obtain ⟨o, ho⟩ := s2.dom p hp
    rw [ho]; exact e3 p o (ndisj p hp) ho
  have bn : ∀ p ∈ fa, B p = none := fun p hp => (h3 p (List.mem_append_left _ hp)).2
  refine ⟨k1.f0.trans e1, e2, fun q o b => e3 q o (fun z => by rw [bn q z] at b; cases b) (k1.bh q o b), fun q o b => (e4 q o (k1.bh q o b) (fun z => by rw [bn q z] at b; cases b)).trans (k1.nb q o b), fp' ++ fb, ?_, ?_, fun p hp => ?_⟩
  · exact (r.append s2')
  · rw [List.nodup_append]
    refine ⟨nd', nd2, fun a ha b hb eab => ?_⟩
    subst eab
    rcases e5 a ha with z | z
    · exact ndisj a hb z
    · obtain ⟨o, ho⟩ := s2.dom a hb
      rw [z] at ho; cases ho
  · rcases List.mem_append.mp hp with hp | hp
    · refine ⟨e6 p hp, ?_⟩
      rcases e5 p hp with z | z
      · exact bn p z
      · exact none_of k1.bh z
    · obtain ⟨o, ho⟩ := s2.dom p hp
      exact ⟨(e4 p o ho (ndisj p hp)).trans (h3 p (List.mem_append_right _ hp)).1, (h3 p (List.mem_append_right _ hp)).2⟩
theorem esf_kn {m : Option γ} {rs : γ → Sl} {D G : γ → List Sl} {i : Nat} {w : V} {s : γ → Sl} (h : EvSF K te Γ m rs (fun c => .kn w (s c) :: D c) G) (hi : ∀ c, (G c)[i]? = some (.kn w .no)) : EvSF K te Γ m rs D (fun c => (G c).set i (.kn w (s c))) := fun c e F0 B F σ H k Q q => by
  refine h c e F0 B F σ H k Q fun v ws F' H' hl k' => ?_
  cases ws with
  | nil => simp at hl
  | cons x ws =>
    have ex : x = some w := by
      obtain ⟨fp, h1, _⟩ := k'.sl
      cases h1 with
      | cons _ h1 =>
        cases h1 with
        | cons h1 _ => exact h1.1
    subst ex
    have hl' : ws.length = (D c).length := by simpa using hl
    exact q v ws F' H' hl' (Ok.backKn (Δ := D c) (ws := ws) k' hl'.symm (hi c))
theorem esf_no {m : Option γ} {rs : γ → Sl} {D G : γ → List Sl} {s : γ → Sl} (h : EvSF K te Γ m rs (fun c => s c :: D c) G) : EvSF K te Γ m rs D G := fun c e F0 B F σ H k Q q => by
  refine h c e F0 B F σ H k Q fun v ws F' H' hl k' => ?_
  cases ws with
  | nil => simp at hl
  | cons x ws => exact q v ws F' H' (by simpa using hl) (Ok.dropAt k')
theorem es_end {m : Option γ} {rs : γ → Sl} {G : γ → List Sl} (h : EvSF K te Γ m rs (fun _ => []) G) : EvS K te Γ m rs G := fun c e F0 B F σ H k Q q =>
  h c e F0 B F σ H k Q fun v ws F' H' hl k' => by
    cases ws with
    | nil => exact q v F' H' k'
    | cons x ws => simp at hl

/-! ### statements -/
/-- where an own thing stands -/
theorem bm_know {i : Nat} {s : Sl} {m : Option T} (hi : Γ[i]? = some s) (hs : s ≠ .no) (hk : ∀ w, s ≠ .kn w .no) (h : ∀ w, BM K t (Γ.set i (.kn w s)) m hd) : BM K t Γ m hd := fun o e F0 B F σ H D k q => by
  obtain ⟨v, m, a1, a2, _⟩ := k.mod hi
  obtain ⟨w, rfl⟩ := slr_some a2 hs hk
  refine h w o e F0 B F σ H D (k.re fun fp h nd => ?_) q
  obtain ⟨u, l, m, r, b1, rfl, b3, b4⟩ := h.at hi
  rw [b1] at a1; cases a1
  have z := b4 F H (.kn w s) (some w) m (Ex.refl F) (fun _ _ => rfl) ⟨rfl, b3⟩
  rw [set_id b1] at z
  exact ⟨_, z, nd, fun p hp => hp⟩
theorem bm_unkn {i : Nat} {w : V} {s : Sl} {m : Option T} (hi : Γ[i]? = some (.kn w s)) (h : BM K t (Γ.set i s) m hd) : BM K t Γ m hd := fun o e F0 B F σ H D k q => by
  refine h o e F0 B F σ H D (k.re fun fp h nd => ?_) q
  obtain ⟨u, l, m, r, b1, rfl, b3, b4⟩ := h.at hi
  have z := b4 F H s u m (Ex.refl F) (fun _ _ => rfl) b3.2
  rw [set_id b1] at z
  exact ⟨_, z, nd, fun p hp => hp⟩
theorem bm_asgS {i : Nat} {m : Option γ} {rs : γ → Sl} {G : γ → List Sl} {k : γ → Option T} (h : EvS K te Γ m rs G) (hi : ∀ c, ∃ s, (G c)[i]? = some s) (hk : ∀ c, BM K u ((G c).set i (rs c)) (k c) hd) : BM K (tSeq (tAsg te (gName i)) u) Γ (m.bind k) hd := fun o e F0 B F σ H D ok q => by
  obtain ⟨c, e1, e⟩ := Option.bind_eq_some_iff.mp e
  obtain ⟨s, hs⟩ := hi c
  exact h c e1 F0 B F σ H ok _ fun v F1 H1 k1 => hk c o e F0 B F1 _ H1 D (k1.mv hs) q
theorem bm_dropS {m : Option γ} {rs : γ → Sl} {G : γ → List Sl} {k : γ → Option T} (h : EvS K te Γ m rs G) (hk : ∀ c, BM K u (G c) (k c) hd) : BM K (tSeq (tDrop te) u) Γ (m.bind k) hd := fun o e F0 B F σ H D ok q => by
  obtain ⟨c, e1, e⟩ := Option.bind_eq_some_iff.mp e
  exact h c e1 F0 B F σ H ok _ fun v F1 H1 k1 => hk c o e F0 B F1 _ H1 D k1.back1 q
/-- what is handed back, and what was handed in -/
def hdO (K : PySem.W.Frag) (rs : γ → Sl) (G : γ → List Sl) : Hdl γ := fun c F0 B D => ∀ v F σ H, Ok K F0 B F (rs c :: G c) (some v :: σ) H → D.rt v H
def hdOU (K : PySem.W.Frag) (G : γ → List Sl) : Hdl γ := fun c F0 B D => ∀ F σ H, Ok K F0 B F (G c) σ H → D.nx σ H ∧ D.rt .non H
theorem rt_O {rs : γ → Sl} {G : γ → List Sl} : RtOnly (hdO K rs G) := fun r F0 B D D' e h v F σ H k => by
  rw [← e]
  exact h v F σ H k
theorem bm_retES {m : Option γ} {rs : γ → Sl} {G G' : γ → List Sl} (h : EvS K te Γ m rs G') (hs : ∀ c, Sub (G' c) (G c)) : BM K (tRet te) Γ m (hdO K rs G) := fun c e F0 B F σ H D ok q =>
  h c e F0 B F σ H ok _ fun v F1 H1 k1 => q v F1 σ H1 (k1.sub (.s (hs c)))
theorem bm_retO {rs : γ → Sl} {G : γ → List Sl} {f : α → γ} (h : EvM K te Γ ma) (hr : ∀ a, rs (f a) = .f a) (hs : ∀ a, Sub Γ (G (f a))) : BM K (tRet te) Γ (ma.map f) (hdO K rs G) := fun c e F0 B F σ H D ok q => by
  obtain ⟨a, e1, rfl⟩ := Option.map_eq_some_iff.mp e
  refine es_m h a e1 F0 B F σ H ok _ fun v F1 H1 k1 => q v F1 σ H1 ?_
  rw [hr a]
  exact k1.sub (.s (hs a))
theorem bm_retOW {δ : Type} {m : Option δ} {rd : δ → Sl} {rs : γ → Sl} {G : γ → List Sl} {f : δ → γ} (h : EvW K te Γ m rd) (hr : ∀ a, rs (f a) = rd a) (hs : ∀ a, Sub Γ (G (f a))) : BM K (tRet te) Γ (m.map f) (hdO K rs G) := fun c e F0 B F σ H D ok q => by
  obtain ⟨a, e1, rfl⟩ := Option.map_eq_some_iff.mp e
  refine es_w h a e1 F0 B F σ H ok _ fun v F1 H1 k1 => q v F1 σ H1 ?_
  rw [hr a]
  exact k1.sub (.s (hs a))
/-- an own thing is handed back -/
theorem bm_retV {i : Nat} {s : Sl} {rs : γ → Sl} {G : γ → List Sl} {c : γ} (hi : Γ[i]? = some s) (h0 : s ≠ .no) (hk : ∀ w, s ≠ .kn w .no) (hr : rs c = s) (hs : Sub (Γ.set i .no) (G c)) : BM K (tRet (tVar i)) Γ (some c) (hdO K rs G) := fun c' e F0 B F σ H D ok q => by
  cases e
  obtain ⟨v, e1, k1⟩ := ok.take hi
  obtain ⟨fp, h1, _⟩ := k1.sl
  cases h1 with
  | cons h1 _ =>
    obtain ⟨w, rfl⟩ := slr_some h1 h0 hk
    refine ⟨w, e1, q w F σ H ?_⟩
    rw [hr]
    exact k1.sub (.s hs)
theorem bm_retOU {G : γ → List Sl} {c : γ} (hs : Sub Γ (G c)) : BM K tRetN Γ (some c) (hdOU K G) := fun c' e F0 B F σ H D ok q => by
  cases e
  exact (q F σ H (ok.sub hs)).2
theorem bm_endOU {G : γ → List Sl} {c : γ} (hs : Sub Γ (G c)) : BM K tNext Γ (some c) (hdOU K G) := fun c' e F0 B F σ H D ok q => by
  cases e
  exact (q F σ H (ok.sub hs)).1
/-! ### tests -/
theorem ets_of {tt : TT} {m : Option Bool} (h : EvT K tt Γ m) : EvTS K tt Γ m id (fun _ => Γ) := fun b e F0 B F σ H k Q q =>
  h b e F0 B F σ H k Q fun F' H' x => q F' H' (k.ext x)
theorem bm_ifS {c : TT} {m : Option γ} {b : γ → Bool} {G : γ → List Sl} {m1 m2 : γ → Option T} (hc : EvTS K c Γ m b G) (h1 : ∀ a, BM K (tSeq t w) (G a) (m1 a) hd) (h2 : ∀ a, BM K (tSeq u w) (G a) (m2 a) hd) : BM K (tSeq (tIfS c t u) w) Γ (m.bind fun a => if b a = true then m1 a else m2 a) hd := fun o e F0 B F σ H D ok q => by
  obtain ⟨a, e1, e⟩ := Option.bind_eq_some_iff.mp e
  refine hc a e1 F0 B F σ H ok _ fun F1 H1 k1 => ?_
  cases hb : b a with
  | true => rw [hb, if_pos rfl] at e; exact h1 a o e F0 B F1 σ H1 D k1 q
  | false => rw [hb, if_neg (by decide)] at e; exact h2 a o e F0 B F1 σ H1 D k1 q
end
end M
/-! M13: own things that stay from now on, or while they are read; defs that hand back new things (printed in part by mk13.py) -/
namespace M
open PySem PySem.Spec PyProof.Rows L2
open Evl (Ex)
open Enc (enc)

mutual
def toD : Sl → Option D
  | .no => none
  | .fz d => some d
  | .own ds => some (.lst ds)
  | .at_ _ ds => some (.lst ds)
  | .owd kvs => some (.dic kvs)
  | .owt kvs => some (.dit kvs)
  | .ol ss => (toDs ss).map .lst
  | .ob C xs ss => (toDs ss).map (.obj C xs)
  | .ot_ ss => (toDs ss).map .tup
  | .kn _ s => toD s
def toDs : List Sl → Option (List D)
  | [] => some []
  | s :: ss => (toD s).bind fun d => (toDs ss).map fun ds => d :: ds
end
section
variable {K : PySem.W.Frag} {H : Hp}
theorem Reps.of_cons {F : Hp} {v : V} {vs : List V} {d : D} {ds : List D} (h : Rep K F v d) (r : Reps K F vs ds) : Reps K F (v :: vs) (d :: ds) := .cons h r
mutual
theorem frz (F : Hp) : ∀ (s : Sl) (d : D) (v : Option V) (m : List Addr), toD s = some d → SlR K F H s v m → m.Nodup → (∀ p ∈ m, F p = none) → Ex F H → ∃ w F', v = some w ∧ Ex F F' ∧ Ex F' H ∧ (∀ q, q ∉ m → F' q = F q) ∧ Rep K F' w d
  | .no, d, v, m, e, h, nd, nf, x => by cases e
  | .fz d', d, v, m, e, h, nd, nf, x => by
    cases e
    obtain ⟨rfl, w, rfl, r⟩ := h
    exact ⟨w, F, rfl, Ex.refl F, x, fun _ _ => rfl, r⟩
  | .own ds, d, v, m, e, h, nd, nf, x => by
    cases e
    obtain ⟨p, vs, rfl, rfl, e1, e2⟩ := h
    have fn := nf p (by simp)
    have ex : Ex F (upd F p (.lst vs)) := Ex.new fn
    refine ⟨_, _, rfl, ex, fun a u q => ?_, fun q nq => upd_ne (fun y => nq (by simp [y])), .lst upd_same e2.len (e2.mono ex).at_⟩
    unfold upd at q
    split at q
    · rename_i y; cases q; rw [y]; exact e1
    · exact x a u q
  | .at_ p ds, d, v, m, e, h, nd, nf, x => by
    cases e
    obtain ⟨vs, rfl, rfl, e1, e2⟩ := h
    have fn := nf p (by simp)
    have ex : Ex F (upd F p (.lst vs)) := Ex.new fn
    refine ⟨_, _, rfl, ex, fun a u q => ?_, fun q nq => upd_ne (fun y => nq (by simp [y])), .lst upd_same e2.len (e2.mono ex).at_⟩
    unfold upd at q
    split at q
    · rename_i y; cases q; rw [y]; exact e1
    · exact x a u q
  | .owd ds, d, v, m, e, h, nd, nf, x => by
    cases e
    obtain ⟨p, vs, rfl, rfl, e1, e2⟩ := h
    have fn := nf p (by simp)
    have ex : Ex F (upd F p (.dK vs)) := Ex.new fn
    refine ⟨_, _, rfl, ex, fun a u q => ?_, fun q nq => upd_ne (fun y => nq (by simp [y])), .dic upd_same e2.keys (e2.mono ex).at_⟩
    unfold upd at q
    split at q
    · rename_i y; cases q; rw [y]; exact e1
    · exact x a u q
  | .owt ds, d, v, m, e, h, nd, nf, x => by
    cases e
    obtain ⟨p, vs, rfl, rfl, e1, e2⟩ := h
    have fn := nf p (by simp)
    have ex : Ex F (upd F p (.dT vs)) := Ex.new fn
    refine ⟨_, _, rfl, ex, fun a u q => ?_, fun q nq => upd_ne (fun y => nq (by simp [y])), .dit upd_same e2.keys (e2.mono ex).at_⟩
    unfold upd at q
    split at q
    · rename_i y; cases q; rw [y]; exact e1
    · exact x a u q
  | .ol ss, d, v, m, e, h, nd, nf, x => by
    obtain ⟨ds, e0, rfl⟩ := Option.map_eq_some_iff.mp e
    obtain ⟨p, vs, fps, rfl, rfl, e1, e2⟩ := h
    obtain ⟨n1, n2⟩ := List.nodup_cons.mp nd
    obtain ⟨F1, x1, x2, k1, r⟩ := frzs F ss ds vs fps e0 e2 n2 (fun q hq => nf q (List.mem_cons_of_mem _ hq)) x
    have fn : F1 p = none := (k1 p n1).trans (nf p (by simp))
    have ex : Ex F1 (upd F1 p (.lst vs)) := Ex.new fn
    refine ⟨_, _, rfl, x1.trans ex, fun a u q => ?_, fun q nq => ?_, .lst upd_same r.len (r.mono ex).at_⟩
    · unfold upd at q
      split at q
      · rename_i y; cases q; rw [y]; exact e1
      · exact x2 a u q
    · rw [upd_ne (fun y => nq (by simp [y]))]
      exact k1 q fun z => nq (List.mem_cons_of_mem _ z)
  | .ob C xs ss, d, v, m, e, h, nd, nf, x => by
    obtain ⟨ds, e0, rfl⟩ := Option.map_eq_some_iff.mp e
    obtain ⟨p, dx, vs, fps, rfl, rfl, e1, e2, e3, e4⟩ := h
    obtain ⟨n1, n2⟩ := List.nodup_cons.mp nd
    obtain ⟨n3, n4⟩ := List.nodup_cons.mp n2
    have npd : p ≠ dx := fun z => n1 (by simp [z])
    obtain ⟨F1, x1, x2, k1, r⟩ := frzs F ss ds vs fps e0 e4 n4 (fun q hq => nf q (List.mem_cons_of_mem _ (List.mem_cons_of_mem _ hq))) x
    have fp : F1 p = none := (k1 p fun z => n1 (List.mem_cons_of_mem _ z)).trans (nf p (by simp))
    have fd : F1 dx = none := (k1 dx n3).trans (nf dx (by simp))
    have ex1 : Ex F1 (upd F1 dx (.own p)) := Ex.new fd
    have fp2 : upd F1 dx (.own p) p = none := by rw [upd_ne npd]; exact fp
    have ex : Ex F1 (upd (upd F1 dx (.own p)) p (.ins (He.ga K C) dx (xs.zip vs))) := ex1.trans (Ex.new fp2)
    refine ⟨_, _, rfl, x1.trans ex, fun a u q => ?_, fun q nq => ?_, .obj upd_same (by rw [upd_ne npd.symm]; exact upd_same) e3 r.len (r.mono ex).at_⟩
    · unfold upd at q
      split at q
      · rename_i y; cases q; rw [y]; exact e1
      · split at q
        · rename_i y; cases q; rw [y]; exact e2
        · exact x2 a u q
    · rw [upd_ne (fun y => nq (by simp [y])), upd_ne (fun y => nq (by simp [y]))]
      exact k1 q fun z => nq (List.mem_cons_of_mem _ (List.mem_cons_of_mem _ z))
  | .ot_ ss, d, v, m, e, h, nd, nf, x => by
    obtain ⟨ds, e0, rfl⟩ := Option.map_eq_some_iff.mp e
    obtain ⟨p, vs, fps, rfl, rfl, e1, e2⟩ := h
    obtain ⟨n1, n2⟩ := List.nodup_cons.mp nd
    obtain ⟨F1, x1, x2, k1, r⟩ := frzs F ss ds vs fps e0 e2 n2 (fun q hq => nf q (List.mem_cons_of_mem _ hq)) x
    have fn : F1 p = none := (k1 p n1).trans (nf p (by simp))
    have ex : Ex F1 (upd F1 p (.tup vs)) := Ex.new fn
    refine ⟨_, _, rfl, x1.trans ex, fun a u q => ?_, fun q nq => ?_, .tup upd_same r.len (r.mono ex).at_⟩
    · unfold upd at q
      split at q
      · rename_i y; cases q; rw [y]; exact e1
      · exact x2 a u q
    · rw [upd_ne (fun y => nq (by simp [y]))]
      exact k1 q fun z => nq (List.mem_cons_of_mem _ z)
  | .kn w s, d, v, m, e, h, nd, nf, x => frz F s d v m e h.2 nd nf x
theorem frzs (F : Hp) : ∀ (ss : List Sl) (ds : List D) (vs : List V) (m : List Addr), toDs ss = some ds → SlRL K F H ss (vs.map some) m → m.Nodup → (∀ p ∈ m, F p = none) → Ex F H → ∃ F', Ex F F' ∧ Ex F' H ∧ (∀ q, q ∉ m → F' q = F q) ∧ Reps K F' vs ds
  | [], ds, vs, m, e, h, nd, nf, x => by
    cases e
    obtain ⟨h1, rfl⟩ := h
    have : vs = [] := by simpa using h1
    subst this
    exact ⟨F, Ex.refl F, x, fun _ _ => rfl, .nil⟩
  | s :: ss, ds, vs, m, e, h, nd, nf, x => by
    obtain ⟨d, e0, e⟩ := Option.bind_eq_some_iff.mp e
    obtain ⟨ds', e1, rfl⟩ := Option.map_eq_some_iff.mp e
    obtain ⟨v, ws, f1, f2, h1, rfl, h2, h3⟩ := h
    obtain ⟨n1, n2, n3⟩ := List.nodup_append.mp nd
    obtain ⟨w, F1, rfl, x1, x2, k1, r1⟩ := frz F s d v f1 e0 h2 n1 (fun q hq => nf q (List.mem_append_left _ hq)) x
    cases vs with
    | nil => cases h1
    | cons u us =>
      rw [List.map_cons, List.cons.injEq] at h1
      obtain ⟨hu, rfl⟩ := h1
      cases hu
      have h3' : SlRL K F1 H ss (us.map some) f2 := SlRL.mono' x1 ss _ _ h3 fun _ _ => rfl
      obtain ⟨F2, y1, y2, k2, r2⟩ := frzs F1 ss ds' us f2 e1 h3' n2 (fun q hq => (k1 q (fun z => n3 q z q hq rfl)).trans (nf q (List.mem_append_right _ hq))) x2
      refine ⟨F2, x1.trans y1, y2, fun q nq => ?_, .cons (r1.mono y1) r2⟩
      rw [k2 q fun z => nq (List.mem_append_right _ z)]
      exact k1 q fun z => nq (List.mem_append_left _ z)
end
variable {F0 B F : Hp} {Γ : List Sl} {σ : L2.St}
theorem Ok.freezeS {i : Nat} {s : Sl} {d : D} (k : Ok K F0 B F Γ σ H) (hi : Γ[i]? = some s) (hd : toD s = some d) : ∃ F', Ex F F' ∧ Ok K F0 B F' (Γ.set i (.fz d)) σ H := by
  obtain ⟨v, m, h1, h2, h3, nd, h4⟩ := k.mod hi
  obtain ⟨w, F', rfl, x1, x2, k1, r⟩ := frz F s d v m hd h2 nd (fun p hp => (h3 p hp).1) k.fh
  have z := h4 F' H (.fz d) (some w) [] x1 x2 (fun q o _ a => a) (fun q o _ nq => k1 q nq) ⟨rfl, w, rfl, r⟩ List.nodup_nil (fun p hp => by cases hp) fun p hp => by cases hp
  refine ⟨F', x1, ?_⟩
  rwa [set_id h1] at z
end
/-- what needs no heap -/
class Sc (α : Type) [Enc α] : Prop where
  sc : ∀ (K : PySem.W.Frag) (F F' : Hp) (v : V) (a : α), Rep K F v (enc a) → Rep K F' v (enc a)
instance : Sc Int := ⟨fun K F F' v a r => by rw [r.int_inv]; exact .int a⟩
instance : Sc Bool := ⟨fun K F F' v a r => by rw [r.bl_inv]; exact .bl a⟩
instance : Sc Str := ⟨fun K F F' v a r => by rw [r.str_inv]; exact .str a⟩
instance : Sc Unit := ⟨fun K F F' v a r => by cases r; exact .non⟩
instance {α : Type} [Enc α] [Sc α] : Sc (Option α) := ⟨fun K F F' v a r => by
  cases a with
  | none => cases r; exact .non
  | some a => exact Sc.sc K F F' v a r⟩
section
variable {K : PySem.W.Frag} {Γ : List Sl} {α β γ : Type} [Enc α] [Enc β] {ta te : TE} {T : Type} {hd : Hdl T} {u w t : TS}
theorem toD_o {xs : List α} : toD (.o xs) = some (enc xs) := rfl
theorem toD_od {xs : Dk α} : toD (.od xs) = some (enc xs) := rfl
theorem toD_ot {xs : Dt α} : toD (.ot xs) = some (enc xs) := rfl
theorem toDs_own : ∀ xs : List (List α), toDs (xs.map fun l => Sl.own (l.map enc)) = some (xs.map fun l => (enc l : D))
  | [] => rfl
  | x :: xs => by
    rw [List.map_cons, toDs, toDs_own xs]; rfl
theorem toD_o2 {xs : List (List α)} : toD (.o2 xs) = some (enc xs) := by
  show (toDs _).map D.lst = _
  rw [toDs_own]; rfl
theorem toD_kn {v : V} {s : Sl} {d : D} (h : toD s = some d) : toD (.kn v s) = some d := h
theorem bm_frzS {i : Nat} {s : Sl} {d : D} {m : Option T} (hi : Γ[i]? = some s) (hd' : toD s = some d) (h : BM K t (Γ.set i (.fz d)) m hd) : BM K t Γ m hd := fun o e F0 B F σ H D k q => by
  obtain ⟨F', x, k'⟩ := k.freezeS hi hd'
  exact h o e F0 B F' σ H D k' q
/-- own things, read as if they stayed -/
theorem em_borrow [Sc α] {i : Nat} {s : Sl} {d : D} {m : Option α} (hi : Γ[i]? = some s) (hd' : toD s = some d) (h : EvM K te (Γ.set i (.fz d)) m) : EvM K te Γ m := fun a e F0 B F σ H k Q q => by
  obtain ⟨F1, x, k'⟩ := k.freezeS hi hd'
  exact h a e F0 B F1 σ H k' Q fun v F' H' y r => q v F H' ⟨Ex.refl F, y.hh, k.fh.trans y.hh, fun _ _ _ => rfl⟩ (Sc.sc K F' F v a r)
theorem et_borrow {tt : TT} {i : Nat} {s : Sl} {d : D} {m : Option Bool} (hi : Γ[i]? = some s) (hd' : toD s = some d) (h : EvT K tt (Γ.set i (.fz d)) m) : EvT K tt Γ m := fun a e F0 B F σ H k Q q => by
  obtain ⟨F1, x, k'⟩ := k.freezeS hi hd'
  exact h a e F0 B F1 σ H k' Q fun F' H' y => q F H' ⟨Ex.refl F, y.hh, k.fh.trans y.hh, fun _ _ _ => rfl⟩
theorem reps_sc [Sc α] {F F' : Hp} {vs : List V} {xs : List α} (r : Reps K F vs (xs.map enc)) : Reps K F' vs (xs.map enc) := by
  refine ⟨r.len, fun i v d h1 h2 => ?_⟩
  have h := r.at_ i v d h1 h2
  rw [List.getElem?_map] at h2
  obtain ⟨a, _, rfl⟩ := Option.map_eq_some_iff.mp h2
  exact Sc.sc K F F' v a h
theorem en_borrow [Sc α] {i : Nat} {s : Sl} {d : D} {m : Option (List α)} (hi : Γ[i]? = some s) (hd' : toD s = some d) (h : EvN K te (Γ.set i (.fz d)) m) : EvN K te Γ m := fun a e F0 B F σ H k Q q => by
  obtain ⟨F1, x, k'⟩ := k.freezeS hi hd'
  exact h a e F0 B F1 σ H k' Q fun p vs F' H' y h1 h2 h3 r => q p vs F H' ⟨Ex.refl F, y.hh, k.fh.trans y.hh, fun _ _ _ => rfl⟩ h1 (none_of k.fh h1) h3 (reps_sc r)
/-- a new thing stays from now on -/
theorem em_w {m : Option α} {rs : α → Sl} (h : EvW K te Γ m rs) (hd' : ∀ a, toD (rs a) = some (enc a)) : EvM K te Γ m := fun a e F0 B F σ H k Q q =>
  h a e F0 B F σ H k Q fun v F' H' fr x r nd nw => by
    obtain ⟨w, F2, ew, x1, x2, k1, r2⟩ := frz F' (rs a) (enc a) (some v) fr (hd' a) r nd (fun p hp => (nw p hp).2) x.fh
    cases ew
    exact q v F2 H' ⟨x.ff.trans x1, x.hh, x2, fun z o ho => (k1 z (fun hz => by rw [(nw z hz).1] at ho; cases ho)).trans (x.old z o ho)⟩ r2
/-! ### a def keeps its promise -/
theorem fn_W {n j : Nat} {P : List D → Option γ → (γ → Sl) → Prop} {N : List Str} (hN : N.length = n + j) (hb : ∀ ds m rs, ds.length = n → P ds m rs → BM K t (ds.map Sl.fz ++ List.replicate j .no) m (hdO K rs (fun _ => List.replicate (n + j) .no))) (vs : List V) (H : Hp) (Q : VK) (E : XK) (h : spW K n P vs H Q E) :
    t { nx := fun _ H' => Q .non H', rt := Q } (L2.start N vs) H := by
  obtain ⟨ds, m, rs, c, F, h1, h2, h3, h4, h5, h6⟩ := h
  rw [start_eq (by rw [h3.len, h1]) hN]
  refine hb ds m rs h1 h4 c h5 F H F _ H _ (start_ok h2 h3 j) ?_
  intro v F' σ' H' k
  obtain ⟨fp, s1, s2, s3⟩ := k.sl
  cases s1 with
  | @cons _ _ f1 _ _ f2 r _ =>
    refine h6 v F' H' f1 ⟨k.f0, k.bh, k.fh, fun q o e => k.nb q o e⟩ r (List.nodup_append.mp s2).1 fun p hp => ?_
    have := s3 p (List.mem_append_left _ hp)
    exact ⟨this.2, this.1⟩
theorem len_W {n : Nat} {P : List D → Option γ → (γ → Sl) → Prop} (vs : List V) (H : Hp) (Q : VK) (E : XK) (h : spW K n P vs H Q E) : vs.length = n := by
  obtain ⟨ds, m, rs, c, F, h1, h2, h3, _⟩ := h
  rw [h3.len, h1]
/-- what was handed in stands where it stood -/
def Keeps (ss gs : List Sl) : Prop := gs.length = ss.length ∧ ∀ (k : Nat) g, gs[k]? = some g → g = .no ∨ ∃ w s s', g = .kn w s ∧ ss[k]? = some (.kn w s')
theorem SlRs.same {F H : Hp} : ∀ {gs ss : List Sl} {va vb : List (Option V)} {fp fq : List Addr}, Keeps ss gs → va.length = vb.length → SlRs K F H gs va fp → (∀ (k : Nat) w s', ss[k]? = some (.kn w s') → vb[k]? = some (some w)) → SlRs K F H gs vb fp
  | [], ss, va, vb, fp, fq, hk, hl, h, hs => by
    cases h
    have : vb = [] := List.eq_nil_of_length_eq_zero (by rw [← hl]; rfl)
    rw [this]; exact .nil
  | g :: gs, [], va, vb, fp, fq, hk, hl, h, hs => absurd hk.1 (by simp)
  | g :: gs, s :: ss, va, vb, fp, fq, hk, hl, h, hs => by
    cases h with
    | @cons _ v f1 _ vs f2 h t =>
      cases vb with
      | nil => simp at hl
      | cons x vb =>
        have hk' : Keeps ss gs := ⟨by simpa using hk.1, fun k g' e => by
          rcases hk.2 (k + 1) g' (by simpa using e) with z | ⟨w, a, b, z1, z2⟩
          · exact .inl z
          · exact .inr ⟨w, a, b, z1, by simpa using z2⟩⟩
        have t' := SlRs.same (fq := fq) hk' (by simpa using hl) t fun k w s' e => by simpa using hs (k + 1) w s' (by simpa using e)
        refine .cons ?_ t'
        rcases hk.2 0 g rfl with rfl | ⟨w, a, b, rfl, z2⟩
        · exact h
        · have : x = some w := by simpa using hs 0 w b z2
          exact ⟨this, by rw [this, ← h.1]; exact h.2⟩
theorem start_okS {F H : Hp} {vs : List V} {ss : List Sl} {fp : List Addr} (x : Ex F H) (h : SlRs K F H ss (vs.map some) fp) (nd : fp.Nodup) (nf : ∀ p ∈ fp, F p = none) (n : Nat) (B : Hp) (hB : ∀ q o, B q = some o ↔ (H q = some o ∧ q ∉ fp)) : Ok K F B F (ss ++ List.replicate n .no) (vs.map some ++ List.replicate n none) H := by
  have none : ∀ n : Nat, SlRs K F H (List.replicate n .no) (List.replicate n Option.none) [] := by
    intro n
    induction n with
    | zero => exact .nil
    | succ n ih =>
      rw [List.replicate_succ, List.replicate_succ]
      exact SlRs.cons (fp := []) rfl ih
  refine ⟨Ex.refl F, x, fun q o e => ((hB q o).mp e).1, fun _ _ _ => rfl, fp ++ [], h.append (none n), by rw [List.append_nil]; exact nd, fun p hp => ?_⟩
  rw [List.append_nil] at hp
  refine ⟨nf p hp, ?_⟩
  cases e : B p with
  | none => rfl
  | some o => exact absurd hp ((hB p o).mp e).2
open Classical in
theorem fn_O {n j : Nat} {P : List Sl → Option γ → (γ → Sl) → (γ → List Sl) → Prop} {N : List Str} (hN : N.length = n + j) (hb : ∀ ss m rs G, ss.length = n → P ss m rs G → (∀ c, Keeps ss (G c)) ∧ BM K t (ss ++ List.replicate j .no) m (hdO K rs (fun c => G c ++ List.replicate j .no)))
    (vs : List V) (H : Hp) (Q : VK) (E : XK) (h : spO K n P vs H Q E) : t { nx := fun _ H' => Q .non H', rt := Q } (L2.start N vs) H := by
  obtain ⟨ss, m, rs, G, c, F, fp, h1, h2, h3, h4, h5, h6, h7, h8⟩ := h
  have hlv : vs.length = n := by have := h3.len; rw [List.length_map] at this; omega
  rw [start_eq (by rw [hlv]) hN]
  obtain ⟨hk, hbm⟩ := hb ss m rs G h1 h6
  have hB : ∀ q o, (fun q => if q ∈ fp then none else H q : Hp) q = some o ↔ (H q = some o ∧ q ∉ fp) := fun q o => by
    by_cases hq : q ∈ fp <;> simp [hq]
  refine hbm c h7 F (fun q => if q ∈ fp then none else H q) F _ H _ (start_okS h2 h3 h4 h5 j _ hB) ?_
  intro v F' σ' H' k
  obtain ⟨fq, s1, s2, s3⟩ := k.sl
  cases s1 with
  | @cons _ _ f1 _ _ f2 r s1 =>
    have hlen : σ'.length = n + j := by
      have := s1.len
      rw [List.length_append, List.length_replicate, (hk c).1, h1] at this; omega
    have es : σ' = σ'.take n ++ σ'.drop n := (List.take_append_drop n σ').symm
    rw [es] at s1
    obtain ⟨fa, fb, rfl, t1, t2⟩ := SlRs.split (by rw [(hk c).1, h1, List.length_take, hlen]; omega) s1
    have tv : SlRs K F' H' (G c) (vs.map some) fa := SlRs.same (fq := []) (hk c) (by rw [List.length_take, hlen, List.length_map, hlv]; omega) t1 fun k w s' e => by
      obtain ⟨v', l, m', r', b1, _, b3, _⟩ := h3.at e
      rw [b1, b3.1]
    have nd := s2
    rw [← List.append_assoc] at nd
    refine h8 v F' H' (f1 ++ fa) k.f0 k.fh (fun q o nq e => k.bh q o ((hB q o).mpr ⟨e, nq⟩)) (fun q o e nq => k.nb q o ((hB q o).mpr ⟨e, nq⟩)) (.cons r tv) (List.nodup_append.mp nd).1 (fun p hp => ?_) fun p hp => ?_
    · have hp' : p ∈ f1 ++ (fa ++ fb) := by rw [← List.append_assoc]; exact List.mem_append_left _ hp
      have z := (s3 p hp').2
      by_cases hq : p ∈ fp
      · exact .inl hq
      · right
        simpa [hq] using z
    · have hp' : p ∈ f1 ++ (fa ++ fb) := by rw [← List.append_assoc]; exact List.mem_append_left _ hp
      exact (s3 p hp').1
theorem len_O {n : Nat} {P : List Sl → Option γ → (γ → Sl) → (γ → List Sl) → Prop} (vs : List V) (H : Hp) (Q : VK) (E : XK) (h : spO K n P vs H Q E) : vs.length = n := by
  obtain ⟨ss, m, rs, G, c, F, fp, h1, h2, h3, _⟩ := h
  have := h3.len; rw [List.length_map] at this; omega
end

section
variable {K : PySem.W.Frag} {Γ : List Sl} {γ : Type} {t : TS} {α1 α2 α3 α4 α5 α6 : Type} [Enc α1] [Enc α2] [Enc α3] [Enc α4] [Enc α5] [Enc α6] {t1 t2 t3 t4 t5 t6 : TE} {m1 : Option α1} {m2 : Option α2} {m3 : Option α3} {m4 : Option α4} {m5 : Option α5} {m6 : Option α6}
def spw0 (K : PySem.W.Frag) (f : Option γ) (ρ : γ → Sl) : Sp := spW K 0 fun ds m rs => ds = [] ∧ m = f ∧ rs = ρ
theorem fw0 {j : Nat} {N : List Str} {f : Option γ} {ρ : γ → Sl} (hN : N.length = 0 + j) (hb : BM K t (List.replicate j .no) (f) (hdO K ρ (fun _ => List.replicate (0 + j) .no))) (vs : List V) (H : Hp) (Q : VK) (E : XK) (h : spw0 K f ρ vs H Q E) : t { nx := fun _ H' => Q .non H', rt := Q } (L2.start N vs) H :=
  fn_W hN (fun ds m rs _ p => by obtain ⟨rfl, rfl, rfl⟩ := p; exact hb ) vs H Q E h
theorem ew_c0 {E : XK} {f : Option γ} {ρ : γ → Sl}  : EvW K (tCall (spw0 K f ρ) [] E tNil) Γ (f) ρ := fun c e => by
  exact ew_call (ds := []) ea_nil rfl ⟨rfl, rfl, rfl⟩ c e
def spw1 (K : PySem.W.Frag) (f : α1 → Option γ) (ρ : γ → Sl) : Sp := spW K 1 fun ds m rs => ∃ x1, ds = [enc x1] ∧ m = f x1 ∧ rs = ρ
theorem fw1 {j : Nat} {N : List Str} {f : α1 → Option γ} {ρ : γ → Sl} (hN : N.length = 1 + j) (hb : ∀ x1, BM K t (.f x1 :: List.replicate j .no) (f x1) (hdO K ρ (fun _ => List.replicate (1 + j) .no))) (vs : List V) (H : Hp) (Q : VK) (E : XK) (h : spw1 K f ρ vs H Q E) : t { nx := fun _ H' => Q .non H', rt := Q } (L2.start N vs) H :=
  fn_W hN (fun ds m rs _ p => by obtain ⟨x1, rfl, rfl, rfl⟩ := p; exact hb x1) vs H Q E h
theorem ew_c1 {E : XK} {f : α1 → Option γ} {ρ : γ → Sl} (h1 : EvM K t1 Γ m1) : EvW K (tCall (spw1 K f ρ) [] E (tCons t1 tNil)) Γ (m1.bind fun x1 => f x1) ρ := fun c e => by
  obtain ⟨x1, e1, e⟩ := Option.bind_eq_some_iff.mp e
  subst e1
  exact ew_call (ds := [enc x1]) (ea_cons h1 ea_nil) rfl ⟨x1, rfl, rfl, rfl⟩ c e
theorem ew_c1P {E : XK} {f : α1 → Option γ} {ρ : γ → Sl} {x1 : α1} (h1 : EvM K t1 Γ (some x1)) : EvW K (tCall (spw1 K f ρ) [] E (tCons t1 tNil)) Γ (f x1) ρ := ew_c1 h1
def spw2 (K : PySem.W.Frag) (f : α1 → α2 → Option γ) (ρ : γ → Sl) : Sp := spW K 2 fun ds m rs => ∃ x1 x2, ds = [enc x1, enc x2] ∧ m = f x1 x2 ∧ rs = ρ
theorem fw2 {j : Nat} {N : List Str} {f : α1 → α2 → Option γ} {ρ : γ → Sl} (hN : N.length = 2 + j) (hb : ∀ x1 x2, BM K t (.f x1 :: .f x2 :: List.replicate j .no) (f x1 x2) (hdO K ρ (fun _ => List.replicate (2 + j) .no))) (vs : List V) (H : Hp) (Q : VK) (E : XK) (h : spw2 K f ρ vs H Q E) : t { nx := fun _ H' => Q .non H', rt := Q } (L2.start N vs) H :=
  fn_W hN (fun ds m rs _ p => by obtain ⟨x1, x2, rfl, rfl, rfl⟩ := p; exact hb x1 x2) vs H Q E h
theorem ew_c2 {E : XK} {f : α1 → α2 → Option γ} {ρ : γ → Sl} (h1 : EvM K t1 Γ m1) (h2 : EvM K t2 Γ m2) : EvW K (tCall (spw2 K f ρ) [] E (tCons t1 (tCons t2 tNil))) Γ (m1.bind fun x1 => m2.bind fun x2 => f x1 x2) ρ := fun c e => by
  obtain ⟨x1, e1, e⟩ := Option.bind_eq_some_iff.mp e
  obtain ⟨x2, e2, e⟩ := Option.bind_eq_some_iff.mp e
  subst e1 e2
  exact ew_call (ds := [enc x1, enc x2]) (ea_cons h1 (ea_cons h2 ea_nil)) rfl ⟨x1, x2, rfl, rfl, rfl⟩ c e
theorem ew_c2P {E : XK} {f : α1 → α2 → Option γ} {ρ : γ → Sl} {x1 : α1} {x2 : α2} (h1 : EvM K t1 Γ (some x1)) (h2 : EvM K t2 Γ (some x2)) : EvW K (tCall (spw2 K f ρ) [] E (tCons t1 (tCons t2 tNil))) Γ (f x1 x2) ρ := ew_c2 h1 h2
def spw3 (K : PySem.W.Frag) (f : α1 → α2 → α3 → Option γ) (ρ : γ → Sl) : Sp := spW K 3 fun ds m rs => ∃ x1 x2 x3, ds = [enc x1, enc x2, enc x3] ∧ m = f x1 x2 x3 ∧ rs = ρ
theorem fw3 {j : Nat} {N : List Str} {f : α1 → α2 → α3 → Option γ} {ρ : γ → Sl} (hN : N.length = 3 + j) (hb : ∀ x1 x2 x3, BM K t (.f x1 :: .f x2 :: .f x3 :: List.replicate j .no) (f x1 x2 x3) (hdO K ρ (fun _ => List.replicate (3 + j) .no))) (vs : List V) (H : Hp) (Q : VK) (E : XK) (h : spw3 K f ρ vs H Q E) : t { nx := fun _ H' => Q .non H', rt := Q } (L2.start N vs) H :=
  fn_W hN (fun ds m rs _ p => by obtain ⟨x1, x2, x3, rfl, rfl, rfl⟩ := p; exact hb x1 x2 x3) vs H Q E h
theorem ew_c3 {E : XK} {f : α1 → α2 → α3 → Option γ} {ρ : γ → Sl} (h1 : EvM K t1 Γ m1) (h2 : EvM K t2 Γ m2) (h3 : EvM K t3 Γ m3) : EvW K (tCall (spw3 K f ρ) [] E (tCons t1 (tCons t2 (tCons t3 tNil)))) Γ (m1.bind fun x1 => m2.bind fun x2 => m3.bind fun x3 => f x1 x2 x3) ρ := fun c e => by
  obtain ⟨x1, e1, e⟩ := Option.bind_eq_some_iff.mp e
  obtain ⟨x2, e2, e⟩ := Option.bind_eq_some_iff.mp e
  obtain ⟨x3, e3, e⟩ := Option.bind_eq_some_iff.mp e
  subst e1 e2 e3
  exact ew_call (ds := [enc x1, enc x2, enc x3]) (ea_cons h1 (ea_cons h2 (ea_cons h3 ea_nil))) rfl ⟨x1, x2, x3, rfl, rfl, rfl⟩ c e
theorem ew_c3P {E : XK} {f : α1 → α2 → α3 → Option γ} {ρ : γ → Sl} {x1 : α1} {x2 : α2} {x3 : α3} (h1 : EvM K t1 Γ (some x1)) (h2 : EvM K t2 Γ (some x2)) (h3 : EvM K t3 Γ (some x3)) : EvW K (tCall (spw3 K f ρ) [] E (tCons t1 (tCons t2 (tCons t3 tNil)))) Γ (f x1 x2 x3) ρ := ew_c3 h1 h2 h3
def spw4 (K : PySem.W.Frag) (f : α1 → α2 → α3 → α4 → Option γ) (ρ : γ → Sl) : Sp := spW K 4 fun ds m rs => ∃ x1 x2 x3 x4, ds = [enc x1, enc x2, enc x3, enc x4] ∧ m = f x1 x2 x3 x4 ∧ rs = ρ
theorem fw4 {j : Nat} {N : List Str} {f : α1 → α2 → α3 → α4 → Option γ} {ρ : γ → Sl} (hN : N.length = 4 + j) (hb : ∀ x1 x2 x3 x4, BM K t (.f x1 :: .f x2 :: .f x3 :: .f x4 :: List.replicate j .no) (f x1 x2 x3 x4) (hdO K ρ (fun _ => List.replicate (4 + j) .no))) (vs : List V) (H : Hp) (Q : VK) (E : XK) (h : spw4 K f ρ vs H Q E) : t { nx := fun _ H' => Q .non H', rt := Q } (L2.start N vs) H :=
  fn_W hN (fun ds m rs _ p => by obtain ⟨x1, x2, x3, x4, rfl, rfl, rfl⟩ := p; exact hb x1 x2 x3 x4) vs H Q E h
theorem ew_c4 {E : XK} {f : α1 → α2 → α3 → α4 → Option γ} {ρ : γ → Sl} (h1 : EvM K t1 Γ m1) (h2 : EvM K t2 Γ m2) (h3 : EvM K t3 Γ m3) (h4 : EvM K t4 Γ m4) : EvW K (tCall (spw4 K f ρ) [] E (tCons t1 (tCons t2 (tCons t3 (tCons t4 tNil))))) Γ (m1.bind fun x1 => m2.bind fun x2 => m3.bind fun x3 => m4.bind fun x4 => f x1 x2 x3 x4) ρ := fun c e => by
  obtain ⟨x1, e1, e⟩ := Option.bind_eq_some_iff.mp e
  obtain ⟨x2, e2, e⟩ := Option.bind_eq_some_iff.mp e
  obtain ⟨x3, e3, e⟩ := Option.bind_eq_some_iff.mp e
  obtain ⟨x4, e4, e⟩ := Option.bind_eq_some_iff.mp e
  subst e1 e2 e3 e4
  exact ew_call (ds := [enc x1, enc x2, enc x3, enc x4]) (ea_cons h1 (ea_cons h2 (ea_cons h3 (ea_cons h4 ea_nil)))) rfl ⟨x1, x2, x3, x4, rfl, rfl, rfl⟩ c e
theorem ew_c4P {E : XK} {f : α1 → α2 → α3 → α4 → Option γ} {ρ : γ → Sl} {x1 : α1} {x2 : α2} {x3 : α3} {x4 : α4} (h1 : EvM K t1 Γ (some x1)) (h2 : EvM K t2 Γ (some x2)) (h3 : EvM K t3 Γ (some x3)) (h4 : EvM K t4 Γ (some x4)) : EvW K (tCall (spw4 K f ρ) [] E (tCons t1 (tCons t2 (tCons t3 (tCons t4 tNil))))) Γ (f x1 x2 x3 x4) ρ := ew_c4 h1 h2 h3 h4
def spw5 (K : PySem.W.Frag) (f : α1 → α2 → α3 → α4 → α5 → Option γ) (ρ : γ → Sl) : Sp := spW K 5 fun ds m rs => ∃ x1 x2 x3 x4 x5, ds = [enc x1, enc x2, enc x3, enc x4, enc x5] ∧ m = f x1 x2 x3 x4 x5 ∧ rs = ρ
theorem fw5 {j : Nat} {N : List Str} {f : α1 → α2 → α3 → α4 → α5 → Option γ} {ρ : γ → Sl} (hN : N.length = 5 + j) (hb : ∀ x1 x2 x3 x4 x5, BM K t (.f x1 :: .f x2 :: .f x3 :: .f x4 :: .f x5 :: List.replicate j .no) (f x1 x2 x3 x4 x5) (hdO K ρ (fun _ => List.replicate (5 + j) .no))) (vs : List V) (H : Hp) (Q : VK) (E : XK) (h : spw5 K f ρ vs H Q E) : t { nx := fun _ H' => Q .non H', rt := Q } (L2.start N vs) H :=
  fn_W hN (fun ds m rs _ p => by obtain ⟨x1, x2, x3, x4, x5, rfl, rfl, rfl⟩ := p; exact hb x1 x2 x3 x4 x5) vs H Q E h
theorem ew_c5 {E : XK} {f : α1 → α2 → α3 → α4 → α5 → Option γ} {ρ : γ → Sl} (h1 : EvM K t1 Γ m1) (h2 : EvM K t2 Γ m2) (h3 : EvM K t3 Γ m3) (h4 : EvM K t4 Γ m4) (h5 : EvM K t5 Γ m5) : EvW K (tCall (spw5 K f ρ) [] E (tCons t1 (tCons t2 (tCons t3 (tCons t4 (tCons t5 tNil)))))) Γ (m1.bind fun x1 => m2.bind fun x2 => m3.bind fun x3 => m4.bind fun x4 => m5.bind fun x5 => f x1 x2 x3 x4 x5) ρ := fun c e => by
  obtain ⟨x1, e1, e⟩ := Option.bind_eq_some_iff.mp e
  obtain ⟨x2, e2, e⟩ := Option.bind_eq_some_iff.mp e
  obtain ⟨x3, e3, e⟩ := Option.bind_eq_some_iff.mp e
  obtain ⟨x4, e4, e⟩ := Option.bind_eq_some_iff.mp e
  obtain ⟨x5, e5, e⟩ := Option.bind_eq_some_iff.mp e
  subst e1 e2 e3 e4 e5
  exact ew_call (ds := [enc x1, enc x2, enc x3, enc x4, enc x5]) (ea_cons h1 (ea_cons h2 (ea_cons h3 (ea_cons h4 (ea_cons h5 ea_nil))))) rfl ⟨x1, x2, x3, x4, x5, rfl, rfl, rfl⟩ c e
theorem ew_c5P {E : XK} {f : α1 → α2 → α3 → α4 → α5 → Option γ} {ρ : γ → Sl} {x1 : α1} {x2 : α2} {x3 : α3} {x4 : α4} {x5 : α5} (h1 : EvM K t1 Γ (some x1)) (h2 : EvM K t2 Γ (some x2)) (h3 : EvM K t3 Γ (some x3)) (h4 : EvM K t4 Γ (some x4)) (h5 : EvM K t5 Γ (some x5)) : EvW K (tCall (spw5 K f ρ) [] E (tCons t1 (tCons t2 (tCons t3 (tCons t4 (tCons t5 tNil)))))) Γ (f x1 x2 x3 x4 x5) ρ := ew_c5 h1 h2 h3 h4 h5
def spw6 (K : PySem.W.Frag) (f : α1 → α2 → α3 → α4 → α5 → α6 → Option γ) (ρ : γ → Sl) : Sp := spW K 6 fun ds m rs => ∃ x1 x2 x3 x4 x5 x6, ds = [enc x1, enc x2, enc x3, enc x4, enc x5, enc x6] ∧ m = f x1 x2 x3 x4 x5 x6 ∧ rs = ρ
theorem fw6 {j : Nat} {N : List Str} {f : α1 → α2 → α3 → α4 → α5 → α6 → Option γ} {ρ : γ → Sl} (hN : N.length = 6 + j) (hb : ∀ x1 x2 x3 x4 x5 x6, BM K t (.f x1 :: .f x2 :: .f x3 :: .f x4 :: .f x5 :: .f x6 :: List.replicate j .no) (f x1 x2 x3 x4 x5 x6) (hdO K ρ (fun _ => List.replicate (6 + j) .no))) (vs : List V) (H : Hp) (Q : VK) (E : XK) (h : spw6 K f ρ vs H Q E) : t { nx := fun _ H' => Q .non H', rt := Q } (L2.start N vs) H :=
  fn_W hN (fun ds m rs _ p => by obtain ⟨x1, x2, x3, x4, x5, x6, rfl, rfl, rfl⟩ := p; exact hb x1 x2 x3 x4 x5 x6) vs H Q E h
theorem ew_c6 {E : XK} {f : α1 → α2 → α3 → α4 → α5 → α6 → Option γ} {ρ : γ → Sl} (h1 : EvM K t1 Γ m1) (h2 : EvM K t2 Γ m2) (h3 : EvM K t3 Γ m3) (h4 : EvM K t4 Γ m4) (h5 : EvM K t5 Γ m5) (h6 : EvM K t6 Γ m6) : EvW K (tCall (spw6 K f ρ) [] E (tCons t1 (tCons t2 (tCons t3 (tCons t4 (tCons t5 (tCons t6 tNil))))))) Γ (m1.bind fun x1 => m2.bind fun x2 => m3.bind fun x3 => m4.bind fun x4 => m5.bind fun x5 => m6.bind fun x6 => f x1 x2 x3 x4 x5 x6) ρ := fun c e => by
  obtain ⟨x1, e1, e⟩ := Option.bind_eq_some_iff.mp e
  obtain ⟨x2, e2, e⟩ := Option.bind_eq_some_iff.mp e
  obtain ⟨x3, e3, e⟩ := Option.bind_eq_some_iff.mp e
  obtain ⟨x4, e4, e⟩ := Option.bind_eq_some_iff.mp e
  obtain ⟨x5, e5, e⟩ := Option.bind_eq_some_iff.mp e
  obtain ⟨x6, e6, e⟩ := Option.bind_eq_some_iff.mp e
  subst e1 e2 e3 e4 e5 e6
  exact ew_call (ds := [enc x1, enc x2, enc x3, enc x4, enc x5, enc x6]) (ea_cons h1 (ea_cons h2 (ea_cons h3 (ea_cons h4 (ea_cons h5 (ea_cons h6 ea_nil)))))) rfl ⟨x1, x2, x3, x4, x5, x6, rfl, rfl, rfl⟩ c e
theorem ew_c6P {E : XK} {f : α1 → α2 → α3 → α4 → α5 → α6 → Option γ} {ρ : γ → Sl} {x1 : α1} {x2 : α2} {x3 : α3} {x4 : α4} {x5 : α5} {x6 : α6} (h1 : EvM K t1 Γ (some x1)) (h2 : EvM K t2 Γ (some x2)) (h3 : EvM K t3 Γ (some x3)) (h4 : EvM K t4 Γ (some x4)) (h5 : EvM K t5 Γ (some x5)) (h6 : EvM K t6 Γ (some x6)) : EvW K (tCall (spw6 K f ρ) [] E (tCons t1 (tCons t2 (tCons t3 (tCons t4 (tCons t5 (tCons t6 tNil))))))) Γ (f x1 x2 x3 x4 x5 x6) ρ := ew_c6 h1 h2 h3 h4 h5 h6
end
end M
/-! M14: sorted texts; more -/
namespace M
open PySem PySem.Spec PyProof.Rows L2
open Evl (Ex)
open Enc (enc)
def leS (a b : Str) : Bool := !ltCps b.cps.toList a.cps.toList
theorem leS_iff {a b : Str} : leS a b = true ↔ a.cps.toList ≤ b.cps.toList := by
  unfold leS
  rw [ltCps_eq, Bool.not_eq_true', decide_eq_false_iff_not]
  exact List.not_lt
theorem leS_trans {a b c : Str} (h1 : leS a b = true) (h2 : leS b c = true) : leS a c = true := by
  rw [leS_iff] at h1 h2 ⊢
  exact List.le_trans h1 h2
theorem leS_total (a b : Str) : (leS a b || leS b a) = true := by
  rw [Bool.or_eq_true, leS_iff, leS_iff]
  exact List.le_total _ _
theorem leS_anti {a b : Str} (h1 : leS a b = true) (h2 : leS b a = true) : a = b := by
  rw [leS_iff] at h1 h2
  have e : a.cps.toList = b.cps.toList := List.le_antisymm h1 h2
  cases a; cases b
  congr
  exact Array.ext' e
theorem rising_pw : ∀ (l : List Str) (p : Str), risingS p l = true → (p :: l).Pairwise (fun a b => leS a b = true)
  | [], p, _ => List.pairwise_singleton _ _
  | x :: r, p, h => by
    rw [risingS, Bool.and_eq_true] at h
    have ih := rising_pw r x h.2
    rw [List.pairwise_cons]
    refine ⟨fun y hy => ?_, ih⟩
    have hx : leS p x = true := h.1
    rcases List.mem_cons.mp hy with rfl | hy
    · exact hx
    · exact leS_trans hx ((List.pairwise_cons.mp ih).1 y hy)
theorem sortedS_pw {l : List Str} (h : sortedS l = true) : l.Pairwise (fun a b => leS a b = true) := by
  cases l with
  | nil => exact .nil
  | cons x r => exact rising_pw r x h
def sortSL (xs : List Str) : List Str := xs.mergeSort leS
def sortS (xs : List Str) : Option (List Str) := if xs.length < 64 then some (sortSL xs) else none
theorem sortSL_perm (xs : List Str) : (sortSL xs).Perm xs := List.mergeSort_perm xs _
theorem sortSL_sorted (xs : List Str) : (sortSL xs).Pairwise (fun a b => leS a b = true) :=
  List.pairwise_mergeSort (le := leS) (fun _ _ _ h1 h2 => leS_trans h1 h2) (fun a b => leS_total a b) xs
theorem sortSL_eq {xs ys : List Str} (h1 : ys.Perm xs) (h2 : ys.Pairwise (fun a b => leS a b = true)) : ys = sortSL xs :=
  List.Perm.eq_of_pairwise (le := fun a b => leS a b = true) (fun a b _ _ h3 h4 => leS_anti h3 h4) h2 (sortSL_sorted xs) (h1.trans (sortSL_perm xs).symm)
/-- rules, told of a given frame -/
theorem ixK {X : Cx} {K : PySem.W.Frag} {r : PySem.W.Frag → R2} (h : X.K = K) (c : IxR X (r X.K)) : IxR X (r K) := h ▸ c
theorem opK {X : Cx} {K : PySem.W.Frag} {f : Value → Value → Sem Value} {r : PySem.W.Frag → R2} (h : X.K = K) (c : OpR X f (r X.K)) : OpR X f (r K) := h ▸ c
theorem crK {X : Cx} {K : PySem.W.Frag} {f : Value} {r : PySem.W.Frag → List V → Hp → VK → Prop} (h : X.K = K) (c : CallR X f (r X.K)) : CallR X f (r K) := h ▸ c
theorem slK {X : Cx} {K : PySem.W.Frag} {r : PySem.W.Frag → V → Option Int → Option Int → Hp → VK → Prop} (h : X.K = K) (c : L2.SlR X (r X.K)) : L2.SlR X (r K) := h ▸ c
abbrev rInT (K : PySem.W.Frag) : R2 := rIn K false
abbrev rNiT (K : PySem.W.Frag) : R2 := rIn K true
instance instDecEqTu {α : Type} [d : DecidableEq α] : DecidableEq (Tu α) := fun a b => match a, b with
  | ⟨x⟩, ⟨y⟩ => if h : x = y then isTrue (by rw [h]) else isFalse (fun e => h (by cases e; rfl))
instance {α : Type} [Enc α] [E : EqD α] : EqD (Tu α) := ⟨@instDecEqTu α E.dec, fun K F H v a e r => by
    obtain ⟨p, vs, rfl, h1, h2⟩ := Rep.tup_inv r
    exact .tup (Evl.st_of (e _ _ h1)) (dps_of e h2), fun a => a.xs.all E.ok, fun a h => by
    show PyData.canLay0 (.tuple (toPys (a.xs.map enc))) = true
    simp only [PyData.canLay0]
    exact lays a.xs h, E.dep + 1, fun a => by
    show PyData.depth (.tuple (toPys (a.xs.map enc))) ≤ _
    have := depths a.xs
    simp only [PyData.depth]
    omega, fun a b => by
    show PyData.eqvAll (toPys (a.xs.map enc)) (toPys (b.xs.map enc)) = _
    rw [eqvs a.xs b.xs]
    by_cases h : a.xs = b.xs
    · rw [@decide_eq_true _ (@List.hasDecEq α E.dec a.xs b.xs) h, @decide_eq_true _ (@instDecEqTu α E.dec a b) (by cases a; cases b; exact congrArg Tu.mk h)]
    · rw [@decide_eq_false _ (@List.hasDecEq α E.dec a.xs b.xs) h, @decide_eq_false _ (@instDecEqTu α E.dec a b) (fun e => h (by rw [e]))]⟩
section
variable {K : PySem.W.Frag} {Γ : List Sl} {α β γ : Type} [Enc α] [Enc β] {ta te : TE} {T : Type} {hd : Hdl T} {u w t : TS}
theorem strs_reps {F : Hp} : ∀ {xs : List Str} {vs : List V}, Reps K F vs (xs.map enc) → vs = xs.map V.str
  | [], vs, r => r.nil_inv
  | x :: xs, vs, r => by
    obtain ⟨v, ws, rfl, r1, r2⟩ := r.cons_inv
    rw [Rep.str_inv r1, strs_reps r2]; rfl
theorem reps_strs {F : Hp} : ∀ xs : List Str, Reps K F (xs.map V.str) (xs.map enc)
  | [] => .nil
  | x :: xs => .cons (.str x) (reps_strs xs)
theorem en_sortS {m : Option (List Str)} (h : EvL K ta Γ m) : EvN K (tCB (rSortedS K) (tCons ta tNil)) Γ (m.bind fun xs => sortS xs) := fun c e F0 B F σ H k Q q => by
  obtain ⟨xs, e1, e⟩ := Option.bind_eq_some_iff.mp e
  unfold sortS at e
  split at e
  case isFalse => cases e
  cases e
  rename_i h64
  refine h xs e1 F0 B F σ H k _ fun p vs F1 H1 x1 h1 r1 => ⟨p, xs, rfl, Evl.sq_of (by rw [h1, strs_reps r1]), h64, fun ys l a1 a2 hl => ?_⟩
  rw [sortSL_eq a1 (sortedS_pw a2)]
  exact q l _ F1 _ (x1.trans (Ext.newOwn x1.fh hl)) (Evl.fresh_back x1.hh hl) (none_of x1.fh hl) upd_same (reps_strs _)
theorem en_sortSP {xs : List Str} (h : EvL K ta Γ (some xs)) : EvN K (tCB (rSortedS K) (tCons ta tNil)) Γ (sortS xs) := en_sortS h
/-- the length of a tuple -/
theorem em_lenTD {f : α → Nat} {ds : α → List D} (hd' : ∀ a, (enc a : D) = .tup (ds a)) (hn : ∀ a, (ds a).length = f a) {m : Option α} (h : EvM K ta Γ m) : EvM K (tCB (Evl.rLenS K) (tCons ta tNil)) Γ (m.bind fun a => some (f a : Int)) := fun c e F0 B F σ H k Q q => by
  obtain ⟨a, e1, e⟩ := Option.bind_eq_some_iff.mp e
  cases e
  refine h a e1 F0 B F σ H k _ fun v F1 H1 x1 r1 => ?_
  rw [hd' a] at r1
  obtain ⟨p, vs, rfl, h1, h2⟩ := Rep.tup_inv r1
  refine ⟨p, vs, rfl, Or.inr (Evl.st_of (x1.fh _ _ h1)), ?_⟩
  have e : vs.length = f a := by rw [h2.len, hn a]
  rw [e]
  exact q _ F1 H1 x1 (.int _)
theorem em_lenTU {m : Option (Tu α)} (h : EvM K ta Γ m) : EvM K (tCB (Evl.rLenS K) (tCons ta tNil)) Γ (m.bind fun a => some (a.xs.length : Int)) := em_lenTD (f := fun a : Tu α => a.xs.length) (ds := fun a : Tu α => a.xs.map enc) (fun _ => rfl) (fun a => by simp) h
theorem em_lenTUP {a : Tu α} (h : EvM K ta Γ (some a)) : EvM K (tCB (Evl.rLenS K) (tCons ta tNil)) Γ (some (a.xs.length : Int)) := em_lenTU h
theorem em_lenT2 {α1 α2 : Type} [Enc α1] [Enc α2] {m : Option (α1 × α2)} (h : EvM K ta Γ m) : EvM K (tCB (Evl.rLenS K) (tCons ta tNil)) Γ (m.bind fun _ => some (2 : Int)) := em_lenTD (f := fun _ : (α1 × α2) => 2) (ds := fun a : (α1 × α2) => [enc a.1, enc a.2]) (fun _ => rfl) (fun _ => rfl) h
theorem em_lenT2P {α1 α2 : Type} [Enc α1] [Enc α2] {a : (α1 × α2)} (h : EvM K ta Γ (some a)) : EvM K (tCB (Evl.rLenS K) (tCons ta tNil)) Γ (some (2 : Int)) := em_lenT2 h
theorem em_lenT3 {α1 α2 α3 : Type} [Enc α1] [Enc α2] [Enc α3] {m : Option (T3 α1 α2 α3)} (h : EvM K ta Γ m) : EvM K (tCB (Evl.rLenS K) (tCons ta tNil)) Γ (m.bind fun _ => some (3 : Int)) := em_lenTD (f := fun _ : (T3 α1 α2 α3) => 3) (ds := fun a : (T3 α1 α2 α3) => [enc a.a, enc a.b, enc a.c]) (fun _ => rfl) (fun _ => rfl) h
theorem em_lenT3P {α1 α2 α3 : Type} [Enc α1] [Enc α2] [Enc α3] {a : (T3 α1 α2 α3)} (h : EvM K ta Γ (some a)) : EvM K (tCB (Evl.rLenS K) (tCons ta tNil)) Γ (some (3 : Int)) := em_lenT3 h
theorem em_lenT4 {α1 α2 α3 α4 : Type} [Enc α1] [Enc α2] [Enc α3] [Enc α4] {m : Option (T4 α1 α2 α3 α4)} (h : EvM K ta Γ m) : EvM K (tCB (Evl.rLenS K) (tCons ta tNil)) Γ (m.bind fun _ => some (4 : Int)) := em_lenTD (f := fun _ : (T4 α1 α2 α3 α4) => 4) (ds := fun a : (T4 α1 α2 α3 α4) => [enc a.a, enc a.b, enc a.c, enc a.d]) (fun _ => rfl) (fun _ => rfl) h
theorem em_lenT4P {α1 α2 α3 α4 : Type} [Enc α1] [Enc α2] [Enc α3] [Enc α4] {a : (T4 α1 α2 α3 α4)} (h : EvM K ta Γ (some a)) : EvM K (tCB (Evl.rLenS K) (tCons ta tNil)) Γ (some (4 : Int)) := em_lenT4 h
theorem em_lenT5 {α1 α2 α3 α4 α5 : Type} [Enc α1] [Enc α2] [Enc α3] [Enc α4] [Enc α5] {m : Option (T5 α1 α2 α3 α4 α5)} (h : EvM K ta Γ m) : EvM K (tCB (Evl.rLenS K) (tCons ta tNil)) Γ (m.bind fun _ => some (5 : Int)) := em_lenTD (f := fun _ : (T5 α1 α2 α3 α4 α5) => 5) (ds := fun a : (T5 α1 α2 α3 α4 α5) => [enc a.a, enc a.b, enc a.c, enc a.d, enc a.e]) (fun _ => rfl) (fun _ => rfl) h
theorem em_lenT5P {α1 α2 α3 α4 α5 : Type} [Enc α1] [Enc α2] [Enc α3] [Enc α4] [Enc α5] {a : (T5 α1 α2 α3 α4 α5)} (h : EvM K ta Γ (some a)) : EvM K (tCB (Evl.rLenS K) (tCons ta tNil)) Γ (some (5 : Int)) := em_lenT5 h
theorem em_lenT6 {α1 α2 α3 α4 α5 α6 : Type} [Enc α1] [Enc α2] [Enc α3] [Enc α4] [Enc α5] [Enc α6] {m : Option (T6 α1 α2 α3 α4 α5 α6)} (h : EvM K ta Γ m) : EvM K (tCB (Evl.rLenS K) (tCons ta tNil)) Γ (m.bind fun _ => some (6 : Int)) := em_lenTD (f := fun _ : (T6 α1 α2 α3 α4 α5 α6) => 6) (ds := fun a : (T6 α1 α2 α3 α4 α5 α6) => [enc a.a, enc a.b, enc a.c, enc a.d, enc a.e, enc a.f]) (fun _ => rfl) (fun _ => rfl) h
theorem em_lenT6P {α1 α2 α3 α4 α5 α6 : Type} [Enc α1] [Enc α2] [Enc α3] [Enc α4] [Enc α5] [Enc α6] {a : (T6 α1 α2 α3 α4 α5 α6)} (h : EvM K ta Γ (some a)) : EvM K (tCB (Evl.rLenS K) (tCons ta tNil)) Γ (some (6 : Int)) := em_lenT6 h
theorem imp_O {rs : γ → Sl} {G : γ → List Sl} : Imp (hdO K rs G) (hdO K rs G) := fun o F0 B D X h => h
theorem bm_retW {m : Option γ} {rs : γ → Sl} {G : γ → List Sl} (h : EvW K te Γ m rs) (hs : ∀ c, Sub Γ (G c)) : BM K (tRet te) Γ m (hdO K rs G) := bm_retES (es_w h) hs
end
end M
/-! M15: things handed in and changed: reading and writing them, tests that change things -/
namespace M
open PySem PySem.Spec PyProof.Rows L2
open Evl (Ex)
open Enc (enc)
theorem keeps_nil : Keeps [] [] := ⟨rfl, fun k g e => by simp at e⟩
theorem keeps_no {ss gs : List Sl} {s : Sl} (h : Keeps ss gs) : Keeps (s :: ss) (.no :: gs) := ⟨by simp [h.1], fun k g e => by
  cases k with
  | zero => simp at e; exact .inl e.symm
  | succ k => simpa using h.2 k g (by simpa using e)⟩
theorem keeps_kn {ss gs : List Sl} {w : V} {s s' : Sl} (h : Keeps ss gs) : Keeps (.kn w s' :: ss) (.kn w s :: gs) := ⟨by simp [h.1], fun k g e => by
  cases k with
  | zero => simp at e; exact .inr ⟨w, s, s', e.symm, rfl⟩
  | succ k => simpa using h.2 k g (by simpa using e)⟩
section
variable {K : PySem.W.Frag} {Γ Γ' : List Sl} {α β γ δ : Type} [Enc α] [Enc β] {ta tb tc te tp : TE} {ma : Option α} {T A S R : Type} {hd : Hdl T} {u w t : TS}
theorem el_ownK {i : Nat} {z : V} {xs : List α} (h : Γ[i]? = some (.kn z (.o xs))) : EvL K (tVar i) Γ (some xs) := fun a e F0 B F σ H k Q q => by
  cases e
  obtain ⟨w, m, h1, h2, _⟩ := k.mod h
  obtain ⟨h2', p, vs, rfl, rfl, h3, h4⟩ := h2
  exact ⟨_, h1, q p vs F H (Ext.refl k.fh) h3 h4⟩
theorem pl_varK {i : Nat} {z : V} {xs : List D} (h : Γ[i]? = some (.kn z (.own xs))) : Pl K (tVar i) Γ xs (fun ys => Γ.set i (.kn z (.own ys))) := fun F0 B F σ H k => by
  obtain ⟨w, m, h1, h2, h3, nd, h4⟩ := k.mod h
  obtain ⟨h2', p, vs, rfl, rfl, e1, e2⟩ := h2
  cases h2'
  have fp := (h3 p (by simp)).1
  refine ⟨p, vs, fun Q q => ⟨_, h1, q⟩, e1, e2, fp, fun F' H' vs' xs' x r => ?_⟩
  have f' : F' p = none := (x.old p _ e1).trans fp
  have y := h4 F' (upd H' p (.lst vs')) (.kn (.ref p) (.own xs')) (some (.ref p)) [p] x.ff (fun q o e => by
    have ne : q ≠ p := fun y => by rw [y, f'] at e; cases e
    rw [upd_ne ne]
    exact x.fh q o e) (fun q o nq e => by
    have ne : q ≠ p := fun y => nq (by simp [y])
    rw [upd_ne ne]
    exact x.hh q o e) (fun q o e _ => x.old q o e) ⟨rfl, p, vs', rfl, rfl, upd_same, r⟩ nd (fun q hq => .inl hq) fun q hq => by rw [List.mem_singleton.mp hq]; exact f'
  rwa [set_id h1] at y
theorem pd_varK {i : Nat} {z : V} {xs : List (Key × D)} (h : Γ[i]? = some (.kn z (.owd xs))) : Pd K (tVar i) Γ xs (fun ys => Γ.set i (.kn z (.owd ys))) := fun F0 B F σ H k => by
  obtain ⟨w, m, h1, h2, h3, nd, h4⟩ := k.mod h
  obtain ⟨h2', p, vs, rfl, rfl, e1, e2⟩ := h2
  cases h2'
  have fp := (h3 p (by simp)).1
  refine ⟨p, vs, fun Q q => ⟨_, h1, q⟩, e1, e2, fp, fun F' H' vs' xs' x r => ?_⟩
  have f' : F' p = none := (x.old p _ e1).trans fp
  have y := h4 F' (upd H' p (.dK vs')) (.kn (.ref p) (.owd xs')) (some (.ref p)) [p] x.ff (fun q o e => by
    have ne : q ≠ p := fun y => by rw [y, f'] at e; cases e
    rw [upd_ne ne]
    exact x.fh q o e) (fun q o nq e => by
    have ne : q ≠ p := fun y => nq (by simp [y])
    rw [upd_ne ne]
    exact x.hh q o e) (fun q o e _ => x.old q o e) ⟨rfl, p, vs', rfl, rfl, upd_same, r⟩ nd (fun q hq => .inl hq) fun q hq => by rw [List.mem_singleton.mp hq]; exact f'
  rwa [set_id h1] at y
theorem es_at {m : Option α} {f : α → Option γ} {rs : γ → Sl} {G : γ → List Sl} (k : ∀ a, m = some a → EvS K te Γ (f a) rs G) : EvS K te Γ (m.bind f) rs G := fun c e => by
  obtain ⟨a, e1, e⟩ := Option.bind_eq_some_iff.mp e
  exact k a e1 c e
/-! ### a def that hands back nothing -/
open Classical in
theorem fn_OU {n j : Nat} {P : List Sl → Option γ → (γ → Sl) → (γ → List Sl) → Prop} {N : List Str} (hN : N.length = n + j) (hb : ∀ ss m rs G, ss.length = n → P ss m rs G → (∀ c, Keeps ss (G c)) ∧ (∀ c, rs c = .fz .non) ∧ BM K t (ss ++ List.replicate j .no) m (hdOU K (fun c => G c ++ List.replicate j .no)))
    (vs : List V) (H : Hp) (Q : VK) (E : XK) (h : spO K n P vs H Q E) : t { nx := fun _ H' => Q .non H', rt := Q } (L2.start N vs) H := by
  obtain ⟨ss, m, rs, G, c, F, fp, h1, h2, h3, h4, h5, h6, h7, h8⟩ := h
  have hlv : vs.length = n := by have := h3.len; rw [List.length_map] at this; omega
  rw [start_eq (by rw [hlv]) hN]
  obtain ⟨hk, hrs, hbm⟩ := hb ss m rs G h1 h6
  have hB : ∀ q o, (fun q => if q ∈ fp then none else H q : Hp) q = some o ↔ (H q = some o ∧ q ∉ fp) := fun q o => by
    by_cases hq : q ∈ fp <;> simp [hq]
  refine hbm c h7 F (fun q => if q ∈ fp then none else H q) F _ H _ (start_okS h2 h3 h4 h5 j _ hB) ?_
  intro F' σ' H' k
  have key : Q .non H' := by
    obtain ⟨fq, s1, s2, s3⟩ := k.sl
    have hlen : σ'.length = n + j := by
      have := s1.len
      rw [List.length_append, List.length_replicate, (hk c).1, h1] at this; omega
    have es : σ' = σ'.take n ++ σ'.drop n := (List.take_append_drop n σ').symm
    rw [es] at s1
    obtain ⟨fa, fb, rfl, t1, t2⟩ := SlRs.split (by rw [(hk c).1, h1, List.length_take, hlen]; omega) s1
    have tv : SlRs K F' H' (G c) (vs.map some) fa := SlRs.same (fq := []) (hk c) (by rw [List.length_take, hlen, List.length_map, hlv]; omega) t1 fun k w s' e => by
      obtain ⟨v', l, m', r', b1, _, b3, _⟩ := h3.at e
      rw [b1, b3.1]
    refine h8 .non F' H' ([] ++ fa) k.f0 k.fh (fun q o nq e => k.bh q o ((hB q o).mpr ⟨e, nq⟩)) (fun q o e nq => k.nb q o ((hB q o).mpr ⟨e, nq⟩)) (.cons (by rw [hrs c]; exact ⟨rfl, .non, rfl, .non⟩) tv) (by simpa using (List.nodup_append.mp s2).1) (fun p hp => ?_) fun p hp => ?_
    · have hp' : p ∈ fa ++ fb := List.mem_append_left _ (by simpa using hp)
      have z := (s3 p hp').2
      by_cases hq : p ∈ fp
      · exact .inl hq
      · right
        simpa [hq] using z
    · exact (s3 p (List.mem_append_left _ (by simpa using hp))).1
  exact ⟨key, key⟩
/-! ### tests that change things -/
theorem ets_B {m : Option γ} {rs : γ → Sl} {b : γ → Bool} {G : γ → List Sl} (h : EvS K te Γ m rs G) (hr : ∀ c, rs c = .f (b c)) : EvTS K (tB te) Γ m b G := fun c e F0 B F σ H k Q q => by
  refine h c e F0 B F σ H k _ fun v F1 H1 k1 => ?_
  obtain ⟨fp, s1, _⟩ := k1.sl
  cases s1 with
  | cons s1 _ =>
    rw [hr c] at s1
    obtain ⟨_, x, ex, r⟩ := s1
    cases ex
    exact ⟨b c, r.bl_inv, q F1 H1 k1.back1⟩
theorem ets_not {tt : TT} {m : Option γ} {b : γ → Bool} {G : γ → List Sl} (h : EvTS K tt Γ m b G) : EvTS K (tNot tt) Γ m (fun c => !b c) G := fun c e F0 B F σ H k Q q => h c e F0 B F σ H k _ q
/-- the first part changes things, the second one reads -/
theorem ets_or {t1 t2 : TT} {m : Option γ} {b : γ → Bool} {G : γ → List Sl} {n : γ → Option Bool} (h : EvTS K t1 Γ m b G) (h2 : ∀ c, EvT K t2 (G c) (n c)) : EvTS K (tOr t1 t2) Γ (m.bind fun c => if b c = true then some (c, true) else (n c).map fun z => (c, z)) (fun p => p.2) (fun p => G p.1) := fun p e F0 B F σ H k Q q => by
  obtain ⟨c, e1, e⟩ := Option.bind_eq_some_iff.mp e
  refine h c e1 F0 B F σ H k _ fun F1 H1 k1 => ?_
  cases hb : b c with
  | true =>
    rw [hb, if_pos rfl] at e
    cases e
    exact q F1 H1 k1
  | false =>
    rw [hb, if_neg (by decide)] at e
    obtain ⟨z, e2, rfl⟩ := Option.map_eq_some_iff.mp e
    exact h2 c z e2 F0 B F1 σ H1 k1 Q fun F2 H2 x => q F2 H2 (k1.ext x)
theorem ets_and {t1 t2 : TT} {m : Option γ} {b : γ → Bool} {G : γ → List Sl} {n : γ → Option Bool} (h : EvTS K t1 Γ m b G) (h2 : ∀ c, EvT K t2 (G c) (n c)) : EvTS K (tAnd t1 t2) Γ (m.bind fun c => if b c = true then (n c).map fun z => (c, z) else some (c, false)) (fun p => p.2) (fun p => G p.1) := fun p e F0 B F σ H k Q q => by
  obtain ⟨c, e1, e⟩ := Option.bind_eq_some_iff.mp e
  refine h c e1 F0 B F σ H k _ fun F1 H1 k1 => ?_
  cases hb : b c with
  | false =>
    rw [hb, if_neg (by decide)] at e
    cases e
    exact q F1 H1 k1
  | true =>
    rw [hb, if_pos rfl] at e
    obtain ⟨z, e2, rfl⟩ := Option.map_eq_some_iff.mp e
    exact h2 c z e2 F0 B F1 σ H1 k1 Q fun F2 H2 x => q F2 H2 (k1.ext x)
theorem bm_ifST {hd1 : Hdl T} {c : TT} {m : Option γ} {b : γ → Bool} {G : γ → List Sl} {m1 m2 : γ → Option T} (im : Imp hd hd1) (hc : EvTS K c Γ m b G) (h1 : ∀ a, BM K t (G a) (m1 a) hd1) (h2 : ∀ a, BM K w (G a) (m2 a) hd) : BM K (tSeq (tIfS c t tNext) w) Γ (m.bind fun a => if b a = true then m1 a else m2 a) hd := fun o e F0 B F σ H D ok q => by
  obtain ⟨a, e1, e⟩ := Option.bind_eq_some_iff.mp e
  refine hc a e1 F0 B F σ H ok _ fun F1 H1 k1 => ?_
  cases hb : b a with
  | true => rw [hb, if_pos rfl] at e; exact h1 a o e F0 B F1 σ H1 _ k1 (im o F0 B D _ q)
  | false => rw [hb, if_neg (by decide)] at e; exact h2 a o e F0 B F1 σ H1 D k1 q
/-! ### lists of own lists -/
theorem ew_nil2 : EvW K (tLst tNil) Γ (some ([] : List (List α))) (fun a => .o2 a) := fun a e F0 B F σ H k Q q => by
  cases e
  refine en_nil (α := Int) [] rfl F0 B F σ H k Q fun p vs F' H' x h1 h2 h3 r => q (.ref p) F' H' [p] x ⟨p, [], [], rfl, rfl, ?_, ⟨rfl, rfl⟩⟩ (by simp) fun z hz => by rw [List.mem_singleton.mp hz]; exact ⟨h1, h2⟩
  rw [h3, r.nil_inv]
end
end M
/-! M16: own lists of own lists -/
namespace M
open PySem PySem.Spec PyProof.Rows L2
open Evl (Ex)
open Enc (enc)
section
variable {K : PySem.W.Frag} {Γ Γ' : List Sl} {α β γ δ : Type} [Enc α] {ta tb tc te tp : TE} {ma : Option α} {T A S R : Type} {hd : Hdl T} {u w t : TS}
/-- a list of new things, one for each item -/
theorem ew_lc {wi : TI} {g : TG} {tt : TT} {vs : List Nat} {m : Option (List α)} {Γx : α → List Sl} {c : α → Option Bool} {e : α → Option β} {rs : β → Sl}
    (hi : EvI K wi Γ m) (hg : ∀ x, TgM K g (wipeG Γ vs) x (Γx x)) (hw : TgW g vs) (ht : ∀ x, EvT K tt (Γx x) (c x)) (he : ∀ x, EvW K te (Γx x) (e x) rs) : EvW K (tLc wi g tt te vs) Γ (m.bind fun xs => lcM c e xs) (fun ys => .ol (ys.map rs)) := fun out eo F0 B F σ H k Q q => by
  obtain ⟨xs, e1, eo⟩ := Option.bind_eq_some_iff.mp eo
  unfold lcM at eo
  split at eo
  case isFalse => cases eo
  rename_i hlen
  refine hi xs e1 F0 B F σ H k _ fun J F1 H1 x1 it Dl hD => ?_
  refine ⟨fun i m H2 => m = xs.length - i ∧ i ≤ xs.length ∧ ∃ F2 acc dn rest fp, Ext F1 H1 F2 H2 ∧ F2 Dl = none ∧ H2 Dl = some (.lst acc) ∧ SlRs K F2 H2 (dn.map rs) (acc.map some) fp ∧ fp.Nodup ∧ (∀ p ∈ fp, H1 p = none ∧ F2 p = none ∧ p ≠ Dl) ∧ acc.length ≤ i ∧ compM c e (xs.drop i) = some rest ∧ dn ++ rest = out,
    ⟨xs.length, by simp, Nat.zero_le _, F1, [], [], out, [], Ext.newOwn x1.fh hD, none_of x1.fh hD, upd_same, .nil, List.nodup_nil, (fun p hp => by cases hp), Nat.zero_le _, by simpa using eo, rfl⟩, ?_⟩
  rintro i m H2 ⟨rfl, hi2, F2, acc, dn, rest, fp, x2, f2, h2, r2, nd2, nw2, l2, e2, o2⟩
  by_cases hlt : i < xs.length
  · right
    have hx : xs[i]? = some xs[i] := List.getElem?_eq_getElem hlt
    rw [List.drop_eq_getElem_cons hlt, compM] at e2
    obtain ⟨b, e3, e4⟩ := Option.bind_eq_some_iff.mp e2
    obtain ⟨go, yl⟩ := it.item F2 H2 ⟨x2.ff, x2.fh⟩ x2.fh i _ hx
    refine ⟨go, fun H' => ∃ F2 acc dn rest fp, Ext F1 H1 F2 H' ∧ F2 Dl = none ∧ H' Dl = some (.lst acc) ∧ SlRs K F2 H' (dn.map rs) (acc.map some) fp ∧ fp.Nodup ∧ (∀ p ∈ fp, H1 p = none ∧ F2 p = none ∧ p ≠ Dl) ∧ acc.length ≤ i + 1 ∧ compM c e (xs.drop (i + 1)) = some rest ∧ dn ++ rest = out, fun H' n => ⟨xs.length - (i + 1), by omega, rfl, hlt, n⟩, fun v H' y => ?_⟩
    obtain ⟨F3, x3, r3⟩ := yl v H' y
    have x13 := x2.trans x3
    have k3 := (k.ext (x1.trans x13)).wipe vs
    have h3 : H' Dl = some (.lst acc) := x3.hh _ _ h2
    have f3 : F3 Dl = none := (x3.old _ _ h2).trans f2
    have keep : ∀ {Fa Ha : Hp}, Ext F2 H2 Fa Ha → SlRs K Fa Ha (dn.map rs) (acc.map some) fp ∧ ∀ p ∈ fp, H1 p = none ∧ Fa p = none ∧ p ≠ Dl := fun {Fa Ha} x => ⟨r2.mono x.ff fun p hp => by
      obtain ⟨o, ho⟩ := r2.dom p hp
      rw [ho]; exact x.hh p o ho, fun p hp => by
      obtain ⟨o, ho⟩ := r2.dom p hp
      exact ⟨(nw2 p hp).1, (x.old p o ho).trans (nw2 p hp).2.1, (nw2 p hp).2.2⟩⟩
    refine hw v σ H' _ (hg xs[i] F0 B F3 _ H' v k3 r3 _ fun σ4 k4 => ?_)
    refine ht xs[i] b e3 F0 B F3 σ4 H' k4 _ fun F5 H5 x5 => ?_
    have x15 := x13.trans x5
    have f5 : F5 Dl = none := (x5.old _ _ h3).trans f3
    cases b with
    | false =>
      rw [if_neg Bool.false_ne_true] at e4
      show ∃ F2 acc dn rest fp, _
      obtain ⟨r5, n5⟩ := keep (x3.trans x5)
      exact ⟨F5, acc, dn, rest, fp, x15, f5, x5.hh _ _ h3, r5, nd2, n5, by omega, e4, o2⟩
    | true =>
      rw [if_pos rfl] at e4
      obtain ⟨y, e5, e6⟩ := Option.bind_eq_some_iff.mp e4
      obtain ⟨ys, e7, e8⟩ := Option.bind_eq_some_iff.mp e6
      cases e8
      show te σ4 H5 _
      refine he xs[i] y e5 F0 B F5 σ4 H5 (k4.ext x5) _ fun u F6 H6 fr x6 r6 nd6 nw6 => ?_
      have h5 : H5 Dl = some (.lst acc) := x5.hh _ _ h3
      have h6 : H6 Dl = some (.lst acc) := x6.hh _ _ h5
      have f6 : F6 Dl = none := (x6.old _ _ h5).trans f5
      have x16 := x15.trans x6
      obtain ⟨r5, n5⟩ := keep (x3.trans x5)
      obtain ⟨r7, n7⟩ := keep ((x3.trans x5).trans x6)
      have frD : ∀ p ∈ fr, p ≠ Dl := fun p hp z => by
        have := (nw6 p hp).1
        rw [z, h5] at this; cases this
      have stay : ∀ p, p ≠ Dl → upd H6 Dl (.lst (acc ++ [u])) p = H6 p := fun p hp => upd_ne hp
      refine ⟨acc, h6, by omega, F6, acc ++ [u], dn ++ [y], ys, fp ++ (fr ++ []), ⟨x16.ff, fun q o z => ?_, fun q o z => ?_, x16.old⟩, f6, upd_same, ?_, ?_, fun p hp => ?_, by simp; omega, e7, by simpa using o2⟩
      · rw [upd_ne (ne_of_none z hD)]
        exact x16.hh q o z
      · rw [upd_ne (ne_of_none z f6)]
        exact x6.fh q o z
      · rw [List.map_append, List.map_append]
        refine SlRs.append (r7.mono (Ex.refl _) fun p hp => stay p (n7 p hp).2.2) ?_
        exact .cons (r6.mono (Ex.refl _) fun p hp => stay p (frD p hp)) .nil
      · rw [List.append_nil, List.nodup_append]
        refine ⟨nd2, nd6, fun a ha b hb eab => ?_⟩
        subst eab
        obtain ⟨o, ho⟩ := r5.dom a ha
        rw [(nw6 a hb).1] at ho; cases ho
      · rw [List.append_nil] at hp
        rcases List.mem_append.mp hp with hp | hp
        · exact n7 p hp
        · exact ⟨none_of x15.hh (nw6 p hp).1, (nw6 p hp).2, frD p hp⟩
  · left
    have e5 : i = xs.length := by omega
    subst e5
    rw [List.drop_length] at e2
    cases e2
    rw [List.append_nil] at o2
    subst o2
    refine ⟨it.stop F2 H2 ⟨x2.ff, x2.fh⟩, q (.ref Dl) F2 H2 (Dl :: fp) (x1.trans x2) ⟨Dl, acc, fp, rfl, rfl, h2, slrl_iff.mpr r2⟩ ?_ fun p hp => ?_⟩
    · exact List.nodup_cons.mpr ⟨fun z => (nw2 Dl z).2.2 rfl, nd2⟩
    · rcases List.mem_cons.mp hp with rfl | hp
      · exact ⟨Evl.fresh_back x1.hh hD, f2⟩
      · exact ⟨none_of x1.hh (nw2 p hp).1, (nw2 p hp).2.1⟩
/-- .. of new lists -/
theorem ew_lc2 {β : Type} [Enc β] {wi : TI} {g : TG} {tt : TT} {vs : List Nat} {m : Option (List α)} {Γx : α → List Sl} {c : α → Option Bool} {e : α → Option (List β)}
    (hi : EvI K wi Γ m) (hg : ∀ x, TgM K g (wipeG Γ vs) x (Γx x)) (hw : TgW g vs) (ht : ∀ x, EvT K tt (Γx x) (c x)) (he : ∀ x, EvN K te (Γx x) (e x)) : EvW K (tLc wi g tt te vs) Γ (m.bind fun xs => lcM c e xs) (fun ys => .o2 ys) :=
  ew_lc hi hg hw ht fun x => ew_n (he x)
theorem ew_lc2P {β : Type} [Enc β] {wi : TI} {g : TG} {tt : TT} {vs : List Nat} {xs : List α} {Γx : α → List Sl} {c : α → Option Bool} {e : α → Option (List β)}
    (hi : EvI K wi Γ (some xs)) (hg : ∀ x, TgM K g (wipeG Γ vs) x (Γx x)) (hw : TgW g vs) (ht : ∀ x, EvT K tt (Γx x) (c x)) (he : ∀ x, EvN K te (Γx x) (e x)) : EvW K (tLc wi g tt te vs) Γ (lcM c e xs) (fun ys => .o2 ys) := ew_lc2 hi hg hw ht he
/-- a new thing comes to the end of a list of one's own things -/
theorem bm_appW {i : Nat} {ss : List Sl} {m : Option γ} {rs : γ → Sl} {k : γ → Option T} (hi : Γ[i]? = some (.ol ss)) (h : EvW K te Γ m rs) (hk : ∀ a, BM K u (Γ.set i (.ol (ss ++ [rs a]))) (k a) hd) :
    BM K (tSeq (tDrop (tBM K "list" rAppend (tVar i) (tCons te tNil))) u) Γ (m.bind fun a => if ss.length < sizeLine then k a else none) hd := fun o e F0 B F σ H D ok q => by
  obtain ⟨a, e1, e⟩ := Option.bind_eq_some_iff.mp e
  split at e
  case isFalse => cases e
  rename_i hl
  obtain ⟨v, m, a1, a2, a3, nd, a4⟩ := ok.mod hi
  obtain ⟨p, vs, fps, rfl, rfl, b1, b2⟩ := a2
  have hlen : vs.length = ss.length := by have := (slrl_iff.mp b2).len; rw [List.length_map] at this; exact this.symm
  refine ⟨_, a1, ⟨Or.inl ⟨rfl, _, Or.inl (Or.inl b1)⟩, ?_⟩⟩
  refine h a e1 F0 B F σ H ok _ fun v F1 H1 fr x1 r1 ndr nw => ⟨p, vs, v, rfl, rfl, x1.hh _ _ b1, by rw [hlen]; exact hl, ?_⟩
  obtain ⟨n1, n2⟩ := List.nodup_cons.mp nd
  have fp1 : F1 p = none := (x1.old p _ b1).trans (a3 p List.mem_cons_self).1
  have domf : ∀ z ∈ fps, ∃ o, H z = some o := fun z hz => (slrl_iff.mp b2).dom z hz
  have frp : ∀ z ∈ fr, z ≠ p := fun z hz e => by
    have := (nw z hz).1
    rw [e, b1] at this; cases this
  have fpp : ∀ z ∈ fps, z ≠ p := fun z hz e => n1 (e ▸ hz)
  have z := a4 F1 (upd H1 p (.lst (vs ++ [v]))) (.ol (ss ++ [rs a])) (some (.ref p)) (p :: (fps ++ (fr ++ []))) x1.ff (fun y o ho => by
    rw [upd_ne (fun e => by rw [e, fp1] at ho; cases ho)]
    exact x1.fh y o ho) (fun y o ny ho => by
    rw [upd_ne (fun e => ny (by rw [e]; exact List.mem_cons_self))]
    exact x1.hh y o ho) (fun y o ho _ => x1.old y o ho) ⟨p, vs ++ [v], _, rfl, rfl, upd_same, slrl_iff.mpr (by
      rw [List.map_append]
      refine SlRs.append ((slrl_iff.mp b2).mono x1.ff fun y hy => ?_) (.cons (r1.mono (Ex.refl _) fun y hy => upd_ne (frp y hy)) .nil)
      rw [upd_ne (fpp y hy)]
      obtain ⟨o, ho⟩ := domf y hy
      rw [ho]; exact x1.hh y o ho)⟩ (by
    rw [List.append_nil, List.nodup_cons, List.mem_append, List.nodup_append]
    refine ⟨fun z => z.elim n1 fun z => frp p z rfl, n2, ndr, fun x hx y hy e => ?_⟩
    subst e
    obtain ⟨o, ho⟩ := domf x hx
    rw [(nw x hy).1] at ho; cases ho) (fun y hy => by
    rw [List.append_nil] at hy
    rcases List.mem_cons.mp hy with rfl | hy
    · exact .inl List.mem_cons_self
    · rcases List.mem_append.mp hy with hy | hy
      · exact .inl (List.mem_cons_of_mem _ hy)
      · exact .inr (nw y hy).1) fun y hy => by
    rw [List.append_nil] at hy
    rcases List.mem_cons.mp hy with rfl | hy
    · exact fp1
    · rcases List.mem_append.mp hy with hy | hy
      · obtain ⟨o, ho⟩ := domf y hy
        exact (x1.old y o ho).trans (a3 y (List.mem_cons_of_mem _ hy)).1
      · exact (nw y hy).2
  rw [set_id a1] at z
  exact hk a o e F0 B F1 σ _ D z q
theorem bm_app2 {i : Nat} {L : List (List α)} {m : Option (List α)} {k : List (List α) → Option T} (hi : Γ[i]? = some (.o2 L)) (h : EvN K te Γ m) (hk : ∀ L', BM K u (Γ.set i (.o2 L')) (k L') hd) :
    BM K (tSeq (tDrop (tBM K "list" rAppend (tVar i) (tCons te tNil))) u) Γ (m.bind fun a => (apM L a).bind k) hd := by
  refine bm_eq (bm_appW (k := fun a => k (L ++ [a])) hi (ew_n h) fun a => ?_) ?_
  · have := hk (L ++ [a])
    have e : (Sl.o2 (L ++ [a]) : Sl) = .ol (L.map (fun l => Sl.own (l.map enc)) ++ [Sl.o a]) := by
      show Sl.ol _ = _
      rw [List.map_append]; rfl
    rw [e] at this
    exact this
  · congr 1
    funext a
    unfold apM
    rw [List.length_map]
    split <;> rfl
/-- an own list goes to the end of a list of own lists -/
theorem bm_appV {i j : Nat} {ss : List Sl} {s : Sl} {m : Option T} (hij : i ≠ j) (hi : Γ[i]? = some (.ol ss)) (hj : Γ[j]? = some s) (h0 : s ≠ .no) (hk0 : ∀ w, s ≠ .kn w .no) (hk : BM K u ((Γ.set j .no).set i (.ol (ss ++ [s]))) m hd) :
    BM K (tSeq (tDrop (tBM K "list" rAppend (tVar i) (tCons (tVar j) tNil))) u) Γ (if ss.length < sizeLine then m else none) hd := fun o e F0 B F σ H D ok q => by
  split at e
  case isFalse => cases e
  rename_i hl
  obtain ⟨vj, ej, k1⟩ := ok.take hj
  obtain ⟨w, rfl⟩ : ∃ w, vj = some w := by
    obtain ⟨fp, s1, _⟩ := k1.sl
    cases s1 with
    | cons s1 _ => exact slr_some s1 h0 hk0
  have hi' : (s :: Γ.set j .no)[i + 1]? = some (.ol ss) := by
    show (Γ.set j .no)[i]? = _
    rw [List.getElem?_set_ne (Ne.symm hij)]; exact hi
  obtain ⟨v, m, a1, a2, a3, nd, a4⟩ := k1.mod hi'
  obtain ⟨p, vs, fps, rfl, rfl, b1, b2⟩ := a2
  have a1' : σ[i]? = some (some (.ref p)) := a1
  have hlen : vs.length = ss.length := by have := (slrl_iff.mp b2).len; rw [List.length_map] at this; exact this.symm
  obtain ⟨n1, n2⟩ := List.nodup_cons.mp nd
  refine ⟨_, a1', ⟨Or.inl ⟨rfl, _, Or.inl (Or.inl b1)⟩, w, ej, p, vs, w, rfl, rfl, b1, by rw [hlen]; exact hl, ?_⟩⟩
  have fp1 : F p = none := (a3 p List.mem_cons_self).1
  have z := a4 F (upd H p (.lst (vs ++ [w]))) (.ol (ss ++ [.kn w .no])) (some (.ref p)) (p :: (fps ++ ([] ++ []))) (Ex.refl F) (fun y o ho => by
    rw [upd_ne (fun e => by rw [e, fp1] at ho; cases ho)]
    exact ok.fh y o ho) (fun y o ny ho => by
    rw [upd_ne (fun e => ny (by rw [e]; exact List.mem_cons_self))]
    exact ho) (fun y o ho _ => rfl) ⟨p, vs ++ [w], _, rfl, rfl, upd_same, slrl_iff.mpr (by
      rw [List.map_append]
      refine SlRs.append ((slrl_iff.mp b2).mono (Ex.refl F) fun y hy => upd_ne fun e => n1 (e ▸ hy)) (.cons ⟨rfl, rfl⟩ .nil))⟩ (by
    rw [List.append_nil, List.append_nil]; exact nd) (fun y hy => by
    rw [List.append_nil, List.append_nil] at hy; exact .inl hy) (fun y hy => by
    rw [List.append_nil, List.append_nil] at hy; exact (a3 y hy).1)
  have eσ : (some w :: σ).set (i + 1) (some (.ref p)) = some w :: σ := set_id a1
  rw [eσ] at z
  refine hk o e F0 B F σ _ D (z.re fun fq h nd => ?_) q
  have hs : (s :: Γ.set j .no).set (i + 1) (.ol (ss ++ [.kn w .no])) = s :: (Γ.set j .no).set i (.ol (ss ++ [.kn w .no])) := rfl
  rw [hs] at h
  cases h with
  | @cons _ _ f0 _ _ f1 hx h =>
    have hlt : i < Γ.length := by
      obtain ⟨hlt, _⟩ := List.getElem?_eq_some_iff.mp hi
      exact hlt
    have hat : ((Γ.set j .no).set i (.ol (ss ++ [.kn w .no])))[i]? = some (.ol (ss ++ [.kn w .no])) := by
      rw [List.getElem?_set_self (by rw [List.length_set]; exact hlt)]
    obtain ⟨x, l, m, r, c1, rfl, c3, c4⟩ := h.at hat
    obtain ⟨p', vs', fps', rfl, rfl, d1, d2⟩ := c3
    have d2' := slrl_iff.mp d2
    have hsl : ss.length = (vs'.map some).length - 1 := by
      have := d2'.len; simp at this; simp; omega
    rcases List.eq_nil_or_concat vs' with e0 | ⟨us, uu, e0⟩
    · subst e0
      have := d2'.len; simp at this
    · have e0' : vs' = us ++ [uu] := by rw [e0]; simp
      subst e0'
      rw [List.map_append] at d2'
      obtain ⟨fa, fb, rfl, t1, t2⟩ := SlRs.split (by have := d2'.len; simp at this; rw [List.length_map]; omega) d2'
      cases t2 with
      | @cons _ _ g1 _ _ g2 t2 t3 =>
        cases t3
        obtain ⟨eu, rfl⟩ := t2
        have new : SlRs K F (upd H p (.lst (vs ++ [w]))) (ss ++ [s]) (us.map some ++ [some uu]) (fa ++ (f0 ++ [])) := t1.append (.cons (by
          have : some uu = some w := eu
          rw [this]; exact hx) .nil)
        have z2 := c4 F (upd H p (.lst (vs ++ [w]))) (.ol (ss ++ [s])) (some (.ref p')) (p' :: (fa ++ (f0 ++ []))) (Ex.refl F) (fun _ _ => rfl) ⟨p', us ++ [uu], _, rfl, rfl, d1, slrl_iff.mpr (by rw [List.map_append]; exact new)⟩
        rw [set_id c1, List.set_set] at z2
        refine ⟨_, z2, ?_, fun y hy => ?_⟩
        · have pm : (l ++ (p' :: (fa ++ (f0 ++ []))) ++ r).Perm (f0 ++ (l ++ (p' :: (fa ++ ([] ++ []))) ++ r)) := by
            simp only [List.append_nil]
            have e1 : l ++ p' :: (fa ++ f0) ++ r = (l ++ p' :: fa) ++ (f0 ++ r) := by simp
            have e2 : l ++ p' :: fa ++ r = (l ++ p' :: fa) ++ r := rfl
            rw [e1, e2]
            exact (List.perm_append_comm_assoc (l ++ p' :: fa) f0 r)
          exact pm.nodup_iff.mpr nd
        · simp only [List.append_nil, List.mem_append, List.mem_cons] at hy ⊢
          rcases hy with (hy | rfl | hy | hy) | hy <;> simp [*]
/-- own things in a new thing, read as if they stayed -/
theorem ew_borrow {β : Type} [Enc β] [Sc β] {i : Nat} {s : Sl} {d : D} {m : Option (List β)} (hi : Γ[i]? = some s) (hd' : toD s = some d) (h : EvW K te (Γ.set i (.fz d)) m (fun a => .o a)) : EvW K te Γ m (fun a => .o a) := ew_n (en_borrow hi hd' (en_w h))
theorem sl_sc {β : Type} [Enc β] [Sc β] {F F' H : Hp} : ∀ {L : List (List β)} {vs : List (Option V)} {fp : List Addr}, SlRs K F H (L.map fun l => Sl.own (l.map enc)) vs fp → SlRs K F' H (L.map fun l => Sl.own (l.map enc)) vs fp
  | [], vs, fp, h => by cases h; exact .nil
  | x :: L, vs, fp, h => by
    rw [List.map_cons] at h ⊢
    cases h with
    | cons h t =>
      obtain ⟨p, ws, rfl, rfl, h1, h2⟩ := h
      exact .cons ⟨p, ws, rfl, rfl, h1, reps_sc h2⟩ (sl_sc t)
theorem ew_borrow2 {β : Type} [Enc β] [Sc β] {i : Nat} {s : Sl} {d : D} {m : Option (List (List β))} (hi : Γ[i]? = some s) (hd' : toD s = some d) (h : EvW K te (Γ.set i (.fz d)) m (fun a => .o2 a)) : EvW K te Γ m (fun a => .o2 a) := fun a e F0 B F σ H k Q q => by
  obtain ⟨F1, x, k'⟩ := k.freezeS hi hd'
  refine h a e F0 B F1 σ H k' Q fun v F' H' fr y r nd nw => q v F H' fr ⟨Ex.refl F, y.hh, k.fh.trans y.hh, fun _ _ _ => rfl⟩ ?_ nd fun p hp => ⟨(nw p hp).1, none_of k.fh (nw p hp).1⟩
  obtain ⟨p, vs, fps, rfl, ev, h1, h2⟩ := r
  exact ⟨p, vs, fps, rfl, ev, h1, slrl_iff.mpr (sl_sc (slrl_iff.mp h2))⟩
/-- a part of a list of one's own things, told by its number -/
theorem slrl_at {F H : Hp} {ss : List Sl} {vs : List V} {fps : List Addr} (h : SlRL K F H ss (vs.map some) fps) {j : Nat} {s : Sl} (hj : ss[j]? = some s) : ∃ (v : V) (l m r : List Addr), vs[j]? = some v ∧ fps = l ++ m ++ r ∧ SlR K F H s (some v) m ∧
    ∀ (F' H' : Hp) (s' : Sl) (m' : List Addr), Ex F F' → (∀ p ∈ l ++ r, H' p = H p) → SlR K F' H' s' (some v) m' → SlRL K F' H' (ss.set j s') (vs.map some) (l ++ m' ++ r) := by
  obtain ⟨v, l, m, r, a1, a2, a3, a4⟩ := (slrl_iff.mp h).at hj
  rw [List.getElem?_map] at a1
  obtain ⟨w, e1, e2⟩ := Option.map_eq_some_iff.mp a1
  subst e2
  refine ⟨w, l, m, r, e1, a2, a3, fun F' H' s' m' x k q => ?_⟩
  have z := a4 F' H' s' (some w) m' x k q
  have e : (vs.map some).set j (some w) = vs.map some := set_id (by rw [List.getElem?_map]; exact a1)
  rw [e] at z
  exact slrl_iff.mpr z
/-- xs[i][j] = .. and the like: the cell of the j-th own list of a name -/
theorem Ok.cell2 {F0 B F : Hp} {σ : L2.St} {H : Hp} {i j : Nat} {L : List (List α)} {l : List α} (k : Ok K F0 B F Γ σ H) (hi : Γ[i]? = some (.o2 L)) (hj : L[j]? = some l) : ∃ (p q : Addr) (vs ws : List V), σ[i]? = some (some (.ref p)) ∧ H p = some (.lst vs) ∧ vs.length = L.length ∧ vs[j]? = some (.ref q) ∧ H q = some (.lst ws) ∧ Reps K F ws (l.map enc) ∧ F q = none ∧
    ∀ F' H' ws' (l' : List α), Ext F H F' H' → Reps K F' ws' (l'.map enc) → Ok K F0 B F' (Γ.set i (.o2 (L.set j l'))) σ (upd H' q (.lst ws')) := by
  obtain ⟨v, m, a1, a2, a3, nd, a4⟩ := k.mod hi
  obtain ⟨p, vs, fps, rfl, rfl, b1, b2⟩ := a2
  have hj' : (L.map fun l => Sl.own (l.map enc))[j]? = some (.own (l.map enc)) := by rw [List.getElem?_map, hj]; rfl
  obtain ⟨v, fl, m, fr, c1, rfl, c3, c4⟩ := slrl_at b2 hj'
  obtain ⟨q, ws, rfl, ev, d1, d2⟩ := c3
  cases ev
  have hlen : vs.length = L.length := by have := (slrl_iff.mp b2).len; rw [List.length_map, List.length_map] at this; exact this.symm
  have qm : q ∈ p :: (fl ++ [q] ++ fr) := by simp
  have fq := (a3 q qm).1
  obtain ⟨n1, n2⟩ := List.nodup_cons.mp nd
  have pq : p ≠ q := fun e => n1 (by rw [e]; simp)
  refine ⟨p, q, vs, ws, a1, b1, hlen, c1, d1, d2, fq, fun F' H' ws' l' x r => ?_⟩
  have f' : F' q = none := (x.old q _ d1).trans fq
  have ne : ∀ y ∈ fl ++ fr, y ≠ q := fun y hy e => by
    subst e
    rw [List.nodup_append, List.nodup_append] at n2
    rcases List.mem_append.mp hy with z | z
    · exact n2.1.2.2 y z y (by simp) rfl
    · exact n2.2.2 y (by simp) y z rfl
  have domf : ∀ y ∈ fl ++ [q] ++ fr, ∃ o, H y = some o := fun y hy => (slrl_iff.mp b2).dom y hy
  have z := a4 F' (upd H' q (.lst ws')) (.o2 (L.set j l')) (some (.ref p)) (p :: (fl ++ [q] ++ fr)) x.ff (fun y o ho => by
    rw [upd_ne (fun e => by rw [e, f'] at ho; cases ho)]
    exact x.fh y o ho) (fun y o ny ho => by
    rw [upd_ne (fun e => ny (by rw [e]; exact qm))]
    exact x.hh y o ho) (fun y o ho _ => x.old y o ho) ⟨p, vs, _, rfl, rfl, by rw [upd_ne pq]; exact x.hh _ _ b1, by
      have c := c4 F' (upd H' q (.lst ws')) (.own (l'.map enc)) [q] x.ff (fun y hy => by
        rw [upd_ne (ne y hy)]
        obtain ⟨o, ho⟩ := domf y (by simp at hy ⊢; rcases hy with h | h <;> simp [h])
        rw [ho]; exact x.hh y o ho) ⟨q, ws', rfl, rfl, upd_same, r⟩
      rw [List.map_set]; exact c⟩ nd (fun y hy => .inl hy) fun y hy => by
    rcases List.mem_cons.mp hy with rfl | hy
    · exact (x.old _ _ b1).trans (a3 _ List.mem_cons_self).1
    · obtain ⟨o, ho⟩ := domf y hy
      exact (x.old y o ho).trans (a3 y (List.mem_cons_of_mem _ hy)).1
  rwa [set_id a1] at z
/-- xs[i].append(a) -/
def ap2M (L : List (List α)) (i : Int) (a : α) : Option (List (List α)) := (ixN L.length i).bind fun j => (L[j]?).bind fun l => (apM l a).map fun l' => L.set j l'
theorem bm_ap2 {r : Nat} {L : List (List α)} {mi : Option Int} {k : List (List α) → Option T} (hr : Γ[r]? = some (.o2 L)) (hi : EvM K ta Γ mi) (h : EvM K te Γ ma) (hk : ∀ L', BM K u (Γ.set r (.o2 L')) (k L') hd) :
    BM K (tSeq (tDrop (tBM K "list" rAppend (tOp (rIxL K) (tVar r) ta) (tCons te tNil))) u) Γ (mi.bind fun i => ma.bind fun a => (ap2M L i a).bind k) hd := fun o e F0 B F σ H D ok q => by
  obtain ⟨i, e1, e⟩ := Option.bind_eq_some_iff.mp e
  obtain ⟨a, e2, e⟩ := Option.bind_eq_some_iff.mp e
  obtain ⟨L', e3, e⟩ := Option.bind_eq_some_iff.mp e
  unfold ap2M at e3
  obtain ⟨j, e4, e3⟩ := Option.bind_eq_some_iff.mp e3
  obtain ⟨l, e5, e3⟩ := Option.bind_eq_some_iff.mp e3
  obtain ⟨l', e6, rfl⟩ := Option.map_eq_some_iff.mp e3
  have hl : l.length < sizeLine := by
    unfold apM at e6
    split at e6
    · assumption
    · cases e6
  unfold apM at e6
  rw [if_pos hl] at e6
  cases e6
  obtain ⟨p, q0, vs, ws, a1, a2, a3, a4, _⟩ := ok.cell2 hr e5
  refine ⟨_, a1, ?_⟩
  refine hi i e1 F0 B F σ H ok _ fun w F1 H1 x1 r1 => ⟨p, vs, i, .ref q0, rfl, r1.int_inv, Evl.sq_of (x1.hh _ _ a2), by unfold atI; rw [a3, e4]; exact a4, ?_⟩
  have ok1 := ok.ext x1
  obtain ⟨p', q1, vs', ws', b1, b2, b3, b4, b5, b6, b7, b8⟩ := ok1.cell2 hr e5
  rw [a1] at b1; cases b1
  have ev : vs' = vs := by
    have := x1.hh _ _ a2
    rw [b2] at this; cases this; rfl
  subst ev
  rw [a4] at b4; cases b4
  refine ⟨Or.inl ⟨rfl, _, Or.inl (Or.inl b5)⟩, ?_⟩
  refine h a e2 F0 B F1 σ H1 ok1 _ fun v F2 H2 x2 r2 => ⟨q0, ws', v, rfl, rfl, x2.hh _ _ b5, by rw [b6.len, List.length_map]; exact hl, ?_⟩
  have z := b8 F2 H2 (ws' ++ [v]) (l ++ [a]) x2 (by rw [List.map_append]; exact (b6.mono x2.ff).append (.cons r2 .nil))
  exact hk _ o e F0 B F2 σ _ D z q
end
end M
/-! M17: a loop over a list of own lists that changes them -/
namespace M
open PySem PySem.Spec PyProof.Rows L2
open Evl (Ex)
open Enc (enc)
section
variable {K : PySem.W.Frag} {Γ Γ' : List Sl} {α β γ δ : Type} [Enc α] {ta tb tc te tp : TE} {ma : Option α} {T A S R : Type} {hd : Hdl T} {u w : TS}
open Classical in
/-- one of the own lists goes to a name, the others stand beside -/
theorem Ok.lend {F0 B F : Hp} {σ : L2.St} {H : Hp} {l x j : Nat} {L : List (List α)} {a : List α} {p : Addr} {vs : List V} {s : Sl} (k : Ok K F0 B F Γ σ H) (hl : Γ[l]? = some (.o2 L)) (hj : L[j]? = some a) (hx : Γ[x]? = some s) (hlx : l ≠ x) (ep : σ[l]? = some (some (.ref p))) (ev : H p = some (.lst vs)) :
    ∃ (q : Addr) (B' : Hp), vs[j]? = some (.ref q) ∧ Ok K F B' F ((Γ.set l (.kn (.ref p) .no)).set x (.kn (.ref q) (.o a))) (σ.set x (some (.ref q))) H ∧
      ∀ (F' : Hp) (σ' : L2.St) (H' : Hp) (a' : List α) (Γr : List Sl), Γr[l]? = some (.kn (.ref p) .no) → Γr[x]? = some (.kn (.ref q) (.o a')) → Ok K F B' F' Γr σ' H' → Ok K F0 B F' ((Γr.set x .no).set l (.o2 (L.set j a'))) σ' H' ∧ H' p = some (.lst vs) ∧ σ'[l]? = some (some (.ref p)) := by
  obtain ⟨fp, s1, s2, s3⟩ := k.sl
  obtain ⟨v, fl, m, fr, a1, rfl, a3, a4⟩ := s1.at hl
  rw [ep] at a1; cases a1
  obtain ⟨p', vs', fps, rfl, ev', b1, b2⟩ := a3
  cases ev'
  rw [ev] at b1; cases b1
  have hj' : (L.map fun l => Sl.own (l.map enc))[j]? = some (.own (a.map enc)) := by rw [List.getElem?_map, hj]; rfl
  obtain ⟨v, gl, m, gr, c1, rfl, c3, c4⟩ := slrl_at b2 hj'
  obtain ⟨q, ws, rfl, evq, d1, d2⟩ := c3
  cases evq
  -- what stands beside from now on
  let S : Addr → Prop := fun y => y = p ∨ y ∈ gl ++ gr
  let B' : Hp := fun y => if S y then H y else B y
  have z := a4 F H (.kn (.ref p) .no) (some (.ref p)) [] (Ex.refl F) (fun _ _ => rfl) ⟨rfl, rfl⟩
  rw [set_id ep] at z
  -- all addresses are unlike
  have nd : (fl ++ (p :: (gl ++ [q] ++ gr)) ++ fr).Nodup := s2
  have out : ∀ y ∈ fl ++ [] ++ fr, ¬ S y ∧ y ≠ q := fun y hy => by
    rw [List.append_nil] at hy
    rw [List.nodup_append, List.nodup_append] at nd
    obtain ⟨⟨n1, n2, n3⟩, n4, n5⟩ := nd
    have inm : ∀ y, (y = p ∨ y ∈ gl ++ gr ∨ y = q) → y ∈ p :: (gl ++ [q] ++ gr) := fun y h => by
      simp only [List.mem_append, List.mem_cons, List.not_mem_nil, or_false] at h ⊢
      rcases h with h | (h | h) | h <;> simp [h]
    rcases List.mem_append.mp hy with h | h
    · refine ⟨fun s => ?_, fun e => n3 y h y (inm y (.inr (.inr e))) rfl⟩
      rcases s with s | s
      · exact n3 y h y (inm y (.inl s)) rfl
      · exact n3 y h y (inm y (.inr (.inl s))) rfl
    · refine ⟨fun s => ?_, fun e => n5 y (List.mem_append_right _ (inm y (.inr (.inr e)))) y h rfl⟩
      rcases s with s | s
      · exact n5 y (List.mem_append_right _ (inm y (.inl s))) y h rfl
      · exact n5 y (List.mem_append_right _ (inm y (.inr (.inl s)))) y h rfl
  have qS : ¬ S q := fun s => by
    rw [List.nodup_append, List.nodup_append] at nd
    have n := nd.1.2.1
    rw [List.nodup_cons, List.nodup_append, List.nodup_append] at n
    rcases s with s | s
    · exact n.1 (by rw [← s]; simp)
    · rcases List.mem_append.mp s with h | h
      · exact n.2.1.2.2 q h q (by simp) rfl
      · exact n.2.2.2 q (by simp) q h rfl
  have memS : ∀ y, S y → y ∈ fl ++ (p :: (gl ++ [q] ++ gr)) ++ fr := fun y s => by
    rcases s with s | s
    · simp [s]
    · rcases List.mem_append.mp s with h | h <;> simp [h]
  have qm : q ∈ fl ++ (p :: (gl ++ [q] ++ gr)) ++ fr := by simp
  have hB : ∀ y, S y → B y = none := fun y s => (s3 y (memS y s)).2
  have hF : ∀ y, S y → F y = none := fun y s => (s3 y (memS y s)).1
  have ok0 : Ok K F B' F (.kn (.ref q) (.o a) :: Γ.set l (.kn (.ref p) .no)) (some (.ref q) :: σ) H := by
    refine ⟨Ex.refl F, k.fh, fun y o e => ?_, fun _ _ _ => rfl, [q] ++ (fl ++ [] ++ fr), .cons ⟨rfl, q, ws, rfl, rfl, d1, d2⟩ z, ?_, fun y hy => ?_⟩
    · by_cases s : S y
      · have : B' y = H y := if_pos s
        rw [this] at e; exact e
      · have : B' y = B y := if_neg s
        rw [this] at e; exact k.bh y o e
    · rw [List.append_nil, List.nodup_append]
      refine ⟨by simp, ?_, fun y hy y' hy' e => ?_⟩
      · rw [List.nodup_append, List.nodup_append] at nd
        rw [List.nodup_append]
        exact ⟨nd.1.1, nd.2.1, fun y hy y' hy' => nd.2.2 y (List.mem_append_left _ hy) y' hy'⟩
      · rw [List.mem_singleton.mp hy] at e
        exact (out y' (by rw [List.append_nil]; exact hy')).2 e.symm
    · rcases List.mem_append.mp hy with hy | hy
      · rw [List.mem_singleton.mp hy]
        exact ⟨(s3 q qm).1, (if_neg qS : B' q = B q).trans (s3 q qm).2⟩
      · have o := out y hy
        rw [List.append_nil] at hy
        have hm : y ∈ fl ++ (p :: (gl ++ [q] ++ gr)) ++ fr := by
          rcases List.mem_append.mp hy with h | h <;> simp [h]
        exact ⟨(s3 y hm).1, (if_neg o.1 : B' y = B y).trans (s3 y hm).2⟩
  have hx' : (Γ.set l (.kn (.ref p) .no))[x]? = some s := by rw [List.getElem?_set_ne hlx]; exact hx
  refine ⟨q, B', c1, ok0.mv hx', fun F' σ' H' a' Γr hrl hrx k' => ?_⟩
  obtain ⟨fq, t1, t2, t3⟩ := k'.sl
  obtain ⟨v, hl', m', hr', e1, rfl, e3, e4⟩ := t1.at hrx
  obtain ⟨ev1, q1, ws1, rfl, ev2, g1, g2⟩ := e3
  rw [ev1] at ev2; cases ev2
  subst ev1
  have z1 := e4 F' H' .no (some (.ref q)) [] (Ex.refl F') (fun _ _ => rfl) rfl
  rw [set_id e1] at z1
  have hrl' : (Γr.set x .no)[l]? = some (.kn (.ref p) .no) := by rw [List.getElem?_set_ne (Ne.symm hlx)]; exact hrl
  obtain ⟨v, ul, um, ur, f1, f2, f3, f4⟩ := z1.at hrl'
  obtain ⟨evp, eum⟩ := f3
  have eum' : um = [] := eum
  subst eum'
  subst evp
  have eσ := f1
  have keepS : ∀ y, S y → H' y = H y := fun y s => by
    have : B' y = H y := if_pos s
    obtain ⟨o, ho⟩ := s1.dom y (memS y s)
    rw [ho]; exact k'.bh y o (this.trans ho)
  have FS : ∀ y, S y → F' y = none := fun y s => by
    have : B' y = H y := if_pos s
    obtain ⟨o, ho⟩ := s1.dom y (memS y s)
    exact (k'.nb y o (this.trans ho)).trans (hF y s)
  have hp : H' p = some (.lst vs) := (keepS p (.inl rfl)).trans ev
  have new := c4 F' H' (.own (a'.map enc)) [q] k'.f0 (fun y hy => keepS y (.inr hy)) ⟨q, ws1, rfl, rfl, g1, g2⟩
  have new2 : SlR K F' H' (.o2 (L.set j a')) (some (.ref p)) (p :: (gl ++ [q] ++ gr)) := ⟨p, vs, _, rfl, rfl, hp, by rw [List.map_set]; exact new⟩
  have z2 := f4 F' H' (.o2 (L.set j a')) (some (.ref p)) _ (Ex.refl F') (fun _ _ => rfl) new2
  rw [set_id eσ] at z2
  have notS : ∀ y ∈ hl' ++ [q] ++ hr', ¬ S y := fun y hy s => by
    have h1 := (t3 y hy).2
    have : B' y = H y := if_pos s
    obtain ⟨o, ho⟩ := s1.dom y (memS y s)
    rw [this, ho] at h1; cases h1
  have sub1 : ∀ y ∈ ul ++ ur, y ∈ hl' ++ hr' := fun y hy => by
    have e : hl' ++ [] ++ hr' = ul ++ [] ++ ur := f2
    rw [List.append_nil, List.append_nil] at e
    rw [e]; exact hy
  refine ⟨⟨k.f0.trans k'.f0, k'.fh, fun y o e => ?_, fun y o e => ?_, ul ++ (p :: (gl ++ [q] ++ gr)) ++ ur, z2, ?_, fun y hy => ?_⟩, hp, eσ⟩
  · have ns : ¬ S y := fun s => by rw [hB y s] at e; cases e
    exact k'.bh y o ((if_neg ns : B' y = B y).trans e)
  · have ns : ¬ S y := fun s => by rw [hB y s] at e; cases e
    exact (k'.nb y o ((if_neg ns : B' y = B y).trans e)).trans (k.nb y o e)
  · have ndm : (p :: (gl ++ [q] ++ gr)).Nodup := by
      rw [List.nodup_append, List.nodup_append] at nd
      exact nd.1.2.1
    have ndo : (hl' ++ [q] ++ hr').Nodup := t2
    have pm : (ul ++ (p :: (gl ++ [q] ++ gr)) ++ ur).Perm ((p :: (gl ++ [q] ++ gr)) ++ (ul ++ ur)) := by
      rw [List.append_assoc]
      exact List.perm_append_comm_assoc ul _ ur
    rw [pm.nodup_iff, List.nodup_append]
    have e : hl' ++ [] ++ hr' = ul ++ [] ++ ur := f2
    rw [List.append_nil, List.append_nil] at e
    rw [← e]
    rw [List.nodup_append, List.nodup_append] at ndo
    obtain ⟨⟨n1, n2, n3⟩, n4, n5⟩ := ndo
    refine ⟨ndm, List.nodup_append.mpr ⟨n1, n4, fun y hy y' hy' => n5 y (List.mem_append_left _ hy) y' hy'⟩, fun y hy y' hy' e => ?_⟩
    subst e
    have hin : y ∈ hl' ++ [q] ++ hr' := by
      rcases List.mem_append.mp hy' with h | h <;> simp [h]
    have ns := notS y hin
    have nq : y ≠ q := fun e => by
      subst e
      rcases List.mem_append.mp hy' with h | h
      · exact n3 y h y (by simp) rfl
      · exact n5 y (by simp) y h rfl
    rcases List.mem_cons.mp hy with h | h
    · exact ns (.inl h)
    · rcases List.mem_append.mp h with h | h
      · rcases List.mem_append.mp h with h | h
        · exact ns (.inr (List.mem_append_left _ h))
        · exact nq (List.mem_singleton.mp h)
      · exact ns (.inr (List.mem_append_right _ h))
  · have case1 : ∀ y ∈ hl' ++ [q] ++ hr', F' y = none ∧ B y = none := fun y hy => by
      have h := t3 y hy
      exact ⟨h.1, (if_neg (notS y hy) : B' y = B y).symm.trans h.2⟩
    rcases List.mem_append.mp hy with hy | hy
    · rcases List.mem_append.mp hy with hy | hy
      · have := sub1 y (List.mem_append_left _ hy)
        exact case1 y (by rcases List.mem_append.mp this with h | h <;> simp [h])
      · rcases List.mem_cons.mp hy with h | h
        · exact ⟨FS y (.inl h), hB y (.inl h)⟩
        · rcases List.mem_append.mp h with h | h
          · rcases List.mem_append.mp h with h | h
            · exact ⟨FS y (.inr (List.mem_append_left _ h)), hB y (.inr (List.mem_append_left _ h))⟩
            · rw [List.mem_singleton.mp h]
              exact case1 q (by simp)
          · exact ⟨FS y (.inr (List.mem_append_right _ h)), hB y (.inr (List.mem_append_right _ h))⟩
    · have := sub1 y (List.mem_append_right _ hy)
      exact case1 y (by rcases List.mem_append.mp this with h | h <;> simp [h])
theorem setSame {ss : List Sl} {i : Nat} {a : Sl} (h : ss[i]? = some a) : ss.set i a = ss := by
  obtain ⟨hl, hv⟩ := List.getElem?_eq_some_iff.mp h
  rw [← hv]
  exact List.set_getElem_self hl
def mapO {β : Type} (f : α → Option β) : List α → Option (List β)
  | [] => some []
  | x :: xs => (f x).bind fun y => (mapO f xs).bind fun ys => some (y :: ys)
/-- for x in xs: a change of x -/
theorem bm_for2 {l x : Nat} {L : List (List α)} {s : Sl} {tb : TS} {f : List α → Option (List α)} {k : List (List α) → Option T} (hl : Γ[l]? = some (.o2 L)) (hx : Γ[x]? = some s) (hlx : l ≠ x)
    (hb : ∀ p q a, BM K tb ((Γ.set l (.kn (.ref p) .no)).set x (.kn (.ref q) (.o a))) (f a) (hdCN K (fun a' => (Γ.set l (.kn (.ref p) .no)).set x (.kn (.ref q) (.o a')))))
    (hk : ∀ L', BM K u ((Γ.set x .no).set l (.o2 L')) (k L') hd) :
    BM K (tSeq (tFor (iList K (tVar l)) (gName x) tb) u) Γ ((mapO f L).bind k) hd := fun o e F0 B F σ H D ok q => by
  obtain ⟨L', e1, e⟩ := Option.bind_eq_some_iff.mp e
  have hll : l < Γ.length := (List.getElem?_eq_some_iff.mp hl).1
  have hxl : x < Γ.length := (List.getElem?_eq_some_iff.mp hx).1
  obtain ⟨v, m, a1, a2, a3, nd, a4⟩ := ok.mod hl
  obtain ⟨p, vs, fps, rfl, rfl, b1, b2⟩ := a2
  have hlen : vs.length = L.length := by have := (slrl_iff.mp b2).len; rw [List.length_map, List.length_map] at this; exact this.symm
  obtain ⟨_, _, okx⟩ := ok.take hx
  have okx := okx.back1
  have el : (Γ.set x .no)[l]? = some (.o2 L) := by rw [List.getElem?_set_ne (Ne.symm hlx)]; exact hl
  refine ⟨_, a1, p, rfl, ⟨vs, Evl.sq_of b1⟩, ?_⟩
  refine ⟨fun i m σ H => m = L.length - i ∧ i ≤ L.length ∧ ∃ F2 M R, Ok K F0 B F2 ((Γ.set x .no).set l (.o2 M)) σ H ∧ σ[l]? = some (some (.ref p)) ∧ H p = some (.lst vs) ∧ M.length = L.length ∧ M.drop i = L.drop i ∧ mapO f (L.drop i) = some R ∧ M.take i ++ R = L',
    ⟨L.length, by simp, Nat.zero_le _, F, L, L', by rw [setSame el]; exact okx, a1, b1, rfl, rfl, by simpa using e1, by simp⟩, ?_⟩
  rintro i m σ2 H2 ⟨rfl, hi2, F2, M, R, ok2, es, ev, hM, hd', hm, ht⟩
  by_cases hlt : i < L.length
  · right
    have dr : L.drop i = L[i] :: L.drop (i + 1) := List.drop_eq_getElem_cons hlt
    rw [dr, mapO] at hm
    obtain ⟨a', ef, hm⟩ := Option.bind_eq_some_iff.mp hm
    obtain ⟨R', er, hm⟩ := Option.bind_eq_some_iff.mp hm
    cases hm
    have hMlt : i < M.length := by omega
    have drM : M.drop i = M[i] :: M.drop (i + 1) := List.drop_eq_getElem_cons hMlt
    rw [drM, dr, List.cons.injEq] at hd'
    have hMi : M[i]? = some L[i] := by rw [List.getElem?_eq_getElem hMlt, hd'.1]
    have l2 : ((Γ.set x .no).set l (.o2 M))[l]? = some (.o2 M) := List.getElem?_set_self (by rw [List.length_set]; exact hll)
    have x2 : ((Γ.set x .no).set l (.o2 M))[x]? = some .no := by rw [List.getElem?_set_ne hlx]; exact List.getElem?_set_self hxl
    obtain ⟨q', B', hq, okb, back⟩ := ok2.lend l2 hMi x2 hlx es ev
    have eG : ∀ y z : Sl, ((((Γ.set x .no).set l y).set l (.kn (.ref p) .no)).set x z) = (Γ.set l (.kn (.ref p) .no)).set x z := fun y z => by
      rw [List.set_set, List.set_comm _ _ (Ne.symm hlx), List.set_set]
    rw [eG] at okb
    refine ⟨⟨vs, .ref q', Evl.sq_of ev, hq⟩, fun σ' H' => ∃ F2 M R, Ok K F0 B F2 ((Γ.set x .no).set l (.o2 M)) σ' H' ∧ σ'[l]? = some (some (.ref p)) ∧ H' p = some (.lst vs) ∧ M.length = L.length ∧ M.drop (i + 1) = L.drop (i + 1) ∧ mapO f (L.drop (i + 1)) = some R ∧ M.take (i + 1) ++ R = L', fun σ' H' n => ⟨L.length - (i + 1), by omega, rfl, hlt, n⟩, fun v H' y => ?_⟩
    obtain ⟨rfl, y⟩ := y
    have yv := y vs (Evl.sq_of ev)
    rw [hq] at yv
    cases yv
    show tb _ (σ2.set x (some (.ref q'))) _
    refine hb p q' L[i] a' ef F2 B' F2 _ _ _ okb fun F' σ' H' k' => ?_
    have rl : ((Γ.set l (.kn (.ref p) .no)).set x (.kn (.ref q') (.o a')))[l]? = some (.kn (.ref p) .no) := by
      rw [List.getElem?_set_ne (Ne.symm hlx)]; exact List.getElem?_set_self hll
    have rx : ((Γ.set l (.kn (.ref p) .no)).set x (.kn (.ref q') (.o a')))[x]? = some (.kn (.ref q') (.o a')) := List.getElem?_set_self (by rw [List.length_set]; exact hxl)
    obtain ⟨k2, hp2, es2⟩ := back F' σ' H' a' _ rl rx k'
    have eG2 : (((Γ.set l (.kn (.ref p) .no)).set x (.kn (.ref q') (.o a'))).set x .no).set l (.o2 (M.set i a')) = (Γ.set x .no).set l (.o2 (M.set i a')) := by
      rw [List.set_set, List.set_comm _ _ hlx, List.set_set]
    rw [eG2] at k2
    have n : ∃ F2 M R, Ok K F0 B F2 ((Γ.set x .no).set l (.o2 M)) σ' H' ∧ σ'[l]? = some (some (.ref p)) ∧ H' p = some (.lst vs) ∧ M.length = L.length ∧ M.drop (i + 1) = L.drop (i + 1) ∧ mapO f (L.drop (i + 1)) = some R ∧ M.take (i + 1) ++ R = L' := by
      refine ⟨F', M.set i a', R', k2, es2, hp2, by rw [List.length_set]; exact hM, ?_, er, ?_⟩
      · rw [List.drop_set_of_lt (by omega)]; exact hd'.2
      · rw [← ht]
        have : (M.set i a').take (i + 1) = M.take i ++ [a'] := by
          rw [List.take_succ_eq_append_getElem (by rw [List.length_set]; exact hMlt), List.getElem_set_self, List.take_set_of_le (Nat.le_refl i)]
        rw [this]; simp
    exact ⟨n, n⟩
  · left
    have e5 : i = L.length := by omega
    subst e5
    rw [List.drop_length, mapO] at hm
    cases hm
    rw [List.append_nil, ← hM, List.take_length] at ht
    subst ht
    exact ⟨⟨vs, Evl.sq_of ev, by rw [hlen]; exact Nat.le_refl _⟩, hk _ o e F0 B F2 σ2 H2 D ok2 q⟩
theorem bm_appV2 {i j : Nat} {L : List (List α)} {xs : List α} {k : List (List α) → Option T} (hij : i ≠ j) (hi : Γ[i]? = some (.o2 L)) (hj : Γ[j]? = some (.o xs)) (hk : ∀ L', BM K u ((Γ.set j .no).set i (.o2 L')) (k L') hd) :
    BM K (tSeq (tDrop (tBM K "list" rAppend (tVar i) (tCons (tVar j) tNil))) u) Γ ((apM L xs).bind k) hd := by
  have h := hk (L ++ [xs])
  have e : (Sl.o2 (L ++ [xs]) : Sl) = .ol (L.map (fun l => Sl.own (l.map enc)) ++ [Sl.o xs]) := by
    show Sl.ol _ = _
    rw [List.map_append]; rfl
  rw [e] at h
  refine bm_eq (bm_appV hij hi hj (fun h => by cases h) (fun _ h => by cases h) h) ?_
  unfold apM
  rw [List.length_map]
  split <;> rfl
end
end M
/-! M18: a dict's keys -/
namespace M
open PySem PySem.Spec PyProof.Rows L2
open Evl (Ex)
open Enc (enc)
def keysI {α : Type} : List (Key × α) → Option (List Int)
  | [] => some []
  | (.inl i, _) :: r => (keysI r).map fun l => i :: l
  | (.inr _, _) :: _ => none
section
variable {K : PySem.W.Frag} {Γ : List Sl} {α : Type} [Enc α] {te : TE}
theorem keysI_eq {β : Type} : ∀ {kvs : List (Key × α)} {vs : List (Key × β)} {l : List Int}, keysI kvs = some l → vs.map (·.1) = kvs.map (·.1) → (vs.map fun kv => kV kv.1) = l.map V.int
  | [], vs, l, h, e => by
    cases h
    have : vs = [] := by simpa using e
    subst this; rfl
  | (k, a) :: r, [], l, h, e => by simp at e
  | (k, a) :: r, (k', b) :: vs, l, h, e => by
    simp only [List.map_cons, List.cons.injEq] at e
    obtain ⟨rfl, e⟩ := e
    cases k' with
    | inr x => cases h
    | inl i =>
      obtain ⟨l', h1, rfl⟩ := Option.map_eq_some_iff.mp h
      simp only [List.map_cons]
      rw [keysI_eq h1 e]; rfl
theorem ints_reps {F : Hp} (l : List Int) : Reps K F (l.map V.int) (l.map enc) := vs_reps l
theorem en_keysI {m : Option (Dk α)} (h : EvD K te Γ m) : EvN K (tCB rListD (tCons te tNil)) Γ (m.bind fun d => keysI d.kvs) := fun c e F0 B F σ H k Q q => by
  obtain ⟨d, e1, e⟩ := Option.bind_eq_some_iff.mp e
  refine h d e1 F0 B F σ H k _ fun p vs F1 H1 x1 h1 r1 => ?_
  have hk : vs.map (·.1) = d.kvs.map (·.1) := by
    have := r1.keys
    rw [this, List.map_map]; rfl
  refine ⟨p, vs, rfl, h1, fun l hl => ?_⟩
  rw [keysI_eq e hk]
  exact q l _ F1 _ (x1.trans (Ext.newOwn x1.fh hl)) (Evl.fresh_back x1.hh hl) (none_of x1.fh hl) upd_same (vs_reps _)
theorem en_keysIP {d : Dk α} (h : EvD K te Γ (some d)) : EvN K (tCB rListD (tCons te tNil)) Γ (keysI d.kvs) := en_keysI h
end
end M
/-! M19: what a changing call hands back goes to the end of a list of own things -/
namespace M
open PySem PySem.Spec PyProof.Rows L2
open Evl (Ex)
open Enc (enc)
section
variable {K : PySem.W.Frag} {Γ Γ' : List Sl} {α β γ δ : Type} [Enc α] {ta tb tc te tp : TE} {ma : Option α} {T A S R : Type} {hd : Hdl T} {u w t : TS}
theorem Ok.appFront {F0 B F : Hp} {σ : L2.St} {H : Hp} {i : Nat} {ss : List Sl} {s : Sl} {w : V} (k1 : Ok K F0 B F (s :: Γ) (some w :: σ) H) (hi : Γ[i]? = some (.ol ss)) : ∃ (p : Addr) (vs : List V), σ[i]? = some (some (.ref p)) ∧ H p = some (.lst vs) ∧ vs.length = ss.length ∧ Ok K F0 B F (Γ.set i (.ol (ss ++ [s]))) σ (upd H p (.lst (vs ++ [w]))) := by
  have hi' : (s :: Γ)[i + 1]? = some (.ol ss) := by
    exact hi
  obtain ⟨v, m, a1, a2, a3, nd, a4⟩ := k1.mod hi'
  obtain ⟨p, vs, fps, rfl, rfl, b1, b2⟩ := a2
  have a1' : σ[i]? = some (some (.ref p)) := a1
  have hlen : vs.length = ss.length := by have := (slrl_iff.mp b2).len; rw [List.length_map] at this; exact this.symm
  obtain ⟨n1, n2⟩ := List.nodup_cons.mp nd
  refine ⟨p, vs, a1', b1, hlen, ?_⟩
  have fp1 : F p = none := (a3 p List.mem_cons_self).1
  have z := a4 F (upd H p (.lst (vs ++ [w]))) (.ol (ss ++ [.kn w .no])) (some (.ref p)) (p :: (fps ++ ([] ++ []))) (Ex.refl F) (fun y o ho => by
    rw [upd_ne (fun e => by rw [e, fp1] at ho; cases ho)]
    exact k1.fh y o ho) (fun y o ny ho => by
    rw [upd_ne (fun e => ny (by rw [e]; exact List.mem_cons_self))]
    exact ho) (fun y o ho _ => rfl) ⟨p, vs ++ [w], _, rfl, rfl, upd_same, slrl_iff.mpr (by
      rw [List.map_append]
      refine SlRs.append ((slrl_iff.mp b2).mono (Ex.refl F) fun y hy => upd_ne fun e => n1 (e ▸ hy)) (.cons ⟨rfl, rfl⟩ .nil))⟩ (by
    rw [List.append_nil, List.append_nil]; exact nd) (fun y hy => by
    rw [List.append_nil, List.append_nil] at hy; exact .inl hy) (fun y hy => by
    rw [List.append_nil, List.append_nil] at hy; exact (a3 y hy).1)
  have eσ : (some w :: σ).set (i + 1) (some (.ref p)) = some w :: σ := set_id a1
  rw [eσ] at z
  refine z.re fun fq h nd => ?_
  have hs : (s :: Γ).set (i + 1) (.ol (ss ++ [.kn w .no])) = s :: (Γ).set i (.ol (ss ++ [.kn w .no])) := rfl
  rw [hs] at h
  cases h with
  | @cons _ _ f0 _ _ f1 hx h =>
    have hlt : i < Γ.length := by
      obtain ⟨hlt, _⟩ := List.getElem?_eq_some_iff.mp hi
      exact hlt
    have hat : ((Γ).set i (.ol (ss ++ [.kn w .no])))[i]? = some (.ol (ss ++ [.kn w .no])) := by
      rw [List.getElem?_set_self hlt]
    obtain ⟨x, l, m, r, c1, rfl, c3, c4⟩ := h.at hat
    obtain ⟨p', vs', fps', rfl, rfl, d1, d2⟩ := c3
    have d2' := slrl_iff.mp d2
    have hsl : ss.length = (vs'.map some).length - 1 := by
      have := d2'.len; simp at this; simp; omega
    rcases List.eq_nil_or_concat vs' with e0 | ⟨us, uu, e0⟩
    · subst e0
      have := d2'.len; simp at this
    · have e0' : vs' = us ++ [uu] := by rw [e0]; simp
      subst e0'
      rw [List.map_append] at d2'
      obtain ⟨fa, fb, rfl, t1, t2⟩ := SlRs.split (by have := d2'.len; simp at this; rw [List.length_map]; omega) d2'
      cases t2 with
      | @cons _ _ g1 _ _ g2 t2 t3 =>
        cases t3
        obtain ⟨eu, rfl⟩ := t2
        have new : SlRs K F (upd H p (.lst (vs ++ [w]))) (ss ++ [s]) (us.map some ++ [some uu]) (fa ++ (f0 ++ [])) := t1.append (.cons (by
          have : some uu = some w := eu
          rw [this]; exact hx) .nil)
        have z2 := c4 F (upd H p (.lst (vs ++ [w]))) (.ol (ss ++ [s])) (some (.ref p')) (p' :: (fa ++ (f0 ++ []))) (Ex.refl F) (fun _ _ => rfl) ⟨p', us ++ [uu], _, rfl, rfl, d1, slrl_iff.mpr (by rw [List.map_append]; exact new)⟩
        rw [set_id c1, List.set_set] at z2
        refine ⟨_, z2, ?_, fun y hy => ?_⟩
        · have pm : (l ++ (p' :: (fa ++ (f0 ++ []))) ++ r).Perm (f0 ++ (l ++ (p' :: (fa ++ ([] ++ []))) ++ r)) := by
            simp only [List.append_nil]
            have e1 : l ++ p' :: (fa ++ f0) ++ r = (l ++ p' :: fa) ++ (f0 ++ r) := by simp
            have e2 : l ++ p' :: fa ++ r = (l ++ p' :: fa) ++ r := rfl
            rw [e1, e2]
            exact (List.perm_append_comm_assoc (l ++ p' :: fa) f0 r)
          exact pm.nodup_iff.mpr nd
        · simp only [List.append_nil, List.mem_append, List.mem_cons] at hy ⊢
          rcases hy with (hy | rfl | hy | hy) | hy <;> simp [*]
theorem bm_appS {i : Nat} {L : γ → List (List α)} {m : Option γ} {b : γ → List α} {G : γ → List Sl} {k : γ → List (List α) → Option T} {L0 : List (List α)} (h0 : Γ[i]? = some (.o2 L0)) (h : EvS K te Γ m (fun c => .o (b c)) G) (hi : ∀ c, (G c)[i]? = some (.o2 (L c))) (hk : ∀ c L', BM K u ((G c).set i (.o2 L')) (k c L') hd) :
    BM K (tSeq (tDrop (tBM K "list" rAppend (tVar i) (tCons te tNil))) u) Γ (m.bind fun c => (apM (L c) (b c)).bind (k c)) hd := fun o e F0 B F σ H D ok q => by
  obtain ⟨c, e1, e⟩ := Option.bind_eq_some_iff.mp e
  obtain ⟨L', e2, e⟩ := Option.bind_eq_some_iff.mp e
  have hl : (L c).length < sizeLine := by
    unfold apM at e2
    split at e2
    · assumption
    · cases e2
  unfold apM at e2
  rw [if_pos hl] at e2
  cases e2
  obtain ⟨v0, m0, a1, a2, _⟩ := ok.mod h0
  obtain ⟨p, vs0, fps, rfl, rfl, b1, _⟩ := a2
  refine ⟨_, a1, ⟨Or.inl ⟨rfl, _, Or.inl (Or.inl b1)⟩, ?_⟩⟩
  refine h c e1 F0 B F σ H ok _ fun v F1 H1 k1 => ?_
  obtain ⟨p', vs, c1, c2, c3, c4⟩ := k1.appFront (hi c)
  rw [a1] at c1; cases c1
  refine ⟨p, vs, v, rfl, rfl, c2, by rw [c3, List.length_map]; exact hl, ?_⟩
  have e3 : (Sl.o2 (L c ++ [b c]) : Sl) = .ol ((L c).map (fun l => Sl.own (l.map enc)) ++ [Sl.o (b c)]) := by
    show Sl.ol _ = _
    rw [List.map_append]; rfl
  rw [← e3] at c4
  exact hk c _ o e F0 B F1 σ _ D c4 q
end
end M
/-! M20: a dict written out with one entry -/
namespace M
open PySem PySem.Spec PyProof.Rows L2
open Evl (Ex)
open Enc (enc)
section
variable {K : PySem.W.Frag} {Γ : List Sl} {α κ : Type} [Enc α] [KeyE κ] {tk tv : TE} {mk : Option κ} {mv : Option α}
theorem ew_dict1 (hk : EvM K tk Γ mk) (hv : EvM K tv Γ mv) : EvW K (tDisp [(tk, tv)]) Γ (mk.bind fun k => mv.bind fun v => some (Dk.mk [(KeyE.key k, v)])) (fun d => .od d) := fun d e F0 B F σ H ok Q q => by
  obtain ⟨k, e1, e⟩ := Option.bind_eq_some_iff.mp e
  obtain ⟨v, e2, e⟩ := Option.bind_eq_some_iff.mp e
  cases e
  intro p hp
  have x0 : Ext F H F (upd H p (.dK [])) := Ext.newOwn ok.fh hp
  refine hk k e1 F0 B F σ _ (ok.ext x0) _ fun a F1 H1 x1 r1 => ?_
  refine hv v e2 F0 B F1 σ H1 ((ok.ext x0).ext x1) _ fun b F2 H2 x2 r2 => ?_
  have h1 : H1 p = some (.dK []) := x1.hh _ _ upd_same
  have h2 : H2 p = some (.dK []) := x2.hh _ _ h1
  have f0 : F p = none := none_of ok.fh hp
  have f2 : F2 p = none := ((x2.old _ _ h1).trans (x1.old _ _ upd_same)).trans f0
  have xx := (x0.trans x1).trans x2
  refine ⟨h2, [(KeyE.key k, b)], by rw [KeyE.rep K F1 a k r1]; rfl, (show 1 ≤ 15 by decide), ?_⟩
  refine q (.ref p) F2 _ [p] ⟨xx.ff, fun y o ho => ?_, fun y o ho => ?_, xx.old⟩ ⟨p, [(KeyE.key k, b)], rfl, rfl, upd_same, .cons r2 .nil⟩ (by simp) fun y hy => by rw [List.mem_singleton.mp hy]; exact ⟨hp, f2⟩
  · rw [upd_ne (ne_of_none ho hp)]
    exact xx.hh y o ho
  · rw [upd_ne (fun z => by rw [z, f2] at ho; cases ho)]
    exact xx.fh y o ho
end
end M
/-! M21: list(range(n)) -/
namespace M
open PySem PySem.Spec PyProof.Rows L2
open Evl (Ex)
open Enc (enc)
section
variable {K : PySem.W.Frag} {Γ : List Sl} {ta : TE} {ma : Option Int}
theorem rgV_eq (a b : Int) : rgV a b = (rngL a b).map V.int := by
  unfold rgV rngL
  simp [List.map_map, Function.comp_def]
/-- list(range(n)), n below 16777216 -/
def lrgM (n : Int) : Option (List Int) := if 0 ≤ n ∧ n ≤ 16777216 then some (rngL 0 n) else none
theorem en_lrg (h : EvM K ta Γ ma) : EvN K (tLstRg (tRg1 ta)) Γ (ma.bind fun n => lrgM n) := fun c e F0 B F σ H k Q q => by
  obtain ⟨n, e1, e⟩ := Option.bind_eq_some_iff.mp e
  unfold lrgM at e
  split at e
  case isFalse => cases e
  cases e
  rename_i hb
  refine h n e1 F0 B F σ H k _ fun v F1 H1 x1 r1 => ⟨n, r1.int_inv, RgOk.of_le (by decide) hb.2 (by decide) hb.1, fun l hl => ?_⟩
  rw [rgV_eq]
  exact q l _ F1 _ (x1.trans (Ext.newOwn x1.fh hl)) (Evl.fresh_back x1.hh hl) (none_of x1.fh hl) upd_same (vs_reps _)
theorem en_lrgP {n : Int} (h : EvM K ta Γ (some n)) : EvN K (tLstRg (tRg1 ta)) Γ (lrgM n) := en_lrg h
end
end M
/-! M22: instances: places within things of one's own, attributes, methods, makings -/
namespace M
open PySem PySem.Spec PyProof.Rows L2
open Evl (Ex)
open Enc (enc)

theorem nodup_ins {fd l m m' r : List Addr} (h : (l ++ m ++ r).Nodup) (h1 : (fd ++ m').Nodup) (h2 : ∀ p ∈ fd ++ m', p ∈ m ∨ p ∉ l ++ r) : (fd ++ (l ++ m' ++ r)).Nodup := by
  have pm : (fd ++ (l ++ m' ++ r)).Perm ((fd ++ m') ++ (l ++ r)) := by
    rw [List.append_assoc fd]
    refine List.Perm.append_left fd ?_
    rw [List.append_assoc]
    exact List.perm_append_comm_assoc l m' r
  rw [pm.nodup_iff, List.nodup_append]
  rw [List.nodup_append, List.nodup_append] at h
  obtain ⟨⟨a1, a2, a3⟩, a4, a5⟩ := h
  refine ⟨h1, ?_, fun a ha b hb e => ?_⟩
  · rw [List.nodup_append]
    exact ⟨a1, a4, fun a ha b hb e => a5 a (List.mem_append_left _ ha) b hb e⟩
  · subst e
    rcases h2 a ha with z | z
    · rcases List.mem_append.mp hb with y | y
      · exact a3 a y a z rfl
      · exact a5 a (List.mem_append_right _ z) a y rfl
    · exact z hb
/-- a slot with a value -/
def Sl.has : Sl → Bool
  | .no => false
  | .kn _ .no => false
  | _ => true
theorem slr_has {K : PySem.W.Frag} {F H : Hp} {s : Sl} {v : Option V} {m : List Addr} (h : SlR K F H s v m) (hs : s.has = true) : ∃ w, v = some w :=
  slr_some h (fun e => by rw [e] at hs; cases hs) fun w e => by rw [e] at hs; cases hs
/-- a place: a reading that changes nothing gives what stands in a slot, or within it; and the slots when it changes -/
def Pt (K : PySem.W.Frag) (te : TE) (Γ : List Sl) (s : Sl) (G : Sl → List Sl) : Prop :=
  ∀ (F0 B F : Hp) (σ : L2.St) (H : Hp), Ok K F0 B F Γ σ H → ∃ (v : V) (m : List Addr), (∀ Q : VK, Q v H → te σ H Q) ∧ SlR K F H s (some v) m ∧ (∀ p ∈ m, F p = none ∧ B p = none) ∧ m.Nodup ∧
    ∀ (F' H' : Hp) (Δ : List Sl) (ws : L2.St) (s' : Sl) (fd m' : List Addr), Ex F F' → Ex F' H' → (∀ q o, q ∉ m → H q = some o → H' q = some o) → (∀ q o, H q = some o → q ∉ m → F' q = F q) →
      SlRs K F' H' Δ ws fd → SlR K F' H' s' (some v) m' → (fd ++ m').Nodup → (∀ p ∈ fd ++ m', p ∈ m ∨ H p = none) → (∀ p ∈ fd ++ m', F' p = none) → Ok K F0 B F' (Δ ++ G s') (ws ++ σ) H'
section
variable {K : PySem.W.Frag} {Γ Γ' : List Sl} {te ta : TE} {s t : Sl} {G : Sl → List Sl}
theorem pt_at {i : Nat} {s : Sl} {f : Sl → Sl} (hi : Γ[i]? = some (f s)) (hv : (f s).has = true) (h1 : ∀ (F H : Hp) v m, SlR K F H (f s) (some v) m → SlR K F H s (some v) m)
    (h2 : ∀ (F H F' H' : Hp) v m s' m', SlR K F H (f s) (some v) m → SlR K F' H' s' (some v) m' → SlR K F' H' (f s') (some v) m') : Pt K (tVar i) Γ s (fun s' => Γ.set i (f s')) := fun F0 B F σ H k => by
  obtain ⟨fp, g1, g2, g3⟩ := k.sl
  obtain ⟨w, l, m, r, a1, rfl, a3, a4⟩ := g1.at hi
  obtain ⟨v, rfl⟩ := slr_has a3 hv
  have nlr : ∀ p ∈ l ++ r, p ∉ m := fun p hp hm => by
    rw [List.nodup_append, List.nodup_append] at g2
    rcases List.mem_append.mp hp with z | z
    · exact g2.1.2.2 p z p hm rfl
    · exact g2.2.2 p (List.mem_append_right _ hm) p z rfl
  have inm : ∀ p ∈ m, p ∈ l ++ m ++ r := fun p hp => List.mem_append_left _ (List.mem_append_right _ hp)
  have inlr : ∀ p ∈ l ++ r, p ∈ l ++ m ++ r := fun p hp => by
    rcases List.mem_append.mp hp with z | z
    · exact List.mem_append_left _ (List.mem_append_left _ z)
    · exact List.mem_append_right _ z
  refine ⟨v, m, fun Q q => ⟨v, a1, q⟩, h1 _ _ _ _ a3, fun p hp => g3 p (inm p hp), ?_, fun F' H' Δ ws s' fd m' e1 e2 e3 e4 e5 e6 e7 e8 e9 => ?_⟩
  · rw [List.nodup_append, List.nodup_append] at g2
    exact g2.1.2.1
  · have dom : ∀ p ∈ l ++ r, ∃ o, H p = some o := fun p hp => g1.dom p (inlr p hp)
    have y := a4 F' H' (f s') (some v) m' e1 (fun p hp => by
      obtain ⟨o, ho⟩ := dom p hp
      rw [ho]; exact e3 p o (nlr p hp) ho) (h2 _ _ _ _ _ _ _ _ a3 e6)
    rw [set_id a1] at y
    refine ⟨k.f0.trans e1, e2, fun q o b => e3 q o (fun z => by rw [(g3 q (inm q z)).2] at b; cases b) (k.bh q o b), fun q o b => (e4 q o (k.bh q o b) (fun z => by rw [(g3 q (inm q z)).2] at b; cases b)).trans (k.nb q o b), fd ++ (l ++ m' ++ r), e5.append y, nodup_ins g2 e7 fun p hp => ?_, fun p hp => ?_⟩
    · rcases e8 p hp with z | z
      · exact .inl z
      · refine .inr fun hlr => ?_
        obtain ⟨o, ho⟩ := dom p hlr
        rw [z] at ho; cases ho
    · have c1 : ∀ p ∈ fd ++ m', F' p = none ∧ B p = none := fun p hp => ⟨e9 p hp, by
        rcases e8 p hp with z | z
        · exact (g3 p (inm p z)).2
        · exact none_of k.bh z⟩
      have c2 : ∀ p ∈ l ++ r, F' p = none ∧ B p = none := fun p hp => by
        obtain ⟨o, ho⟩ := dom p hp
        exact ⟨(e4 p o ho (nlr p hp)).trans (g3 p (inlr p hp)).1, (g3 p (inlr p hp)).2⟩
      rcases List.mem_append.mp hp with hp | hp
      · exact c1 p (List.mem_append_left _ hp)
      · rcases List.mem_append.mp hp with hp | hp
        · rcases List.mem_append.mp hp with hp | hp
          · exact c2 p (List.mem_append_left _ hp)
          · exact c1 p (List.mem_append_right _ hp)
        · exact c2 p (List.mem_append_right _ hp)
theorem pt_var {i : Nat} (hi : Γ[i]? = some s) (hv : s.has = true) : Pt K (tVar i) Γ s (fun s' => Γ.set i s') := pt_at (f := id) hi hv (fun _ _ _ _ h => h) fun _ _ _ _ _ _ _ _ _ h => h
theorem pt_varK {i : Nat} {w : V} (hi : Γ[i]? = some (.kn w s)) (hv : s ≠ .no) : Pt K (tVar i) Γ s (fun s' => Γ.set i (.kn w s')) := pt_at (f := Sl.kn w) hi (by cases s <;> first | rfl | exact absurd rfl hv) (fun _ _ _ _ h => h.2) fun _ _ _ _ _ _ _ _ h h' => ⟨h.1, h'⟩
theorem zip_lookup {f : Str} {v : V} : ∀ {j : Nat} {xs : List Str} {vs : List V}, xs[j]? = some f → f ∉ xs.take j → vs[j]? = some v → (xs.zip vs).lookup f = some v
  | _, [], _, h, _, _ => by simp at h
  | _, _ :: _, [], _, _, h => by simp at h
  | 0, x :: xs, w :: vs, hx, _, hv => by
    simp at hx hv
    subst hx; subst hv
    simp [List.zip_cons_cons, List.lookup]
  | j + 1, x :: xs, w :: vs, hx, hn, hv => by
    simp only [List.getElem?_cons_succ] at hx hv
    simp only [List.take_succ_cons, List.mem_cons, not_or] at hn
    have := zip_lookup hx hn.2 hv
    rw [List.zip_cons_cons, List.lookup_cons]
    have : (f == x) = false := by simpa using hn.1
    rw [this]; assumption
theorem zip_no {f : Str} : ∀ {xs : List Str} {vs : List V}, f ∉ xs → (xs.zip vs).lookup f = none
  | [], _, _ => rfl
  | _ :: _, [], _ => rfl
  | x :: xs, v :: vs, h => by
    simp only [List.mem_cons, not_or] at h
    rw [List.zip_cons_cons, List.lookup_cons]
    have : (f == x) = false := by simpa using h.1
    rw [this]; exact zip_no h.2
theorem pt_fld {C x : Str} {xs : List Str} {ss : List Sl} {j : Nat} (P : Pt K te Γ (.ob C xs ss) G) (hx : xs[j]? = some x) (hn : x ∉ xs.take j) (hj : ss[j]? = some s) (hv : s.has = true) (c : Cls K (He.ga K C)) (n : NoAttr K (He.ga K C) x) : Pt K (tFld K te x) Γ s (fun s' => G (.ob C xs (ss.set j s'))) := fun F0 B F σ H k => by
  obtain ⟨v, m, h1, h2, h3, nd, h4⟩ := P F0 B F σ H k
  obtain ⟨p, dx, vs, fps, rfl, ev, b1, b2, b3, b4⟩ := h2
  cases ev
  obtain ⟨u, l, mj, r, c1, rfl, c3, c4⟩ := slrl_at b4 hj
  obtain ⟨n1, n2⟩ := List.nodup_cons.mp nd
  obtain ⟨n3, n4⟩ := List.nodup_cons.mp n2
  have dj : ∀ q ∈ l ++ r, q ∉ mj := fun q hq hm => by
    rw [List.nodup_append, List.nodup_append] at n4
    rcases List.mem_append.mp hq with z | z
    · exact n4.1.2.2 q z q hm rfl
    · exact n4.2.2 q (List.mem_append_right _ hm) q z rfl
  have inm : ∀ q ∈ mj, q ∈ p :: dx :: (l ++ mj ++ r) := fun q hq => List.mem_cons_of_mem _ (List.mem_cons_of_mem _ (List.mem_append_left _ (List.mem_append_right _ hq)))
  have inlr : ∀ q ∈ l ++ r, q ∈ p :: dx :: (l ++ mj ++ r) := fun q hq => by
    refine List.mem_cons_of_mem _ (List.mem_cons_of_mem _ ?_)
    rcases List.mem_append.mp hq with z | z
    · exact List.mem_append_left _ (List.mem_append_left _ z)
    · exact List.mem_append_right _ z
  have pm : p ∉ mj := fun z => n1 (List.mem_cons_of_mem _ (List.mem_append_left _ (List.mem_append_right _ z)))
  have dm : dx ∉ mj := fun z => n3 (List.mem_append_left _ (List.mem_append_right _ z))
  have dom : ∀ q ∈ l ++ mj ++ r, ∃ o, H q = some o := fun q hq => (slrl_iff.mp b4).dom q hq
  have domlr : ∀ q ∈ l ++ r, ∃ o, H q = some o := fun q hq => dom q (by
    rcases List.mem_append.mp hq with z | z
    · exact List.mem_append_left _ (List.mem_append_left _ z)
    · exact List.mem_append_right _ z)
  refine ⟨u, mj, fun Q q => h1 _ ⟨p, _, dx, _, u, rfl, b1, c, n, zip_lookup hx hn c1, q⟩, c3, fun q hq => h3 q (inm q hq), ?_, fun F' H' Δ ws s' fd m' e1 e2 e3 e4 e5 e6 e7 e8 e9 => ?_⟩
  · rw [List.nodup_append, List.nodup_append] at n4
    exact n4.1.2.1
  · refine h4 F' H' Δ ws (.ob C xs (ss.set j s')) fd (p :: dx :: (l ++ m' ++ r)) e1 e2 (fun q o nq e => e3 q o (fun z => nq (inm q z)) e) (fun q o e nq => e4 q o e fun z => nq (inm q z)) e5 ⟨p, dx, vs, _, rfl, rfl, e3 p _ pm b1, e3 dx _ dm b2, b3, c4 F' H' s' m' e1 (fun q hq => ?_) e6⟩ ?_ (fun q hq => ?_) fun q hq => ?_
    · obtain ⟨o, ho⟩ := domlr q hq
      rw [ho]; exact e3 q o (dj q hq) ho
    · have := nodup_ins (fd := fd) (l := p :: dx :: l) (m := mj) (m' := m') (r := r) (by simpa using nd) e7 fun q hq => by
        rcases e8 q hq with z | z
        · exact .inl z
        · refine .inr fun y => ?_
          have : ∃ o, H q = some o := by
            simp only [List.cons_append, List.mem_cons] at y
            rcases y with rfl | rfl | y
            · exact ⟨_, b1⟩
            · exact ⟨_, b2⟩
            · exact domlr q y
          obtain ⟨o, ho⟩ := this
          rw [z] at ho; cases ho
      simpa using this
    · have key : q ∈ fd ++ m' ∨ q = p ∨ q = dx ∨ q ∈ l ++ r := by
        simp only [List.mem_append, List.mem_cons] at hq ⊢
        rcases hq with h | h | h | (h | h) | h <;> simp [h]
      rcases key with z | z | z | z
      · exact (e8 q z).imp (inm q) id
      · exact .inl (by rw [z]; simp)
      · exact .inl (by rw [z]; simp)
      · exact .inl (inlr q z)
    · have key : q ∈ fd ++ m' ∨ q = p ∨ q = dx ∨ q ∈ l ++ r := by
        simp only [List.mem_append, List.mem_cons] at hq ⊢
        rcases hq with h | h | h | (h | h) | h <;> simp [h]
      rcases key with z | z | z | z
      · exact e9 q z
      · rw [z]; exact (e4 p _ b1 pm).trans (h3 p (by simp)).1
      · rw [z]; exact (e4 dx _ b2 dm).trans (h3 dx (by simp)).1
      · obtain ⟨o, ho⟩ := domlr q z
        exact (e4 q o ho (dj q z)).trans (h3 q (inlr q z)).1
/-- a part of a tuple of one's own things -/
theorem pt_ixT {ss : List Sl} {j : Nat} (P : Pt K te Γ (.ot_ ss) G) (hj : ss[j]? = some s) (hv : s.has = true) : Pt K (tOp (rIxT K) te (tC (.int (j : Int)))) Γ s (fun s' => G (.ot_ (ss.set j s'))) := fun F0 B F σ H k => by
  obtain ⟨v, m, h1, h2, h3, nd, h4⟩ := P F0 B F σ H k
  obtain ⟨p, vs, fps, rfl, ev, b1, b4⟩ := h2
  cases ev
  obtain ⟨u, l, mj, r, c1, rfl, c3, c4⟩ := slrl_at b4 hj
  obtain ⟨n1, n4⟩ := List.nodup_cons.mp nd
  have dj : ∀ q ∈ l ++ r, q ∉ mj := fun q hq hm => by
    rw [List.nodup_append, List.nodup_append] at n4
    rcases List.mem_append.mp hq with z | z
    · exact n4.1.2.2 q z q hm rfl
    · exact n4.2.2 q (List.mem_append_right _ hm) q z rfl
  have inm : ∀ q ∈ mj, q ∈ p :: (l ++ mj ++ r) := fun q hq => List.mem_cons_of_mem _ (List.mem_append_left _ (List.mem_append_right _ hq))
  have inlr : ∀ q ∈ l ++ r, q ∈ p :: (l ++ mj ++ r) := fun q hq => by
    refine List.mem_cons_of_mem _ ?_
    rcases List.mem_append.mp hq with z | z
    · exact List.mem_append_left _ (List.mem_append_left _ z)
    · exact List.mem_append_right _ z
  have pm : p ∉ mj := fun z => n1 (List.mem_append_left _ (List.mem_append_right _ z))
  have dom : ∀ q ∈ l ++ mj ++ r, ∃ o, H q = some o := fun q hq => (slrl_iff.mp b4).dom q hq
  have domlr : ∀ q ∈ l ++ r, ∃ o, H q = some o := fun q hq => dom q (by
    rcases List.mem_append.mp hq with z | z
    · exact List.mem_append_left _ (List.mem_append_left _ z)
    · exact List.mem_append_right _ z)
  refine ⟨u, mj, fun Q q => h1 _ ⟨p, vs, j, u, rfl, rfl, Evl.st_of b1, L2.atI_nat c1, q⟩, c3, fun q hq => h3 q (inm q hq), ?_, fun F' H' Δ ws s' fd m' e1 e2 e3 e4 e5 e6 e7 e8 e9 => ?_⟩
  · rw [List.nodup_append, List.nodup_append] at n4
    exact n4.1.2.1
  · refine h4 F' H' Δ ws (.ot_ (ss.set j s')) fd (p :: (l ++ m' ++ r)) e1 e2 (fun q o nq e => e3 q o (fun z => nq (inm q z)) e) (fun q o e nq => e4 q o e fun z => nq (inm q z)) e5 ⟨p, vs, _, rfl, rfl, e3 p _ pm b1, c4 F' H' s' m' e1 (fun q hq => ?_) e6⟩ ?_ (fun q hq => ?_) fun q hq => ?_
    · obtain ⟨o, ho⟩ := domlr q hq
      rw [ho]; exact e3 q o (dj q hq) ho
    · have := nodup_ins (fd := fd) (l := p :: l) (m := mj) (m' := m') (r := r) (by simpa using nd) e7 fun q hq => by
        rcases e8 q hq with z | z
        · exact .inl z
        · refine .inr fun y => ?_
          have : ∃ o, H q = some o := by
            simp only [List.cons_append, List.mem_cons] at y
            rcases y with rfl | y
            · exact ⟨_, b1⟩
            · exact domlr q y
          obtain ⟨o, ho⟩ := this
          rw [z] at ho; cases ho
      simpa using this
    · have key : q ∈ fd ++ m' ∨ q = p ∨ q ∈ l ++ r := by
        simp only [List.mem_append, List.mem_cons] at hq ⊢
        rcases hq with h | h | (h | h) | h <;> simp [h]
      rcases key with z | z | z
      · exact (e8 q z).imp (inm q) id
      · exact .inl (by rw [z]; simp)
      · exact .inl (inlr q z)
    · have key : q ∈ fd ++ m' ∨ q = p ∨ q ∈ l ++ r := by
        simp only [List.mem_append, List.mem_cons] at hq ⊢
        rcases hq with h | h | (h | h) | h <;> simp [h]
      rcases key with z | z | z
      · exact e9 q z
      · rw [z]; exact (e4 p _ b1 pm).trans (h3 p (by simp)).1
      · obtain ⟨o, ho⟩ := domlr q z
        exact (e4 q o ho (dj q z)).trans (h3 q (inlr q z)).1
end
section
variable {K : PySem.W.Frag} {Γ Γ' : List Sl} {α β γ δ : Type} [Enc α] [Enc β] {ta tb tc te tp ti : TE} {ma : Option α} {T A S R : Type} {hd : Hdl T} {u w t : TS} {s : Sl} {G : Sl → List Sl}
theorem el_pt {xs : List α} (P : Pt K te Γ (.o xs) G) : EvL K te Γ (some xs) := fun a e F0 B F σ H k Q q => by
  cases e
  obtain ⟨v, m, h1, h2, _⟩ := P F0 B F σ H k
  obtain ⟨p, vs, rfl, ev, e1, e2⟩ := h2
  cases ev
  exact h1 Q (q p vs F H (Ext.refl k.fh) e1 e2)
theorem em_pt {a : α} (P : Pt K te Γ (.f a) G) : EvM K te Γ (some a) := fun a' e F0 B F σ H k Q q => by
  cases e
  obtain ⟨v, m, h1, h2, _⟩ := P F0 B F σ H k
  obtain ⟨_, x, ev, r⟩ := h2
  cases ev
  exact h1 Q (q v F H (Ext.refl k.fh) r)
theorem em_ptS {x : Option α} (P : Pt K te Γ (.f x) G) : EvM K te Γ x := fun a' e F0 B F σ H k Q q => by
  subst e
  exact em_pt (a := some a') P _ rfl F0 B F σ H k Q q
theorem pl_pt {xs : List D} (P : Pt K te Γ (.own xs) G) : Pl K te Γ xs (fun ys => G (.own ys)) := fun F0 B F σ H k => by
  obtain ⟨v, m, h1, h2, h3, nd, h4⟩ := P F0 B F σ H k
  obtain ⟨p, vs, rfl, ev, e1, e2⟩ := h2
  cases ev
  have fp := (h3 p (by simp)).1
  refine ⟨p, vs, h1, e1, e2, fp, fun F' H' vs' xs' x r => ?_⟩
  have f' : F' p = none := (x.old p _ e1).trans fp
  exact h4 F' (upd H' p (.lst vs')) [] [] (.own xs') [] [p] x.ff (fun q o e => by
    have ne : q ≠ p := fun y => by rw [y, f'] at e; cases e
    rw [upd_ne ne]
    exact x.fh q o e) (fun q o nq e => by
    have ne : q ≠ p := fun y => nq (by simp [y])
    rw [upd_ne ne]
    exact x.hh q o e) (fun q o e _ => x.old q o e) .nil ⟨p, vs', rfl, rfl, upd_same, r⟩ (by simp) (fun q hq => .inl (by simpa using hq)) fun q hq => by
      have : q = p := by simpa using hq
      rw [this]; exact f'
theorem pd_pt {xs : List (Key × D)} (P : Pt K te Γ (.owd xs) G) : Pd K te Γ xs (fun ys => G (.owd ys)) := fun F0 B F σ H k => by
  obtain ⟨v, m, h1, h2, h3, nd, h4⟩ := P F0 B F σ H k
  obtain ⟨p, vs, rfl, ev, e1, e2⟩ := h2
  cases ev
  have fp := (h3 p (by simp)).1
  refine ⟨p, vs, h1, e1, e2, fp, fun F' H' vs' xs' x r => ?_⟩
  have f' : F' p = none := (x.old p _ e1).trans fp
  exact h4 F' (upd H' p (.dK vs')) [] [] (.owd xs') [] [p] x.ff (fun q o e => by
    have ne : q ≠ p := fun y => by rw [y, f'] at e; cases e
    rw [upd_ne ne]
    exact x.fh q o e) (fun q o nq e => by
    have ne : q ≠ p := fun y => nq (by simp [y])
    rw [upd_ne ne]
    exact x.hh q o e) (fun q o e _ => x.old q o e) .nil ⟨p, vs', rfl, rfl, upd_same, r⟩ (by simp) (fun q hq => .inl (by simpa using hq)) fun q hq => by
      have : q = p := by simpa using hq
      rw [this]; exact f'
/-! ### instances that stay -/
class Obj (α : Type) extends Enc α where
  cn : Str
  xs : List Str
  ds : α → List D
  enc_eq : ∀ a, enc a = .obj cn xs (ds a)
theorem em_fld {α β : Type} [Obj α] [Enc β] {f : α → β} {ma : Option α} {j : Nat} {x : Str} (c : Cls K (He.ga K (Obj.cn α))) (n : NoAttr K (He.ga K (Obj.cn α)) x) (hx : (Obj.xs α)[j]? = some x) (hn : x ∉ (Obj.xs α).take j) (hd : ∀ a : α, (Obj.ds a)[j]? = some (enc (f a))) (h : EvM K ta Γ ma) : EvM K (tFld K ta x) Γ (ma.bind fun a => some (f a)) := fun b e F0 B F σ H k Q q => by
  obtain ⟨a, e1, e⟩ := Option.bind_eq_some_iff.mp e
  cases e
  refine h a e1 F0 B F σ H k _ fun v F1 H1 x1 r1 => ?_
  rw [Obj.enc_eq a] at r1
  cases r1 with
  | @obj p dx _ _ vs _ h hx' hl hl2 hr =>
    have hj : j < vs.length := by rw [hl2]; exact (List.getElem?_eq_some_iff.mp (hd a)).1
    exact ⟨p, _, dx, _, vs[j], rfl, x1.fh _ _ h, c, n, zip_lookup hx hn (List.getElem?_eq_getElem hj), q _ F1 H1 x1 (hr j _ _ (List.getElem?_eq_getElem hj) (hd a))⟩
theorem em_fldP {α β : Type} [Obj α] [Enc β] {f : α → β} {a : α} {j : Nat} {x : Str} (c : Cls K (He.ga K (Obj.cn α))) (n : NoAttr K (He.ga K (Obj.cn α)) x) (hx : (Obj.xs α)[j]? = some x) (hn : x ∉ (Obj.xs α).take j) (hd : ∀ a : α, (Obj.ds a)[j]? = some (enc (f a))) (h : EvM K ta Γ (some a)) : EvM K (tFld K ta x) Γ (some (f a)) := em_fld c n hx hn hd h
theorem toD_ob {C : Str} {xs : List Str} {ss : List Sl} {ds : List D} (h : toDs ss = some ds) : toD (.ob C xs ss) = some (.obj C xs ds) := by
  show (toDs ss).map _ = _
  rw [h]; rfl
/-! ### what is a number, a text, or a tuple of such: its heap is told apart -/
/-- a tuple that stays -/
inductive TupO : HO → Prop
  | t (vs : List V) : TupO (.tup vs)
  | f (od : PySem.Obj) (vs : List V) : TupO (.frz od (.tup vs))
class Im (α : Type) [Enc α] : Prop where
  im : ∀ (K : PySem.W.Frag) (F F' : Hp) (v : V) (a : α), Rep K F v (enc a) → (∀ p o, TupO o → F p = some o → F' p = some o) → Rep K F' v (enc a)
instance : Im Int := ⟨fun K F F' v a r _ => Sc.sc K F F' v a r⟩
instance : Im Bool := ⟨fun K F F' v a r _ => Sc.sc K F F' v a r⟩
instance : Im Str := ⟨fun K F F' v a r _ => Sc.sc K F F' v a r⟩
instance : Im Unit := ⟨fun K F F' v a r _ => Sc.sc K F F' v a r⟩
instance {α : Type} [Enc α] [Im α] : Im (Option α) := ⟨fun K F F' v a r k => by
  cases a with
  | none => cases r; exact .non
  | some a => exact Im.im K F F' v a r k⟩
theorem tup_im {F F' : Hp} {v : V} {ds : List D} (r : Rep K F v (.tup ds)) (k : ∀ p o, TupO o → F p = some o → F' p = some o) (h : ∀ d ∈ ds, ∀ v, Rep K F v d → Rep K F' v d) : Rep K F' v (.tup ds) := by
  cases r with
  | tup h1 h2 h3 => exact .tup (k _ _ (.t _) h1) h2 fun i v d a b => h d (List.mem_of_getElem? b) v (h3 i v d a b)
instance {α β : Type} [Enc α] [Enc β] [Im α] [Im β] : Im (α × β) := ⟨fun K F F' v a r k => tup_im r k fun d hd v r' => by
  simp only [List.mem_cons, List.not_mem_nil, or_false] at hd
  rcases hd with rfl | rfl
  · exact Im.im K F F' v _ r' k
  · exact Im.im K F F' v _ r' k⟩
instance {α β γ : Type} [Enc α] [Enc β] [Enc γ] [Im α] [Im β] [Im γ] : Im (T3 α β γ) := ⟨fun K F F' v a r k => tup_im r k fun d hd v r' => by
  simp only [List.mem_cons, List.not_mem_nil, or_false] at hd
  rcases hd with rfl | rfl | rfl <;> exact Im.im K F F' v _ r' k⟩
instance {α β γ δ : Type} [Enc α] [Enc β] [Enc γ] [Enc δ] [Im α] [Im β] [Im γ] [Im δ] : Im (T4 α β γ δ) := ⟨fun K F F' v a r k => tup_im r k fun d hd v r' => by
  simp only [List.mem_cons, List.not_mem_nil, or_false] at hd
  rcases hd with rfl | rfl | rfl | rfl <;> exact Im.im K F F' v _ r' k⟩
instance {α : Type} [Enc α] [Im α] : Im (Tu α) := ⟨fun K F F' v a r k => tup_im r k fun d hd v r' => by
  obtain ⟨x, _, rfl⟩ := List.mem_map.mp hd
  exact Im.im K F F' v x r' k⟩
mutual
/-- no tuple of own things in it -/
def noT : Sl → Bool
  | .ot_ _ => false
  | .ol ss => noTs ss
  | .ob _ _ ss => noTs ss
  | .kn _ s => noT s
  | _ => true
def noTs : List Sl → Bool
  | [] => true
  | s :: ss => noT s && noTs ss
end
mutual
theorem notup {F H : Hp} : ∀ (s : Sl) (v : Option V) (m : List Addr), noT s = true → SlR K F H s v m → ∀ p ∈ m, ∀ o, TupO o → H p ≠ some o
  | .no, v, m, e, h, p, hp, o, ht => by rw [show m = [] from h] at hp; cases hp
  | .fz d, v, m, e, h, p, hp, o, ht => by rw [h.1] at hp; cases hp
  | .own ds, v, m, e, h, p, hp, o, ht => by
    obtain ⟨q, us, rfl, rfl, e1, e2⟩ := h
    rw [List.mem_singleton.mp hp, e1]
    intro z; cases z; cases ht
  | .at_ q ds, v, m, e, h, p, hp, o, ht => by
    obtain ⟨us, rfl, rfl, e1, e2⟩ := h
    rw [List.mem_singleton.mp hp, e1]
    intro z; cases z; cases ht
  | .owd ds, v, m, e, h, p, hp, o, ht => by
    obtain ⟨q, us, rfl, rfl, e1, e2⟩ := h
    rw [List.mem_singleton.mp hp, e1]
    intro z; cases z; cases ht
  | .owt ds, v, m, e, h, p, hp, o, ht => by
    obtain ⟨q, us, rfl, rfl, e1, e2⟩ := h
    rw [List.mem_singleton.mp hp, e1]
    intro z; cases z; cases ht
  | .ol ss, v, m, e, h, p, hp, o, ht => by
    obtain ⟨q, us, fps, rfl, rfl, e1, e2⟩ := h
    rcases List.mem_cons.mp hp with rfl | hp
    · rw [e1]; intro z; cases z; cases ht
    · exact notups ss _ _ e e2 p hp o ht
  | .ob C xs ss, v, m, e, h, p, hp, o, ht => by
    obtain ⟨q, dx, us, fps, rfl, rfl, e1, e2, e3, e4⟩ := h
    rcases List.mem_cons.mp hp with rfl | hp
    · rw [e1]; intro z; cases z; cases ht
    · rcases List.mem_cons.mp hp with rfl | hp
      · rw [e2]; intro z; cases z; cases ht
      · exact notups ss _ _ e e4 p hp o ht
  | .ot_ ss, v, m, e, h, p, hp, o, ht => by cases e
  | .kn w s, v, m, e, h, p, hp, o, ht => notup s v m e h.2 p hp o ht
theorem notups {F H : Hp} : ∀ (ss : List Sl) (vs : List (Option V)) (m : List Addr), noTs ss = true → SlRL K F H ss vs m → ∀ p ∈ m, ∀ o, TupO o → H p ≠ some o
  | [], _, m, e, h, p, hp, o, ht => by rw [h.2] at hp; cases hp
  | s :: ss, _, m, e, h, p, hp, o, ht => by
    obtain ⟨v, ws, f1, f2, rfl, rfl, h1, h2⟩ := h
    rw [noTs, Bool.and_eq_true] at e
    rcases List.mem_append.mp hp with hp | hp
    · exact notup s _ _ e.1 h1 p hp o ht
    · exact notups ss _ _ e.2 h2 p hp o ht
end
/-- own things read as if they stayed; what is read of them stays, less their cells -/
theorem Ok.borrow {F0 B F : Hp} {σ : L2.St} {H : Hp} {i : Nat} {s : Sl} {d : D} (k : Ok K F0 B F Γ σ H) (hi : Γ[i]? = some s) (hd : toD s = some d) (hn : noT s = true) : ∃ F1, Ok K F0 B F1 (Γ.set i (.fz d)) σ H ∧
    ∀ F' H', Ext F1 H F' H' → ∃ F'', Ext F H F'' H' ∧ (∀ p o, TupO o → F' p = some o → F'' p = some o) ∧ (∀ q, H q = none → F'' q = F' q) := by
  obtain ⟨v, m, h1, h2, h3, nd, h4⟩ := k.mod hi
  obtain ⟨w, F1, rfl, x1, x2, k1, r⟩ := frz F s d v m hd h2 nd (fun p hp => (h3 p hp).1) k.fh
  have z := h4 F1 H (.fz d) (some w) [] x1 x2 (fun q o _ a => a) (fun q o _ nq => k1 q nq) ⟨rfl, w, rfl, r⟩ List.nodup_nil (fun p hp => by cases hp) fun p hp => by cases hp
  rw [set_id h1] at z
  refine ⟨F1, z, fun F' H' y => ?_⟩
  classical
  have dom := h2.dom
  refine ⟨fun q => if q ∈ m then none else F' q, ⟨fun q o e => ?_, y.hh, fun q o e => ?_, fun q o e => ?_⟩, fun p o ht e => ?_, fun q e => ?_⟩
  · show (if q ∈ m then none else F' q) = some o
    rw [if_neg (fun hm => by rw [(h3 q hm).1] at e; cases e)]
    exact y.ff q o (x1 q o e)
  · have e : (if q ∈ m then none else F' q) = some o := e
    split at e
    · cases e
    · exact y.fh q o e
  · show (if q ∈ m then none else F' q) = F q
    split
    · rename_i hm; exact (h3 q hm).1.symm
    · rename_i hm; exact (y.old q o e).trans (k1 q hm)
  · show (if p ∈ m then none else F' p) = _
    rw [if_neg fun hm => ?_]
    · exact e
    · obtain ⟨o', ho⟩ := dom p hm
      have a := y.hh p o' ho
      have b := y.fh p _ e
      rw [a] at b; cases b
      exact notup s _ _ hn h2 p hm _ ht ho
  · show (if q ∈ m then none else F' q) = F' q
    rw [if_neg fun hm => by obtain ⟨o, ho⟩ := dom q hm; rw [e] at ho; cases ho]
theorem em_borrowI [Im α] {i : Nat} {s : Sl} {d : D} {m : Option α} (hi : Γ[i]? = some s) (hd' : toD s = some d) (hn : noT s = true) (h : EvM K te (Γ.set i (.fz d)) m) : EvM K te Γ m := fun a e F0 B F σ H k Q q => by
  obtain ⟨F1, k', c⟩ := k.borrow hi hd' hn
  refine h a e F0 B F1 σ H k' Q fun v F' H' y r => ?_
  obtain ⟨F'', x, kt, _⟩ := c F' H' y
  exact q v F'' H' x (Im.im K F' F'' v a r kt)
theorem reps_im [Im α] {F F' : Hp} {vs : List V} {xs : List α} (r : Reps K F vs (xs.map enc)) (k : ∀ p o, TupO o → F p = some o → F' p = some o) : Reps K F' vs (xs.map enc) := by
  refine ⟨r.len, fun i v d h1 h2 => ?_⟩
  have h := r.at_ i v d h1 h2
  rw [List.getElem?_map] at h2
  obtain ⟨a, _, rfl⟩ := Option.map_eq_some_iff.mp h2
  exact Im.im K F F' v a h k
theorem en_borrowI [Im α] {i : Nat} {s : Sl} {d : D} {m : Option (List α)} (hi : Γ[i]? = some s) (hd' : toD s = some d) (hn : noT s = true) (h : EvN K te (Γ.set i (.fz d)) m) : EvN K te Γ m := fun a e F0 B F σ H k Q q => by
  obtain ⟨F1, k', c⟩ := k.borrow hi hd' hn
  refine h a e F0 B F1 σ H k' Q fun p vs F' H' y h1 h2 h3 r => ?_
  obtain ⟨F'', x, kt, ko⟩ := c F' H' y
  exact q p vs F'' H' x h1 ((ko p h1).trans h2) h3 (reps_im r kt)
/-- own things whose parts are numbers, texts, tuples of such -/
def ImS (K : PySem.W.Frag) (rs : γ → Sl) : Prop := ∀ (a : γ) (F F' H : Hp) (v : Option V) (fp : List Addr), SlR K F H (rs a) v fp → (∀ p o, TupO o → F p = some o → F' p = some o) → SlR K F' H (rs a) v fp
theorem imS_o [Im α] : ImS K (fun a : List α => Sl.o a) := fun a F F' H v fp h k => by
  obtain ⟨p, vs, h1, h2, h3, h4⟩ := h
  exact ⟨p, vs, h1, h2, h3, reps_im h4 k⟩
theorem sl_im [Im α] {F F' H : Hp} (k : ∀ p o, TupO o → F p = some o → F' p = some o) : ∀ {L : List (List α)} {vs : List (Option V)} {fp : List Addr}, SlRs K F H (L.map fun l => Sl.own (l.map enc)) vs fp → SlRs K F' H (L.map fun l => Sl.own (l.map enc)) vs fp
  | [], _, _, h => by cases h; exact .nil
  | l :: L, _, _, h => by
    cases h with
    | cons h t => exact .cons (imS_o (K := K) l F F' H _ _ h k) (sl_im k t)
theorem imS_o2 [Im α] : ImS K (fun a : List (List α) => Sl.o2 a) := fun a F F' H v fp h k => by
  obtain ⟨p, vs, fps, h1, h2, h3, h4⟩ := h
  exact ⟨p, vs, fps, h1, h2, h3, slrl_iff.mpr (sl_im k (slrl_iff.mp h4))⟩
theorem imS_od [Im α] : ImS K (fun a : Dk α => Sl.od a) := fun a F F' H v fp h k => by
  obtain ⟨p, vs, h1, h2, h3, h4⟩ := h
  refine ⟨p, vs, h1, h2, h3, h4.keys, fun i k1 v k2 d e1 e2 => ?_⟩
  have h := h4.at_ i k1 v k2 d e1 e2
  rw [List.getElem?_map] at e2
  obtain ⟨x, _, ex⟩ := Option.map_eq_some_iff.mp e2
  cases ex
  exact Im.im K F F' v _ h k
theorem ew_borrowI {i : Nat} {s : Sl} {d : D} {m : Option γ} {rs : γ → Sl} (hI : ImS K rs) (hi : Γ[i]? = some s) (hd' : toD s = some d) (hn : noT s = true) (h : EvW K te (Γ.set i (.fz d)) m rs) : EvW K te Γ m rs := fun a e F0 B F σ H k Q q => by
  obtain ⟨F1, k', c⟩ := k.borrow hi hd' hn
  refine h a e F0 B F1 σ H k' Q fun v F' H' fr y r nd nw => ?_
  obtain ⟨F'', x, kt, ko⟩ := c F' H' y
  exact q v F'' H' fr x (hI a F' F'' H' _ _ r kt) nd fun p hp => ⟨(nw p hp).1, (ko p (nw p hp).1).trans (nw p hp).2⟩
theorem et_borrowI {tt : TT} {i : Nat} {s : Sl} {d : D} {m : Option Bool} (hi : Γ[i]? = some s) (hd' : toD s = some d) (h : EvT K tt (Γ.set i (.fz d)) m) : EvT K tt Γ m := et_borrow hi hd' h
/-! ### arguments, some of them one's own -/
inductive Ag where
  | own (i : Nat) (w : V) (s : Sl)
  | fz (d : D)
def Ag.sl : Ag → Sl
  | .own _ w s => .kn w s
  | .fz d => .fz d
def AgR (K : PySem.W.Frag) (F : Hp) : List Ag → List V → Prop
  | [], vs => vs = []
  | .own _ w _ :: as, vs => ∃ ws, vs = w :: ws ∧ AgR K F as ws
  | .fz d :: as, vs => ∃ v ws, vs = v :: ws ∧ Rep K F v d ∧ AgR K F as ws
theorem AgR.mono {F F' : Hp} (e : Ex F F') : ∀ {as : List Ag} {vs : List V}, AgR K F as vs → AgR K F' as vs
  | [], _, h => h
  | .own _ _ _ :: as, _, h => by obtain ⟨ws, rfl, h⟩ := h; exact ⟨ws, rfl, AgR.mono e h⟩
  | .fz _ :: as, _, h => by obtain ⟨v, ws, rfl, r, h⟩ := h; exact ⟨v, ws, rfl, r.mono e, AgR.mono e h⟩
def EvG2 (K : PySem.W.Frag) (ta : TA) (Γ : List Sl) (as : List Ag) : Prop :=
  ∀ (F0 B F : Hp) (σ : L2.St) (H : Hp), Ok K F0 B F Γ σ H → ∀ Q : List V → Hp → Prop, (∀ vs F' H', Ext F H F' H' → AgR K F' as vs → Q vs H') → ta σ H Q
theorem eg2_nil : EvG2 K tNil Γ [] := fun F0 B F σ H k Q q => q [] F H (Ext.refl k.fh) rfl
theorem eg2_fz {tr : TA} {a : α} {as : List Ag} (h : EvM K te Γ (some a)) (hr : EvG2 K tr Γ as) : EvG2 K (tCons te tr) Γ (.fz (enc a) :: as) := fun F0 B F σ H k Q q => by
  refine h a rfl F0 B F σ H k _ fun v F1 H1 x1 r1 => ?_
  refine hr F0 B F1 σ H1 (k.ext x1) _ fun vs F2 H2 x2 r2 => ?_
  exact q (v :: vs) F2 H2 (x1.trans x2) ⟨v, vs, rfl, r1.mono x2.ff, r2⟩
theorem eg2_own {tr : TA} {i : Nat} {w : V} {s : Sl} {as : List Ag} (hi : Γ[i]? = some (.kn w s)) (hr : EvG2 K tr Γ as) : EvG2 K (tCons (tVar i) tr) Γ (.own i w s :: as) := fun F0 B F σ H k Q q => by
  obtain ⟨v, m, a1, a2, _⟩ := k.mod hi
  have ev : v = some w := a2.1
  subst ev
  refine ⟨w, a1, ?_⟩
  exact hr F0 B F σ H k _ fun vs F2 H2 x2 r2 => q (w :: vs) F2 H2 x2 ⟨vs, rfl, r2⟩
inductive Mv : List Sl → List Ag → List Sl → Prop where
  | nil {Γ : List Sl} : Mv Γ [] Γ
  | fz {Γ Γ' : List Sl} {as : List Ag} {d : D} (h : Mv Γ as Γ') : Mv Γ (.fz d :: as) Γ'
  | own {Γ Γ' : List Sl} {as : List Ag} {i : Nat} {w : V} {s : Sl} (hi : Γ[i]? = some (.kn w s)) (h : Mv (Γ.set i (.kn w .no)) as Γ') : Mv Γ (.own i w s :: as) Γ'
theorem mv_ok {F0 B F H : Hp} {σ : L2.St} {Γ Γ' : List Sl} {as : List Ag} (h : Mv Γ as Γ') : ∀ {Δ : List Sl} {ws : L2.St} {vs : List V}, Δ.length = ws.length → Ok K F0 B F (Δ ++ Γ) (ws ++ σ) H → AgR K F as vs → Ok K F0 B F ((Δ ++ as.map Ag.sl) ++ Γ') ((ws ++ vs.map some) ++ σ) H ∧ vs.length = as.length := by
  induction h with
  | nil =>
    intro Δ ws vs hl k r
    have : vs = [] := r
    subst this
    exact ⟨by simpa using k, rfl⟩
  | fz h ih =>
    intro Δ ws vs hl k r
    obtain ⟨v, us, rfl, r1, r2⟩ := r
    have k1 := k.pushFz hl r1
    obtain ⟨z, zl⟩ := ih (by simp [hl]) k1 r2
    exact ⟨by simpa [Ag.sl] using z, by simp [zl]⟩
  | own hi h ih =>
    intro Δ ws vs hl k r
    obtain ⟨us, rfl, r2⟩ := r
    obtain ⟨_, k1⟩ := k.moveKn hl hi
    obtain ⟨z, zl⟩ := ih (by simp [hl]) k1 r2
    exact ⟨by simpa [Ag.sl] using z, by simp [zl]⟩
theorem eg_of2 {tr : TA} {as : List Ag} (h : EvG2 K tr Γ as) (hm : Mv Γ as Γ') : EvG K tr Γ Γ' (as.map Ag.sl) := fun F0 B F Δ ws σ H hl k Q q => by
  refine h F0 B F σ H (k.back hl) Q fun vs F1 H1 x1 r1 => ?_
  obtain ⟨z, zl⟩ := mv_ok hm hl (k.ext x1) r1
  exact q vs F1 H1 (by rw [zl, List.length_map]) z
/-! ### methods -/
def IsOb (C : Str) (xs : List Str) (s : Sl) : Prop := (∃ ss, s = .ob C xs ss) ∨ (∃ w ss, s = .kn w (.ob C xs ss)) ∨ ∃ ds, s = .fz (.obj C xs ds)
theorem Ok.inst {F0 B F H : Hp} {σ : L2.St} {i : Nat} {C : Str} {xs : List Str} (k : Ok K F0 B F Γ σ H) (hi : Γ[i]? = some s) (hs : IsOb C xs s) : ∃ p dx vs, σ[i]? = some (some (.ref p)) ∧ H p = some (.ins (He.ga K C) dx (xs.zip vs)) := by
  obtain ⟨v, m, a1, a2, _⟩ := k.mod hi
  rcases hs with ⟨ss, rfl⟩ | ⟨w, ss, rfl⟩ | ⟨ds, rfl⟩
  · obtain ⟨p, dx, vs, fps, _, rfl, h1, _⟩ := a2
    exact ⟨p, dx, vs, a1, h1⟩
  · obtain ⟨_, p, dx, vs, fps, _, rfl, h1, _⟩ := a2
    exact ⟨p, dx, vs, a1, h1⟩
  · obtain ⟨_, x, rfl, r⟩ := a2
    cases r with
    | @obj p dx _ _ vs _ h hx' hl hl2 hr => exact ⟨p, dx, vs, a1, k.fh _ _ h⟩
theorem meth_of {F0 B F H : Hp} {σ : L2.St} {i : Nat} {C m : Str} {xs : List Str} {sp : Sp} {dvs : List V} {E : XK} {tr : TA} {Q : VK} (k : Ok K F0 B F Γ σ H) (hi : Γ[i]? = some s) (hs : IsOb C xs s) (hm : m ∉ xs) (h : tCall sp dvs E (tCons (tVar i) tr) σ H Q) : tMeth (He.ga K C) m sp dvs E (tVar i) tr σ H Q := by
  obtain ⟨p, dx, vs, a1, a2⟩ := k.inst hi hs
  obtain ⟨v, b1, b2⟩ := h
  rw [a1] at b1; cases b1
  exact ⟨_, a1, p, dx, _, rfl, a2, zip_no hm, b2⟩
section
variable {i : Nat} {C m : Str} {xs : List Str} {sp : Sp} {dvs : List V} {E : XK} {tr : TA}
theorem es_meth {M : Option γ} {rs : γ → Sl} {G : γ → List Sl} (hi : Γ[i]? = some s) (hs : IsOb C xs s) (hm : m ∉ xs) (h : EvS K (tCall sp dvs E (tCons (tVar i) tr)) Γ M rs G) : EvS K (tMeth (He.ga K C) m sp dvs E (tVar i) tr) Γ M rs G := fun a e F0 B F σ H k Q q => meth_of k hi hs hm (h a e F0 B F σ H k Q q)
theorem em_meth {M : Option α} (hi : Γ[i]? = some s) (hs : IsOb C xs s) (hm : m ∉ xs) (h : EvM K (tCall sp dvs E (tCons (tVar i) tr)) Γ M) : EvM K (tMeth (He.ga K C) m sp dvs E (tVar i) tr) Γ M := fun a e F0 B F σ H k Q q => meth_of k hi hs hm (h a e F0 B F σ H k Q q)
theorem ew_meth {M : Option γ} {rs : γ → Sl} (hi : Γ[i]? = some s) (hs : IsOb C xs s) (hm : m ∉ xs) (h : EvW K (tCall sp dvs E (tCons (tVar i) tr)) Γ M rs) : EvW K (tMeth (He.ga K C) m sp dvs E (tVar i) tr) Γ M rs := fun a e F0 B F σ H k Q q => meth_of k hi hs hm (h a e F0 B F σ H k Q q)
end
theorem ob_own {C : Str} {xs : List Str} {ss : List Sl} : IsOb C xs (.ob C xs ss) := .inl ⟨_, rfl⟩
theorem ob_kn {C : Str} {w : V} {xs : List Str} {ss : List Sl} : IsOb C xs (.kn w (.ob C xs ss)) := .inr (.inl ⟨_, _, rfl⟩)
theorem ob_fz {α : Type} [Obj α] {a : α} : IsOb (Obj.cn α) (Obj.xs α) (.fz (enc a)) := .inr (.inr ⟨_, congrArg Sl.fz (Obj.enc_eq a)⟩)
structure FnM (P : Program) (w : World) (K : PySem.W.Frag) (base : Heap) (mg : Str → Option Value) (k : Nat) (C m : Str) (ps : List Str) (sp : Sp) : Prop where
  ex : ∃ fd, FnOk P w K mg base CX0 k (He.ma K (He.ga K C) m) fd ps sp ∧ Binds K fd ps []
  cl : Cls K (He.ga K C)
  mt : Meth K (He.ga K C) m (He.ma K (He.ga K C) m)
theorem pe_m {X : Cx} {C m : Str} {o e : Expr} {es : List Expr} {ta : TE} {t : TA} {k : Nat} {ps : List Str} {sp : Sp} {apos pos : Pos} {pl : Sem Bool} (he : PE X o ta) (F : FnM X.prog X.w X.K X.base X.mg k C m ps sp) (hr : Room k X.A) (ha : PA X (e :: es) t)
    (hst : starEach (e :: es) X.env = (false, eval e X.env) :: starEach es X.env := by rfl) (hpl : (backTo pos (starEach es X.env)).any (·.1) = false := by rfl)
    (ht : eval (.Call (.Attribute o m apos) (e :: es) [] pos) X.env = (do
      let ov ← eval o X.env
      standAt apos.atName
      let (f, first) ← holding [ov] (getMethod ov m pl)
      callWith pos f first (backTo pos (starEach (e :: es) X.env)) (backToKw pos (keywordEach [] X.env))) := by rfl) :
    PE X (.Call (.Attribute o m apos) (e :: es) [] pos) (tMeth (He.ga X.K C) m sp [] E0 ta t) := by
  obtain ⟨fd, h1, h2⟩ := F.ex
  exact pe_meth he F.cl F.mt h1 hr h2 .nil pass0 ha hst hpl ht
theorem pe_m0 {X : Cx} {C m : Str} {o : Expr} {ta : TE} {k : Nat} {ps : List Str} {sp : Sp} {apos pos : Pos} {pl : Sem Bool} (he : PE X o ta) (F : FnM X.prog X.w X.K X.base X.mg k C m ps sp) (hr : Room k X.A)
    (ht : eval (.Call (.Attribute o m apos) [] [] pos) X.env = (do
      let ov ← eval o X.env
      standAt apos.atName
      let (f, first) ← holding [ov] (getMethod ov m pl)
      callWith pos f first (backTo pos (starEach [] X.env)) (backToKw pos (keywordEach [] X.env))) := by rfl) :
    PE X (.Call (.Attribute o m apos) [] [] pos) (tMeth (He.ga X.K C) m sp [] E0 ta tNil) := by
  obtain ⟨fd, h1, h2⟩ := F.ex
  exact pe_meth0 he F.cl F.mt h1 hr h2 .nil pass0 ht
structure FnC (P : Program) (w : World) (K : PySem.W.Frag) (base : Heap) (mg : Str → Option Value) (k : Nat) (C : Str) (ps : List Str) (sp : Sp) : Prop where
  ex : ∃ fd, FnOk P w K mg base CX0 k (He.ma K (He.ga K C) "__init__") fd ps sp ∧ Binds K fd ps []
  mk_ : Mk K (He.ga K C) (He.ma K (He.ga K C) "__init__")
  g : mg C = some (.ref (He.ga K C))
theorem pe_mk {X : Cx} {x : Str} {p pos : Pos} {e : Expr} {es : List Expr} {t : TA} {k : Nat} {ps : List Str} {sp : Sp} (F : FnC X.prog X.w X.K X.base X.mg k x ps sp) (hr : Room (k + 1) X.A) (hg : Gl X x) (ha : PA X (e :: es) t)
    (hdb : (x == ("__debug__" : Str)) = false := by decide) (he : starEach (e :: es) X.env = (false, eval e X.env) :: starEach es X.env := by rfl) (hpl : (backTo pos (starEach es X.env)).any (·.1) = false := by rfl) :
    PE X (.Call (.Name x p) (e :: es) [] pos) (tMake (He.ga X.K x) sp [] E0 t) := by
  obtain ⟨fd, h1, h2⟩ := F.ex
  exact pe_make F.mk_ h1 hr hg F.g h2 .nil pass0 ha hdb he hpl
theorem pe_mk0 {X : Cx} {x : Str} {p pos : Pos} {k : Nat} {ps : List Str} {sp : Sp} (F : FnC X.prog X.w X.K X.base X.mg k x ps sp) (hr : Room (k + 1) X.A) (hg : Gl X x)
    (hdb : (x == ("__debug__" : Str)) = false := by decide) :
    PE X (.Call (.Name x p) [] [] pos) (tMake (He.ga X.K x) sp [] E0 tNil) := by
  obtain ⟨fd, h1, h2⟩ := F.ex
  exact pe_make0 F.mk_ h1 hr hg F.g h2 .nil pass0 hdb
theorem slrs_fz {F H : Hp} : ∀ {ds : List D} {vs : List V}, Reps K F vs ds → SlRs K F H (ds.map .fz) (vs.map some) []
  | [], vs, r => by rw [r.nil_inv]; exact .nil
  | d :: ds, vs, r => by
    obtain ⟨v, ws, rfl, r1, r2⟩ := r.cons_inv
    have := SlRs.cons (fp := []) (fps := []) (s := .fz d) (v := some v) (H := H) ⟨rfl, v, rfl, r1⟩ (slrs_fz r2)
    simpa using this
/-- a new instance -/
theorem ew_make {n : Nat} {C : Str} {P : List Sl → Option γ → (γ → Sl) → (γ → List Sl) → Prop} {E : XK} {tr : TA} {ds : List D} {m : Option γ} {rs : γ → Sl} {Gn : γ → List Sl} (h : EvA K tr Γ (some ds)) (hn : ds.length + 1 = n) (hP : ∀ w, P (.kn w (.ob C [] []) :: ds.map .fz) m (fun _ => .fz .non) (fun c => .kn w (rs c) :: Gn c)) : EvW K (tMake (He.ga K C) (spO K n P) [] E tr) Γ m rs := fun c e F0 B F σ H k Q q => by
  refine h ds rfl F0 B F σ H k _ fun vs F1 H1 x1 r1 x dx hx hdx ne => ?_
  have ex1 : Ex H1 (upd H1 dx (.own x)) := Ex.new hdx
  have hx2 : upd H1 dx (.own x) x = none := by rw [upd_ne ne.symm]; exact hx
  have ex2 : Ex H1 (upd (upd H1 dx (.own x)) x (.ins (He.ga K C) dx [])) := ex1.trans (Ex.new hx2)
  have fx : F1 x = none := none_of x1.fh hx
  have fdx : F1 dx = none := none_of x1.fh hdx
  rw [List.append_nil]
  refine ⟨.kn (.ref x) (.ob C [] []) :: ds.map .fz, m, fun _ => .fz .non, _, c, F1, [x, dx], by simp [hn], x1.fh.trans ex2, ?_, by simp [ne.symm], fun p hp => ?_, hP _, e, fun v F' H' fp' e1 e2 e3 e4 s nd e5 e6 => ?_⟩
  · have a : SlR K F1 (upd (upd H1 dx (.own x)) x (.ins (He.ga K C) dx [])) (.kn (.ref x) (.ob C [] [])) (some (.ref x)) [x, dx] := ⟨rfl, x, dx, [], [], rfl, rfl, upd_same, by rw [upd_ne ne]; exact upd_same, rfl, rfl, rfl⟩
    have := SlRs.cons a (slrs_fz (H := upd (upd H1 dx (.own x)) x (.ins (He.ga K C) dx [])) r1)
    simpa using this
  · simp only [List.mem_cons, List.not_mem_nil, or_false] at hp
    rcases hp with rfl | rfl
    · exact fx
    · exact fdx
  · cases s with
    | @cons _ _ f0 _ _ f1 s0 s =>
      cases s with
      | @cons _ _ f2 _ _ f3 s1 s2 =>
        obtain ⟨_, y, ey, ry⟩ := s0
        cases ey
        have ev : v = .non := by cases ry; rfl
        have hH2 : ∀ q, upd (upd H1 dx (.own x)) x (.ins (He.ga K C) dx []) q = none → H1 q = none := fun q hq => none_of ex2 hq
        refine ⟨ev, q (.ref x) F' H' f2 ⟨x1.ff.trans e1, fun q o a => ?_, e2, fun q o a => ?_⟩ s1.2 ?_ fun p hp => ?_⟩
        · have a1 := x1.hh q o a
          exact e3 q o (fun z => by
            simp only [List.mem_cons, List.not_mem_nil, or_false] at z
            rcases z with rfl | rfl
            · rw [hx] at a1; cases a1
            · rw [hdx] at a1; cases a1) (ex2 q o a1)
        · have a1 := x1.hh q o a
          exact (e4 q o (ex2 q o a1) (fun z => by
            simp only [List.mem_cons, List.not_mem_nil, or_false] at z
            rcases z with rfl | rfl
            · rw [hx] at a1; cases a1
            · rw [hdx] at a1; cases a1)).trans (x1.old q o a)
        · exact (List.nodup_append.mp (List.nodup_append.mp nd).2.1).1
        · have hp' : p ∈ f0 ++ (f2 ++ f3) := List.mem_append_right _ (List.mem_append_left _ hp)
          refine ⟨none_of x1.hh ?_, e6 p hp'⟩
          rcases e5 p hp' with z | z
          · simp only [List.mem_cons, List.not_mem_nil, or_false] at z
            rcases z with rfl | rfl
            · exact hx
            · exact hdx
          · exact hH2 p z
/-! ### attributes that are set -/
theorem putF_new {f : Str} {v : V} : ∀ {fs : List (Str × V)}, fs.lookup f = none → putF f v fs = fs ++ [(f, v)]
  | [], _ => rfl
  | (g, w) :: fs, h => by
    rw [List.lookup_cons] at h
    cases e : (f == g) with
    | true => rw [e] at h; cases h
    | false =>
      rw [e] at h
      have ng : ¬ g = f := fun z => by subst z; simp at e
      have ih := putF_new (f := f) (v := v) h
      unfold putF
      first
        | (simp [ng, ih]; done)
        | (rw [if_neg ng, ih]; rfl)
/-- self.f = e, a new attribute -/
theorem bm_fldN {i : Nat} {C f : Str} {z : V} {xs : List Str} {ss : List Sl} {m : Option γ} {rs : γ → Sl} {k : γ → Option T} (hi : Γ[i]? = some (.kn z (.ob C xs ss))) (hf : f ∉ xs) (hl : xs.length < 1000) (c : Cls K (He.ga K C)) (n : NoAttr K (He.ga K C) f) (h : EvW K te Γ m rs) (hk : ∀ a, BM K u (Γ.set i (.kn z (.ob C (xs ++ [f]) (ss ++ [rs a])))) (k a) hd) :
    BM K (tSeq (sFld K (tVar i) te f) u) Γ (m.bind k) hd := fun o e F0 B F σ H D ok q => by
  obtain ⟨a, e1, e⟩ := Option.bind_eq_some_iff.mp e
  refine h a e1 F0 B F σ H ok _ fun v F1 H1 fr x1 r nd nw => ?_
  obtain ⟨y, my, g1, g2, g3, gd, g4⟩ := ok.mod hi
  have dom : ∀ q ∈ my, ∃ o, H q = some o := g2.dom
  obtain ⟨ey, p, dx, vs, fps, rfl, ez, b1, b2, b3, b4⟩ := g2
  have : y = some (.ref p) := ez
  subst this
  have dis : ∀ q ∈ fr, q ∉ p :: dx :: fps := fun q hq hm => by
    obtain ⟨o, ho⟩ := dom q hm
    rw [(nw q hq).1] at ho; cases ho
  have pf : p ∉ fr := fun hp => dis p hp (by simp)
  have b1' := x1.hh _ _ b1
  refine ⟨.ref p, g1, p, _, dx, xs.zip vs, rfl, b1', c, n, ?_, ?_⟩
  · rw [List.length_zip, ← b3, Nat.min_self]; exact hl
  · rw [putF_new (zip_no hf)]
    have ezip : xs.zip vs ++ [(f, v)] = (xs ++ [f]).zip (vs ++ [v]) := by rw [List.zip_append b3]; rfl
    rw [ezip]
    obtain ⟨n1, n2⟩ := List.nodup_cons.mp gd
    obtain ⟨n3, n4⟩ := List.nodup_cons.mp n2
    have pd : p ≠ dx := fun z => n1 (by simp [z])
    have f1m : ∀ q ∈ p :: dx :: fps, F1 q = none := fun q hq => by
      obtain ⟨o, ho⟩ := dom q hq
      exact (x1.old q o ho).trans (g3 q hq).1
    have f1p := f1m p (by simp)
    refine hk a o e F0 B F1 _ _ D ?_ q
    have z := g4 F1 (upd H1 p (.ins (He.ga K C) dx ((xs ++ [f]).zip (vs ++ [v])))) (.kn z (.ob C (xs ++ [f]) (ss ++ [rs a]))) (some (.ref p)) (p :: dx :: (fps ++ fr)) x1.ff (fun q o e => by
      rw [upd_ne (fun y => by rw [y, f1p] at e; cases e)]; exact x1.fh q o e) (fun q o nq e => by
      rw [upd_ne (fun y => nq (by simp [y]))]; exact x1.hh q o e) (fun q o e _ => x1.old q o e) ⟨ey, p, dx, vs ++ [v], fps ++ fr, rfl, rfl, upd_same, by rw [upd_ne pd.symm]; exact x1.hh _ _ b2, by simp [b3], ?_⟩ ?_ (fun q hq => ?_) fun q hq => ?_
    · rwa [set_id g1] at z
    · rw [List.map_append]
      refine slrl_iff.mpr ((SlRs.mono x1.ff (slrl_iff.mp b4) fun q hq => ?_).append ?_)
      · rw [upd_ne (fun y => n1 (by rw [← y]; exact List.mem_cons_of_mem _ hq))]
        obtain ⟨o, ho⟩ := dom q (by simp [hq])
        rw [ho]; exact x1.hh q o ho
      · have := SlRs.cons (SlR.mono (Ex.refl F1) r (H' := upd H1 p (.ins (He.ga K C) dx ((xs ++ [f]).zip (vs ++ [v])))) fun q hq => upd_ne (fun y => pf (by rw [← y]; exact hq))) .nil
        simpa using this
    · have : (p :: dx :: (fps ++ fr)) = (p :: dx :: fps) ++ fr := rfl
      rw [this, List.nodup_append]
      exact ⟨gd, nd, fun a ha b hb e => dis b hb (e ▸ ha)⟩
    · simp only [List.mem_cons, List.mem_append] at hq ⊢
      rcases hq with h | h | h | h
      · exact .inl (.inl h)
      · exact .inl (.inr (.inl h))
      · exact .inl (.inr (.inr h))
      · exact .inr (nw q h).1
    · have : q ∈ p :: dx :: fps ∨ q ∈ fr := by
        simp only [List.mem_cons, List.mem_append] at hq ⊢
        rcases hq with h | h | h | h <;> simp [h]
      rcases this with h | h
      · exact f1m q h
      · exact (nw q h).2
/-- xs[i] op= a -/
def rIxL0 (K : PySem.W.Frag) : R2 := fun x y H Q => ∃ p xs i v, x = .ref p ∧ y = .int i ∧ SqL K H p xs ∧ atI xs i = some v ∧ 0 ≤ i ∧ Q v H
theorem get_list {X : Cx} : PGet X (rIxL0 X.K) := by
  intro pins s σ H x y v u Q I rx ry h
  obtain ⟨p, xs, i, z, rfl, rfl, hq, he, h0, q⟩ := h
  cases rx
  obtain ⟨t, rfl⟩ := ry
  obtain ⟨its, r, pl, hz⟩ := I.list hq
  obtain ⟨j, h1, h2, h3, h4, h5⟩ := atI_get he
  obtain ⟨w, ew, rw'⟩ := r.get h2
  have hl := r.length
  have hn := line63
  have hj : i.toNat = j := by
    rw [seqIndex_of h0 h5] at h1
    exact Option.some.inj h1
  exact wpAny_getItem_list pl.isList h0 (by omega) (by rw [hj]; simpa using ew) ⟨z, H, I, rw', q⟩
theorem bm_augL {xs : List Int} {f : Int → Int → Int} {mi ma : Option Int} {G : List D → List Sl} {k : List Int → Option T} (hp : Pl K tp Γ (xs.map enc) G) (hi : EvM K ti Γ mi) (h : EvM K te Γ ma) (hk : ∀ ys : List Int, BM K u (G (ys.map enc)) (k ys) hd) :
    BM K (tSeq (tAugS tp ti te (rIxL0 K) (ipI f) rSetL) u) Γ (mi.bind fun i => ma.bind fun a => if 0 ≤ i then (atI xs i).bind fun b => (stM xs i (f b a)).bind k else none) hd := fun o e F0 B F σ H D ok q => by
  obtain ⟨i, e1, e⟩ := Option.bind_eq_some_iff.mp e
  obtain ⟨a, e2, e⟩ := Option.bind_eq_some_iff.mp e
  split at e
  case isFalse => cases e
  rename_i i0
  obtain ⟨b, e3, e⟩ := Option.bind_eq_some_iff.mp e
  obtain ⟨ys, e4, e⟩ := Option.bind_eq_some_iff.mp e
  unfold stM at e4
  obtain ⟨j, e5, rfl⟩ := Option.map_eq_some_iff.mp e4
  obtain ⟨p, vs, h1, h2, h3, h4, h5⟩ := hp F0 B F σ H ok
  refine h1 _ ?_
  refine hi i e1 F0 B F σ H ok _ fun w F1 H1 x1 r1 => ?_
  have eb : atI (xs.map enc) i = some (enc b) := by
    unfold atI at e3 ⊢
    rw [List.length_map]
    rw [e5] at e3 ⊢
    show (xs.map enc)[j]? = _
    rw [List.getElem?_map, show xs[j]? = some b from e3]; rfl
  obtain ⟨vb, ev, rb⟩ : ∃ vb, atI vs i = some vb ∧ Rep K F vb (enc b) := by
    unfold atI at eb ⊢
    rw [h3.len]
    rw [List.length_map, e5] at eb ⊢
    obtain ⟨v, a1, a2⟩ := h3.get (i := j) eb
    exact ⟨v, a1, a2⟩
  refine ⟨p, vs, i, vb, rfl, r1.int_inv, Evl.sq_of (x1.hh _ _ h2), ev, i0, ?_⟩
  refine h a e2 F0 B F1 σ H1 (ok.ext x1) _ fun w2 F2 H2 x2 r2 => ⟨b, a, rb.int_inv, r2.int_inv, p, vs, i, j, rfl, r1.int_inv, x2.hh _ _ (x1.hh _ _ h2), by rw [h3.len, List.length_map]; exact e5, ?_⟩
  have x12 := x1.trans x2
  have z := h5 F2 H2 (vs.set j (.int (f b a))) ((xs.set j (f b a)).map enc) x12 (by rw [List.map_set]; exact (h3.mono x12.ff).set (.int _) j)
  exact hk _ o e F0 B F2 σ _ D z q
end
end M
/-! M23: attributes and methods where the frame is told outright; makings -/
namespace M
open PySem PySem.Spec PyProof.Rows L2
open Evl (Ex)
open Enc (enc)
/-- a class's body -/
def cBody (s : Stmt) : List Stmt := match s with
  | .ClassDef _ _ _ body .. => body
  | _ => []
section
variable {K : PySem.W.Frag} {Γ Γ' : List Sl} {α β γ δ : Type} [Enc α] [Enc β] {ta tb tc te tp ti : TE} {ma : Option α} {T A S R : Type} {hd : Hdl T} {u w t : TS} {s : Sl} {G : Sl → List Sl}
theorem pe_fldK {X : Cx} {e : Expr} {f : Str} {pos : Pos} (h : X.K = K) (he : PE X e ta) (hb : attributeBase e f X.env (eval e X.env) = eval e X.env) : PE X (.Attribute e f pos) (tFld K ta f) := h ▸ pe_fld he hb
theorem pe_mK {X : Cx} {C m : Str} {o e : Expr} {es : List Expr} {t : TA} {k : Nat} {ps : List Str} {sp : Sp} {apos pos : Pos} {pl : Sem Bool} (h : X.K = K) (he : PE X o ta) (F : FnM X.prog X.w K X.base X.mg k C m ps sp) (hr : Room k X.A) (ha : PA X (e :: es) t)
    (hst : starEach (e :: es) X.env = (false, eval e X.env) :: starEach es X.env := by rfl) (hpl : (backTo pos (starEach es X.env)).any (·.1) = false := by rfl)
    (ht : eval (.Call (.Attribute o m apos) (e :: es) [] pos) X.env = (do
      let ov ← eval o X.env
      standAt apos.atName
      let (f, first) ← holding [ov] (getMethod ov m pl)
      callWith pos f first (backTo pos (starEach (e :: es) X.env)) (backToKw pos (keywordEach [] X.env))) := by rfl) :
    PE X (.Call (.Attribute o m apos) (e :: es) [] pos) (tMeth (He.ga K C) m sp [] E0 ta t) := by
  subst h; exact pe_m he F hr ha hst hpl ht
theorem pe_m0K {X : Cx} {C m : Str} {o : Expr} {k : Nat} {ps : List Str} {sp : Sp} {apos pos : Pos} {pl : Sem Bool} (h : X.K = K) (he : PE X o ta) (F : FnM X.prog X.w K X.base X.mg k C m ps sp) (hr : Room k X.A)
    (ht : eval (.Call (.Attribute o m apos) [] [] pos) X.env = (do
      let ov ← eval o X.env
      standAt apos.atName
      let (f, first) ← holding [ov] (getMethod ov m pl)
      callWith pos f first (backTo pos (starEach [] X.env)) (backToKw pos (keywordEach [] X.env))) := by rfl) :
    PE X (.Call (.Attribute o m apos) [] [] pos) (tMeth (He.ga K C) m sp [] E0 ta tNil) := by
  subst h; exact pe_m0 he F hr ht
theorem pe_mkK {X : Cx} {x : Str} {p pos : Pos} {e : Expr} {es : List Expr} {t : TA} {k : Nat} {ps : List Str} {sp : Sp} (h : X.K = K) (F : FnC X.prog X.w K X.base X.mg k x ps sp) (hr : Room (k + 1) X.A) (hg : Gl X x) (ha : PA X (e :: es) t)
    (hdb : (x == ("__debug__" : Str)) = false := by decide) (he : starEach (e :: es) X.env = (false, eval e X.env) :: starEach es X.env := by rfl) (hpl : (backTo pos (starEach es X.env)).any (·.1) = false := by rfl) :
    PE X (.Call (.Name x p) (e :: es) [] pos) (tMake (He.ga K x) sp [] E0 t) := by
  subst h; exact pe_mk F hr hg ha hdb he hpl
theorem pe_mk0K {X : Cx} {x : Str} {p pos : Pos} {k : Nat} {ps : List Str} {sp : Sp} (h : X.K = K) (F : FnC X.prog X.w K X.base X.mg k x ps sp) (hr : Room (k + 1) X.A) (hg : Gl X x)
    (hdb : (x == ("__debug__" : Str)) = false := by decide) :
    PE X (.Call (.Name x p) [] [] pos) (tMake (He.ga K x) sp [] E0 tNil) := by
  subst h; exact pe_mk0 F hr hg hdb
theorem ew_m (h : EvM K te Γ ma) : EvW K te Γ ma (fun a => .f a) := fun a e F0 B F σ H k Q q =>
  h a e F0 B F σ H k Q fun v F' H' x r => q v F' H' [] x ⟨rfl, v, rfl, r⟩ List.nodup_nil fun p hp => by cases hp
theorem ew_dnew : EvW K tDNewK Γ (some (⟨[]⟩ : Dk α)) (fun d => .od d) := fun a e F0 B F σ H k Q q p hp => by
  cases e
  exact q _ F _ [p] (Ext.newOwn k.fh hp) ⟨p, [], rfl, rfl, upd_same, .nil⟩ (by simp) fun z hz => by rw [List.mem_singleton.mp hz]; exact ⟨hp, none_of k.fh hp⟩
theorem em_join {m : Option (Option α)} (h : EvM K te Γ m) : EvM K te Γ (m.bind fun z => z) := fun b e F0 B F σ H k Q q => by
  obtain ⟨o, e1, e2⟩ := Option.bind_eq_some_iff.mp e
  subst e2
  exact h _ e1 F0 B F σ H k Q q
theorem em_joinP {o : Option α} (h : EvM K te Γ (some o)) : EvM K te Γ o := em_join h
theorem noTs_o2 : ∀ xs : List (List D), noTs (xs.map Sl.own) = true
  | [] => rfl
  | x :: xs => by
    rw [List.map_cons, noTs, noTs_o2 xs]; rfl
theorem noT_o2 {xs : List (List α)} : noT (.o2 xs) = true := by
  have := noTs_o2 (xs.map fun l => l.map enc)
  rw [List.map_map] at this
  exact this
/-- a new dict stays, or is told apart -/
theorem em_od {m : Option (Dk α)} (h : EvW K te Γ m (fun d => .od d)) : EvM K te Γ m := em_w h fun _ => rfl
end
end M
/-! M24: what stands beside while an argument is read; tuples of own things; loops whose test changes things -/
namespace M
open PySem PySem.Spec PyProof.Rows L2
open Evl (Ex)
open Enc (enc)
section
variable {K : PySem.W.Frag} {Γ Γ' Δ : List Sl} {α β γ δ : Type} [Enc α] [Enc β] {ta tb tc te tp ti : TE} {ma : Option α} {T A S R : Type} {hd : Hdl T} {u w t : TS} {s : Sl}
open Classical in
theorem Ok.frame {F0 B F H : Hp} {σ ws : L2.St} (k : Ok K F0 B F (Δ ++ Γ) (ws ++ σ) H) (hl : Δ.length = ws.length) : ∃ B', Ok K F B' F Γ σ H ∧ ∀ (F' H' : Hp) (Γ2 : List Sl) (σ2 : L2.St), Ok K F B' F' Γ2 σ2 H' → Ok K F0 B F' (Δ ++ Γ2) (ws ++ σ2) H' := by
  obtain ⟨fp, h1, h2, h3⟩ := k.sl
  obtain ⟨fa, fb, rfl, s1, s2⟩ := SlRs.split hl h1
  obtain ⟨n1, n2, n3⟩ := List.nodup_append.mp h2
  let B' : Hp := fun q => if q ∈ fa then H q else B q
  have bin : ∀ q, q ∈ fa → B' q = H q := fun q hq => if_pos hq
  have bout : ∀ q, q ∉ fa → B' q = B q := fun q hq => if_neg hq
  have fan : ∀ q o, B q = some o → q ∉ fa := fun q o b z => by rw [(h3 q (List.mem_append_left _ z)).2] at b; cases b
  refine ⟨B', ⟨Ex.refl F, k.fh, fun q o b => ?_, fun _ _ _ => rfl, fb, s2, n2, fun p hp => ⟨(h3 p (List.mem_append_right _ hp)).1, ?_⟩⟩, fun F' H' Γ2 σ2 k2 => ?_⟩
  · by_cases hq : q ∈ fa
    · rw [bin q hq] at b; exact b
    · rw [bout q hq] at b; exact k.bh q o b
  · rw [bout p fun z => n3 p z p hp rfl]; exact (h3 p (List.mem_append_right _ hp)).2
  · obtain ⟨fc, t1, t2, t3⟩ := k2.sl
    have hin : ∀ q ∈ fa, ∃ o, H q = some o ∧ B' q = some o := fun q hq => by
      obtain ⟨o, ho⟩ := s1.dom q hq
      exact ⟨o, ho, by rw [bin q hq]; exact ho⟩
    have s1' : SlRs K F' H' Δ ws fa := s1.mono k2.f0 fun q hq => by
      obtain ⟨o, ho, hb⟩ := hin q hq
      rw [ho]; exact k2.bh q o hb
    refine ⟨k.f0.trans k2.f0, k2.fh, fun q o b => k2.bh q o (by rw [bout q (fan q o b)]; exact b), fun q o b => (k2.nb q o (by rw [bout q (fan q o b)]; exact b)).trans (k.nb q o b), fa ++ fc, s1'.append t1, ?_, fun p hp => ?_⟩
    · rw [List.nodup_append]
      refine ⟨n1, t2, fun a ha b hb e => ?_⟩
      subst e
      obtain ⟨o, ho, hb'⟩ := hin a ha
      rw [(t3 a hb).2] at hb'; cases hb'
    · rcases List.mem_append.mp hp with hp | hp
      · obtain ⟨o, ho, hb⟩ := hin p hp
        exact ⟨(k2.nb p o hb).trans (h3 p (List.mem_append_left _ hp)).1, (h3 p (List.mem_append_left _ hp)).2⟩
      · refine ⟨(t3 p hp).1, ?_⟩
        have z := (t3 p hp).2
        by_cases hq : p ∈ fa
        · obtain ⟨o, ho, hb⟩ := hin p hq
          rw [z] at hb; cases hb
        · rw [bout p hq] at z; exact z
/-- an argument that may change things -/
theorem eg_es {tr : TA} {c : γ} {rs : γ → Sl} {G : γ → List Sl} {ss : List Sl} (h : EvS K te Γ (some c) rs G) (hr : EvG K tr (G c) Γ' ss) : EvG K (tCons te tr) Γ Γ' (rs c :: ss) := fun F0 B F Δ ws σ H hl k Q q => by
  obtain ⟨B', k1, back⟩ := k.frame hl
  refine h c rfl F B' F σ H k1 _ fun v F1 H1 k2 => ?_
  have k3 := back F1 H1 _ _ k2
  have k4 : Ok K F0 B F1 ((Δ ++ [rs c]) ++ G c) ((ws ++ [some v]) ++ σ) H1 := by simpa using k3
  refine hr F0 B F1 (Δ ++ [rs c]) (ws ++ [some v]) σ H1 (by simp [hl]) k4 _ fun vs F2 H2 hv k5 => ?_
  exact q (v :: vs) F2 H2 (by simp [hv]) (by simpa using k5)
theorem es_mvP {G : Sl → List Sl} {c : γ} {rs : γ → Sl} (P : Pt K te Γ s G) (hr : rs c = s) : EvS K te Γ (some c) rs (fun _ => G .no) := fun c' e F0 B F σ H k Q q => by
  cases e
  obtain ⟨v, m, h1, h2, h3, nd, h4⟩ := P F0 B F σ H k
  refine h1 Q (q v F H ?_)
  have a : SlRs K F H [s] [some v] (m ++ []) := .cons h2 .nil
  rw [hr]
  exact h4 F H [s] [some v] .no (m ++ []) [] (Ex.refl F) k.fh (fun _ _ _ e => e) (fun _ _ _ _ => rfl) a rfl (by simpa using nd) (fun p hp => .inl (by simpa using hp)) fun p hp => (h3 p (by simpa using hp)).1
/-- a tuple of own things -/
theorem es_tup {tr : TA} {c : γ} {rs : γ → Sl} {ss : List Sl} (h : EvG K tr Γ Γ' ss) (hl : ss.length ≤ 1000) (hr : rs c = .ot_ ss) : EvS K (tTup tr) Γ (some c) rs (fun _ => Γ') := fun c' e F0 B F σ H k Q q => by
  cases e
  refine h F0 B F [] [] σ H rfl k _ fun vs F1 H1 hv k1 => ⟨size_small (by rw [hv]; exact hl), fun p hp => ?_⟩
  refine q (.ref p) F1 (upd H1 p (.tup vs)) ?_
  simp only [List.nil_append] at k1
  have k2 := k1.ext (Ext.newOwn k1.fh hp (o := .tup vs))
  obtain ⟨fp, s0, s2, s3⟩ := k1.sl
  have hpf : p ∉ fp := fun hm => by
    obtain ⟨o, ho⟩ := s0.dom p hm
    rw [hp] at ho; cases ho
  have s1 : SlRs K F1 (upd H1 p (.tup vs)) (ss ++ Γ') (vs.map some ++ σ) fp := s0.mono (Ex.refl F1) fun q hq => upd_ne (fun y => hpf (by rw [← y]; exact hq))
  obtain ⟨fa, fb, rfl, t1, t2⟩ := SlRs.split (by rw [List.length_map, hv]) s1
  rw [hr]
  refine ⟨k2.f0, k2.fh, k2.bh, k2.nb, (p :: fa) ++ fb, .cons ⟨p, vs, fa, rfl, rfl, upd_same, slrl_iff.mpr t1⟩ t2, ?_, fun q hq => ?_⟩
  · rw [List.cons_append, List.nodup_cons]; exact ⟨hpf, s2⟩
  · rw [List.cons_append] at hq
    rcases List.mem_cons.mp hq with rfl | hq
    · exact ⟨none_of k1.fh hp, none_of k1.bh hp⟩
    · exact s3 q hq
/-- while a changing test: .. -/
theorem bm_whileTS {c : TT} {tb : TS} {G : S → List Sl} {s0 : S} {mc : S → Option γ} {b : γ → Bool} {Gc : γ → List Sl} {f : γ → Option S} {e : γ → S} {k : S → Option T}
    (hs : Sub Γ (G s0)) (hc : ∀ s, EvTS K c (G s) (mc s) b Gc) (he : ∀ x, Sub (Gc x) (G (e x))) (hb : ∀ x, BM K tb (Gc x) (f x) (hdCN K G)) (hk : ∀ s, BM K u (G s) (k s) hd) :
    BM K (tSeq (tWhile c tb) u) Γ ((whileS (R := Empty) (fun _ => some true) (fun s => (mc s).bind fun x => if b x = true then (f x).map Stp.go else some (Stp.bk (e x))) s0).bind fun o => match o with | .dn s => k s | .rt r => r.elim) hd := fun o eo F0 B F σ H D ok q => by
  obtain ⟨lo, e2, eo⟩ := Option.bind_eq_some_iff.mp eo
  obtain ⟨n, e2⟩ := whileS_iff.mp e2
  refine ⟨fun m σ H => ∃ s F2, Ok K F0 B F2 (G s) σ H ∧ wl (R := Empty) (fun _ => some true) (fun s => (mc s).bind fun x => if b x = true then (f x).map Stp.go else some (Stp.bk (e x))) m s = some lo, ⟨n, s0, F, ok.sub hs, e2⟩, ?_⟩
  rintro m σ2 H2 ⟨s, F2, ok2, run2⟩
  cases m with
  | zero => cases run2
  | succ m =>
    rw [wl, Option.bind_some, if_pos rfl] at run2
    cases em : mc s with
    | none => rw [em] at run2; cases run2
    | some x =>
      rw [em] at run2
      simp only [Option.bind_some] at run2
      refine hc s x em F0 B F2 σ2 H2 ok2 _ fun F3 H3 ok3 => ?_
      cases hbx : b x with
      | false =>
        rw [hbx, if_neg Bool.false_ne_true] at run2
        cases run2
        exact hk (e x) o eo F0 B F3 σ2 H3 D (ok3.sub (he x)) q
      | true =>
        rw [hbx, if_pos rfl] at run2
        refine ⟨fun σ' H' => ∃ s F3, Ok K F0 B F3 (G s) σ' H' ∧ wl (R := Empty) (fun _ => some true) (fun s => (mc s).bind fun x => if b x = true then (f x).map Stp.go else some (Stp.bk (e x))) m s = some lo, fun σ' H' h => ⟨m, Nat.lt_succ_self _, h⟩, ?_⟩
        cases ef : f x with
        | none => rw [ef] at run2; cases run2
        | some s' =>
          rw [ef] at run2
          exact hb x s' ef F0 B F3 σ2 H3 _ ok3 fun F σ H k => ⟨⟨s', F, k, run2⟩, ⟨s', F, k, run2⟩⟩
theorem bm_whileTS' {c : TT} {tb : TS} {G : S → List Sl} {s0 : S} {mc : S → Option γ} {b : γ → Bool} {Gc : γ → List Sl} {f : γ → Option S} {e : γ → S} {k : S → Option T}
    (hs : Sub Γ (G s0)) (hc : ∀ s, EvTS K c (G s) (mc s) b Gc) (he : ∀ x, Sub (Gc x) (G (e x))) (hb : ∀ x, BM K tb (Gc x) (f x) (hdCN K G)) (hk : ∀ s, BM K u (G s) (k s) hd) :
    BM K (tSeq (tWhile c tb) u) Γ ((whileS (R := Empty) (fun _ => some true) (fun s => (mc s).bind fun x => if b x = true then (f x).map Stp.go else some (Stp.bk (e x))) s0).bind (Lo.fin k (fun r => r.elim))) hd := by
  refine bm_eq (bm_whileTS hs hc he hb hk) ?_
  congr 1
  funext o
  cases o with
  | dn s => rfl
  | rt r => exact r.elim
/-- a part of the script -/
theorem en_sliceC {tl th : TO} {m : Option Scr} {ml mh : Option (Option Int)} (h : EvM K te Γ m) (hl : EvO K tl Γ ml) (hh : EvO K th Γ mh) : EvN K (tSl (rSlL K) te tl th) Γ (m.bind fun xs => ml.bind fun l => mh.bind fun r => some (cutL xs.ns l r)) := fun a e F0 B F σ H k Q q => by
  obtain ⟨xs, e1, e⟩ := Option.bind_eq_some_iff.mp e
  obtain ⟨l, e2, e⟩ := Option.bind_eq_some_iff.mp e
  obtain ⟨r, e3, e⟩ := Option.bind_eq_some_iff.mp e
  cases e
  refine h xs e1 F0 B F σ H k _ fun v F1 H1 x1 r1 => ?_
  obtain ⟨p, rfl, hS⟩ := r1.scr_inv
  refine hl l e2 F0 B F1 σ H1 (k.ext x1) _ fun F2 H2 x2 => ?_
  refine hh r e3 F0 B F2 σ H2 (k.ext (x1.trans x2)) _ fun F3 H3 x3 => ⟨p, _, rfl, Evl.ex_l (x1.fh.trans (x2.hh.trans x3.hh)) hS, fun p' hp => ?_⟩
  have x13 := (x1.trans x2).trans x3
  refine q p' _ F3 _ (x13.trans (Ext.newOwn x3.fh hp)) (Evl.fresh_back x13.hh hp) (none_of x3.fh hp) upd_same ?_
  unfold cutV cutL
  rw [List.length_map, ← List.map_drop, ← List.map_take]
  refine ⟨by simp, fun i v d a b => ?_⟩
  rw [List.getElem?_map] at a b
  obtain ⟨n, en, rfl⟩ := Option.map_eq_some_iff.mp a
  rw [en] at b
  cases b
  exact .int n
theorem en_sliceCP {tl th : TO} {a : Scr} {l r : Option Int} (h : EvM K te Γ (some a)) (hl : EvO K tl Γ (some l)) (hh : EvO K th Γ (some r)) : EvN K (tSl (rSlL K) te tl th) Γ (some (cutL a.ns l r)) := en_sliceC h hl hh
/-- a dict of one's own, locked while it is walked -/
def lkD (d : Dk α) : D := .lkd (d.kvs.map fun p => (p.1, enc p.2))
theorem ei_vals {i : Nat} {d : Dk α} (h : Γ[i]? = some (.fz (lkD d))) : EvI K (iVals (tVar i)) Γ (some (d.kvs.map (·.2))) := fun a e F0 B F σ H k R q => by
  cases e
  obtain ⟨v, m, h1, h2, _⟩ := k.mod h
  obtain ⟨_, x, rfl, r⟩ := h2
  cases r with
  | @lkd p od vs ds h hk hr =>
    have hl : vs.length = d.kvs.length := by have := congrArg List.length hk; simpa using this
    refine ⟨_, h1, p, od, vs, rfl, k.fh _ _ h, q _ F H (Ext.refl k.fh) ⟨fun F1 H1 I => ⟨I.2 _ _ (I.1 _ _ h), by rw [List.length_map, hl]; exact Nat.le_refl _⟩, fun F1 H1 I ex j x hx => ⟨⟨I.2 _ _ (I.1 _ _ h), ?_⟩, fun v H2 y => ?_⟩⟩⟩
    · rw [List.getElem?_map] at hx
      obtain ⟨z, hz, _⟩ := Option.map_eq_some_iff.mp hx
      have := (List.getElem?_eq_some_iff.mp hz).1
      omega
    · obtain ⟨rfl, k1, hv⟩ := y
      rw [List.getElem?_map] at hx
      obtain ⟨z, hz, rfl⟩ := Option.map_eq_some_iff.mp hx
      exact ⟨F1, Ext.refl ex, (hr j k1 v z.1 (enc z.2) hv (by rw [List.getElem?_map, hz]; rfl)).mono I.1⟩
open Classical in
theorem en_lock [Im β] {i : Nat} {d : Dk α} {m : Option (List β)} (hi : Γ[i]? = some (.od d)) (h : EvN K te (Γ.set i (.fz (lkD d))) m) : EvN K (tLockE te) Γ m := fun a e F0 B F σ H k Q q => by
  obtain ⟨v, mm, h1, h2, h3, nd, h4⟩ := k.mod hi
  obtain ⟨p, vs, rfl, rfl, b1, b2⟩ := h2
  have fp := (h3 p (by simp)).1
  refine ⟨p, _, b1, trivial, fun od => ?_⟩
  have ex : Ex F (upd F p (.frz od (.dK vs))) := Ex.new fp
  have z := h4 (upd F p (.frz od (.dK vs))) (upd H p (.frz od (.dK vs))) (.fz (lkD d)) (some (.ref p)) [] ex (fun q o e => by
    by_cases y : q = p
    · subst y; rw [upd_same] at e; cases e; exact upd_same
    · rw [upd_ne y] at e ⊢; exact k.fh q o e) (fun q o nq e => by rw [upd_ne (fun y => nq (by simp [y]))]; exact e) (fun q o e nq => upd_ne (fun y => nq (by simp [y]))) ⟨rfl, _, rfl, .lkd upd_same b2.keys (b2.mono ex).at_⟩ List.nodup_nil (fun p hp => by cases hp) fun p hp => by cases hp
  rw [set_id h1] at z
  refine h a e F0 B _ σ _ z _ fun p' ws F' H' y g1 g2 g3 r => ?_
  have hp' : H' p = some (.frz od (.dK vs)) := y.hh _ _ upd_same
  have fp' : F' p = some (.frz od (.dK vs)) := y.ff _ _ upd_same
  have ne : p' ≠ p := fun e => by rw [e, upd_same] at g1; cases g1
  refine ⟨hp', ?_⟩
  refine q p' ws (fun q => if q = p then none else F' q) (upd H' p (.dK vs)) ⟨fun q o e => ?_, fun q o e => ?_, fun q o e => ?_, fun q o e => ?_⟩ ?_ ?_ ?_ ?_
  · have n : q ≠ p := fun y => by rw [y, fp] at e; cases e
    show (if q = p then none else F' q) = some o
    rw [if_neg n]
    exact y.ff q o (ex q o e)
  · by_cases n : q = p
    · subst n; rw [b1] at e; cases e; exact upd_same
    · rw [upd_ne n]; exact y.hh q o (by rw [upd_ne n]; exact e)
  · have e : (if q = p then none else F' q) = some o := e
    split at e
    · cases e
    · rename_i n; rw [upd_ne n]; exact y.fh q o e
  · show (if q = p then none else F' q) = F q
    split
    · rename_i n; rw [n, fp]
    · rename_i n; exact (y.old q o (by rw [upd_ne n]; exact e)).trans (upd_ne n)
  · rw [upd_ne ne] at g1; exact g1
  · show (if p' = p then none else F' p') = none
    rw [if_neg ne]; exact g2
  · rw [upd_ne ne]; exact g3
  · refine reps_im r fun t o ht e => ?_
    show (if t = p then none else F' t) = _
    rw [if_neg (fun n => by rw [n, fp'] at e; cases e; cases ht)]; exact e
theorem pi_listK {X : Cx} {tg l : Expr} {tl : TE} (h : X.K = K) (hl : PE X l tl) : PI X tg l (iList K tl) := h ▸ pi_list hl
theorem pi_tupK {X : Cx} {tg l : Expr} {tl : TE} (h : X.K = K) (hl : PE X l tl) : PI X tg l (iTup K tl) := h ▸ pi_tup hl
/-- the slots, written out -/
theorem bm_at (Γ : List Sl) {m : Option T} (h : BM K t Γ m hd) : BM K t Γ m hd := h
/-- the same data under another kind -/
theorem em_re {f : α → β} (hf : ∀ a, (enc (f a) : D) = enc a) {m : Option α} (h : EvM K te Γ m) : EvM K te Γ (m.bind fun a => some (f a)) := fun b e F0 B F σ H k Q q => by
  obtain ⟨a, e1, e⟩ := Option.bind_eq_some_iff.mp e
  cases e
  exact h a e1 F0 B F σ H k Q fun v F' H' x r => q v F' H' x (by rw [hf]; exact r)
theorem em_re2 {m : Option (α × α)} (h : EvM K te Γ m) : EvM K te Γ (m.bind fun a => some (Tu.mk [a.1, a.2])) := em_re (f := fun a : α × α => Tu.mk [a.1, a.2]) (fun _ => rfl) h
theorem em_re2P {a : α × α} (h : EvM K te Γ (some a)) : EvM K te Γ (some (Tu.mk [a.1, a.2])) := em_re2 h
theorem em_re3 {m : Option (T3 α α α)} (h : EvM K te Γ m) : EvM K te Γ (m.bind fun a => some (Tu.mk [a.a, a.b, a.c])) := em_re (f := fun a : T3 α α α => Tu.mk [a.a, a.b, a.c]) (fun _ => rfl) h
theorem em_re3P {a : T3 α α α} (h : EvM K te Γ (some a)) : EvM K te Γ (some (Tu.mk [a.a, a.b, a.c])) := em_re3 h
/-- loops over own lists whose place is known -/
theorem heldK_ok {F0 B F H : Hp} {σ : L2.St} {i : Nat} {p : Addr} {xs : List α} (k : Ok K F0 B F Γ σ H) (hi : Γ[i]? = some (.kn (.ref p) (.o xs))) : ∃ vs, SqL K H p vs ∧ Reps K F vs (xs.map enc) := by
  obtain ⟨w, m, h1, h2, _⟩ := k.mod hi
  obtain ⟨ew, q, vs, _, eq, e1, e2⟩ := h2
  rw [ew] at eq; cases eq
  exact ⟨vs, Evl.sq_of e1, e2⟩
theorem bm_forOK {l : Nat} {w : V} {xs : List α} {g : TG} {tb : TS} {G : S → List Sl} {s0 : S} {Γx : S → α → List Sl} {f : S → α → Option S} {k : S → Option T}
    (hx : Γ[l]? = some (.kn w (.o xs))) (hs : Sub Γ (G s0)) (hG : ∀ s, (G s)[l]? = some (.kn w (.o xs)))
    (hg : ∀ s x, TgM K g (G s) x (Γx s x)) (hb : ∀ s x, BM K tb (Γx s x) (f s x) (hdCN K G)) (hk : ∀ s, BM K u (G s) (k s) hd) :
    BM K (tSeq (tFor (iList K (tVar l)) g tb) u) Γ ((xs.foldlM f s0).bind k) hd := fun o e F0 B F σ H D ok q => by
  obtain ⟨s1, e2, e⟩ := Option.bind_eq_some_iff.mp e
  obtain ⟨v, m, h1, h2, _⟩ := ok.mod hx
  obtain ⟨ew, p, vs, _, ep, b1, b2⟩ := h2
  subst ep
  cases ew
  refine ⟨_, h1, p, rfl, ⟨vs, Evl.sq_of b1⟩, ?_⟩
  refine for_core (R := Empty) (F1 := F) (D := { D with nx := u D }) (G := G) (f := fun s x => (f s x).map Stp.go) (hr := fun _ _ _ _ => True) (I := fun F H => ∃ vs, SqL K H p vs ∧ Reps K F vs (xs.map enc)) rt_none (itl_ok fun _ _ i => i) (fun s F2 σ2 H2 e2 k2 => heldK_ok k2 (hG s)) hg (fun s x o' e' F0 B F σ H D ok q => ?_) (run := fun xs s => (xs.foldlM f s).map Lo.dn) (fun s => rfl) (fun x xs s => ?_) (by rw [e2]; rfl) (ok.sub hs) (fun s es F σ H k2 => ?_) (fun r => r.elim)
  · obtain ⟨a, e3, rfl⟩ := Option.map_eq_some_iff.mp e'
    exact hb s x a e3 F0 B F σ H D ok q
  · rw [foldM_cons]
    cases f s x <;> rfl
  · cases es
    exact hk s1 o e F0 B F σ H D k2 q
theorem bm_forOKS {l : Nat} {w : V} {xs : List α} {g : TG} {tb : TS} {G : S → List Sl} {s0 : S} {Γx : S → α → List Sl} {f : S → α → Option (Stp S R)} {hr : Hdl R} {k : S → Option T} {ρ : R → T} (rt : RtOnly hr) (hρ : ∀ r F0 B D, hd (ρ r) F0 B D → hr r F0 B D)
    (hx : Γ[l]? = some (.kn w (.o xs))) (hs : Sub Γ (G s0)) (hG : ∀ s, (G s)[l]? = some (.kn w (.o xs)))
    (hg : ∀ s x, TgM K g (G s) x (Γx s x)) (hb : ∀ s x, BM K tb (Γx s x) (f s x) (hdSN K G hr)) (hk : ∀ s, BM K u (G s) (k s) hd) :
    BM K (tSeq (tFor (iList K (tVar l)) g tb) u) Γ ((loopM f xs s0).bind (Lo.fin k ρ)) hd := fun o e F0 B F σ H D ok q => by
  obtain ⟨lo, e2, e⟩ := Option.bind_eq_some_iff.mp e
  obtain ⟨v, m, h1, h2, _⟩ := ok.mod hx
  obtain ⟨ew, p, vs, _, ep, b1, b2⟩ := h2
  subst ep
  cases ew
  refine ⟨_, h1, p, rfl, ⟨vs, Evl.sq_of b1⟩, ?_⟩
  refine for_core (F1 := F) (D := { D with nx := u D }) (G := G) (I := fun F H => ∃ vs, SqL K H p vs ∧ Reps K F vs (xs.map enc)) rt (itl_ok fun _ _ i => i) (fun s F2 σ2 H2 e2 k2 => heldK_ok k2 (hG s)) hg hb (run := loopM f) (fun _ => rfl) (fun x xs s => by rw [loopM]) e2 (ok.sub hs) (fun s es F σ H k2 => ?_) fun r er => ?_
  · subst es
    exact hk s o e F0 B F σ H D k2 q
  · subst er
    cases e
    exact rt r F0 B D _ rfl (hρ r F0 B D q)
end
/-- a tuple of own lists of one kind -/
abbrev Sl.t2 {α : Type} [Enc α] (a : List (List α)) : Sl := .ot_ (a.map fun l => Sl.own (l.map enc))
section
variable {K : PySem.W.Frag} {Γ Γ' : List Sl} {α β γ δ : Type} [Enc α] {ta tb tc te tp : TE} {ma : Option α} {T A S R : Type} {hd : Hdl T} {u w : TS}
open Classical in
/-- one of the own lists goes to a name, the others stand beside -/
theorem Ok.lendT {F0 B F : Hp} {σ : L2.St} {H : Hp} {l x j : Nat} {L : List (List α)} {a : List α} {p : Addr} {vs : List V} {s : Sl} (k : Ok K F0 B F Γ σ H) (hl : Γ[l]? = some (.t2 L)) (hj : L[j]? = some a) (hx : Γ[x]? = some s) (hlx : l ≠ x) (ep : σ[l]? = some (some (.ref p))) (ev : H p = some (.tup vs)) :
    ∃ (q : Addr) (B' : Hp), vs[j]? = some (.ref q) ∧ Ok K F B' F ((Γ.set l (.kn (.ref p) .no)).set x (.kn (.ref q) (.o a))) (σ.set x (some (.ref q))) H ∧
      ∀ (F' : Hp) (σ' : L2.St) (H' : Hp) (a' : List α) (Γr : List Sl), Γr[l]? = some (.kn (.ref p) .no) → Γr[x]? = some (.kn (.ref q) (.o a')) → Ok K F B' F' Γr σ' H' → Ok K F0 B F' ((Γr.set x .no).set l (.t2 (L.set j a'))) σ' H' ∧ H' p = some (.tup vs) ∧ σ'[l]? = some (some (.ref p)) := by
  obtain ⟨fp, s1, s2, s3⟩ := k.sl
  obtain ⟨v, fl, m, fr, a1, rfl, a3, a4⟩ := s1.at hl
  rw [ep] at a1; cases a1
  obtain ⟨p', vs', fps, rfl, ev', b1, b2⟩ := a3
  cases ev'
  rw [ev] at b1; cases b1
  have hj' : (L.map fun l => Sl.own (l.map enc))[j]? = some (.own (a.map enc)) := by rw [List.getElem?_map, hj]; rfl
  obtain ⟨v, gl, m, gr, c1, rfl, c3, c4⟩ := slrl_at b2 hj'
  obtain ⟨q, ws, rfl, evq, d1, d2⟩ := c3
  cases evq
  -- what stands beside from now on
  let S : Addr → Prop := fun y => y = p ∨ y ∈ gl ++ gr
  let B' : Hp := fun y => if S y then H y else B y
  have z := a4 F H (.kn (.ref p) .no) (some (.ref p)) [] (Ex.refl F) (fun _ _ => rfl) ⟨rfl, rfl⟩
  rw [set_id ep] at z
  -- all addresses are unlike
  have nd : (fl ++ (p :: (gl ++ [q] ++ gr)) ++ fr).Nodup := s2
  have out : ∀ y ∈ fl ++ [] ++ fr, ¬ S y ∧ y ≠ q := fun y hy => by
    rw [List.append_nil] at hy
    rw [List.nodup_append, List.nodup_append] at nd
    obtain ⟨⟨n1, n2, n3⟩, n4, n5⟩ := nd
    have inm : ∀ y, (y = p ∨ y ∈ gl ++ gr ∨ y = q) → y ∈ p :: (gl ++ [q] ++ gr) := fun y h => by
      simp only [List.mem_append, List.mem_cons, List.not_mem_nil, or_false] at h ⊢
      rcases h with h | (h | h) | h <;> simp [h]
    rcases List.mem_append.mp hy with h | h
    · refine ⟨fun s => ?_, fun e => n3 y h y (inm y (.inr (.inr e))) rfl⟩
      rcases s with s | s
      · exact n3 y h y (inm y (.inl s)) rfl
      · exact n3 y h y (inm y (.inr (.inl s))) rfl
    · refine ⟨fun s => ?_, fun e => n5 y (List.mem_append_right _ (inm y (.inr (.inr e)))) y h rfl⟩
      rcases s with s | s
      · exact n5 y (List.mem_append_right _ (inm y (.inl s))) y h rfl
      · exact n5 y (List.mem_append_right _ (inm y (.inr (.inl s)))) y h rfl
  have qS : ¬ S q := fun s => by
    rw [List.nodup_append, List.nodup_append] at nd
    have n := nd.1.2.1
    rw [List.nodup_cons, List.nodup_append, List.nodup_append] at n
    rcases s with s | s
    · exact n.1 (by rw [← s]; simp)
    · rcases List.mem_append.mp s with h | h
      · exact n.2.1.2.2 q h q (by simp) rfl
      · exact n.2.2.2 q (by simp) q h rfl
  have memS : ∀ y, S y → y ∈ fl ++ (p :: (gl ++ [q] ++ gr)) ++ fr := fun y s => by
    rcases s with s | s
    · simp [s]
    · rcases List.mem_append.mp s with h | h <;> simp [h]
  have qm : q ∈ fl ++ (p :: (gl ++ [q] ++ gr)) ++ fr := by simp
  have hB : ∀ y, S y → B y = none := fun y s => (s3 y (memS y s)).2
  have hF : ∀ y, S y → F y = none := fun y s => (s3 y (memS y s)).1
  have ok0 : Ok K F B' F (.kn (.ref q) (.o a) :: Γ.set l (.kn (.ref p) .no)) (some (.ref q) :: σ) H := by
    refine ⟨Ex.refl F, k.fh, fun y o e => ?_, fun _ _ _ => rfl, [q] ++ (fl ++ [] ++ fr), .cons ⟨rfl, q, ws, rfl, rfl, d1, d2⟩ z, ?_, fun y hy => ?_⟩
    · by_cases s : S y
      · have : B' y = H y := if_pos s
        rw [this] at e; exact e
      · have : B' y = B y := if_neg s
        rw [this] at e; exact k.bh y o e
    · rw [List.append_nil, List.nodup_append]
      refine ⟨by simp, ?_, fun y hy y' hy' e => ?_⟩
      · rw [List.nodup_append, List.nodup_append] at nd
        rw [List.nodup_append]
        exact ⟨nd.1.1, nd.2.1, fun y hy y' hy' => nd.2.2 y (List.mem_append_left _ hy) y' hy'⟩
      · rw [List.mem_singleton.mp hy] at e
        exact (out y' (by rw [List.append_nil]; exact hy')).2 e.symm
    · rcases List.mem_append.mp hy with hy | hy
      · rw [List.mem_singleton.mp hy]
        exact ⟨(s3 q qm).1, (if_neg qS : B' q = B q).trans (s3 q qm).2⟩
      · have o := out y hy
        rw [List.append_nil] at hy
        have hm : y ∈ fl ++ (p :: (gl ++ [q] ++ gr)) ++ fr := by
          rcases List.mem_append.mp hy with h | h <;> simp [h]
        exact ⟨(s3 y hm).1, (if_neg o.1 : B' y = B y).trans (s3 y hm).2⟩
  have hx' : (Γ.set l (.kn (.ref p) .no))[x]? = some s := by rw [List.getElem?_set_ne hlx]; exact hx
  refine ⟨q, B', c1, ok0.mv hx', fun F' σ' H' a' Γr hrl hrx k' => ?_⟩
  obtain ⟨fq, t1, t2, t3⟩ := k'.sl
  obtain ⟨v, hl', m', hr', e1, rfl, e3, e4⟩ := t1.at hrx
  obtain ⟨ev1, q1, ws1, rfl, ev2, g1, g2⟩ := e3
  rw [ev1] at ev2; cases ev2
  subst ev1
  have z1 := e4 F' H' .no (some (.ref q)) [] (Ex.refl F') (fun _ _ => rfl) rfl
  rw [set_id e1] at z1
  have hrl' : (Γr.set x .no)[l]? = some (.kn (.ref p) .no) := by rw [List.getElem?_set_ne (Ne.symm hlx)]; exact hrl
  obtain ⟨v, ul, um, ur, f1, f2, f3, f4⟩ := z1.at hrl'
  obtain ⟨evp, eum⟩ := f3
  have eum' : um = [] := eum
  subst eum'
  subst evp
  have eσ := f1
  have keepS : ∀ y, S y → H' y = H y := fun y s => by
    have : B' y = H y := if_pos s
    obtain ⟨o, ho⟩ := s1.dom y (memS y s)
    rw [ho]; exact k'.bh y o (this.trans ho)
  have FS : ∀ y, S y → F' y = none := fun y s => by
    have : B' y = H y := if_pos s
    obtain ⟨o, ho⟩ := s1.dom y (memS y s)
    exact (k'.nb y o (this.trans ho)).trans (hF y s)
  have hp : H' p = some (.tup vs) := (keepS p (.inl rfl)).trans ev
  have new := c4 F' H' (.own (a'.map enc)) [q] k'.f0 (fun y hy => keepS y (.inr hy)) ⟨q, ws1, rfl, rfl, g1, g2⟩
  have new2 : SlR K F' H' (.t2 (L.set j a')) (some (.ref p)) (p :: (gl ++ [q] ++ gr)) := ⟨p, vs, _, rfl, rfl, hp, by rw [List.map_set]; exact new⟩
  have z2 := f4 F' H' (.t2 (L.set j a')) (some (.ref p)) _ (Ex.refl F') (fun _ _ => rfl) new2
  rw [set_id eσ] at z2
  have notS : ∀ y ∈ hl' ++ [q] ++ hr', ¬ S y := fun y hy s => by
    have h1 := (t3 y hy).2
    have : B' y = H y := if_pos s
    obtain ⟨o, ho⟩ := s1.dom y (memS y s)
    rw [this, ho] at h1; cases h1
  have sub1 : ∀ y ∈ ul ++ ur, y ∈ hl' ++ hr' := fun y hy => by
    have e : hl' ++ [] ++ hr' = ul ++ [] ++ ur := f2
    rw [List.append_nil, List.append_nil] at e
    rw [e]; exact hy
  refine ⟨⟨k.f0.trans k'.f0, k'.fh, fun y o e => ?_, fun y o e => ?_, ul ++ (p :: (gl ++ [q] ++ gr)) ++ ur, z2, ?_, fun y hy => ?_⟩, hp, eσ⟩
  · have ns : ¬ S y := fun s => by rw [hB y s] at e; cases e
    exact k'.bh y o ((if_neg ns : B' y = B y).trans e)
  · have ns : ¬ S y := fun s => by rw [hB y s] at e; cases e
    exact (k'.nb y o ((if_neg ns : B' y = B y).trans e)).trans (k.nb y o e)
  · have ndm : (p :: (gl ++ [q] ++ gr)).Nodup := by
      rw [List.nodup_append, List.nodup_append] at nd
      exact nd.1.2.1
    have ndo : (hl' ++ [q] ++ hr').Nodup := t2
    have pm : (ul ++ (p :: (gl ++ [q] ++ gr)) ++ ur).Perm ((p :: (gl ++ [q] ++ gr)) ++ (ul ++ ur)) := by
      rw [List.append_assoc]
      exact List.perm_append_comm_assoc ul _ ur
    rw [pm.nodup_iff, List.nodup_append]
    have e : hl' ++ [] ++ hr' = ul ++ [] ++ ur := f2
    rw [List.append_nil, List.append_nil] at e
    rw [← e]
    rw [List.nodup_append, List.nodup_append] at ndo
    obtain ⟨⟨n1, n2, n3⟩, n4, n5⟩ := ndo
    refine ⟨ndm, List.nodup_append.mpr ⟨n1, n4, fun y hy y' hy' => n5 y (List.mem_append_left _ hy) y' hy'⟩, fun y hy y' hy' e => ?_⟩
    subst e
    have hin : y ∈ hl' ++ [q] ++ hr' := by
      rcases List.mem_append.mp hy' with h | h <;> simp [h]
    have ns := notS y hin
    have nq : y ≠ q := fun e => by
      subst e
      rcases List.mem_append.mp hy' with h | h
      · exact n3 y h y (by simp) rfl
      · exact n5 y (by simp) y h rfl
    rcases List.mem_cons.mp hy with h | h
    · exact ns (.inl h)
    · rcases List.mem_append.mp h with h | h
      · rcases List.mem_append.mp h with h | h
        · exact ns (.inr (List.mem_append_left _ h))
        · exact nq (List.mem_singleton.mp h)
      · exact ns (.inr (List.mem_append_right _ h))
  · have case1 : ∀ y ∈ hl' ++ [q] ++ hr', F' y = none ∧ B y = none := fun y hy => by
      have h := t3 y hy
      exact ⟨h.1, (if_neg (notS y hy) : B' y = B y).symm.trans h.2⟩
    rcases List.mem_append.mp hy with hy | hy
    · rcases List.mem_append.mp hy with hy | hy
      · have := sub1 y (List.mem_append_left _ hy)
        exact case1 y (by rcases List.mem_append.mp this with h | h <;> simp [h])
      · rcases List.mem_cons.mp hy with h | h
        · exact ⟨FS y (.inl h), hB y (.inl h)⟩
        · rcases List.mem_append.mp h with h | h
          · rcases List.mem_append.mp h with h | h
            · exact ⟨FS y (.inr (List.mem_append_left _ h)), hB y (.inr (List.mem_append_left _ h))⟩
            · rw [List.mem_singleton.mp h]
              exact case1 q (by simp)
          · exact ⟨FS y (.inr (List.mem_append_right _ h)), hB y (.inr (List.mem_append_right _ h))⟩
    · have := sub1 y (List.mem_append_right _ hy)
      exact case1 y (by rcases List.mem_append.mp this with h | h <;> simp [h])
/-- for x in xs: a change of x -/
theorem bm_forT2 {l x : Nat} {L : List (List α)} {s : Sl} {tb : TS} {f : List α → Option (List α)} {k : List (List α) → Option T} (hl : Γ[l]? = some (.t2 L)) (hx : Γ[x]? = some s) (hlx : l ≠ x)
    (hb : ∀ p q a, BM K tb ((Γ.set l (.kn (.ref p) .no)).set x (.kn (.ref q) (.o a))) (f a) (hdCN K (fun a' => (Γ.set l (.kn (.ref p) .no)).set x (.kn (.ref q) (.o a')))))
    (hk : ∀ L', BM K u ((Γ.set x .no).set l (.t2 L')) (k L') hd) :
    BM K (tSeq (tFor (iTup K (tVar l)) (gName x) tb) u) Γ ((mapO f L).bind k) hd := fun o e F0 B F σ H D ok q => by
  obtain ⟨L', e1, e⟩ := Option.bind_eq_some_iff.mp e
  have hll : l < Γ.length := (List.getElem?_eq_some_iff.mp hl).1
  have hxl : x < Γ.length := (List.getElem?_eq_some_iff.mp hx).1
  obtain ⟨v, m, a1, a2, a3, nd, a4⟩ := ok.mod hl
  obtain ⟨p, vs, fps, rfl, rfl, b1, b2⟩ := a2
  have hlen : vs.length = L.length := by have := (slrl_iff.mp b2).len; rw [List.length_map, List.length_map] at this; exact this.symm
  obtain ⟨_, _, okx⟩ := ok.take hx
  have okx := okx.back1
  have el : (Γ.set x .no)[l]? = some (.t2 L) := by rw [List.getElem?_set_ne (Ne.symm hlx)]; exact hl
  refine ⟨_, a1, p, rfl, ⟨vs, Evl.st_of b1⟩, ?_⟩
  refine ⟨fun i m σ H => m = L.length - i ∧ i ≤ L.length ∧ ∃ F2 M R, Ok K F0 B F2 ((Γ.set x .no).set l (.t2 M)) σ H ∧ σ[l]? = some (some (.ref p)) ∧ H p = some (.tup vs) ∧ M.length = L.length ∧ M.drop i = L.drop i ∧ mapO f (L.drop i) = some R ∧ M.take i ++ R = L',
    ⟨L.length, by simp, Nat.zero_le _, F, L, L', by rw [setSame el]; exact okx, a1, b1, rfl, rfl, by simpa using e1, by simp⟩, ?_⟩
  rintro i m σ2 H2 ⟨rfl, hi2, F2, M, R, ok2, es, ev, hM, hd', hm, ht⟩
  by_cases hlt : i < L.length
  · right
    have dr : L.drop i = L[i] :: L.drop (i + 1) := List.drop_eq_getElem_cons hlt
    rw [dr, mapO] at hm
    obtain ⟨a', ef, hm⟩ := Option.bind_eq_some_iff.mp hm
    obtain ⟨R', er, hm⟩ := Option.bind_eq_some_iff.mp hm
    cases hm
    have hMlt : i < M.length := by omega
    have drM : M.drop i = M[i] :: M.drop (i + 1) := List.drop_eq_getElem_cons hMlt
    rw [drM, dr, List.cons.injEq] at hd'
    have hMi : M[i]? = some L[i] := by rw [List.getElem?_eq_getElem hMlt, hd'.1]
    have l2 : ((Γ.set x .no).set l (.t2 M))[l]? = some (.t2 M) := List.getElem?_set_self (by rw [List.length_set]; exact hll)
    have x2 : ((Γ.set x .no).set l (.t2 M))[x]? = some .no := by rw [List.getElem?_set_ne hlx]; exact List.getElem?_set_self hxl
    obtain ⟨q', B', hq, okb, back⟩ := ok2.lendT l2 hMi x2 hlx es ev
    have eG : ∀ y z : Sl, ((((Γ.set x .no).set l y).set l (.kn (.ref p) .no)).set x z) = (Γ.set l (.kn (.ref p) .no)).set x z := fun y z => by
      rw [List.set_set, List.set_comm _ _ (Ne.symm hlx), List.set_set]
    rw [eG] at okb
    refine ⟨⟨vs, .ref q', Evl.st_of ev, hq⟩, fun σ' H' => ∃ F2 M R, Ok K F0 B F2 ((Γ.set x .no).set l (.t2 M)) σ' H' ∧ σ'[l]? = some (some (.ref p)) ∧ H' p = some (.tup vs) ∧ M.length = L.length ∧ M.drop (i + 1) = L.drop (i + 1) ∧ mapO f (L.drop (i + 1)) = some R ∧ M.take (i + 1) ++ R = L', fun σ' H' n => ⟨L.length - (i + 1), by omega, rfl, hlt, n⟩, fun v H' y => ?_⟩
    obtain ⟨rfl, y⟩ := y
    have yv := y vs (Evl.st_of ev)
    rw [hq] at yv
    cases yv
    show tb _ (σ2.set x (some (.ref q'))) _
    refine hb p q' L[i] a' ef F2 B' F2 _ _ _ okb fun F' σ' H' k' => ?_
    have rl : ((Γ.set l (.kn (.ref p) .no)).set x (.kn (.ref q') (.o a')))[l]? = some (.kn (.ref p) .no) := by
      rw [List.getElem?_set_ne (Ne.symm hlx)]; exact List.getElem?_set_self hll
    have rx : ((Γ.set l (.kn (.ref p) .no)).set x (.kn (.ref q') (.o a')))[x]? = some (.kn (.ref q') (.o a')) := List.getElem?_set_self (by rw [List.length_set]; exact hxl)
    obtain ⟨k2, hp2, es2⟩ := back F' σ' H' a' _ rl rx k'
    have eG2 : (((Γ.set l (.kn (.ref p) .no)).set x (.kn (.ref q') (.o a'))).set x .no).set l (.t2 (M.set i a')) = (Γ.set x .no).set l (.t2 (M.set i a')) := by
      rw [List.set_set, List.set_comm _ _ hlx, List.set_set]
    rw [eG2] at k2
    have n : ∃ F2 M R, Ok K F0 B F2 ((Γ.set x .no).set l (.t2 M)) σ' H' ∧ σ'[l]? = some (some (.ref p)) ∧ H' p = some (.tup vs) ∧ M.length = L.length ∧ M.drop (i + 1) = L.drop (i + 1) ∧ mapO f (L.drop (i + 1)) = some R ∧ M.take (i + 1) ++ R = L' := by
      refine ⟨F', M.set i a', R', k2, es2, hp2, by rw [List.length_set]; exact hM, ?_, er, ?_⟩
      · rw [List.drop_set_of_lt (by omega)]; exact hd'.2
      · rw [← ht]
        have : (M.set i a').take (i + 1) = M.take i ++ [a'] := by
          rw [List.take_succ_eq_append_getElem (by rw [List.length_set]; exact hMlt), List.getElem_set_self, List.take_set_of_le (Nat.le_refl i)]
        rw [this]; simp
    exact ⟨n, n⟩
  · left
    have e5 : i = L.length := by omega
    subst e5
    rw [List.drop_length, mapO] at hm
    cases hm
    rw [List.append_nil, ← hM, List.take_length] at ht
    subst ht
    exact ⟨⟨vs, Evl.st_of ev, by rw [hlen]; exact Nat.le_refl _⟩, hk _ o e F0 B F2 σ2 H2 D ok2 q⟩
end
end M
/-! M25: items of own lists within own lists; names that may be unset; what best tells -/
namespace M
open PySem PySem.Spec PyProof.Rows L2
open Evl (Ex)
open Enc (enc)
section
variable {K : PySem.W.Frag} {Γ Γ' Δ : List Sl} {α β γ δ : Type} [Enc α] [Enc β] {ta tb tc te tp ti tj : TE} {ma : Option α} {T A S R : Type} {hd : Hdl T} {u w t : TS} {s : Sl} {G : Sl → List Sl}
/-- the cell of an own list within an own list at a place -/
theorem Pt.cell2 {F0 B F : Hp} {σ : L2.St} {H : Hp} {j : Nat} {L : List (List α)} {l : List α} (P : Pt K tp Γ (.o2 L) G) (k : Ok K F0 B F Γ σ H) (hj : L[j]? = some l) : ∃ (p q : Addr) (vs ws : List V), (∀ Q : VK, Q (.ref p) H → tp σ H Q) ∧ H p = some (.lst vs) ∧ vs.length = L.length ∧ vs[j]? = some (.ref q) ∧ H q = some (.lst ws) ∧ Reps K F ws (l.map enc) ∧ F q = none ∧
    ∀ F' H' ws' (l' : List α), Ext F H F' H' → Reps K F' ws' (l'.map enc) → Ok K F0 B F' (G (.o2 (L.set j l'))) σ (upd H' q (.lst ws')) := by
  obtain ⟨v, m, a1, a2, a3, nd, a4⟩ := P F0 B F σ H k
  obtain ⟨p, vs, fps, rfl, ev, b1, b2⟩ := a2
  cases ev
  have hj' : (L.map fun l => Sl.own (l.map enc))[j]? = some (.own (l.map enc)) := by rw [List.getElem?_map, hj]; rfl
  obtain ⟨v, fl, m, fr, c1, rfl, c3, c4⟩ := slrl_at b2 hj'
  obtain ⟨q, ws, rfl, ev, d1, d2⟩ := c3
  cases ev
  have hlen : vs.length = L.length := by have := (slrl_iff.mp b2).len; rw [List.length_map, List.length_map] at this; exact this.symm
  have qm : q ∈ p :: (fl ++ [q] ++ fr) := by simp
  have fq := (a3 q qm).1
  obtain ⟨n1, n2⟩ := List.nodup_cons.mp nd
  have pq : p ≠ q := fun e => n1 (by rw [e]; simp)
  refine ⟨p, q, vs, ws, a1, b1, hlen, c1, d1, d2, fq, fun F' H' ws' l' x r => ?_⟩
  have f' : F' q = none := (x.old q _ d1).trans fq
  have ne : ∀ y ∈ fl ++ fr, y ≠ q := fun y hy e => by
    subst e
    rw [List.nodup_append, List.nodup_append] at n2
    rcases List.mem_append.mp hy with z | z
    · exact n2.1.2.2 y z y (by simp) rfl
    · exact n2.2.2 y (by simp) y z rfl
  have domf : ∀ y ∈ fl ++ [q] ++ fr, ∃ o, H y = some o := fun y hy => (slrl_iff.mp b2).dom y hy
  have z := a4 F' (upd H' q (.lst ws')) [] [] (.o2 (L.set j l')) [] (p :: (fl ++ [q] ++ fr)) x.ff (fun y o ho => by
    rw [upd_ne (fun e => by rw [e, f'] at ho; cases ho)]
    exact x.fh y o ho) (fun y o ny ho => by
    rw [upd_ne (fun e => ny (by rw [e]; exact qm))]
    exact x.hh y o ho) (fun y o ho _ => x.old y o ho) .nil ⟨p, vs, _, rfl, rfl, by rw [upd_ne pq]; exact x.hh _ _ b1, by
      have c := c4 F' (upd H' q (.lst ws')) (.own (l'.map enc)) [q] x.ff (fun y hy => by
        rw [upd_ne (ne y hy)]
        obtain ⟨o, ho⟩ := domf y (by simp at hy ⊢; rcases hy with h | h <;> simp [h])
        rw [ho]; exact x.hh y o ho) ⟨q, ws', rfl, rfl, upd_same, r⟩
      rw [List.map_set]; exact c⟩ (by simpa using nd) (fun y hy => .inl (by simpa using hy)) fun y hy => by
    have hy : y ∈ p :: (fl ++ [q] ++ fr) := by simpa using hy
    rcases List.mem_cons.mp hy with rfl | hy
    · exact (x.old _ _ b1).trans (a3 _ List.mem_cons_self).1
    · obtain ⟨o, ho⟩ := domf y hy
      exact (x.old y o ho).trans (a3 y (List.mem_cons_of_mem _ hy)).1
  exact z
/-- L[i][j] = a -/
def st2M (L : List (List α)) (i j : Int) (a : α) : Option (List (List α)) := (ixN L.length i).bind fun k => (L[k]?).bind fun l => (stM l j a).map fun l' => L.set k l'
theorem bm_set2 {L : List (List α)} {mi mj : Option Int} {k : List (List α) → Option T} (P : Pt K tp Γ (.o2 L) G) (h : EvM K te Γ ma) (hi : EvM K ti Γ mi) (hj : EvM K tj Γ mj) (hk : ∀ L', BM K u (G (.o2 L')) (k L') hd) :
    BM K (tSeq (tAsg te (gSub (tOp (rIxL K) tp ti) tj rSetL)) u) Γ (ma.bind fun a => mi.bind fun i => mj.bind fun j => (st2M L i j a).bind k) hd := fun o e F0 B F σ H D ok q => by
  obtain ⟨a, e1, e⟩ := Option.bind_eq_some_iff.mp e
  obtain ⟨i, e2, e⟩ := Option.bind_eq_some_iff.mp e
  obtain ⟨j, e3, e⟩ := Option.bind_eq_some_iff.mp e
  obtain ⟨L', e4, e⟩ := Option.bind_eq_some_iff.mp e
  unfold st2M at e4
  obtain ⟨kk, e5, e4⟩ := Option.bind_eq_some_iff.mp e4
  obtain ⟨l, e6, e4⟩ := Option.bind_eq_some_iff.mp e4
  obtain ⟨l', e7, rfl⟩ := Option.map_eq_some_iff.mp e4
  unfold stM at e7
  obtain ⟨jj, e8, rfl⟩ := Option.map_eq_some_iff.mp e7
  refine h a e1 F0 B F σ H ok _ fun v F1 H1 x1 r1 => ?_
  have ok1 := ok.ext x1
  obtain ⟨p, q0, vs, ws, a1, a2, a3, a4, a5, a6, a7, a8⟩ := P.cell2 ok1 e6
  refine a1 _ ?_
  refine hi i e2 F0 B F1 σ H1 ok1 _ fun w F2 H2 x2 r2 => ⟨p, vs, i, .ref q0, rfl, r2.int_inv, Evl.sq_of (x2.hh _ _ a2), by unfold atI; rw [a3, e5]; exact a4, ?_⟩
  refine hj j e3 F0 B F2 σ H2 (ok1.ext x2) _ fun w F3 H3 x3 r3 => ⟨q0, ws, j, jj, rfl, r3.int_inv, x3.hh _ _ (x2.hh _ _ a5), by rw [a6.len, List.length_map]; exact e8, ?_⟩
  have x23 := x2.trans x3
  have z := a8 F3 H3 (ws.set jj v) (l.set jj a) x23 (by rw [List.map_set]; exact (a6.mono x23.ff).set (r1.mono x23.ff) jj)
  exact hk _ o e F0 B F3 σ _ D z q
/-- L[i].insert(j, a) -/
def in2M (L : List (List α)) (i j : Int) (a : α) : Option (List (List α)) := (ixN L.length i).bind fun k => (L[k]?).bind fun l => (inM l j a).map fun l' => L.set k l'
/-! ### a name that may be unset -/
abbrev Sl.un {α : Type} [Enc α] (x : Option α) : Sl := match x with | none => .no | some a => .f a
theorem em_uns {i : Nat} {x : Option α} (h : Γ[i]? = some (.un x)) : EvM K (tVar i) Γ x := fun a e F0 B F σ H k Q q => by
  subst e
  exact em_var h a rfl F0 B F σ H k Q q
end
/-! ### what best tells -/
inductive Told where
  | paired (p : List (Int × Int)) (c : List Int) (g : List (Tu Int × Int))
  | hindered (o : List Int)
def Told.tag : Told → Str
  | .paired _ _ _ => "paired"
  | .hindered _ => "hindered"
def Told.p? : Told → Option (List (Int × Int)) | .paired p _ _ => some p | _ => none
def Told.c? : Told → Option (List Int) | .paired _ c _ => some c | _ => none
def Told.g? : Told → Option (List (Tu Int × Int)) | .paired _ _ g => some g | _ => none
def Told.o? : Told → Option (List Int) | .hindered o => some o | _ => none
def Told.ds : Told → List D
  | .paired p c g => [enc ("paired" : Str), enc p, enc c, enc g]
  | .hindered o => [enc ("hindered" : Str), enc o]
instance : Enc Told := ⟨fun t => .tup t.ds⟩
def Told.sl : Told → Sl
  | .paired p c g => .ot_ [.f ("paired" : Str), .o p, .o c, .o g]
  | .hindered o => .ot_ [.f ("hindered" : Str), .o o]
theorem Told.toD (t : Told) : toD t.sl = some (enc t) := by cases t <;> rfl
section
variable {K : PySem.W.Frag} {Γ Γ' Δ : List Sl} {α β γ δ : Type} [Enc α] [Enc β] {ta tb tc te tp ti tj : TE} {ma : Option α}
theorem em_toldN {f : Told → Option α} {j : Nat} (hf : ∀ t a, f t = some a → t.ds[j]? = some (enc a)) {m : Option Told} (h : EvM K ta Γ m) : EvM K (tOp (rIxT K) ta (tC (.int (j : Int)))) Γ (m.bind f) := fun a e F0 B F σ H k Q q => by
  obtain ⟨t, e1, e2⟩ := Option.bind_eq_some_iff.mp e
  refine h t e1 F0 B F σ H k _ fun v F1 H1 x1 r1 => ?_
  obtain ⟨p, vs, rfl, h1, h2⟩ := Rep.tup_inv r1
  obtain ⟨w, w1, w2⟩ := h2.get (hf t a e2)
  exact ⟨p, vs, j, w, rfl, rfl, Evl.st_of (x1.fh _ _ h1), L2.atI_nat w1, q w F1 H1 x1 w2⟩
theorem em_told0 {m : Option Told} (h : EvM K ta Γ m) : EvM K (tOp (rIxT K) ta (tC (.int 0))) Γ (m.bind fun t => some t.tag) := em_toldN (j := 0) (f := fun t => some t.tag) (fun t a e => by cases e; cases t <;> rfl) h
theorem em_toldp {m : Option Told} (h : EvM K ta Γ m) : EvM K (tOp (rIxT K) ta (tC (.int 1))) Γ (m.bind Told.p?) := em_toldN (j := 1) (fun t a e => by cases t <;> cases e; rfl) h
theorem em_toldo {m : Option Told} (h : EvM K ta Γ m) : EvM K (tOp (rIxT K) ta (tC (.int 1))) Γ (m.bind Told.o?) := em_toldN (j := 1) (fun t a e => by cases t <;> cases e; rfl) h
theorem em_toldc {m : Option Told} (h : EvM K ta Γ m) : EvM K (tOp (rIxT K) ta (tC (.int 2))) Γ (m.bind Told.c?) := em_toldN (j := 2) (fun t a e => by cases t <;> cases e; rfl) h
theorem em_toldg {m : Option Told} (h : EvM K ta Γ m) : EvM K (tOp (rIxT K) ta (tC (.int 3))) Γ (m.bind Told.g?) := em_toldN (j := 3) (fun t a e => by cases t <;> cases e; rfl) h
theorem em_told0P {t : Told} (h : EvM K ta Γ (some t)) : EvM K (tOp (rIxT K) ta (tC (.int 0))) Γ (some t.tag) := em_told0 h
theorem em_toldpP {t : Told} (h : EvM K ta Γ (some t)) : EvM K (tOp (rIxT K) ta (tC (.int 1))) Γ t.p? := em_toldp h
theorem em_toldoP {t : Told} (h : EvM K ta Γ (some t)) : EvM K (tOp (rIxT K) ta (tC (.int 1))) Γ t.o? := em_toldo h
theorem em_toldcP {t : Told} (h : EvM K ta Γ (some t)) : EvM K (tOp (rIxT K) ta (tC (.int 2))) Γ t.c? := em_toldc h
theorem em_toldgP {t : Told} (h : EvM K ta Γ (some t)) : EvM K (tOp (rIxT K) ta (tC (.int 3))) Γ t.g? := em_toldg h
def Told.len (t : Told) : Nat := t.ds.length
theorem em_lenTo {m : Option Told} (h : EvM K ta Γ m) : EvM K (tCB (Evl.rLenS K) (tCons ta tNil)) Γ (m.bind fun a => some (a.len : Int)) := em_lenTD (f := fun a : Told => a.len) (ds := fun a : Told => a.ds) (fun _ => rfl) (fun a => rfl) h
theorem em_lenToP {a : Told} (h : EvM K ta Γ (some a)) : EvM K (tCB (Evl.rLenS K) (tCons ta tNil)) Γ (some (a.len : Int)) := em_lenTo h
/-- told tuples written out -/
theorem em_mk4 {p : List (Int × Int)} {c : List Int} {g : List (Tu Int × Int)} {mp : Option (List (Int × Int))} {mc : Option (List Int)} {mg : Option (List (Tu Int × Int))} {t0 t1 t2 t3 : TE} (h0 : EvM K t0 Γ (some ("paired" : Str))) (h1 : EvM K t1 Γ mp) (h2 : EvM K t2 Γ mc) (h3 : EvM K t3 Γ mg) : EvM K (tTup (tCons t0 (tCons t1 (tCons t2 (tCons t3 tNil))))) Γ (mp.bind fun p => mc.bind fun c => mg.bind fun g => some (Told.paired p c g)) := fun t e => by
  obtain ⟨a, e1, e⟩ := Option.bind_eq_some_iff.mp e
  obtain ⟨b, e2, e⟩ := Option.bind_eq_some_iff.mp e
  obtain ⟨d, e3, e⟩ := Option.bind_eq_some_iff.mp e
  cases e
  subst e1 e2 e3
  exact em_tupD (ea_cons h0 (ea_cons h1 (ea_cons h2 (ea_cons h3 ea_nil)))) (fun ds e => by cases e; show 4 ≤ 1000; decide) (fun _ => some (Told.paired a b d)) (fun ds c e e' => by cases e; cases e'; rfl) (Told.paired a b d) rfl
theorem em_mk2 {mo : Option (List Int)} {t0 t1 : TE} (h0 : EvM K t0 Γ (some ("hindered" : Str))) (h1 : EvM K t1 Γ mo) : EvM K (tTup (tCons t0 (tCons t1 tNil))) Γ (mo.bind fun o => some (Told.hindered o)) := fun t e => by
  obtain ⟨a, e1, e⟩ := Option.bind_eq_some_iff.mp e
  cases e
  subst e1
  exact em_tupD (ea_cons h0 (ea_cons h1 ea_nil)) (fun ds e => by cases e; show 2 ≤ 1000; decide) (fun _ => some (Told.hindered a)) (fun ds c e e' => by cases e; cases e'; rfl) (Told.hindered a) rfl
end
end M
/-! M26: dicts whose keys are pairs -/
namespace M
open PySem PySem.Spec PyProof.Rows L2
open Evl (Ex)
open Enc (enc)
section
variable {K : PySem.W.Frag} {Γ Γ' Δ : List Sl} {α β γ δ : Type} [Enc α] [Enc β] {ta tb tc te tp ti tj : TE} {ma : Option α} {T A S R : Type} {hd : Hdl T} {u w t : TS}
class KeyT (α : Type) extends Enc α where
  key : α → List Key
  rep : ∀ (K : PySem.W.Frag) (F : Hp) (v : V) (a : α), Rep K F v (enc a) → ∃ b, v = .ref b ∧ F b = some (.tup ((key a).map kV))
instance {κ l : Type} [KeyE κ] [KeyE l] : KeyT (κ × l) := ⟨fun p => [KeyE.key p.1, KeyE.key p.2], fun K F v a r => by
  obtain ⟨p, vs, rfl, h1, h2⟩ := Rep.tup_inv r
  obtain ⟨w1, w2, r1⟩ := h2.get (i := 0) rfl
  obtain ⟨w3, w4, r2⟩ := h2.get (i := 1) rfl
  refine ⟨p, rfl, ?_⟩
  have hl := h2.len
  match vs, hl, w2, w4 with
  | [a1, a2], _, w2, w4 =>
    cases w2; cases w4
    rw [h1, KeyE.rep K F _ _ r1, KeyE.rep K F _ _ r2]; rfl⟩
def Pdt (K : PySem.W.Frag) (te : TE) (Γ : List Sl) (xs : List (List Key × D)) (G : List (List Key × D) → List Sl) : Prop :=
  ∀ (F0 B F : Hp) (σ : L2.St) (H : Hp), Ok K F0 B F Γ σ H → ∃ p vs, (∀ Q : VK, Q (.ref p) H → te σ H Q) ∧ H p = some (.dT vs) ∧ KVs K F vs xs ∧ F p = none ∧
    ∀ F' H' vs' xs', Ext F H F' H' → KVs K F' vs' xs' → Ok K F0 B F' (G xs') σ (upd H' p (.dT vs'))
theorem pdt_var {i : Nat} {xs : List (List Key × D)} (h : Γ[i]? = some (.owt xs)) : Pdt K (tVar i) Γ xs (fun ys => Γ.set i (.owt ys)) := fun F0 B F σ H k => by
  obtain ⟨w, m, h1, h2, h3, nd, h4⟩ := k.mod h
  obtain ⟨p, vs, rfl, rfl, e1, e2⟩ := h2
  have fp := (h3 p (by simp)).1
  refine ⟨p, vs, fun Q q => ⟨_, h1, q⟩, e1, e2, fp, fun F' H' vs' xs' x r => ?_⟩
  have f' : F' p = none := (x.old p _ e1).trans fp
  have z := h4 F' (upd H' p (.dT vs')) (.owt xs') (some (.ref p)) [p] x.ff (fun q o e => by
    have ne : q ≠ p := fun y => by rw [y, f'] at e; cases e
    rw [upd_ne ne]
    exact x.fh q o e) (fun q o nq e => by
    have ne : q ≠ p := fun y => nq (by simp [y])
    rw [upd_ne ne]
    exact x.hh q o e) (fun q o e _ => x.old q o e) ⟨p, vs', rfl, rfl, upd_same, r⟩ nd (fun q hq => .inl hq) fun q hq => by rw [List.mem_singleton.mp hq]; exact f'
  rwa [set_id h1] at z
/-- a dict of pairs that is read now -/
def EvDT {α : Type} [Enc α] (K : PySem.W.Frag) (te : TE) (Γ : List Sl) (m : Option (Dt α)) : Prop :=
  ∀ a, m = some a → ∀ (F0 B F : Hp) (σ : L2.St) (H : Hp), Ok K F0 B F Γ σ H → ∀ Q : VK, (∀ p vs F' H', Ext F H F' H' → H' p = some (.dT vs) → KVs K F' vs (a.kvs.map fun p => (p.1, enc p.2)) → Q (.ref p) H') → te σ H Q
theorem edt_of {m : Option (Dt α)} (h : EvM K te Γ m) : EvDT K te Γ m := fun a e F0 B F σ H k Q q => h a e F0 B F σ H k Q fun v F1 H1 x1 r => by
  cases r with
  | dit h hk hr => exact q _ _ F1 H1 x1 (x1.fh _ _ h) ⟨hk, hr⟩
theorem edt_pd {xs : Dt α} {G : List (List Key × D) → List Sl} (h : Pdt K tp Γ (xs.kvs.map fun p => (p.1, enc p.2)) G) : EvDT K tp Γ (some xs) := fun a e F0 B F σ H k Q q => by
  cases e
  obtain ⟨p, vs, h1, h2, h3, _⟩ := h F0 B F σ H k
  exact h1 Q (q p vs F H (Ext.refl k.fh) h2 h3)
variable {κ : Type} [KeyT κ] {mk : Option κ} {md : Option (Dt α)}
theorem em_dinT (hk : EvM K ta Γ mk) (h : EvDT K te Γ md) : EvM K (tDIn ta te) Γ (mk.bind fun k => md.bind fun d => some (look d.kvs (KeyT.key k)).isSome) := fun c e F0 B F σ H ok Q q => by
  obtain ⟨k, e1, e⟩ := Option.bind_eq_some_iff.mp e
  obtain ⟨d, e2, e⟩ := Option.bind_eq_some_iff.mp e
  cases e
  refine hk k e1 F0 B F σ H ok _ fun v F1 H1 x1 r1 => ?_
  obtain ⟨b, rfl, hb⟩ := KeyT.rep K F1 v k r1
  refine h d e2 F0 B F1 σ H1 (ok.ext x1) _ fun p vs F2 H2 x2 h2 r2 => ⟨p, valV vs (KeyT.key k), rfl, .t h2 (x2.fh _ _ (x2.ff _ _ hb)), ?_⟩
  have z := KVs.look (KeyT.key k) r2
  have y : (valV vs (KeyT.key k)).isSome = (look d.kvs (KeyT.key k)).isSome := by
    revert z
    cases look d.kvs (KeyT.key k) with
    | none => intro z; rw [show valV vs (KeyT.key k) = none from z]; rfl
    | some a => intro ⟨v, z, _⟩; rw [z]; rfl
  rw [y]
  exact q _ F2 H2 (x1.trans x2) (.bl _)
theorem em_dninT (hk : EvM K ta Γ mk) (h : EvDT K te Γ md) : EvM K (tDNotIn ta te) Γ (mk.bind fun k => md.bind fun d => some (!(look d.kvs (KeyT.key k)).isSome)) := fun c e F0 B F σ H ok Q q => by
  obtain ⟨k, e1, e⟩ := Option.bind_eq_some_iff.mp e
  obtain ⟨d, e2, e⟩ := Option.bind_eq_some_iff.mp e
  cases e
  refine hk k e1 F0 B F σ H ok _ fun v F1 H1 x1 r1 => ?_
  obtain ⟨b, rfl, hb⟩ := KeyT.rep K F1 v k r1
  refine h d e2 F0 B F1 σ H1 (ok.ext x1) _ fun p vs F2 H2 x2 h2 r2 => ⟨p, valV vs (KeyT.key k), rfl, .t h2 (x2.fh _ _ (x2.ff _ _ hb)), ?_⟩
  have z := KVs.look (KeyT.key k) r2
  have y : (valV vs (KeyT.key k)).isSome = (look d.kvs (KeyT.key k)).isSome := by
    revert z
    cases look d.kvs (KeyT.key k) with
    | none => intro z; rw [show valV vs (KeyT.key k) = none from z]; rfl
    | some a => intro ⟨v, z, _⟩; rw [z]; rfl
  rw [y]
  exact q _ F2 H2 (x1.trans x2) (.bl _)
theorem em_dgetT (h : EvDT K te Γ md) (hk : EvM K ta Γ mk) : EvM K (tDGet te ta) Γ (md.bind fun d => mk.bind fun k => look d.kvs (KeyT.key k)) := fun c e F0 B F σ H ok Q q => by
  obtain ⟨d, e2, e⟩ := Option.bind_eq_some_iff.mp e
  obtain ⟨k, e1, e⟩ := Option.bind_eq_some_iff.mp e
  refine h d e2 F0 B F σ H ok _ fun p vs F1 H1 x1 h1 r1 => ?_
  refine hk k e1 F0 B F1 σ H1 (ok.ext x1) _ fun v F2 H2 x2 r2 => ?_
  obtain ⟨b, rfl, hb⟩ := KeyT.rep K F2 v k r2
  have z := KVs.look (KeyT.key k) r1
  rw [e] at z
  obtain ⟨w, z1, z2⟩ := z
  have hb2 : H2 b = some (.tup ((KeyT.key k).map kV)) := (ok.ext (x1.trans x2)).fh _ _ hb
  exact ⟨p, w, rfl, by rw [← z1]; exact .t (x2.hh _ _ h1) hb2, q w F2 H2 (x1.trans x2) (z2.mono x2.ff)⟩
theorem em_dinTP {k : κ} {d : Dt α} (hk : EvM K ta Γ (some k)) (h : EvDT K te Γ (some d)) : EvM K (tDIn ta te) Γ (some (look d.kvs (KeyT.key k)).isSome) := em_dinT hk h
theorem em_dninTP {k : κ} {d : Dt α} (hk : EvM K ta Γ (some k)) (h : EvDT K te Γ (some d)) : EvM K (tDNotIn ta te) Γ (some (!(look d.kvs (KeyT.key k)).isSome)) := em_dninT hk h
theorem em_dgetTP {k : κ} {d : Dt α} (h : EvDT K te Γ (some d)) (hk : EvM K ta Γ (some k)) : EvM K (tDGet te ta) Γ (look d.kvs (KeyT.key k)) := em_dgetT h hk
def dtM (d : Dt α) (k : List Key) (a : α) : Option (Dt α) := if d.kvs.length < sizeLine then some ⟨put d.kvs k a⟩ else none
theorem bm_dputT' {xs : Dt α} {G : List (List Key × D) → List Sl} {k : Dt α → Option T} (hp : Pdt K tp Γ (xs.kvs.map fun p => (p.1, enc p.2)) G) (h : EvM K te Γ ma) (hi : EvM K ta Γ mk) (hk : ∀ ys : Dt α, BM K u (G (ys.kvs.map fun p => (p.1, enc p.2))) (k ys) hd) :
    BM K (tSeq (sDPut tp ta te) u) Γ (ma.bind fun a => mk.bind fun i => (dtM xs (KeyT.key i) a).bind k) hd := fun o e F0 B F σ H D ok q => by
  obtain ⟨a, e1, e⟩ := Option.bind_eq_some_iff.mp e
  obtain ⟨i, e2, e⟩ := Option.bind_eq_some_iff.mp e
  obtain ⟨ys, e3, e⟩ := Option.bind_eq_some_iff.mp e
  unfold dtM at e3
  split at e3
  case isFalse => cases e3
  rename_i hl
  cases e3
  refine h a e1 F0 B F σ H ok _ fun v F1 H1 x1 r1 => ?_
  have ok1 := ok.ext x1
  obtain ⟨p, vs, h1, h2, h3, h4, h5⟩ := hp F0 B F1 σ H1 ok1
  refine h1 _ ?_
  refine hi i e2 F0 B F1 σ H1 ok1 _ fun w F2 H2 x2 r2 => ?_
  obtain ⟨b, rfl, hb⟩ := KeyT.rep K F2 w i r2
  have hb2 : H2 b = some (.tup ((KeyT.key i).map kV)) := (ok1.ext x2).fh _ _ hb
  refine ⟨p, _, rfl, .t (x2.hh _ _ h2) hb2 (by rw [h3.len, List.length_map]; exact hl), ?_⟩
  have z := h5 F2 H2 (putK vs (KeyT.key i) v) _ x2 (KVs.put (r1.mono x2.ff) (h3.mono x2.ff))
  exact hk ⟨_⟩ o e F0 B F2 σ _ D z q
theorem bm_dputTP {i : κ} {a : α} {xs : Dt α} {G : List (List Key × D) → List Sl} {k : Dt α → Option T} (hp : Pdt K tp Γ (xs.kvs.map fun p => (p.1, enc p.2)) G) (h : EvM K te Γ (some a)) (hi : EvM K ta Γ (some i)) (hk : ∀ ys : Dt α, BM K u (G (ys.kvs.map fun p => (p.1, enc p.2))) (k ys) hd) :
    BM K (tSeq (sDPut tp ta te) u) Γ ((dtM xs (KeyT.key i) a).bind k) hd := bm_dputT' hp h hi hk
/-- x = {} -/
theorem bm_asgDT {i : Nat} {s : Sl} {m : Option T} (hi : Γ[i]? = some s) (hk : BM K u (Γ.set i (.owt [])) m hd) : BM K (tSeq (tAsg tDNewT (gName i)) u) Γ m hd := fun o e F0 B F σ H D ok q p hp =>
  hk o e F0 B F _ _ D (ok.newOwn (Ext.newOwn ok.fh hp) hi hp (none_of ok.fh hp) ⟨p, [], rfl, rfl, upd_same, .nil⟩) q
end
end M
/-! M27: < of lists of whole numbers -/
namespace M
open PySem PySem.Spec PyProof.Rows L2
open Evl (Ex)
open Enc (enc)
section
variable {K : PySem.W.Frag} {Γ Γ' Δ : List Sl} {ta tb tc te tp ti tj : TE} {X : Cx}
def rLtI (K : PySem.W.Frag) : R2 := fun x y H Q => ∃ a b ns ms, x = .ref a ∧ y = .ref b ∧ SqL K H a (ns.map V.int) ∧ SqL K H b (ms.map V.int) ∧ ns.length = ms.length ∧ Q (.bl (HT.lexLt ns ms)) H
theorem alike_ints : ∀ {ns ms : List Int}, ns.length = ms.length → PySem.W.alikeAll (ns.map PyData.int) (ms.map PyData.int) = true
  | [], [], _ => rfl
  | x :: xs, y :: ys, h => by
    rw [List.map_cons, List.map_cons, PySem.W.alikeAll, alike_ints (by simpa using h)]; rfl
theorem lt_ints : ∀ {ns ms : List Int}, ns.length = ms.length → PyProof.Rows.lexLt itemOrd (PySem.W.keyToksAll (ns.map PyData.int)) (PySem.W.keyToksAll (ms.map PyData.int)) = HT.lexLt ns ms
  | [], [], _ => by rw [List.map_nil]; exact (PyProof.Rows.lex_self (O := itemOrd) _ [] []).trans rfl
  | x :: xs, y :: ys, h => by
    have ih := lt_ints (ns := xs) (ms := ys) (by simpa using h)
    rw [HT.lexLt_cons, List.map_cons, List.map_cons]
    by_cases e : x = y
    · rw [if_pos e, ← ih]
      exact PySem.W.dataLt_all_yes rfl (by rw [e]; simp [PyData.eqv])
    · rw [if_neg e]
      rw [PySem.W.dataLt_all_no rfl (by simp [PyData.eqv, e]), PySem.W.dataLt_int]
theorem dp_ints {H : Hp} : ∀ ns : List Int, DpAll K H (ns.map V.int) (ns.map PyData.int)
  | [] => .nil
  | n :: ns => .cons (.int n) (dp_ints ns)
theorem depth_ints : ∀ ns : List Int, PyData.depth (.list (ns.map PyData.int)) ≤ 1 := by
  intro ns
  have : ∀ ns : List Int, PyData.depthAll (ns.map PyData.int) = 0 := fun ns => by
    induction ns with
    | nil => rfl
    | cons n ns ih => rw [List.map_cons, PyData.depthAll, ih]; rfl
  rw [PyData.depth, this]; decide
theorem op_ltI (hu : X.A.units + 64 < cLine) : OpR X (compareOp .Lt) (rLtI X.K) := by
  intro pins s σ H x y v u Q I rx ry h
  obtain ⟨a, b, ns, ms, rfl, rfl, ha, hb, hl, q⟩ := h
  obtain ⟨as, r1⟩ := Dp.reads I (.list (ns.map PyData.int)) (.ref a) v (.lst ha (dp_ints ns)) rx
  obtain ⟨bs, r2⟩ := Dp.reads I (.list (ms.map PyData.int)) (.ref b) u (.lst hb (dp_ints ms)) ry
  refine PySem.W.lt_data r1 r2 (by rw [PySem.W.alike]; exact alike_ints hl) (fun h => nomatch h) (by have := depth_ints ns; omega) ?_
  rw [PySem.W.dataLt_list, lt_ints hl]
  exact ⟨.bl _, H, I, rfl, q⟩
def ltLM (a b : List Int) : Option Bool := if a.length = b.length then some (HT.lexLt a b) else none
theorem repsI {F : Hp} {vs : List V} {ns : List Int} (r : Reps K F vs (ns.map enc)) : vs = ns.map V.int := by
  apply List.ext_getElem (by rw [r.len]; simp)
  intro i h1 h2
  have h3 : i < ns.length := by simpa using h2
  have z := r.at_ i vs[i] (enc ns[i]) (by rw [List.getElem?_eq_getElem h1]) (by rw [List.getElem?_map, List.getElem?_eq_getElem h3]; rfl)
  rw [List.getElem_map]
  exact z.int_inv
theorem em_ltL {m1 m2 : Option (List Int)} (h1 : EvL K ta Γ m1) (h2 : EvL K tb Γ m2) : EvM K (tOp (rLtI K) ta tb) Γ (m1.bind fun a => m2.bind fun b => ltLM a b) := fun c e F0 B F σ H k Q q => by
  obtain ⟨a, e1, e⟩ := Option.bind_eq_some_iff.mp e
  obtain ⟨b, e2, e⟩ := Option.bind_eq_some_iff.mp e
  unfold ltLM at e
  split at e
  case isFalse => cases e
  rename_i hl
  cases e
  refine h1 a e1 F0 B F σ H k _ fun p vs F1 H1 x1 a1 r1 => ?_
  refine h2 b e2 F0 B F1 σ H1 (k.ext x1) _ fun p' ws F2 H2 x2 a2 r2 => ?_
  obtain rfl := repsI r1
  obtain rfl := repsI r2
  exact ⟨p, p', a, b, rfl, rfl, Evl.sq_of (x2.hh _ _ a1), Evl.sq_of a2, hl, q _ F2 H2 (x1.trans x2) (.bl _)⟩
theorem em_ltLP {a b : List Int} (h1 : EvL K ta Γ (some a)) (h2 : EvL K tb Γ (some b)) : EvM K (tOp (rLtI K) ta tb) Γ (ltLM a b) := em_ltL h1 h2
end
end M
/-! M28: == of things that may be None -/
namespace M
open PySem PySem.Spec PyProof.Rows L2
open Evl (Ex)
open Enc (enc)
instance : EqD (Option Int) := ⟨inferInstance, fun K F H v a e r => by
  cases a with
  | none => cases r; exact .non
  | some a => rw [Rep.int_inv (i := a) r]; exact .int a, fun _ => true, fun a _ => by cases a <;> simp [enc, Enc.enc, toPy, PyData.canLay0], 0, fun a => by cases a <;> simp [enc, Enc.enc, toPy, PyData.depth], fun a b => by
  cases a <;> cases b <;> simp [enc, Enc.enc, toPy, PyData.eqv, Bool.beq_eq_decide_eq]⟩
instance : EqT (Option Int) := ⟨fun _ => rfl⟩
instance : EqD (Option Str) := ⟨inferInstance, fun K F H v a e r => by
  cases a with
  | none => cases r; exact .non
  | some a => rw [Rep.str_inv (i := a) r]; exact .str a, fun a => match a with | none => true | some a => PyData.strOk a, fun a h => by cases a <;> simp_all [enc, Enc.enc, toPy, PyData.canLay0], 0, fun a => by cases a <;> simp [enc, Enc.enc, toPy, PyData.depth], fun a b => by
  cases a <;> cases b <;> simp [enc, Enc.enc, toPy, PyData.eqv, Bool.beq_eq_decide_eq]⟩
instance {α β γ δ ε : Type} [Enc α] [Enc β] [Enc γ] [Enc δ] [Enc ε] [Im α] [Im β] [Im γ] [Im δ] [Im ε] : Im (T5 α β γ δ ε) := ⟨fun K F F' v a r k => tup_im r k fun d hd v r' => by
  simp only [List.mem_cons, List.not_mem_nil, or_false] at hd
  rcases hd with rfl | rfl | rfl | rfl | rfl <;> exact Im.im K F F' v _ r' k⟩
instance {α β γ δ ε ζ : Type} [Enc α] [Enc β] [Enc γ] [Enc δ] [Enc ε] [Enc ζ] [Im α] [Im β] [Im γ] [Im δ] [Im ε] [Im ζ] : Im (T6 α β γ δ ε ζ) := ⟨fun K F F' v a r k => tup_im r k fun d hd v r' => by
  simp only [List.mem_cons, List.not_mem_nil, or_false] at hd
  rcases hd with rfl | rfl | rfl | rfl | rfl | rfl <;> exact Im.im K F F' v _ r' k⟩
def poD (xs : List α) : Option (List α) := xs.getLast?.map fun _ => xs.dropLast
theorem bm_popDd {K : PySem.W.Frag} {Γ : List Sl} {T α : Type} [Enc α] {hd : Hdl T} {tp : TE} {u : TS} {xs : List α} {G : List D → List Sl} {k : List α → Option T} (hp : Pl K tp Γ (xs.map enc) G) (hk : ∀ ys : List α, BM K u (G (ys.map enc)) (k ys) hd) :
    BM K (tSeq (tDrop (tBM0 K "list" rPop tp)) u) Γ ((poD xs).bind k) hd := by
  refine bm_eq (bm_popD hp hk) ?_
  unfold poD
  cases xs.getLast? <;> rfl
section
variable {K : PySem.W.Frag} {Γ : List Sl}
theorem pdt_varK {i : Nat} {z : V} {xs : List (List Key × D)} (h : Γ[i]? = some (.kn z (.owt xs))) : Pdt K (tVar i) Γ xs (fun ys => Γ.set i (.kn z (.owt ys))) := fun F0 B F σ H k => by
  obtain ⟨w, m, h1, h2, h3, nd, h4⟩ := k.mod h
  obtain ⟨h2', p, vs, rfl, rfl, e1, e2⟩ := h2
  cases h2'
  have fp := (h3 p (by simp)).1
  refine ⟨p, vs, fun Q q => ⟨_, h1, q⟩, e1, e2, fp, fun F' H' vs' xs' x r => ?_⟩
  have f' : F' p = none := (x.old p _ e1).trans fp
  have y := h4 F' (upd H' p (.dT vs')) (.kn (.ref p) (.owt xs')) (some (.ref p)) [p] x.ff (fun q o e => by
    have ne : q ≠ p := fun y => by rw [y, f'] at e; cases e
    rw [upd_ne ne]
    exact x.fh q o e) (fun q o nq e => by
    have ne : q ≠ p := fun y => nq (by simp [y])
    rw [upd_ne ne]
    exact x.hh q o e) (fun q o e _ => x.old q o e) ⟨rfl, p, vs', rfl, rfl, upd_same, r⟩ nd (fun q hq => .inl hq) fun q hq => by rw [List.mem_singleton.mp hq]; exact f'
  rwa [set_id h1] at y
end
end M
/-! M29: the length of a dict whose keys are pairs -/
namespace PySem
open Sem (wp)
section
variable {prog : Program} {w : World} {A : Around} {E : Value → Shared → Prop} {s : Shared}
theorem meets_dict_lenX {d : Addr} (hd : (d == sysModules) = false) :
    MeetsIn prog w (Builtin.«dict.__len__» ⟨[.ref d], []⟩) (fun _ R s => ∃ o es ep, s.heap.get? d = some o ∧ o.ExactDict ∧ o.data = .dict es ep ∧ R (.ok (.ret (.int es.size s.toks))) { s with toks := s.toks + 1 }) :=
  .of_wp fun A R s ⟨o, es, ep, ho, hc, hdat, h⟩ => by
    show wpAny _ _ (dictSize d >>= _) _ _ s
    unfold dictSize
    refine wpAny_bind (wpAny_bind (wpAny_dictEntries ho hdat (wpAny_pure ?_)))
    show wpAny _ _ (Builtin.Dict.pendingCount d >>= _) _ _ s
    refine wpAny_bind (wpAny_pendingCount_other hd ?_)
    refine wpAny_ret_mkInt ?_
    rw [Nat.add_zero]; exact h
theorem wpAny_len_bodyX {d : Addr} {o : Obj} {es : Array DictEntry} {ep : Nat} {Q : Value → Shared → Prop} (hd : (d == sysModules) = false) (ho : s.heap.get? d = some o) (hc : o.ExactDict) (hdat : o.data = .dict es ep) (hfit : (es.size : Int) < 2 ^ 63)
    (h : Q (.int es.size (s.toks + 1)) { s with toks := s.toks + 1 + 1 }) : wpAny (model prog w) A (Builtin.«len» ⟨[.ref d], []⟩) (fun fin s' => ∃ r, fin = .done (.ret r) ∧ Q r s') E s := by
  have ty : s.TypeIs (.ref d) "dict" := ⟨o, ho, hc.1⟩
  unfold Builtin.«len»
  refine wpAny_bind (m := oneArg "len" _) (wpAny_pure ?_)
  refine wpAny_bind (m := callSpecial? (.ref d) (Str.ofString "__len__")) (wpAny_callSpecial?_slot (name := Str.ofString "__len__") ty F.slot_dict_len
    (call_meetsIn F.slot_dict_len ty F.entry_dict_len (F.args_dict_len_1 _) (meets_dict_lenX hd) ⟨o, es, ep, ho, hc, hdat, ?_⟩))
  show wpAny _ _ _ _ _ { s with toks := s.toks + 1 }
  refine wpAny_bind (wpAny_holding (wpAny_pure ?_))
  refine wpAny_bind (wpAny_letGo ?_)
  show wpAny _ _ (if ((es.size : Nat) : Int) < 0 then _ else _) _ _ _
  rw [if_neg (by omega)]
  show wpAny _ _ (if ((es.size : Nat) : Int) ≥ 2 ^ 63 then _ else _) _ _ _
  rw [if_neg (by omega)]
  exact wpAny_bind (wpAny_mkInt (wpAny_pure ⟨_, rfl, h⟩))
theorem call_len_dictX {d : Addr} {o : Obj} {es : Array DictEntry} {ep : Nat} {Q : Value → Shared → Prop} (hd : (d == sysModules) = false) (ho : s.heap.get? d = some o) (hc : o.ExactDict) (hdat : o.data = .dict es ep) (hfit : (es.size : Int) < 2 ^ 63)
    (h : Q (.int es.size (s.toks + 1)) { s with toks := s.toks + 1 + 1 }) : wpAny (model prog w) A (call (.builtin "len") [.ref d]) Q E s :=
  Calls.call_function_entry kind_len plain_len entry_len (args_len1 _) (wpAny_len_bodyX hd ho hc hdat hfit h)
end
end PySem
namespace M
open PySem PySem.Spec PyProof.Rows L2
open Evl (Ex)
open Enc (enc)
section
variable {K : PySem.W.Frag} {Γ Γ' Δ : List Sl} {α : Type} [Enc α] {ta tb tc te tp ti tj : TE} {X : Cx}
theorem call_lenDT : CallR X (.builtin "len") (fun xs H Q => ∃ a kvs, xs = [V.ref a] ∧ H a = some (.dT kvs) ∧ Q (.int kvs.length) H) := by
  intro pins s σ H xs us Q I r h
  obtain ⟨a, kvs, rfl, ha, q⟩ := h
  obtain ⟨u, rfl, ru⟩ := vals1 r
  cases ru
  obtain ⟨z, hd, xs, rel, o, es, ep, ho, hc, hdat, he, _⟩ := dt_of I.hok ha
  have hs : es.size = kvs.length := by
    rw [Paired.length rel, ← Array.length_toList, he, List.length_map]
  refine call_len_dictX hd ho hc hdat (by rw [hs]; rw [sizeLine_eq] at z; omega) ?_
  rw [hs]
  exact ⟨.int kvs.length, H, I.tok _, ⟨_, rfl⟩, q⟩
theorem em_dlenT {m : Option (Dt α)} (h : EvDT K ta Γ m) : EvM K (tCB (fun xs H Q => ∃ a kvs, xs = [V.ref a] ∧ H a = some (.dT kvs) ∧ Q (.int kvs.length) H) (tCons ta tNil)) Γ (m.bind fun d => some (d.kvs.length : Int)) := fun c e F0 B F σ H k Q q => by
  obtain ⟨d, e1, e⟩ := Option.bind_eq_some_iff.mp e
  cases e
  refine h d e1 F0 B F σ H k _ fun p vs F1 H1 x1 h1 r1 => ⟨p, vs, rfl, h1, ?_⟩
  have z : vs.length = d.kvs.length := by rw [r1.len, List.length_map]
  rw [z]
  exact q _ F1 H1 x1 (.int _)
theorem em_dlenTP {d : Dt α} (h : EvDT K ta Γ (some d)) : EvM K (tCB (fun xs H Q => ∃ a kvs, xs = [V.ref a] ∧ H a = some (.dT kvs) ∧ Q (.int kvs.length) H) (tCons ta tNil)) Γ (some (d.kvs.length : Int)) := em_dlenT h
end
end M
/-! M30: L[i].insert(j, a) -/
namespace M
open PySem PySem.Spec PyProof.Rows L2
open Evl (Ex)
open Enc (enc)
section
variable {K : PySem.W.Frag} {Γ Γ' Δ : List Sl} {α : Type} [Enc α] {ta tb tc te tp ti tj : TE} {ma : Option α} {T : Type} {hd : Hdl T} {u w t : TS} {G : Sl → List Sl}
def rIns : V → List V → Hp → VK → Prop := fun x vs H Q => ∃ (l : Addr) (xs : List V) (i : Int) (y : V), x = .ref l ∧ vs = [.int i, y] ∧ H l = some (.lst xs) ∧ xs.length < sizeLine ∧ 0 ≤ i ∧ i < 2 ^ 63 ∧ Q .non (upd H l (.lst (xs.take i.toNat ++ [y] ++ xs.drop i.toNat)))
theorem bm_in2 {L : List (List α)} {i : Int} {mj : Option Int} {k : List (List α) → Option T} (P : Pt K tp Γ (.o2 L) G) (hi : EvM K ti Γ (some i)) (hj : EvM K tj Γ mj) (h : EvM K te Γ ma) (hk : ∀ L', BM K u (G (.o2 L')) (k L') hd) :
    BM K (tSeq (tDrop (tBM K "list" rIns (tOp (rIxL K) tp ti) (tCons tj (tCons te tNil)))) u) Γ (mj.bind fun j => ma.bind fun a => (in2M L i j a).bind k) hd := fun o e F0 B F σ H D ok q => by
  obtain ⟨j, e3, e⟩ := Option.bind_eq_some_iff.mp e
  obtain ⟨a, e1, e⟩ := Option.bind_eq_some_iff.mp e
  obtain ⟨L', e4, e⟩ := Option.bind_eq_some_iff.mp e
  unfold in2M at e4
  obtain ⟨kk, e5, e4⟩ := Option.bind_eq_some_iff.mp e4
  obtain ⟨l, e6, e4⟩ := Option.bind_eq_some_iff.mp e4
  obtain ⟨l', e7, rfl⟩ := Option.map_eq_some_iff.mp e4
  unfold inM at e7
  split at e7
  case isFalse => cases e7
  rename_i hb
  cases e7
  obtain ⟨p, q0, vs, ws, a1, a2, a3, a4, a5, a6, a7, a8⟩ := P.cell2 ok e6
  refine a1 _ ?_
  refine hi i rfl F0 B F σ H ok _ fun w F2 H2 x2 r2 => ⟨p, vs, i, .ref q0, rfl, r2.int_inv, Evl.sq_of (x2.hh _ _ a2), by unfold atI; rw [a3, e5]; exact a4, ?_⟩
  refine ⟨Or.inl ⟨rfl, _, Or.inl (Or.inl (x2.hh _ _ a5))⟩, ?_⟩
  refine hj j e3 F0 B F2 σ H2 (ok.ext x2) _ fun w F3 H3 x3 r3 => ?_
  refine h a e1 F0 B F3 σ H3 (ok.ext (x2.trans x3)) _ fun v F4 H4 x4 r4 => ?_
  have x24 := x2.trans (x3.trans x4)
  have lw : ws.length = l.length := by rw [a6.len, List.length_map]
  refine ⟨q0, ws, j, v, rfl, by rw [r3.int_inv], x24.hh _ _ a5, by rw [lw]; exact hb.1, hb.2.1, hb.2.2, ?_⟩
  have z := a8 F4 H4 (ws.take j.toNat ++ [v] ++ ws.drop j.toNat) (l.take j.toNat ++ a :: l.drop j.toNat) x24 (by
    have y := a6.mono x24.ff
    have y2 := ((y.take j.toNat).append (Reps.cons r4 .nil)).append (y.drop j.toNat)
    have e : ((l.take j.toNat ++ a :: l.drop j.toNat).map enc) = (l.map enc).take j.toNat ++ [enc a] ++ (l.map enc).drop j.toNat := by
      rw [List.map_append, List.map_cons, List.map_take, List.map_drop, List.append_assoc]; rfl
    rw [e]
    exact y2)
  exact hk _ o e F0 B F4 σ _ D z q
end
end M
/-! M31: tuples of whole numbers whose own object is known (so that their methods may be called) -/
namespace L2
open PySem PySem.Spec PyProof.Rows
section
variable {X : Cx}
/-- such a tuple -/
def IsTn (H : Hp) (p : Addr) (ys : List V) : Prop := ∃ od : Obj, H p = some (.frz od (.tup ys)) ∧ od.dict = none ∧ od.cls = .type "tuple"
theorem IsTn.sq {K : PySem.W.Frag} {H : Hp} {p : Addr} {ys : List V} (h : IsTn H p ys) : SqT K H p ys := by
  obtain ⟨od, h, _⟩ := h
  exact .inl (.inr ⟨od, h⟩)
/-- tuple(xs), xs a list -/
def rTn (K : PySem.W.Frag) : List V → Hp → VK → Prop := fun xs H Q => ∃ p ys, xs = [V.ref p] ∧ SqL K H p ys ∧ ∀ l od, H l = none → od.dict = none → od.cls = Value.type "tuple" → Q (.ref l) (upd H l (.frz od (.tup ys)))
theorem call_tuple_tn : CallR X (.type "tuple") (rTn X.K) := by
  intro pins s σ H xs us Q I r h
  obtain ⟨p, ys, rfl, hq, q⟩ := h
  obtain ⟨u, rfl, rx⟩ := vals1 r
  cases rx
  obtain ⟨its, r', pl, hz⟩ := I.list hq
  have hlen := r'.length
  refine call_tuple_list pl.isList (fun h' kp => ?_) (by simp only [List.size_toArray] <;> omega)
  have I1 : Inv X pins σ H { s with heap := h' } := I.kept (t' := s.toks) kp
  have new : (h'.push { cls := .type "tuple", data := .seq its.toArray }).get? h'.objs.size = some { cls := .type "tuple", data := .seq its.toArray } := by
    unfold Heap.push Heap.get?
    simp
  have I2 : Inv X pins σ (upd H h'.objs.size (.frz { cls := .type "tuple", data := .seq its.toArray } (.tup ys))) { s with heap := h'.push { cls := .type "tuple", data := .seq its.toArray } } :=
    I1.laid (t' := s.toks) (fun b o e => Heap.get?_push_of_some _ e) (Nat.le_refl _) (show ObjOk X.prog X.w _ _ _ (.frz _ (.tup ys)) from ⟨new, hz, its, r', IsTup.new _ _⟩)
  exact ⟨.ref h'.objs.size, _, I2, rfl, q _ _ (I1.hok.fresh (Nat.le_refl _)) rfl rfl⟩
def rTCnt (K : PySem.W.Frag) : V → List V → Hp → VK → Prop := fun x xs H Q => ∃ (p : Addr) (ns : List Int) (k : Int), x = .ref p ∧ xs = [.int k] ∧ SqT K H p (ns.map V.int) ∧ Q (.int (ns.count k : Nat)) H
theorem mt_tcount : MtR X "tuple.count" (rTCnt X.K) := by
  intro pins s σ H x xs v us Q I rx rxs h
  obtain ⟨p, ns, k, rfl, rfl, hs, q⟩ := h
  cases rx
  obtain ⟨u, rfl, ru⟩ := rxs.one
  obtain ⟨t, rfl⟩ := ru
  obtain ⟨its, rv, ⟨⟨cls, dd, data, sl⟩, ho, hc, n, hd⟩, hlen⟩ := I.tuple hs
  simp only at hc hd
  subst hc hd
  have hi := ints_of_vals rv
  refine call_meets PySem.F.slot_tuple_count ⟨_, ho, rfl⟩ PySem.F.entry_tuple_count (PySem.F.args_tuple_count_2 _ _)
    (SeqAt.tuple_countAt p its.toArray n dd sl (.int k t) (eqk k)) ⟨ho, fun y hy => (eqk_gives hi y (by simpa using hy)).at _ _, ?_⟩
  have ec : its.toArray.toList.countP (eqk k) = ns.count k := eqk_count hi
  refine ⟨.int (ns.count k : Nat), H, I.tok _, ⟨s.toks, ?_⟩, q⟩
  show Value.int ((its.toArray.toList.countP (eqk k) : Nat) : Int) s.toks = Value.int ((ns.count k : Nat) : Int) s.toks
  rw [ec]
/-- the call of a method of such a tuple -/
def tTM (r : V → List V → Hp → VK → Prop) (to : TE) (t : TA) : TE := fun σ H Q => to σ H fun x H1 => (∃ p ys, x = .ref p ∧ IsTn H1 p ys) ∧ t σ H1 fun xs H2 => r x xs H2 Q
variable {o e : Expr} {es : List Expr} {to : TE} {t : TA} {name : Str} {apos cpos : Pos} {id : String} {r : V → List V → Hp → VK → Prop}
theorem pe_tm (slot : Slot "tuple" name id) (hty : typeOf (.builtin id) = pure (.type "method_descriptor")) (hm : MtR X id r) (ho : PE X o to) (ha : PA X (e :: es) t)
    (hbase : attributeBase o name X.env (eval o X.env) = eval o X.env := by rfl)
    (hfew : ((backTo cpos (starEach (e :: es) X.env)).all (fun x => !x.1) && (backToKw cpos (keywordEach [] X.env)).all (fun x => x.1.isSome)
      && decide ((e :: es).length + ([] : List Keyword).length + (if ([] : List Keyword).isEmpty then 0 else 1) < 30)) = true := by rfl)
    (hline : (apos.endLine == cpos.line) = true := by rfl) (hs : starEach (e :: es) X.env = (false, eval e X.env) :: starEach es X.env := by rfl) (hplain : (backTo cpos (starEach es X.env)).any (·.1) = false := by rfl) :
    PE X (.Call (.Attribute o name apos) (e :: es) [] cpos) (tTM r to t) := by
  refine ⟨fun pins s σ H Q I h => ?_⟩
  refine wpAny_Call_method_late hbase hfew hline rfl (thn (ho.run pins s σ H _ I h) fun v s1 ⟨x, H1, I1, r1, ty, q1⟩ => ?_)
  obtain ⟨p, ys, rfl, od, e1, e2, e3⟩ := ty
  cases r1
  have e4 : s1.heap.get? p = some od := (show ObjOk X.prog X.w H1 s1.heap p (.frz od (.tup ys)) from I1.hok p _ e1).1
  have h1 : s1.TypeIs (.ref p) "tuple" := ⟨od, e4, e3⟩
  have h2 : ∀ a, Value.ref p = .ref a → ∃ ob, s1.heap.get? a = some ob ∧ ob.dict = none := fun a e => by cases e; exact ⟨od, e4, e2⟩
  refine ⟨"tuple", id, PySem.F.plainAttrs_tuple, slot, hty, h1, h2, ?_⟩
  have hA := ha.run cpos pins s1 σ H1 _ I1 q1
  rw [hs] at hA ⊢
  refine Calls.callWith_builtin (by show (false || (backTo cpos (starEach es X.env)).any (·.1)) = false; rw [hplain] <;> rfl) (Calls.evalArgs_plain ?_)
  exact thn hA fun us s2 ⟨vs, H2, I2, r2, q2⟩ => hm pins s2 σ H2 (.ref p) vs (.ref p) us Q I2 rfl r2 q2
end
end L2
/-! M32: tuples of whole numbers whose methods may be called, as data -/
namespace M
open PySem PySem.Spec PyProof.Rows L2
open Evl (Ex)
open Enc (enc)
structure Tn where
  xs : List Int
instance : Enc Tn := ⟨fun t => .tnt t.xs⟩
instance : Inhabited Tn := ⟨⟨[]⟩⟩
instance : Im Tn := ⟨fun K F F' v a r k => by
  cases r with
  | tnt h hd hc => exact .tnt (k _ _ (.f _ _) h) hd hc⟩
theorem tn_lays : ∀ ns : List Int, PyData.canLayAll0 (ns.map PyData.int) = true
  | [] => rfl
  | n :: ns => by rw [List.map_cons]; simp [PyData.canLayAll0, PyData.canLay0, tn_lays ns]
theorem tn_depth : ∀ ns : List Int, PyData.depthAll (ns.map PyData.int) = 0
  | [] => rfl
  | n :: ns => by rw [List.map_cons, PyData.depthAll, tn_depth ns]; rfl
theorem tn_eqvs : ∀ ns ms : List Int, PyData.eqvAll (ns.map PyData.int) (ms.map PyData.int) = decide (ns = ms)
  | [], [] => rfl
  | [], m :: ms => by simp [PyData.eqvAll]
  | n :: ns, [] => by simp [PyData.eqvAll]
  | n :: ns, m :: ms => by
    rw [List.map_cons, List.map_cons, PyData.eqvAll, tn_eqvs ns ms]
    simp [PyData.eqv, Bool.beq_eq_decide_eq]
instance : DecidableEq Tn := fun a b => decidable_of_iff (a.xs = b.xs) ⟨fun h => by cases a; cases b; cases h; rfl, fun h => by rw [h]⟩
instance : EqD Tn := ⟨inferInstance, fun K F H v a e r => by
    cases r with
    | tnt h hd hc => exact .tup (.inl (.inr ⟨_, e _ _ h⟩)) (dp_ints a.xs), fun _ => true, fun a _ => by
    show PyData.canLay0 (.tuple (a.xs.map PyData.int)) = true
    simp only [PyData.canLay0]
    exact tn_lays a.xs, 1, fun a => by
    show PyData.depth (.tuple (a.xs.map PyData.int)) ≤ _
    simp only [PyData.depth, tn_depth]
    decide, fun a b => by
    show PyData.eqvAll (a.xs.map PyData.int) (b.xs.map PyData.int) = _
    rw [tn_eqvs]
    exact decide_eq_decide.mpr ⟨fun h => by cases a; cases b; cases h; rfl, fun h => by rw [h]⟩⟩
instance : EqT Tn := ⟨fun _ => rfl⟩
section
variable {K : PySem.W.Frag} {Γ Γ' Δ : List Sl} {ta tb tc te tp ti tj : TE} {T : Type} {hd : Hdl T} {u w t : TS}
theorem em_tupleTn {m : Option (List Int)} (h : EvL K ta Γ m) : EvM K (tCB (rTn K) (tCons ta tNil)) Γ (m.bind fun xs => some (Tn.mk xs)) := fun c e F0 B F σ H k Q q => by
  obtain ⟨xs, e1, e⟩ := Option.bind_eq_some_iff.mp e
  cases e
  refine h xs e1 F0 B F σ H k _ fun p vs F1 H1 x1 h1 r1 => ⟨p, vs, rfl, Evl.sq_of h1, fun l od hl hd hc => ?_⟩
  have x2 := Ext.new (o := .frz od (.tup vs)) x1.fh hl
  refine q _ _ _ (x1.trans x2) ?_
  rw [repsI r1] at *
  exact .tnt upd_same hd hc
theorem em_tupleTnP {xs : List Int} (h : EvL K ta Γ (some xs)) : EvM K (tCB (rTn K) (tCons ta tNil)) Γ (some (Tn.mk xs)) := em_tupleTn h
theorem em_tcount {m : Option Tn} {mk : Option Int} (h : EvM K ta Γ m) (hk : EvM K tb Γ mk) : EvM K (tTM (rTCnt K) ta (tCons tb tNil)) Γ (m.bind fun t => mk.bind fun k => some ((t.xs.count k : Nat) : Int)) := fun c e F0 B F σ H ok Q q => by
  obtain ⟨t, e1, e⟩ := Option.bind_eq_some_iff.mp e
  obtain ⟨k, e2, e⟩ := Option.bind_eq_some_iff.mp e
  cases e
  refine h t e1 F0 B F σ H ok _ fun v F1 H1 x1 r1 => ?_
  cases r1 with
  | @tnt p od _ h1 hd hc =>
    refine ⟨⟨p, _, rfl, od, x1.fh _ _ h1, hd, hc⟩, ?_⟩
    refine hk k e2 F0 B F1 σ H1 (ok.ext x1) _ fun w F2 H2 x2 r2 => ?_
    exact ⟨p, t.xs, k, rfl, by rw [r2.int_inv], .inl (.inr ⟨od, x2.fh _ _ (x2.ff _ _ h1)⟩), q _ F2 H2 (x1.trans x2) (.int _)⟩
theorem mt_tcountK {X : Cx} (h : X.K = K) : MtR X "tuple.count" (rTCnt K) := h ▸ mt_tcount
theorem em_tcountP {t : Tn} {k : Int} (h : EvM K ta Γ (some t)) (hk : EvM K tb Γ (some k)) : EvM K (tTM (rTCnt K) ta (tCons tb tNil)) Γ (some ((t.xs.count k : Nat) : Int)) := em_tcount h hk
theorem ei_tn {m : Option Tn} (h : EvM K te Γ m) : EvI K (iTup K te) Γ (m.bind fun t => some t.xs) := fun a e F0 B F σ H k R q => by
  obtain ⟨t, e1, e⟩ := Option.bind_eq_some_iff.mp e
  cases e
  refine h t e1 F0 B F σ H k _ fun v F1 H1 x1 r => ?_
  cases r with
  | @tnt p od _ h1 hd hc =>
    refine ⟨p, rfl, ⟨t.xs.map V.int, .inl (.inr ⟨od, x1.fh _ _ h1⟩)⟩, q _ F1 H1 x1 ⟨fun F H i => ⟨t.xs.map V.int, .inl (.inr ⟨od, (i.1.trans i.2) _ _ h1⟩), by rw [List.length_map]; exact Nat.le_refl _⟩, fun F H i e j x hx => ?_⟩⟩
    have ht : SqT K H p (t.xs.map V.int) := .inl (.inr ⟨od, (i.1.trans i.2) _ _ h1⟩)
    have a1 : (t.xs.map V.int)[j]? = some (V.int x) := by rw [List.getElem?_map, hx]; rfl
    refine ⟨⟨t.xs.map V.int, V.int x, ht, a1⟩, fun u H2 y => ?_⟩
    obtain ⟨rfl, y⟩ := y
    have z := y (t.xs.map V.int) ht
    rw [a1] at z
    cases z
    exact ⟨F, Ext.refl e, .int _⟩
theorem ei_tnP {t : Tn} (h : EvM K te Γ (some t)) : EvI K (iTup K te) Γ (some t.xs) := ei_tn h
end
end M
/-! M33: [x for x in f(..) if c], own lists handed on -/
namespace M
open PySem PySem.Spec PyProof.Rows L2
open Evl (Ex)
open Enc (enc)
section
variable {K : PySem.W.Frag} {Γ Γ' : List Sl} {α : Type} [Enc α] {te te0 : TE} {tt : TT}
/-- the values that stand where p holds -/
def pick (p : List α → Bool) : List (List α) → List V → List V
  | l :: L, v :: vs => if p l = true then v :: pick p L vs else pick p L vs
  | _, _ => []
theorem pick_snoc (p : List α → Bool) : ∀ (L : List (List α)) (vs : List V) (l : List α) (v : V), L.length = vs.length → pick p (L ++ [l]) (vs ++ [v]) = pick p L vs ++ if p l = true then [v] else []
  | [], [], l, v, _ => by simp [pick]
  | a :: L, b :: vs, l, v, h => by
    have ih := pick_snoc p L vs l v (by simpa using h)
    simp only [List.cons_append, pick]
    rw [ih]
    split <;> simp
theorem SlRs.pick {F H : Hp} (p : List α → Bool) : ∀ {L : List (List α)} {vs : List V} {fps : List Addr}, SlRs K F H (L.map fun l => Sl.own (l.map enc)) (vs.map some) fps →
    ∃ fp, SlRs K F H ((L.filter p).map fun l => Sl.own (l.map enc)) ((M.pick p L vs).map some) fp ∧ fp.Sublist fps
  | [], vs, fps, h => by
    cases vs with
    | nil => exact ⟨[], .nil, by cases h; exact List.Sublist.refl _⟩
    | cons v vs => cases h
  | l :: L, vs, fps, h => by
    cases vs with
    | nil => cases h
    | cons v vs =>
      cases h with
      | @cons _ _ f1 _ _ f2 h t =>
        obtain ⟨fp, r, s⟩ := SlRs.pick p t
        simp only [M.pick, List.filter_cons]
        split
        · exact ⟨f1 ++ fp, .cons h r, (List.Sublist.refl _).append s⟩
        · exact ⟨fp, r, s.trans (List.sublist_append_right _ _)⟩
theorem ew_lcF {x : Nat} {s : Sl} {vs : List Nat} {m : Option (List (List α))} {c : List α → Option Bool}
    (h : EvW K te0 Γ m (fun L => .o2 L)) (hi : (wipeG Γ vs)[x]? = some s) (hx : x ∈ vs) (ht : ∀ l : List α, EvT K tt ((wipeG Γ vs).set x (.f l)) (c l)) :
    EvW K (tLc (iList K te0) (gName x) tt (tVar x) vs) Γ (m.bind fun L => lcM c (fun l => some l) L) (fun ys => .o2 ys) := fun out eo F0 B F σ H k Q q => by
  obtain ⟨L, e1, eo⟩ := Option.bind_eq_some_iff.mp eo
  unfold lcM at eo
  split at eo
  case isFalse => cases eo
  rename_i hlen
  refine h L e1 F0 B F σ H k _ fun v F1 H1 fr x1 r1 nd nw => ?_
  obtain ⟨p, us, fps, rfl, ep, b1, b2⟩ := r1
  cases ep
  obtain ⟨w, Ff, ew, y1, y2, y3, rf⟩ := frz F1 (.o2 L) (enc L) (some (.ref p)) (p :: fps) toD_o2 ⟨p, us, fps, rfl, rfl, b1, b2⟩ nd (fun q hq => (nw q hq).2) x1.fh
  cases ew
  have xf : Ext F H Ff H1 := ⟨x1.ff.trans y1, x1.hh, y2, fun q o e => by
    rw [y3 q fun hm => by rw [(nw q hm).1] at e; cases e]
    exact x1.old q o e⟩
  obtain ⟨p', us', ep, g1, g2⟩ := rf.lst_inv
  cases ep
  have g1' : H1 p = some (.lst us') := y2 _ _ g1
  rw [b1] at g1'; cases g1'
  have lus : us.length = L.length := by rw [g2.len, List.length_map]
  refine ⟨p, rfl, ⟨us, Evl.sq_of b1⟩, fun Dl hD => ?_⟩
  -- what the condition says, at each
  let pr : List α → Bool := fun l => (c l).getD false
  refine ⟨fun i m H2 => m = L.length - i ∧ i ≤ L.length ∧ ∃ F2 rest, Ext Ff H1 F2 H2 ∧ F2 Dl = none ∧ H2 Dl = some (.lst (pick pr (L.take i) (us.take i))) ∧ compM c (fun l => some l) (L.drop i) = some rest ∧ (L.take i).filter pr ++ rest = out,
    ⟨L.length, by simp, Nat.zero_le _, Ff, out, Ext.newOwn y2 hD, none_of y2 hD, upd_same, by simpa using eo, by simp⟩, ?_⟩
  rintro i m H2 ⟨rfl, hi2, F2, rest, x2, f2, h2, e2, o2⟩
  have hp2 : H2 p = some (.lst us) := x2.hh _ _ b1
  by_cases hlt : i < L.length
  · right
    have hus : us[i]? = some us[i] := List.getElem?_eq_getElem (by omega)
    rw [List.drop_eq_getElem_cons hlt, compM] at e2
    obtain ⟨b, e3, e4⟩ := Option.bind_eq_some_iff.mp e2
    have epr : pr L[i] = b := by show (c L[i]).getD false = b; rw [e3]; rfl
    have tk : L.take (i + 1) = L.take i ++ [L[i]] := List.take_succ_eq_append_getElem hlt
    have tu : us.take (i + 1) = us.take i ++ [us[i]] := List.take_succ_eq_append_getElem (by omega)
    have pk : pick pr (L.take (i + 1)) (us.take (i + 1)) = pick pr (L.take i) (us.take i) ++ if b = true then [us[i]] else [] := by
      rw [tk, tu, pick_snoc pr _ _ _ _ (by rw [List.length_take, List.length_take, lus]), epr]
    refine ⟨⟨us, us[i], Evl.sq_of hp2, hus⟩, fun H' => ∃ F2 rest, Ext Ff H1 F2 H' ∧ F2 Dl = none ∧ H' Dl = some (.lst (pick pr (L.take (i + 1)) (us.take (i + 1)))) ∧ compM c (fun l => some l) (L.drop (i + 1)) = some rest ∧ (L.take (i + 1)).filter pr ++ rest = out, fun H' n => ⟨L.length - (i + 1), by omega, rfl, hlt, n⟩, fun v H' y => ?_⟩
    obtain ⟨rfl, y⟩ := y
    have z := y us (Evl.sq_of hp2)
    rw [hus] at z
    cases z
    have k3 := (k.ext (xf.trans x2)).wipe vs
    have rv : Rep K F2 us[i] (enc L[i]) := by
      have := g2.at_ i us[i] (enc L[i]) hus (by rw [List.getElem?_map, List.getElem?_eq_getElem hlt]; rfl)
      exact this.mono x2.ff
    have k4 := k3.fz hi rv
    have wl : x < (wipe σ vs).length := by
      obtain ⟨_, _, hv, _⟩ := k3.mod hi
      exact (List.getElem?_eq_some_iff.mp hv).1
    refine tw_name hx us[i] σ H' _ ?_
    refine ht L[i] b e3 F0 B F2 _ H' k4 _ fun F5 H5 x5 => ?_
    have x15 := x2.trans x5
    have f5 : F5 Dl = none := (x5.old _ _ h2).trans f2
    have h5 : H5 Dl = some (.lst (pick pr (L.take i) (us.take i))) := x5.hh _ _ h2
    cases b with
    | false =>
      rw [if_neg Bool.false_ne_true] at e4
      refine ⟨F5, rest, x15, f5, ?_, e4, ?_⟩
      · rw [h5, pk]; simp
      · rw [tk, List.filter_append]
        simp only [List.filter_cons, epr, List.filter_nil, Bool.false_eq_true, if_false, List.append_nil]
        exact o2
    | true =>
      rw [if_pos rfl] at e4
      obtain ⟨yy, e5, e6⟩ := Option.bind_eq_some_iff.mp e4
      cases e5
      obtain ⟨ys, e7, e8⟩ := Option.bind_eq_some_iff.mp e6
      cases e8
      refine ⟨us[i], by rw [List.getElem?_set_self wl], pick pr (L.take i) (us.take i), h5, ?_, F5, ys, ⟨x15.ff, fun q o z => ?_, fun q o z => ?_, x15.old⟩, f5, ?_, e7, ?_⟩
      · have hpl : ∀ (A : List (List α)) (B : List V), (pick pr A B).length ≤ A.length := fun A => by
          induction A with
          | nil => intro B; simp [pick]
          | cons a A ih =>
            intro B
            cases B with
            | nil => simp [pick]
            | cons b B =>
              have := ih B
              simp only [pick]
              split <;> simp <;> omega
        have := hpl (L.take i) (us.take i)
        rw [List.length_take] at this
        omega
      · rw [upd_ne (ne_of_none z hD)]
        exact x15.hh q o z
      · rw [upd_ne (ne_of_none z f5)]
        exact x5.fh q o z
      · rw [upd_same, pk]; simp
      · rw [tk, List.filter_append]
        simp only [List.filter_cons, epr, List.filter_nil, if_true]
        rw [List.append_assoc]
        exact o2
  · left
    have e5 : i = L.length := by omega
    subst e5
    rw [List.drop_length] at e2
    cases e2
    rw [List.append_nil, List.take_length] at o2
    rw [List.take_length, ← lus, List.take_length] at h2
    subst o2
    classical
    -- what was read as if it stayed is one's own again
    let F' : Hp := fun q => if q ∈ p :: fps then none else F2 q
    have F'n : ∀ q, q ∉ p :: fps → F' q = F2 q := fun q hq => if_neg hq
    have F1F' : Ex F1 F' := fun q o e => by
      have hq : q ∉ p :: fps := fun hm => by rw [(nw q hm).2] at e; cases e
      rw [F'n q hq]
      exact x2.ff q o (y1 q o e)
    have F'H : Ex F' H2 := fun q o e => by
      have e : (if q ∈ p :: fps then none else F2 q) = some o := e
      split at e
      · cases e
      · exact x2.fh q o e
    have hDf : Dl ∉ p :: fps := fun hm => by
      rcases List.mem_cons.mp hm with rfl | hm
      · rw [hD] at b1; cases b1
      · obtain ⟨o, ho⟩ := (slrl_iff.mp b2).dom Dl hm
        rw [hD] at ho; cases ho
    have ext : Ext F H F' H2 := ⟨x1.ff.trans F1F', fun q o e => x2.hh q o (x1.hh q o e), F'H, fun q o e => by
      have hq : q ∉ p :: fps := fun hm => by rw [(nw q hm).1] at e; cases e
      rw [F'n q hq]
      exact (x2.old q o (x1.hh q o e)).trans (xf.old q o e)⟩
    have full := (slrl_iff.mp b2).mono F1F' fun q hq => by
      obtain ⟨o, ho⟩ := (slrl_iff.mp b2).dom q hq
      rw [ho]; exact x2.hh q o ho
    obtain ⟨fp, r, sb⟩ := SlRs.pick pr full
    have ndf := (List.nodup_cons.mp nd).2
    refine ⟨⟨us, Evl.sq_of hp2, Nat.le_of_eq lus⟩, q (.ref Dl) F' H2 (Dl :: fp) ext ⟨Dl, pick pr L us, fp, rfl, rfl, h2, slrl_iff.mpr r⟩ ?_ fun q hq => ?_⟩
    · exact List.nodup_cons.mpr ⟨fun z => hDf (List.mem_cons_of_mem _ (sb.subset z)), ndf.sublist sb⟩
    · rcases List.mem_cons.mp hq with rfl | hq
      · exact ⟨Evl.fresh_back x1.hh hD, (F'n _ hDf).trans f2⟩
      · have hm : q ∈ p :: fps := List.mem_cons_of_mem _ (sb.subset hq)
        exact ⟨(nw q hm).1, if_pos hm⟩
end
end M
/-! M34: own things within a tuple, read as if they stayed, where what is told holds numbers, truth values, texts alone -/
namespace M
open PySem PySem.Spec PyProof.Rows L2
open Evl (Ex)
open Enc (enc)
section
variable {K : PySem.W.Frag} {Γ Γ' : List Sl} {α γ : Type} [Enc α] {te : TE}
theorem Ok.borrowS {F0 B F : Hp} {σ : L2.St} {H : Hp} {i : Nat} {s : Sl} {d : D} (k : Ok K F0 B F Γ σ H) (hi : Γ[i]? = some s) (hd : toD s = some d) : ∃ F1, Ok K F0 B F1 (Γ.set i (.fz d)) σ H ∧
    ∀ F' H', Ext F1 H F' H' → ∃ F'', Ext F H F'' H' ∧ (∀ q, H q = none → F'' q = F' q) := by
  obtain ⟨v, m, h1, h2, h3, nd, h4⟩ := k.mod hi
  obtain ⟨w, F1, rfl, x1, x2, k1, r⟩ := frz F s d v m hd h2 nd (fun p hp => (h3 p hp).1) k.fh
  have z := h4 F1 H (.fz d) (some w) [] x1 x2 (fun q o _ a => a) (fun q o _ nq => k1 q nq) ⟨rfl, w, rfl, r⟩ List.nodup_nil (fun p hp => by cases hp) fun p hp => by cases hp
  rw [set_id h1] at z
  refine ⟨F1, z, fun F' H' y => ?_⟩
  classical
  have dom := h2.dom
  refine ⟨fun q => if q ∈ m then none else F' q, ⟨fun q o e => ?_, y.hh, fun q o e => ?_, fun q o e => ?_⟩, fun q e => ?_⟩
  · show (if q ∈ m then none else F' q) = some o
    rw [if_neg (fun hm => by rw [(h3 q hm).1] at e; cases e)]
    exact y.ff q o (x1 q o e)
  · have e : (if q ∈ m then none else F' q) = some o := e
    split at e
    · cases e
    · exact y.fh q o e
  · show (if q ∈ m then none else F' q) = F q
    split
    · rename_i hm; exact (h3 q hm).1.symm
    · rename_i hm; exact (y.old q o e).trans (k1 q hm)
  · show (if q ∈ m then none else F' q) = F' q
    rw [if_neg fun hm => by obtain ⟨o, ho⟩ := dom q hm; rw [e] at ho; cases ho]
/-- own things that need nothing that stays -/
def ImC (K : PySem.W.Frag) (rs : γ → Sl) : Prop := ∀ (a : γ) (F F' H : Hp) (v : Option V) (fp : List Addr), SlR K F H (rs a) v fp → SlR K F' H (rs a) v fp
theorem repsSc [Sc α] {F F' : Hp} {vs : List V} {xs : List α} (r : Reps K F vs (xs.map enc)) : Reps K F' vs (xs.map enc) := by
  refine ⟨r.len, fun i v d h1 h2 => ?_⟩
  have h := r.at_ i v d h1 h2
  rw [List.getElem?_map] at h2
  obtain ⟨a, _, rfl⟩ := Option.map_eq_some_iff.mp h2
  exact Sc.sc K F F' v a h
theorem imC_o [Sc α] : ImC K (fun a : List α => Sl.o a) := fun a F F' H v fp h => by
  obtain ⟨p, vs, h1, h2, h3, h4⟩ := h
  exact ⟨p, vs, h1, h2, h3, repsSc h4⟩
theorem slSc [Sc α] {F F' H : Hp} : ∀ {L : List (List α)} {vs : List (Option V)} {fp : List Addr}, SlRs K F H (L.map fun l => Sl.own (l.map enc)) vs fp → SlRs K F' H (L.map fun l => Sl.own (l.map enc)) vs fp
  | [], _, _, h => by cases h; exact .nil
  | l :: L, _, _, h => by
    cases h with
    | cons h t => exact .cons (imC_o (K := K) l F F' H _ _ h) (slSc t)
theorem imC_o2 [Sc α] : ImC K (fun a : List (List α) => Sl.o2 a) := fun a F F' H v fp h => by
  obtain ⟨p, vs, fps, h1, h2, h3, h4⟩ := h
  exact ⟨p, vs, fps, h1, h2, h3, slrl_iff.mpr (slSc (slrl_iff.mp h4))⟩
theorem ew_borrowC {i : Nat} {s : Sl} {d : D} {m : Option γ} {rs : γ → Sl} (hI : ImC K rs) (hi : Γ[i]? = some s) (hd' : toD s = some d) (h : EvW K te (Γ.set i (.fz d)) m rs) : EvW K te Γ m rs := fun a e F0 B F σ H k Q q => by
  obtain ⟨F1, k', c⟩ := k.borrowS hi hd'
  refine h a e F0 B F1 σ H k' Q fun v F' H' fr y r nd nw => ?_
  obtain ⟨F'', x, ko⟩ := c F' H' y
  exact q v F'' H' fr x (hI a F' F'' H' _ _ r) nd fun p hp => ⟨(nw p hp).1, (ko p (nw p hp).1).trans (nw p hp).2⟩
end
end M
/-! M35: a changing call within a tuple -/
namespace M
open PySem L2
theorem es_cast {γ : Type} {K : PySem.W.Frag} {te : TE} {Γ : List Sl} {m m' : Option γ} {rs : γ → Sl} {G : γ → List Sl} (e : m = m') (h : EvS K te Γ m rs G) : EvS K te Γ m' rs G := e ▸ h
theorem es_eqG {γ : Type} {K : PySem.W.Frag} {te : TE} {Γ : List Sl} {m : Option γ} {rs : γ → Sl} {G G' : γ → List Sl} (h : EvS K te Γ m rs G') (e : ∀ c, G' c = G c) : EvS K te Γ m rs G := (funext e : G' = G) ▸ h
theorem es_sub {γ : Type} {K : PySem.W.Frag} {te : TE} {Γ : List Sl} {m : Option γ} {rs : γ → Sl} {G G' : γ → List Sl} (h : EvS K te Γ m rs G) (hs : ∀ c, Sub (G c) (G' c)) : EvS K te Γ m rs G' := fun c e F0 B F σ H k Q q =>
  h c e F0 B F σ H k Q fun v F1 H1 k1 => q v F1 H1 (k1.sub (.s (hs c)))
end M
/-! M36: any and all over lists of truths -/
namespace M
open PySem PySem.Spec PyProof.Rows L2
open Enc (enc)
section
variable {K : PySem.W.Frag} {Γ : List Sl} {ta : TE}
theorem reps_bools {F : Hp} {vs : List V} {xs : List Bool} (r : Reps K F vs (xs.map enc)) : vs = xs.map V.bl := scal_vs r
theorem em_any {m : Option (List Bool)} (h : EvL K ta Γ m) : EvM K (tCB (rAny K) (tCons ta tNil)) Γ (m.bind fun xs => some (xs.any id)) := fun c e F0 B F σ H k Q q => by
  obtain ⟨xs, e1, e⟩ := Option.bind_eq_some_iff.mp e
  cases e
  exact h xs e1 F0 B F σ H k _ fun p vs F1 H1 x1 h1 r1 => ⟨p, xs, rfl, Evl.sq_of (by rw [h1, reps_bools r1]), q _ F1 H1 x1 (.bl _)⟩
theorem em_all {m : Option (List Bool)} (h : EvL K ta Γ m) : EvM K (tCB (rAll K) (tCons ta tNil)) Γ (m.bind fun xs => some (xs.all id)) := fun c e F0 B F σ H k Q q => by
  obtain ⟨xs, e1, e⟩ := Option.bind_eq_some_iff.mp e
  cases e
  exact h xs e1 F0 B F σ H k _ fun p vs F1 H1 x1 h1 r1 => ⟨p, xs, rfl, Evl.sq_of (by rw [h1, reps_bools r1]), q _ F1 H1 x1 (.bl _)⟩
theorem em_anyP {xs : List Bool} (h : EvL K ta Γ (some xs)) : EvM K (tCB (rAny K) (tCons ta tNil)) Γ (some (xs.any id)) := em_any h
theorem em_allP {xs : List Bool} (h : EvL K ta Γ (some xs)) : EvM K (tCB (rAll K) (tCons ta tNil)) Γ (some (xs.all id)) := em_all h
end
end M

namespace T
open PySem PySem.Spec PyProof.Rows L2 M
open M.Enc (enc)
def top (i : Nat) : Stmt := PySem.Challenge.pw_rollcall_k11_whole_largest_of_all.main.body.getD i (.Pass ⟨0, 0, 0, 0⟩)
def mtop (i j : Nat) : Stmt := (cBody (top i)).getD j (.Pass ⟨0, 0, 0, 0⟩)
def d_link_up : He.DefD := ⟨("link_up", none), "link_up", "link_up", defArgs (top 2), defBody (top 2), defScope (top 2), [], []⟩
def d_path_up : He.DefD := ⟨("path_up", none), "path_up", "path_up", defArgs (top 3), defBody (top 3), defScope (top 3), [], []⟩
def d_change_up : He.DefD := ⟨("change_up", none), "change_up", "change_up", defArgs (top 4), defBody (top 4), defScope (top 4), [], []⟩
def d_put_ring : He.DefD := ⟨("put_ring", none), "put_ring", "put_ring", defArgs (top 5), defBody (top 5), defScope (top 5), [], []⟩
def d_grow : He.DefD := ⟨("grow", none), "grow", "grow", defArgs (top 6), defBody (top 6), defScope (top 6), [], []⟩
def d_helps : He.DefD := ⟨("helps", none), "helps", "helps", defArgs (top 7), defBody (top 7), defScope (top 7), [], []⟩
def d_Web__new : He.DefD := ⟨("Web", some "__init__"), "__init__", "Web.__init__", defArgs (mtop 9 0), defBody (mtop 9 0), defScope (mtop 9 0), [], []⟩
def d_Web__outermost : He.DefD := ⟨("Web", some "outermost"), "outermost", "Web.outermost", defArgs (mtop 9 1), defBody (mtop 9 1), defScope (mtop 9 1), [], []⟩
def d_Web__is_ring : He.DefD := ⟨("Web", some "is_ring"), "is_ring", "Web.is_ring", defArgs (mtop 9 2), defBody (mtop 9 2), defScope (mtop 9 2), [], []⟩
def d_Web__begin : He.DefD := ⟨("Web", some "begin"), "begin", "Web.begin", defArgs (mtop 9 4), defBody (mtop 9 4), defScope (mtop 9 4), [], []⟩
def d_Web__put_together : He.DefD := ⟨("Web", some "put_together"), "put_together", "Web.put_together", defArgs (mtop 9 5), defBody (mtop 9 5), defScope (mtop 9 5), [], []⟩
def d_Web__spot : He.DefD := ⟨("Web", some "spot"), "spot", "Web.spot", defArgs (mtop 9 6), defBody (mtop 9 6), defScope (mtop 9 6), [], []⟩
def d_Web__take_apart : He.DefD := ⟨("Web", some "take_apart"), "take_apart", "Web.take_apart", defArgs (mtop 9 7), defBody (mtop 9 7), defScope (mtop 9 7), [], []⟩
def d_Web__loosen : He.DefD := ⟨("Web", some "loosen"), "loosen", "Web.loosen", defArgs (mtop 9 8), defBody (mtop 9 8), defScope (mtop 9 8), [], []⟩
def d_Web__pairs : He.DefD := ⟨("Web", some "pairs"), "pairs", "Web.pairs", defArgs (mtop 9 11), defBody (mtop 9 11), defScope (mtop 9 11), [], []⟩
def d_helpful : He.DefD := ⟨("helpful", none), "helpful", "helpful", defArgs (top 11), defBody (top 11), defScope (top 11), [], []⟩
def d_searched : He.DefD := ⟨("searched", none), "searched", "searched", defArgs (top 12), defBody (top 12), defScope (top 12), [], []⟩
def d_odd_places : He.DefD := ⟨("odd_places", none), "odd_places", "odd_places", defArgs (top 13), defBody (top 13), defScope (top 13), [], []⟩
def d_largest : He.DefD := ⟨("largest", none), "largest", "largest", defArgs (top 14), defBody (top 14), defScope (top 14), [], []⟩
def d_without_place : He.DefD := ⟨("without_place", none), "without_place", "without_place", defArgs (top 15), defBody (top 15), defScope (top 15), [], []⟩
def d_left_alone : He.DefD := ⟨("left_alone", none), "left_alone", "left_alone", defArgs (top 16), defBody (top 16), defScope (top 16), [], []⟩
def d__law_cell_at : He.DefD := ⟨("_law_cell_at", none), "_law_cell_at", "_law_cell_at", defArgs (top 18), defBody (top 18), defScope (top 18), [], []⟩
def d__law_whole : He.DefD := ⟨("_law_whole", none), "_law_whole", "_law_whole", defArgs (top 19), defBody (top 19), defScope (top 19), [], []⟩
def d__law_linked : He.DefD := ⟨("_law_linked", none), "_law_linked", "_law_linked", defArgs (top 20), defBody (top 20), defScope (top 20), [], []⟩
def d__law_links : He.DefD := ⟨("_law_links", none), "_law_links", "_law_links", defArgs (top 21), defBody (top 21), defScope (top 21), [], []⟩
def d__law_pairing : He.DefD := ⟨("_law_pairing", none), "_law_pairing", "_law_pairing", defArgs (top 22), defBody (top 22), defScope (top 22), [], []⟩
def d__law_all : He.DefD := ⟨("_law_all", none), "_law_all", "_law_all", defArgs (top 23), defBody (top 23), defScope (top 23), [], []⟩
def d_law : He.DefD := ⟨("law", none), "law", "law", defArgs (top 24), defBody (top 24), defScope (top 24), [], []⟩
def fn : List He.DefD := [d_link_up, d_path_up, d_change_up, d_put_ring, d_grow, d_helps, d_Web__new, d_Web__outermost, d_Web__is_ring, d_Web__begin, d_Web__put_together, d_Web__spot, d_Web__take_apart, d_Web__loosen, d_Web__pairs, d_helpful, d_searched, d_odd_places, d_largest, d_without_place, d_left_alone, d__law_cell_at, d__law_whole, d__law_linked, d__law_links, d__law_pairing, d__law_all, d_law]
def fa : List He.Fa := [.glo "link_up", .glo "path_up", .glo "change_up", .glo "put_ring", .glo "grow", .glo "helps", .glo "helpful", .glo "searched", .glo "odd_places", .glo "largest", .glo "without_place", .glo "left_alone", .glo "_law_cell_at", .glo "_law_whole", .glo "_law_linked", .glo "_law_links", .glo "_law_pairing", .glo "_law_all", .glo "law", .free "all", .free "any", .free "bool", .free "int", .free "isinstance", .free "len", .free "list", .free "max", .free "range", .free "tuple", .cls "Web", .mkr "Web", .glo "Web", .noat "Web" "size", .noat "Web" "inside", .noat "Web" "price", .noat "Web" "ring", .noat "Web" "joints", .noat "Web" "tie", .noat "Web" "mark", .noat "Web" "way", .noat "Web" "outer", .meth "Web" "outermost", .meth "Web" "is_ring", .meth "Web" "begin", .meth "Web" "put_together", .meth "Web" "spot", .meth "Web" "take_apart", .meth "Web" "loosen", .meth "Web" "pairs"]
structure Tx (K : PySem.W.Frag) (mg : Str → Option Value) : Prop where
  one : True := trivial
  b_all : mg "all" = none
  b_any : mg "any" = none
  b_bool : mg "bool" = none
  b_int : mg "int" = none
  b_isinstance : mg "isinstance" = none
  b_len : mg "len" = none
  b_list : mg "list" = none
  b_max : mg "max" = none
  b_range : mg "range" = none
  b_tuple : mg "tuple" = none
  cls_Web : Cls K (He.ga K "Web")
  mk_Web : Mk K (He.ga K "Web") (He.ma K (He.ga K "Web") "__init__")
  g_Web : mg "Web" = some (.ref (He.ga K "Web"))
  at_Web_size : NoAttr K (He.ga K "Web") "size"
  at_Web_inside : NoAttr K (He.ga K "Web") "inside"
  at_Web_price : NoAttr K (He.ga K "Web") "price"
  at_Web_ring : NoAttr K (He.ga K "Web") "ring"
  at_Web_joints : NoAttr K (He.ga K "Web") "joints"
  at_Web_tie : NoAttr K (He.ga K "Web") "tie"
  at_Web_mark : NoAttr K (He.ga K "Web") "mark"
  at_Web_way : NoAttr K (He.ga K "Web") "way"
  at_Web_outer : NoAttr K (He.ga K "Web") "outer"
  mt_Web__outermost : Meth K (He.ga K "Web") "outermost" (He.ma K (He.ga K "Web") "outermost")
  mt_Web__is_ring : Meth K (He.ga K "Web") "is_ring" (He.ma K (He.ga K "Web") "is_ring")
  mt_Web__begin : Meth K (He.ga K "Web") "begin" (He.ma K (He.ga K "Web") "begin")
  mt_Web__put_together : Meth K (He.ga K "Web") "put_together" (He.ma K (He.ga K "Web") "put_together")
  mt_Web__spot : Meth K (He.ga K "Web") "spot" (He.ma K (He.ga K "Web") "spot")
  mt_Web__take_apart : Meth K (He.ga K "Web") "take_apart" (He.ma K (He.ga K "Web") "take_apart")
  mt_Web__loosen : Meth K (He.ga K "Web") "loosen" (He.ma K (He.ga K "Web") "loosen")
  mt_Web__pairs : Meth K (He.ga K "Web") "pairs" (He.ma K (He.ga K "Web") "pairs")
abbrev xs_Web : List Str := ["size", "inside", "price", "ring", "joints", "tie", "mark", "way", "outer"]
structure C_Web where
  size : Int
  inside : (List (List Int))
  price : (List Int)
  ring : (List (List Int))
  joints : (List (List (Int × Int)))
  tie : (List (Option (Int × Int)))
  mark : (List Int)
  way : (List (Option (Int × Int)))
  outer : (List Int)
instance : Obj C_Web := { enc := fun a => .obj "Web" xs_Web [enc a.size, enc a.inside, enc a.price, enc a.ring, enc a.joints, enc a.tie, enc a.mark, enc a.way, enc a.outer], cn := "Web", xs := xs_Web, ds := fun a => [enc a.size, enc a.inside, enc a.price, enc a.ring, enc a.joints, enc a.tie, enc a.mark, enc a.way, enc a.outer], enc_eq := fun _ => rfl }
abbrev C_Web.sl (x : C_Web) : Sl := .ob "Web" xs_Web [.f x.size, .o x.inside, .o x.price, .o x.ring, .o x.joints, .o x.tie, .o x.mark, .o x.way, .o x.outer]
theorem C_Web.toD (x : C_Web) : toD (C_Web.sl x) = some (enc x) := rfl
theorem C_Web.noT (x : C_Web) : noT (C_Web.sl x) = true := rfl
theorem xt_Web_size : ("size" : Str) ∉ xs_Web.take 0 := by decide +kernel
theorem xn_Web_size : ("size" : Str) ∉ ([] : List Str) := by decide +kernel
theorem pt_Web_size {K : PySem.W.Frag} {mg : Str → Option Value} {te : TE} {Γ : List Sl} {G : Sl → List Sl} {ss : List Sl} {s : Sl} (T : Tx K mg) (P : Pt K te Γ (.ob "Web" xs_Web ss) G) (hj : ss[0]? = some s) (hv : s.has = true) : Pt K (tFld K te "size") Γ s (fun s' => G (.ob "Web" xs_Web (ss.set 0 s'))) := pt_fld P rfl xt_Web_size hj hv T.cls_Web T.at_Web_size
theorem fl_Web_size {K : PySem.W.Frag} {mg : Str → Option Value} {te : TE} {Γ : List Sl} {ma : Option C_Web} (T : Tx K mg) (h : EvM K te Γ ma) : EvM K (tFld K te "size") Γ (ma.bind fun a => some a.size) := em_fld (f := fun a : C_Web => a.size) (j := 0) T.cls_Web T.at_Web_size rfl xt_Web_size (fun _ => rfl) h
theorem fl_Web_sizeP {K : PySem.W.Frag} {mg : Str → Option Value} {te : TE} {Γ : List Sl} {a : C_Web} (T : Tx K mg) (h : EvM K te Γ (some a)) : EvM K (tFld K te "size") Γ (some a.size) := fl_Web_size T h
theorem xt_Web_inside : ("inside" : Str) ∉ xs_Web.take 1 := by decide +kernel
theorem xn_Web_inside : ("inside" : Str) ∉ (["size"] : List Str) := by decide +kernel
theorem pt_Web_inside {K : PySem.W.Frag} {mg : Str → Option Value} {te : TE} {Γ : List Sl} {G : Sl → List Sl} {ss : List Sl} {s : Sl} (T : Tx K mg) (P : Pt K te Γ (.ob "Web" xs_Web ss) G) (hj : ss[1]? = some s) (hv : s.has = true) : Pt K (tFld K te "inside") Γ s (fun s' => G (.ob "Web" xs_Web (ss.set 1 s'))) := pt_fld P rfl xt_Web_inside hj hv T.cls_Web T.at_Web_inside
theorem fl_Web_inside {K : PySem.W.Frag} {mg : Str → Option Value} {te : TE} {Γ : List Sl} {ma : Option C_Web} (T : Tx K mg) (h : EvM K te Γ ma) : EvM K (tFld K te "inside") Γ (ma.bind fun a => some a.inside) := em_fld (f := fun a : C_Web => a.inside) (j := 1) T.cls_Web T.at_Web_inside rfl xt_Web_inside (fun _ => rfl) h
theorem fl_Web_insideP {K : PySem.W.Frag} {mg : Str → Option Value} {te : TE} {Γ : List Sl} {a : C_Web} (T : Tx K mg) (h : EvM K te Γ (some a)) : EvM K (tFld K te "inside") Γ (some a.inside) := fl_Web_inside T h
theorem xt_Web_price : ("price" : Str) ∉ xs_Web.take 2 := by decide +kernel
theorem xn_Web_price : ("price" : Str) ∉ (["size", "inside"] : List Str) := by decide +kernel
theorem pt_Web_price {K : PySem.W.Frag} {mg : Str → Option Value} {te : TE} {Γ : List Sl} {G : Sl → List Sl} {ss : List Sl} {s : Sl} (T : Tx K mg) (P : Pt K te Γ (.ob "Web" xs_Web ss) G) (hj : ss[2]? = some s) (hv : s.has = true) : Pt K (tFld K te "price") Γ s (fun s' => G (.ob "Web" xs_Web (ss.set 2 s'))) := pt_fld P rfl xt_Web_price hj hv T.cls_Web T.at_Web_price
theorem fl_Web_price {K : PySem.W.Frag} {mg : Str → Option Value} {te : TE} {Γ : List Sl} {ma : Option C_Web} (T : Tx K mg) (h : EvM K te Γ ma) : EvM K (tFld K te "price") Γ (ma.bind fun a => some a.price) := em_fld (f := fun a : C_Web => a.price) (j := 2) T.cls_Web T.at_Web_price rfl xt_Web_price (fun _ => rfl) h
theorem fl_Web_priceP {K : PySem.W.Frag} {mg : Str → Option Value} {te : TE} {Γ : List Sl} {a : C_Web} (T : Tx K mg) (h : EvM K te Γ (some a)) : EvM K (tFld K te "price") Γ (some a.price) := fl_Web_price T h
theorem xt_Web_ring : ("ring" : Str) ∉ xs_Web.take 3 := by decide +kernel
theorem xn_Web_ring : ("ring" : Str) ∉ (["size", "inside", "price"] : List Str) := by decide +kernel
theorem pt_Web_ring {K : PySem.W.Frag} {mg : Str → Option Value} {te : TE} {Γ : List Sl} {G : Sl → List Sl} {ss : List Sl} {s : Sl} (T : Tx K mg) (P : Pt K te Γ (.ob "Web" xs_Web ss) G) (hj : ss[3]? = some s) (hv : s.has = true) : Pt K (tFld K te "ring") Γ s (fun s' => G (.ob "Web" xs_Web (ss.set 3 s'))) := pt_fld P rfl xt_Web_ring hj hv T.cls_Web T.at_Web_ring
theorem fl_Web_ring {K : PySem.W.Frag} {mg : Str → Option Value} {te : TE} {Γ : List Sl} {ma : Option C_Web} (T : Tx K mg) (h : EvM K te Γ ma) : EvM K (tFld K te "ring") Γ (ma.bind fun a => some a.ring) := em_fld (f := fun a : C_Web => a.ring) (j := 3) T.cls_Web T.at_Web_ring rfl xt_Web_ring (fun _ => rfl) h
theorem fl_Web_ringP {K : PySem.W.Frag} {mg : Str → Option Value} {te : TE} {Γ : List Sl} {a : C_Web} (T : Tx K mg) (h : EvM K te Γ (some a)) : EvM K (tFld K te "ring") Γ (some a.ring) := fl_Web_ring T h
theorem xt_Web_joints : ("joints" : Str) ∉ xs_Web.take 4 := by decide +kernel
theorem xn_Web_joints : ("joints" : Str) ∉ (["size", "inside", "price", "ring"] : List Str) := by decide +kernel
theorem pt_Web_joints {K : PySem.W.Frag} {mg : Str → Option Value} {te : TE} {Γ : List Sl} {G : Sl → List Sl} {ss : List Sl} {s : Sl} (T : Tx K mg) (P : Pt K te Γ (.ob "Web" xs_Web ss) G) (hj : ss[4]? = some s) (hv : s.has = true) : Pt K (tFld K te "joints") Γ s (fun s' => G (.ob "Web" xs_Web (ss.set 4 s'))) := pt_fld P rfl xt_Web_joints hj hv T.cls_Web T.at_Web_joints
theorem fl_Web_joints {K : PySem.W.Frag} {mg : Str → Option Value} {te : TE} {Γ : List Sl} {ma : Option C_Web} (T : Tx K mg) (h : EvM K te Γ ma) : EvM K (tFld K te "joints") Γ (ma.bind fun a => some a.joints) := em_fld (f := fun a : C_Web => a.joints) (j := 4) T.cls_Web T.at_Web_joints rfl xt_Web_joints (fun _ => rfl) h
theorem fl_Web_jointsP {K : PySem.W.Frag} {mg : Str → Option Value} {te : TE} {Γ : List Sl} {a : C_Web} (T : Tx K mg) (h : EvM K te Γ (some a)) : EvM K (tFld K te "joints") Γ (some a.joints) := fl_Web_joints T h
theorem xt_Web_tie : ("tie" : Str) ∉ xs_Web.take 5 := by decide +kernel
theorem xn_Web_tie : ("tie" : Str) ∉ (["size", "inside", "price", "ring", "joints"] : List Str) := by decide +kernel
theorem pt_Web_tie {K : PySem.W.Frag} {mg : Str → Option Value} {te : TE} {Γ : List Sl} {G : Sl → List Sl} {ss : List Sl} {s : Sl} (T : Tx K mg) (P : Pt K te Γ (.ob "Web" xs_Web ss) G) (hj : ss[5]? = some s) (hv : s.has = true) : Pt K (tFld K te "tie") Γ s (fun s' => G (.ob "Web" xs_Web (ss.set 5 s'))) := pt_fld P rfl xt_Web_tie hj hv T.cls_Web T.at_Web_tie
theorem fl_Web_tie {K : PySem.W.Frag} {mg : Str → Option Value} {te : TE} {Γ : List Sl} {ma : Option C_Web} (T : Tx K mg) (h : EvM K te Γ ma) : EvM K (tFld K te "tie") Γ (ma.bind fun a => some a.tie) := em_fld (f := fun a : C_Web => a.tie) (j := 5) T.cls_Web T.at_Web_tie rfl xt_Web_tie (fun _ => rfl) h
theorem fl_Web_tieP {K : PySem.W.Frag} {mg : Str → Option Value} {te : TE} {Γ : List Sl} {a : C_Web} (T : Tx K mg) (h : EvM K te Γ (some a)) : EvM K (tFld K te "tie") Γ (some a.tie) := fl_Web_tie T h
theorem xt_Web_mark : ("mark" : Str) ∉ xs_Web.take 6 := by decide +kernel
theorem xn_Web_mark : ("mark" : Str) ∉ (["size", "inside", "price", "ring", "joints", "tie"] : List Str) := by decide +kernel
theorem pt_Web_mark {K : PySem.W.Frag} {mg : Str → Option Value} {te : TE} {Γ : List Sl} {G : Sl → List Sl} {ss : List Sl} {s : Sl} (T : Tx K mg) (P : Pt K te Γ (.ob "Web" xs_Web ss) G) (hj : ss[6]? = some s) (hv : s.has = true) : Pt K (tFld K te "mark") Γ s (fun s' => G (.ob "Web" xs_Web (ss.set 6 s'))) := pt_fld P rfl xt_Web_mark hj hv T.cls_Web T.at_Web_mark
theorem fl_Web_mark {K : PySem.W.Frag} {mg : Str → Option Value} {te : TE} {Γ : List Sl} {ma : Option C_Web} (T : Tx K mg) (h : EvM K te Γ ma) : EvM K (tFld K te "mark") Γ (ma.bind fun a => some a.mark) := em_fld (f := fun a : C_Web => a.mark) (j := 6) T.cls_Web T.at_Web_mark rfl xt_Web_mark (fun _ => rfl) h
theorem fl_Web_markP {K : PySem.W.Frag} {mg : Str → Option Value} {te : TE} {Γ : List Sl} {a : C_Web} (T : Tx K mg) (h : EvM K te Γ (some a)) : EvM K (tFld K te "mark") Γ (some a.mark) := fl_Web_mark T h
theorem xt_Web_way : ("way" : Str) ∉ xs_Web.take 7 := by decide +kernel
theorem xn_Web_way : ("way" : Str) ∉ (["size", "inside", "price", "ring", "joints", "tie", "mark"] : List Str) := by decide +kernel
theorem pt_Web_way {K : PySem.W.Frag} {mg : Str → Option Value} {te : TE} {Γ : List Sl} {G : Sl → List Sl} {ss : List Sl} {s : Sl} (T : Tx K mg) (P : Pt K te Γ (.ob "Web" xs_Web ss) G) (hj : ss[7]? = some s) (hv : s.has = true) : Pt K (tFld K te "way") Γ s (fun s' => G (.ob "Web" xs_Web (ss.set 7 s'))) := pt_fld P rfl xt_Web_way hj hv T.cls_Web T.at_Web_way
theorem fl_Web_way {K : PySem.W.Frag} {mg : Str → Option Value} {te : TE} {Γ : List Sl} {ma : Option C_Web} (T : Tx K mg) (h : EvM K te Γ ma) : EvM K (tFld K te "way") Γ (ma.bind fun a => some a.way) := em_fld (f := fun a : C_Web => a.way) (j := 7) T.cls_Web T.at_Web_way rfl xt_Web_way (fun _ => rfl) h
theorem fl_Web_wayP {K : PySem.W.Frag} {mg : Str → Option Value} {te : TE} {Γ : List Sl} {a : C_Web} (T : Tx K mg) (h : EvM K te Γ (some a)) : EvM K (tFld K te "way") Γ (some a.way) := fl_Web_way T h
theorem xt_Web_outer : ("outer" : Str) ∉ xs_Web.take 8 := by decide +kernel
theorem xn_Web_outer : ("outer" : Str) ∉ (["size", "inside", "price", "ring", "joints", "tie", "mark", "way"] : List Str) := by decide +kernel
theorem pt_Web_outer {K : PySem.W.Frag} {mg : Str → Option Value} {te : TE} {Γ : List Sl} {G : Sl → List Sl} {ss : List Sl} {s : Sl} (T : Tx K mg) (P : Pt K te Γ (.ob "Web" xs_Web ss) G) (hj : ss[8]? = some s) (hv : s.has = true) : Pt K (tFld K te "outer") Γ s (fun s' => G (.ob "Web" xs_Web (ss.set 8 s'))) := pt_fld P rfl xt_Web_outer hj hv T.cls_Web T.at_Web_outer
theorem fl_Web_outer {K : PySem.W.Frag} {mg : Str → Option Value} {te : TE} {Γ : List Sl} {ma : Option C_Web} (T : Tx K mg) (h : EvM K te Γ ma) : EvM K (tFld K te "outer") Γ (ma.bind fun a => some a.outer) := em_fld (f := fun a : C_Web => a.outer) (j := 8) T.cls_Web T.at_Web_outer rfl xt_Web_outer (fun _ => rfl) h
theorem fl_Web_outerP {K : PySem.W.Frag} {mg : Str → Option Value} {te : TE} {Γ : List Sl} {a : C_Web} (T : Tx K mg) (h : EvM K te Γ (some a)) : EvM K (tFld K te "outer") Γ (some a.outer) := fl_Web_outer T h
theorem xm_Web__outermost : ("outermost" : Str) ∉ xs_Web := by decide +kernel
theorem xm_Web__is_ring : ("is_ring" : Str) ∉ xs_Web := by decide +kernel
theorem xm_Web__begin : ("begin" : Str) ∉ xs_Web := by decide +kernel
theorem xm_Web__put_together : ("put_together" : Str) ∉ xs_Web := by decide +kernel
theorem xm_Web__spot : ("spot" : Str) ∉ xs_Web := by decide +kernel
theorem xm_Web__take_apart : ("take_apart" : Str) ∉ xs_Web := by decide +kernel
theorem xm_Web__loosen : ("loosen" : Str) ∉ xs_Web := by decide +kernel
theorem xm_Web__pairs : ("pairs" : Str) ∉ xs_Web := by decide +kernel
noncomputable def m_link_up (web : C_Web) (body : Int) : Option (Option (Int × Int)) :=
  (((atI web.mark body).bind fun v1 => ((some (2 : Int)).bind fun v2 => some (decide (v1 = v2)))).bind fun v7 => if v7 = true then (((((atI web.way body).bind fun z => z).bind fun v3 => some v3.2).bind fun v5 => ((((atI web.way body).bind fun z => z).bind fun v4 => some v4.1).bind fun v6 => some (v5, v6))).map some) else (atI web.tie body))
noncomputable def m_path_up (web : C_Web) (body : Int) : Option (List Int) :=
  ((whileM (fun (s1 : (List Int)) => (((some web).bind fun v2 => ((atI s1 (-(1 : Int))).bind fun v3 => (m_link_up v2 v3))).bind fun v4 => some v4.isSome)) (fun (s1 : (List Int)) => (((some web.outer).bind fun v8 => (((((some web).bind fun v5 => ((atI s1 (-(1 : Int))).bind fun v6 => (m_link_up v5 v6))).bind fun z => z).bind fun v7 => some v7.2).bind fun v9 => (atI v8 v9))).bind fun v10 => (apM s1 v10).bind fun path => (some path))) (body :: ([] : List Int))).bind fun (s1 : (List Int)) => (some s1))
noncomputable def m_change_up (web : C_Web) (body : Int) (link : (Int × Int)) : Option C_Web :=
  ((m_path_up web body).bind fun path => ((lcM (fun (part : Int) => (some true)) (fun (part : Int) => (m_link_up web part)) (cutL path (none : Option Int) (some (-(1 : Int))))).bind fun links => ((stM web.tie body (some link)).bind fun tie => ((rngCM (1 : Int) ((path.length : Int) - (1 : Int)) (2 : Int)).bind fun xs11 => ((List.foldlM (m := Option) (fun (s2 : C_Web) (k : Int) => ((atI links k).bind fun v9 => (atI path k).bind fun v10 => (stM s2.tie v10 v9).bind fun tie_1 => ((((((atI links k).bind fun z => z).bind fun v3 => some v3.2).bind fun v5 => ((((atI links k).bind fun z => z).bind fun v4 => some v4.1).bind fun v6 => some (v5, v6))).map some).bind fun v7 => (atI path (k + (1 : Int))).bind fun v8 => (stM tie_1 v8 v7).bind fun tie_2 => (some (C_Web.mk s2.size s2.inside s2.price s2.ring s2.joints tie_2 s2.mark s2.way s2.outer))))) (C_Web.mk web.size web.inside web.price web.ring web.joints tie web.mark web.way web.outer) xs11).bind fun (s2 : C_Web) => (some s2))))))
noncomputable def m_Web__put_together (self : C_Web) (ring : (List Int)) (joints : (List (Int × Int))) (tie : (Option (Int × Int))) : Option C_Web :=
  ((List.foldlM (m := Option) (fun (s1 : (List Int)) (part : Int) => ((atI self.inside part).bind fun v2 => (exM s1 v2).bind fun places => (some places))) ([] : List Int) ring).bind fun (s1 : (List Int)) => ((apM self.inside s1).bind fun inside_1 => ((apM self.price (0 : Int)).bind fun price => ((apM self.ring ring).bind fun ring_1 => ((apM self.joints joints).bind fun joints_1 => ((apM self.tie tie).bind fun tie_1 => ((apM self.mark (1 : Int)).bind fun mark => ((apM self.way (none : (Option (Int × Int)))).bind fun way => ((List.foldlM (m := Option) (fun (s3 : C_Web) (place : Int) => ((stM s3.outer place (self.inside.length : Int)).bind fun outer => (some (C_Web.mk s3.size s3.inside s3.price s3.ring s3.joints s3.tie s3.mark s3.way outer)))) (C_Web.mk self.size inside_1 price ring_1 joints_1 tie_1 mark way self.outer) s1).bind fun (s3 : C_Web) => (some s3))))))))))
noncomputable def m_put_ring (web : C_Web) (u : Int) (v : Int) : Option C_Web :=
  (((some web).bind fun v1 => ((atI web.outer u).bind fun v2 => (m_path_up v1 v2))).bind fun one => (((some web).bind fun v3 => ((atI web.outer v).bind fun v4 => (m_path_up v3 v4))).bind fun other => ((whileM (fun (s5 : ((List Int) × (List Int))) => ((some (decide ((1 : Int) < (s5.1.length : Int)))).bind fun v9 => if v9 = true then ((some (decide ((1 : Int) < (s5.2.length : Int)))).bind fun v8 => if v8 = true then ((atI s5.1 (-(2 : Int))).bind fun v6 => ((atI s5.2 (-(2 : Int))).bind fun v7 => some (decide (v6 = v7)))) else some false) else some false)) (fun (s5 : ((List Int) × (List Int))) => ((poD s5.1).bind fun one_1 => ((poD s5.2).bind fun other_1 => (some (one_1, other_1))))) (one, other)).bind fun (s5 : ((List Int) × (List Int))) => ((rngCM ((s5.1.length : Int) - (1 : Int)) (0 : Int) (-(1 : Int))).bind fun xs28 => ((List.foldlM (m := Option) (fun (s12 : ((List Int) × (List (Int × Int)))) (k : Int) => ((atI s5.1 k).bind fun v20 => (apM s12.1 v20).bind fun ring => (((some web).bind fun v13 => ((atI s5.1 (k - (1 : Int))).bind fun v14 => (m_link_up v13 v14))).bind fun link => (((link.bind fun v15 => some v15.2).bind fun v17 => ((link.bind fun v16 => some v16.1).bind fun v18 => some (v17, v18))).bind fun v19 => (apM s12.2 v19).bind fun joints => (some (ring, joints)))))) (([] : List Int), ([] : List (Int × Int))) xs28).bind fun (s12 : ((List Int) × (List (Int × Int)))) => ((atI s5.1 (0 : Int)).bind fun v27 => (apM s12.1 v27).bind fun ring_1 => ((apM s12.2 (u, v)).bind fun joints_1 => ((List.foldlM (m := Option) (fun (s21 : ((List Int) × (List (Int × Int)))) (body : Int) => ((apM s21.1 body).bind fun ring_2 => (((m_link_up web body).bind fun z => z).bind fun v22 => (apM s21.2 v22).bind fun joints_2 => (some (ring_2, joints_2))))) (ring_1, joints_1) (cutL s5.2 (none : Option Int) (some (-(1 : Int))))).bind fun (s21 : ((List Int) × (List (Int × Int)))) => ((((some web.tie).bind fun v23 => ((atI s5.1 (-(1 : Int))).bind fun v24 => (atI v23 v24))).bind fun v25 => (m_Web__put_together web s21.1 s21.2 v25)).bind fun r26 => (some r26))))))))))
noncomputable def m_grow (web : C_Web) (u : Int) (v : Int) : Option (C_Web × Bool) :=
  ((atI web.outer v).bind fun there => (((atI web.mark there).bind fun v1 => ((some (0 : Int)).bind fun v2 => some (decide (v1 = v2)))).bind fun v18 => if v18 = true then ((stM web.mark there (2 : Int)).bind fun mark => ((stM web.way there (some (u, v))).bind fun way => ((some (1 : Int)).bind fun v6 => ((some web.outer).bind fun v4 => ((((atI web.tie there).bind fun z => z).bind fun v3 => some v3.2).bind fun v5 => (atI v4 v5))).bind fun v7 => (stM mark v7 v6).bind fun mark_1 => ((some false).map fun r => ((C_Web.mk web.size web.inside web.price web.ring web.joints web.tie mark_1 way web.outer), r))))) else ((atI web.outer u).bind fun here => ((((m_path_up web here).bind fun v8 => ((some (-(1 : Int))).bind fun v9 => (atI v8 v9))).bind fun v12 => (((m_path_up web there).bind fun v10 => ((some (-(1 : Int))).bind fun v11 => (atI v10 v11))).bind fun v13 => some (decide (v12 = v13)))).bind fun v17 => if v17 = true then ((m_put_ring web u v).bind fun r14 => ((some false).map fun r => (r14, r))) else ((m_change_up web here (u, v)).bind fun r15 => ((m_change_up r15 there (v, u)).bind fun r16 => ((some true).map fun r => (r16, r))))))))
noncomputable def m_helps (web : C_Web) (u : Int) (v : Int) : Option Bool :=
  ((atI web.outer u).bind fun here => ((atI web.outer v).bind fun there => ((some (!decide (here = there))).bind fun v6 => if v6 = true then (((atI web.mark here).bind fun v1 => ((some (1 : Int)).bind fun v2 => some (decide (v1 = v2)))).bind fun v5 => if v5 = true then ((atI web.mark there).bind fun v3 => ((some (2 : Int)).bind fun v4 => some (!decide (v3 = v4)))) else some false) else some false)))
noncomputable def m_Web__new (size : Int) (price : Int) : Option C_Web :=
  ((some size).bind fun size_1 => (((rngM 0 size).bind fun v2 => (lcM (fun (k : Int) => (some true)) (fun (k : Int) => (some (k :: ([] : List Int)))) v2)).bind fun inside => (((rngM 0 size).bind fun v4 => (lcM (fun (k_1 : Int) => (some true)) (fun (k_1 : Int) => (some price)) v4)).bind fun price_1 => (((rngM 0 size).bind fun v6 => (lcM (fun (k_2 : Int) => (some true)) (fun (k_2 : Int) => (some ([] : List Int))) v6)).bind fun ring => (((rngM 0 size).bind fun v8 => (lcM (fun (k_3 : Int) => (some true)) (fun (k_3 : Int) => (some ([] : List (Int × Int)))) v8)).bind fun joints => (((rngM 0 size).bind fun v10 => (lcM (fun (k_4 : Int) => (some true)) (fun (k_4 : Int) => (some (none : (Option (Int × Int))))) v10)).bind fun tie => (((rngM 0 size).bind fun v12 => (lcM (fun (k_5 : Int) => (some true)) (fun (k_5 : Int) => (some (0 : Int))) v12)).bind fun mark => (((rngM 0 size).bind fun v14 => (lcM (fun (k_6 : Int) => (some true)) (fun (k_6 : Int) => (some (none : (Option (Int × Int))))) v14)).bind fun way => ((lrgM size).bind fun outer => (some (C_Web.mk size_1 inside price_1 ring joints tie mark way outer)))))))))))
noncomputable def m_Web__outermost (self : C_Web) : Option (List Int) :=
  ((List.foldlM (m := Option) (fun (s1 : (Dk Bool)) (body : Int) => ((dpM s1 (KeyE.key body) true).bind fun seen => (some seen))) (Dk.mk ([] : List (Key × Bool))) self.outer).bind fun (s1 : (Dk Bool)) => (keysI s1.kvs))
noncomputable def m_Web__is_ring (self : C_Web) (body : Int) : Option Bool :=
  ((atI self.ring body).bind fun v1 => ((some ([] : List Int)).bind fun v2 => some (!eqB v1 v2)))
noncomputable def m_Web__begin (self : C_Web) : Option C_Web :=
  ((m_Web__outermost self).bind fun xs5 => ((List.foldlM (m := Option) (fun (s1 : C_Web) (body : Int) => ((stM s1.way body (none : (Option (Int × Int)))).bind fun way => ((stM s1.mark body (0 : Int)).bind fun mark => (((atI s1.tie body).bind fun v2 => some v2.isNone).bind fun v4 => (if v4 = true then ((stM mark body (1 : Int)).bind fun mark_1 => (some (C_Web.mk s1.size s1.inside s1.price s1.ring s1.joints s1.tie mark_1 way s1.outer))) else (some (C_Web.mk s1.size s1.inside s1.price s1.ring s1.joints s1.tie mark way s1.outer))).bind fun (s3 : C_Web) => (some s3))))) self xs5).bind fun (s1 : C_Web) => (some s1)))
noncomputable def m_Web__spot (self : C_Web) (ring : (List Int)) (place : Int) : Option Int :=
  ((whileM (fun (s1 : Int) => ((some place).bind fun v4 => (((some self.inside).bind fun v2 => ((atI ring s1).bind fun v3 => (atI v2 v3))).bind fun v5 => some (!decide (v4 ∈ v5))))) (fun (s1 : Int) => (some (s1 + (1 : Int)))) (0 : Int)).bind fun (s1 : Int) => (some s1))
noncomputable def m_Web__take_apart (self : C_Web) (body : Int) : Option C_Web :=
  ((atI self.ring body).bind fun ring => ((atI self.joints body).bind fun joints => (((atI self.tie body).bind fun v1 => some v1.isSome).bind fun v24 => (if v24 = true then (((some self).bind fun v4 => ((some ring).bind fun v5 => ((((atI self.tie body).bind fun z => z).bind fun v3 => some v3.1).bind fun v6 => (m_Web__spot v4 v5 v6)))).bind fun at_ => (some at_)) else (some (0 : Int))).bind fun (s2 : Int) => ((atI self.tie body).bind fun v22 => (atI ring s2).bind fun v23 => (stM self.tie v23 v22).bind fun tie => ((rngCM (1 : Int) (ring.length : Int) (2 : Int)).bind fun xs21 => ((List.foldlM (m := Option) (fun (s7 : C_Web) (step : Int) => ((modM (s2 + step) (ring.length : Int)).bind fun k => (((atI joints k).map some).bind fun v16 => (atI ring k).bind fun v17 => (stM s7.tie v17 v16).bind fun tie_1 => (((((atI joints k).bind fun v8 => some v8.2).bind fun v10 => (((atI joints k).bind fun v9 => some v9.1).bind fun v11 => some (v10, v11))).map some).bind fun v14 => ((some ring).bind fun v12 => ((modM (k + (1 : Int)) (ring.length : Int)).bind fun v13 => (atI v12 v13))).bind fun v15 => (stM tie_1 v15 v14).bind fun tie_2 => (some (C_Web.mk s7.size s7.inside s7.price s7.ring s7.joints tie_2 s7.mark s7.way s7.outer)))))) (C_Web.mk self.size self.inside self.price self.ring self.joints tie self.mark self.way self.outer) xs21).bind fun (s7 : C_Web) => ((List.foldlM (m := Option) (fun (s18 : C_Web) (part : Int) => ((stM s18.mark part (0 : Int)).bind fun mark => ((stM s18.way part (none : (Option (Int × Int)))).bind fun way => ((atI s18.inside part).bind fun xs20 => ((List.foldlM (m := Option) (fun (s19 : C_Web) (place : Int) => ((stM s19.outer place part).bind fun outer => (some (C_Web.mk s19.size s19.inside s19.price s19.ring s19.joints s19.tie s19.mark s19.way outer)))) (C_Web.mk s18.size s18.inside s18.price s18.ring s18.joints s18.tie mark way s18.outer) xs20).bind fun (s19 : C_Web) => (some s19)))))) s7 ring).bind fun (s18 : C_Web) => ((stM s18.inside body ([] : List Int)).bind fun inside => ((stM s18.ring body ([] : List Int)).bind fun ring_1 => ((stM s18.joints body ([] : List (Int × Int))).bind fun joints_1 => ((stM s18.price body (0 : Int)).bind fun price => (some (C_Web.mk s18.size inside price ring_1 joints_1 s18.tie s18.mark s18.way s18.outer)))))))))))))
noncomputable def m_Web__loosen (self : C_Web) (all_of_them : Bool) : Option C_Web :=
  ((m_Web__outermost self).bind fun todo => ((whileM (fun (s1 : ((List Int) × C_Web)) => (some (!eqB s1.1 ([] : List Int)))) (fun (s1 : ((List Int) × C_Web)) => ((poL s1.1).bind fun q10 => (fun body todo_1 => (((m_Web__is_ring s1.2 body).bind fun v5 => if v5 = true then ((some all_of_them).bind fun v4 => if v4 = true then some true else ((atI s1.2.price body).bind fun v2 => ((some (0 : Int)).bind fun v3 => some (decide (v2 = v3))))) else some false).bind fun v9 => (if v9 = true then ((atI s1.2.ring body).bind fun v8 => (exM todo_1 v8).bind fun todo_2 => ((m_Web__take_apart s1.2 body).bind fun r7 => (some (todo_2, r7)))) else (some (todo_1, s1.2))).bind fun (s6 : ((List Int) × C_Web)) => (some (s6.1, s6.2)))) q10.1 q10.2)) (todo, self)).bind fun (s1 : ((List Int) × C_Web)) => (some s1.2)))
noncomputable def m_Web__pairs (self : C_Web) : Option (C_Web × (List (Option (Int × Int)))) :=
  ((m_Web__loosen self true).bind fun r1 => ((some ([] : List (Option (Int × Int)))).bind fun found => ((rngM 0 r1.size).bind fun xs10 => ((List.foldlM (m := Option) (fun (s2 : (List (Option (Int × Int)))) (place : Int) => ((atI r1.tie place).bind fun tie => (((some tie.isSome).bind fun v7 => if v7 = true then ((tie.bind fun v3 => some v3.1).bind fun v5 => ((tie.bind fun v4 => some v4.2).bind fun v6 => some (decide (v5 < v6)))) else some false).bind fun v9 => (if v9 = true then ((apM s2 tie).bind fun found_1 => (some found_1)) else (some s2)).bind fun (s8 : (List (Option (Int × Int)))) => (some s8)))) found xs10).bind fun (s2 : (List (Option (Int × Int)))) => (some (r1, s2))))))
noncomputable def m_helpful (web : C_Web) (links : (List (Int × Int))) : Option (Option (Int × Int)) :=
  ((loopM (fun (s1 : Unit) (p2 : (Int × Int)) => (((m_helps web p2.1 p2.2).bind fun v4 => if v4 = true then ((some (some (p2.1, p2.2))).map Stp.rt) else ((m_helps web p2.2 p2.1).bind fun v3 => if v3 = true then ((some (some (p2.2, p2.1))).map Stp.rt) else (some (Stp.go ())))) : Option (Stp Unit (Option (Int × Int))))) links ()).bind (Lo.fin (fun (s1 : Unit) => (some (none : (Option (Int × Int))))) (fun r => r)))
noncomputable def m_searched (web : C_Web) (links : (List (Int × Int))) : Option (C_Web × Bool) :=
  ((m_Web__begin web).bind fun r1 => ((m_helpful r1 links).bind fun link => ((whileS (fun (s2 : (C_Web × (Option (Int × Int)))) => (some s2.2.isSome)) (fun (s2 : (C_Web × (Option (Int × Int)))) => ((((s2.2.bind fun v3 => some v3.1).bind fun v4 => ((s2.2.bind fun v5 => some v5.2).bind fun v6 => (m_grow s2.1 v4 v6))).bind fun r7 => if r7.2 = true then (((some true).map fun r => (r7.1, r)).map Stp.rt) else ((m_helpful r7.1 links).bind fun link_1 => (some (Stp.go (r7.1, link_1))))) : Option (Stp (C_Web × (Option (Int × Int))) (C_Web × Bool)))) (r1, link)).bind (Lo.fin (fun (s2 : (C_Web × (Option (Int × Int)))) => ((some false).map fun r => (s2.1, r))) (fun r => r)))))
noncomputable def m_odd_places (web : C_Web) : Option (List Int) :=
  ((rngM 0 web.size).bind fun v6 => (lcM (fun (place : Int) => (((some web.mark).bind fun v2 => ((atI web.outer place).bind fun v3 => (atI v2 v3))).bind fun v4 => ((some (2 : Int)).bind fun v5 => some (decide (v4 = v5))))) (fun (place : Int) => (some place)) v6))
noncomputable def m_largest (n : Int) (links : (List (Int × Int))) : Option ((List (Option (Int × Int))) × (List Int)) :=
  ((m_Web__new n (0 : Int)).bind fun web => ((whileS (R := Empty) (fun _ => some true) (fun (s4 : C_Web) => ((m_searched s4 links).bind fun r5 => if r5.2 = true then (((m_Web__loosen r5.1 true).bind fun r6 => (some r6))).map Stp.go else some (Stp.bk r5.1))) web).bind (Lo.fin (fun (s4 : C_Web) => ((m_odd_places s4).bind fun out => ((m_Web__pairs s4).bind fun r8 => (some (r8.2, out))))) (fun r => r.elim))))
noncomputable def m_without_place (links : (List (Int × Int))) (place : Int) : Option (List (Int × Int)) :=
  ((List.foldlM (m := Option) (fun (s1 : (List (Int × Int))) (p2 : (Int × Int)) => ((if ((!decide (p2.1 = place)) && (!decide (p2.2 = place))) = true then ((apM s1 ((p2.1 - (M.b2i (decide (place < p2.1)))), (p2.2 - (M.b2i (decide (place < p2.2)))))).bind fun found => (some found)) else (some s1)).bind fun (s3 : (List (Int × Int))) => (some s3))) ([] : List (Int × Int)) links).bind fun (s1 : (List (Int × Int))) => (some s1))
noncomputable def m_left_alone (n : Int) (links : (List (Int × Int))) : Option (List Int) :=
  ((((m_largest n links).bind fun v1 => some v1.1).bind fun v2 => some (v2.length : Int)).bind fun many => ((rngM 0 n).bind fun xs12 => ((List.foldlM (m := Option) (fun (s3 : (List Int)) (place : Int) => ((((((some (n - (1 : Int))).bind fun v4 => ((m_without_place links place).bind fun v5 => (m_largest v4 v5))).bind fun v6 => some v6.1).bind fun v7 => some (v7.length : Int)).bind fun v8 => ((some many).bind fun v9 => some (decide (v8 = v9)))).bind fun v11 => (if v11 = true then ((apM s3 place).bind fun found => (some found)) else (some s3)).bind fun (s10 : (List Int)) => (some s10))) ([] : List Int) xs12).bind fun (s3 : (List Int)) => (some s3))))
noncomputable def m__law_cell_at (script : Scr) (k : Int) : Option Int :=
  (if (decide (k < (script.ns.length : Int))) = true then (atI script.ns k) else (some (((11 : Int) * k) + (5 : Int))))
noncomputable def m__law_whole (found : Int) : Option Bool :=
  (some (true && (!false)))
noncomputable def m__law_linked (u : Int) (v : Int) (n : Int) (shape : Int) (cell : Int) (share : Int) : Option Bool :=
  (if ((decide (shape = (4 : Int))) || ((decide (shape = (1 : Int))) && (decide ((u + v) = (n - (1 : Int)))))) = true then (some true) else (if (decide (shape = (2 : Int))) = true then (some ((decide (u ≤ (n / (4 : Int)))) && (decide ((cell % (8 : Int)) < (share + (2 : Int)))))) else (if ((decide (shape = (3 : Int))) && (decide ((u / (3 : Int)) = (v / (3 : Int))))) = true then (some true) else (if (decide (shape = (3 : Int))) = true then (some (decide ((cell % (8 : Int)) = (1 : Int)))) else (some (decide ((cell % (8 : Int)) < share)))))))
noncomputable def m__law_links (script : Scr) (n : Int) (shape : Int) (share : Int) : Option (List (Int × Int)) :=
  ((rngM 0 n).bind fun xs14 => ((List.foldlM (m := Option) (fun (s1 : ((List (Int × Int)) × Int)) (u : Int) => ((rngM (u + (1 : Int)) n).bind fun xs11 => ((List.foldlM (m := Option) (fun (s2 : ((List (Int × Int)) × Int)) (v : Int) => (((some u).bind fun v3 => ((some v).bind fun v4 => ((some n).bind fun v5 => ((some shape).bind fun v6 => ((m__law_cell_at script s2.2).bind fun v7 => ((some share).bind fun v8 => (m__law_linked v3 v4 v5 v6 v7 v8))))))).bind fun v10 => (if v10 = true then ((apM s2.1 (u, v)).bind fun found => (some found)) else (some s2.1)).bind fun (s9 : (List (Int × Int))) => (some (s9, (s2.2 + (1 : Int)))))) (s1.1, s1.2) xs11).bind fun (s2 : ((List (Int × Int)) × Int)) => (some (s2.1, s2.2))))) (([] : List (Int × Int)), (4 : Int)) xs14).bind fun (s1 : ((List (Int × Int)) × Int)) => ((if (decide ((share % (3 : Int)) = (1 : Int))) = true then (some s1.1.reverse) else (some s1.1)).bind fun (s12 : (List (Int × Int))) => ((if (decide ((share % (3 : Int)) = (2 : Int))) = true then ((exM (cutL s12 (some ((s12.length : Int) / (2 : Int))) (none : Option Int)) (cutL s12 (none : Option Int) (some ((s12.length : Int) / (2 : Int))))).bind fun found_1 => (some found_1)) else (some s12)).bind fun (s13 : (List (Int × Int))) => (some s13)))))
noncomputable def m__law_pairing (found : (List (Option (Int × Int)))) (links : (List (Int × Int))) : Option Bool :=
  (if (!true) = true then (some false) else ((loopM (fun (s1 : ((Dk Bool) × Int)) (link : (Option (Int × Int))) => (((((link.bind fun _ => some true).bind fun v2 => some (!v2)).bind fun v14 => if v14 = true then some true else (((link.bind fun v3 => some (2 : Int)).bind fun v4 => ((some (2 : Int)).bind fun v5 => some (!decide (v4 = v5)))).bind fun v13 => if v13 = true then some true else ((((link.bind fun v6 => some v6.1).bind fun v7 => (m__law_whole v7)).bind fun v8 => some (!v8)).bind fun v12 => if v12 = true then some true else (((link.bind fun v9 => some v9.2).bind fun v10 => (m__law_whole v10)).bind fun v11 => some (!v11))))).bind fun v37 => if v37 = true then ((some false).map Stp.rt) else (((link.bind fun v15 => ((some links).bind fun v16 => some (!memB v15 v16))).bind fun v28 => if v28 = true then some true else (((link.bind fun v17 => some v17.1).bind fun v18 => ((some s1.1).bind fun v19 => some ((look v19.kvs (KeyE.key v18)).isSome))).bind fun v27 => if v27 = true then some true else (((link.bind fun v20 => some v20.2).bind fun v21 => ((some s1.1).bind fun v22 => some ((look v22.kvs (KeyE.key v21)).isSome))).bind fun v26 => if v26 = true then some true else ((link.bind fun v23 => some v23.1).bind fun v24 => ((some s1.2).bind fun v25 => some (decide (v24 < v25))))))).bind fun v36 => if v36 = true then ((some false).map Stp.rt) else ((some true).bind fun v34 => (link.bind fun v29 => some v29.1).bind fun v35 => (dpM s1.1 (KeyE.key v35) v34).bind fun taken => ((some true).bind fun v32 => (link.bind fun v30 => some v30.2).bind fun v33 => (dpM taken (KeyE.key v33) v32).bind fun taken_1 => ((link.bind fun v31 => some v31.1).bind fun last => (some (Stp.go (taken_1, last)))))))) : Option (Stp ((Dk Bool) × Int) Bool))) found ((Dk.mk ([] : List (Key × Bool))), (-(1 : Int)))).bind (Lo.fin (fun (s1 : ((Dk Bool) × Int)) => (some true)) (fun r => r))))
noncomputable def m__law_all (links : (List (Int × Int))) : Option (List (List (Int × Int))) :=
  ((some (([] : List (Int × Int)) :: ([] : List (List (Int × Int))))).bind fun found => ((List.foldlM (m := Option) (fun (s1 : (List (List (Int × Int)))) (p2 : (Int × Int)) => ((some ([] : List (List (Int × Int)))).bind fun more => ((List.foldlM (m := Option) (fun (s3 : (List (List (Int × Int)))) (some_ : (List (Int × Int))) => ((((lcM (fun (link : (Int × Int)) => (some true)) (fun (link : (Int × Int)) => (some ((decide (p2.1 ∈ (Tu.mk [link.1, link.2]).xs)) || (decide (p2.2 ∈ (Tu.mk [link.1, link.2]).xs))))) some_).bind fun v5 => some (v5.any id)).bind fun v6 => some (!v6)).bind fun v9 => (if v9 = true then ((exM some_ ((p2.1, p2.2) :: ([] : List (Int × Int)))).bind fun v8 => (apM s3 v8).bind fun more_1 => (some more_1)) else (some s3)).bind fun (s7 : (List (List (Int × Int)))) => (some s7))) more s1).bind fun (s3 : (List (List (Int × Int)))) => ((exM s1 s3).bind fun found_1 => (some found_1))))) found links).bind fun (s1 : (List (List (Int × Int)))) => (some s1)))
noncomputable def m_law (script : Scr) : Option Bool :=
  (((m__law_cell_at script (0 : Int)).bind fun v1 => some (v1 % (8 : Int))).bind fun n => ((m__law_cell_at script (1 : Int)).bind fun way => ((m__law_links script n (way % (5 : Int)) ((2 : Int) + ((way / (5 : Int)) % (7 : Int)))).bind fun links => ((m__law_all links).bind fun every => (((lcM (fun (some_ : (List (Int × Int))) => (some true)) (fun (some_ : (List (Int × Int))) => (some (some_.length : Int))) every).bind fun v3 => v3.max?).bind fun size => ((m_largest n links).bind fun found => (((some (!true)).bind fun v7 => if v7 = true then some true else ((some (!decide ((2 : Int) = (2 : Int)))).bind fun v6 => if v6 = true then some true else (((m__law_pairing found.1 links).bind fun v4 => some (!v4)).bind fun v5 => if v5 = true then some true else (some (!decide ((found.1.length : Int) = size)))))).bind fun v22 => if v22 = true then (some false) else ((rngM 0 n).bind fun xs21 => ((List.foldlM (m := Option) (fun (s8 : (List Int)) (place : Int) => (((lcM (fun (some__1 : (List (Int × Int))) => (some true)) (fun (some__1 : (List (Int × Int))) => ((some (decide ((some__1.length : Int) = size))).bind fun v13 => if v13 = true then (((lcM (fun (link : (Int × Int)) => (some true)) (fun (link : (Int × Int)) => (some (decide (place ∈ (Tu.mk [link.1, link.2]).xs)))) some__1).bind fun v11 => some (v11.any id)).bind fun v12 => some (!v12)) else some false)) every).bind fun v14 => some (v14.any id)).bind fun v16 => (if v16 = true then ((apM s8 place).bind fun due => (some due)) else (some s8)).bind fun (s15 : (List Int)) => (some s15))) ([] : List Int) xs21).bind fun (s8 : (List Int)) => ((m_left_alone n links).bind fun told => ((some true).bind fun v20 => if v20 = true then (((lcM (fun (place_1 : Int) => (some true)) (fun (place_1 : Int) => (m__law_whole place_1)) told).bind fun v18 => some (v18.all id)).bind fun v19 => if v19 = true then (some (eqB told s8)) else some false) else some false)))))))))))
section
variable {P : Program} {w : World} {K : PySem.W.Frag} {mg : Str → Option Value} {base : Heap}
theorem sc_link_up : FnScope ["web", "body"] ["web", "body"] (defScope (top 2)) := ⟨rfl, rfl, rfl, by decide +kernel, rfl, by decide +kernel, by decide +kernel⟩
theorem ok_link_up (T : Tx K mg) (C : He.SaysD fa fn K) (hg : mg "link_up" = some (.ref (He.ga K "link_up")))  : Fn P w K mg base 1 "link_up" ["web", "body"] (sp2 K m_link_up) := by
  obtain ⟨fd, F⟩ := C.def_ 0 (d := d_link_up) rfl
  have sc := sc_link_up
  refine ⟨⟨fd, F.ok sc len_M (fun cdv A outer s H vs Q E hr h => ⟨_, PSs.nox
    (pss_cons (ps_if (pt_cmpR op_eq (pe_ix ix_list (pe_fldK (K := K) rfl (pv 0) rfl) (pv 1) (fun _ _ => rfl)) pe_int (nomark _)) (pss_one (ps_ret (pe_tup (pa_cons (pe_ix ix_tup (pe_ix ix_list (pe_fldK (K := K) rfl (pv 0) rfl) (pv 1) (fun _ _ => rfl)) pe_int (fun _ _ => rfl)) (pa_cons (pe_ix ix_tup (pe_ix ix_list (pe_fldK (K := K) rfl (pv 0) rfl) (pv 1) (fun _ _ => rfl)) pe_int (fun _ _ => rfl)) pa_nil))))) pss_nil) (pss_one (ps_ret (pe_ix ix_list (pe_fldK (K := K) rfl (pv 0) rfl) (pv 1) (fun _ _ => rfl))))), fn2 (j := 0) rfl (fun web body => ?_) vs H Q E h⟩), FunD.bindsN F fun _ _ _ _ _ _ us hl => match us, hl with | [_, _], _ => rfl, fn_look F⟩, F.kp, hg⟩
  unfold m_link_up
  exact (bm_at [.f web, .f body] (bm_ifT imp_F (et_test (em_eqS (em_ixLP (el_of (fl_Web_markP T (em_var rfl))) (em_var rfl)) em_int)) (bm_at [.f web, .f body] (bm_ret (em_up (em_t2 (em_snd (em_join (em_ixLP (el_of (fl_Web_wayP T (em_var rfl))) (em_var rfl)))) (em_fst (em_join (em_ixLP (el_of (fl_Web_wayP T (em_var rfl))) (em_var rfl)))))))) (bm_at [.f web, .f body] (bm_ret (em_ixLP (el_of (fl_Web_tieP T (em_var rfl))) (em_var rfl))))))
theorem sc_path_up : FnScope ["web", "body", "path"] ["web", "body"] (defScope (top 3)) := ⟨rfl, rfl, rfl, by decide +kernel, rfl, by decide +kernel, by decide +kernel⟩
theorem ok_path_up (T : Tx K mg) (C : He.SaysD fa fn K) (hg : mg "path_up" = some (.ref (He.ga K "path_up"))) (F_link_up : Fn P w K mg base 1 "link_up" ["web", "body"] (sp2 K m_link_up)) : Fn P w K mg base 2 "path_up" ["web", "body"] (spw2 K m_path_up (fun c => .o c)) := by
  obtain ⟨fd, F⟩ := C.def_ 1 (d := d_path_up) rfl
  have sc := sc_path_up
  refine ⟨⟨fd, F.ok sc len_W (fun cdv A outer s H vs Q E hr h => ⟨_, PSs.nox
    (pss_cons (ps_set (i := 2) sc.nd rfl (Or.inl rfl) (pe_lst (pa_cons (pv 1) pa_nil))) (pss_cons (ps_while PassesOwn.never (pt_cmp (pc_notN (pe_f F_link_up (hr.mono (by decide)) (by rfl) (pa_cons (pv 0) (pa_cons (pe_ix ix_list (pv 2) (pe_un un_neg pe_int) (fun _ _ => rfl)) pa_nil))))) (pss_cons (ps_expr (pe_bm PySem.F.plainAttrs_list PySem.F.slot_list_append PySem.F.type_list_append mt_append (pv 2) (pa_cons (pe_ix ix_list (pe_fldK (K := K) rfl (pv 0) rfl) (pe_ix ix_tup (pe_f F_link_up (hr.mono (by decide)) (by rfl) (pa_cons (pv 0) (pa_cons (pe_ix ix_list (pv 2) (pe_un un_neg pe_int) (fun _ _ => rfl)) pa_nil))) pe_int (fun _ _ => rfl)) (fun _ _ => rfl)) pa_nil))) pss_nil)) (pss_one (ps_ret (pv 2))))), fw2 (j := 1) rfl (fun web body => ?_) vs H Q E h⟩), FunD.bindsN F fun _ _ _ _ _ _ us hl => match us, hl with | [_, _], _ => rfl, fn_look F⟩, F.kp, hg⟩
  unfold m_path_up
  exact (bm_at [.f web, .f body, .no] (bm_asgNP rfl (en_lstP (by simp) (eh_consP (em_var rfl) eh_nil)) (bm_at [.f web, .f body, .o (body :: ([] : List Int))] (bm_while (S := (List Int)) (G := (fun (s1 : (List Int)) => [.f web, .no, .o s1])) (s0 := (body :: ([] : List Int))) (.s (.n (.s .nil))) (fun s1 => (et_B (em_notN (em_c2 (em_var rfl) (em_ixLP (el_own rfl) (em_negP em_int)))))) (fun s1 => (bm_at [.f web, .no, .o s1] (bm_app (pl_var rfl) (em_ixL (el_of (fl_Web_outerP T (em_var rfl))) (em_snd (em_join (em_c2 (em_var rfl) (em_ixLP (el_own rfl) (em_negP em_int)))))) (fun path => (bm_nxC (.s (.s (.s .nil)))))))) (fun s1 => (bm_at [.f web, .no, .o s1] (bm_retV (i := 2) rfl (fun h => by cases h) (fun _ h => by cases h) rfl (.n (.s (.s .nil))))))))))
def spo_change_up (K : PySem.W.Frag) : Sp := spO (γ := C_Web) K 3 fun ss m rs G => ∃ (w0 : V) (web : C_Web) (body : Int) (link : (Int × Int)), ss = [.kn w0 (C_Web.sl web), .f body, .f link] ∧ m = m_change_up web body link ∧ rs = (fun c => .fz .non) ∧ G = (fun c => [.kn w0 (C_Web.sl c), .no, .no])
theorem sc_change_up : FnScope ["web", "body", "link", "path", "links", "part", "k"] ["web", "body", "link"] (defScope (top 4)) := ⟨rfl, rfl, rfl, by decide +kernel, rfl, by decide +kernel, by decide +kernel⟩
theorem ok_change_up (T : Tx K mg) (C : He.SaysD fa fn K) (hg : mg "change_up" = some (.ref (He.ga K "change_up"))) (F_link_up : Fn P w K mg base 1 "link_up" ["web", "body"] (sp2 K m_link_up)) (F_path_up : Fn P w K mg base 2 "path_up" ["web", "body"] (spw2 K m_path_up (fun c => .o c))) : Fn P w K mg base 3 "change_up" ["web", "body", "link"] (spo_change_up K) := by
  obtain ⟨fd, F⟩ := C.def_ 2 (d := d_change_up) rfl
  have sc := sc_change_up
  refine ⟨⟨fd, F.ok sc len_O (fun cdv A outer s H vs Q E hr h => ⟨_, PSs.nox
    (pss_cons (ps_set (i := 3) sc.nd rfl (Or.inl rfl) (pe_f F_path_up (hr.mono (by decide)) (by rfl) (pa_cons (pv 0) (pa_cons (pv 1) pa_nil)))) (pss_cons (ps_setLc (i := 4) (own := [("part", 5)]) (g := gName 5) rfl sc.nd rfl rfl (sw_true rfl rfl rfl (by decide +kernel)) (pi_list (pe_slice sl_list (pv 3) po_none (po_some (pe_un un_neg pe_int)))) (blkOk_by (by rfl)) (fun _ _ _ _ _ => (pg_name (i := 5) sc.nd rfl (Or.inl rfl))) (fun _ _ _ _ _ => pts_nil) (fun _ _ _ _ _ => (pe_f F_link_up (hr.mono (by decide)) (by rfl) (pa_cons (pv 0) (pa_cons (pv 5) pa_nil))))) (pss_cons (ps_asg (pv 2) (pg_sub (pe_fldK (K := K) rfl (pv 0) rfl) (pv 1) set_list)) (pss_cons (ps_for PassesOwn.never rfl (pi_range3 rfl T.b_range (pa_cons pe_int (pa_cons (pe_op op_sub (pe_callB call_lenS (by rfl) T.b_len bt_len (pa_cons (pv 3) pa_nil)) pe_int) (pa_cons pe_int pa_nil)))) (pg_name (i := 6) sc.nd rfl (Or.inl rfl)) (pss_cons (ps_asg (pe_ix ix_list (pv 4) (pv 6) (fun _ _ => rfl)) (pg_sub (pe_fldK (K := K) rfl (pv 0) rfl) (pe_ix ix_list (pv 3) (pv 6) (fun _ _ => rfl)) set_list)) (pss_cons (ps_asg (pe_tup (pa_cons (pe_ix ix_tup (pe_ix ix_list (pv 4) (pv 6) (fun _ _ => rfl)) pe_int (fun _ _ => rfl)) (pa_cons (pe_ix ix_tup (pe_ix ix_list (pv 4) (pv 6) (fun _ _ => rfl)) pe_int (fun _ _ => rfl)) pa_nil))) (pg_sub (pe_fldK (K := K) rfl (pv 0) rfl) (pe_ix ix_list (pv 3) (pe_op op_add (pv 6) pe_int) (fun _ _ => rfl)) set_list)) pss_nil))) pss_nil)))), fn_OU (n := 3) (j := 4) rfl (fun ss m rs G _ p => ?_) vs H Q E h⟩), FunD.bindsN F fun _ _ _ _ _ _ us hl => match us, hl with | [_, _, _], _ => rfl, fn_look F⟩, F.kp, hg⟩
  obtain ⟨w0, web, body, link, e1, e2, e3, e4⟩ := p
  subst e1; subst e3; subst e4; rw [e2]
  refine ⟨fun c => (keeps_kn (keeps_no (keeps_no keeps_nil))), fun c => rfl, ?_⟩
  unfold m_change_up
  exact (bm_at [.kn w0 (C_Web.sl web), .f body, .f link, .no, .no, .no, .no] (bm_asg rfl (em_of (en_borrowI (i := 0) rfl (toD_kn (C_Web.toD web)) (C_Web.noT web) (en_w (ew_c2P (em_var rfl) (em_var rfl))))) (fun path => (bm_at [.kn w0 (C_Web.sl web), .f body, .f link, .f path, .no, .no, .no] (bm_asg rfl (em_of (en_lcP (ei_list (em_of (en_sliceP (el_of (em_var rfl)) eo_none (eo_someP (em_negP em_int))))) (fun _ => tg_name rfl) (tw_name (by decide)) (fun _ => et_yes) (fun part => (em_borrowI (i := 0) rfl (toD_kn (C_Web.toD web)) (C_Web.noT web) (em_c2P (em_var rfl) (em_var rfl)))))) (fun links => (bm_at [.kn w0 (C_Web.sl web), .f body, .f link, .f path, .f links, .no, .no] (bm_setLP (pl_pt (pt_Web_tie T (pt_varK (i := 0) rfl (fun h => by cases h)) rfl rfl)) (em_upP (em_var rfl)) (em_var rfl) (fun tie => (bm_at [.kn w0 (.ob "Web" xs_Web [.f web.size, .o web.inside, .o web.price, .o web.ring, .o web.joints, .o tie, .o web.mark, .o web.way, .o web.outer]), .f body, .f link, .f path, .f links, .no, .no] (bm_for (S := C_Web) (G := (fun (s2 : C_Web) => [.kn w0 (C_Web.sl s2), .no, .no, .f path, .f links, .no, .no])) (s0 := (C_Web.mk web.size web.inside web.price web.ring web.joints tie web.mark web.way web.outer)) (ei_rng3P em_int (em_subP (em_lenP (el_of (em_var rfl))) em_int) em_int) (.s (.n (.n (.s (.s (.s (.s .nil))))))) (fun _ _ => tg_name rfl) (fun s2 k => (bm_at [.kn w0 (C_Web.sl s2), .no, .no, .f path, .f links, .no, .f k] (bm_setL (pl_pt (pt_Web_tie T (pt_varK (i := 0) rfl (fun h => by cases h)) rfl rfl)) (em_ixLP (el_of (em_var rfl)) (em_var rfl)) (em_ixLP (el_of (em_var rfl)) (em_var rfl)) (fun tie_1 => (bm_at [.kn w0 (.ob "Web" xs_Web [.f s2.size, .o s2.inside, .o s2.price, .o s2.ring, .o s2.joints, .o tie_1, .o s2.mark, .o s2.way, .o s2.outer]), .no, .no, .f path, .f links, .no, .f k] (bm_setL (pl_pt (pt_Web_tie T (pt_varK (i := 0) rfl (fun h => by cases h)) rfl rfl)) (em_up (em_t2 (em_snd (em_join (em_ixLP (el_of (em_var rfl)) (em_var rfl)))) (em_fst (em_join (em_ixLP (el_of (em_var rfl)) (em_var rfl)))))) (em_ixLP (el_of (em_var rfl)) (em_addP (em_var rfl) em_int)) (fun tie_2 => (bm_nxC (.s (.s (.s (.s (.s (.s (.n .nil))))))))))))))) (fun s2 => (bm_endOU (.s (.s (.s (.n (.n (.s (.s .nil))))))))))))))))))))
def spo_Web__put_together (K : PySem.W.Frag) : Sp := spO (γ := C_Web) K 4 fun ss m rs G => ∃ (w0 : V) (self : C_Web) (ring : (List Int)) (joints : (List (Int × Int))) (tie : (Option (Int × Int))), ss = [.kn w0 (C_Web.sl self), .f ring, .f joints, .f tie] ∧ m = m_Web__put_together self ring joints tie ∧ rs = (fun c => .fz .non) ∧ G = (fun c => [.kn w0 (C_Web.sl c), .no, .no, .no])
theorem sc_Web__put_together : FnScope ["self", "ring", "joints", "tie", "body", "places", "part", "place"] ["self", "ring", "joints", "tie"] (defScope (mtop 9 5)) := ⟨rfl, rfl, rfl, by decide +kernel, rfl, by decide +kernel, by decide +kernel⟩
theorem ok_Web__put_together (T : Tx K mg) (C : He.SaysD fa fn K)  : FnM P w K base mg 1 "Web" "put_together" ["self", "ring", "joints", "tie"] (spo_Web__put_together K) := by
  obtain ⟨fd, F⟩ := C.def_ 10 (d := d_Web__put_together) rfl
  have sc := sc_Web__put_together
  refine ⟨⟨fd, F.ok sc len_O (fun cdv A outer s H vs Q E hr h => ⟨_, PSs.nox
    (pss_cons (ps_set (i := 4) sc.nd rfl (Or.inl rfl) (pe_callB call_lenS (by rfl) T.b_len bt_len (pa_cons (pe_fldK (K := K) rfl (pv 0) rfl) pa_nil))) (pss_cons (ps_set (i := 5) sc.nd rfl (Or.inl rfl) (pe_lst pa_nil)) (pss_cons (ps_for PassesOwn.never rfl (pi_list (pv 1)) (pg_name (i := 6) sc.nd rfl (Or.inl rfl)) (pss_cons (ps_expr (pe_bm PySem.F.plainAttrs_list PySem.F.slot_list_extend PySem.F.type_list_extend mt_extend (pv 5) (pa_cons (pe_ix ix_list (pe_fldK (K := K) rfl (pv 0) rfl) (pv 6) (fun _ _ => rfl)) pa_nil))) pss_nil)) (pss_cons (ps_expr (pe_bm PySem.F.plainAttrs_list PySem.F.slot_list_append PySem.F.type_list_append mt_append (pe_fldK (K := K) rfl (pv 0) rfl) (pa_cons (pv 5) pa_nil))) (pss_cons (ps_expr (pe_bm PySem.F.plainAttrs_list PySem.F.slot_list_append PySem.F.type_list_append mt_append (pe_fldK (K := K) rfl (pv 0) rfl) (pa_cons pe_int pa_nil))) (pss_cons (ps_expr (pe_bm PySem.F.plainAttrs_list PySem.F.slot_list_append PySem.F.type_list_append mt_append (pe_fldK (K := K) rfl (pv 0) rfl) (pa_cons (pe_callTy call_listS (by rfl) T.b_list bt_list (pa_cons (pv 1) pa_nil)) pa_nil))) (pss_cons (ps_expr (pe_bm PySem.F.plainAttrs_list PySem.F.slot_list_append PySem.F.type_list_append mt_append (pe_fldK (K := K) rfl (pv 0) rfl) (pa_cons (pe_callTy call_listS (by rfl) T.b_list bt_list (pa_cons (pv 2) pa_nil)) pa_nil))) (pss_cons (ps_expr (pe_bm PySem.F.plainAttrs_list PySem.F.slot_list_append PySem.F.type_list_append mt_append (pe_fldK (K := K) rfl (pv 0) rfl) (pa_cons (pv 3) pa_nil))) (pss_cons (ps_expr (pe_bm PySem.F.plainAttrs_list PySem.F.slot_list_append PySem.F.type_list_append mt_append (pe_fldK (K := K) rfl (pv 0) rfl) (pa_cons pe_int pa_nil))) (pss_cons (ps_expr (pe_bm PySem.F.plainAttrs_list PySem.F.slot_list_append PySem.F.type_list_append mt_append (pe_fldK (K := K) rfl (pv 0) rfl) (pa_cons pe_non pa_nil))) (pss_cons (ps_for PassesOwn.never rfl (pi_list (pv 5)) (pg_name (i := 7) sc.nd rfl (Or.inl rfl)) (pss_cons (ps_asg (pv 4) (pg_sub (pe_fldK (K := K) rfl (pv 0) rfl) (pv 7) set_list)) pss_nil)) pss_nil))))))))))), fn_OU (n := 4) (j := 4) rfl (fun ss m rs G _ p => ?_) vs H Q E h⟩), FunD.bindsN F fun _ _ _ _ _ _ us hl => match us, hl with | [_, _, _, _], _ => rfl⟩, T.cls_Web, T.mt_Web__put_together⟩
  obtain ⟨w0, self, ring, joints, tie, e1, e2, e3, e4⟩ := p
  subst e1; subst e3; subst e4; rw [e2]
  refine ⟨fun c => (keeps_kn (keeps_no (keeps_no (keeps_no keeps_nil)))), fun c => rfl, ?_⟩
  unfold m_Web__put_together
  exact (bm_at [.kn w0 (C_Web.sl self), .f ring, .f joints, .f tie, .no, .no, .no, .no] (bm_asgP rfl (em_lenP (el_pt (pt_Web_inside T (pt_varK (i := 0) rfl (fun h => by cases h)) rfl rfl))) (bm_at [.kn w0 (C_Web.sl self), .f ring, .f joints, .f tie, .f (self.inside.length : Int), .no, .no, .no] (bm_asgNP rfl en_nil (bm_at [.kn w0 (C_Web.sl self), .f ring, .f joints, .f tie, .f (self.inside.length : Int), .o ([] : List Int), .no, .no] (bm_forP (S := (List Int)) (G := (fun (s1 : (List Int)) => [.kn w0 (C_Web.sl self), .f ring, .f joints, .f tie, .f (self.inside.length : Int), .o s1, .no, .no])) (s0 := ([] : List Int)) (ei_list (em_var rfl)) (.s (.s (.s (.s (.s (.s (.s (.s .nil)))))))) (fun _ _ => tg_name rfl) (fun s1 part => (bm_at [.kn w0 (C_Web.sl self), .f ring, .f joints, .f tie, .f (self.inside.length : Int), .o s1, .f part, .no] (bm_extd (pl_var rfl) (el_of (em_ixLP (el_pt (pt_Web_inside T (pt_varK (i := 0) rfl (fun h => by cases h)) rfl rfl)) (em_var rfl))) (fun places => (bm_nxC (.s (.s (.s (.s (.s (.s (.n (.s .nil))))))))))))) (fun s1 => (bm_frz (i := 5) rfl (bm_at [.kn w0 (C_Web.sl self), .f ring, .f joints, .f tie, .f (self.inside.length : Int), .f s1, .no, .no] (bm_appP (pl_pt (pt_Web_inside T (pt_varK (i := 0) rfl (fun h => by cases h)) rfl rfl)) (em_var rfl) (fun inside_1 => (bm_at [.kn w0 (.ob "Web" xs_Web [.f self.size, .o inside_1, .o self.price, .o self.ring, .o self.joints, .o self.tie, .o self.mark, .o self.way, .o self.outer]), .f ring, .f joints, .f tie, .f (self.inside.length : Int), .f s1, .no, .no] (bm_appP (pl_pt (pt_Web_price T (pt_varK (i := 0) rfl (fun h => by cases h)) rfl rfl)) em_int (fun price => (bm_at [.kn w0 (.ob "Web" xs_Web [.f self.size, .o inside_1, .o price, .o self.ring, .o self.joints, .o self.tie, .o self.mark, .o self.way, .o self.outer]), .f ring, .f joints, .f tie, .f (self.inside.length : Int), .f s1, .no, .no] (bm_appP (pl_pt (pt_Web_ring T (pt_varK (i := 0) rfl (fun h => by cases h)) rfl rfl)) (em_of (en_list (el_of (em_var rfl)))) (fun ring_1 => (bm_at [.kn w0 (.ob "Web" xs_Web [.f self.size, .o inside_1, .o price, .o ring_1, .o self.joints, .o self.tie, .o self.mark, .o self.way, .o self.outer]), .f ring, .f joints, .f tie, .f (self.inside.length : Int), .f s1, .no, .no] (bm_appP (pl_pt (pt_Web_joints T (pt_varK (i := 0) rfl (fun h => by cases h)) rfl rfl)) (em_of (en_list (el_of (em_var rfl)))) (fun joints_1 => (bm_at [.kn w0 (.ob "Web" xs_Web [.f self.size, .o inside_1, .o price, .o ring_1, .o joints_1, .o self.tie, .o self.mark, .o self.way, .o self.outer]), .f ring, .f joints, .f tie, .f (self.inside.length : Int), .f s1, .no, .no] (bm_appP (pl_pt (pt_Web_tie T (pt_varK (i := 0) rfl (fun h => by cases h)) rfl rfl)) (em_var rfl) (fun tie_1 => (bm_at [.kn w0 (.ob "Web" xs_Web [.f self.size, .o inside_1, .o price, .o ring_1, .o joints_1, .o tie_1, .o self.mark, .o self.way, .o self.outer]), .f ring, .f joints, .f tie, .f (self.inside.length : Int), .f s1, .no, .no] (bm_appP (pl_pt (pt_Web_mark T (pt_varK (i := 0) rfl (fun h => by cases h)) rfl rfl)) em_int (fun mark => (bm_at [.kn w0 (.ob "Web" xs_Web [.f self.size, .o inside_1, .o price, .o ring_1, .o joints_1, .o tie_1, .o mark, .o self.way, .o self.outer]), .f ring, .f joints, .f tie, .f (self.inside.length : Int), .f s1, .no, .no] (bm_appP (pl_pt (pt_Web_way T (pt_varK (i := 0) rfl (fun h => by cases h)) rfl rfl)) em_non (fun way => (bm_at [.kn w0 (.ob "Web" xs_Web [.f self.size, .o inside_1, .o price, .o ring_1, .o joints_1, .o tie_1, .o mark, .o way, .o self.outer]), .f ring, .f joints, .f tie, .f (self.inside.length : Int), .f s1, .no, .no] (bm_forP (S := C_Web) (G := (fun (s3 : C_Web) => [.kn w0 (C_Web.sl s3), .no, .no, .no, .f (self.inside.length : Int), .no, .no, .no])) (s0 := (C_Web.mk self.size inside_1 price ring_1 joints_1 tie_1 mark way self.outer)) (ei_list (em_var rfl)) (.s (.n (.n (.n (.s (.n (.s (.s .nil)))))))) (fun _ _ => tg_name rfl) (fun s3 place => (bm_at [.kn w0 (C_Web.sl s3), .no, .no, .no, .f (self.inside.length : Int), .no, .no, .f place] (bm_setLP (pl_pt (pt_Web_outer T (pt_varK (i := 0) rfl (fun h => by cases h)) rfl rfl)) (em_var rfl) (em_var rfl) (fun outer => (bm_nxC (.s (.s (.s (.s (.s (.s (.s (.n .nil))))))))))))) (fun s3 => (bm_endOU (.s (.s (.s (.s (.n (.s (.s (.s .nil)))))))))))))))))))))))))))))))))))))))))
def spo_put_ring (K : PySem.W.Frag) : Sp := spO (γ := C_Web) K 3 fun ss m rs G => ∃ (w0 : V) (web : C_Web) (u : Int) (v : Int), ss = [.kn w0 (C_Web.sl web), .f u, .f v] ∧ m = m_put_ring web u v ∧ rs = (fun c => .fz .non) ∧ G = (fun c => [.kn w0 (C_Web.sl c), .no, .no])
theorem sc_put_ring : FnScope ["web", "u", "v", "one", "other", "ring", "joints", "k", "link", "body"] ["web", "u", "v"] (defScope (top 5)) := ⟨rfl, rfl, rfl, by decide +kernel, rfl, by decide +kernel, by decide +kernel⟩
theorem ok_put_ring (T : Tx K mg) (C : He.SaysD fa fn K) (hg : mg "put_ring" = some (.ref (He.ga K "put_ring"))) (F_Web__put_together : FnM P w K base mg 1 "Web" "put_together" ["self", "ring", "joints", "tie"] (spo_Web__put_together K)) (F_link_up : Fn P w K mg base 1 "link_up" ["web", "body"] (sp2 K m_link_up)) (F_path_up : Fn P w K mg base 2 "path_up" ["web", "body"] (spw2 K m_path_up (fun c => .o c))) : Fn P w K mg base 3 "put_ring" ["web", "u", "v"] (spo_put_ring K) := by
  obtain ⟨fd, F⟩ := C.def_ 3 (d := d_put_ring) rfl
  have sc := sc_put_ring
  refine ⟨⟨fd, F.ok sc len_O (fun cdv A outer s H vs Q E hr h => ⟨_, PSs.nox
    (pss_cons (ps_set (i := 3) sc.nd rfl (Or.inl rfl) (pe_f F_path_up (hr.mono (by decide)) (by rfl) (pa_cons (pv 0) (pa_cons (pe_ix ix_list (pe_fldK (K := K) rfl (pv 0) rfl) (pv 1) (fun _ _ => rfl)) pa_nil)))) (pss_cons (ps_set (i := 4) sc.nd rfl (Or.inl rfl) (pe_f F_path_up (hr.mono (by decide)) (by rfl) (pa_cons (pv 0) (pa_cons (pe_ix ix_list (pe_fldK (K := K) rfl (pv 0) rfl) (pv 2) (fun _ _ => rfl)) pa_nil)))) (pss_cons (ps_while PassesOwn.never (PW.pt (pw_and (pt_cmpR op_gt (pe_callB call_lenS (by rfl) T.b_len bt_len (pa_cons (pv 3) pa_nil)) pe_int (nomark _)) (pw_and (pt_cmpR op_gt (pe_callB call_lenS (by rfl) T.b_len bt_len (pa_cons (pv 4) pa_nil)) pe_int (nomark _)) (pw_and1 (pt_cmpR op_eq (pe_ix ix_list (pv 3) (pe_un un_neg pe_int) (fun _ _ => rfl)) (pe_ix ix_list (pv 4) (pe_un un_neg pe_int) (fun _ _ => rfl)) (nomark _)))))) (pss_cons (ps_expr (pe_bm0 PySem.F.plainAttrs_list PySem.F.slot_list_pop PySem.F.type_list_pop mt_pop (pv 3))) (pss_cons (ps_expr (pe_bm0 PySem.F.plainAttrs_list PySem.F.slot_list_pop PySem.F.type_list_pop mt_pop (pv 4))) pss_nil))) (pss_cons (ps_set (i := 5) sc.nd rfl (Or.inl rfl) (pe_lst pa_nil)) (pss_cons (ps_set (i := 6) sc.nd rfl (Or.inl rfl) (pe_lst pa_nil)) (pss_cons (ps_for PassesOwn.never rfl (pi_range3 rfl T.b_range (pa_cons (pe_op op_sub (pe_callB call_lenS (by rfl) T.b_len bt_len (pa_cons (pv 3) pa_nil)) pe_int) (pa_cons pe_int (pa_cons (pe_un un_neg pe_int) pa_nil)))) (pg_name (i := 7) sc.nd rfl (Or.inl rfl)) (pss_cons (ps_expr (pe_bm PySem.F.plainAttrs_list PySem.F.slot_list_append PySem.F.type_list_append mt_append (pv 5) (pa_cons (pe_ix ix_list (pv 3) (pv 7) (fun _ _ => rfl)) pa_nil))) (pss_cons (ps_set (i := 8) sc.nd rfl (Or.inl rfl) (pe_f F_link_up (hr.mono (by decide)) (by rfl) (pa_cons (pv 0) (pa_cons (pe_ix ix_list (pv 3) (pe_op op_sub (pv 7) pe_int) (fun _ _ => rfl)) pa_nil)))) (pss_cons (ps_expr (pe_bm PySem.F.plainAttrs_list PySem.F.slot_list_append PySem.F.type_list_append mt_append (pv 6) (pa_cons (pe_tup (pa_cons (pe_ix ix_tup (pv 8) pe_int (fun _ _ => rfl)) (pa_cons (pe_ix ix_tup (pv 8) pe_int (fun _ _ => rfl)) pa_nil))) pa_nil))) pss_nil)))) (pss_cons (ps_expr (pe_bm PySem.F.plainAttrs_list PySem.F.slot_list_append PySem.F.type_list_append mt_append (pv 5) (pa_cons (pe_ix ix_list (pv 3) pe_int (fun _ _ => rfl)) pa_nil))) (pss_cons (ps_expr (pe_bm PySem.F.plainAttrs_list PySem.F.slot_list_append PySem.F.type_list_append mt_append (pv 6) (pa_cons (pe_tup (pa_cons (pv 1) (pa_cons (pv 2) pa_nil))) pa_nil))) (pss_cons (ps_for PassesOwn.never rfl (pi_list (pe_slice sl_list (pv 4) po_none (po_some (pe_un un_neg pe_int)))) (pg_name (i := 9) sc.nd rfl (Or.inl rfl)) (pss_cons (ps_expr (pe_bm PySem.F.plainAttrs_list PySem.F.slot_list_append PySem.F.type_list_append mt_append (pv 5) (pa_cons (pv 9) pa_nil))) (pss_cons (ps_expr (pe_bm PySem.F.plainAttrs_list PySem.F.slot_list_append PySem.F.type_list_append mt_append (pv 6) (pa_cons (pe_f F_link_up (hr.mono (by decide)) (by rfl) (pa_cons (pv 0) (pa_cons (pv 9) pa_nil))) pa_nil))) pss_nil))) (pss_cons (ps_expr (pe_mK (K := K) rfl (pv 0) F_Web__put_together (hr.mono (by decide)) (pa_cons (pv 5) (pa_cons (pv 6) (pa_cons (pe_ix ix_list (pe_fldK (K := K) rfl (pv 0) rfl) (pe_ix ix_list (pv 3) (pe_un un_neg pe_int) (fun _ _ => rfl)) (fun _ _ => rfl)) pa_nil))))) pss_nil)))))))))), fn_OU (n := 3) (j := 7) rfl (fun ss m rs G _ p => ?_) vs H Q E h⟩), FunD.bindsN F fun _ _ _ _ _ _ us hl => match us, hl with | [_, _, _], _ => rfl, fn_look F⟩, F.kp, hg⟩
  obtain ⟨w0, web, u, v, e1, e2, e3, e4⟩ := p
  subst e1; subst e3; subst e4; rw [e2]
  refine ⟨fun c => (keeps_kn (keeps_no (keeps_no keeps_nil))), fun c => rfl, ?_⟩
  unfold m_put_ring
  exact (bm_at [.kn w0 (C_Web.sl web), .f u, .f v, .no, .no, .no, .no, .no, .no, .no] (bm_asgN rfl (en_borrowI (i := 0) rfl (toD_kn (C_Web.toD web)) (C_Web.noT web) (en_w (ew_c2 (em_var rfl) (em_ixLP (el_of (fl_Web_outerP T (em_var rfl))) (em_var rfl))))) (fun one => (bm_at [.kn w0 (C_Web.sl web), .f u, .f v, .o one, .no, .no, .no, .no, .no, .no] (bm_asgN rfl (en_borrowI (i := 0) rfl (toD_kn (C_Web.toD web)) (C_Web.noT web) (en_w (ew_c2 (em_var rfl) (em_ixLP (el_of (fl_Web_outerP T (em_var rfl))) (em_var rfl))))) (fun other => (bm_at [.kn w0 (C_Web.sl web), .f u, .f v, .o one, .o other, .no, .no, .no, .no, .no] (bm_while (S := ((List Int) × (List Int))) (G := (fun (s5 : ((List Int) × (List Int))) => [.kn w0 (C_Web.sl web), .f u, .f v, .o s5.1, .o s5.2, .no, .no, .no, .no, .no])) (s0 := (one, other)) (.s (.s (.s (.s (.s (.s (.s (.s (.s (.s .nil)))))))))) (fun s5 => (et_and (et_test (em_gtP (em_lenP (el_own rfl)) em_int)) (et_and (et_test (em_gtP (em_lenP (el_own rfl)) em_int)) (et_test (em_eqS (em_ixLP (el_own rfl) (em_negP em_int)) (em_ixLP (el_own rfl) (em_negP em_int))))))) (fun s5 => (bm_at [.kn w0 (C_Web.sl web), .f u, .f v, .o s5.1, .o s5.2, .no, .no, .no, .no, .no] (bm_popDd (pl_var rfl) (fun one_1 => (bm_at [.kn w0 (C_Web.sl web), .f u, .f v, .o one_1, .o s5.2, .no, .no, .no, .no, .no] (bm_popDd (pl_var rfl) (fun other_1 => (bm_nxC (.s (.s (.s (.s (.s (.s (.s (.s (.s (.s .nil)))))))))))))))))) (fun s5 => (bm_at [.kn w0 (C_Web.sl web), .f u, .f v, .o s5.1, .o s5.2, .no, .no, .no, .no, .no] (bm_asgNP rfl en_nil (bm_at [.kn w0 (C_Web.sl web), .f u, .f v, .o s5.1, .o s5.2, .o ([] : List Int), .no, .no, .no, .no] (bm_asgNP rfl en_nil (bm_at [.kn w0 (C_Web.sl web), .f u, .f v, .o s5.1, .o s5.2, .o ([] : List Int), .o ([] : List (Int × Int)), .no, .no, .no] (bm_for (S := ((List Int) × (List (Int × Int)))) (G := (fun (s12 : ((List Int) × (List (Int × Int)))) => [.kn w0 (C_Web.sl web), .f u, .f v, .o s5.1, .o s5.2, .o s12.1, .o s12.2, .no, .no, .no])) (s0 := (([] : List Int), ([] : List (Int × Int)))) (ei_rng3P (em_subP (em_lenP (el_own rfl)) em_int) em_int (em_negP em_int)) (.s (.s (.s (.s (.s (.s (.s (.s (.s (.s .nil)))))))))) (fun _ _ => tg_name rfl) (fun s12 k => (bm_at [.kn w0 (C_Web.sl web), .f u, .f v, .o s5.1, .o s5.2, .o s12.1, .o s12.2, .f k, .no, .no] (bm_app (pl_var rfl) (em_ixLP (el_own rfl) (em_var rfl)) (fun ring => (bm_at [.kn w0 (C_Web.sl web), .f u, .f v, .o s5.1, .o s5.2, .o ring, .o s12.2, .f k, .no, .no] (bm_asg rfl (em_borrowI (i := 0) rfl (toD_kn (C_Web.toD web)) (C_Web.noT web) (em_c2 (em_var rfl) (em_ixLP (el_own rfl) (em_subP (em_var rfl) em_int)))) (fun link => (bm_at [.kn w0 (C_Web.sl web), .f u, .f v, .o s5.1, .o s5.2, .o ring, .o s12.2, .f k, .f link, .no] (bm_app (pl_var rfl) (em_t2 (em_snd (em_some rfl)) (em_fst (em_some rfl))) (fun joints => (bm_nxC (.s (.s (.s (.s (.s (.s (.s (.n (.n (.s .nil))))))))))))))))))))) (fun s12 => (bm_at [.kn w0 (C_Web.sl web), .f u, .f v, .o s5.1, .o s5.2, .o s12.1, .o s12.2, .no, .no, .no] (bm_app (pl_var rfl) (em_ixLP (el_own rfl) em_int) (fun ring_1 => (bm_at [.kn w0 (C_Web.sl web), .f u, .f v, .o s5.1, .o s5.2, .o ring_1, .o s12.2, .no, .no, .no] (bm_appP (pl_var rfl) (em_t2P (em_var rfl) (em_var rfl)) (fun joints_1 => (bm_at [.kn w0 (C_Web.sl web), .f u, .f v, .o s5.1, .o s5.2, .o ring_1, .o joints_1, .no, .no, .no] (bm_forP (S := ((List Int) × (List (Int × Int)))) (G := (fun (s21 : ((List Int) × (List (Int × Int)))) => [.kn w0 (C_Web.sl web), .no, .no, .o s5.1, .no, .o s21.1, .o s21.2, .no, .no, .no])) (s0 := (ring_1, joints_1)) (ei_list (em_of (en_sliceP (el_own rfl) eo_none (eo_someP (em_negP em_int))))) (.s (.n (.n (.s (.n (.s (.s (.s (.s (.s .nil)))))))))) (fun _ _ => tg_name rfl) (fun s21 body => (bm_at [.kn w0 (C_Web.sl web), .no, .no, .o s5.1, .no, .o s21.1, .o s21.2, .no, .no, .f body] (bm_appP (pl_var rfl) (em_var rfl) (fun ring_2 => (bm_at [.kn w0 (C_Web.sl web), .no, .no, .o s5.1, .no, .o ring_2, .o s21.2, .no, .no, .f body] (bm_app (pl_var rfl) (em_join (em_borrowI (i := 0) rfl (toD_kn (C_Web.toD web)) (C_Web.noT web) (em_c2P (em_var rfl) (em_var rfl)))) (fun joints_2 => (bm_nxC (.s (.s (.s (.s (.s (.s (.s (.s (.s (.n .nil)))))))))))))))))) (fun s21 => (bm_frz (i := 5) rfl (bm_frz (i := 6) rfl (bm_at [.kn w0 (C_Web.sl web), .no, .no, .o s5.1, .no, .f s21.1, .f s21.2, .no, .no, .no] (bm_dropS (es_at (fun v25 e_v25 => (es_meth (i := 0) rfl ob_kn xm_Web__put_together (es_end (esf_no (esf_no (esf_no (esf_kn (i := 0) (esf_call (eg_of2 (eg2_own rfl (eg2_fz (em_var rfl) (eg2_fz (em_var rfl) (eg2_fz (e_v25 ▸ (em_ixL (el_pt (pt_Web_tie T (pt_varK (i := 0) rfl (fun h => by cases h)) rfl rfl)) (em_ixLP (el_own rfl) (em_negP em_int)))) eg2_nil)))) (.own rfl (.fz (.fz (.fz .nil))))) rfl ⟨w0, web, s21.1, s21.2, v25, rfl, rfl, rfl, rfl⟩ (fun _ => rfl)) (fun _ => rfl))))))))) (fun r26 => (bm_endOU (.s (.s (.s (.n (.s (.n (.n (.s (.s (.s .nil)))))))))))))))))))))))))))))))))))))))))
def spo_grow (K : PySem.W.Frag) : Sp := spO (γ := (C_Web × Bool)) K 3 fun ss m rs G => ∃ (w0 : V) (web : C_Web) (u : Int) (v : Int), ss = [.kn w0 (C_Web.sl web), .f u, .f v] ∧ m = m_grow web u v ∧ rs = (fun c => .f c.2) ∧ G = (fun c => [.kn w0 (C_Web.sl c.1), .no, .no])
theorem sc_grow : FnScope ["web", "u", "v", "there", "here"] ["web", "u", "v"] (defScope (top 6)) := ⟨rfl, rfl, rfl, by decide +kernel, rfl, by decide +kernel, by decide +kernel⟩
theorem ok_grow (T : Tx K mg) (C : He.SaysD fa fn K) (hg : mg "grow" = some (.ref (He.ga K "grow"))) (F_change_up : Fn P w K mg base 3 "change_up" ["web", "body", "link"] (spo_change_up K)) (F_path_up : Fn P w K mg base 2 "path_up" ["web", "body"] (spw2 K m_path_up (fun c => .o c))) (F_put_ring : Fn P w K mg base 3 "put_ring" ["web", "u", "v"] (spo_put_ring K)) : Fn P w K mg base 4 "grow" ["web", "u", "v"] (spo_grow K) := by
  obtain ⟨fd, F⟩ := C.def_ 4 (d := d_grow) rfl
  have sc := sc_grow
  refine ⟨⟨fd, F.ok sc len_O (fun cdv A outer s H vs Q E hr h => ⟨_, PSs.nox
    (pss_cons (ps_set (i := 3) sc.nd rfl (Or.inl rfl) (pe_ix ix_list (pe_fldK (K := K) rfl (pv 0) rfl) (pv 2) (fun _ _ => rfl))) (pss_cons (ps_if (pt_cmpR op_eq (pe_ix ix_list (pe_fldK (K := K) rfl (pv 0) rfl) (pv 3) (fun _ _ => rfl)) pe_int (nomark _)) (pss_cons (ps_asg pe_int (pg_sub (pe_fldK (K := K) rfl (pv 0) rfl) (pv 3) set_list)) (pss_cons (ps_asg (pe_tup (pa_cons (pv 1) (pa_cons (pv 2) pa_nil))) (pg_sub (pe_fldK (K := K) rfl (pv 0) rfl) (pv 3) set_list)) (pss_cons (ps_asg pe_int (pg_sub (pe_fldK (K := K) rfl (pv 0) rfl) (pe_ix ix_list (pe_fldK (K := K) rfl (pv 0) rfl) (pe_ix ix_tup (pe_ix ix_list (pe_fldK (K := K) rfl (pv 0) rfl) (pv 3) (fun _ _ => rfl)) pe_int (fun _ _ => rfl)) (fun _ _ => rfl)) set_list)) (pss_one (ps_ret pe_bl))))) pss_nil) (pss_cons (ps_set (i := 4) sc.nd rfl (Or.inl rfl) (pe_ix ix_list (pe_fldK (K := K) rfl (pv 0) rfl) (pv 1) (fun _ _ => rfl))) (pss_cons (ps_if (pt_cmpR op_eq (pe_ix ix_list (pe_f F_path_up (hr.mono (by decide)) (by rfl) (pa_cons (pv 0) (pa_cons (pv 4) pa_nil))) (pe_un un_neg pe_int) (fun _ _ => rfl)) (pe_ix ix_list (pe_f F_path_up (hr.mono (by decide)) (by rfl) (pa_cons (pv 0) (pa_cons (pv 3) pa_nil))) (pe_un un_neg pe_int) (fun _ _ => rfl)) (nomark _)) (pss_cons (ps_expr (pe_f F_put_ring (hr.mono (by decide)) (by rfl) (pa_cons (pv 0) (pa_cons (pv 1) (pa_cons (pv 2) pa_nil))))) (pss_one (ps_ret pe_bl))) pss_nil) (pss_cons (ps_expr (pe_f F_change_up (hr.mono (by decide)) (by rfl) (pa_cons (pv 0) (pa_cons (pv 4) (pa_cons (pe_tup (pa_cons (pv 1) (pa_cons (pv 2) pa_nil))) pa_nil))))) (pss_cons (ps_expr (pe_f F_change_up (hr.mono (by decide)) (by rfl) (pa_cons (pv 0) (pa_cons (pv 3) (pa_cons (pe_tup (pa_cons (pv 2) (pa_cons (pv 1) pa_nil))) pa_nil))))) (pss_one (ps_ret pe_bl)))))))), fn_O (n := 3) (j := 2) rfl (fun ss m rs G _ p => ?_) vs H Q E h⟩), FunD.bindsN F fun _ _ _ _ _ _ us hl => match us, hl with | [_, _, _], _ => rfl, fn_look F⟩, F.kp, hg⟩
  obtain ⟨w0, web, u, v, e1, e2, e3, e4⟩ := p
  subst e1; subst e3; subst e4; rw [e2]
  refine ⟨fun c => (keeps_kn (keeps_no (keeps_no keeps_nil))), ?_⟩
  unfold m_grow
  exact (bm_at [.kn w0 (C_Web.sl web), .f u, .f v, .no, .no] (bm_asg rfl (em_ixLP (el_pt (pt_Web_outer T (pt_varK (i := 0) rfl (fun h => by cases h)) rfl rfl)) (em_var rfl)) (fun there => (bm_at [.kn w0 (C_Web.sl web), .f u, .f v, .f there, .no] (bm_ifT imp_O (et_test (em_eqS (em_ixLP (el_pt (pt_Web_mark T (pt_varK (i := 0) rfl (fun h => by cases h)) rfl rfl)) (em_var rfl)) em_int)) (bm_at [.kn w0 (C_Web.sl web), .f u, .f v, .f there, .no] (bm_setLP (pl_pt (pt_Web_mark T (pt_varK (i := 0) rfl (fun h => by cases h)) rfl rfl)) em_int (em_var rfl) (fun mark => (bm_at [.kn w0 (.ob "Web" xs_Web [.f web.size, .o web.inside, .o web.price, .o web.ring, .o web.joints, .o web.tie, .o mark, .o web.way, .o web.outer]), .f u, .f v, .f there, .no] (bm_setLP (pl_pt (pt_Web_way T (pt_varK (i := 0) rfl (fun h => by cases h)) rfl rfl)) (em_upP (em_t2P (em_var rfl) (em_var rfl))) (em_var rfl) (fun way => (bm_at [.kn w0 (.ob "Web" xs_Web [.f web.size, .o web.inside, .o web.price, .o web.ring, .o web.joints, .o web.tie, .o mark, .o way, .o web.outer]), .f u, .f v, .f there, .no] (bm_setL (pl_pt (pt_Web_mark T (pt_varK (i := 0) rfl (fun h => by cases h)) rfl rfl)) em_int (em_ixL (el_pt (pt_Web_outer T (pt_varK (i := 0) rfl (fun h => by cases h)) rfl rfl)) (em_snd (em_join (em_ixLP (el_pt (pt_Web_tie T (pt_varK (i := 0) rfl (fun h => by cases h)) rfl rfl)) (em_var rfl))))) (fun mark_1 => (bm_at [.kn w0 (.ob "Web" xs_Web [.f web.size, .o web.inside, .o web.price, .o web.ring, .o web.joints, .o web.tie, .o mark_1, .o way, .o web.outer]), .f u, .f v, .f there, .no] (bm_retO (f := fun r => ((C_Web.mk web.size web.inside web.price web.ring web.joints web.tie mark_1 way web.outer), r)) em_bl (fun _ => rfl) (fun _ => (.s (.n (.n (.n (.s .nil))))))))))))))))) (bm_at [.kn w0 (C_Web.sl web), .f u, .f v, .f there, .no] (bm_asg rfl (em_ixLP (el_pt (pt_Web_outer T (pt_varK (i := 0) rfl (fun h => by cases h)) rfl rfl)) (em_var rfl)) (fun here => (bm_at [.kn w0 (C_Web.sl web), .f u, .f v, .f there, .f here] (bm_ifT imp_O (et_test (em_eqS (em_ixL (el_n (en_borrowI (i := 0) rfl (toD_kn (C_Web.toD web)) (C_Web.noT web) (en_w (ew_c2P (em_var rfl) (em_var rfl))))) (em_negP em_int)) (em_ixL (el_n (en_borrowI (i := 0) rfl (toD_kn (C_Web.toD web)) (C_Web.noT web) (en_w (ew_c2P (em_var rfl) (em_var rfl))))) (em_negP em_int)))) (bm_at [.kn w0 (C_Web.sl web), .f u, .f v, .f there, .f here] (bm_dropS (es_end (esf_no (esf_no (esf_kn (i := 0) (esf_call (eg_of2 (eg2_own rfl (eg2_fz (em_var rfl) (eg2_fz (em_var rfl) eg2_nil))) (.own rfl (.fz (.fz .nil)))) rfl ⟨w0, web, u, v, rfl, rfl, rfl, rfl⟩ (fun _ => rfl)) (fun _ => rfl))))) (fun r14 => (bm_at [.kn w0 (C_Web.sl r14), .f u, .f v, .f there, .f here] (bm_retO (f := fun r => (r14, r)) em_bl (fun _ => rfl) (fun _ => (.s (.n (.n (.n (.n .nil))))))))))) (bm_at [.kn w0 (C_Web.sl web), .f u, .f v, .f there, .f here] (bm_dropS (es_end (esf_no (esf_no (esf_kn (i := 0) (esf_call (eg_of2 (eg2_own rfl (eg2_fz (em_var rfl) (eg2_fz (em_t2P (em_var rfl) (em_var rfl)) eg2_nil))) (.own rfl (.fz (.fz .nil)))) rfl ⟨w0, web, here, (u, v), rfl, rfl, rfl, rfl⟩ (fun _ => rfl)) (fun _ => rfl))))) (fun r15 => (bm_at [.kn w0 (C_Web.sl r15), .f u, .f v, .f there, .f here] (bm_dropS (es_end (esf_no (esf_no (esf_kn (i := 0) (esf_call (eg_of2 (eg2_own rfl (eg2_fz (em_var rfl) (eg2_fz (em_t2P (em_var rfl) (em_var rfl)) eg2_nil))) (.own rfl (.fz (.fz .nil)))) rfl ⟨w0, r15, there, (v, u), rfl, rfl, rfl, rfl⟩ (fun _ => rfl)) (fun _ => rfl))))) (fun r16 => (bm_at [.kn w0 (C_Web.sl r16), .f u, .f v, .f there, .f here] (bm_retO (f := fun r => (r16, r)) em_bl (fun _ => rfl) (fun _ => (.s (.n (.n (.n (.n .nil))))))))))))))))))))))))
theorem sc_helps : FnScope ["web", "u", "v", "here", "there"] ["web", "u", "v"] (defScope (top 7)) := ⟨rfl, rfl, rfl, by decide +kernel, rfl, by decide +kernel, by decide +kernel⟩
theorem ok_helps (T : Tx K mg) (C : He.SaysD fa fn K) (hg : mg "helps" = some (.ref (He.ga K "helps")))  : Fn P w K mg base 1 "helps" ["web", "u", "v"] (sp3 K m_helps) := by
  obtain ⟨fd, F⟩ := C.def_ 5 (d := d_helps) rfl
  have sc := sc_helps
  refine ⟨⟨fd, F.ok sc len_M (fun cdv A outer s H vs Q E hr h => ⟨_, PSs.nox
    (pss_cons (ps_set (i := 3) sc.nd rfl (Or.inl rfl) (pe_ix ix_list (pe_fldK (K := K) rfl (pv 0) rfl) (pv 1) (fun _ _ => rfl))) (pss_cons (ps_set (i := 4) sc.nd rfl (Or.inl rfl) (pe_ix ix_list (pe_fldK (K := K) rfl (pv 0) rfl) (pv 2) (fun _ _ => rfl))) (pss_one (ps_ret (pe_and (pe_cmpR op_ne (pv 3) (pv 4) (nomark _)) (pe_and (pe_cmpR op_eq (pe_ix ix_list (pe_fldK (K := K) rfl (pv 0) rfl) (pv 3) (fun _ _ => rfl)) pe_int (nomark _)) (pe_one (pe_cmpR op_ne (pe_ix ix_list (pe_fldK (K := K) rfl (pv 0) rfl) (pv 4) (fun _ _ => rfl)) pe_int (nomark _))))))))), fn3 (j := 2) rfl (fun web u v => ?_) vs H Q E h⟩), FunD.bindsN F fun _ _ _ _ _ _ us hl => match us, hl with | [_, _, _], _ => rfl, fn_look F⟩, F.kp, hg⟩
  unfold m_helps
  exact (bm_at [.f web, .f u, .f v, .no, .no] (bm_asg rfl (em_ixLP (el_of (fl_Web_outerP T (em_var rfl))) (em_var rfl)) (fun here => (bm_at [.f web, .f u, .f v, .f here, .no] (bm_asg rfl (em_ixLP (el_of (fl_Web_outerP T (em_var rfl))) (em_var rfl)) (fun there => (bm_at [.f web, .f u, .f v, .f here, .f there] (bm_ret (em_andV (em_neSP (em_var rfl) (em_var rfl)) (em_andV (em_eqS (em_ixLP (el_of (fl_Web_markP T (em_var rfl))) (em_var rfl)) em_int) (em_neS (em_ixLP (el_of (fl_Web_markP T (em_var rfl))) (em_var rfl)) em_int)))))))))))
def spo_Web__new (K : PySem.W.Frag) : Sp := spO (γ := C_Web) K 3 fun ss m rs G => ∃ (w0 : V) (size : Int) (price : Int), ss = [.kn w0 (.ob "Web" [] []), .f size, .f price] ∧ m = m_Web__new size price ∧ rs = (fun c => .fz .non) ∧ G = (fun c => [.kn w0 (C_Web.sl c), .no, .no])
theorem sc_Web__new : FnScope ["self", "size", "price", "k"] ["self", "size", "price"] (defScope (mtop 9 0)) := ⟨rfl, rfl, rfl, by decide +kernel, rfl, by decide +kernel, by decide +kernel⟩
theorem ok_Web__new (T : Tx K mg) (C : He.SaysD fa fn K)  : FnC P w K base mg 1 "Web" ["self", "size", "price"] (spo_Web__new K) := by
  obtain ⟨fd, F⟩ := C.def_ 6 (d := d_Web__new) rfl
  have sc := sc_Web__new
  refine ⟨⟨fd, F.ok sc len_O (fun cdv A outer s H vs Q E hr h => ⟨_, PSs.nox
    (pss_cons (ps_fld (pv 0) (pv 1) rfl) (pss_cons (ps_fld (pv 0) (pe_lc (own := [("k", 3)]) (g := gName 3) rfl sc.nd (pi_range1 rfl T.b_range (pa_cons (pv 1) pa_nil)) (blkOk_by (by rfl)) (fun _ _ _ _ _ => (pg_name (i := 3) sc.nd rfl (Or.inl rfl))) (fun _ _ _ _ _ => pts_nil) (fun _ _ _ _ _ => (pe_lst (pa_cons (pv 3) pa_nil)))) rfl) (pss_cons (ps_fld (pv 0) (pe_lc (own := [("k", 3)]) (g := gName 3) rfl sc.nd (pi_range1 rfl T.b_range (pa_cons (pv 1) pa_nil)) (blkOk_by (by rfl)) (fun _ _ _ _ _ => (pg_name (i := 3) sc.nd rfl (Or.inl rfl))) (fun _ _ _ _ _ => pts_nil) (fun _ _ _ _ _ => (pv 2))) rfl) (pss_cons (ps_fld (pv 0) (pe_lc (own := [("k", 3)]) (g := gName 3) rfl sc.nd (pi_range1 rfl T.b_range (pa_cons (pv 1) pa_nil)) (blkOk_by (by rfl)) (fun _ _ _ _ _ => (pg_name (i := 3) sc.nd rfl (Or.inl rfl))) (fun _ _ _ _ _ => pts_nil) (fun _ _ _ _ _ => (pe_lst pa_nil))) rfl) (pss_cons (ps_fld (pv 0) (pe_lc (own := [("k", 3)]) (g := gName 3) rfl sc.nd (pi_range1 rfl T.b_range (pa_cons (pv 1) pa_nil)) (blkOk_by (by rfl)) (fun _ _ _ _ _ => (pg_name (i := 3) sc.nd rfl (Or.inl rfl))) (fun _ _ _ _ _ => pts_nil) (fun _ _ _ _ _ => (pe_lst pa_nil))) rfl) (pss_cons (ps_fld (pv 0) (pe_lc (own := [("k", 3)]) (g := gName 3) rfl sc.nd (pi_range1 rfl T.b_range (pa_cons (pv 1) pa_nil)) (blkOk_by (by rfl)) (fun _ _ _ _ _ => (pg_name (i := 3) sc.nd rfl (Or.inl rfl))) (fun _ _ _ _ _ => pts_nil) (fun _ _ _ _ _ => pe_non)) rfl) (pss_cons (ps_fld (pv 0) (pe_lc (own := [("k", 3)]) (g := gName 3) rfl sc.nd (pi_range1 rfl T.b_range (pa_cons (pv 1) pa_nil)) (blkOk_by (by rfl)) (fun _ _ _ _ _ => (pg_name (i := 3) sc.nd rfl (Or.inl rfl))) (fun _ _ _ _ _ => pts_nil) (fun _ _ _ _ _ => pe_int)) rfl) (pss_cons (ps_fld (pv 0) (pe_lc (own := [("k", 3)]) (g := gName 3) rfl sc.nd (pi_range1 rfl T.b_range (pa_cons (pv 1) pa_nil)) (blkOk_by (by rfl)) (fun _ _ _ _ _ => (pg_name (i := 3) sc.nd rfl (Or.inl rfl))) (fun _ _ _ _ _ => pts_nil) (fun _ _ _ _ _ => pe_non)) rfl) (pss_cons (ps_fld (pv 0) (pe_listRg rfl rfl T.b_list (prg_1 rfl T.b_range (pv 1))) rfl) pss_nil))))))))), fn_OU (n := 3) (j := 1) rfl (fun ss m rs G _ p => ?_) vs H Q E h⟩), FunD.bindsN F fun _ _ _ _ _ _ us hl => match us, hl with | [_, _, _], _ => rfl⟩, T.mk_Web, T.g_Web⟩
  obtain ⟨w0, size, price, e1, e2, e3, e4⟩ := p
  subst e1; subst e3; subst e4; rw [e2]
  refine ⟨fun c => (keeps_kn (keeps_no (keeps_no keeps_nil))), fun c => rfl, ?_⟩
  unfold m_Web__new
  exact (bm_at [.kn w0 (.ob "Web" [] []), .f size, .f price, .no] (bm_fldN (i := 0) rfl xn_Web_size (by decide) T.cls_Web T.at_Web_size (ew_m (em_var rfl)) (fun size_1 => (bm_at [.kn w0 (.ob "Web" ["size"] [.f size_1]), .f size, .f price, .no] (bm_fldN (i := 0) rfl xn_Web_inside (by decide) T.cls_Web T.at_Web_inside (ew_n (en_lc (ei_rng1P (em_var rfl)) (fun _ => tg_name rfl) (tw_name (by decide)) (fun _ => et_yes) (fun k => (em_of (en_lstP (by simp) (eh_consP (em_var rfl) eh_nil)))))) (fun inside => (bm_at [.kn w0 (.ob "Web" ["size", "inside"] [.f size_1, .o inside]), .f size, .f price, .no] (bm_fldN (i := 0) rfl xn_Web_price (by decide) T.cls_Web T.at_Web_price (ew_n (en_lc (ei_rng1P (em_var rfl)) (fun _ => tg_name rfl) (tw_name (by decide)) (fun _ => et_yes) (fun k_1 => (em_var rfl)))) (fun price_1 => (bm_at [.kn w0 (.ob "Web" ["size", "inside", "price"] [.f size_1, .o inside, .o price_1]), .f size, .f price, .no] (bm_fldN (i := 0) rfl xn_Web_ring (by decide) T.cls_Web T.at_Web_ring (ew_n (en_lc (ei_rng1P (em_var rfl)) (fun _ => tg_name rfl) (tw_name (by decide)) (fun _ => et_yes) (fun k_2 => (em_of en_nil)))) (fun ring => (bm_at [.kn w0 (.ob "Web" ["size", "inside", "price", "ring"] [.f size_1, .o inside, .o price_1, .o ring]), .f size, .f price, .no] (bm_fldN (i := 0) rfl xn_Web_joints (by decide) T.cls_Web T.at_Web_joints (ew_n (en_lc (ei_rng1P (em_var rfl)) (fun _ => tg_name rfl) (tw_name (by decide)) (fun _ => et_yes) (fun k_3 => (em_of en_nil)))) (fun joints => (bm_at [.kn w0 (.ob "Web" ["size", "inside", "price", "ring", "joints"] [.f size_1, .o inside, .o price_1, .o ring, .o joints]), .f size, .f price, .no] (bm_fldN (i := 0) rfl xn_Web_tie (by decide) T.cls_Web T.at_Web_tie (ew_n (en_lc (ei_rng1P (em_var rfl)) (fun _ => tg_name rfl) (tw_name (by decide)) (fun _ => et_yes) (fun k_4 => em_non))) (fun tie => (bm_at [.kn w0 (.ob "Web" ["size", "inside", "price", "ring", "joints", "tie"] [.f size_1, .o inside, .o price_1, .o ring, .o joints, .o tie]), .f size, .f price, .no] (bm_fldN (i := 0) rfl xn_Web_mark (by decide) T.cls_Web T.at_Web_mark (ew_n (en_lc (ei_rng1P (em_var rfl)) (fun _ => tg_name rfl) (tw_name (by decide)) (fun _ => et_yes) (fun k_5 => em_int))) (fun mark => (bm_at [.kn w0 (.ob "Web" ["size", "inside", "price", "ring", "joints", "tie", "mark"] [.f size_1, .o inside, .o price_1, .o ring, .o joints, .o tie, .o mark]), .f size, .f price, .no] (bm_fldN (i := 0) rfl xn_Web_way (by decide) T.cls_Web T.at_Web_way (ew_n (en_lc (ei_rng1P (em_var rfl)) (fun _ => tg_name rfl) (tw_name (by decide)) (fun _ => et_yes) (fun k_6 => em_non))) (fun way => (bm_at [.kn w0 (.ob "Web" ["size", "inside", "price", "ring", "joints", "tie", "mark", "way"] [.f size_1, .o inside, .o price_1, .o ring, .o joints, .o tie, .o mark, .o way]), .f size, .f price, .no] (bm_fldN (i := 0) rfl xn_Web_outer (by decide) T.cls_Web T.at_Web_outer (ew_n (en_lrgP (em_var rfl))) (fun outer => (bm_endOU (.s (.n (.n (.s .nil))))))))))))))))))))))))))))))))
theorem sc_Web__outermost : FnScope ["self", "seen", "body"] ["self"] (defScope (mtop 9 1)) := ⟨rfl, rfl, rfl, by decide +kernel, rfl, by decide +kernel, by decide +kernel⟩
theorem ok_Web__outermost (T : Tx K mg) (C : He.SaysD fa fn K)  : FnM P w K base mg 1 "Web" "outermost" ["self"] (spw1 K m_Web__outermost (fun c => .o c)) := by
  obtain ⟨fd, F⟩ := C.def_ 7 (d := d_Web__outermost) rfl
  have sc := sc_Web__outermost
  refine ⟨⟨fd, F.ok sc len_W (fun cdv A outer s H vs Q E hr h => ⟨_, PSs.nox
    (pss_cons (ps_set (i := 1) sc.nd rfl (Or.inl rfl) pe_dnewK) (pss_cons (ps_for PassesOwn.never rfl (pi_list (pe_fldK (K := K) rfl (pv 0) rfl)) (pg_name (i := 2) sc.nd rfl (Or.inl rfl)) (pss_cons (ps_dput (hu_of hr) (pv 1) (pv 2) pe_bl rfl) pss_nil)) (pss_one (ps_ret (pe_callTy (call_list_dK rfl) (by rfl) T.b_list bt_list (pa_cons (pv 1) pa_nil)))))), fw1 (j := 2) rfl (fun self => ?_) vs H Q E h⟩), FunD.bindsN F fun _ _ _ _ _ _ us hl => match us, hl with | [_], _ => rfl⟩, T.cls_Web, T.mt_Web__outermost⟩
  unfold m_Web__outermost
  exact (bm_at [.f self, .no, .no] (bm_asgD rfl (bm_at [.f self, .od (Dk.mk ([] : List (Key × Bool))), .no] (bm_forP (S := (Dk Bool)) (G := (fun (s1 : (Dk Bool)) => [.no, .od s1, .no])) (s0 := (Dk.mk ([] : List (Key × Bool)))) (ei_list (fl_Web_outerP T (em_var rfl))) (.n (.s (.s .nil))) (fun _ _ => tg_name rfl) (fun s1 body => (bm_at [.no, .od s1, .f body] (bm_dputP (pd_var rfl) em_bl (em_var rfl) (fun seen => (bm_nxC (.s (.s (.n .nil)))))))) (fun s1 => (bm_at [.no, .od s1, .no] (bm_retW (ew_n (en_keysIP (ed_pd (pd_var rfl)))) (fun _ => (.s (.n (.s .nil)))))))))))
theorem sc_Web__is_ring : FnScope ["self", "body"] ["self", "body"] (defScope (mtop 9 2)) := ⟨rfl, rfl, rfl, by decide +kernel, rfl, by decide +kernel, by decide +kernel⟩
theorem ok_Web__is_ring (T : Tx K mg) (C : He.SaysD fa fn K)  : FnM P w K base mg 1 "Web" "is_ring" ["self", "body"] (sp2 K m_Web__is_ring) := by
  obtain ⟨fd, F⟩ := C.def_ 8 (d := d_Web__is_ring) rfl
  have sc := sc_Web__is_ring
  refine ⟨⟨fd, F.ok sc len_M (fun cdv A outer s H vs Q E hr h => ⟨_, PSs.nox
    (pss_one (ps_ret (pe_cmpR (op_neD hr.units) (pe_ix ix_list (pe_fldK (K := K) rfl (pv 0) rfl) (pv 1) (fun _ _ => rfl)) (pe_lst pa_nil) (nomark _)))), fn2 (j := 0) rfl (fun self body => ?_) vs H Q E h⟩), FunD.bindsN F fun _ _ _ _ _ _ us hl => match us, hl with | [_, _], _ => rfl⟩, T.cls_Web, T.mt_Web__is_ring⟩
  unfold m_Web__is_ring
  exact (bm_at [.f self, .f body] (bm_ret (em_neL (by decide) (el_of (em_ixLP (el_of (fl_Web_ringP T (em_var rfl))) (em_var rfl))) (el_n en_nil))))
def spo_Web__begin (K : PySem.W.Frag) : Sp := spO (γ := C_Web) K 1 fun ss m rs G => ∃ (w0 : V) (self : C_Web), ss = [.kn w0 (C_Web.sl self)] ∧ m = m_Web__begin self ∧ rs = (fun c => .fz .non) ∧ G = (fun c => [.kn w0 (C_Web.sl c)])
theorem sc_Web__begin : FnScope ["self", "body"] ["self"] (defScope (mtop 9 4)) := ⟨rfl, rfl, rfl, by decide +kernel, rfl, by decide +kernel, by decide +kernel⟩
theorem ok_Web__begin (T : Tx K mg) (C : He.SaysD fa fn K) (F_Web__outermost : FnM P w K base mg 1 "Web" "outermost" ["self"] (spw1 K m_Web__outermost (fun c => .o c))) : FnM P w K base mg 2 "Web" "begin" ["self"] (spo_Web__begin K) := by
  obtain ⟨fd, F⟩ := C.def_ 9 (d := d_Web__begin) rfl
  have sc := sc_Web__begin
  refine ⟨⟨fd, F.ok sc len_O (fun cdv A outer s H vs Q E hr h => ⟨_, PSs.nox
    (pss_cons (ps_for PassesOwn.never rfl (pi_list (pe_m0K (K := K) rfl (pv 0) F_Web__outermost (hr.mono (by decide)))) (pg_name (i := 1) sc.nd rfl (Or.inl rfl)) (pss_cons (ps_asg pe_non (pg_sub (pe_fldK (K := K) rfl (pv 0) rfl) (pv 1) set_list)) (pss_cons (ps_asg pe_int (pg_sub (pe_fldK (K := K) rfl (pv 0) rfl) (pv 1) set_list)) (pss_cons (ps_if (pt_cmp (pc_isN (pe_ix ix_list (pe_fldK (K := K) rfl (pv 0) rfl) (pv 1) (fun _ _ => rfl)))) (pss_cons (ps_asg pe_int (pg_sub (pe_fldK (K := K) rfl (pv 0) rfl) (pv 1) set_list)) pss_nil) pss_nil) pss_nil)))) pss_nil), fn_OU (n := 1) (j := 1) rfl (fun ss m rs G _ p => ?_) vs H Q E h⟩), FunD.bindsN F fun _ _ _ _ _ _ us hl => match us, hl with | [_], _ => rfl⟩, T.cls_Web, T.mt_Web__begin⟩
  obtain ⟨w0, self, e1, e2, e3, e4⟩ := p
  subst e1; subst e3; subst e4; rw [e2]
  refine ⟨fun c => (keeps_kn keeps_nil), fun c => rfl, ?_⟩
  unfold m_Web__begin
  exact (bm_at [.kn w0 (C_Web.sl self), .no] (bm_for (S := C_Web) (G := (fun (s1 : C_Web) => [.kn w0 (C_Web.sl s1), .no])) (s0 := self) (ei_list (em_of (en_borrowI (i := 0) rfl (toD_kn (C_Web.toD self)) (C_Web.noT self) (en_w (ew_meth (i := 0) rfl ob_fz xm_Web__outermost (ew_c1P (em_var rfl))))))) (.s (.s .nil)) (fun _ _ => tg_name rfl) (fun s1 body => (bm_at [.kn w0 (C_Web.sl s1), .f body] (bm_setLP (pl_pt (pt_Web_way T (pt_varK (i := 0) rfl (fun h => by cases h)) rfl rfl)) em_non (em_var rfl) (fun way => (bm_at [.kn w0 (.ob "Web" xs_Web [.f s1.size, .o s1.inside, .o s1.price, .o s1.ring, .o s1.joints, .o s1.tie, .o s1.mark, .o way, .o s1.outer]), .f body] (bm_setLP (pl_pt (pt_Web_mark T (pt_varK (i := 0) rfl (fun h => by cases h)) rfl rfl)) em_int (em_var rfl) (fun mark => (bm_at [.kn w0 (.ob "Web" xs_Web [.f s1.size, .o s1.inside, .o s1.price, .o s1.ring, .o s1.joints, .o s1.tie, .o mark, .o way, .o s1.outer]), .f body] (bm_if (G := (fun (s3 : C_Web) => [.kn w0 (C_Web.sl s3), .no])) (et_B (em_isN (em_ixLP (el_pt (pt_Web_tie T (pt_varK (i := 0) rfl (fun h => by cases h)) rfl rfl)) (em_var rfl)))) (bm_at [.kn w0 (.ob "Web" xs_Web [.f s1.size, .o s1.inside, .o s1.price, .o s1.ring, .o s1.joints, .o s1.tie, .o mark, .o way, .o s1.outer]), .f body] (bm_setLP (pl_pt (pt_Web_mark T (pt_varK (i := 0) rfl (fun h => by cases h)) rfl rfl)) em_int (em_var rfl) (fun mark_1 => (bm_nx (.s (.n .nil)))))) (bm_nx (.s (.n .nil))) (fun s3 => (bm_nxC (.s (.s .nil))))))))))))) (fun s1 => (bm_endOU (.s (.s .nil))))))
theorem sc_Web__spot : FnScope ["self", "ring", "place", "k"] ["self", "ring", "place"] (defScope (mtop 9 6)) := ⟨rfl, rfl, rfl, by decide +kernel, rfl, by decide +kernel, by decide +kernel⟩
theorem ok_Web__spot (T : Tx K mg) (C : He.SaysD fa fn K)  : FnM P w K base mg 1 "Web" "spot" ["self", "ring", "place"] (sp3 K m_Web__spot) := by
  obtain ⟨fd, F⟩ := C.def_ 11 (d := d_Web__spot) rfl
  have sc := sc_Web__spot
  refine ⟨⟨fd, F.ok sc len_M (fun cdv A outer s H vs Q E hr h => ⟨_, PSs.nox
    (pss_cons (ps_set (i := 3) sc.nd rfl (Or.inl rfl) pe_int) (pss_cons (ps_while PassesOwn.never (pt_cmpR op_notIn_seq (pv 2) (pe_ix ix_list (pe_fldK (K := K) rfl (pv 0) rfl) (pe_ix ix_list (pv 1) (pv 3) (fun _ _ => rfl)) (fun _ _ => rfl)) (by rfl)) (pss_cons (ps_aug (i := 3) sc.nd rfl (Or.inl rfl) pe_int ip_add) pss_nil)) (pss_one (ps_ret (pv 3))))), fn3 (j := 1) rfl (fun self ring place => ?_) vs H Q E h⟩), FunD.bindsN F fun _ _ _ _ _ _ us hl => match us, hl with | [_, _, _], _ => rfl⟩, T.cls_Web, T.mt_Web__spot⟩
  unfold m_Web__spot
  exact (bm_at [.f self, .f ring, .f place, .no] (bm_asgP rfl em_int (bm_at [.f self, .f ring, .f place, .f (0 : Int)] (bm_while (S := Int) (G := (fun (s1 : Int) => [.f self, .f ring, .f place, .f s1])) (s0 := (0 : Int)) (.s (.s (.s (.s .nil)))) (fun s1 => (et_test (em_ninS (em_var rfl) (el_of (em_ixL (el_of (fl_Web_insideP T (em_var rfl))) (em_ixLP (el_of (em_var rfl)) (em_var rfl))))))) (fun s1 => (bm_at [.f self, .f ring, .f place, .f s1] (bm_augP rfl em_int (bm_nxC (.s (.s (.s (.s .nil)))))))) (fun s1 => (bm_at [.f self, .f ring, .f place, .f s1] (bm_ret (em_var rfl))))))))
def spo_Web__take_apart (K : PySem.W.Frag) : Sp := spO (γ := C_Web) K 2 fun ss m rs G => ∃ (w0 : V) (self : C_Web) (body : Int), ss = [.kn w0 (C_Web.sl self), .f body] ∧ m = m_Web__take_apart self body ∧ rs = (fun c => .fz .non) ∧ G = (fun c => [.kn w0 (C_Web.sl c), .no])
theorem sc_Web__take_apart : FnScope ["self", "body", "ring", "joints", "at", "step", "k", "part", "place"] ["self", "body"] (defScope (mtop 9 7)) := ⟨rfl, rfl, rfl, by decide +kernel, rfl, by decide +kernel, by decide +kernel⟩
theorem ok_Web__take_apart (T : Tx K mg) (C : He.SaysD fa fn K) (F_Web__spot : FnM P w K base mg 1 "Web" "spot" ["self", "ring", "place"] (sp3 K m_Web__spot)) : FnM P w K base mg 2 "Web" "take_apart" ["self", "body"] (spo_Web__take_apart K) := by
  obtain ⟨fd, F⟩ := C.def_ 12 (d := d_Web__take_apart) rfl
  have sc := sc_Web__take_apart
  refine ⟨⟨fd, F.ok sc len_O (fun cdv A outer s H vs Q E hr h => ⟨_, PSs.nox
    (pss_cons (ps_set (i := 2) sc.nd rfl (Or.inl rfl) (pe_ix ix_list (pe_fldK (K := K) rfl (pv 0) rfl) (pv 1) (fun _ _ => rfl))) (pss_cons (ps_set (i := 3) sc.nd rfl (Or.inl rfl) (pe_ix ix_list (pe_fldK (K := K) rfl (pv 0) rfl) (pv 1) (fun _ _ => rfl))) (pss_cons (ps_set (i := 4) sc.nd rfl (Or.inl rfl) pe_int) (pss_cons (ps_if (pt_cmp (pc_notN (pe_ix ix_list (pe_fldK (K := K) rfl (pv 0) rfl) (pv 1) (fun _ _ => rfl)))) (pss_cons (ps_set (i := 4) sc.nd rfl (Or.inl rfl) (pe_mK (K := K) rfl (pv 0) F_Web__spot (hr.mono (by decide)) (pa_cons (pv 2) (pa_cons (pe_ix ix_tup (pe_ix ix_list (pe_fldK (K := K) rfl (pv 0) rfl) (pv 1) (fun _ _ => rfl)) pe_int (fun _ _ => rfl)) pa_nil)))) pss_nil) pss_nil) (pss_cons (ps_asg (pe_ix ix_list (pe_fldK (K := K) rfl (pv 0) rfl) (pv 1) (fun _ _ => rfl)) (pg_sub (pe_fldK (K := K) rfl (pv 0) rfl) (pe_ix ix_list (pv 2) (pv 4) (fun _ _ => rfl)) set_list)) (pss_cons (ps_for PassesOwn.never rfl (pi_range3 rfl T.b_range (pa_cons pe_int (pa_cons (pe_callB call_lenS (by rfl) T.b_len bt_len (pa_cons (pv 2) pa_nil)) (pa_cons pe_int pa_nil)))) (pg_name (i := 5) sc.nd rfl (Or.inl rfl)) (pss_cons (ps_set (i := 6) sc.nd rfl (Or.inl rfl) (pe_op op_mod (pe_op op_add (pv 4) (pv 5)) (pe_callB call_lenS (by rfl) T.b_len bt_len (pa_cons (pv 2) pa_nil)))) (pss_cons (ps_asg (pe_ix ix_list (pv 3) (pv 6) (fun _ _ => rfl)) (pg_sub (pe_fldK (K := K) rfl (pv 0) rfl) (pe_ix ix_list (pv 2) (pv 6) (fun _ _ => rfl)) set_list)) (pss_cons (ps_asg (pe_tup (pa_cons (pe_ix ix_tup (pe_ix ix_list (pv 3) (pv 6) (fun _ _ => rfl)) pe_int (fun _ _ => rfl)) (pa_cons (pe_ix ix_tup (pe_ix ix_list (pv 3) (pv 6) (fun _ _ => rfl)) pe_int (fun _ _ => rfl)) pa_nil))) (pg_sub (pe_fldK (K := K) rfl (pv 0) rfl) (pe_ix ix_list (pv 2) (pe_op op_mod (pe_op op_add (pv 6) pe_int) (pe_callB call_lenS (by rfl) T.b_len bt_len (pa_cons (pv 2) pa_nil))) (fun _ _ => rfl)) set_list)) pss_nil)))) (pss_cons (ps_for PassesOwn.never rfl (pi_list (pv 2)) (pg_name (i := 7) sc.nd rfl (Or.inl rfl)) (pss_cons (ps_asg pe_int (pg_sub (pe_fldK (K := K) rfl (pv 0) rfl) (pv 7) set_list)) (pss_cons (ps_asg pe_non (pg_sub (pe_fldK (K := K) rfl (pv 0) rfl) (pv 7) set_list)) (pss_cons (ps_for PassesOwn.never rfl (pi_list (pe_ix ix_list (pe_fldK (K := K) rfl (pv 0) rfl) (pv 7) (fun _ _ => rfl))) (pg_name (i := 8) sc.nd rfl (Or.inl rfl)) (pss_cons (ps_asg (pv 7) (pg_sub (pe_fldK (K := K) rfl (pv 0) rfl) (pv 8) set_list)) pss_nil)) pss_nil)))) (pss_cons (ps_asg (pe_lst pa_nil) (pg_sub (pe_fldK (K := K) rfl (pv 0) rfl) (pv 1) set_list)) (pss_cons (ps_asg (pe_lst pa_nil) (pg_sub (pe_fldK (K := K) rfl (pv 0) rfl) (pv 1) set_list)) (pss_cons (ps_asg (pe_lst pa_nil) (pg_sub (pe_fldK (K := K) rfl (pv 0) rfl) (pv 1) set_list)) (pss_cons (ps_asg pe_int (pg_sub (pe_fldK (K := K) rfl (pv 0) rfl) (pv 1) set_list)) pss_nil))))))))))), fn_OU (n := 2) (j := 7) rfl (fun ss m rs G _ p => ?_) vs H Q E h⟩), FunD.bindsN F fun _ _ _ _ _ _ us hl => match us, hl with | [_, _], _ => rfl⟩, T.cls_Web, T.mt_Web__take_apart⟩
  obtain ⟨w0, self, body, e1, e2, e3, e4⟩ := p
  subst e1; subst e3; subst e4; rw [e2]
  refine ⟨fun c => (keeps_kn (keeps_no keeps_nil)), fun c => rfl, ?_⟩
  unfold m_Web__take_apart
  exact (bm_at [.kn w0 (C_Web.sl self), .f body, .no, .no, .no, .no, .no, .no, .no] (bm_asg rfl (em_ixLP (el_pt (pt_Web_ring T (pt_varK (i := 0) rfl (fun h => by cases h)) rfl rfl)) (em_var rfl)) (fun ring => (bm_at [.kn w0 (C_Web.sl self), .f body, .f ring, .no, .no, .no, .no, .no, .no] (bm_asg rfl (em_ixLP (el_pt (pt_Web_joints T (pt_varK (i := 0) rfl (fun h => by cases h)) rfl rfl)) (em_var rfl)) (fun joints => (bm_at [.kn w0 (C_Web.sl self), .f body, .f ring, .f joints, .no, .no, .no, .no, .no] (bm_asgP rfl em_int (bm_at [.kn w0 (C_Web.sl self), .f body, .f ring, .f joints, .f (0 : Int), .no, .no, .no, .no] (bm_if (G := (fun (s2 : Int) => [.kn w0 (C_Web.sl self), .f body, .f ring, .f joints, .f s2, .no, .no, .no, .no])) (et_B (em_notN (em_ixLP (el_pt (pt_Web_tie T (pt_varK (i := 0) rfl (fun h => by cases h)) rfl rfl)) (em_var rfl)))) (bm_at [.kn w0 (C_Web.sl self), .f body, .f ring, .f joints, .f (0 : Int), .no, .no, .no, .no] (bm_asg rfl (em_borrowI (i := 0) rfl (toD_kn (C_Web.toD self)) (C_Web.noT self) (em_meth (i := 0) rfl ob_fz xm_Web__spot (em_c3 (em_var rfl) (em_var rfl) (em_fst (em_join (em_ixLP (el_of (fl_Web_tieP T (em_var rfl))) (em_var rfl))))))) (fun at_ => (bm_nx (.s (.s (.s (.s (.s (.s (.s (.s (.s .nil))))))))))))) (bm_nx (.s (.s (.s (.s (.s (.s (.s (.s (.s .nil)))))))))) (fun s2 => (bm_at [.kn w0 (C_Web.sl self), .f body, .f ring, .f joints, .f s2, .no, .no, .no, .no] (bm_setL (pl_pt (pt_Web_tie T (pt_varK (i := 0) rfl (fun h => by cases h)) rfl rfl)) (em_ixLP (el_pt (pt_Web_tie T (pt_varK (i := 0) rfl (fun h => by cases h)) rfl rfl)) (em_var rfl)) (em_ixLP (el_of (em_var rfl)) (em_var rfl)) (fun tie => (bm_at [.kn w0 (.ob "Web" xs_Web [.f self.size, .o self.inside, .o self.price, .o self.ring, .o self.joints, .o tie, .o self.mark, .o self.way, .o self.outer]), .f body, .f ring, .f joints, .f s2, .no, .no, .no, .no] (bm_for (S := C_Web) (G := (fun (s7 : C_Web) => [.kn w0 (C_Web.sl s7), .f body, .f ring, .f joints, .f s2, .no, .no, .no, .no])) (s0 := (C_Web.mk self.size self.inside self.price self.ring self.joints tie self.mark self.way self.outer)) (ei_rng3P em_int (em_lenP (el_of (em_var rfl))) em_int) (.s (.s (.s (.s (.s (.s (.s (.s (.s .nil))))))))) (fun _ _ => tg_name rfl) (fun s7 step => (bm_at [.kn w0 (C_Web.sl s7), .f body, .f ring, .f joints, .f s2, .f step, .no, .no, .no] (bm_asg rfl (em_modP (em_addP (em_var rfl) (em_var rfl)) (em_lenP (el_of (em_var rfl)))) (fun k => (bm_at [.kn w0 (C_Web.sl s7), .f body, .f ring, .f joints, .f s2, .f step, .f k, .no, .no] (bm_setL (pl_pt (pt_Web_tie T (pt_varK (i := 0) rfl (fun h => by cases h)) rfl rfl)) (em_up (em_ixLP (el_of (em_var rfl)) (em_var rfl))) (em_ixLP (el_of (em_var rfl)) (em_var rfl)) (fun tie_1 => (bm_at [.kn w0 (.ob "Web" xs_Web [.f s7.size, .o s7.inside, .o s7.price, .o s7.ring, .o s7.joints, .o tie_1, .o s7.mark, .o s7.way, .o s7.outer]), .f body, .f ring, .f joints, .f s2, .f step, .f k, .no, .no] (bm_setL (pl_pt (pt_Web_tie T (pt_varK (i := 0) rfl (fun h => by cases h)) rfl rfl)) (em_up (em_t2 (em_snd (em_ixLP (el_of (em_var rfl)) (em_var rfl))) (em_fst (em_ixLP (el_of (em_var rfl)) (em_var rfl))))) (em_ixL (el_of (em_var rfl)) (em_modP (em_addP (em_var rfl) em_int) (em_lenP (el_of (em_var rfl))))) (fun tie_2 => (bm_nxC (.s (.s (.s (.s (.s (.n (.n (.s (.s .nil)))))))))))))))))))) (fun s7 => (bm_at [.kn w0 (C_Web.sl s7), .f body, .f ring, .f joints, .f s2, .no, .no, .no, .no] (bm_forP (S := C_Web) (G := (fun (s18 : C_Web) => [.kn w0 (C_Web.sl s18), .f body, .no, .no, .no, .no, .no, .no, .no])) (s0 := s7) (ei_list (em_var rfl)) (.s (.s (.n (.n (.n (.s (.s (.s (.s .nil))))))))) (fun _ _ => tg_name rfl) (fun s18 part => (bm_at [.kn w0 (C_Web.sl s18), .f body, .no, .no, .no, .no, .no, .f part, .no] (bm_setLP (pl_pt (pt_Web_mark T (pt_varK (i := 0) rfl (fun h => by cases h)) rfl rfl)) em_int (em_var rfl) (fun mark => (bm_at [.kn w0 (.ob "Web" xs_Web [.f s18.size, .o s18.inside, .o s18.price, .o s18.ring, .o s18.joints, .o s18.tie, .o mark, .o s18.way, .o s18.outer]), .f body, .no, .no, .no, .no, .no, .f part, .no] (bm_setLP (pl_pt (pt_Web_way T (pt_varK (i := 0) rfl (fun h => by cases h)) rfl rfl)) em_non (em_var rfl) (fun way => (bm_at [.kn w0 (.ob "Web" xs_Web [.f s18.size, .o s18.inside, .o s18.price, .o s18.ring, .o s18.joints, .o s18.tie, .o mark, .o way, .o s18.outer]), .f body, .no, .no, .no, .no, .no, .f part, .no] (bm_for (S := C_Web) (G := (fun (s19 : C_Web) => [.kn w0 (C_Web.sl s19), .f body, .no, .no, .no, .no, .no, .f part, .no])) (s0 := (C_Web.mk s18.size s18.inside s18.price s18.ring s18.joints s18.tie mark way s18.outer)) (ei_list (em_ixLP (el_pt (pt_Web_inside T (pt_varK (i := 0) rfl (fun h => by cases h)) rfl rfl)) (em_var rfl))) (.s (.s (.s (.s (.s (.s (.s (.s (.s .nil))))))))) (fun _ _ => tg_name rfl) (fun s19 place => (bm_at [.kn w0 (C_Web.sl s19), .f body, .no, .no, .no, .no, .no, .f part, .f place] (bm_setLP (pl_pt (pt_Web_outer T (pt_varK (i := 0) rfl (fun h => by cases h)) rfl rfl)) (em_var rfl) (em_var rfl) (fun outer => (bm_nxC (.s (.s (.s (.s (.s (.s (.s (.s (.n .nil)))))))))))))) (fun s19 => (bm_nxC (.s (.s (.s (.s (.s (.s (.s (.n (.s .nil)))))))))))))))))))) (fun s18 => (bm_at [.kn w0 (C_Web.sl s18), .f body, .no, .no, .no, .no, .no, .no, .no] (bm_setLP (pl_pt (pt_Web_inside T (pt_varK (i := 0) rfl (fun h => by cases h)) rfl rfl)) (em_of en_nil) (em_var rfl) (fun inside => (bm_at [.kn w0 (.ob "Web" xs_Web [.f s18.size, .o inside, .o s18.price, .o s18.ring, .o s18.joints, .o s18.tie, .o s18.mark, .o s18.way, .o s18.outer]), .f body, .no, .no, .no, .no, .no, .no, .no] (bm_setLP (pl_pt (pt_Web_ring T (pt_varK (i := 0) rfl (fun h => by cases h)) rfl rfl)) (em_of en_nil) (em_var rfl) (fun ring_1 => (bm_at [.kn w0 (.ob "Web" xs_Web [.f s18.size, .o inside, .o s18.price, .o ring_1, .o s18.joints, .o s18.tie, .o s18.mark, .o s18.way, .o s18.outer]), .f body, .no, .no, .no, .no, .no, .no, .no] (bm_setLP (pl_pt (pt_Web_joints T (pt_varK (i := 0) rfl (fun h => by cases h)) rfl rfl)) (em_of en_nil) (em_var rfl) (fun joints_1 => (bm_at [.kn w0 (.ob "Web" xs_Web [.f s18.size, .o inside, .o s18.price, .o ring_1, .o joints_1, .o s18.tie, .o s18.mark, .o s18.way, .o s18.outer]), .f body, .no, .no, .no, .no, .no, .no, .no] (bm_setLP (pl_pt (pt_Web_price T (pt_varK (i := 0) rfl (fun h => by cases h)) rfl rfl)) em_int (em_var rfl) (fun price => (bm_endOU (.s (.n (.s (.s (.s (.s (.s (.s (.s .nil))))))))))))))))))))))))))))))))))))))))))
def spo_Web__loosen (K : PySem.W.Frag) : Sp := spO (γ := C_Web) K 2 fun ss m rs G => ∃ (w0 : V) (self : C_Web) (all_of_them : Bool), ss = [.kn w0 (C_Web.sl self), .f all_of_them] ∧ m = m_Web__loosen self all_of_them ∧ rs = (fun c => .fz .non) ∧ G = (fun c => [.kn w0 (C_Web.sl c), .no])
theorem sc_Web__loosen : FnScope ["self", "all_of_them", "todo", "body"] ["self", "all_of_them"] (defScope (mtop 9 8)) := ⟨rfl, rfl, rfl, by decide +kernel, rfl, by decide +kernel, by decide +kernel⟩
theorem ok_Web__loosen (T : Tx K mg) (C : He.SaysD fa fn K) (F_Web__is_ring : FnM P w K base mg 1 "Web" "is_ring" ["self", "body"] (sp2 K m_Web__is_ring)) (F_Web__outermost : FnM P w K base mg 1 "Web" "outermost" ["self"] (spw1 K m_Web__outermost (fun c => .o c))) (F_Web__take_apart : FnM P w K base mg 2 "Web" "take_apart" ["self", "body"] (spo_Web__take_apart K)) : FnM P w K base mg 3 "Web" "loosen" ["self", "all_of_them"] (spo_Web__loosen K) := by
  obtain ⟨fd, F⟩ := C.def_ 13 (d := d_Web__loosen) rfl
  have sc := sc_Web__loosen
  refine ⟨⟨fd, F.ok sc len_O (fun cdv A outer s H vs Q E hr h => ⟨_, PSs.nox
    (pss_cons (ps_set (i := 2) sc.nd rfl (Or.inl rfl) (pe_m0K (K := K) rfl (pv 0) F_Web__outermost (hr.mono (by decide)))) (pss_cons (ps_while PassesOwn.never (pt_cmpR (op_neD hr.units) (pv 2) (pe_lst pa_nil) (nomark _)) (pss_cons (ps_set (i := 3) sc.nd rfl (Or.inl rfl) (pe_bm0 PySem.F.plainAttrs_list PySem.F.slot_list_pop PySem.F.type_list_pop mt_pop (pv 2))) (pss_cons (ps_if (PW.pt (pw_and (pt_val (pe_mK (K := K) rfl (pv 0) F_Web__is_ring (hr.mono (by decide)) (pa_cons (pv 3) pa_nil))) (pw_and1 (PW.pt (pw_or (pt_val (pv 1)) (pw_or1 (pt_cmpR op_eq (pe_ix ix_list (pe_fldK (K := K) rfl (pv 0) rfl) (pv 3) (fun _ _ => rfl)) pe_int (nomark _)))))))) (pss_cons (ps_expr (pe_bm PySem.F.plainAttrs_list PySem.F.slot_list_extend PySem.F.type_list_extend mt_extend (pv 2) (pa_cons (pe_ix ix_list (pe_fldK (K := K) rfl (pv 0) rfl) (pv 3) (fun _ _ => rfl)) pa_nil))) (pss_cons (ps_expr (pe_mK (K := K) rfl (pv 0) F_Web__take_apart (hr.mono (by decide)) (pa_cons (pv 3) pa_nil))) pss_nil)) pss_nil) pss_nil))) pss_nil)), fn_OU (n := 2) (j := 2) rfl (fun ss m rs G _ p => ?_) vs H Q E h⟩), FunD.bindsN F fun _ _ _ _ _ _ us hl => match us, hl with | [_, _], _ => rfl⟩, T.cls_Web, T.mt_Web__loosen⟩
  obtain ⟨w0, self, all_of_them, e1, e2, e3, e4⟩ := p
  subst e1; subst e3; subst e4; rw [e2]
  refine ⟨fun c => (keeps_kn (keeps_no keeps_nil)), fun c => rfl, ?_⟩
  unfold m_Web__loosen
  exact (bm_at [.kn w0 (C_Web.sl self), .f all_of_them, .no, .no] (bm_asgN rfl (en_borrowI (i := 0) rfl (toD_kn (C_Web.toD self)) (C_Web.noT self) (en_w (ew_meth (i := 0) rfl ob_fz xm_Web__outermost (ew_c1P (em_var rfl))))) (fun todo => (bm_at [.kn w0 (C_Web.sl self), .f all_of_them, .o todo, .no] (bm_while (S := ((List Int) × C_Web)) (G := (fun (s1 : ((List Int) × C_Web)) => [.kn w0 (C_Web.sl s1.2), .f all_of_them, .o s1.1, .no])) (s0 := (todo, self)) (.s (.s (.s (.s .nil)))) (fun s1 => (et_test (em_neLP (by decide) (el_own rfl) (el_n en_nil)))) (fun s1 => (bm_at [.kn w0 (C_Web.sl s1.2), .f all_of_them, .o s1.1, .no] (bm_popA' (k := fun body todo_1 => (((m_Web__is_ring s1.2 body).bind fun v5 => if v5 = true then ((some all_of_them).bind fun v4 => if v4 = true then some true else ((atI s1.2.price body).bind fun v2 => ((some (0 : Int)).bind fun v3 => some (decide (v2 = v3))))) else some false).bind fun v9 => (if v9 = true then ((atI s1.2.ring body).bind fun v8 => (exM todo_1 v8).bind fun todo_2 => ((m_Web__take_apart s1.2 body).bind fun r7 => (some (todo_2, r7)))) else (some (todo_1, s1.2))).bind fun (s6 : ((List Int) × C_Web)) => (some (s6.1, s6.2)))) (pl_var rfl) (fun _ => rfl) (fun body todo_1 => (bm_at [.kn w0 (C_Web.sl s1.2), .f all_of_them, .o todo_1, .f body] (bm_if (G := (fun (s6 : ((List Int) × C_Web)) => [.kn w0 (C_Web.sl s6.2), .f all_of_them, .o s6.1, .no])) (et_and (et_B (em_borrowI (i := 0) rfl (toD_kn (C_Web.toD s1.2)) (C_Web.noT s1.2) (em_meth (i := 0) rfl ob_fz xm_Web__is_ring (em_c2P (em_var rfl) (em_var rfl))))) (et_or (et_B (em_var rfl)) (et_test (em_eqS (em_ixLP (el_pt (pt_Web_price T (pt_varK (i := 0) rfl (fun h => by cases h)) rfl rfl)) (em_var rfl)) em_int)))) (bm_at [.kn w0 (C_Web.sl s1.2), .f all_of_them, .o todo_1, .f body] (bm_extd (pl_var rfl) (el_of (em_ixLP (el_pt (pt_Web_ring T (pt_varK (i := 0) rfl (fun h => by cases h)) rfl rfl)) (em_var rfl))) (fun todo_2 => (bm_at [.kn w0 (C_Web.sl s1.2), .f all_of_them, .o todo_2, .f body] (bm_dropS (es_meth (i := 0) rfl ob_kn xm_Web__take_apart (es_end (esf_no (esf_kn (i := 0) (esf_call (eg_of2 (eg2_own rfl (eg2_fz (em_var rfl) eg2_nil)) (.own rfl (.fz .nil))) rfl ⟨w0, s1.2, body, rfl, rfl, rfl, rfl⟩ (fun _ => rfl)) (fun _ => rfl))))) (fun r7 => (bm_nx (.s (.s (.s (.n .nil))))))))))) (bm_nx (.s (.s (.s (.n .nil))))) (fun s6 => (bm_nxC (.s (.s (.s (.s .nil)))))))))))) (fun s1 => (bm_endOU (.s (.n (.n (.s .nil)))))))))))
def spo_Web__pairs (K : PySem.W.Frag) : Sp := spO (γ := (C_Web × (List (Option (Int × Int))))) K 1 fun ss m rs G => ∃ (w0 : V) (self : C_Web), ss = [.kn w0 (C_Web.sl self)] ∧ m = m_Web__pairs self ∧ rs = (fun c => .o c.2) ∧ G = (fun c => [.kn w0 (C_Web.sl c.1)])
theorem sc_Web__pairs : FnScope ["self", "found", "place", "tie"] ["self"] (defScope (mtop 9 11)) := ⟨rfl, rfl, rfl, by decide +kernel, rfl, by decide +kernel, by decide +kernel⟩
theorem ok_Web__pairs (T : Tx K mg) (C : He.SaysD fa fn K) (F_Web__loosen : FnM P w K base mg 3 "Web" "loosen" ["self", "all_of_them"] (spo_Web__loosen K)) : FnM P w K base mg 4 "Web" "pairs" ["self"] (spo_Web__pairs K) := by
  obtain ⟨fd, F⟩ := C.def_ 14 (d := d_Web__pairs) rfl
  have sc := sc_Web__pairs
  refine ⟨⟨fd, F.ok sc len_O (fun cdv A outer s H vs Q E hr h => ⟨_, PSs.nox
    (pss_cons (ps_expr (pe_mK (K := K) rfl (pv 0) F_Web__loosen (hr.mono (by decide)) (pa_cons pe_bl pa_nil))) (pss_cons (ps_set (i := 1) sc.nd rfl (Or.inl rfl) (pe_lst pa_nil)) (pss_cons (ps_for PassesOwn.never rfl (pi_range1 rfl T.b_range (pa_cons (pe_fldK (K := K) rfl (pv 0) rfl) pa_nil)) (pg_name (i := 2) sc.nd rfl (Or.inl rfl)) (pss_cons (ps_set (i := 3) sc.nd rfl (Or.inl rfl) (pe_ix ix_list (pe_fldK (K := K) rfl (pv 0) rfl) (pv 2) (fun _ _ => rfl))) (pss_cons (ps_if (PW.pt (pw_and (pt_cmp (pc_notN (pv 3))) (pw_and1 (pt_cmpR op_lt (pe_ix ix_tup (pv 3) pe_int (fun _ _ => rfl)) (pe_ix ix_tup (pv 3) pe_int (fun _ _ => rfl)) (nomark _))))) (pss_cons (ps_expr (pe_bm PySem.F.plainAttrs_list PySem.F.slot_list_append PySem.F.type_list_append mt_append (pv 1) (pa_cons (pv 3) pa_nil))) pss_nil) pss_nil) pss_nil))) (pss_one (ps_ret (pv 1)))))), fn_O (n := 1) (j := 3) rfl (fun ss m rs G _ p => ?_) vs H Q E h⟩), FunD.bindsN F fun _ _ _ _ _ _ us hl => match us, hl with | [_], _ => rfl⟩, T.cls_Web, T.mt_Web__pairs⟩
  obtain ⟨w0, self, e1, e2, e3, e4⟩ := p
  subst e1; subst e3; subst e4; rw [e2]
  refine ⟨fun c => (keeps_kn keeps_nil), ?_⟩
  unfold m_Web__pairs
  exact (bm_at [.kn w0 (C_Web.sl self), .no, .no, .no] (bm_dropS (es_meth (i := 0) rfl ob_kn xm_Web__loosen (es_end (esf_no (esf_kn (i := 0) (esf_call (eg_of2 (eg2_own rfl (eg2_fz em_bl eg2_nil)) (.own rfl (.fz .nil))) rfl ⟨w0, self, true, rfl, rfl, rfl, rfl⟩ (fun _ => rfl)) (fun _ => rfl))))) (fun r1 => (bm_at [.kn w0 (C_Web.sl r1), .no, .no, .no] (bm_asgN rfl en_nil (fun found => (bm_at [.kn w0 (C_Web.sl r1), .o found, .no, .no] (bm_for (S := (List (Option (Int × Int)))) (G := (fun (s2 : (List (Option (Int × Int)))) => [.kn w0 (C_Web.sl r1), .o s2, .no, .no])) (s0 := found) (ei_rng1P (em_pt (pt_Web_size T (pt_varK (i := 0) rfl (fun h => by cases h)) rfl rfl))) (.s (.s (.s (.s .nil)))) (fun _ _ => tg_name rfl) (fun s2 place => (bm_at [.kn w0 (C_Web.sl r1), .o s2, .f place, .no] (bm_asg rfl (em_ixLP (el_pt (pt_Web_tie T (pt_varK (i := 0) rfl (fun h => by cases h)) rfl rfl)) (em_var rfl)) (fun tie => (bm_at [.kn w0 (C_Web.sl r1), .o s2, .f place, .f tie] (bm_if (G := (fun (s8 : (List (Option (Int × Int)))) => [.kn w0 (C_Web.sl r1), .o s8, .no, .no])) (et_and (et_B (em_notNP (em_var rfl))) (et_test (em_lt (em_fst (em_some rfl)) (em_snd (em_some rfl))))) (bm_at [.kn w0 (C_Web.sl r1), .o s2, .f place, .f tie] (bm_appP (pl_var rfl) (em_var rfl) (fun found_1 => (bm_nx (.s (.s (.n (.n .nil)))))))) (bm_nx (.s (.s (.n (.n .nil))))) (fun s8 => (bm_nxC (.s (.s (.s (.s .nil)))))))))))) (fun s2 => (bm_at [.kn w0 (C_Web.sl r1), .o s2, .no, .no] (bm_retV (i := 1) rfl (fun h => by cases h) (fun _ h => by cases h) rfl (.s (.s (.s (.s .nil)))))))))))))))
theorem sc_helpful : FnScope ["web", "links", "u", "v"] ["web", "links"] (defScope (top 11)) := ⟨rfl, rfl, rfl, by decide +kernel, rfl, by decide +kernel, by decide +kernel⟩
theorem ok_helpful (T : Tx K mg) (C : He.SaysD fa fn K) (hg : mg "helpful" = some (.ref (He.ga K "helpful"))) (F_helps : Fn P w K mg base 1 "helps" ["web", "u", "v"] (sp3 K m_helps)) : Fn P w K mg base 2 "helpful" ["web", "links"] (sp2 K m_helpful) := by
  obtain ⟨fd, F⟩ := C.def_ 15 (d := d_helpful) rfl
  have sc := sc_helpful
  refine ⟨⟨fd, F.ok sc len_M (fun cdv A outer s H vs Q E hr h => ⟨_, PSs.nox
    (pss_cons (ps_for PassesOwn.never rfl (pi_list (pv 1)) (pg_tup rfl (pgs_cons (pg_name (i := 2) sc.nd rfl (Or.inl rfl)) (pgs_cons (pg_name (i := 3) sc.nd rfl (Or.inl rfl)) pgs_nil))) (pss_cons (ps_if (pt_val (pe_f F_helps (hr.mono (by decide)) (by rfl) (pa_cons (pv 0) (pa_cons (pv 2) (pa_cons (pv 3) pa_nil))))) (pss_one (ps_ret (pe_tup (pa_cons (pv 2) (pa_cons (pv 3) pa_nil))))) pss_nil) (pss_cons (ps_if (pt_val (pe_f F_helps (hr.mono (by decide)) (by rfl) (pa_cons (pv 0) (pa_cons (pv 3) (pa_cons (pv 2) pa_nil))))) (pss_one (ps_ret (pe_tup (pa_cons (pv 3) (pa_cons (pv 2) pa_nil))))) pss_nil) pss_nil))) (pss_one (ps_ret pe_non))), fn2 (j := 2) rfl (fun web links => ?_) vs H Q E h⟩), FunD.bindsN F fun _ _ _ _ _ _ us hl => match us, hl with | [_, _], _ => rfl, fn_look F⟩, F.kp, hg⟩
  unfold m_helpful
  exact (bm_at [.f web, .f links, .no, .no] (bm_forSP (S := Unit) (R := (Option (Int × Int))) (G := (fun (s1 : Unit) => [.f web, .no, .no, .no])) (s0 := ()) (ρ := (fun r => r)) rt_F (fun _ _ _ _ h => h) (ei_list (em_var rfl)) (.s (.n (.s (.s .nil)))) (fun _ _ => tg_t2 rfl rfl) (fun s1 p2 => (bm_at [.f web, .no, .f p2.1, .f p2.2] (bm_ifT (imp_S rt_F) (et_B (em_c3P (em_var rfl) (em_var rfl) (em_var rfl))) (bm_at [.f web, .no, .f p2.1, .f p2.2] (bm_retS (bm_ret (em_upP (em_t2P (em_var rfl) (em_var rfl)))))) (bm_at [.f web, .no, .f p2.1, .f p2.2] (bm_ifT (imp_S rt_F) (et_B (em_c3P (em_var rfl) (em_var rfl) (em_var rfl))) (bm_at [.f web, .no, .f p2.1, .f p2.2] (bm_retS (bm_ret (em_upP (em_t2P (em_var rfl) (em_var rfl)))))) (bm_nxS (.s (.s (.n (.n .nil)))))))))) (fun s1 => (bm_at [.f web, .no, .no, .no] (bm_ret em_non)))))
def spo_searched (K : PySem.W.Frag) : Sp := spO (γ := (C_Web × Bool)) K 2 fun ss m rs G => ∃ (w0 : V) (web : C_Web) (links : (List (Int × Int))), ss = [.kn w0 (C_Web.sl web), .f links] ∧ m = m_searched web links ∧ rs = (fun c => .f c.2) ∧ G = (fun c => [.kn w0 (C_Web.sl c.1), .no])
theorem sc_searched : FnScope ["web", "links", "link"] ["web", "links"] (defScope (top 12)) := ⟨rfl, rfl, rfl, by decide +kernel, rfl, by decide +kernel, by decide +kernel⟩
theorem ok_searched (T : Tx K mg) (C : He.SaysD fa fn K) (hg : mg "searched" = some (.ref (He.ga K "searched"))) (F_Web__begin : FnM P w K base mg 2 "Web" "begin" ["self"] (spo_Web__begin K)) (F_grow : Fn P w K mg base 4 "grow" ["web", "u", "v"] (spo_grow K)) (F_helpful : Fn P w K mg base 2 "helpful" ["web", "links"] (sp2 K m_helpful)) : Fn P w K mg base 5 "searched" ["web", "links"] (spo_searched K) := by
  obtain ⟨fd, F⟩ := C.def_ 16 (d := d_searched) rfl
  have sc := sc_searched
  refine ⟨⟨fd, F.ok sc len_O (fun cdv A outer s H vs Q E hr h => ⟨_, PSs.nox
    (pss_cons (ps_expr (pe_m0K (K := K) rfl (pv 0) F_Web__begin (hr.mono (by decide)))) (pss_cons (ps_set (i := 2) sc.nd rfl (Or.inl rfl) (pe_f F_helpful (hr.mono (by decide)) (by rfl) (pa_cons (pv 0) (pa_cons (pv 1) pa_nil)))) (pss_cons (ps_while PassesOwn.never (pt_cmp (pc_notN (pv 2))) (pss_cons (ps_if (pt_val (pe_f F_grow (hr.mono (by decide)) (by rfl) (pa_cons (pv 0) (pa_cons (pe_ix ix_tup (pv 2) pe_int (fun _ _ => rfl)) (pa_cons (pe_ix ix_tup (pv 2) pe_int (fun _ _ => rfl)) pa_nil))))) (pss_one (ps_ret pe_bl)) pss_nil) (pss_cons (ps_set (i := 2) sc.nd rfl (Or.inl rfl) (pe_f F_helpful (hr.mono (by decide)) (by rfl) (pa_cons (pv 0) (pa_cons (pv 1) pa_nil)))) pss_nil))) (pss_one (ps_ret pe_bl))))), fn_O (n := 2) (j := 1) rfl (fun ss m rs G _ p => ?_) vs H Q E h⟩), FunD.bindsN F fun _ _ _ _ _ _ us hl => match us, hl with | [_, _], _ => rfl, fn_look F⟩, F.kp, hg⟩
  obtain ⟨w0, web, links, e1, e2, e3, e4⟩ := p
  subst e1; subst e3; subst e4; rw [e2]
  refine ⟨fun c => (keeps_kn (keeps_no keeps_nil)), ?_⟩
  unfold m_searched
  exact (bm_at [.kn w0 (C_Web.sl web), .f links, .no] (bm_dropS (es_meth (i := 0) rfl ob_kn xm_Web__begin (es_end (esf_kn (i := 0) (esf_call (eg_of2 (eg2_own rfl eg2_nil) (.own rfl .nil)) rfl ⟨w0, web, rfl, rfl, rfl, rfl⟩ (fun _ => rfl)) (fun _ => rfl)))) (fun r1 => (bm_at [.kn w0 (C_Web.sl r1), .f links, .no] (bm_asg rfl (em_borrowI (i := 0) rfl (toD_kn (C_Web.toD r1)) (C_Web.noT r1) (em_c2P (em_var rfl) (em_var rfl))) (fun link => (bm_at [.kn w0 (C_Web.sl r1), .f links, .f link] (bm_whileS' (S := (C_Web × (Option (Int × Int)))) (R := (C_Web × Bool)) (G := (fun (s2 : (C_Web × (Option (Int × Int)))) => [.kn w0 (C_Web.sl s2.1), .f links, .f s2.2])) (s0 := (r1, link)) (ρ := (fun r => r)) rt_O (fun _ _ _ _ h => h) (.s (.s (.s .nil))) (fun s2 => (et_B (em_notNP (em_var rfl)))) (fun s2 => (bm_at [.kn w0 (C_Web.sl s2.1), .f links, .f s2.2] (bm_ifST (imp_S rt_O) (ets_B (es_at (fun v4 e_v4 => (es_at (fun v6 e_v6 => (es_end (esf_no (esf_no (esf_kn (i := 0) (esf_call (eg_of2 (eg2_own rfl (eg2_fz (e_v4 ▸ (em_fst (em_some rfl))) (eg2_fz (e_v6 ▸ (em_snd (em_some rfl))) eg2_nil))) (.own rfl (.fz (.fz .nil)))) rfl ⟨w0, s2.1, v4, v6, rfl, rfl, rfl, rfl⟩ (fun _ => rfl)) (fun _ => rfl))))))))) (fun _ => rfl)) (fun r7 => (bm_at [.kn w0 (C_Web.sl r7.1), .f links, .f s2.2] (bm_retS (bm_retO (f := fun r => (r7.1, r)) em_bl (fun _ => rfl) (fun _ => (.s (.n (.n .nil)))))))) (fun r7 => (bm_at [.kn w0 (C_Web.sl r7.1), .f links, .f s2.2] (bm_asg rfl (em_borrowI (i := 0) rfl (toD_kn (C_Web.toD r7.1)) (C_Web.noT r7.1) (em_c2P (em_var rfl) (em_var rfl))) (fun link_1 => (bm_nxS (.s (.s (.s .nil))))))))))) (fun s2 => (bm_at [.kn w0 (C_Web.sl s2.1), .f links, .f s2.2] (bm_retO (f := fun r => (s2.1, r)) em_bl (fun _ => rfl) (fun _ => (.s (.n (.n .nil)))))))))))))))
theorem sc_odd_places : FnScope ["web", "place"] ["web"] (defScope (top 13)) := ⟨rfl, rfl, rfl, by decide +kernel, rfl, by decide +kernel, by decide +kernel⟩
theorem ok_odd_places (T : Tx K mg) (C : He.SaysD fa fn K) (hg : mg "odd_places" = some (.ref (He.ga K "odd_places")))  : Fn P w K mg base 1 "odd_places" ["web"] (spw1 K m_odd_places (fun c => .o c)) := by
  obtain ⟨fd, F⟩ := C.def_ 17 (d := d_odd_places) rfl
  have sc := sc_odd_places
  refine ⟨⟨fd, F.ok sc len_W (fun cdv A outer s H vs Q E hr h => ⟨_, PSs.nox
    (pss_one (ps_ret (pe_lc (own := [("place", 1)]) (g := gName 1) rfl sc.nd (pi_range1 rfl T.b_range (pa_cons (pe_fldK (K := K) rfl (pv 0) rfl) pa_nil)) (blkOk_by (by rfl)) (fun _ _ _ _ _ => (pg_name (i := 1) sc.nd rfl (Or.inl rfl))) (fun _ _ _ _ _ => pts_one (pt_cmpR op_eq (pe_ix (ixK (K := K) (r := rIxL) rfl ix_list) (pe_fldK (K := K) rfl (pv 0) rfl) (pe_ix (ixK (K := K) (r := rIxL) rfl ix_list) (pe_fldK (K := K) rfl (pv 0) rfl) (pv 1) (fun _ _ => rfl)) (fun _ _ => rfl)) pe_int (nomark _))) (fun _ _ _ _ _ => (pv 1))))), fw1 (j := 1) rfl (fun web => ?_) vs H Q E h⟩), FunD.bindsN F fun _ _ _ _ _ _ us hl => match us, hl with | [_], _ => rfl, fn_look F⟩, F.kp, hg⟩
  unfold m_odd_places
  exact (bm_at [.f web, .no] (bm_retW (ew_n (en_lc (ei_rng1P (fl_Web_sizeP T (em_var rfl))) (fun _ => tg_name rfl) (tw_name (by decide)) (fun place => (et_test (em_eqS (em_ixL (el_of (fl_Web_markP T (em_var rfl))) (em_ixLP (el_of (fl_Web_outerP T (em_var rfl))) (em_var rfl))) em_int))) (fun place => (em_var rfl)))) (fun _ => (.n (.s .nil)))))
theorem sc_largest : FnScope ["n", "links", "web", "out"] ["n", "links"] (defScope (top 14)) := ⟨rfl, rfl, rfl, by decide +kernel, rfl, by decide +kernel, by decide +kernel⟩
theorem ok_largest (T : Tx K mg) (C : He.SaysD fa fn K) (hg : mg "largest" = some (.ref (He.ga K "largest"))) (F_Web__loosen : FnM P w K base mg 3 "Web" "loosen" ["self", "all_of_them"] (spo_Web__loosen K)) (F_Web__new : FnC P w K base mg 1 "Web" ["self", "size", "price"] (spo_Web__new K)) (F_Web__pairs : FnM P w K base mg 4 "Web" "pairs" ["self"] (spo_Web__pairs K)) (F_odd_places : Fn P w K mg base 1 "odd_places" ["web"] (spw1 K m_odd_places (fun c => .o c))) (F_searched : Fn P w K mg base 5 "searched" ["web", "links"] (spo_searched K)) : Fn P w K mg base 6 "largest" ["n", "links"] (spw2 K m_largest (fun c => .ot_ [.o c.1, .o c.2])) := by
  obtain ⟨fd, F⟩ := C.def_ 18 (d := d_largest) rfl
  have sc := sc_largest
  refine ⟨⟨fd, F.ok sc len_W (fun cdv A outer s H vs Q E hr h => ⟨_, PSs.nox
    (pss_cons (ps_set (i := 2) sc.nd rfl (Or.inl rfl) (pe_mkK (K := K) rfl F_Web__new (hr.mono (by decide)) (by rfl) (pa_cons (pv 0) (pa_cons pe_int pa_nil)))) (pss_cons (ps_while PassesOwn.never (pt_val (pe_f F_searched (hr.mono (by decide)) (by rfl) (pa_cons (pv 2) (pa_cons (pv 1) pa_nil)))) (pss_cons (ps_expr (pe_mK (K := K) rfl (pv 2) F_Web__loosen (hr.mono (by decide)) (pa_cons pe_bl pa_nil))) pss_nil)) (pss_cons (ps_set (i := 3) sc.nd rfl (Or.inl rfl) (pe_f F_odd_places (hr.mono (by decide)) (by rfl) (pa_cons (pv 2) pa_nil))) (pss_one (ps_ret (pe_tup (pa_cons (pe_m0K (K := K) rfl (pv 2) F_Web__pairs (hr.mono (by decide))) (pa_cons (pv 3) pa_nil)))))))), fw2 (j := 2) rfl (fun n links => ?_) vs H Q E h⟩), FunD.bindsN F fun _ _ _ _ _ _ us hl => match us, hl with | [_, _], _ => rfl, fn_look F⟩, F.kp, hg⟩
  unfold m_largest
  exact (bm_at [.f n, .f links, .no, .no] (bm_asgS (es_w (ew_make (n := 3) (ds := [enc n, enc (0 : Int)]) (ea_eq (ea_cons (em_var rfl) (ea_cons em_int ea_nil)) rfl) rfl (fun w => ⟨w, n, (0 : Int), rfl, rfl, rfl, rfl⟩))) (fun _ => ⟨_, rfl⟩) (fun web => (bm_at [.f n, .f links, (C_Web.sl web), .no] (bm_know (i := 2) rfl (fun h => by cases h) (fun _ h => by cases h) (fun w_web_3 => (bm_whileTS' (S := C_Web) (G := (fun (s4 : C_Web) => [.no, .f links, .kn w_web_3 (C_Web.sl s4), .no])) (s0 := web) (Gc := (fun (r5 : (C_Web × Bool)) => [.no, .f links, .kn w_web_3 (C_Web.sl r5.1), .no])) (e := (fun (r5 : (C_Web × Bool)) => r5.1)) (.n (.s (.s (.s .nil)))) (fun s4 => (ets_B (es_eqG (es_end (esf_no (esf_kn (i := 2) (esf_call (eg_of2 (eg2_own rfl (eg2_fz (em_var rfl) eg2_nil)) (.own rfl (.fz .nil))) rfl ⟨w_web_3, s4, links, rfl, rfl, rfl, rfl⟩ (fun _ => rfl)) (fun _ => rfl)))) (fun _ => rfl)) (fun _ => rfl))) (fun r5 => (.s (.s (.s (.s .nil))))) (fun r5 => (bm_at [.no, .f links, .kn w_web_3 (C_Web.sl r5.1), .no] (bm_dropS (es_meth (i := 2) rfl ob_kn xm_Web__loosen (es_end (esf_no (esf_kn (i := 2) (esf_call (eg_of2 (eg2_own rfl (eg2_fz em_bl eg2_nil)) (.own rfl (.fz .nil))) rfl ⟨w_web_3, r5.1, true, rfl, rfl, rfl, rfl⟩ (fun _ => rfl)) (fun _ => rfl))))) (fun r6 => (bm_nxC (.s (.s (.s (.s .nil))))))))) (fun s4 => (bm_unkn (i := 2) rfl (bm_at [.no, .f links, (C_Web.sl s4), .no] (bm_asgN rfl (en_borrowI (i := 2) rfl (C_Web.toD s4) (C_Web.noT s4) (en_w (ew_c1P (em_var rfl)))) (fun out => (bm_at [.no, .f links, (C_Web.sl s4), .o out] (bm_know (i := 2) rfl (fun h => by cases h) (fun _ h => by cases h) (fun w_web_7 => (bm_retES (es_at (fun r8 e_r8 => (es_sub (es_tup (c := (r8.2, out)) (rs := fun c => .ot_ [.o c.1, .o c.2]) (eg_es (es_cast e_r8 (es_meth (i := 2) rfl ob_kn xm_Web__pairs (es_end (esf_kn (i := 2) (esf_call (eg_of2 (eg2_own rfl eg2_nil) (.own rfl .nil)) rfl ⟨w_web_7, s4, rfl, rfl, rfl, rfl⟩ (fun _ => rfl)) (fun _ => rfl))))) (eg_es (es_mvP (pt_var (i := 3) rfl rfl) rfl) eg_nil)) (Nat.le_of_ble_eq_true rfl) rfl) (fun _ => (.s (.s (.n (.s .nil)))))))) (fun _ => (.s (.n (.s (.s .nil)))))))))))))))))))))
theorem sc_without_place : FnScope ["links", "place", "found", "u", "v"] ["links", "place"] (defScope (top 15)) := ⟨rfl, rfl, rfl, by decide +kernel, rfl, by decide +kernel, by decide +kernel⟩
theorem ok_without_place (T : Tx K mg) (C : He.SaysD fa fn K) (hg : mg "without_place" = some (.ref (He.ga K "without_place")))  : Fn P w K mg base 1 "without_place" ["links", "place"] (spw2 K m_without_place (fun c => .o c)) := by
  obtain ⟨fd, F⟩ := C.def_ 19 (d := d_without_place) rfl
  have sc := sc_without_place
  refine ⟨⟨fd, F.ok sc len_W (fun cdv A outer s H vs Q E hr h => ⟨_, PSs.nox
    (pss_cons (ps_set (i := 2) sc.nd rfl (Or.inl rfl) (pe_lst pa_nil)) (pss_cons (ps_for PassesOwn.never rfl (pi_list (pv 0)) (pg_tup rfl (pgs_cons (pg_name (i := 3) sc.nd rfl (Or.inl rfl)) (pgs_cons (pg_name (i := 4) sc.nd rfl (Or.inl rfl)) pgs_nil))) (pss_cons (ps_if (PW.pt (pw_and (pt_cmpR op_ne (pv 3) (pv 1) (nomark _)) (pw_and1 (pt_cmpR op_ne (pv 4) (pv 1) (nomark _))))) (pss_cons (ps_expr (pe_bm PySem.F.plainAttrs_list PySem.F.slot_list_append PySem.F.type_list_append mt_append (pv 2) (pa_cons (pe_tup (pa_cons (pe_op op_sub (pv 3) (pe_callTy call_int1' (by rfl) T.b_int bt_int (pa_cons (pe_cmpR op_gt (pv 3) (pv 1) (nomark _)) pa_nil))) (pa_cons (pe_op op_sub (pv 4) (pe_callTy call_int1' (by rfl) T.b_int bt_int (pa_cons (pe_cmpR op_gt (pv 4) (pv 1) (nomark _)) pa_nil))) pa_nil))) pa_nil))) pss_nil) pss_nil) pss_nil)) (pss_one (ps_ret (pv 2))))), fw2 (j := 3) rfl (fun links place => ?_) vs H Q E h⟩), FunD.bindsN F fun _ _ _ _ _ _ us hl => match us, hl with | [_, _], _ => rfl, fn_look F⟩, F.kp, hg⟩
  unfold m_without_place
  exact (bm_asgNP rfl en_nil (bm_forP (S := (List (Int × Int))) (G := (fun (s1 : (List (Int × Int))) => [.no, .f place, .o s1, .no, .no])) (s0 := ([] : List (Int × Int))) (ei_list (em_var rfl)) (.n (.s (.s (.s (.s .nil))))) (fun _ _ => tg_t2 rfl rfl) (fun s1 p2 => (bm_ifP (G := (fun (s3 : (List (Int × Int))) => [.no, .f place, .o s3, .no, .no])) (et_andP (et_test (em_neSP (em_var rfl) (em_var rfl))) (et_test (em_neSP (em_var rfl) (em_var rfl)))) (bm_appP (pl_var rfl) (em_t2P (em_subP (em_var rfl) (em_intBP (em_gtP (em_var rfl) (em_var rfl)))) (em_subP (em_var rfl) (em_intBP (em_gtP (em_var rfl) (em_var rfl))))) (fun found => (bm_nx (.s (.s (.s (.n (.n .nil)))))))) (bm_nx (.s (.s (.s (.n (.n .nil)))))) (fun s3 => (bm_nxC (.s (.s (.s (.s (.s .nil))))))))) (fun s1 => (bm_retV (i := 2) rfl (fun h => by cases h) (fun _ h => by cases h) rfl (.s (.n (.s (.s (.s .nil)))))))))
theorem sc_left_alone : FnScope ["n", "links", "many", "found", "place"] ["n", "links"] (defScope (top 16)) := ⟨rfl, rfl, rfl, by decide +kernel, rfl, by decide +kernel, by decide +kernel⟩
theorem ok_left_alone (T : Tx K mg) (C : He.SaysD fa fn K) (hg : mg "left_alone" = some (.ref (He.ga K "left_alone"))) (F_largest : Fn P w K mg base 6 "largest" ["n", "links"] (spw2 K m_largest (fun c => .ot_ [.o c.1, .o c.2]))) (F_without_place : Fn P w K mg base 1 "without_place" ["links", "place"] (spw2 K m_without_place (fun c => .o c))) : Fn P w K mg base 7 "left_alone" ["n", "links"] (spw2 K m_left_alone (fun c => .o c)) := by
  obtain ⟨fd, F⟩ := C.def_ 20 (d := d_left_alone) rfl
  have sc := sc_left_alone
  refine ⟨⟨fd, F.ok sc len_W (fun cdv A outer s H vs Q E hr h => ⟨_, PSs.nox
    (pss_cons (ps_set (i := 2) sc.nd rfl (Or.inl rfl) (pe_callB call_lenS (by rfl) T.b_len bt_len (pa_cons (pe_ix ix_tup (pe_f F_largest (hr.mono (by decide)) (by rfl) (pa_cons (pv 0) (pa_cons (pv 1) pa_nil))) pe_int (fun _ _ => rfl)) pa_nil))) (pss_cons (ps_set (i := 3) sc.nd rfl (Or.inl rfl) (pe_lst pa_nil)) (pss_cons (ps_for PassesOwn.never rfl (pi_range1 rfl T.b_range (pa_cons (pv 0) pa_nil)) (pg_name (i := 4) sc.nd rfl (Or.inl rfl)) (pss_cons (ps_if (pt_cmpR op_eq (pe_callB call_lenS (by rfl) T.b_len bt_len (pa_cons (pe_ix ix_tup (pe_f F_largest (hr.mono (by decide)) (by rfl) (pa_cons (pe_op op_sub (pv 0) pe_int) (pa_cons (pe_f F_without_place (hr.mono (by decide)) (by rfl) (pa_cons (pv 1) (pa_cons (pv 4) pa_nil))) pa_nil))) pe_int (fun _ _ => rfl)) pa_nil)) (pv 2) (nomark _)) (pss_cons (ps_expr (pe_bm PySem.F.plainAttrs_list PySem.F.slot_list_append PySem.F.type_list_append mt_append (pv 3) (pa_cons (pv 4) pa_nil))) pss_nil) pss_nil) pss_nil)) (pss_one (ps_ret (pv 3)))))), fw2 (j := 3) rfl (fun n links => ?_) vs H Q E h⟩), FunD.bindsN F fun _ _ _ _ _ _ us hl => match us, hl with | [_, _], _ => rfl, fn_look F⟩, F.kp, hg⟩
  unfold m_left_alone
  exact (bm_asg rfl (em_len (el_of (em_fst (em_w (ew_c2P (em_var rfl) (em_var rfl)) (fun _ => rfl))))) (fun many => (bm_asgNP rfl en_nil (bm_for (S := (List Int)) (G := (fun (s3 : (List Int)) => [.f n, .f links, .f many, .o s3, .no])) (s0 := ([] : List Int)) (ei_rng1P (em_var rfl)) (.s (.s (.s (.s (.s .nil))))) (fun _ _ => tg_name rfl) (fun s3 place => (bm_if (G := (fun (s10 : (List Int)) => [.f n, .f links, .f many, .o s10, .no])) (et_test (em_eqS (em_len (el_of (em_fst (em_w (ew_c2 (em_subP (em_var rfl) em_int) (em_of (en_w (ew_c2P (em_var rfl) (em_var rfl))))) (fun _ => rfl))))) (em_var rfl))) (bm_appP (pl_var rfl) (em_var rfl) (fun found => (bm_nx (.s (.s (.s (.s (.n .nil)))))))) (bm_nx (.s (.s (.s (.s (.n .nil)))))) (fun s10 => (bm_nxC (.s (.s (.s (.s (.s .nil))))))))) (fun s3 => (bm_retV (i := 3) rfl (fun h => by cases h) (fun _ h => by cases h) rfl (.n (.n (.n (.s (.s .nil)))))))))))
theorem sc__law_cell_at : FnScope ["script", "k"] ["script", "k"] (defScope (top 18)) := ⟨rfl, rfl, rfl, by decide +kernel, rfl, by decide +kernel, by decide +kernel⟩
theorem ok__law_cell_at (T : Tx K mg) (C : He.SaysD fa fn K) (hg : mg "_law_cell_at" = some (.ref (He.ga K "_law_cell_at")))  : Fn P w K mg base 1 "_law_cell_at" ["script", "k"] (sp2 K m__law_cell_at) := by
  obtain ⟨fd, F⟩ := C.def_ 21 (d := d__law_cell_at) rfl
  have sc := sc__law_cell_at
  refine ⟨⟨fd, F.ok sc len_M (fun cdv A outer s H vs Q E hr h => ⟨_, PSs.nox
    (pss_cons (ps_if (pt_cmpR op_lt (pv 1) (pe_callB call_lenS (by rfl) T.b_len bt_len (pa_cons (pv 0) pa_nil)) (nomark _)) (pss_one (ps_ret (pe_ix ix_list (pv 0) (pv 1) (fun _ _ => rfl)))) pss_nil) (pss_one (ps_ret (pe_op op_add (pe_op op_mul pe_int (pv 1)) pe_int)))), fn2 (j := 0) rfl (fun script k => ?_) vs H Q E h⟩), FunD.bindsN F fun _ _ _ _ _ _ us hl => match us, hl with | [_, _], _ => rfl, fn_look F⟩, F.kp, hg⟩
  unfold m__law_cell_at
  exact (bm_ifTP imp_F (et_test (em_ltP (em_var rfl) (em_lenCP (em_var rfl)))) (bm_ret (em_ixCP (em_var rfl) (em_var rfl))) (bm_ret (em_addP (em_mulDP (by decide) em_int (em_var rfl)) em_int)))
theorem sc__law_whole : FnScope ["found"] ["found"] (defScope (top 19)) := ⟨rfl, rfl, rfl, by decide +kernel, rfl, by decide +kernel, by decide +kernel⟩
theorem ok__law_whole (T : Tx K mg) (C : He.SaysD fa fn K) (hg : mg "_law_whole" = some (.ref (He.ga K "_law_whole")))  : Fn P w K mg base 1 "_law_whole" ["found"] (sp1 K m__law_whole) := by
  obtain ⟨fd, F⟩ := C.def_ 22 (d := d__law_whole) rfl
  have sc := sc__law_whole
  refine ⟨⟨fd, F.ok sc len_M (fun cdv A outer s H vs Q E hr h => ⟨_, PSs.nox
    (pss_one (ps_ret (pe_and (pe_callB call_isi (by rfl) T.b_isinstance bt_isinstance (pa_cons (pv 0) (pa_cons (pe_bltn (v := .ty "int") (by rfl) T.b_int bt_int rfl) pa_nil))) (pe_one (pe_not (pe_callB call_isi (by rfl) T.b_isinstance bt_isinstance (pa_cons (pv 0) (pa_cons (pe_bltn (v := .ty "bool") (by rfl) T.b_bool bt_bool rfl) pa_nil)))))))), fn1 (j := 0) rfl (fun found => ?_) vs H Q E h⟩), FunD.bindsN F fun _ _ _ _ _ _ us hl => match us, hl with | [_], _ => rfl, fn_look F⟩, F.kp, hg⟩
  unfold m__law_whole
  exact (bm_ret (em_andVP (em_isiP (by decide +kernel) (em_var rfl)) (em_notVP (em_isiP (by decide +kernel) (em_var rfl)))))
theorem sc__law_linked : FnScope ["u", "v", "n", "shape", "cell", "share"] ["u", "v", "n", "shape", "cell", "share"] (defScope (top 20)) := ⟨rfl, rfl, rfl, by decide +kernel, rfl, by decide +kernel, by decide +kernel⟩
theorem ok__law_linked (T : Tx K mg) (C : He.SaysD fa fn K) (hg : mg "_law_linked" = some (.ref (He.ga K "_law_linked")))  : Fn P w K mg base 1 "_law_linked" ["u", "v", "n", "shape", "cell", "share"] (sp6 K m__law_linked) := by
  obtain ⟨fd, F⟩ := C.def_ 23 (d := d__law_linked) rfl
  have sc := sc__law_linked
  refine ⟨⟨fd, F.ok sc len_M (fun cdv A outer s H vs Q E hr h => ⟨_, PSs.nox
    (pss_cons (ps_if (PW.pt (pw_or (pt_cmpR op_eq (pv 3) pe_int (nomark _)) (pw_or1 (PW.pt (pw_and (pt_cmpR op_eq (pv 3) pe_int (nomark _)) (pw_and1 (pt_cmpR op_eq (pe_op op_add (pv 0) (pv 1)) (pe_op op_sub (pv 2) pe_int) (nomark _)))))))) (pss_one (ps_ret pe_bl)) pss_nil) (pss_cons (ps_if (pt_cmpR op_eq (pv 3) pe_int (nomark _)) (pss_one (ps_ret (pe_and (pe_cmpR op_le (pv 0) (pe_op op_fdivW (pv 2) pe_int) (nomark _)) (pe_one (pe_cmpR op_lt (pe_op op_mod (pv 4) pe_int) (pe_op op_add (pv 5) pe_int) (nomark _)))))) pss_nil) (pss_cons (ps_if (PW.pt (pw_and (pt_cmpR op_eq (pv 3) pe_int (nomark _)) (pw_and1 (pt_cmpR op_eq (pe_op op_fdivW (pv 0) pe_int) (pe_op op_fdivW (pv 1) pe_int) (nomark _))))) (pss_one (ps_ret pe_bl)) pss_nil) (pss_cons (ps_if (pt_cmpR op_eq (pv 3) pe_int (nomark _)) (pss_one (ps_ret (pe_cmpR op_eq (pe_op op_mod (pv 4) pe_int) pe_int (nomark _)))) pss_nil) (pss_one (ps_ret (pe_cmpR op_lt (pe_op op_mod (pv 4) pe_int) (pv 5) (nomark _)))))))), fn6 (j := 0) rfl (fun u v n shape cell share => ?_) vs H Q E h⟩), FunD.bindsN F fun _ _ _ _ _ _ us hl => match us, hl with | [_, _, _, _, _, _], _ => rfl, fn_look F⟩, F.kp, hg⟩
  unfold m__law_linked
  exact (bm_ifTP imp_F (et_orP (et_test (em_eqSP (em_var rfl) em_int)) (et_andP (et_test (em_eqSP (em_var rfl) em_int)) (et_test (em_eqSP (em_addP (em_var rfl) (em_var rfl)) (em_subP (em_var rfl) em_int))))) (bm_ret em_bl) (bm_ifTP imp_F (et_test (em_eqSP (em_var rfl) em_int)) (bm_ret (em_andVP (em_leP (em_var rfl) (em_divCP (by decide +kernel) (em_var rfl) em_int)) (em_ltP (em_modCP (by decide +kernel) (em_var rfl) em_int) (em_addP (em_var rfl) em_int)))) (bm_ifTP imp_F (et_andP (et_test (em_eqSP (em_var rfl) em_int)) (et_test (em_eqSP (em_divCP (by decide +kernel) (em_var rfl) em_int) (em_divCP (by decide +kernel) (em_var rfl) em_int)))) (bm_ret em_bl) (bm_ifTP imp_F (et_test (em_eqSP (em_var rfl) em_int)) (bm_ret (em_eqSP (em_modCP (by decide +kernel) (em_var rfl) em_int) em_int)) (bm_ret (em_ltP (em_modCP (by decide +kernel) (em_var rfl) em_int) (em_var rfl)))))))
theorem sc__law_links : FnScope ["script", "n", "shape", "share", "found", "k", "u", "v"] ["script", "n", "shape", "share"] (defScope (top 21)) := ⟨rfl, rfl, rfl, by decide +kernel, rfl, by decide +kernel, by decide +kernel⟩
theorem ok__law_links (T : Tx K mg) (C : He.SaysD fa fn K) (hg : mg "_law_links" = some (.ref (He.ga K "_law_links"))) (F__law_cell_at : Fn P w K mg base 1 "_law_cell_at" ["script", "k"] (sp2 K m__law_cell_at)) (F__law_linked : Fn P w K mg base 1 "_law_linked" ["u", "v", "n", "shape", "cell", "share"] (sp6 K m__law_linked)) : Fn P w K mg base 2 "_law_links" ["script", "n", "shape", "share"] (spw4 K m__law_links (fun c => .o c)) := by
  obtain ⟨fd, F⟩ := C.def_ 24 (d := d__law_links) rfl
  have sc := sc__law_links
  refine ⟨⟨fd, F.ok sc len_W (fun cdv A outer s H vs Q E hr h => ⟨_, PSs.nox
    (pss_cons (ps_set (i := 4) sc.nd rfl (Or.inl rfl) (pe_lst pa_nil)) (pss_cons (ps_set (i := 5) sc.nd rfl (Or.inl rfl) pe_int) (pss_cons (ps_for PassesOwn.never rfl (pi_range1 rfl T.b_range (pa_cons (pv 1) pa_nil)) (pg_name (i := 6) sc.nd rfl (Or.inl rfl)) (pss_cons (ps_for PassesOwn.never rfl (pi_range2 rfl T.b_range (pa_cons (pe_op op_add (pv 6) pe_int) (pa_cons (pv 1) pa_nil))) (pg_name (i := 7) sc.nd rfl (Or.inl rfl)) (pss_cons (ps_if (pt_val (pe_f F__law_linked (hr.mono (by decide)) (by rfl) (pa_cons (pv 6) (pa_cons (pv 7) (pa_cons (pv 1) (pa_cons (pv 2) (pa_cons (pe_f F__law_cell_at (hr.mono (by decide)) (by rfl) (pa_cons (pv 0) (pa_cons (pv 5) pa_nil))) (pa_cons (pv 3) pa_nil)))))))) (pss_cons (ps_expr (pe_bm PySem.F.plainAttrs_list PySem.F.slot_list_append PySem.F.type_list_append mt_append (pv 4) (pa_cons (pe_tup (pa_cons (pv 6) (pa_cons (pv 7) pa_nil))) pa_nil))) pss_nil) pss_nil) (pss_cons (ps_set (i := 5) sc.nd rfl (Or.inl rfl) (pe_op op_add (pv 5) pe_int)) pss_nil))) pss_nil)) (pss_cons (ps_if (pt_cmpR op_eq (pe_op op_mod (pv 3) pe_int) pe_int (nomark _)) (pss_cons (ps_expr (pe_bm0 PySem.F.plainAttrs_list PySem.F.slot_list_reverse PySem.F.type_list_reverse mt_reverse (pv 4))) pss_nil) pss_nil) (pss_cons (ps_if (pt_cmpR op_eq (pe_op op_mod (pv 3) pe_int) pe_int (nomark _)) (pss_cons (ps_set (i := 4) sc.nd rfl (Or.inl rfl) (pe_op op_cat (pe_slice sl_list (pv 4) (po_some (pe_op op_fdivW (pe_callB call_lenS (by rfl) T.b_len bt_len (pa_cons (pv 4) pa_nil)) pe_int)) po_none) (pe_slice sl_list (pv 4) po_none (po_some (pe_op op_fdivW (pe_callB call_lenS (by rfl) T.b_len bt_len (pa_cons (pv 4) pa_nil)) pe_int))))) pss_nil) pss_nil) (pss_one (ps_ret (pv 4)))))))), fw4 (j := 4) rfl (fun script n shape share => ?_) vs H Q E h⟩), FunD.bindsN F fun _ _ _ _ _ _ us hl => match us, hl with | [_, _, _, _], _ => rfl, fn_look F⟩, F.kp, hg⟩
  unfold m__law_links
  exact (bm_asgNP rfl en_nil (bm_asgP rfl em_int (bm_for (S := ((List (Int × Int)) × Int)) (G := (fun (s1 : ((List (Int × Int)) × Int)) => [.f script, .f n, .f shape, .f share, .o s1.1, .f s1.2, .no, .no])) (s0 := (([] : List (Int × Int)), (4 : Int))) (ei_rng1P (em_var rfl)) (.s (.s (.s (.s (.s (.s (.s (.s .nil)))))))) (fun _ _ => tg_name rfl) (fun s1 u => (bm_for (S := ((List (Int × Int)) × Int)) (G := (fun (s2 : ((List (Int × Int)) × Int)) => [.f script, .f n, .f shape, .f share, .o s2.1, .f s2.2, .f u, .no])) (s0 := (s1.1, s1.2)) (ei_rng2P (em_addP (em_var rfl) em_int) (em_var rfl)) (.s (.s (.s (.s (.s (.s (.s (.s .nil)))))))) (fun _ _ => tg_name rfl) (fun s2 v => (bm_if (G := (fun (s9 : (List (Int × Int))) => [.f script, .f n, .f shape, .f share, .o s9, .f s2.2, .f u, .no])) (et_B (em_c6 (em_var rfl) (em_var rfl) (em_var rfl) (em_var rfl) (em_c2P (em_var rfl) (em_var rfl)) (em_var rfl))) (bm_appP (pl_var rfl) (em_t2P (em_var rfl) (em_var rfl)) (fun found => (bm_nx (.s (.s (.s (.s (.s (.s (.s (.n .nil))))))))))) (bm_nx (.s (.s (.s (.s (.s (.s (.s (.n .nil))))))))) (fun s9 => (bm_asgP rfl (em_addP (em_var rfl) em_int) (bm_nxC (.s (.s (.s (.s (.s (.s (.s (.s .nil))))))))))))) (fun s2 => (bm_nxC (.s (.s (.s (.s (.s (.s (.n (.s .nil)))))))))))) (fun s1 => (bm_ifP (G := (fun (s12 : (List (Int × Int))) => [.no, .no, .no, .f share, .o s12, .no, .no, .no])) (et_test (em_eqSP (em_modCP (by decide +kernel) (em_var rfl) em_int) em_int)) (bm_rev (pl_var rfl) (bm_nx (.n (.n (.n (.s (.s (.n (.s (.s .nil)))))))))) (bm_nx (.n (.n (.n (.s (.s (.n (.s (.s .nil))))))))) (fun s12 => (bm_ifP (G := (fun (s13 : (List (Int × Int))) => [.no, .no, .no, .no, .o s13, .no, .no, .no])) (et_test (em_eqSP (em_modCP (by decide +kernel) (em_var rfl) em_int) em_int)) (bm_asgN rfl (en_catP (el_n (en_sliceP (el_own rfl) (eo_someP (em_divCP (by decide +kernel) (em_lenP (el_own rfl)) em_int)) eo_none)) (el_n (en_sliceP (el_own rfl) eo_none (eo_someP (em_divCP (by decide +kernel) (em_lenP (el_own rfl)) em_int))))) (fun found_1 => (bm_nx (.s (.s (.s (.n (.s (.s (.s (.s .nil))))))))))) (bm_nx (.s (.s (.s (.n (.s (.s (.s (.s .nil))))))))) (fun s13 => (bm_retV (i := 4) rfl (fun h => by cases h) (fun _ h => by cases h) rfl (.s (.s (.s (.s (.s (.s (.s (.s .nil)))))))))))))))))
theorem sc__law_pairing : FnScope ["found", "links", "taken", "last", "link"] ["found", "links"] (defScope (top 22)) := ⟨rfl, rfl, rfl, by decide +kernel, rfl, by decide +kernel, by decide +kernel⟩
theorem ok__law_pairing (T : Tx K mg) (C : He.SaysD fa fn K) (hg : mg "_law_pairing" = some (.ref (He.ga K "_law_pairing"))) (F__law_whole : Fn P w K mg base 1 "_law_whole" ["found"] (sp1 K m__law_whole)) : Fn P w K mg base 2 "_law_pairing" ["found", "links"] (sp2 K m__law_pairing) := by
  obtain ⟨fd, F⟩ := C.def_ 25 (d := d__law_pairing) rfl
  have sc := sc__law_pairing
  refine ⟨⟨fd, F.ok sc len_M (fun cdv A outer s H vs Q E hr h => ⟨_, PSs.nox
    (pss_cons (ps_if (pt_not (pt_val (pe_callB call_isi (by rfl) T.b_isinstance bt_isinstance (pa_cons (pv 0) (pa_cons (pe_bltn (v := .ty "list") (by rfl) T.b_list bt_list rfl) pa_nil))))) (pss_one (ps_ret pe_bl)) pss_nil) (pss_cons (ps_set (i := 2) sc.nd rfl (Or.inl rfl) pe_dnewK) (pss_cons (ps_set (i := 3) sc.nd rfl (Or.inl rfl) (pe_un un_neg pe_int)) (pss_cons (ps_for PassesOwn.never rfl (pi_list (pv 0)) (pg_name (i := 4) sc.nd rfl (Or.inl rfl)) (pss_cons (ps_if (PW.pt (pw_or (pt_not (pt_val (pe_callB call_isi (by rfl) T.b_isinstance bt_isinstance (pa_cons (pv 4) (pa_cons (pe_bltn (v := .ty "tuple") (by rfl) T.b_tuple bt_tuple rfl) pa_nil))))) (pw_or (pt_cmpR op_ne (pe_callB call_lenS (by rfl) T.b_len bt_len (pa_cons (pv 4) pa_nil)) pe_int (nomark _)) (pw_or (pt_not (pt_val (pe_f F__law_whole (hr.mono (by decide)) (by rfl) (pa_cons (pe_ix ix_tup (pv 4) pe_int (fun _ _ => rfl)) pa_nil)))) (pw_or1 (pt_not (pt_val (pe_f F__law_whole (hr.mono (by decide)) (by rfl) (pa_cons (pe_ix ix_tup (pv 4) pe_int (fun _ _ => rfl)) pa_nil))))))))) (pss_one (ps_ret pe_bl)) pss_nil) (pss_cons (ps_if (PW.pt (pw_or (pt_cmpR (op_notInD (hu65 hr)) (pv 4) (pv 1) (by rfl)) (pw_or (pt_cmp (pc_din (hu_of hr) (pe_ix ix_tup (pv 4) pe_int (fun _ _ => rfl)) (pv 2))) (pw_or (pt_cmp (pc_din (hu_of hr) (pe_ix ix_tup (pv 4) pe_int (fun _ _ => rfl)) (pv 2))) (pw_or1 (pt_cmpR op_lt (pe_ix ix_tup (pv 4) pe_int (fun _ _ => rfl)) (pv 3) (nomark _))))))) (pss_one (ps_ret pe_bl)) pss_nil) (pss_cons (ps_dput (hu_of hr) (pv 2) (pe_ix ix_tup (pv 4) pe_int (fun _ _ => rfl)) pe_bl rfl) (pss_cons (ps_dput (hu_of hr) (pv 2) (pe_ix ix_tup (pv 4) pe_int (fun _ _ => rfl)) pe_bl rfl) (pss_cons (ps_set (i := 3) sc.nd rfl (Or.inl rfl) (pe_ix ix_tup (pv 4) pe_int (fun _ _ => rfl))) pss_nil)))))) (pss_one (ps_ret pe_bl)))))), fn2 (j := 3) rfl (fun found links => ?_) vs H Q E h⟩), FunD.bindsN F fun _ _ _ _ _ _ us hl => match us, hl with | [_, _], _ => rfl, fn_look F⟩, F.kp, hg⟩
  unfold m__law_pairing
  exact (bm_ifTP imp_F (et_notP (et_B (em_isiLP (by decide +kernel) (el_of (em_var rfl))))) (bm_ret em_bl) (bm_asgD rfl (bm_asgP rfl (em_negP em_int) (bm_forSP (S := ((Dk Bool) × Int)) (R := Bool) (G := (fun (s1 : ((Dk Bool) × Int)) => [.no, .f links, .od s1.1, .f s1.2, .no])) (s0 := ((Dk.mk ([] : List (Key × Bool))), (-(1 : Int)))) (ρ := (fun r => r)) rt_F (fun _ _ _ _ h => h) (ei_list (em_var rfl)) (.n (.s (.s (.s (.s .nil))))) (fun _ _ => tg_name rfl) (fun s1 link => (bm_ifT (imp_S rt_F) (et_or (et_not (et_B (em_isi (by decide +kernel) (em_some rfl)))) (et_or (et_test (em_neS (em_lenT2 (em_some rfl)) em_int)) (et_or (et_not (et_B (em_c1 (em_fst (em_some rfl))))) (et_not (et_B (em_c1 (em_snd (em_some rfl)))))))) (bm_retS (bm_ret em_bl)) (bm_ifT (imp_S rt_F) (et_or (et_test (em_ninD (by decide) (em_some rfl) (el_of (em_var rfl)))) (et_or (et_B (em_din (em_fst (em_some rfl)) (ed_pd (pd_var rfl)))) (et_or (et_B (em_din (em_snd (em_some rfl)) (ed_pd (pd_var rfl)))) (et_test (em_lt (em_fst (em_some rfl)) (em_var rfl)))))) (bm_retS (bm_ret em_bl)) (bm_dput' (pd_var rfl) em_bl (em_fst (em_some rfl)) (fun taken => (bm_dput' (pd_var rfl) em_bl (em_snd (em_some rfl)) (fun taken_1 => (bm_asg rfl (em_fst (em_some rfl)) (fun last => (bm_nxS (.s (.s (.s (.s (.n .nil))))))))))))))) (fun s1 => (bm_ret em_bl))))))
theorem sc__law_all : FnScope ["links", "found", "u", "v", "more", "some", "link"] ["links"] (defScope (top 23)) := ⟨rfl, rfl, rfl, by decide +kernel, rfl, by decide +kernel, by decide +kernel⟩
theorem ok__law_all (T : Tx K mg) (C : He.SaysD fa fn K) (hg : mg "_law_all" = some (.ref (He.ga K "_law_all")))  : Fn P w K mg base 1 "_law_all" ["links"] (sp1 K m__law_all) := by
  obtain ⟨fd, F⟩ := C.def_ 26 (d := d__law_all) rfl
  have sc := sc__law_all
  refine ⟨⟨fd, F.ok sc len_M (fun cdv A outer s H vs Q E hr h => ⟨_, PSs.nox
    (pss_cons (ps_set (i := 1) sc.nd rfl (Or.inl rfl) (pe_lst (pa_cons (pe_lst pa_nil) pa_nil))) (pss_cons (ps_for PassesOwn.never rfl (pi_list (pv 0)) (pg_tup rfl (pgs_cons (pg_name (i := 2) sc.nd rfl (Or.inr rfl)) (pgs_cons (pg_name (i := 3) sc.nd rfl (Or.inr rfl)) pgs_nil))) (pss_cons (ps_set (i := 4) sc.nd rfl (Or.inl rfl) (pe_lst pa_nil)) (pss_cons (ps_for PassesOwn.never rfl (pi_list (pv 1)) (pg_name (i := 5) sc.nd rfl (Or.inl rfl)) (pss_cons (ps_if (pt_not (pt_val (pe_callB (cr_any rfl) (by rfl) T.b_any bt_any (pa_cons (pe_lc (own := [("link", 6)]) (g := gName 6) rfl sc.nd (pi_list (pv 5)) (blkOk_by (by rfl)) (fun _ _ _ _ _ => (pg_name (i := 6) sc.nd rfl (Or.inl rfl))) (fun _ _ _ _ _ => pts_nil) (fun _ _ _ _ _ => (pe_or (pe_cmpR (opK (K := K) (r := M.rInT) rfl op_in_seq) (pv 2) (pv 6) (by rfl)) (pe_one (pe_cmpR (opK (K := K) (r := M.rInT) rfl op_in_seq) (pv 3) (pv 6) (by rfl)))))) pa_nil)))) (pss_cons (ps_expr (pe_bm PySem.F.plainAttrs_list PySem.F.slot_list_append PySem.F.type_list_append mt_append (pv 4) (pa_cons (pe_op op_cat (pv 5) (pe_lst (pa_cons (pe_tup (pa_cons (pv 2) (pa_cons (pv 3) pa_nil))) pa_nil))) pa_nil))) pss_nil) pss_nil) pss_nil)) (pss_cons (ps_set (i := 1) sc.nd rfl (Or.inl rfl) (pe_op op_cat (pv 1) (pv 4))) pss_nil)))) (pss_one (ps_ret (pv 1))))), fn1 (j := 6) rfl (fun links => ?_) vs H Q E h⟩), FunD.bindsN F fun _ _ _ _ _ _ us hl => match us, hl with | [_], _ => rfl, fn_look F⟩, F.kp, hg⟩
  unfold m__law_all
  exact (bm_asg rfl (em_of (en_lstP (by simp) (eh_consP (em_of en_nil) eh_nil))) (fun found => (bm_forP (S := (List (List (Int × Int)))) (G := (fun (s1 : (List (List (Int × Int)))) => [.no, .f s1, .no, .no, .no, .no, .no])) (s0 := found) (ei_list (em_var rfl)) (.n (.s (.s (.s (.s (.s (.s .nil))))))) (fun _ _ => tg_t2 rfl rfl) (fun s1 p2 => (bm_asgN rfl en_nil (fun more => (bm_forP (S := (List (List (Int × Int)))) (G := (fun (s3 : (List (List (Int × Int)))) => [.no, .f s1, .f p2.1, .f p2.2, .o s3, .no, .no])) (s0 := more) (ei_list (em_var rfl)) (.s (.s (.s (.s (.s (.s (.s .nil))))))) (fun _ _ => tg_name rfl) (fun s3 some_ => (bm_if (G := (fun (s7 : (List (List (Int × Int)))) => [.no, .f s1, .f p2.1, .f p2.2, .o s7, .no, .no])) (et_not (et_B (em_any (el_n (en_lcP (ei_list (em_var rfl)) (fun _ => tg_name rfl) (tw_name (by decide)) (fun _ => et_yes) (fun link => (em_orVP (em_inTP (em_var rfl) (em_re2P (em_var rfl))) (em_inTP (em_var rfl) (em_re2P (em_var rfl)))))))))) (bm_app (pl_var rfl) (em_of (en_catP (el_of (em_var rfl)) (el_n (en_lstP (by simp) (eh_consP (em_t2P (em_var rfl) (em_var rfl)) eh_nil))))) (fun more_1 => (bm_nx (.s (.s (.s (.s (.s (.n (.s .nil)))))))))) (bm_nx (.s (.s (.s (.s (.s (.n (.s .nil)))))))) (fun s7 => (bm_nxC (.s (.s (.s (.s (.s (.s (.s .nil))))))))))) (fun s3 => (bm_asg rfl (em_of (en_catP (el_of (em_var rfl)) (el_own rfl))) (fun found_1 => (bm_nxC (.s (.s (.n (.n (.n (.s (.s .nil))))))))))))))) (fun s1 => (bm_ret (em_var rfl))))))
theorem sc_law : FnScope ["script", "n", "way", "links", "every", "size", "some", "found", "due", "place", "link", "told"] ["script"] (defScope (top 24)) := ⟨rfl, rfl, rfl, by decide +kernel, rfl, by decide +kernel, by decide +kernel⟩
theorem ok_law (T : Tx K mg) (C : He.SaysD fa fn K) (hg : mg "law" = some (.ref (He.ga K "law"))) (F__law_all : Fn P w K mg base 1 "_law_all" ["links"] (sp1 K m__law_all)) (F__law_cell_at : Fn P w K mg base 1 "_law_cell_at" ["script", "k"] (sp2 K m__law_cell_at)) (F__law_links : Fn P w K mg base 2 "_law_links" ["script", "n", "shape", "share"] (spw4 K m__law_links (fun c => .o c))) (F__law_pairing : Fn P w K mg base 2 "_law_pairing" ["found", "links"] (sp2 K m__law_pairing)) (F__law_whole : Fn P w K mg base 1 "_law_whole" ["found"] (sp1 K m__law_whole)) (F_largest : Fn P w K mg base 6 "largest" ["n", "links"] (spw2 K m_largest (fun c => .ot_ [.o c.1, .o c.2]))) (F_left_alone : Fn P w K mg base 7 "left_alone" ["n", "links"] (spw2 K m_left_alone (fun c => .o c))) : Fn P w K mg base 8 "law" ["script"] (sp1 K m_law) := by
  obtain ⟨fd, F⟩ := C.def_ 27 (d := d_law) rfl
  have sc := sc_law
  refine ⟨⟨fd, F.ok sc len_M (fun cdv A outer s H vs Q E hr h => ⟨_, PSs.nox
    (pss_cons (ps_set (i := 1) sc.nd rfl (Or.inl rfl) (pe_op op_mod (pe_f F__law_cell_at (hr.mono (by decide)) (by rfl) (pa_cons (pv 0) (pa_cons pe_int pa_nil))) pe_int)) (pss_cons (ps_set (i := 2) sc.nd rfl (Or.inl rfl) (pe_f F__law_cell_at (hr.mono (by decide)) (by rfl) (pa_cons (pv 0) (pa_cons pe_int pa_nil)))) (pss_cons (ps_set (i := 3) sc.nd rfl (Or.inl rfl) (pe_f F__law_links (hr.mono (by decide)) (by rfl) (pa_cons (pv 0) (pa_cons (pv 1) (pa_cons (pe_op op_mod (pv 2) pe_int) (pa_cons (pe_op op_add pe_int (pe_op op_mod (pe_op op_fdivW (pv 2) pe_int) pe_int)) pa_nil)))))) (pss_cons (ps_set (i := 4) sc.nd rfl (Or.inl rfl) (pe_f F__law_all (hr.mono (by decide)) (by rfl) (pa_cons (pv 3) pa_nil))) (pss_cons (ps_set (i := 5) sc.nd rfl (Or.inr rfl) (pe_callB (cr_max rfl) (by rfl) T.b_max bt_max (pa_cons (pe_lc (own := [("some", 6)]) (g := gName 6) rfl sc.nd (pi_list (pv 4)) (blkOk_by (by rfl)) (fun _ _ _ _ _ => (pg_name (i := 6) sc.nd rfl (Or.inl rfl))) (fun _ _ _ _ _ => pts_nil) (fun _ _ _ _ _ => (pe_callB (crK (K := K) (r := Evl.rLenS) rfl call_lenS) (by rfl) T.b_len bt_len (pa_cons (pv 6) pa_nil)))) pa_nil))) (pss_cons (ps_set (i := 7) sc.nd rfl (Or.inl rfl) (pe_f F_largest (hr.mono (by decide)) (by rfl) (pa_cons (pv 1) (pa_cons (pe_callTy call_listS (by rfl) T.b_list bt_list (pa_cons (pv 3) pa_nil)) pa_nil)))) (pss_cons (ps_if (PW.pt (pw_or (pt_not (pt_val (pe_callB call_isi (by rfl) T.b_isinstance bt_isinstance (pa_cons (pv 7) (pa_cons (pe_bltn (v := .ty "tuple") (by rfl) T.b_tuple bt_tuple rfl) pa_nil))))) (pw_or (pt_cmpR op_ne (pe_callB call_lenS (by rfl) T.b_len bt_len (pa_cons (pv 7) pa_nil)) pe_int (nomark _)) (pw_or (pt_not (pt_val (pe_f F__law_pairing (hr.mono (by decide)) (by rfl) (pa_cons (pe_ix ix_tup (pv 7) pe_int (fun _ _ => rfl)) (pa_cons (pv 3) pa_nil))))) (pw_or1 (pt_cmpR op_ne (pe_callB call_lenS (by rfl) T.b_len bt_len (pa_cons (pe_ix ix_tup (pv 7) pe_int (fun _ _ => rfl)) pa_nil)) (pv 5) (nomark _))))))) (pss_one (ps_ret pe_bl)) pss_nil) (pss_cons (ps_set (i := 8) sc.nd rfl (Or.inl rfl) (pe_lst pa_nil)) (pss_cons (ps_for PassesOwn.never rfl (pi_range1 rfl T.b_range (pa_cons (pv 1) pa_nil)) (pg_name (i := 9) sc.nd rfl (Or.inr rfl)) (pss_cons (ps_if (pt_val (pe_callB (cr_any rfl) (by rfl) T.b_any bt_any (pa_cons (pe_lc (own := [("some", 6)]) (g := gName 6) rfl sc.nd (pi_list (pv 4)) (blkOk_by (by rfl)) (fun _ _ _ _ _ => (pg_name (i := 6) sc.nd rfl (Or.inl rfl))) (fun _ _ _ _ _ => pts_nil) (fun _ _ _ _ _ => (pe_and (pe_cmpR op_eq (pe_callB (crK (K := K) (r := Evl.rLenS) rfl call_lenS) (by rfl) T.b_len bt_len (pa_cons (pv 6) pa_nil)) (pv 5) (nomark _)) (pe_one (pe_not (pe_callB (crK (K := K) (r := rAny) rfl (cr_any rfl)) (by rfl) T.b_any bt_any (pa_cons (pe_lc (own := [("link", 10)]) (g := gName 10) rfl sc.nd (pi_listK (K := K) rfl (pv 6)) (blkOk_by (by rfl)) (fun _ _ _ _ _ => (pg_name (i := 10) sc.nd rfl (Or.inl rfl))) (fun _ _ _ _ _ => pts_nil) (fun _ _ _ _ _ => (pe_cmpR (opK (K := K) (r := M.rInT) rfl op_in_seq) (pv 9) (pv 10) (by rfl)))) pa_nil))))))) pa_nil))) (pss_cons (ps_expr (pe_bm PySem.F.plainAttrs_list PySem.F.slot_list_append PySem.F.type_list_append mt_append (pv 8) (pa_cons (pv 9) pa_nil))) pss_nil) pss_nil) pss_nil)) (pss_cons (ps_set (i := 11) sc.nd rfl (Or.inl rfl) (pe_f F_left_alone (hr.mono (by decide)) (by rfl) (pa_cons (pv 1) (pa_cons (pe_callTy call_listS (by rfl) T.b_list bt_list (pa_cons (pv 3) pa_nil)) pa_nil)))) (pss_one (ps_ret (pe_and (pe_callB call_isi (by rfl) T.b_isinstance bt_isinstance (pa_cons (pv 11) (pa_cons (pe_bltn (v := .ty "list") (by rfl) T.b_list bt_list rfl) pa_nil))) (pe_and (pe_callB (cr_all rfl) (by rfl) T.b_all bt_all (pa_cons (pe_lc (own := [("place", 9)]) (g := gName 9) rfl sc.nd (pi_list (pv 11)) (blkOk_by (by rfl)) (fun _ _ _ _ _ => (pg_name (i := 9) sc.nd rfl (Or.inl rfl))) (fun _ _ _ _ _ => pts_nil) (fun _ _ _ _ _ => (pe_f F__law_whole (hr.mono (by decide)) (by rfl) (pa_cons (pv 9) pa_nil)))) pa_nil)) (pe_one (pe_cmpR (op_eqD hr.units) (pv 11) (pv 8) (nomark _))))))))))))))))), fn1 (j := 11) rfl (fun script => ?_) vs H Q E h⟩), FunD.bindsN F fun _ _ _ _ _ _ us hl => match us, hl with | [_], _ => rfl, fn_look F⟩, F.kp, hg⟩
  unfold m_law
  exact (bm_asg rfl (em_modCM (by decide +kernel) (em_c2P (em_var rfl) em_int) em_int) (fun n => (bm_asg rfl (em_c2P (em_var rfl) em_int) (fun way => (bm_asg rfl (em_of (en_w (ew_c4P (em_var rfl) (em_var rfl) (em_modCP (by decide +kernel) (em_var rfl) em_int) (em_addP em_int (em_modCP (by decide +kernel) (em_divCP (by decide +kernel) (em_var rfl) em_int) em_int))))) (fun links => (bm_asg rfl (em_c1P (em_var rfl)) (fun every => (bm_asg rfl (em_maxL (el_n (en_lcP (ei_list (em_var rfl)) (fun _ => tg_name rfl) (tw_name (by decide)) (fun _ => et_yes) (fun some_ => (em_lenP (el_of (em_var rfl))))))) (fun size => (bm_asg rfl (em_w (ew_c2P (em_var rfl) (em_of (en_list (el_of (em_var rfl))))) (fun _ => rfl)) (fun found => (bm_ifT imp_F (et_or (et_notP (et_B (em_isiP (by decide +kernel) (em_var rfl)))) (et_or (et_test (em_neSP (em_lenT2P (em_var rfl)) em_int)) (et_or (et_not (et_B (em_c2P (em_fstP (em_var rfl)) (em_var rfl)))) (et_test (em_neSP (em_lenP (el_of (em_fstP (em_var rfl)))) (em_var rfl)))))) (bm_ret em_bl) (bm_asgNP rfl en_nil (bm_for (S := (List Int)) (G := (fun (s8 : (List Int)) => [.no, .f n, .no, .f links, .f every, .f size, .no, .no, .o s8, .no, .no, .no])) (s0 := ([] : List Int)) (ei_rng1P (em_var rfl)) (.n (.s (.n (.s (.s (.s (.s (.n (.s (.s (.s (.s .nil)))))))))))) (fun _ _ => tg_name rfl) (fun s8 place => (bm_if (G := (fun (s15 : (List Int)) => [.no, .f n, .no, .f links, .f every, .f size, .no, .no, .o s15, .no, .no, .no])) (et_B (em_any (el_n (en_lcP (ei_list (em_var rfl)) (fun _ => tg_name rfl) (tw_name (by decide)) (fun _ => et_yes) (fun some__1 => (em_andV (em_eqSP (em_lenP (el_of (em_var rfl))) (em_var rfl)) (em_notV (em_any (el_n (en_lcP (ei_list (em_var rfl)) (fun _ => tg_name rfl) (tw_name (by decide)) (fun _ => et_yes) (fun link => (em_inTP (em_var rfl) (em_re2P (em_var rfl)))))))))))))) (bm_appP (pl_var rfl) (em_var rfl) (fun due => (bm_nx (.s (.s (.s (.s (.s (.s (.s (.s (.s (.n (.s (.s .nil))))))))))))))) (bm_nx (.s (.s (.s (.s (.s (.s (.s (.s (.s (.n (.s (.s .nil))))))))))))) (fun s15 => (bm_nxC (.s (.s (.s (.s (.s (.s (.s (.s (.s (.s (.s (.s .nil)))))))))))))))) (fun s8 => (bm_asg rfl (em_of (en_w (ew_c2P (em_var rfl) (em_of (en_list (el_of (em_var rfl))))))) (fun told => (bm_ret (em_andV (em_isiLP (by decide +kernel) (el_of (em_var rfl))) (em_andV (em_all (el_n (en_lcP (ei_list (em_var rfl)) (fun _ => tg_name rfl) (tw_name (by decide)) (fun _ => et_yes) (fun place_1 => (em_c1P (em_var rfl)))))) (em_eqLP (by decide) (el_of (em_var rfl)) (el_own rfl)))))))))))))))))))))))
end
end T
/-! N1: plain rules for mirrors: Y m P says that m answers, and P of its answer -/
namespace M
open PySem L2
def Y {α : Type} (m : Option α) (P : α → Prop) : Prop := ∃ a, m = some a ∧ P a
section
variable {α β γ S R T : Type}
/-- (some a).bind f, by a step that is no mere unfolding (kinder to the checker) -/
theorem bs {a : α} {f : α → Option β} : (some a).bind f = f a := by
  have h := Option.bind_some (a := a) (f := f)
  exact h
theorem Y.pure {a : α} {P : α → Prop} (h : P a) : Y (some a) P := ⟨a, rfl, h⟩
theorem Y.of {m : Option α} {a : α} {P : α → Prop} (e : m = some a) (h : P a) : Y m P := ⟨a, e, h⟩
theorem Y.imp {m : Option α} {P Q : α → Prop} (h : Y m P) (k : ∀ a, P a → Q a) : Y m Q := by obtain ⟨a, e, p⟩ := h; exact ⟨a, e, k a p⟩
theorem Y.bind {m : Option α} {f : α → Option β} {P : α → Prop} {Q : β → Prop} (h : Y m P) (k : ∀ a, P a → Y (f a) Q) : Y (m.bind f) Q := by
  obtain ⟨a, e, p⟩ := h
  subst e
  exact k a p
theorem Y.map {m : Option α} {f : α → β} {Q : β → Prop} (h : Y m fun a => Q (f a)) : Y (m.map f) Q := by
  obtain ⟨a, e, p⟩ := h
  subst e
  exact ⟨f a, rfl, p⟩
theorem Y.ite {c : Bool} {a b : Option α} {P : α → Prop} (h1 : c = true → Y a P) (h2 : c = false → Y b P) : Y (if c = true then a else b) P := by
  cases c with
  | true => exact h1 rfl
  | false => exact h2 rfl
theorem Y.dite {c : Prop} [Decidable c] {a b : Option α} {P : α → Prop} (h1 : c → Y a P) (h2 : ¬c → Y b P) : Y (if decide c = true then a else b) P := by
  by_cases h : c
  · rw [if_pos (decide_eq_true h)]; exact h1 h
  · rw [if_neg (by rw [decide_eq_false h]; decide)]; exact h2 h
theorem Y.eq {m : Option α} {a : α} (h : Y m fun x => x = a) : m = some a := by obtain ⟨x, e, p⟩ := h; rw [e, p]
theorem Y.get {m : Option α} {a : α} {P : α → Prop} (h : Y m P) (e : m = some a) : P a := by
  obtain ⟨x, e1, p⟩ := h
  rw [e] at e1; cases e1; exact p
theorem Y.fold {f : S → α → Option S} {xs : List α} {s0 : S} (I : List α → S → Prop) (h0 : I [] s0) (hs : ∀ pre x post s, xs = pre ++ x :: post → I pre s → Y (f s x) (I (pre ++ [x]))) : Y (List.foldlM (m := Option) f s0 xs) (I xs) := by
  have key : ∀ post pre s, xs = pre ++ post → I pre s → Y (List.foldlM (m := Option) f s post) (I xs) := by
    intro post
    induction post with
    | nil => intro pre s e h; rw [List.append_nil] at e; subst e; exact ⟨s, rfl, h⟩
    | cons x post ih =>
      intro pre s e h
      obtain ⟨s', e1, h'⟩ := hs pre x post s e h
      rw [List.foldlM_cons, e1]
      exact ih (pre ++ [x]) s' (by rw [e]; simp) h'
  exact key xs [] s0 rfl h0
theorem Y.fold1 {f : S → α → Option S} {xs : List α} {s0 : S} (I : S → Prop) (h0 : I s0) (hs : ∀ s x, x ∈ xs → I s → Y (f s x) I) : Y (List.foldlM (m := Option) f s0 xs) I :=
  Y.fold (I := fun _ => I) h0 fun pre x post s e h => hs s x (by rw [e]; simp) h
def LoP (Q : S → Prop) (C : R → Prop) : Lo S R → Prop
  | .dn s => Q s
  | .rt r => C r
def StP (I B : S → Prop) (C : R → Prop) : Stp S R → Prop
  | .go s => I s
  | .bk s => B s
  | .rt r => C r
theorem Y.loop {f : S → α → Option (Stp S R)} {xs : List α} {s0 : S} (I : List α → S → Prop) {Q : S → Prop} {C : R → Prop} (h0 : I [] s0) (hs : ∀ pre x post s, xs = pre ++ x :: post → I pre s → Y (f s x) (StP (I (pre ++ [x])) Q C)) (hn : ∀ s, I xs s → Q s) : Y (loopM f xs s0) (LoP Q C) := by
  have key : ∀ post pre s, xs = pre ++ post → I pre s → Y (loopM f post s) (LoP Q C) := by
    intro post
    induction post with
    | nil => intro pre s e h; rw [List.append_nil] at e; subst e; exact ⟨.dn s, rfl, hn s h⟩
    | cons x post ih =>
      intro pre s e h
      obtain ⟨o, e1, h'⟩ := hs pre x post s e h
      rw [loopM, e1]
      cases o with
      | go s' => exact ih (pre ++ [x]) s' (by rw [e]; simp) h'
      | bk s' => exact ⟨.dn s', rfl, h'⟩
      | rt r => exact ⟨.rt r, rfl, h'⟩
  exact key xs [] s0 rfl h0
theorem Y.fin {m : Option (Lo S R)} {k : S → Option T} {ρ : R → T} {Q : S → Prop} {C : R → Prop} {P : T → Prop} (h : Y m (LoP Q C)) (h1 : ∀ s, Q s → Y (k s) P) (h2 : ∀ r, C r → P (ρ r)) : Y (m.bind (Lo.fin k ρ)) P := by
  obtain ⟨o, e, p⟩ := h
  subst e
  cases o with
  | dn s => exact h1 s p
  | rt r => exact ⟨ρ r, rfl, h2 r p⟩
/-- a while, by a measure -/
theorem Y.whileS {c : S → Option Bool} {f : S → Option (Stp S R)} {s0 : S} (I : S → Prop) (μ : S → Nat) {Q : S → Prop} {C : R → Prop} (h0 : I s0)
    (hs : ∀ s, I s → ∃ b, c s = some b ∧ (b = false → Q s) ∧ (b = true → Y (f s) (StP (fun s' => I s' ∧ μ s' < μ s) Q C))) : Y (M.whileS c f s0) (LoP Q C) := by
  have key : ∀ n s, μ s < n → I s → ∃ r, wl c f n s = some r ∧ LoP Q C r := by
    intro n
    induction n with
    | zero => intro s h; omega
    | succ n ih =>
      intro s hm hI
      obtain ⟨b, e1, h1, h2⟩ := hs s hI
      rw [wl, e1]
      cases b with
      | false => exact ⟨.dn s, rfl, h1 rfl⟩
      | true =>
        obtain ⟨o, e2, h3⟩ := h2 rfl
        rw [Option.bind_some, if_pos rfl, e2]
        cases o with
        | go s' => exact ih s' (by have := h3.2; omega) h3.1
        | bk s' => exact ⟨.dn s', rfl, h3⟩
        | rt r => exact ⟨.rt r, rfl, h3⟩
  obtain ⟨r, e, h⟩ := key (μ s0 + 1) s0 (Nat.lt_succ_self _) h0
  exact ⟨r, whileS_iff.mpr ⟨_, e⟩, h⟩
theorem Y.whileM {c : S → Option Bool} {f : S → Option S} {s0 : S} (I : S → Prop) (μ : S → Nat) {Q : S → Prop} (h0 : I s0)
    (hs : ∀ s, I s → ∃ b, c s = some b ∧ (b = false → Q s) ∧ (b = true → Y (f s) (fun s' => I s' ∧ μ s' < μ s))) : Y (M.whileM c f s0) Q := by
  have h : Y (M.whileS (R := Empty) c (fun s => (f s).map .go) s0) (LoP Q fun _ => False) := Y.whileS I μ h0 fun s hI => by
    obtain ⟨b, e1, h1, h2⟩ := hs s hI
    refine ⟨b, e1, h1, fun hb => ?_⟩
    obtain ⟨s', e, h3⟩ := h2 hb
    rw [e]
    exact ⟨.go s', rfl, h3⟩
  obtain ⟨o, e, p⟩ := h
  unfold M.whileM
  rw [e]
  cases o with
  | dn s => exact ⟨s, rfl, p⟩
  | rt r => exact r.elim
/-! ### small parts -/
theorem sizeLine_val : sizeLine = 16777216 := by decide
theorem apM_some {xs : List α} {a : α} (h : xs.length < 16777216) : apM xs a = some (xs ++ [a]) := by unfold apM; rw [if_pos (by rw [sizeLine_val]; exact h)]
theorem exM_some {xs ys : List α} (h : xs.length + ys.length ≤ 16777216) : exM xs ys = some (xs ++ ys) := by unfold exM; rw [if_pos (by rw [sizeLine_val]; exact h)]
theorem dpM_some {d : Dk α} {k : Key} {a : α} (h : d.kvs.length < 16777216) : dpM d k a = some ⟨put d.kvs k a⟩ := by unfold dpM; rw [if_pos (by rw [sizeLine_val]; exact h)]
theorem atI_nat {xs : List α} {i : Nat} (h : i < xs.length) : atI xs (i : Int) = some xs[i] := by
  unfold atI ixN
  rw [if_pos (by omega), if_pos (by omega)]
  simp
theorem atI_of {xs : List α} {i : Int} (h0 : 0 ≤ i) (h : i < xs.length) : ∃ a, atI xs i = some a ∧ a ∈ xs := by
  obtain ⟨n, rfl⟩ := Int.eq_ofNat_of_zero_le h0
  have h' : n < xs.length := by omega
  exact ⟨xs[n], atI_nat h', List.getElem_mem h'⟩
theorem mulM_small {a b : Int} {n m : Nat} (ha : a.natAbs < 2 ^ n) (hb : b.natAbs < 2 ^ m) (h0 : 0 < n := by decide) (h1 : 0 < m := by decide) (h : n + m ≤ 1000000 := by decide) : mulM a b = some (a * b) := by
  unfold mulM; rw [if_pos (.inr (wide_mul ha hb h0 h1 h))]
theorem mulM_left {a b : Int} (h : -(2 ^ 64) < a) (h' : a < 2 ^ 64) : mulM a b = some (a * b) := by
  unfold mulM; rw [if_pos (.inl (.inl ⟨h, h'⟩))]
theorem mulM_right {a b : Int} (h : -(2 ^ 64) < b) (h' : b < 2 ^ 64) : mulM a b = some (a * b) := by
  unfold mulM; rw [if_pos (.inl (.inr ⟨h, h'⟩))]
theorem mulM_l {a b : Int} (h : -1000000 ≤ a) (h' : a ≤ 1000000) : mulM a b = some (a * b) := mulM_left (Int.lt_of_lt_of_le (by decide) h) (Int.lt_of_le_of_lt h' (by decide))
theorem mulM_r {a b : Int} (h : -1000000 ≤ b) (h' : b ≤ 1000000) : mulM a b = some (a * b) := mulM_right (Int.lt_of_lt_of_le (by decide) h) (Int.lt_of_le_of_lt h' (by decide))
theorem rngM_some {a b : Int} (h1 : -(2 ^ 62) ≤ a := by omega) (h2 : a < 2 ^ 62 := by omega) (h3 : -(2 ^ 62) ≤ b := by omega) (h4 : b < 2 ^ 62 := by omega) : rngM a b = some (rngL a b) := by
  unfold rngM; rw [if_pos ⟨⟨h1, h2⟩, ⟨h3, h4⟩⟩]
theorem rngL_len {a b : Int} : (rngL a b).length = (b - a).toNat := by simp [rngL]
theorem rngL_mem {a b i : Int} : i ∈ rngL a b ↔ a ≤ i ∧ i < b := by
  unfold rngL
  rw [List.mem_map]
  constructor
  · rintro ⟨n, hn, rfl⟩
    have := List.mem_range.mp hn
    omega
  · rintro ⟨h1, h2⟩
    exact ⟨(i - a).toNat, List.mem_range.mpr (by omega), by omega⟩
theorem rngL_get {a b : Int} {k : Nat} (h : k < (b - a).toNat) : (rngL a b)[k]? = some (a + k) := by
  unfold rngL
  rw [List.getElem?_map, List.getElem?_range h]; rfl
theorem rngL_nil {a b : Int} (h : b ≤ a) : rngL a b = [] := List.eq_nil_of_length_eq_zero (by rw [rngL_len]; omega)
theorem rngL_snoc {a b : Int} (h : a ≤ b) : rngL a (b + 1) = rngL a b ++ [b] := by
  unfold rngL
  have e : (b + 1 - a).toNat = (b - a).toNat + 1 := by omega
  rw [e, List.range_succ, List.map_append]
  congr 1
  simp only [List.map_cons, List.map_nil]
  congr 1; omega
theorem rngL_cons {a b : Int} (h : a < b) : rngL a b = a :: rngL (a + 1) b := by
  unfold rngL
  have e : (b - a).toNat = (b - (a + 1)).toNat + 1 := by omega
  rw [e, List.range_succ_eq_map, List.map_cons, List.map_map]
  congr 1
  · simp
  · apply List.map_congr_left
    intro x _
    simp only [Function.comp]
    omega
theorem rngL_pre {a b x : Int} {pre post : List Int} (h : rngL a b = pre ++ x :: post) : pre = rngL a x ∧ a ≤ x ∧ x < b := by
  have hx : x ∈ rngL a b := by rw [h]; simp
  obtain ⟨h1, h2⟩ := rngL_mem.mp hx
  have e : (rngL a b)[pre.length]? = some x := by rw [h]; simp
  have hl : pre.length < (b - a).toNat := by
    have := congrArg List.length h
    rw [rngL_len, List.length_append, List.length_cons] at this; omega
  rw [rngL_get hl] at e
  have ex : a + pre.length = x := by simpa using e
  refine ⟨?_, h1, h2⟩
  apply List.ext_getElem?
  intro i
  by_cases hi : i < pre.length
  · rw [rngL_get (by omega), ← rngL_get (b := b) (by omega), h, List.getElem?_append_left hi]
  · rw [List.getElem?_eq_none (by omega), List.getElem?_eq_none (by rw [rngL_len]; omega)]
/-- a range, walked: the invariant speaks of how far it went -/
theorem Y.rng {f : S → Int → Option S} {a b : Int} {s0 : S} (I : Int → S → Prop) (hab : a ≤ b) (h0 : I a s0) (hs : ∀ i s, a ≤ i → i < b → I i s → Y (f s i) (I (i + 1))) : Y (List.foldlM (m := Option) f s0 (rngL a b)) (I b) := by
  refine (Y.fold (I := fun pre s => I (a + pre.length) s) (by simpa using h0) fun pre x post s e h => ?_).imp fun s h => by
    rw [rngL_len] at h
    have : a + ((b - a).toNat : Int) = b := by omega
    rwa [this] at h
  obtain ⟨e1, h1, h2⟩ := rngL_pre e
  subst e1
  simp only [List.length_append, rngL_len, List.length_cons, List.length_nil] at h ⊢
  have ex : a + ((x - a).toNat : Int) = x := by omega
  rw [ex] at h
  refine (hs x s h1 h2 h).imp fun s' h' => ?_
  have : a + (((x - a).toNat + (0 + 1) : Nat) : Int) = x + 1 := by omega
  rw [this]; exact h'
theorem Y.rngE {f : S → Int → Option S} {a b : Int} {s0 : S} (I : S → Prop) (h0 : I s0) (hs : ∀ i s, a ≤ i → i < b → I s → Y (f s i) I) : Y (List.foldlM (m := Option) f s0 (rngL a b)) I :=
  Y.fold1 I h0 fun s x hx h => hs x s (rngL_mem.mp hx).1 (rngL_mem.mp hx).2 h
theorem eqB_self {α : Type} [Enc α] [E : EqD α] (a : α) : eqB a a = true := by unfold eqB; simp
theorem memB_not {α : Type} [Enc α] [E : EqD α] {a : α} {xs : List α} : memB a xs = false ↔ ¬ a ∈ xs := by
  rw [← memB_iff (xs := xs)]; cases memB a xs <;> simp
theorem pw_eq (a : Int) (n : Nat) : pw a (n : Int) = a ^ n := rfl
theorem pw_pos {a b : Int} (h : 0 < a) : 0 < pw a b := Int.pow_pos h
theorem pw_log {n : Nat} {i : Int} (h : i.natAbs < 10 ^ n) : i.natAbs < 2 ^ (4 * n) := by
  refine Nat.lt_of_lt_of_le h ?_
  rw [Nat.pow_mul]
  exact Nat.pow_le_pow_left (by decide) n
/-! ### comprehensions -/
theorem lcM_eq {c : α → Option Bool} {e : α → Option β} {p : α → Bool} {f : α → β} {xs : List α} (h : xs.length < 16777216) (hc : ∀ x ∈ xs, c x = some (p x)) (he : ∀ x ∈ xs, p x = true → e x = some (f x)) : lcM c e xs = some ((xs.filter p).map f) := by
  unfold lcM
  rw [if_pos (by rw [sizeLine_val]; exact h)]
  clear h
  induction xs with
  | nil => rfl
  | cons x xs ih =>
    have ih := ih (fun y hy => hc y (List.mem_cons_of_mem _ hy)) (fun y hy => he y (List.mem_cons_of_mem _ hy))
    rw [compM, hc x List.mem_cons_self]
    cases hp : p x with
    | false => simp [ih, hp]
    | true => simp [ih, hp, he x List.mem_cons_self hp]
theorem lcM_map {e : α → Option β} {f : α → β} {xs : List α} (h : xs.length < 16777216) (he : ∀ x ∈ xs, e x = some (f x)) : lcM (fun _ => some true) e xs = some (xs.map f) := by
  rw [lcM_eq (p := fun _ => true) h (fun _ _ => rfl) fun x hx _ => he x hx]
  rw [List.filter_eq_self.mpr fun _ _ => rfl]
theorem lcM_tot {e : α → Option β} {xs : List α} (h : xs.length < 16777216) (he : ∀ x ∈ xs, ∃ y, e x = some y) : ∃ ys, lcM (fun _ => some true) e xs = some ys ∧ ys.length = xs.length := by
  classical
  cases xs with
  | nil => exact ⟨[], rfl, rfl⟩
  | cons a as =>
    obtain ⟨b, _⟩ := he a List.mem_cons_self
    refine ⟨_, lcM_map (f := fun x => if hx : ∃ y, e x = some y then hx.choose else b) h fun x hx => ?_, List.length_map ..⟩
    have hx := he x hx
    rw [dif_pos hx]
    exact hx.choose_spec
/-! ### dicts -/
section
variable {κ : Type} [DecidableEq κ]
theorem look_nil {k : κ} : look ([] : List (κ × α)) k = none := rfl
theorem look_cons {kvs : List (κ × α)} {p : κ × α} {k : κ} : look (p :: kvs) k = if p.1 = k then some p.2 else look kvs k := by
  unfold look
  rw [List.find?_cons]
  by_cases h : p.1 = k <;> simp [h]
theorem look_put {kvs : List (κ × α)} {k j : κ} {v : α} : look (put kvs k v) j = if j = k then some v else look kvs j := by
  unfold put
  by_cases h : (kvs.any fun kv => decide (kv.1 = k)) = true
  · rw [if_pos h]
    have : ∀ l : List (κ × α), (l.any fun kv => decide (kv.1 = k)) = true → look (l.map fun kv => if kv.1 = k then (kv.1, v) else kv) j = if j = k then some v else look l j := by
      intro l
      induction l with
      | nil => intro h; simp at h
      | cons p l ih =>
        intro h
        rw [List.map_cons, look_cons, look_cons]
        by_cases hp : p.1 = k
        · rw [if_pos hp]
          by_cases hj : j = k
          · subst hj; simp [hp]
          · have h1 : ¬ p.1 = j := by rw [hp]; exact fun e => hj e.symm
            simp only [if_neg hj, if_neg h1]
            clear ih h
            induction l with
            | nil => rfl
            | cons q l ih2 =>
              rw [List.map_cons, look_cons, look_cons]
              by_cases hq : q.1 = k
              · rw [if_pos hq]
                have h2 : ¬ q.1 = j := by rw [hq]; exact fun e => hj e.symm
                simp only [if_neg h2]; exact ih2
              · rw [if_neg hq]; rw [ih2]
        · rw [if_neg hp]
          have h' : (l.any fun kv => decide (kv.1 = k)) = true := by simpa [hp] using h
          rw [ih h']
          by_cases hj : p.1 = j
          · have : ¬ j = k := fun e => hp (hj.trans e)
            simp [hj, this]
          · simp [hj]
    exact this kvs h
  · rw [if_neg h]
    have h' : ∀ p ∈ kvs, ¬ p.1 = k := fun p hp e => h (List.any_eq_true.mpr ⟨p, hp, decide_eq_true e⟩)
    clear h
    induction kvs with
    | nil =>
      rw [List.nil_append, look_cons]
      by_cases hj : j = k
      · subst hj; simp
      · have : ¬ k = j := fun e => hj e.symm
        simp [hj, this, look_nil]
    | cons p l ih =>
      rw [List.cons_append, look_cons, look_cons, ih fun q hq => h' q (List.mem_cons_of_mem _ hq)]
      by_cases hp : p.1 = j
      · have : ¬ j = k := fun e => h' p List.mem_cons_self (hp.trans e)
        simp [hp, this]
      · simp [hp]
theorem put_len {kvs : List (κ × α)} {k : κ} {v : α} : (put kvs k v).length ≤ kvs.length + 1 := by
  unfold put
  split <;> simp
end
end
/-! ### a script's cells -/
theorem Y.cell {ns : List Int} {k : Int} (h : 0 ≤ k) : ∃ c, (if (decide (k < (ns.length : Int))) = true then (atI ns k) else (some (((11 : Int) * k) + (5 : Int)))) = some c := by
  by_cases hk : k < (ns.length : Int)
  · rw [if_pos (decide_eq_true hk)]
    obtain ⟨a, e, _⟩ := atI_of h hk
    exact ⟨a, e⟩
  · rw [if_neg (by rw [decide_eq_false hk]; decide)]; exact ⟨_, rfl⟩
end M
/-! N2: texts as lists of signs -/
namespace M
open PySem L2
def cl (x : Str) : List Nat := x.cps.toList
def tx (l : List Nat) : Str := ⟨l.toArray⟩
theorem cl_tx (l : List Nat) : cl (tx l) = l := rfl
theorem cl_one (c : Nat) : cl ⟨#[c]⟩ = [c] := rfl
theorem cl_ext {x y : Str} (h : cl x = cl y) : x = y := by
  cases x; cases y
  congr
  exact Array.ext' h
theorem cl_iff {x y : Str} : x = y ↔ cl x = cl y := ⟨fun h => by rw [h], cl_ext⟩
theorem tx_cl (x : Str) : tx (cl x) = x := cl_ext rfl
theorem tx_inj {a b : List Nat} : tx a = tx b ↔ a = b := ⟨fun h => by have := congrArg cl h; exact this, fun h => by rw [h]⟩
theorem len_cl (x : Str) : x.length = (cl x).length := by cases x; simp [cl, Str.length]
theorem cl_append (a b : Str) : cl (a ++ b) = cl a ++ cl b := by
  show (a.cps ++ b.cps).toList = _
  rw [Array.toList_append]; rfl
theorem addS_some {a b : Str} (h : (cl a).length + (cl b).length ≤ 16777216) : addS a b = some (a ++ b) := by
  unfold addS
  rw [len_cl, len_cl, if_pos (by rw [sizeLine_val]; exact h)]
theorem addS_tx {a b : List Nat} (h : a.length + b.length ≤ 16777216) : addS (tx a) (tx b) = some (tx (a ++ b)) := by
  rw [addS_some (a := tx a) (b := tx b) h]
  congr 1
  exact cl_ext (cl_append _ _)
theorem lenS_some {x : Str} (h : (cl x).length ≤ 16777216) : lenS x = some ((cl x).length : Int) := by
  unfold lenS
  rw [len_cl, if_pos (by rw [sizeLine_val]; exact h)]
theorem atS_some {x : Str} {i : Int} {c : Nat} (h : (cl x).length ≤ 16777216) (e : atI (cl x) i = some c) : atS x i = some (tx [c]) := by
  unfold atS
  rw [len_cl, if_pos (by rw [sizeLine_val]; exact h)]
  rw [show atI x.cps.toList i = some c from e]; rfl
theorem atI_neg {α : Type} {xs : List α} {k : Nat} (h0 : 0 < k) (h : k ≤ xs.length) : atI xs (-(k : Int)) = xs[xs.length - k]? := by
  unfold atI ixN
  rw [if_neg (by omega), if_pos (by omega)]
  show xs[(-(k : Int) + (xs.length : Int)).toNat]? = _
  congr 1; omega
theorem atI_last {α : Type} {xs : List α} {a : α} : atI (xs ++ [a]) (-1) = some a := by
  have := atI_neg (xs := xs ++ [a]) (k := 1) (by decide) (by simp)
  simpa using this
theorem atI_last2 {α : Type} {xs : List α} {a b : α} : atI (xs ++ [a, b]) (-2) = some a := by
  have := atI_neg (xs := xs ++ [a, b]) (k := 2) (by decide) (by simp)
  simpa using this
theorem cutL_from {α : Type} {xs : List α} {k : Nat} (h : k ≤ xs.length) : cutL xs (some (k : Int)) none = xs.drop k := by
  unfold cutL
  rw [HT.sIx_nat, HT.sIx_none, Nat.min_eq_left h]
  exact List.take_of_length_le (by rw [List.length_drop]; omega)
theorem cutL_to {α : Type} {xs : List α} {k : Nat} (h : k ≤ xs.length) : cutL xs none (some (k : Int)) = xs.take k := by
  unfold cutL
  rw [HT.sIx_nat, HT.sIx_none, Nat.min_eq_left h, List.drop_zero, Nat.sub_zero]
theorem cutL_fromI {α : Type} {xs : List α} {k : Int} (h0 : 0 ≤ k) (h : k ≤ xs.length) : cutL xs (some k) none = xs.drop k.toNat := by
  obtain ⟨n, rfl⟩ := Int.eq_ofNat_of_zero_le h0
  exact cutL_from (by omega)
theorem cutL_toI {α : Type} {xs : List α} {k : Int} (h0 : 0 ≤ k) (h : k ≤ xs.length) : cutL xs none (some k) = xs.take k.toNat := by
  obtain ⟨n, rfl⟩ := Int.eq_ofNat_of_zero_le h0
  exact cutL_to (by omega)
theorem cutL_neg {α : Type} {xs : List α} {k : Nat} (h0 : 0 < k) : cutL xs (some (-(k : Int))) none = xs.drop (xs.length - k) := by
  unfold cutL
  have e : HT.sIx xs.length 0 (some (-(k : Int))) = xs.length - k := by
    show (if (-(k : Int)) < 0 then (-(k : Int) + (xs.length : Int)).toNat else _) = _
    rw [if_pos (by omega)]; omega
  rw [e, HT.sIx_none]
  exact List.take_of_length_le (by rw [List.length_drop]; omega)
theorem cutSM_some {x : Str} {l r : Option Int} (h : (cl x).length ≤ 16777216) : cutSM x l r = some (tx (cutL (cl x) l r)) := by
  unfold cutSM
  rw [len_cl, if_pos (by rw [sizeLine_val]; exact h)]
  unfold cutS cutL
  rw [len_cl]; rfl
theorem signs_eq (x : Str) : signs x = (cl x).map fun c => tx [c] := rfl
open Builtin Builtin.Str in
theorem occ_run (x : Str) (c lim : Nat) : ∀ (n lo : Nat) (st : Array Nat × Nat), st.2 ≤ lo → st.1.size + (cl x).length < lim + lo → lo ≤ (cl x).length →  n = (cl x).length + 1 - lo →
    (forIn (List.range' lo n) st (StrLaws.occBody x ⟨#[c]⟩ x.length lim)).run.fst.size = st.1.size + ((cl x).drop lo).count c
  | 0, lo, st, h1, h2, h4, h3 => by omega
  | n + 1, lo, st, h1, h2, h4, h3 => by
    rw [List.range'_succ, List.forIn_cons]
    unfold StrLaws.occBody
    by_cases hlo : lo < (cl x).length
    · have ed : (cl x).drop lo = (cl x)[lo] :: (cl x).drop (lo + 1) := List.drop_eq_getElem_cons hlo
      by_cases hc : (cl x)[lo] = c
      · have hs := (StrLaws.subAt_one x c lo).mpr (by show (cl x)[lo]? = _; rw [List.getElem?_eq_getElem hlo, hc])
        rw [if_pos ⟨⟨⟨by omega, h1⟩, hs.1⟩, hs.2⟩]
        have ih := occ_run x c lim n (lo + 1) (st.1.push lo, lo + 1) (Nat.le_refl _) (by simp only [Array.size_push]; omega) (by omega) (by omega)
        refine ih.trans ?_
        rw [ed, hc, List.count_cons_self, Array.size_push]; omega
      · rw [if_neg (fun h => hc (by
          have := (StrLaws.subAt_one x c lo).mp ⟨h.1.2, h.2⟩
          have h' : (cl x)[lo]? = some c := this
          rw [List.getElem?_eq_getElem hlo] at h'
          exact Option.some.inj h'))]
        have ih := occ_run x c lim n (lo + 1) st (by omega) (by omega) (by omega) (by omega)
        refine ih.trans ?_
        rw [ed, List.count_cons_of_ne hc]
    · have e : lo = (cl x).length := by omega
      have e0 : n = 0 := by omega
      subst e0
      rw [if_neg (fun h => by
        have := (StrLaws.subAt_one x c lo).mp ⟨h.1.2, h.2⟩
        have h' : (cl x)[lo]? = some c := this
        rw [List.getElem?_eq_none (by omega)] at h'
        cases h')]
      rw [List.drop_eq_nil_of_le (by omega)]
      rfl
theorem count_one (x : Str) (c : Nat) : Txt.count x ⟨#[c]⟩ = (((cl x).count c : Nat) : Int) := by
  unfold Txt.count
  rw [StrLaws.occ_eq, Array.length_toList]
  congr 1
  have := occ_run x c (x.length + 1) (x.length + 1 - 0) 0 (#[], 0) (Nat.le_refl _) (by rw [len_cl]; simp) (Nat.zero_le _) (by rw [len_cl])
  refine this.trans ?_
  simp
theorem ends_iff (x y : Str) : Txt.endswith x y = decide (cl y <:+ cl x) := by
  unfold Txt.endswith
  rw [Bool.eq_iff_iff, Bool.and_eq_true, decide_eq_true_eq, decide_eq_true_eq, StrLaws.subAt_eq, beq_iff_eq, len_cl, len_cl, Nat.zero_add]
  show (_ ∧ ((cl x).drop _).take _ = cl y) ↔ _
  constructor
  · rintro ⟨h1, h2⟩
    rw [List.take_of_length_le (by rw [List.length_drop]; omega)] at h2
    have := List.take_append_drop ((cl x).length - (cl y).length) (cl x)
    rw [h2] at this
    exact ⟨_, this⟩
  · rintro ⟨t, h⟩
    rw [← h]
    simp
theorem inG_one {c : Nat} {x : Str} : inG (tx [c]) x = some (decide (c ∈ cl x)) := rfl
theorem ninG_one {c : Nat} {x : Str} : ninG (tx [c]) x = some (!decide (c ∈ cl x)) := rfl
theorem ok_str {x : Str} (h : ∀ c ∈ cl x, c < 1114112) : (M.EqD.ok x) = true := by
  show x.cps.all (fun c => decide (c < 0x110000)) = true
  rw [← Array.all_toList, List.all_eq_true]
  exact fun c hc => decide_eq_true (h c hc)
end M
/-! N3: lists as functions of a place -/
namespace M
open PySem L2
section
variable {α β γ S R T : Type}
def ge [Inhabited α] (xs : List α) (i : Int) : α := xs.getD i.toNat default
def up (xs : List α) (i : Int) (a : α) : List α := xs.set i.toNat a
variable [Inhabited α] [Inhabited β]
theorem up_len (xs : List α) (i : Int) (a : α) : (up xs i a).length = xs.length := List.length_set
theorem ge_get {xs : List α} {i : Nat} (h : i < xs.length) : ge xs (i : Int) = xs[i] := by
  unfold ge
  simp [List.getD_eq_getElem?_getD, List.getElem?_eq_getElem h]
theorem atI_ge {xs : List α} {i : Int} (h0 : 0 ≤ i) (h : i < xs.length) : atI xs i = some (ge xs i) := by
  obtain ⟨n, rfl⟩ := Int.eq_ofNat_of_zero_le h0
  have h' : n < xs.length := by omega
  rw [atI_nat h', ge_get h']
theorem stM_up {xs : List α} {i : Int} {a : α} (h0 : 0 ≤ i) (h : i < xs.length) : stM xs i a = some (up xs i a) := by
  unfold stM ixN up
  rw [if_pos h0, if_pos h]; rfl
theorem ge_up {xs : List α} {i j : Int} {a : α} (h0 : 0 ≤ i) (h : i < xs.length) (j0 : 0 ≤ j) : ge (up xs i a) j = if j = i then a else ge xs j := by
  obtain ⟨n, rfl⟩ := Int.eq_ofNat_of_zero_le h0
  obtain ⟨m, rfl⟩ := Int.eq_ofNat_of_zero_le j0
  unfold ge up
  have h' : n < xs.length := by omega
  simp only [Int.toNat_natCast, List.getD_eq_getElem?_getD, List.getElem?_set]
  by_cases e : n = m
  · subst e; simp [h']
  · have e' : ¬ ((m : Int) = (n : Int)) := fun x => e (by omega)
    simp [e, e']
theorem ge_up_same {xs : List α} {i : Int} {a : α} (h0 : 0 ≤ i) (h : i < xs.length) : ge (up xs i a) i = a := by rw [ge_up h0 h h0, if_pos rfl]
theorem ge_up_ne {xs : List α} {i j : Int} {a : α} (h0 : 0 ≤ i) (h : i < xs.length) (j0 : 0 ≤ j) (e : j ≠ i) : ge (up xs i a) j = ge xs j := by rw [ge_up h0 h j0, if_neg e]
theorem ge_mem {xs : List α} {i : Int} (h0 : 0 ≤ i) (h : i < xs.length) : ge xs i ∈ xs := by
  obtain ⟨n, rfl⟩ := Int.eq_ofNat_of_zero_le h0
  have h' : n < xs.length := by omega
  rw [ge_get h']; exact List.getElem_mem h'
theorem mem_ge {xs : List α} {x : α} : x ∈ xs ↔ ∃ i : Int, 0 ≤ i ∧ i < xs.length ∧ ge xs i = x := by
  constructor
  · intro h
    obtain ⟨n, hn, e⟩ := List.getElem_of_mem h
    exact ⟨n, by omega, by omega, by rw [ge_get hn]; exact e⟩
  · rintro ⟨i, h0, h, rfl⟩; exact ge_mem h0 h
theorem ge_append_left {xs ys : List α} {i : Int} (h0 : 0 ≤ i) (h : i < xs.length) : ge (xs ++ ys) i = ge xs i := by
  obtain ⟨n, rfl⟩ := Int.eq_ofNat_of_zero_le h0
  have h' : n < xs.length := by omega
  rw [ge_get h', ge_get (by simp; omega), List.getElem_append_left h']
theorem ge_append_right {xs ys : List α} {i : Int} (h : xs.length ≤ i) : ge (xs ++ ys) i = ge ys (i - xs.length) := by
  unfold ge
  have h1 : xs.length ≤ i.toNat := by omega
  have h2 : (i - (xs.length : Int)).toNat = i.toNat - xs.length := by omega
  rw [List.getD_eq_getElem?_getD, List.getElem?_append_right h1, h2, List.getD_eq_getElem?_getD]
theorem ge_last {xs : List α} {a : α} : ge (xs ++ [a]) (xs.length : Int) = a := by
  rw [ge_append_right (Int.le_refl _)]
  simp [ge]
theorem ge_map {xs : List α} {f : α → β} {i : Int} (h0 : 0 ≤ i) (h : i < xs.length) : ge (xs.map f) i = f (ge xs i) := by
  obtain ⟨n, rfl⟩ := Int.eq_ofNat_of_zero_le h0
  have h' : n < xs.length := by omega
  rw [ge_get h', ge_get (by simpa using h')]; simp
theorem ge_rng {a b i : Int} (h0 : 0 ≤ i) (h : i < b - a) : ge (rngL a b) i = a + i := by
  obtain ⟨n, rfl⟩ := Int.eq_ofNat_of_zero_le h0
  unfold ge
  rw [Int.toNat_natCast, List.getD_eq_getElem?_getD, rngL_get (by omega)]; rfl
theorem ext_ge {xs ys : List α} (hl : xs.length = ys.length) (h : ∀ i : Int, 0 ≤ i → i < xs.length → ge xs i = ge ys i) : xs = ys := by
  apply List.ext_getElem hl
  intro i h1 h2
  have := h i (by omega) (by omega)
  rwa [ge_get h1, ge_get h2] at this
theorem ge_cons {x : α} {xs : List α} {i : Int} (h : 1 ≤ i) : ge (x :: xs) i = ge xs (i - 1) := by
  have := ge_append_right (xs := [x]) (ys := xs) (i := i) (by simpa using h)
  simpa using this
theorem ge_zero {x : α} {xs : List α} : ge (x :: xs) 0 = x := rfl
theorem ap2M_some {L : List (List γ)} {i : Int} {a : γ} (h0 : 0 ≤ i) (h : i < L.length) (hl : (ge L i).length < 16777216) : ap2M L i a = some (up L i (ge L i ++ [a])) := by
  obtain ⟨n, rfl⟩ := Int.eq_ofNat_of_zero_le h0
  have h' : n < L.length := by omega
  unfold ap2M ixN
  rw [if_pos h0, if_pos h]
  simp only [Int.toNat_natCast, bs, List.getElem?_eq_getElem h']
  rw [ge_get h'] at hl ⊢
  rw [apM_some hl]; rfl
theorem nodup_ge {xs : List α} (h : xs.Nodup) {i j : Int} (i0 : 0 ≤ i) (i1 : i < xs.length) (j0 : 0 ≤ j) (j1 : j < xs.length) (e : ge xs i = ge xs j) : i = j := by
  obtain ⟨n, rfl⟩ := Int.eq_ofNat_of_zero_le i0
  obtain ⟨m, rfl⟩ := Int.eq_ofNat_of_zero_le j0
  have hn : n < xs.length := by omega
  have hm : m < xs.length := by omega
  rw [ge_get hn, ge_get hm] at e
  have := (List.getElem_inj (h₀ := hn) (h₁ := hm) h).mp e
  omega
/-- a walked range of an own length -/
theorem count_up {xs : List Bool} {i : Int} {a b : Bool} (h0 : 0 ≤ i) (h : i < xs.length) (e : ge xs i = !a) : (up xs i a).count a = xs.count a + 1 := by
  obtain ⟨n, rfl⟩ := Int.eq_ofNat_of_zero_le h0
  have h' : n < xs.length := by omega
  rw [ge_get h'] at e
  unfold up
  rw [Int.toNat_natCast, List.count_set h', e]
  cases a <;> simp
end
/-! ### what can be reached -/
inductive Rch (E : Int → Int → Prop) (a : Int) : Int → Prop where
  | refl : Rch E a a
  | step {b c : Int} (h : Rch E a b) (e : E b c) : Rch E a c
theorem Rch.mono {E F : Int → Int → Prop} (h : ∀ a b, E a b → F a b) {a b : Int} (r : Rch E a b) : Rch F a b := by
  induction r with
  | refl => exact .refl
  | step _ e ih => exact .step ih (h _ _ e)
theorem Rch.trans {E : Int → Int → Prop} {a b c : Int} (r : Rch E a b) (q : Rch E b c) : Rch E a c := by
  induction q with
  | refl => exact r
  | step _ e ih => exact .step ih e
theorem Rch.head {E : Int → Int → Prop} {a b c : Int} (e : E a b) (q : Rch E b c) : Rch E a c := (Rch.step .refl e).trans q
theorem Rch.sym {E : Int → Int → Prop} (s : ∀ a b, E a b → E b a) {a b : Int} (r : Rch E a b) : Rch E b a := by
  induction r with
  | refl => exact .refl
  | step _ e ih => exact .head (s _ _ e) ih
theorem Rch.ind {E : Int → Int → Prop} {P : Int → Prop} (h : ∀ a b, E a b → P a → P b) {a b : Int} (r : Rch E a b) (p : P a) : P b := by
  induction r with
  | refl => exact p
  | step _ e ih => exact h _ _ e ih
end M
namespace M
section
variable {α β γ S R T : Type}
/-- a walked range that may be left -/
theorem Y.loopR {f : S → Int → Option (Stp S R)} {a b : Int} {s0 : S} (I : Int → S → Prop) {Q : S → Prop} {C : R → Prop} (hab : a ≤ b) (h0 : I a s0) (hs : ∀ i s, a ≤ i → i < b → I i s → Y (f s i) (StP (I (i + 1)) Q C)) (hn : ∀ s, I b s → Q s) : Y (loopM f (rngL a b) s0) (LoP Q C) := by
  refine Y.loop (I := fun pre s => I (a + pre.length) s) (by simpa using h0) (fun pre x post s e h => ?_) fun s h => by
    rw [rngL_len] at h
    have : a + ((b - a).toNat : Int) = b := by omega
    rw [this] at h; exact hn s h
  obtain ⟨e1, h1, h2⟩ := rngL_pre e
  subst e1
  simp only [List.length_append, rngL_len, List.length_cons, List.length_nil] at h ⊢
  have ex : a + ((x - a).toNat : Int) = x := by omega
  rw [ex] at h
  refine (hs x s h1 h2 h).imp fun s' h' => ?_
  have : a + (((x - a).toNat + (0 + 1) : Nat) : Int) = x + 1 := by omega
  rw [this]; exact h'
/-- .. that is not left -/
theorem Y.loopG {f : S → α → Option (Stp S R)} {xs : List α} {s0 : S} (I : List α → S → Prop) {C : R → Prop} (h0 : I [] s0) (hs : ∀ pre x post s, xs = pre ++ x :: post → I pre s → Y (f s x) (StP (I (pre ++ [x])) (fun _ => False) C)) : Y (loopM f xs s0) (LoP (I xs) C) := by
  have key : ∀ post pre s, xs = pre ++ post → I pre s → Y (loopM f post s) (LoP (I xs) C) := by
    intro post
    induction post with
    | nil => intro pre s e h; rw [List.append_nil] at e; subst e; exact ⟨.dn s, rfl, h⟩
    | cons x post ih =>
      intro pre s e h
      obtain ⟨o, e1, h'⟩ := hs pre x post s e h
      rw [loopM, e1]
      cases o with
      | go s' => exact ih (pre ++ [x]) s' (by rw [e]; simp) h'
      | bk s' => exact h'.elim
      | rt r => exact ⟨.rt r, rfl, h'⟩
  exact key xs [] s0 rfl h0
theorem nodup_len [DecidableEq α] : ∀ {xs ys : List α}, xs.Nodup → (∀ x ∈ xs, x ∈ ys) → xs.length ≤ ys.length
  | [], _, _, _ => Nat.zero_le _
  | x :: xs, ys, nd, h => by
    have hx := h x List.mem_cons_self
    have nd' := List.nodup_cons.mp nd
    have := nodup_len (xs := xs) (ys := ys.erase x) nd'.2 fun y hy => (List.mem_erase_of_ne (fun e => nd'.1 (by rw [← e]; exact hy))).mpr (h y (List.mem_cons_of_mem _ hy))
    rw [List.length_erase_of_mem hx] at this
    have := List.length_pos_of_mem hx
    rw [List.length_cons]; omega
theorem nodup_len_eq [DecidableEq α] {xs ys : List α} (h1 : xs.Nodup) (h2 : ys.Nodup) (h : ∀ x, x ∈ xs ↔ x ∈ ys) : xs.length = ys.length :=
  Nat.le_antisymm (nodup_len h1 fun x hx => (h x).mp hx) (nodup_len h2 fun x hx => (h x).mpr hx)
theorem rngL_nodup {a b : Int} : (rngL a b).Nodup := by
  unfold rngL
  rw [List.nodup_iff_pairwise_ne, List.pairwise_map]
  exact List.pairwise_lt_range.imp fun h e => by omega
theorem look_none {κ : Type} [DecidableEq κ] {kvs : List (κ × α)} {k : κ} : look kvs k = none ↔ ∀ p ∈ kvs, p.1 ≠ k := by
  unfold look
  rw [Option.map_eq_none_iff, List.find?_eq_none]
  simp
theorem put_new {κ : Type} [DecidableEq κ] {kvs : List (κ × α)} {k : κ} {v : α} (h : look kvs k = none) : put kvs k v = kvs ++ [(k, v)] := by
  unfold put
  rw [if_neg]
  rw [List.any_eq_true]
  rintro ⟨p, hp, e⟩
  exact look_none.mp h p hp (of_decide_eq_true e)
theorem put_old {κ : Type} [DecidableEq κ] {kvs : List (κ × α)} {k : κ} {v : α} (h : look kvs k ≠ none) : (put kvs k v).map (·.1) = kvs.map (·.1) := by
  unfold put
  rw [if_pos, List.map_map]
  · apply List.map_congr_left
    intro p _
    simp only [Function.comp]
    split <;> rfl
  · rw [List.any_eq_true]
    apply Classical.byContradiction
    intro hc
    exact h (look_none.mpr fun p hp e => hc ⟨p, hp, decide_eq_true e⟩)
theorem look_some_mem {κ : Type} [DecidableEq κ] {kvs : List (κ × α)} {k : κ} : (look kvs k).isSome = true ↔ k ∈ kvs.map (·.1) := by
  cases h : look kvs k with
  | none =>
    have h' := look_none.mp h
    constructor
    · intro e; cases e
    · intro hm
      obtain ⟨p, hp, e⟩ := List.mem_map.mp hm
      exact absurd e (h' p hp)
  | some v =>
    refine ⟨fun _ => ?_, fun _ => rfl⟩
    apply Classical.byContradiction
    intro hc
    have : look kvs k = none := look_none.mpr fun p hp e => hc (List.mem_map.mpr ⟨p, hp, e⟩)
    rw [h] at this; cases this
theorem put_keys {κ : Type} [DecidableEq κ] {kvs : List (κ × α)} {k : κ} {v : α} (h : (kvs.map (·.1)).Nodup) : ((put kvs k v).map (·.1)).Nodup := by
  by_cases hk : look kvs k = none
  · rw [put_new hk, List.map_append, List.nodup_append]
    refine ⟨h, by simp, fun a ha b hb e => ?_⟩
    simp at hb
    subst e; subst hb
    obtain ⟨p, hp, e⟩ := List.mem_map.mp ha
    exact look_none.mp hk p hp e
  · rw [put_old hk]; exact h
theorem keys_put {κ : Type} [DecidableEq κ] {kvs : List (κ × α)} {k j : κ} {v : α} : j ∈ (put kvs k v).map (·.1) ↔ j = k ∨ j ∈ kvs.map (·.1) := by
  rw [← look_some_mem, ← look_some_mem, look_put]
  by_cases e : j = k
  · simp [e]
  · simp [e]
theorem pw_mem {R : α → α → Prop} {xs : List α} (h : xs.Pairwise R) {i j : Nat} (hij : i < j) (hj : j < xs.length) : R (xs[i]'(by omega)) xs[j] := List.pairwise_iff_getElem.mp h i j (by omega) hj hij
theorem pw_ge [Inhabited α] {R : α → α → Prop} {xs : List α} (h : xs.Pairwise R) {i j : Int} (h0 : 0 ≤ i) (hij : i < j) (hj : j < xs.length) : R (ge xs i) (ge xs j) := by
  obtain ⟨n, rfl⟩ := Int.eq_ofNat_of_zero_le h0
  obtain ⟨m, rfl⟩ := Int.eq_ofNat_of_zero_le (show 0 ≤ j by omega)
  have h1 : m < xs.length := by omega
  rw [ge_get h1, ge_get (show n < xs.length by omega)]
  exact pw_mem h (by omega) h1
end
end M
/-! N4: dicts as sets, pops, pairings as lists of tuples -/
namespace M
open PySem L2
section
variable {α β γ S R T : Type}
/-- a dict whose keys are just some numbers -/
structure DS (d : Dk α) (s : List Int) : Prop where
  nd : (d.kvs.map (·.1)).Nodup
  ks : ∀ k, k ∈ d.kvs.map (·.1) ↔ ∃ x ∈ s, k = .inl x
theorem DS.nil : DS (⟨[]⟩ : Dk α) [] := ⟨by simp, fun k => by simp⟩
theorem DS.look {d : Dk α} {s : List Int} (h : DS d s) (x : Int) : (look d.kvs (KeyE.key x)).isSome = true ↔ x ∈ s := by
  rw [look_some_mem, h.ks]
  constructor
  · rintro ⟨y, hy, e⟩
    have : x = y := Sum.inl.inj e
    rw [this]; exact hy
  · intro hx; exact ⟨x, hx, rfl⟩
theorem DS.lookF {d : Dk α} {s : List Int} (h : DS d s) {x : Int} (hx : x ∉ s) : (M.look d.kvs (KeyE.key x)).isSome = false := by
  cases e : (M.look d.kvs (KeyE.key x)).isSome with
  | false => rfl
  | true => exact absurd ((h.look x).mp e) hx
theorem DS.put {d : Dk α} {s : List Int} (h : DS d s) (x : Int) (v : α) : DS ⟨put d.kvs (KeyE.key x) v⟩ (s ++ [x]) := by
  refine ⟨put_keys h.nd, fun k => ?_⟩
  rw [keys_put, h.ks]
  constructor
  · rintro (e | ⟨y, hy, e⟩)
    · exact ⟨x, by simp, e⟩
    · exact ⟨y, List.mem_append_left _ hy, e⟩
  · rintro ⟨y, hy, e⟩
    rcases List.mem_append.mp hy with hy | hy
    · exact .inr ⟨y, hy, e⟩
    · rw [List.mem_singleton.mp hy] at e; exact .inl e
theorem DS.len {d : Dk α} {s : List Int} (h : DS d s) (nd : s.Nodup) : d.kvs.length = s.length := by
  have := nodup_len_eq (ys := s.map (Sum.inl : Int → Key)) h.nd (by
    rw [List.nodup_iff_pairwise_ne, List.pairwise_map]
    exact (List.nodup_iff_pairwise_ne.mp nd).imp fun h e => h (Sum.inl.inj e)) fun k => by
      rw [h.ks, List.mem_map]
      exact ⟨fun ⟨x, hx, e⟩ => ⟨x, hx, e.symm⟩, fun ⟨x, hx, e⟩ => ⟨x, hx, e.symm⟩⟩
  simpa using this
theorem DS.le {d : Dk α} {s : List Int} (h : DS d s) : d.kvs.length ≤ s.length := by
  have := nodup_len (ys := s.map (Sum.inl : Int → Key)) h.nd fun k hk => by
    obtain ⟨x, hx, e⟩ := (h.ks k).mp hk
    rw [e]; exact List.mem_map.mpr ⟨x, hx, rfl⟩
  simpa using this
theorem DS.congr {d : Dk α} {s t : List Int} (h : DS d s) (e : ∀ x, x ∈ s ↔ x ∈ t) : DS d t :=
  ⟨h.nd, fun k => by rw [h.ks]; exact ⟨fun ⟨x, hx, z⟩ => ⟨x, (e x).mp hx, z⟩, fun ⟨x, hx, z⟩ => ⟨x, (e x).mpr hx, z⟩⟩⟩
theorem seqIx {n len : Nat} (h : n < len) : seqIndex? (n : Int) len = some n := by
  unfold seqIndex?
  have h0 : ¬ ((n : Int) < 0) := by omega
  simp [h0, h]
theorem poM_some [Inhabited α] {xs : List α} {i : Int} (h0 : 0 ≤ i) (h : i < xs.length) (hl : xs.length < 100000000) : poM xs i = some (ge xs i, xs.eraseIdx i.toNat) := by
  obtain ⟨n, rfl⟩ := Int.eq_ofNat_of_zero_le h0
  have h' : n < xs.length := by omega
  unfold poM
  rw [if_pos (by omega), seqIx h']
  simp only [bs, Int.toNat_natCast, List.getElem?_eq_getElem h']
  rw [ge_get h']
theorem erase_perm [Inhabited α] {xs : List α} {i : Int} (h0 : 0 ≤ i) (h : i < xs.length) : (ge xs i :: xs.eraseIdx i.toNat).Perm xs := by
  obtain ⟨n, rfl⟩ := Int.eq_ofNat_of_zero_le h0
  have h' : n < xs.length := by omega
  rw [ge_get h', Int.toNat_natCast, List.eraseIdx_eq_take_drop_succ]
  have : xs = xs.take n ++ xs[n] :: xs.drop (n + 1) := by
    rw [← List.drop_eq_getElem_cons h', List.take_append_drop]
  conv => rhs; rw [this]
  exact List.perm_middle.symm
theorem nodup_map_inj {f : α → β} (hf : ∀ a b, f a = f b → a = b) {l : List α} (h : l.Nodup) : (l.map f).Nodup := by
  rw [List.nodup_iff_pairwise_ne, List.pairwise_map]
  exact (List.nodup_iff_pairwise_ne.mp h).imp fun h e => h (hf _ _ e)
/-- keys in order -/
theorem keysI_inl {kvs : List (Key × α)} : ∀ {s : List Int}, kvs.map (·.1) = s.map Sum.inl → keysI kvs = some s := by
  induction kvs with
  | nil =>
    intro s h
    cases s with
    | nil => rfl
    | cons x s => cases h
  | cons p kvs ih =>
    intro s h
    cases s with
    | nil => cases h
    | cons x s =>
      rw [List.map_cons, List.map_cons, List.cons.injEq] at h
      obtain ⟨k, v⟩ := p
      have hk : k = .inl x := h.1
      subst hk
      rw [keysI, ih h.2]; rfl
theorem inl_list : ∀ (ks : List Key), (∀ k ∈ ks, ∃ x : Int, k = .inl x) → ∃ s : List Int, ks = s.map Sum.inl
  | [], _ => ⟨[], rfl⟩
  | k :: ks, h => by
    obtain ⟨x, rfl⟩ := h k List.mem_cons_self
    obtain ⟨s, rfl⟩ := inl_list ks fun z hz => h z (List.mem_cons_of_mem _ hz)
    exact ⟨x :: s, rfl⟩
theorem DS.keys {d : Dk α} {s : List Int} (h : DS d s) : ∃ t, keysI d.kvs = some t ∧ t.Nodup ∧ ∀ x, x ∈ t ↔ x ∈ s := by
  obtain ⟨t, ht⟩ := inl_list _ fun k hk => by
    obtain ⟨x, _, e⟩ := (h.ks k).mp hk
    exact ⟨x, e⟩
  refine ⟨t, keysI_inl ht, ?_, fun x => ?_⟩
  · have nd := h.nd
    rw [ht, List.nodup_iff_pairwise_ne, List.pairwise_map] at nd
    rw [List.nodup_iff_pairwise_ne]
    exact nd.imp fun h e => h (by rw [e])
  · have : x ∈ t ↔ (Sum.inl x : Key) ∈ t.map Sum.inl := by
      rw [List.mem_map]
      exact ⟨fun hx => ⟨x, hx, rfl⟩, fun ⟨y, hy, e⟩ => Sum.inl.inj e ▸ hy⟩
    rw [this, ← ht, h.ks]
    exact ⟨fun ⟨y, hy, e⟩ => Sum.inl.inj e ▸ hy, fun hx => ⟨x, hx, rfl⟩⟩
theorem rngL_lt {a b : Int} : (rngL a b).Pairwise (· < ·) := by
  unfold rngL
  rw [List.pairwise_map]
  exact List.pairwise_lt_range.imp fun h => by omega
theorem sort_rng {t : List Int} {a b : Int} (nd : t.Nodup) (h : ∀ x, x ∈ t ↔ a ≤ x ∧ x < b) : sortI t = rngL a b := by
  refine (sortI_eq ?_ (rngL_lt.imp fun h => by omega)).symm
  exact (List.perm_ext_iff_of_nodup rngL_nodup nd).mpr fun x => by rw [rngL_mem, h]
end
theorem fc {α S : Type} {f : S → α → Option S} {s : S} {x : α} {xs : List α} : List.foldlM (m := Option) f s (x :: xs) = (f s x).bind fun s' => List.foldlM (m := Option) f s' xs := rfl
theorem fnil {α S : Type} {f : S → α → Option S} {s : S} : List.foldlM (m := Option) f s [] = some s := rfl
/-! ### links -/
def Adj (links : List (Int × Int)) (a b : Int) : Prop := (a, b) ∈ links ∨ (b, a) ∈ links
theorem Adj.sym {links : List (Int × Int)} {a b : Int} (h : Adj links a b) : Adj links b a := h.elim .inr .inl
theorem Adj.snoc {l : List (Int × Int)} {e : Int × Int} {a b : Int} : Adj (l ++ [e]) a b ↔ Adj l a b ∨ (a = e.1 ∧ b = e.2) ∨ (a = e.2 ∧ b = e.1) := by
  have ex : ∀ a b : Int, ((a, b) = e) ↔ (a = e.1 ∧ b = e.2) := fun a b => by cases e; simp
  unfold Adj
  simp only [List.mem_append, List.mem_singleton, ex]
  constructor
  · rintro ((h | h) | (h | h))
    · exact .inl (.inl h)
    · exact .inr (.inl h)
    · exact .inl (.inr h)
    · exact .inr (.inr ⟨h.2, h.1⟩)
  · rintro ((h | h) | h | h)
    · exact .inl (.inl h)
    · exact .inr (.inl h)
    · exact .inl (.inr h)
    · exact .inr (.inr ⟨h.2, h.1⟩)
/-- links of places below n -/
def Good (n : Int) (links : List (Int × Int)) : Prop := ∀ e ∈ links, 0 ≤ e.1 ∧ e.1 < n ∧ 0 ≤ e.2 ∧ e.2 < n
theorem Good.adj {n : Int} {links : List (Int × Int)} (g : Good n links) {a b : Int} (h : Adj links a b) : 0 ≤ a ∧ a < n ∧ 0 ≤ b ∧ b < n := by
  rcases h with h | h
  · exact g _ h
  · have := g _ h; exact ⟨this.2.2.1, this.2.2.2, this.1, this.2.1⟩
/-- the ends of links -/
def ends (p : List (Int × Int)) : List Int := p.flatMap fun e => [e.1, e.2]
theorem mem_ends {p : List (Int × Int)} {x : Int} : x ∈ ends p ↔ ∃ y, Adj p x y := by
  unfold ends
  rw [List.mem_flatMap]
  constructor
  · rintro ⟨e, he, h⟩
    simp only [List.mem_cons, List.not_mem_nil, or_false] at h
    rcases h with rfl | rfl
    · exact ⟨e.2, .inl he⟩
    · exact ⟨e.1, .inr he⟩
  · rintro ⟨y, h | h⟩
    · exact ⟨_, h, by simp⟩
    · exact ⟨_, h, by simp⟩
theorem ends_append (p q : List (Int × Int)) : ends (p ++ q) = ends p ++ ends q := List.flatMap_append
theorem ends_len : ∀ p : List (Int × Int), (ends p).length = 2 * p.length
  | [] => rfl
  | e :: p => by
    have := ends_len p
    show ([e.1, e.2] ++ ends p).length = _
    rw [List.length_append, this]; simp; omega
theorem ends_perm {p q : List (Int × Int)} (h : p.Perm q) : (ends p).Perm (ends q) := h.flatMap_right _
theorem adj_uniq {p : List (Int × Int)} (h : (ends p).Nodup) {x y z : Int} (h1 : Adj p x y) (h2 : Adj p x z) : y = z := by
  unfold ends at h
  rw [List.nodup_iff_pairwise_ne, List.pairwise_flatMap] at h
  obtain ⟨ha, hp⟩ := h
  have key : ∀ e ∈ p, ∀ f ∈ p, (x = e.1 ∨ x = e.2) → (x = f.1 ∨ x = f.2) → e = f := fun e he f hf h1 h2 => by
    obtain ⟨i, hi, rfl⟩ := List.getElem_of_mem he
    obtain ⟨j, hj, rfl⟩ := List.getElem_of_mem hf
    rcases Nat.lt_trichotomy i j with h | h | h
    · exact absurd rfl (pw_mem hp h hj x (by simpa using h1) x (by simpa using h2))
    · subst h; rfl
    · exact absurd rfl (pw_mem hp h hi x (by simpa using h2) x (by simpa using h1))
  have ne : ∀ e ∈ p, e.1 ≠ e.2 := fun e he => by have := ha e he; simpa using this
  rcases h1 with h1 | h1 <;> rcases h2 with h2 | h2
  · have := key _ h1 _ h2 (.inl rfl) (.inl rfl); exact congrArg Prod.snd this
  · have := key _ h1 _ h2 (.inl rfl) (.inr rfl)
    have a := congrArg Prod.fst this; have b := congrArg Prod.snd this
    simp only at a b; omega
  · have := key _ h1 _ h2 (.inr rfl) (.inl rfl)
    have a := congrArg Prod.fst this; have b := congrArg Prod.snd this
    simp only at a b; omega
  · have := key _ h1 _ h2 (.inr rfl) (.inr rfl); exact congrArg Prod.fst this
/-- a full pairing of N places -/
structure FP (N : Int) (p : List (Int × Int)) : Prop where
  lt : ∀ e ∈ p, e.1 < e.2
  pm : (ends p).Perm (rngL 0 N)
theorem FP.nd {N : Int} {p : List (Int × Int)} (h : FP N p) : (ends p).Nodup := h.pm.nodup_iff.mpr rngL_nodup
theorem FP.mem {N : Int} {p : List (Int × Int)} (h : FP N p) {x : Int} : x ∈ ends p ↔ 0 ≤ x ∧ x < N := by rw [h.pm.mem_iff, rngL_mem]
theorem FP.len {N : Int} {p : List (Int × Int)} (h : FP N p) : 2 * p.length = N.toNat := by
  have := h.pm.length_eq
  rw [ends_len, rngL_len] at this; omega
theorem FP.good {N : Int} {p : List (Int × Int)} (h : FP N p) : Good N p := fun e he => by
  have h1 : e.1 ∈ ends p := mem_ends.mpr ⟨e.2, .inl he⟩
  have h2 : e.2 ∈ ends p := mem_ends.mpr ⟨e.1, .inr he⟩
  rw [h.mem] at h1 h2
  exact ⟨h1.1, h1.2, h2.1, h2.2⟩
/-- the partner of each place -/
structure Par (N : Int) (p : List (Int × Int)) (f : Int → Int) : Prop where
  adj : ∀ x, 0 ≤ x → x < N → ∀ y, Adj p x y ↔ y = f x
  rg : ∀ x, 0 ≤ x → x < N → 0 ≤ f x ∧ f x < N
  inv : ∀ x, 0 ≤ x → x < N → f (f x) = x
  ne : ∀ x, 0 ≤ x → x < N → f x ≠ x
theorem FP.par {N : Int} {p : List (Int × Int)} (h : FP N p) : ∃ f, Par N p f := by
  classical
  have ex : ∀ x, 0 ≤ x → x < N → ∃ y, Adj p x y := fun x a b => mem_ends.mp (h.mem.mpr ⟨a, b⟩)
  let f : Int → Int := fun x => if hx : ∃ y, Adj p x y then hx.choose else 0
  have hf : ∀ x, 0 ≤ x → x < N → Adj p x (f x) := fun x a b => by
    have hx := ex x a b
    show Adj p x (if hx : ∃ y, Adj p x y then hx.choose else 0)
    rw [dif_pos hx]; exact hx.choose_spec
  have rg : ∀ x, 0 ≤ x → x < N → 0 ≤ f x ∧ f x < N := fun x a b => by
    have := h.good.adj (hf x a b); exact ⟨this.2.2.1, this.2.2.2⟩
  refine ⟨f, fun x a b y => ⟨fun hy => adj_uniq h.nd hy (hf x a b), fun e => e ▸ hf x a b⟩, rg, fun x a b => ?_, fun x a b e => ?_⟩
  · have r := rg x a b
    exact adj_uniq h.nd (hf (f x) r.1 r.2) (hf x a b).sym
  · have := hf x a b
    rw [e] at this
    rcases this with z | z <;> exact absurd (h.lt _ z) (by simp)
theorem FP.mm {N : Int} {p : List (Int × Int)} (h : FP N p) {x y : Int} : (min x y, max x y) ∈ p ↔ Adj p x y := by
  constructor
  · intro hm
    by_cases e : x ≤ y
    · rw [show min x y = x by omega, show max x y = y by omega] at hm; exact .inl hm
    · rw [show min x y = y by omega, show max x y = x by omega] at hm; exact .inr hm
  · rintro (hm | hm)
    · have := h.lt _ hm
      simp only at this
      rw [show min x y = x by omega, show max x y = y by omega]; exact hm
    · have := h.lt _ hm
      simp only at this
      rw [show min x y = y by omega, show max x y = x by omega]; exact hm
end M
/-! N5: ranges with a step -/
namespace M
open PySem PySem.Spec L2
theorem rngCM_some {a b c : Int} (ha : -1000000000 ≤ a) (ha' : a ≤ 1000000000) (hb : -1000000000 ≤ b) (hb' : b ≤ 1000000000) (hc : c ≠ 0) (hc0 : -1000000 ≤ c) (hc1 : c ≤ 1000000) : rngCM a b c = some (rngC a b c) := by
  unfold rngCM
  rw [if_pos]
  have rs : 0 ≤ Builtin.Range.rangeSize a b c ∧ Builtin.Range.rangeSize a b c ≤ 3000000000 := by
    unfold Builtin.Range.rangeSize
    by_cases h : c > 0
    · rw [if_pos h]
      by_cases h2 : a < b
      · rw [if_pos h2]
        have := Int.ediv_nonneg (show 0 ≤ b - a - 1 by omega) (show 0 ≤ c by omega)
        have := Int.ediv_le_self c (show 0 ≤ b - a - 1 by omega)
        omega
      · rw [if_neg h2]; decide
    · rw [if_neg h]
      by_cases h2 : a > b
      · rw [if_pos h2]
        have := Int.ediv_nonneg (show 0 ≤ a - b - 1 by omega) (show 0 ≤ -c by omega)
        have := Int.ediv_le_self (-c) (show 0 ≤ a - b - 1 by omega)
        omega
      · rw [if_neg h2]; decide
  refine ⟨hc, by omega, ?_, by omega⟩
  simp only [Builtin.Range.small, Builtin.Range.rangeFitsLong, Bool.and_eq_true, Bool.or_eq_true, decide_eq_true_eq, beq_iff_eq]
  refine ⟨⟨⟨⟨⟨by omega, by omega⟩, by omega, by omega⟩, by omega, by omega⟩, by omega, by omega⟩, .inr ?_⟩
  by_cases h : c > 0
  · rw [if_pos h]; simp only [Bool.and_eq_true, decide_eq_true_eq]; omega
  · rw [if_neg h]; simp only [Bool.and_eq_true, decide_eq_true_eq]; omega
theorem rngC_pos {a b c x : Int} (hc : 0 < c) (h : x ∈ rngC a b c) : ∃ i : Nat, x = a + i * c ∧ x < b := by
  unfold rngC at h
  obtain ⟨i, hi, rfl⟩ := List.mem_map.mp h
  have hi := List.mem_range.mp hi
  refine ⟨i, rfl, ?_⟩
  unfold Builtin.Range.rangeSize at hi
  rw [if_pos hc] at hi
  by_cases h2 : a < b
  · rw [if_pos h2] at hi
    have h3 : (i : Int) ≤ (b - a - 1) / c := by omega
    have h4 := Int.mul_le_mul_of_nonneg_right h3 (show 0 ≤ c by omega)
    have h5 := Int.ediv_mul_le (b - a - 1) (show c ≠ 0 by omega)
    omega
  · rw [if_neg h2] at hi; exact absurd hi (by simp)
theorem rngC_neg {a b c x : Int} (hc : c < 0) (h : x ∈ rngC a b c) : b < x ∧ x ≤ a := by
  unfold rngC at h
  obtain ⟨i, hi, rfl⟩ := List.mem_map.mp h
  have hi := List.mem_range.mp hi
  unfold Builtin.Range.rangeSize at hi
  rw [if_neg (show ¬ c > 0 by omega)] at hi
  by_cases h2 : a > b
  · rw [if_pos h2] at hi
    have h3 : (i : Int) ≤ (a - b - 1) / (-c) := by omega
    have h4 := Int.mul_le_mul_of_nonneg_right h3 (show 0 ≤ -c by omega)
    have h5 := Int.ediv_mul_le (a - b - 1) (show -c ≠ 0 by omega)
    rw [Int.mul_neg] at h4
    have h6 : 0 ≤ (i : Int) * (-c) := Int.mul_nonneg (by omega) (by omega)
    rw [Int.mul_neg] at h6
    omega
  · rw [if_neg h2] at hi; exact absurd hi (by simp)
theorem rngC_len {a b c : Int} : (rngC a b c).length = (Builtin.Range.rangeSize a b c).toNat := by simp [rngC]
end M
/-! N6: rows of places, sums over places -/
namespace M
open PySem PySem.Spec L2
structure Od (n : Int) (l : List Int) : Prop where
  len : (l.length : Int) = n
  rg : ∀ i, 0 ≤ i → i < n → 0 ≤ ge l i ∧ ge l i < n
  inj : ∀ i j, 0 ≤ i → i < n → 0 ≤ j → j < n → ge l i = ge l j → i = j
theorem list_ge [Inhabited α] {l : List α} {n : Int} (h : (l.length : Int) = n) : l = (rngL 0 n).map fun i => ge l i := by
  refine ext_ge (by rw [List.length_map, rngL_len]; omega) fun i i0 i1 => ?_
  rw [ge_map i0 (by rw [rngL_len]; omega), ge_rng i0 (by omega), Int.zero_add]
theorem Od.nodup {n : Int} {l : List Int} (h : Od n l) : l.Nodup := by
  rw [List.nodup_iff_pairwise_ne, List.pairwise_iff_getElem]
  intro i j hi hj hij e
  have hl := h.len
  rw [← ge_get hi, ← ge_get hj] at e
  have := h.inj i j (by omega) (by omega) (by omega) (by omega) e
  omega
theorem Od.mem {n : Int} {l : List Int} (h : Od n l) (x : Int) : x ∈ l ↔ 0 ≤ x ∧ x < n := by
  have hl := h.len
  constructor
  · intro hx
    obtain ⟨i, i0, i1, rfl⟩ := mem_ge.mp hx
    exact h.rg i i0 (by omega)
  · intro hx
    refine Classical.byContradiction fun hn => ?_
    have nd : (x :: l).Nodup := List.nodup_cons.mpr ⟨hn, h.nodup⟩
    have := nodup_len (ys := rngL 0 n) nd fun y hy => by
      rcases List.mem_cons.mp hy with rfl | hy
      · exact rngL_mem.mpr hx
      · obtain ⟨i, i0, i1, rfl⟩ := mem_ge.mp hy
        exact rngL_mem.mpr (h.rg i i0 (by omega))
    rw [List.length_cons, rngL_len] at this
    omega
theorem Od.perm {n : Int} {l : List Int} (h : Od n l) : l.Perm (rngL 0 n) := (List.perm_ext_iff_of_nodup h.nodup rngL_nodup).mpr fun x => by rw [h.mem, rngL_mem]
theorem Od.of {n : Int} {l : List Int} (hl : (l.length : Int) = n) (hr : ∀ x ∈ l, 0 ≤ x ∧ x < n) (nd : l.Nodup) : Od n l :=
  ⟨hl, fun i i0 i1 => hr _ (ge_mem i0 (by omega)), fun i j i0 i1 j0 j1 e => nodup_ge nd i0 (by omega) j0 (by omega) e⟩
theorem Od.rng {n : Int} (h : 0 ≤ n) : Od n (rngL 0 n) := Od.of (by rw [rngL_len]; omega) (fun x hx => rngL_mem.mp hx) rngL_nodup
/-- sum over places -/
def sumR (n : Int) (f : Int → Int) : Int := ((rngL 0 n).map f).sum
theorem psum {l m : List Int} (h : l.Perm m) : l.sum = m.sum := by
  induction h with
  | nil => rfl
  | cons x _ ih => rw [List.sum_cons, List.sum_cons, ih]
  | swap x y l => simp only [List.sum_cons]; omega
  | trans _ _ h1 h2 => exact h1.trans h2
theorem sum_le {f g : Int → Int} : ∀ {l : List Int}, (∀ x ∈ l, f x ≤ g x) → (l.map f).sum ≤ (l.map g).sum
  | [], _ => Int.le_refl _
  | x :: xs, h => by
    have := sum_le (l := xs) fun y hy => h y (List.mem_cons_of_mem _ hy)
    have := h x List.mem_cons_self
    simp only [List.map_cons, List.sum_cons]; omega
theorem sum_add {f g : Int → Int} : ∀ {l : List Int}, (l.map fun x => f x + g x).sum = (l.map f).sum + (l.map g).sum
  | [] => rfl
  | x :: xs => by
    have := sum_add (f := f) (g := g) (l := xs)
    simp only [List.map_cons, List.sum_cons]; omega
theorem sum_one {r v : Int} : ∀ {l : List Int}, l.Nodup → (l.map fun x => if x = r then v else 0).sum = if r ∈ l then v else 0
  | [], _ => rfl
  | x :: xs, h => by
    obtain ⟨h1, h2⟩ := List.nodup_cons.mp h
    have ih := sum_one (r := r) (v := v) h2
    simp only [List.map_cons, List.sum_cons, ih, List.mem_cons]
    by_cases e : x = r
    · subst e; simp [h1]
    · rw [if_neg e, Int.zero_add]
      by_cases h3 : r ∈ xs
      · rw [if_pos h3, if_pos (.inr h3)]
      · rw [if_neg h3, if_neg (fun h => h.elim (fun z => e z.symm) h3)]
theorem sumR_le {n : Int} {f g : Int → Int} (h : ∀ i, 0 ≤ i → i < n → f i ≤ g i) : sumR n f ≤ sumR n g := sum_le fun x hx => by have := rngL_mem.mp hx; exact h x this.1 this.2
theorem sumR_congr {n : Int} {f g : Int → Int} (h : ∀ i, 0 ≤ i → i < n → f i = g i) : sumR n f = sumR n g := by
  unfold sumR
  rw [List.map_congr_left fun x hx => by have := rngL_mem.mp hx; exact h x this.1 this.2]
theorem sumR_add {n : Int} {f g : Int → Int} : sumR n (fun i => f i + g i) = sumR n f + sumR n g := sum_add
theorem sumR_one {n r v : Int} (h0 : 0 ≤ r) (h1 : r < n) : sumR n (fun i => if i = r then v else 0) = v := by
  unfold sumR
  rw [sum_one rngL_nodup, if_pos (rngL_mem.mpr ⟨h0, h1⟩)]
theorem sumR_snoc {n : Int} {f : Int → Int} (h : 0 ≤ n) : sumR (n + 1) f = sumR n f + f n := by
  unfold sumR
  rw [rngL_snoc h, List.map_append, List.sum_append]; simp
theorem sumR_list {l : List Int} {n : Int} (h : (l.length : Int) = n) : l.sum = sumR n fun i => ge l i := by
  unfold sumR
  rw [← list_ge h]
theorem Od.sum {n : Int} {l : List Int} (h : Od n l) (g : Int → Int) : sumR n (fun i => g (ge l i)) = sumR n g := by
  have e : (rngL 0 n).map (fun i => g (ge l i)) = l.map g := by
    conv => rhs; rw [list_ge h.len]
    rw [List.map_map]; rfl
  unfold sumR
  rw [e]
  exact psum (h.perm.map g)
theorem lcM_mem {e : α → Option β} {xs : List α} {ys : List β} {P : β → Prop} (h : lcM (fun _ => some true) e xs = some ys) (k : ∀ x y, x ∈ xs → e x = some y → P y) : ∀ y ∈ ys, P y := by
  unfold lcM at h
  split at h
  case isFalse => cases h
  rename_i hl
  clear hl
  induction xs generalizing ys with
  | nil => cases h; intro y hy; cases hy
  | cons x xs ih =>
    rw [compM, bs, if_pos rfl] at h
    obtain ⟨a, e1, h⟩ := Option.bind_eq_some_iff.mp h
    obtain ⟨zs, e2, h⟩ := Option.bind_eq_some_iff.mp h
    cases h
    intro y hy
    rcases List.mem_cons.mp hy with rfl | hy
    · exact k x _ List.mem_cons_self e1
    · exact ih (fun x y hx => k x y (List.mem_cons_of_mem _ hx)) e2 y hy
theorem str_ok {x : Str} (h : (M.EqD.ok x) = true) : ∀ c ∈ cl x, c < 1114112 := by
  have h : x.cps.all (fun c => decide (c < 0x110000)) = true := h
  rw [← Array.all_toList, List.all_eq_true] at h
  exact fun c hc => of_decide_eq_true (h c hc)
end M
/-! W1: bodies, kept as one and taken apart -/
namespace Bl
open M
section
variable {α : Type}
def upd (f : Int → α) (i : Int) (a : α) : Int → α := fun j => if j = i then a else f j
theorem upd_same {f : Int → α} {i : Int} {a : α} : upd f i a i = a := if_pos rfl
theorem upd_ne {f : Int → α} {i j : Int} {a : α} (h : j ≠ i) : upd f i a j = f j := if_neg h
end
theorem fm_congr {α β : Type} {f g : α → List β} : ∀ {l : List α}, (∀ x ∈ l, f x = g x) → l.flatMap f = l.flatMap g
  | [], _ => rfl
  | x :: l, h => by rw [List.flatMap_cons, List.flatMap_cons, h x List.mem_cons_self, fm_congr fun y hy => h y (List.mem_cons_of_mem _ hy)]
structure St where
  n : Int
  nb : Int
  ins : Int → List Int
  price : Int → Int
  ring : Int → List Int
  joints : Int → List (Int × Int)
  tie : Int → Option (Int × Int)
  mark : Int → Int
  way : Int → Option (Int × Int)
  outer : Int → Int
def St.out (s : St) (b : Int) : Prop := ∃ p, 0 ≤ p ∧ p < s.n ∧ s.outer p = b
def nx (m k : Int) : Int := if k + 1 < m then k + 1 else 0
structure RingOk (ins : Int → List Int) (J : Int → Int → Prop) (b : Int) (ring : List Int) (joints : List (Int × Int)) : Prop where
  len : joints.length = ring.length
  odd : ring.length % 2 = 1
  three : 3 ≤ ring.length
  nd : ring.Nodup
  parts : ∀ c ∈ ring, 0 ≤ c ∧ c < b ∧ ins c ≠ []
  flat : ins b = ring.flatMap ins
  jt : ∀ k : Int, 0 ≤ k → k < ring.length → (ge joints k).1 ∈ ins (ge ring k) ∧ (ge joints k).2 ∈ ins (ge ring (nx ring.length k)) ∧ J (ge joints k).1 (ge joints k).2
structure Str (J : Int → Int → Prop) (s : St) : Prop where
  n0 : 0 ≤ s.n
  nb : s.n ≤ s.nb
  base : ∀ b, 0 ≤ b → b < s.n → s.ins b = [b] ∧ s.ring b = []
  out : ∀ p, 0 ≤ p → p < s.n → 0 ≤ s.outer p ∧ s.outer p < s.nb ∧ p ∈ s.ins (s.outer p)
  mem : ∀ b p, 0 ≤ b → b < s.nb → p ∈ s.ins b → 0 ≤ p ∧ p < s.n ∧ b ≤ s.outer p
  nd : ∀ b, 0 ≤ b → b < s.nb → (s.ins b).Nodup
  odd : ∀ b, 0 ≤ b → b < s.nb → s.ins b ≠ [] → (s.ins b).length % 2 = 1
  same : ∀ b p q, 0 ≤ b → b < s.nb → p ∈ s.ins b → q ∈ s.ins b → s.outer p = s.outer q
  par : ∀ b p, 0 ≤ b → b < s.nb → p ∈ s.ins b → s.outer p ≠ b → ∃ d, 0 ≤ d ∧ d < s.nb ∧ b ∈ s.ring d
  rok : ∀ b, 0 ≤ b → b < s.nb → s.ring b ≠ [] → s.n ≤ b ∧ RingOk s.ins J b (s.ring b) (s.joints b)
  dead : ∀ b, s.n ≤ b → b < s.nb → s.ring b = [] → s.ins b = [] ∧ s.price b = 0
  pr : ∀ b, s.n ≤ b → b < s.nb → 0 ≤ s.price b
theorem RingOk.mono {ins ins' : Int → List Int} {J J' : Int → Int → Prop} {b : Int} {ring : List Int} {joints : List (Int × Int)} (h : RingOk ins J b ring joints) (hb : ins' b = ins b) (hi : ∀ c ∈ ring, ins' c = ins c)
    (hj : ∀ x y, x ∈ ins b → y ∈ ins b → J x y → J' x y) : RingOk ins' J' b ring joints := by
  have hm : ∀ c ∈ ring, ∀ p ∈ ins c, p ∈ ins b := fun c hc p hp => by rw [h.flat]; exact List.mem_flatMap.mpr ⟨c, hc, hp⟩
  have t := h.three
  refine ⟨h.len, h.odd, h.three, h.nd, fun c hc => by rw [hi c hc]; exact h.parts c hc, ?_, fun k k0 k1 => ?_⟩
  · rw [hb, h.flat]
    exact fm_congr fun c hc => (hi c hc).symm
  · obtain ⟨a1, a2, a3⟩ := h.jt k k0 k1
    have m1 : ge ring k ∈ ring := ge_mem k0 k1
    have m2 : ge ring (nx ring.length k) ∈ ring := by
      unfold nx
      split
      · exact ge_mem (by omega) (by omega)
      · exact ge_mem (by omega) (by omega)
    rw [hi _ m1, hi _ m2]
    exact ⟨a1, a2, hj _ _ (hm _ m1 _ a1) (hm _ m2 _ a2) a3⟩
section
variable {J : Int → Int → Prop} {s : St}
/-- a part's places lie in the ring -/
theorem RingOk.sub {ins : Int → List Int} {b : Int} {ring : List Int} {joints : List (Int × Int)} (h : RingOk ins J b ring joints) {c p : Int} (hc : c ∈ ring) (hp : p ∈ ins c) : p ∈ ins b := by rw [h.flat]; exact List.mem_flatMap.mpr ⟨c, hc, hp⟩
theorem Str.out_rg (h : Str J s) {b : Int} (o : s.out b) : 0 ≤ b ∧ b < s.nb := by obtain ⟨p, p0, p1, rfl⟩ := o; exact ⟨(h.out p p0 p1).1, (h.out p p0 p1).2.1⟩
/-- in an outermost body -/
theorem Str.out_in (h : Str J s) {b p : Int} (o : s.out b) : p ∈ s.ins b ↔ 0 ≤ p ∧ p < s.n ∧ s.outer p = b := by
  obtain ⟨b0, b1⟩ := h.out_rg o
  obtain ⟨q, q0, q1, hq⟩ := o
  constructor
  · intro hp
    obtain ⟨p0, p1, _⟩ := h.mem b p b0 b1 hp
    refine ⟨p0, p1, ?_⟩
    have := (h.out q q0 q1).2.2
    rw [hq] at this
    rw [h.same b p q b0 b1 hp this, hq]
  · rintro ⟨p0, p1, rfl⟩; exact (h.out p p0 p1).2.2
theorem Str.out_of (h : Str J s) {p : Int} (p0 : 0 ≤ p) (p1 : p < s.n) : s.out (s.outer p) := ⟨p, p0, p1, rfl⟩
theorem Str.out_ne (h : Str J s) {b : Int} (o : s.out b) : s.ins b ≠ [] := by
  obtain ⟨p, p0, p1, rfl⟩ := o
  intro e
  have := (h.out p p0 p1).2.2
  rw [e] at this; cases this
/-- an outermost body is part of no ring -/
theorem Str.out_part (h : Str J s) {b d : Int} (o : s.out b) (d0 : 0 ≤ d) (d1 : d < s.nb) (hb : b ∈ s.ring d) : False := by
  have r := (h.rok d d0 d1 (fun e => by rw [e] at hb; cases hb)).2
  obtain ⟨p, p0, p1, rfl⟩ := o
  have hp := (h.out p p0 p1).2.2
  have := (h.mem d p d0 d1 (r.sub hb hp)).2.2
  have := (r.parts _ hb).2.1
  omega
/-- two parts of a ring share no place -/
theorem RingOk.dis {ins : Int → List Int} {b : Int} {ring : List Int} {joints : List (Int × Int)} (h : RingOk ins J b ring joints) (nd : (ins b).Nodup) {c d p : Int} (hc : c ∈ ring) (hd : d ∈ ring) (h1 : p ∈ ins c) (h2 : p ∈ ins d) : c = d := by
  rw [h.flat, List.nodup_iff_pairwise_ne, List.pairwise_flatMap] at nd
  have nd := nd.2
  refine Classical.byContradiction fun ne => ?_
  obtain ⟨i, hi, rfl⟩ := List.getElem_of_mem hc
  obtain ⟨j, hj, rfl⟩ := List.getElem_of_mem hd
  have hij : i ≠ j := fun e => ne (by subst e; rfl)
  rcases Nat.lt_or_gt_of_ne hij with l | l
  · exact List.pairwise_iff_getElem.mp nd i j hi hj l p h1 p h2 rfl
  · exact List.pairwise_iff_getElem.mp nd j i hj hi l p h2 p h1 rfl
/-- a live body within another one lies in one of its parts -/
theorem Str.desc (h : Str J s) {b : Int} (o : s.out b) : ∀ (k : Nat) {x p : Int}, (b - x).toNat ≤ k → 0 ≤ x → x < s.nb → x ≠ b → p ∈ s.ins x → s.outer p = b → ∃ c ∈ s.ring b, x ≤ c ∧ ∀ q ∈ s.ins x, q ∈ s.ins c := by
  intro k
  induction k with
  | zero =>
    intro x p hk x0 x1 ne hp hb
    have := (h.mem x p x0 x1 hp).2.2
    omega
  | succ k ih =>
    intro x p hk x0 x1 ne hp hb
    obtain ⟨d, d0, d1, hd⟩ := h.par x p x0 x1 hp (by rw [hb]; exact fun e => ne e.symm)
    have r := (h.rok d d0 d1 (fun e => by rw [e] at hd; cases hd)).2
    have hpd := r.sub hd hp
    have hx := (r.parts _ hd).2.1
    by_cases e : d = b
    · subst e
      exact ⟨x, hd, Int.le_refl _, fun q hq => hq⟩
    · have := (h.mem d p d0 d1 hpd).2.2
      obtain ⟨c, hc, h1, h2⟩ := ih (x := d) (p := p) (by omega) d0 d1 e hpd hb
      exact ⟨c, hc, by omega, fun q hq => h2 q (r.sub hd hq)⟩
/-- the bodies are those of another way of joining -/
theorem Str.mono {J' : Int → Int → Prop} (h : Str J s) (hj : ∀ x y, 0 ≤ x → x < s.n → 0 ≤ y → y < s.n → s.outer x = s.outer y → J x y → J' x y) : Str J' s :=
  { h with rok := fun b b0 b1 hr => ⟨(h.rok b b0 b1 hr).1, (h.rok b b0 b1 hr).2.mono rfl (fun _ _ => rfl) fun x y hx hy j =>
      hj x y (h.mem b x b0 b1 hx).1 (h.mem b x b0 b1 hx).2.1 (h.mem b y b0 b1 hy).1 (h.mem b y b0 b1 hy).2.1 (h.same b x y b0 b1 hx hy) j⟩ }
end
/-! ### chains of bodies -/
inductive Ch (ins : Int → List Int) (J : Int → Int → Prop) : Int → List (Int × (Int × Int)) → Int → Prop where
  | nil (a : Int) : Ch ins J a [] a
  | cons {a b c : Int} {j : Int × Int} {l : List (Int × (Int × Int))} (h1 : j.1 ∈ ins a) (h2 : j.2 ∈ ins b) (h3 : J j.1 j.2) (h : Ch ins J b l c) : Ch ins J a ((a, j) :: l) c
section
variable {ins : Int → List Int} {J : Int → Int → Prop}
theorem Ch.app {a b c : Int} {l m : List (Int × (Int × Int))} (h : Ch ins J a l b) (k : Ch ins J b m c) : Ch ins J a (l ++ m) c := by
  induction h with
  | nil a => exact k
  | cons h1 h2 h3 h ih => exact .cons h1 h2 h3 (ih k)
theorem Ch.head {a c : Int} {x : Int × (Int × Int)} {l : List (Int × (Int × Int))} (h : Ch ins J a (x :: l) c) : x.1 = a := by cases h; rfl
theorem Ch.get {a c : Int} {l : List (Int × (Int × Int))} (h : Ch ins J a l c) : ∀ {k : Nat} (hk : k < l.length), l[k].2.1 ∈ ins l[k].1 ∧ l[k].2.2 ∈ ins (if h' : k + 1 < l.length then l[k + 1].1 else c) ∧ J l[k].2.1 l[k].2.2 := by
  induction h with
  | nil a => intro k hk; exact absurd hk (by simp)
  | @cons a b c j l h1 h2 h3 h ih =>
    intro k hk
    cases k with
    | zero =>
      refine ⟨h1, ?_, h3⟩
      by_cases hl : 0 < l.length
      · rw [dif_pos (by simpa using hl)]
        cases l with
        | nil => simp at hl
        | cons x l =>
          have := h.head
          simp only [List.getElem_cons_succ, List.getElem_cons_zero]
          rw [this]; exact h2
      · rw [dif_neg (by simpa using hl)]
        have : l = [] := List.eq_nil_of_length_eq_zero (by omega)
        subst this
        cases h; exact h2
    | succ k =>
      have hk' : k < l.length := by simpa using hk
      have := ih hk'
      simp only [List.getElem_cons_succ, List.length_cons]
      refine ⟨this.1, ?_, this.2.2⟩
      have h2 := this.2.1
      by_cases hl : k + 1 < l.length
      · rw [dif_pos hl] at h2
        rw [dif_pos (by omega)]
        exact h2
      · rw [dif_neg hl] at h2
        rw [dif_neg (by omega)]
        exact h2
/-- a closed chain is a ring -/
theorem Ch.ring {a b : Int} {l : List (Int × (Int × Int))} (h : Ch ins J a l a) (hl : 3 ≤ l.length) (hodd : l.length % 2 = 1) (nd : (l.map (·.1)).Nodup) (hp : ∀ c ∈ l.map (·.1), 0 ≤ c ∧ c < b ∧ ins c ≠ [])
    (hi : ins b = (l.map (·.1)).flatMap ins) : RingOk ins J b (l.map (·.1)) (l.map (·.2)) := by
  refine ⟨by simp, by simpa using hodd, by simpa using hl, nd, hp, hi, fun k k0 k1 => ?_⟩
  obtain ⟨k, rfl⟩ := Int.eq_ofNat_of_zero_le k0
  rw [List.length_map] at k1 ⊢
  have hk : k < l.length := by omega
  have := h.get hk
  rw [ge_map k0 (by omega), ge_map k0 (by omega), ge_get hk]
  refine ⟨this.1, ?_, this.2.2⟩
  have h2 := this.2.1
  unfold nx
  by_cases hl' : k + 1 < l.length
  · rw [dif_pos hl'] at h2
    rw [if_pos (by omega), ge_map (by omega) (by omega)]
    have e : ((k : Int) + 1) = ((k + 1 : Nat) : Int) := by omega
    rw [e, ge_get hl']; exact h2
  · rw [dif_neg hl'] at h2
    rw [if_neg (by omega), ge_map (by omega) (by omega)]
    cases l with
    | nil => simp at hl
    | cons x l =>
      rw [ge_zero, h.head]; exact h2
end
/-! ### kept as one -/
def together (s : St) (l : List (Int × (Int × Int))) (t : Option (Int × Int)) : St :=
  { n := s.n, nb := s.nb + 1, ins := upd s.ins s.nb ((l.map (·.1)).flatMap s.ins), price := upd s.price s.nb 0, ring := upd s.ring s.nb (l.map (·.1)), joints := upd s.joints s.nb (l.map (·.2)),
    tie := upd s.tie s.nb t, mark := upd s.mark s.nb 1, way := upd s.way s.nb none, outer := fun p => if p ∈ (l.map (·.1)).flatMap s.ins then s.nb else s.outer p }
theorem flat_odd {f : Int → List Int} : ∀ {l : List Int}, (∀ c ∈ l, (f c).length % 2 = 1) → ((l.flatMap f).length + l.length) % 2 = 0
  | [], _ => rfl
  | c :: l, h => by
    have := flat_odd (f := f) (l := l) fun d hd => h d (List.mem_cons_of_mem _ hd)
    have := h c List.mem_cons_self
    rw [List.flatMap_cons, List.length_append, List.length_cons]; omega
section
variable {J : Int → Int → Prop} {s : St} {l : List (Int × (Int × Int))} {t : Option (Int × Int)}
theorem tog_in (h : Str J s) (ho : ∀ c ∈ l.map (·.1), s.out c) {p : Int} (p0 : 0 ≤ p) (p1 : p < s.n) : p ∈ (l.map (·.1)).flatMap s.ins ↔ s.outer p ∈ l.map (·.1) := by
  rw [List.mem_flatMap]
  constructor
  · rintro ⟨c, hc, hp⟩
    rw [((h.out_in (ho c hc)).mp hp).2.2]; exact hc
  · intro hc
    exact ⟨_, hc, (h.out p p0 p1).2.2⟩
theorem tog_str (h : Str J s) {a : Int} (hc : Ch s.ins J a l a) (hl : 3 ≤ l.length) (hodd : l.length % 2 = 1) (nd : (l.map (·.1)).Nodup) (ho : ∀ c ∈ l.map (·.1), s.out c) : Str J (together s l t) := by
  have n0 := h.n0
  have nb := h.nb
  have hne : ∀ b, b < s.nb → b ≠ s.nb := fun b hb e => by omega
  have hpl : ∀ p, p ∈ (l.map (·.1)).flatMap s.ins → 0 ≤ p ∧ p < s.n := fun p hp => by
    obtain ⟨c, hc, hp⟩ := List.mem_flatMap.mp hp
    have := (h.out_in (ho c hc)).mp hp
    exact ⟨this.1, this.2.1⟩
  refine ⟨n0, by show s.n ≤ s.nb + 1; omega, fun b b0 b1 => ?_, fun p p0 p1 => ?_, fun b p b0 b1 hp => ?_, fun b b0 b1 => ?_, fun b b0 b1 hb => ?_, fun b p q b0 b1 hp hq => ?_, fun b p b0 b1 hp ho' => ?_, fun b b0 b1 hb => ?_, fun b b0 b1 hb => ?_, fun b b0 b1 => ?_⟩
  · have b1 : b < s.n := b1
    have e := hne b (by omega)
    show upd s.ins s.nb _ b = _ ∧ upd s.ring s.nb _ b = _
    rw [upd_ne e, upd_ne e]; exact h.base b b0 b1
  · have p1 : p < s.n := p1
    obtain ⟨o0, o1, o2⟩ := h.out p p0 p1
    show 0 ≤ (if p ∈ _ then s.nb else s.outer p) ∧ (if p ∈ _ then s.nb else s.outer p) < s.nb + 1 ∧ p ∈ upd s.ins s.nb _ (if p ∈ _ then s.nb else s.outer p)
    split
    · rename_i hp
      rw [upd_same]
      exact ⟨by omega, by omega, hp⟩
    · rw [upd_ne (hne _ o1)]
      exact ⟨o0, by omega, o2⟩
  · have b1 : b < s.nb + 1 := b1
    have hp : p ∈ upd s.ins s.nb _ b := hp
    show 0 ≤ p ∧ p < s.n ∧ b ≤ (if p ∈ _ then s.nb else s.outer p)
    by_cases e : b = s.nb
    · subst e
      rw [upd_same] at hp
      rw [if_pos hp]
      have := hpl p hp
      exact ⟨this.1, this.2, Int.le_refl _⟩
    · rw [upd_ne e] at hp
      obtain ⟨p0, p1, p2⟩ := h.mem b p b0 (by omega) hp
      refine ⟨p0, p1, ?_⟩
      split
      · omega
      · exact p2
  · have b1 : b < s.nb + 1 := b1
    show (upd s.ins s.nb _ b).Nodup
    by_cases e : b = s.nb
    · subst e
      rw [upd_same, List.nodup_iff_pairwise_ne, List.pairwise_flatMap]
      refine ⟨fun c hc => List.nodup_iff_pairwise_ne.mp (h.nd c (h.out_rg (ho c hc)).1 (h.out_rg (ho c hc)).2), ?_⟩
      refine List.Pairwise.imp_of_mem ?_ (List.nodup_iff_pairwise_ne.mp nd)
      intro c d hc hd ne x hx y hy e
      subst e
      exact ne (((h.out_in (ho c hc)).mp hx).2.2.symm.trans ((h.out_in (ho d hd)).mp hy).2.2)
    · rw [upd_ne e]; exact h.nd b b0 (by omega)
  · have b1 : b < s.nb + 1 := b1
    have hb : upd s.ins s.nb _ b ≠ [] := hb
    show (upd s.ins s.nb _ b).length % 2 = 1
    by_cases e : b = s.nb
    · subst e
      rw [upd_same]
      have := flat_odd (f := s.ins) (l := l.map (·.1)) fun c hc => h.odd c (h.out_rg (ho c hc)).1 (h.out_rg (ho c hc)).2 (h.out_ne (ho c hc))
      rw [List.length_map] at this
      omega
    · rw [upd_ne e] at hb ⊢; exact h.odd b b0 (by omega) hb
  · have b1 : b < s.nb + 1 := b1
    have hp : p ∈ upd s.ins s.nb _ b := hp
    have hq : q ∈ upd s.ins s.nb _ b := hq
    show (if p ∈ _ then s.nb else s.outer p) = (if q ∈ _ then s.nb else s.outer q)
    by_cases e : b = s.nb
    · subst e
      rw [upd_same] at hp hq
      rw [if_pos hp, if_pos hq]
    · rw [upd_ne e] at hp hq
      have b1 : b < s.nb := by omega
      have e1 := h.same b p q b0 b1 hp hq
      obtain ⟨p0, p1, _⟩ := h.mem b p b0 b1 hp
      obtain ⟨q0, q1, _⟩ := h.mem b q b0 b1 hq
      have i1 := tog_in h ho p0 p1
      have i2 := tog_in h ho q0 q1
      rw [e1] at i1
      by_cases hh : s.outer q ∈ l.map (·.1)
      · rw [if_pos (i1.mpr hh), if_pos (i2.mpr hh)]
      · rw [if_neg (fun z => hh (i1.mp z)), if_neg (fun z => hh (i2.mp z)), e1]
  · have b1 : b < s.nb + 1 := b1
    have hp : p ∈ upd s.ins s.nb _ b := hp
    have ho' : (if p ∈ _ then s.nb else s.outer p) ≠ b := ho'
    show ∃ d, 0 ≤ d ∧ d < s.nb + 1 ∧ b ∈ upd s.ring s.nb _ d
    by_cases e : b = s.nb
    · subst e
      rw [upd_same] at hp
      rw [if_pos hp] at ho'
      exact absurd rfl ho'
    · rw [upd_ne e] at hp
      have b1 : b < s.nb := by omega
      obtain ⟨p0, p1, _⟩ := h.mem b p b0 b1 hp
      by_cases e2 : s.outer p = b
      · have hin : p ∈ (l.map (·.1)).flatMap s.ins := by
          refine Classical.byContradiction fun hn => ?_
          rw [if_neg hn] at ho'
          exact ho' e2
        have := (tog_in h ho p0 p1).mp hin
        rw [e2] at this
        exact ⟨s.nb, by omega, by omega, by rw [upd_same]; exact this⟩
      · obtain ⟨d, d0, d1, hd⟩ := h.par b p b0 b1 hp e2
        exact ⟨d, d0, by omega, by rw [upd_ne (hne d d1)]; exact hd⟩
  · have b1 : b < s.nb + 1 := b1
    have hb : upd s.ring s.nb _ b ≠ [] := hb
    show s.n ≤ b ∧ RingOk (upd s.ins s.nb _) J b (upd s.ring s.nb _ b) (upd s.joints s.nb _ b)
    by_cases e : b = s.nb
    · subst e
      rw [upd_same, upd_same]
      refine ⟨nb, Ch.ring (a := a) ?_ hl hodd nd (fun c hc => ?_) ?_⟩
      · have key : ∀ {a c : Int} {l : List (Int × (Int × Int))}, Ch s.ins J a l c → (∀ x ∈ l.map (·.1), x < s.nb) → c < s.nb → Ch (upd s.ins s.nb ((l.map (·.1)).flatMap s.ins)) J a l c ∧ ∀ z, Ch (upd s.ins s.nb z) J a l c := by
          intro a c l h'
          induction h' with
          | nil a => intro _ _; exact ⟨.nil _, fun z => .nil _⟩
          | @cons a b c j l h1 h2 h3 h' ih =>
            intro hx hc
            have ha : a < s.nb := hx a (by simp)
            have ih := ih (fun x hx' => hx x (by simp at hx' ⊢; exact .inr hx')) hc
            have hb : b < s.nb := by
              cases h' with
              | nil => exact hc
              | cons _ _ _ _ => exact hx b (by simp)
            have go : ∀ z, Ch (upd s.ins s.nb z) J a ((a, j) :: l) c := fun z => .cons (by rw [upd_ne (hne a ha)]; exact h1) (by rw [upd_ne (hne b hb)]; exact h2) h3 (ih.2 z)
            exact ⟨go _, go⟩
        have ha : a < s.nb := by
          cases hc with
          | nil => simp at hl
          | cons _ _ _ _ => exact (h.out_rg (ho a (by simp))).2
        exact (key hc (fun x hx => (h.out_rg (ho x hx)).2) ha).2 _
      · obtain ⟨c0, c1⟩ := h.out_rg (ho c hc)
        rw [upd_ne (hne c c1)]
        exact ⟨c0, c1, h.out_ne (ho c hc)⟩
      · rw [upd_same]
        exact fm_congr fun c hc => (upd_ne (hne c (h.out_rg (ho c hc)).2)).symm
    · rw [upd_ne e] at hb
      rw [upd_ne e, upd_ne e]
      obtain ⟨r1, r2⟩ := h.rok b b0 (by omega) hb
      exact ⟨r1, r2.mono (upd_ne e) (fun c hc => upd_ne (by have := (r2.parts c hc).2.1; omega)) fun _ _ _ _ j => j⟩
  · have b1 : b < s.nb + 1 := b1
    have b0 : s.n ≤ b := b0
    have hb : upd s.ring s.nb _ b = [] := hb
    show upd s.ins s.nb _ b = [] ∧ upd s.price s.nb _ b = 0
    by_cases e : b = s.nb
    · subst e
      rw [upd_same] at hb
      have := congrArg List.length hb
      rw [List.length_map, List.length_nil] at this
      omega
    · rw [upd_ne e] at hb ⊢
      rw [upd_ne e]
      exact h.dead b b0 (by omega) hb
  · have b1 : b < s.nb + 1 := b1
    have b0 : s.n ≤ b := b0
    show 0 ≤ upd s.price s.nb _ b
    by_cases e : b = s.nb
    · subst e
      rw [upd_same]; exact Int.le_refl _
    · rw [upd_ne e]; exact h.pr b b0 (by omega)
end
end Bl
/-! W2: a ring taken apart -/
namespace Bl
open M
def sw (j : Int × Int) : Int × Int := (j.2, j.1)
def pv (m k : Int) : Int := if k = 0 then m - 1 else k - 1
def ofs (m a i : Int) : Int := if a ≤ i then i - a else i + m - a
def apTie (joints : List (Int × Int)) (m a : Int) (t : Option (Int × Int)) (i : Int) : Option (Int × Int) :=
  if ofs m a i = 0 then t else if ofs m a i % 2 = 1 then some (ge joints i) else some (sw (ge joints (pv m i)))
def apart (s : St) (b a : Int) : St :=
  { s with ins := upd s.ins b [], ring := upd s.ring b [], joints := upd s.joints b [], price := upd s.price b 0,
           tie := fun c => if c ∈ s.ring b then apTie (s.joints b) (s.ring b).length a (s.tie b) ((s.ring b).idxOf c : Int) else s.tie c,
           mark := fun c => if c ∈ s.ring b then 0 else s.mark c, way := fun c => if c ∈ s.ring b then none else s.way c,
           outer := fun p => ((s.ring b).find? fun c => decide (p ∈ s.ins c)).getD (s.outer p) }
structure Pr (J : Int → Int → Prop) (s : St) : Prop where
  pr : ∀ b x y, s.out b → s.tie b = some (x, y) → x ∈ s.ins b ∧ 0 ≤ y ∧ y < s.n ∧ J x y ∧ s.outer y ≠ b ∧ s.tie (s.outer y) = some (y, x)
section
variable {J : Int → Int → Prop} {s : St} {b a : Int}
theorem ap_outer (h : Str J s) (o : s.out b) (hr : s.ring b ≠ []) {p : Int} : (p ∈ s.ins b → (apart s b a).outer p ∈ s.ring b ∧ p ∈ s.ins ((apart s b a).outer p)) ∧ (p ∉ s.ins b → (apart s b a).outer p = s.outer p) := by
  obtain ⟨b0, b1⟩ := h.out_rg o
  have r := (h.rok b b0 b1 hr).2
  show (p ∈ s.ins b → ((s.ring b).find? fun c => decide (p ∈ s.ins c)).getD (s.outer p) ∈ s.ring b ∧ _) ∧ (p ∉ s.ins b → ((s.ring b).find? fun c => decide (p ∈ s.ins c)).getD (s.outer p) = s.outer p)
  constructor
  · intro hp
    show ((s.ring b).find? fun c => decide (p ∈ s.ins c)).getD (s.outer p) ∈ s.ring b ∧ p ∈ s.ins (((s.ring b).find? fun c => decide (p ∈ s.ins c)).getD (s.outer p))
    cases e : (s.ring b).find? fun c => decide (p ∈ s.ins c) with
    | none =>
      rw [List.find?_eq_none] at e
      rw [r.flat] at hp
      obtain ⟨c, hc, hp⟩ := List.mem_flatMap.mp hp
      exact absurd (decide_eq_true hp) (e c hc)
    | some c =>
      have e2 : decide (p ∈ s.ins c) = true := by have := List.find?_some e; exact this
      exact ⟨List.mem_of_find?_eq_some e, of_decide_eq_true e2⟩
  · intro hp
    have : (s.ring b).find? (fun c => decide (p ∈ s.ins c)) = none := List.find?_eq_none.mpr fun c hc hd => hp (r.sub hc (of_decide_eq_true hd))
    rw [this]; rfl
theorem ap_outer_in (h : Str J s) (o : s.out b) (hr : s.ring b ≠ []) {p c : Int} (hc : c ∈ s.ring b) (hp : p ∈ s.ins c) : (apart s b a).outer p = c := by
  obtain ⟨b0, b1⟩ := h.out_rg o
  have r := (h.rok b b0 b1 hr).2
  obtain ⟨h1, h2⟩ := (ap_outer (a := a) h o hr (p := p)).1 (r.sub hc hp)
  exact r.dis (h.nd b b0 b1) h1 hc h2 hp
theorem ap_out (h : Str J s) (o : s.out b) (hr : s.ring b ≠ []) {c : Int} : (apart s b a).out c ↔ c ∈ s.ring b ∨ (s.out c ∧ c ≠ b) := by
  obtain ⟨b0, b1⟩ := h.out_rg o
  have r := (h.rok b b0 b1 hr).2
  constructor
  · rintro ⟨p, p0, p1, rfl⟩
    by_cases hp : p ∈ s.ins b
    · exact .inl ((ap_outer h o hr).1 hp).1
    · rw [(ap_outer h o hr).2 hp]
      exact .inr ⟨⟨p, p0, p1, rfl⟩, fun e => hp ((h.out_in o).mpr ⟨p0, p1, e⟩)⟩
  · rintro (hc | ⟨⟨p, p0, p1, e⟩, ne⟩)
    · obtain ⟨p, hp⟩ := List.exists_mem_of_ne_nil _ (r.parts c hc).2.2
      obtain ⟨p0, p1, _⟩ := h.mem b p b0 b1 (r.sub hc hp)
      exact ⟨p, p0, p1, ap_outer_in h o hr hc hp⟩
    · refine ⟨p, p0, p1, ?_⟩
      rw [(ap_outer h o hr).2 fun hp => ne (e.symm.trans ((h.out_in o).mp hp).2.2)]; exact e
theorem ap_str (h : Str J s) (o : s.out b) (hr : s.ring b ≠ []) : Str J (apart s b a) := by
  obtain ⟨b0, b1⟩ := h.out_rg o
  obtain ⟨bn, r⟩ := h.rok b b0 b1 hr
  have nd := h.nd b b0 b1
  have lt : ∀ c ∈ s.ring b, c < b := fun c hc => (r.parts c hc).2.1
  have inx : ∀ x p, p ∈ upd s.ins b [] x → x ≠ b ∧ p ∈ s.ins x := fun x p hp => by
    by_cases e : x = b
    · rw [e, upd_same] at hp; cases hp
    · rw [upd_ne e] at hp; exact ⟨e, hp⟩
  have cov : ∀ x p, 0 ≤ x → x < s.nb → x ≠ b → p ∈ s.ins x → p ∈ s.ins b → ∃ c ∈ s.ring b, x ≤ c ∧ ∀ q ∈ s.ins x, q ∈ s.ins c := fun x p x0 x1 ne hp hb =>
    h.desc o (b - x).toNat (Nat.le_refl _) x0 x1 ne hp ((h.out_in o).mp hb).2.2
  refine ⟨h.n0, h.nb, fun c c0 c1 => ?_, fun p p0 p1 => ?_, fun x p x0 x1 hp => ?_, fun x x0 x1 => ?_, fun x x0 x1 hx => ?_, fun x p q x0 x1 hp hq => ?_, fun x p x0 x1 hp ho => ?_, fun x x0 x1 hx => ?_, fun x x0 x1 hx => ?_, fun x x0 x1 => ?_⟩
  · have c1 : c < s.n := c1
    have e : c ≠ b := by omega
    show upd s.ins b [] c = _ ∧ upd s.ring b [] c = _
    rw [upd_ne e, upd_ne e]; exact h.base c c0 c1
  · have p1 : p < s.n := p1
    obtain ⟨o0, o1, o2⟩ := h.out p p0 p1
    show 0 ≤ (apart s b a).outer p ∧ (apart s b a).outer p < s.nb ∧ p ∈ upd s.ins b [] ((apart s b a).outer p)
    by_cases hp : p ∈ s.ins b
    · obtain ⟨h1, h2⟩ := (ap_outer (a := a) h o hr).1 hp
      have := r.parts _ h1
      rw [upd_ne (by omega)]
      exact ⟨this.1, by omega, h2⟩
    · rw [(ap_outer h o hr).2 hp, upd_ne fun e => hp (by rw [← e]; exact o2)]
      exact ⟨o0, o1, o2⟩
  · have x1 : x < s.nb := x1
    obtain ⟨ne, hp⟩ := inx x p hp
    obtain ⟨p0, p1, p2⟩ := h.mem x p x0 x1 hp
    refine ⟨p0, p1, ?_⟩
    by_cases hb : p ∈ s.ins b
    · obtain ⟨c, hc, l, sub⟩ := cov x p x0 x1 ne hp hb
      rw [ap_outer_in h o hr hc (sub p hp)]; exact l
    · rw [(ap_outer h o hr).2 hb]; exact p2
  · show (upd s.ins b [] x).Nodup
    by_cases e : x = b
    · rw [e, upd_same]; exact List.nodup_nil
    · rw [upd_ne e]; exact h.nd x x0 x1
  · have hx : upd s.ins b [] x ≠ [] := hx
    show (upd s.ins b [] x).length % 2 = 1
    by_cases e : x = b
    · rw [e, upd_same] at hx; exact absurd rfl hx
    · rw [upd_ne e] at hx ⊢; exact h.odd x x0 x1 hx
  · have x1 : x < s.nb := x1
    obtain ⟨ne, hp⟩ := inx x p hp
    obtain ⟨_, hq⟩ := inx x q hq
    obtain ⟨p0, p1, p2⟩ := h.mem x p x0 x1 hp
    obtain ⟨q0, q1, q2⟩ := h.mem x q x0 x1 hq
    have e1 := h.same x p q x0 x1 hp hq
    by_cases hb : p ∈ s.ins b
    · obtain ⟨c, hc, l, sub⟩ := cov x p x0 x1 ne hp hb
      rw [ap_outer_in h o hr hc (sub p hp), ap_outer_in h o hr hc (sub q hq)]
    · have hb' : q ∉ s.ins b := fun z => hb ((h.out_in o).mpr ⟨p0, p1, by rw [e1]; exact ((h.out_in o).mp z).2.2⟩)
      rw [(ap_outer h o hr).2 hb, (ap_outer h o hr).2 hb', e1]
  · have x1 : x < s.nb := x1
    obtain ⟨ne, hp'⟩ := inx x p hp
    clear hp
    have hp := hp'
    show ∃ d, 0 ≤ d ∧ d < s.nb ∧ x ∈ upd s.ring b [] d
    have go : ∀ d, 0 ≤ d → d < s.nb → x ∈ s.ring d → d ≠ b → ∃ d, 0 ≤ d ∧ d < s.nb ∧ x ∈ upd s.ring b [] d := fun d d0 d1 hd e => ⟨d, d0, d1, by rw [upd_ne e]; exact hd⟩
    by_cases hb : p ∈ s.ins b
    · obtain ⟨d, d0, d1, hd⟩ := h.par x p x0 x1 hp (by rw [((h.out_in o).mp hb).2.2]; exact fun e => ne e.symm)
      refine go d d0 d1 hd fun e => ?_
      subst e
      exact ho (ap_outer_in h o hr hd hp)
    · have e1 := (ap_outer (a := a) h o hr).2 hb
      rw [e1] at ho
      obtain ⟨d, d0, d1, hd⟩ := h.par x p x0 x1 hp ho
      refine go d d0 d1 hd fun e => ?_
      subst e
      exact hb (r.sub hd hp)
  · have x1 : x < s.nb := x1
    have hx : upd s.ring b [] x ≠ [] := hx
    show s.n ≤ x ∧ RingOk (upd s.ins b []) J x (upd s.ring b [] x) (upd s.joints b [] x)
    by_cases e : x = b
    · rw [e, upd_same] at hx; exact absurd rfl hx
    · rw [upd_ne e] at hx
      rw [upd_ne e, upd_ne e]
      obtain ⟨r1, r2⟩ := h.rok x x0 x1 hx
      refine ⟨r1, r2.mono (upd_ne e) (fun c hc => upd_ne fun e2 => ?_) fun _ _ _ _ j => j⟩
      subst e2
      exact h.out_part o x0 x1 hc
  · have x1 : x < s.nb := x1
    have hx : upd s.ring b [] x = [] := hx
    show upd s.ins b [] x = [] ∧ upd s.price b 0 x = 0
    by_cases e : x = b
    · rw [e, upd_same, upd_same]; exact ⟨rfl, rfl⟩
    · rw [upd_ne e] at hx ⊢
      rw [upd_ne e]; exact h.dead x x0 x1 hx
  · have x1 : x < s.nb := x1
    show 0 ≤ upd s.price b 0 x
    by_cases e : x = b
    · rw [e, upd_same]; exact Int.le_refl _
    · rw [upd_ne e]; exact h.pr x x0 x1
theorem idx_ge {l : List Int} (nd : l.Nodup) {i : Int} (i0 : 0 ≤ i) (i1 : i < l.length) : (l.idxOf (ge l i) : Int) = i := by
  obtain ⟨k, rfl⟩ := Int.eq_ofNat_of_zero_le i0
  have hk : k < l.length := by omega
  rw [ge_get hk]
  have hx : l.idxOf l[k] < l.length := List.idxOf_lt_length_of_mem (List.getElem_mem hk)
  have := (List.getElem_inj (h₀ := hx) (h₁ := hk) nd).mp (List.getElem_idxOf hx)
  omega
theorem ap_tie (h : Str J s) (o : s.out b) (hr : s.ring b ≠ []) {i : Int} (i0 : 0 ≤ i) (i1 : i < (s.ring b).length) : (apart s b a).tie (ge (s.ring b) i) = apTie (s.joints b) (s.ring b).length a (s.tie b) i := by
  obtain ⟨b0, b1⟩ := h.out_rg o
  have r := (h.rok b b0 b1 hr).2
  show (if ge (s.ring b) i ∈ s.ring b then apTie _ _ _ _ _ else _) = _
  rw [if_pos (ge_mem i0 i1), idx_ge r.nd i0 i1]
theorem ap_tie_not {c : Int} (hc : c ∉ s.ring b) : (apart s b a).tie c = s.tie c := by
  show (if c ∈ s.ring b then _ else _) = _
  rw [if_neg hc]
theorem ap_pr (h : Str J s) (k : Pr J s) (sy : ∀ x y, J x y → J y x) (o : s.out b) (hr : s.ring b ≠ []) (a0 : 0 ≤ a) (a1 : a < (s.ring b).length) (ha : ∀ x y, s.tie b = some (x, y) → x ∈ s.ins (ge (s.ring b) a)) : Pr J (apart s b a) := by
  obtain ⟨b0, b1⟩ := h.out_rg o
  obtain ⟨bn, r⟩ := h.rok b b0 b1 hr
  have ro := r.odd
  have r3 := r.three
  have lt : ∀ c ∈ s.ring b, c ≠ b := fun c hc e => by have := (r.parts c hc).2.1; omega
  have insc : ∀ c, c ≠ b → (apart s b a).ins c = s.ins c := fun c e => upd_ne e
  have mx : ∀ i : Int, 0 ≤ i → i < (s.ring b).length → ge (s.ring b) i ∈ s.ring b := fun i i0 i1 => ge_mem i0 i1
  have nring : ∀ c, s.out c → c ∉ s.ring b := fun c oc hc => h.out_part oc b0 b1 hc
  refine ⟨fun c x y oc e => ?_⟩
  rcases (ap_out h o hr).mp oc with hc | ⟨oc', ne⟩
  · obtain ⟨i, i0, i1, rfl⟩ := mem_ge.mp hc
    rw [ap_tie h o hr i0 i1] at e
    rw [insc _ (lt _ hc)]
    show x ∈ s.ins (ge (s.ring b) i) ∧ 0 ≤ y ∧ y < s.n ∧ J x y ∧ (apart s b a).outer y ≠ ge (s.ring b) i ∧ (apart s b a).tie ((apart s b a).outer y) = some (y, x)
    unfold apTie at e
    by_cases hd : ofs (s.ring b).length a i = 0
    · rw [if_pos hd] at e
      have ei : i = a := by unfold ofs at hd; split at hd <;> omega
      subst ei
      obtain ⟨h1, h2, h3, h4, h5, h6⟩ := k.pr b x y o e
      have hy : y ∉ s.ins b := fun z => h5 ((h.out_in o).mp z).2.2
      have oy := h.out_of h2 h3
      rw [(ap_outer h o hr).2 hy, ap_tie_not (nring _ oy)]
      exact ⟨ha x y e, h2, h3, h4, fun z => nring _ oy (by rw [z]; exact hc), h6⟩
    · rw [if_neg hd] at e
      by_cases hp : ofs (s.ring b).length a i % 2 = 1
      · rw [if_pos hp] at e
        have e := Option.some.inj e
        obtain ⟨t1, t2, t3⟩ := r.jt i i0 i1
        rw [e] at t1 t2 t3
        have n0 : 0 ≤ nx (s.ring b).length i := by unfold nx; split <;> omega
        have n1 : nx (s.ring b).length i < (s.ring b).length := by unfold nx; split <;> omega
        have n2 : nx (s.ring b).length i ≠ i := by unfold nx; split <;> omega
        have hm := mx _ n0 n1
        have ey := ap_outer_in (a := a) h o hr hm t2
        have yb := h.mem b y b0 b1 (r.sub hm t2)
        rw [ey, ap_tie h o hr n0 n1]
        refine ⟨t1, yb.1, yb.2.1, t3, fun z => n2 (nodup_ge r.nd n0 n1 i0 i1 z), ?_⟩
        have q1 : ofs (s.ring b).length a (nx (s.ring b).length i) = ofs (s.ring b).length a i + 1 := by
          unfold nx ofs at *
          split <;> split at hp <;> split <;> omega
        have q2 : pv (s.ring b).length (nx (s.ring b).length i) = i := by
          unfold nx pv
          split <;> split <;> omega
        unfold apTie
        rw [q1, if_neg (by unfold ofs at *; split at hp <;> omega), if_neg (by omega), q2, e]; rfl
      · rw [if_neg hp] at e
        have e := Option.some.inj e
        have n0 : 0 ≤ pv (s.ring b).length i := by unfold pv; split <;> omega
        have n1 : pv (s.ring b).length i < (s.ring b).length := by unfold pv; split <;> omega
        have n2 : nx (s.ring b).length (pv (s.ring b).length i) = i := by
          unfold nx pv
          split <;> split <;> omega
        have n3 : pv (s.ring b).length i ≠ i := by unfold pv; split <;> omega
        obtain ⟨t1, t2, t3⟩ := r.jt _ n0 n1
        have ee : ge (s.joints b) (pv (s.ring b).length i) = (y, x) := by
          rw [show ge (s.joints b) (pv (s.ring b).length i) = sw (sw (ge (s.joints b) (pv (s.ring b).length i))) from rfl, e]; rfl
        rw [ee] at t1 t2 t3
        rw [n2] at t2
        have hm := mx _ n0 n1
        have ey := ap_outer_in (a := a) h o hr hm t1
        have yb := h.mem b y b0 b1 (r.sub hm t1)
        rw [ey, ap_tie h o hr n0 n1]
        refine ⟨t2, yb.1, yb.2.1, sy _ _ t3, fun z => n3 (nodup_ge r.nd n0 n1 i0 i1 z), ?_⟩
        have q1 : ofs (s.ring b).length a (pv (s.ring b).length i) = ofs (s.ring b).length a i - 1 := by
          unfold pv ofs at *
          split <;> split at hp <;> split at hd <;> split <;> omega
        unfold apTie
        rw [q1, if_neg (by omega), if_pos (by omega), ee]
  · have hn := nring c oc'
    rw [ap_tie_not hn] at e
    obtain ⟨h1, h2, h3, h4, h5, h6⟩ := k.pr c x y oc' e
    rw [insc c ne]
    show x ∈ s.ins c ∧ 0 ≤ y ∧ y < s.n ∧ J x y ∧ (apart s b a).outer y ≠ c ∧ (apart s b a).tie ((apart s b a).outer y) = some (y, x)
    by_cases hy : y ∈ s.ins b
    · have eb := ((h.out_in o).mp hy).2.2
      rw [eb] at h6
      have ma := mx a a0 a1
      rw [ap_outer_in h o hr ma (ha _ _ h6), ap_tie h o hr a0 a1]
      refine ⟨h1, h2, h3, h4, fun z => hn (by rw [← z]; exact ma), ?_⟩
      unfold apTie
      rw [if_pos (by unfold ofs; rw [if_pos (Int.le_refl _)]; omega)]
      exact h6
    · rw [(ap_outer h o hr).2 hy, ap_tie_not (nring _ (h.out_of h2 h3))]
      exact ⟨h1, h2, h3, h4, h5, h6⟩
end
/-! ### those that are alone -/
def lone (s : St) (b : Int) : Prop := s.out b ∧ s.tie b = none
open Classical in
noncomputable def lc (s : St) : Int := sumR s.nb fun b => if lone s b then 1 else 0
section
variable {J : Int → Int → Prop} {s : St} {b a : Int}
theorem ap_lone (h : Str J s) (o : s.out b) (hr : s.ring b ≠ []) (a0 : 0 ≤ a) (a1 : a < (s.ring b).length) {c : Int} : lone (apart s b a) c ↔ (c = ge (s.ring b) a ∧ s.tie b = none) ∨ (c ≠ b ∧ lone s c) := by
  obtain ⟨b0, b1⟩ := h.out_rg o
  have nring : ∀ c, s.out c → c ∉ s.ring b := fun c oc hc => h.out_part oc b0 b1 hc
  unfold lone
  rw [ap_out h o hr]
  constructor
  · rintro ⟨hc | ⟨oc, ne⟩, e⟩
    · obtain ⟨i, i0, i1, rfl⟩ := mem_ge.mp hc
      rw [ap_tie h o hr i0 i1] at e
      unfold apTie at e
      split at e
      · rename_i hd
        have ei : i = a := by unfold ofs at hd; split at hd <;> omega
        exact .inl ⟨by rw [ei], e⟩
      · split at e <;> cases e
    · rw [ap_tie_not (nring c oc)] at e
      exact .inr ⟨ne, oc, e⟩
  · rintro (⟨rfl, e⟩ | ⟨ne, oc, e⟩)
    · refine ⟨.inl (ge_mem a0 a1), ?_⟩
      rw [ap_tie h o hr a0 a1]
      unfold apTie
      rw [if_pos (by unfold ofs; rw [if_pos (Int.le_refl _)]; omega)]; exact e
    · exact ⟨.inr ⟨oc, ne⟩, by rw [ap_tie_not (nring c oc)]; exact e⟩
theorem ap_lc (h : Str J s) (o : s.out b) (hr : s.ring b ≠ []) (a0 : 0 ≤ a) (a1 : a < (s.ring b).length) : lc (apart s b a) = lc s := by
  classical
  obtain ⟨b0, b1⟩ := h.out_rg o
  have r := (h.rok b b0 b1 hr).2
  have hm : ge (s.ring b) a ∈ s.ring b := ge_mem a0 a1
  have hg := r.parts _ hm
  have hng : ¬ s.out (ge (s.ring b) a) := fun oc => h.out_part oc b0 b1 hm
  have key : ∀ v : Int, v = (if s.tie b = none then 1 else 0) → sumR s.nb (fun c => (if lone (apart s b a) c then 1 else 0) + (if c = b then v else 0)) = sumR s.nb fun c => (if lone s c then 1 else 0) + (if c = ge (s.ring b) a then v else 0) := by
    intro v hv
    refine sumR_congr fun c c0 c1 => ?_
    rw [ap_lone h o hr a0 a1]
    by_cases e1 : c = b
    · subst e1
      have n1 : c ≠ ge (s.ring c) a := by omega
      have hl : lone s c ↔ s.tie c = none := ⟨fun z => z.2, fun z => ⟨o, z⟩⟩
      by_cases ht : s.tie c = none
      · rw [if_neg (by rintro (z | z); exact n1 z.1; exact z.1 rfl), if_pos rfl, if_pos (hl.mpr ht), if_neg n1, hv, if_pos ht]; omega
      · rw [if_neg (by rintro (z | z); exact n1 z.1; exact z.1 rfl), if_pos rfl, if_neg (fun z => ht (hl.mp z)), if_neg n1, hv, if_neg ht]
    · by_cases e2 : c = ge (s.ring b) a
      · have nl : ¬ lone s c := fun z => hng (by rw [← e2]; exact z.1)
        by_cases ht : s.tie b = none
        · rw [if_pos (.inl ⟨e2, ht⟩), if_neg e1, if_neg nl, if_pos e2, hv, if_pos ht]; omega
        · rw [if_neg (by rintro (z | z); exact ht z.2; exact nl z.2), if_neg e1, if_neg nl, if_pos e2, hv, if_neg ht]
      · rw [if_neg e1, if_neg e2]
        by_cases hl : lone s c
        · rw [if_pos (.inr ⟨e1, hl⟩), if_pos hl]
        · rw [if_neg (by rintro (z | z); exact e2 z.1; exact hl z.2), if_neg hl]
  have := key _ rfl
  rw [sumR_add, sumR_add, sumR_one b0 b1, sumR_one hg.1 (by omega)] at this
  show sumR s.nb (fun c => if lone (apart s b a) c then 1 else 0) = sumR s.nb fun c => if lone s c then 1 else 0
  omega
end
/-! ### slack -/
def sep (s : St) (u v b : Int) : Bool := decide (u ∈ s.ins b) != decide (v ∈ s.ins b)
def slk (s : St) (u v w : Int) : Int := 2 * w - sumR s.nb fun b => if sep s u v b = true then s.price b else 0
theorem slk_sym (s : St) (u v w : Int) : slk s u v w = slk s v u w := by
  unfold slk
  congr 2
  funext b
  have : sep s u v b = sep s v u b := by unfold sep; cases decide (u ∈ s.ins b) <;> cases decide (v ∈ s.ins b) <;> rfl
  rw [this]
theorem tog_slk {J : Int → Int → Prop} {s : St} (h : Str J s) (l : List (Int × (Int × Int))) (t : Option (Int × Int)) (u v w : Int) : slk (together s l t) u v w = slk s u v w := by
  have n0 := h.n0
  have nb := h.nb
  unfold slk
  show 2 * w - sumR (s.nb + 1) _ = _
  rw [sumR_snoc (by omega)]
  have e1 : sumR s.nb (fun b => if sep (together s l t) u v b = true then (together s l t).price b else 0) = sumR s.nb fun b => if sep s u v b = true then s.price b else 0 := sumR_congr fun b b0 b1 => by
    have e : b ≠ s.nb := by omega
    unfold sep
    show (if (decide (u ∈ upd s.ins s.nb _ b) != decide (v ∈ upd s.ins s.nb _ b)) = true then upd s.price s.nb 0 b else 0) = _
    rw [upd_ne e, upd_ne e]
  rw [e1]
  have e2 : (together s l t).price s.nb = 0 := upd_same
  rw [e2]
  split <;> omega
theorem ap_slk {s : St} {b a : Int} (hp : s.price b = 0) (u v w : Int) : slk (apart s b a) u v w = slk s u v w := by
  unfold slk
  show 2 * w - sumR s.nb _ = _
  congr 1
  refine sumR_congr fun c c0 c1 => ?_
  unfold sep
  show (if (decide (u ∈ upd s.ins b [] c) != decide (v ∈ upd s.ins b [] c)) = true then upd s.price b 0 c else 0) = _
  by_cases e : c = b
  · rw [e, upd_same, upd_same, hp]; simp
  · rw [upd_ne e, upd_ne e]
end Bl
/-! W3: trees, paths, pairs changed -/
namespace Bl
open M
structure Tr (J : Int → Int → Prop) (s : St) (r : Int → Nat) : Prop where
  mks : ∀ b, s.out b → s.mark b = 0 ∨ s.mark b = 1 ∨ s.mark b = 2
  lone : ∀ b, s.out b → s.tie b = none → s.mark b = 1
  odd : ∀ b, s.out b → s.mark b = 2 → ∃ x y u v, s.tie b = some (x, y) ∧ s.mark (s.outer y) = 1 ∧ r b < r (s.outer y) ∧ s.way b = some (u, v) ∧ v ∈ s.ins b ∧ 0 ≤ u ∧ u < s.n ∧ s.mark (s.outer u) = 1 ∧ r (s.outer u) < r b ∧ J u v
  even : ∀ b x y, s.out b → s.mark b = 1 → s.tie b = some (x, y) → s.mark (s.outer y) = 2
def linkUp (s : St) (b : Int) : Option (Int × Int) := if s.mark b = 2 then (s.way b).map sw else s.tie b
inductive Pth (s : St) : Int → List Int → Prop where
  | root {b : Int} (h : linkUp s b = none) : Pth s b [b]
  | step {b : Int} {j : Int × Int} {L : List Int} (h : linkUp s b = some j) (k : Pth s (s.outer j.2) L) : Pth s b (b :: L)
/-- the way from an even body to its root -/
inductive EP (s : St) : Int → List Int → Prop where
  | root {e : Int} (m : s.mark e = 1) (h : s.tie e = none) : EP s e [e]
  | step {e o x y u v : Int} {L : List Int} (m : s.mark e = 1) (h1 : s.tie e = some (x, y)) (h2 : s.outer y = o) (mo : s.mark o = 2) (h3 : s.way o = some (u, v)) (k : EP s (s.outer u) L) : EP s e (e :: o :: L)
section
variable {J : Int → Int → Prop} {s : St} {r : Int → Nat}
theorem EP.pth {e : Int} {L : List Int} (h : EP s e L) : Pth s e L := by
  induction h with
  | root m h => exact .root (by unfold linkUp; rw [if_neg (by omega)]; exact h)
  | step m h1 h2 mo h3 k ih =>
    refine .step (j := (_, _)) (by unfold linkUp; rw [if_neg (by omega)]; exact h1) ?_
    rw [h2]
    exact .step (j := (_, _)) (by unfold linkUp; rw [if_pos mo, h3]; rfl) ih
theorem EP.head {e : Int} {L : List Int} (h : EP s e L) : ∃ T, L = e :: T := by cases h <;> exact ⟨_, rfl⟩
theorem EP.odd {e : Int} {L : List Int} (h : EP s e L) : L.length % 2 = 1 := by
  induction h with
  | root => rfl
  | step _ _ _ _ _ _ ih => simp only [List.length_cons]; omega
theorem Pth.head {b : Int} {L : List Int} (h : Pth s b L) : ∃ T, L = b :: T := by cases h <;> exact ⟨_, rfl⟩
theorem Pth.det {b : Int} {L M : List Int} (h : Pth s b L) (k : Pth s b M) : L = M := by
  induction h generalizing M with
  | root h =>
    cases k with
    | root _ => rfl
    | step h' _ => rw [h] at h'; cases h'
  | step h _ ih =>
    cases k with
    | root h' => rw [h] at h'; cases h'
    | step h' k' =>
      rw [h] at h'; cases h'
      rw [ih k']
/-- the rest of a path is a path -/
theorem Pth.tail {a b : Int} {P D : List Int} (h : Pth s a (P ++ b :: D)) : Pth s b (b :: D) := by
  generalize hq : P ++ b :: D = L at h
  induction h generalizing P with
  | @root a h =>
    cases P with
    | nil =>
      rw [List.nil_append] at hq
      obtain ⟨rfl, rfl⟩ := List.cons.inj hq
      exact .root h
    | cons x P => exact absurd (congrArg List.length hq) (by simp)
  | @step a j L h k ih =>
    cases P with
    | nil =>
      rw [List.nil_append] at hq
      obtain ⟨rfl, rfl⟩ := List.cons.inj hq
      exact .step h k
    | cons x P =>
      rw [List.cons_append] at hq
      exact ih (List.cons.inj hq).2
theorem Pth.congr {s' : St} {b : Int} {L : List Int} (h : Pth s b L) (ho : s'.outer = s.outer) (hl : ∀ c ∈ L, linkUp s' c = linkUp s c) : Pth s' b L := by
  induction h with
  | root h => exact .root (by rw [hl _ (by simp)]; exact h)
  | step h k ih =>
    refine .step (by rw [hl _ (by simp)]; exact h) ?_
    rw [ho]
    exact ih fun c hc => hl c (List.mem_cons_of_mem _ hc)
theorem Tr.path (t : Tr J s r) (h : Str J s) (k : Pr J s) : ∀ {e : Int}, s.out e → s.mark e = 1 → ∃ L, EP s e L := by
  have key : ∀ (n : Nat) (e : Int), r e ≤ n → s.out e → s.mark e = 1 → ∃ L, EP s e L := by
    intro n
    induction n using Nat.strongRecOn with
    | _ n ih =>
      intro e hn oe me
      cases ht : s.tie e with
      | none => exact ⟨[e], .root me ht⟩
      | some j =>
        obtain ⟨x, y⟩ := j
        have mo := t.even e x y oe me ht
        obtain ⟨p1, p2, p3, p4, p5, p6⟩ := k.pr e x y oe ht
        have oo := h.out_of p2 p3
        obtain ⟨x', y', u, v, q1, q2, q3, q4, q5, q6, q7, q8, q9, q10⟩ := t.odd _ oo mo
        rw [p6] at q1
        cases q1
        rw [((h.out_in oe).mp p1).2.2] at q3
        obtain ⟨L, hL⟩ := ih (r (s.outer u)) (by omega) (s.outer u) (Nat.le_refl _) (h.out_of q6 q7) q8
        exact ⟨_, .step me ht rfl mo q4 hL⟩
  exact fun {e} oe me => key _ e (Nat.le_refl _) oe me
theorem EP.rank (t : Tr J s r) (h : Str J s) (k : Pr J s) {e : Int} {L : List Int} (p : EP s e L) (oe : s.out e) : (∀ b ∈ L, s.out b ∧ r b ≤ r e ∧ (s.mark b = 1 ∨ s.mark b = 2)) ∧ L.Nodup := by
  induction p with
  | root m ht =>
    refine ⟨fun b hb => ?_, by simp⟩
    rw [List.mem_singleton.mp hb]
    exact ⟨oe, Nat.le_refl _, .inl m⟩
  | @step e o x y u v L m h1 h2 mo h3 p ih =>
    obtain ⟨p1, p2, p3, p4, p5, p6⟩ := k.pr e x y oe h1
    have oo := h.out_of p2 p3
    rw [h2] at oo p6
    obtain ⟨x', y', u', v', q1, q2, q3, q4, q5, q6, q7, q8, q9, q10⟩ := t.odd _ oo mo
    rw [p6] at q1
    cases q1
    rw [((h.out_in oe).mp p1).2.2] at q3
    rw [h3] at q4
    cases q4
    obtain ⟨i1, i2⟩ := ih (h.out_of q6 q7)
    refine ⟨fun b hb => ?_, ?_⟩
    · rcases List.mem_cons.mp hb with rfl | hb
      · exact ⟨oe, Nat.le_refl _, .inl m⟩
      · rcases List.mem_cons.mp hb with rfl | hb
        · exact ⟨oo, by omega, .inr mo⟩
        · have := i1 b hb
          exact ⟨this.1, by omega, this.2.2⟩
    · refine List.nodup_cons.mpr ⟨fun hm => ?_, List.nodup_cons.mpr ⟨fun hm => ?_, i2⟩⟩
      · rcases List.mem_cons.mp hm with rfl | hm
        · omega
        · have := (i1 e hm).2.1; omega
      · have := (i1 o hm).2.1; omega
/-- a path holds the mates of all its bodies -/
theorem EP.mates (h : Str J s) (k : Pr J s) {e : Int} {L : List Int} (p : EP s e L) (oe : s.out e) (hL : ∀ b ∈ L, s.out b) : ∀ b ∈ L, ∀ x y, s.tie b = some (x, y) → s.outer y ∈ L := by
  induction p with
  | root m ht =>
    intro b hb x y e
    rw [List.mem_singleton.mp hb, ht] at e; cases e
  | @step e o x y u v L m h1 h2 mo h3 p ih =>
    obtain ⟨p1, p2, p3, p4, p5, p6⟩ := k.pr e x y oe h1
    rw [h2] at p6
    intro b hb x' y' e'
    rcases List.mem_cons.mp hb with rfl | hb
    · rw [h1] at e'
      cases e'
      rw [h2]; simp
    · rcases List.mem_cons.mp hb with rfl | hb
      · rw [p6] at e'
        cases e'
        rw [((h.out_in oe).mp p1).2.2]; simp
      · have o2 : s.out (s.outer u) := hL _ (by
          obtain ⟨T, e⟩ := p.head
          rw [e]; simp)
        have := ih o2 (fun b hb => hL b (List.mem_cons_of_mem _ (List.mem_cons_of_mem _ hb))) b hb x' y' e'
        exact List.mem_cons_of_mem _ (List.mem_cons_of_mem _ this)
/-- ahead of an even body on the path the mates stand two by two -/
theorem EP.mates_in (h : Str J s) (k : Pr J s) {m : Int} {D : List Int} (mm : s.mark m = 1) : ∀ {e : Int} {A : List Int}, EP s e (A ++ m :: D) → s.out e → (∀ b ∈ A ++ m :: D, s.out b) → ∀ b ∈ A, ∀ x y, s.tie b = some (x, y) → s.outer y ∈ A := by
  intro e A p
  generalize hq : A ++ m :: D = L at p
  induction p generalizing A with
  | root m' ht =>
    intro _ _
    cases A with
    | nil => intro b hb; cases hb
    | cons a A => exact absurd (congrArg List.length hq) (by simp)
  | @step e o x y u v L m' h1 h2 mo h3 p ih =>
    intro oe hL
    cases A with
    | nil => intro b hb; cases hb
    | cons a A =>
      rw [List.cons_append] at hq
      obtain ⟨ea, hq2⟩ := List.cons.inj hq
      subst ea
      clear hq
      cases A with
      | nil =>
        rw [List.nil_append] at hq2
        have := (List.cons.inj hq2).1
        rw [this] at mm
        omega
      | cons a2 A =>
        rw [List.cons_append] at hq2
        obtain ⟨ea, hq⟩ := List.cons.inj hq2
        subst ea
        clear hq2
        obtain ⟨p1, p2, p3, p4, p5, p6⟩ := k.pr a x y oe h1
        rw [h2] at p6
        intro b hb x' y' e'
        rcases List.mem_cons.mp hb with rfl | hb
        · rw [h1] at e'
          cases e'
          rw [h2]; simp
        · rcases List.mem_cons.mp hb with rfl | hb
          · rw [p6] at e'
            cases e'
            rw [((h.out_in oe).mp p1).2.2]; simp
          · have o2 : s.out (s.outer u) := hL _ (by
              obtain ⟨T, e⟩ := p.head
              rw [e]; simp)
            have := ih hq o2 (fun b hb => hL b (List.mem_cons_of_mem _ (List.mem_cons_of_mem _ hb))) b hb x' y' e'
            exact List.mem_cons_of_mem _ (List.mem_cons_of_mem _ this)
theorem EP.lone {e : Int} {L : List Int} (p : EP s e L) : ∃ z P, L = P ++ [z] ∧ s.tie z = none ∧ ∀ b ∈ P, s.tie b = none → s.mark b = 2 := by
  induction p with
  | root m ht => exact ⟨_, [], rfl, ht, fun b hb => by cases hb⟩
  | @step e o x y u v L m h1 h2 mo h3 p ih =>
    obtain ⟨z, P, rfl, h1', h2'⟩ := ih
    refine ⟨z, e :: o :: P, rfl, h1', fun b hb hn => ?_⟩
    rcases List.mem_cons.mp hb with rfl | hb
    · rw [h1] at hn; cases hn
    · rcases List.mem_cons.mp hb with rfl | hb
      · exact mo
      · exact h2' b hb hn
end
/-! ### pairs changed along a path -/
def chg (way : Int → Option (Int × Int)) : List Int → Int × Int → (Int → Option (Int × Int)) → (Int → Option (Int × Int))
  | e :: o :: L, l, f => chg way L ((way o).getD default) (upd (upd f e (some l)) o (some (sw ((way o).getD default))))
  | [e], l, f => upd f e (some l)
  | [], _, f => f
section
variable {J : Int → Int → Prop} {s : St} {r : Int → Nat}
theorem chg_spec {e : Int} {L : List Int} (p : EP s e L) (nd : L.Nodup) : ∀ (l : Int × Int) (f : Int → Option (Int × Int)), (∀ b, b ∉ L → chg s.way L l f b = f b) ∧ chg s.way L l f e = some l ∧
    ∀ b ∈ L, b ≠ e → ∃ o u v, o ∈ L ∧ s.way o = some (u, v) ∧ s.mark o = 2 ∧ s.outer u ∈ L ∧ (b = o ∨ b = s.outer u) ∧ chg s.way L l f o = some (v, u) ∧ chg s.way L l f (s.outer u) = some (u, v) := by
  induction p with
  | root m ht =>
    intro l f
    refine ⟨fun b hb => upd_ne fun z => hb (by rw [z]; simp), upd_same, fun b hb hn => absurd (List.mem_singleton.mp hb) hn⟩
  | @step e o x y u v L m h1 h2 mo h3 p ih =>
    intro l f
    obtain ⟨n1, n2⟩ := List.nodup_cons.mp nd
    obtain ⟨n3, n4⟩ := List.nodup_cons.mp n2
    obtain ⟨i1, i2, i3⟩ := ih n4 (u, v) (upd (upd f e (some l)) o (some (v, u)))
    have ec : chg s.way (e :: o :: L) l f = chg s.way L (u, v) (upd (upd f e (some l)) o (some (v, u))) := by
      rw [chg, h3]; rfl
    rw [ec]
    have eo : e ≠ o := fun z => n1 (by rw [z]; simp)
    have vo : chg s.way L (u, v) (upd (upd f e (some l)) o (some (v, u))) o = some (v, u) := by rw [i1 o n3, upd_same]
    refine ⟨fun b hb => ?_, ?_, fun b hb hn => ?_⟩
    · have b1 : b ≠ e := fun z => hb (by rw [z]; simp)
      have b2 : b ≠ o := fun z => hb (by rw [z]; simp)
      rw [i1 b fun z => hb (by simp [z]), upd_ne b2, upd_ne b1]
    · rw [i1 e fun z => n1 (List.mem_cons_of_mem _ z), upd_ne eo, upd_same]
    · have hu : s.outer u ∈ L := by
        obtain ⟨T, e⟩ := p.head
        rw [e]; simp
      rcases List.mem_cons.mp hb with rfl | hb
      · exact absurd rfl hn
      · by_cases hbu : b = o ∨ b = s.outer u
        · exact ⟨o, u, v, by simp, h3, mo, by simp [hu], hbu, vo, i2⟩
        · have hbL : b ∈ L := by
            rcases List.mem_cons.mp hb with z | z
            · exact absurd (.inl z) hbu
            · exact z
          obtain ⟨o', u', v', j1, j2, j3, j4, j5, j6, j7⟩ := i3 b hbL fun z => hbu (.inr z)
          exact ⟨o', u', v', by simp [j1], j2, j3, by simp [j4], j5, j6, j7⟩
/-- what a link between two trees makes of the pairs -/
theorem joined (h : Str J s) (k : Pr J s) (sy : ∀ x y, J x y → J y x) (t : Tr J s r) {u v : Int} {L1 L2 : List Int} (u0 : 0 ≤ u) (u1 : u < s.n) (v0 : 0 ≤ v) (v1 : v < s.n) (ju : J u v) (p1 : EP s (s.outer u) L1) (p2 : EP s (s.outer v) L2) (hd : ∀ b ∈ L1, b ∉ L2) :
    Pr J { s with tie := chg s.way L2 (v, u) (chg s.way L1 (u, v) s.tie) } ∧ lc { s with tie := chg s.way L2 (v, u) (chg s.way L1 (u, v) s.tie) } = lc s - 2 := by
  obtain ⟨a1, n1⟩ := EP.rank t h k p1 (h.out_of u0 u1)
  obtain ⟨a2, n2⟩ := EP.rank t h k p2 (h.out_of v0 v1)
  have o1 := h.out_of u0 u1
  have o2 := h.out_of v0 v1
  have iu := (h.out u u0 u1).2.2
  have iv := (h.out v v0 v1).2.2
  have hu1 : s.outer u ∈ L1 := by obtain ⟨T, e⟩ := p1.head; rw [e]; simp
  have hv2 : s.outer v ∈ L2 := by obtain ⟨T, e⟩ := p2.head; rw [e]; simp
  obtain ⟨c1, c2, c3⟩ := chg_spec p1 n1 (u, v) s.tie
  obtain ⟨d1, d2, d3⟩ := chg_spec p2 n2 (v, u) (chg s.way L1 (u, v) s.tie)
  have w1 : ∀ b ∈ L1, chg s.way L2 (v, u) (chg s.way L1 (u, v) s.tie) b = chg s.way L1 (u, v) s.tie b := fun b hb => d1 b (hd b hb)
  have wn : ∀ b, b ∉ L1 → b ∉ L2 → chg s.way L2 (v, u) (chg s.way L1 (u, v) s.tie) b = s.tie b := fun b h1 h2 => by rw [d1 b h2, c1 b h1]
  have gen : ∀ (f : Int → Option (Int × Int)) (o u' v' : Int), s.out o → s.way o = some (u', v') → s.mark o = 2 → f o = some (v', u') → f (s.outer u') = some (u', v') → ∀ b x y, (b = o ∨ b = s.outer u') → f b = some (x, y) → x ∈ s.ins b ∧ 0 ≤ y ∧ y < s.n ∧ J x y ∧ s.outer y ≠ b ∧ f (s.outer y) = some (y, x) := by
    intro f o u' v' oo hw mo f1 f2 b x y hb e
    obtain ⟨x', y', u2, v2, q1, q2, q3, q4, q5, q6, q7, q8, q9, q10⟩ := t.odd _ oo mo
    rw [hw] at q4
    cases q4
    have ov := (h.out_in oo).mp q5
    have ne : s.outer u' ≠ o := fun z => by rw [z] at q8; omega
    rcases hb with rfl | rfl
    · rw [f1] at e
      cases e
      exact ⟨q5, q6, q7, sy _ _ q10, ne, f2⟩
    · rw [f2] at e
      cases e
      refine ⟨(h.out _ q6 q7).2.2, ov.1, ov.2.1, q10, by rw [ov.2.2]; exact fun z => ne z.symm, ?_⟩
      rw [ov.2.2]; exact f1
  refine ⟨⟨fun b x y ob e => ?_⟩, ?_⟩
  · have ob : s.out b := ob
    show x ∈ s.ins b ∧ 0 ≤ y ∧ y < s.n ∧ J x y ∧ s.outer y ≠ b ∧ chg s.way L2 (v, u) (chg s.way L1 (u, v) s.tie) (s.outer y) = some (y, x)
    have e : chg s.way L2 (v, u) (chg s.way L1 (u, v) s.tie) b = some (x, y) := e
    by_cases h1 : b ∈ L1
    · by_cases hb : b = s.outer u
      · rw [w1 b h1, hb, c2] at e
        cases e
        rw [hb]
        exact ⟨iu, v0, v1, ju, fun z => hd _ hu1 (by rw [← z]; exact hv2), d2⟩
      · obtain ⟨o, u', v', j1, j2, j3, j4, j5, j6, j7⟩ := c3 b h1 hb
        exact gen _ o u' v' (a1 o j1).1 j2 j3 (by rw [w1 o j1]; exact j6) (by rw [w1 _ j4]; exact j7) b x y j5 e
    · by_cases h2 : b ∈ L2
      · by_cases hb : b = s.outer v
        · rw [hb, d2] at e
          cases e
          rw [hb]
          refine ⟨iv, u0, u1, sy _ _ ju, fun z => hd _ hu1 (by rw [z]; exact hv2), ?_⟩
          rw [w1 _ hu1]; exact c2
        · obtain ⟨o, u', v', j1, j2, j3, j4, j5, j6, j7⟩ := d3 b h2 hb
          exact gen _ o u' v' (a2 o j1).1 j2 j3 j6 j7 b x y j5 e
      · rw [wn b h1 h2] at e
        obtain ⟨q1, q2, q3, q4, q5, q6⟩ := k.pr b x y ob e
        have bx := ((h.out_in ob).mp q1).2.2
        have m1 := EP.mates h k p1 o1 (fun b hb => (a1 b hb).1)
        have m2 := EP.mates h k p2 o2 (fun b hb => (a2 b hb).1)
        refine ⟨q1, q2, q3, q4, q5, ?_⟩
        rw [wn _ (fun z => h1 (by have := m1 _ z _ _ q6; rwa [bx] at this)) fun z => h2 (by have := m2 _ z _ _ q6; rwa [bx] at this)]
        exact q6
  · classical
    obtain ⟨z1, P1, e1, t1, l1⟩ := p1.lone
    obtain ⟨z2, P2, e2, t2, l2⟩ := p2.lone
    have hz1 : z1 ∈ L1 := by rw [e1]; simp
    have hz2 : z2 ∈ L2 := by rw [e2]; simp
    have nz : z1 ≠ z2 := fun e => hd z1 hz1 (by rw [e]; exact hz2)
    have some1 : ∀ b ∈ L1, chg s.way L2 (v, u) (chg s.way L1 (u, v) s.tie) b ≠ none := fun b hb e => by
      rw [w1 b hb] at e
      by_cases hbu : b = s.outer u
      · rw [hbu, c2] at e; cases e
      · obtain ⟨o, u', v', j1, j2, j3, j4, j5, j6, j7⟩ := c3 b hb hbu
        rcases j5 with rfl | rfl
        · rw [j6] at e; cases e
        · rw [j7] at e; cases e
    have some2 : ∀ b ∈ L2, chg s.way L2 (v, u) (chg s.way L1 (u, v) s.tie) b ≠ none := fun b hb e => by
      by_cases hbu : b = s.outer v
      · rw [hbu, d2] at e; cases e
      · obtain ⟨o, u', v', j1, j2, j3, j4, j5, j6, j7⟩ := d3 b hb hbu
        rcases j5 with rfl | rfl
        · rw [j6] at e; cases e
        · rw [j7] at e; cases e
    have lone1 : ∀ (L P : List Int) (z : Int), L = P ++ [z] → s.tie z = none → (∀ b ∈ P, s.tie b = none → s.mark b = 2) → (∀ b ∈ L, s.out b) → ∀ b ∈ L, s.tie b = none → b = z := by
      intro L P z eL tz lP oL b hb tb
      rw [eL] at hb
      rcases List.mem_append.mp hb with hb' | hb'
      · have m2 := lP b hb' tb
        have m1 := t.lone b (oL b (by rw [eL]; exact hb)) tb
        omega
      · exact List.mem_singleton.mp hb'
    have u1' := lone1 L1 P1 z1 e1 t1 l1 fun b hb => (a1 b hb).1
    have u2' := lone1 L2 P2 z2 e2 t2 l2 fun b hb => (a2 b hb).1
    have key : sumR s.nb (fun b => (if Bl.lone s b then (1 : Int) else 0)) = sumR s.nb fun b => ((if Bl.lone { s with tie := chg s.way L2 (v, u) (chg s.way L1 (u, v) s.tie) } b then (1 : Int) else 0) + (if b = z1 then 1 else 0)) + (if b = z2 then 1 else 0) := by
      refine sumR_congr fun b b0 b1 => ?_
      have il : Bl.lone { s with tie := chg s.way L2 (v, u) (chg s.way L1 (u, v) s.tie) } b ↔ s.out b ∧ chg s.way L2 (v, u) (chg s.way L1 (u, v) s.tie) b = none := Iff.rfl
      by_cases h1 : b ∈ L1
      · have nl : ¬ Bl.lone { s with tie := chg s.way L2 (v, u) (chg s.way L1 (u, v) s.tie) } b := fun z => some1 b h1 z.2
        rw [if_neg nl]
        have n2 : b ≠ z2 := fun e => hd b h1 (by rw [e]; exact hz2)
        rw [if_neg n2]
        by_cases e : b = z1
        · rw [if_pos e, if_pos (show Bl.lone s b from ⟨(a1 b h1).1, by rw [e]; exact t1⟩)]; rfl
        · rw [if_neg e, if_neg fun z => e (u1' b h1 z.2)]; rfl
      · by_cases h2 : b ∈ L2
        · have nl : ¬ Bl.lone { s with tie := chg s.way L2 (v, u) (chg s.way L1 (u, v) s.tie) } b := fun z => some2 b h2 z.2
          rw [if_neg nl]
          have n1 : b ≠ z1 := fun e => h1 (by rw [e]; exact hz1)
          rw [if_neg n1]
          by_cases e : b = z2
          · rw [if_pos e, if_pos (show Bl.lone s b from ⟨(a2 b h2).1, by rw [e]; exact t2⟩)]; rfl
          · rw [if_neg e, if_neg fun z => e (u2' b h2 z.2)]; rfl
        · rw [if_neg (show ¬ b = z1 from fun e => h1 (by rw [e]; exact hz1)), if_neg (show ¬ b = z2 from fun e => h2 (by rw [e]; exact hz2))]
          have : Bl.lone { s with tie := chg s.way L2 (v, u) (chg s.way L1 (u, v) s.tie) } b ↔ Bl.lone s b := by
            rw [il, wn b h1 h2]; exact Iff.rfl
          by_cases hl : Bl.lone s b
          · rw [if_pos hl, if_pos (this.mpr hl)]; rfl
          · rw [if_neg hl, if_neg fun z => hl (this.mp z)]; rfl
    have r1 := h.out_rg (a1 z1 hz1).1
    have r2 := h.out_rg (a2 z2 hz2).1
    rw [sumR_add, sumR_add, sumR_one r1.1 r1.2, sumR_one r2.1 r2.2] at key
    show sumR s.nb (fun b => if Bl.lone { s with tie := chg s.way L2 (v, u) (chg s.way L1 (u, v) s.tie) } b then (1 : Int) else 0) = (sumR s.nb fun b => if Bl.lone s b then (1 : Int) else 0) - 2
    omega
end
end Bl
/-! W4: trees that grow, rings that are found -/
namespace Bl
open M
theorem Str.tmw {J : Int → Int → Prop} {s : St} (h : Str J s) (ti : Int → Option (Int × Int)) (mk : Int → Int) (wy : Int → Option (Int × Int)) : Str J { s with tie := ti, mark := mk, way := wy } :=
  ⟨h.n0, h.nb, h.base, h.out, h.mem, h.nd, h.odd, h.same, h.par, h.rok, h.dead, h.pr⟩
/-! ### how far a search has come -/
open Classical in
noncomputable def Ev (s : St) : Int := sumR s.n fun p => if s.mark (s.outer p) = 1 then 1 else 0
def cnt (s : St) (b : Int) : Prop := s.ring b ≠ [] ∧ ∃ p ∈ s.ins b, s.mark (s.outer p) ≠ 1
open Classical in
noncomputable def Nr (s : St) : Int := sumR s.nb fun b => if cnt s b then 1 else 0
theorem sumR_nonneg {n : Int} {f : Int → Int} (h : ∀ i, 0 ≤ i → i < n → 0 ≤ f i) : 0 ≤ sumR n f := by
  have := sumR_le (n := n) (f := fun _ => 0) (g := f) h
  have e : sumR n (fun _ => (0 : Int)) = 0 := by
    unfold sumR
    generalize rngL 0 n = l
    induction l with
    | nil => rfl
    | cons x l ih => rw [List.map_cons, List.sum_cons, ih]; rfl
  omega
theorem sumR_const {n c : Int} (h : 0 ≤ n) : sumR n (fun _ => c) = n * c := by
  unfold sumR
  have e : ∀ l : List Int, (l.map fun _ => c).sum = l.length * c := by
    intro l
    induction l with
    | nil => simp
    | cons x l ih => rw [List.map_cons, List.sum_cons, ih, List.length_cons, Int.natCast_add, Int.add_mul]; omega
  rw [e, rngL_len]
  congr 1; omega
theorem Ev_rg {s : St} (h : 0 ≤ s.n) : 0 ≤ Ev s ∧ Ev s ≤ s.n := by
  classical
  refine ⟨sumR_nonneg fun i _ _ => by split <;> decide, ?_⟩
  have := sumR_le (n := s.n) (f := fun p => if s.mark (s.outer p) = 1 then 1 else 0) (g := fun _ => 1) fun i _ _ => by split <;> decide
  rw [sumR_const h] at this
  unfold Ev
  omega
theorem Ev_le {s s' : St} (hn : s'.n = s.n) (h : ∀ p, 0 ≤ p → p < s.n → s.mark (s.outer p) = 1 → s'.mark (s'.outer p) = 1) : Ev s ≤ Ev s' := by
  unfold Ev
  rw [hn]
  refine sumR_le fun p p0 p1 => ?_
  by_cases e : s.mark (s.outer p) = 1
  · rw [if_pos e, if_pos (h p p0 p1 e)]; exact Int.le_refl _
  · rw [if_neg e]; split <;> decide
theorem Ev_lt {s s' : St} (hn : s'.n = s.n) (h : ∀ p, 0 ≤ p → p < s.n → s.mark (s.outer p) = 1 → s'.mark (s'.outer p) = 1) {q : Int} (q0 : 0 ≤ q) (q1 : q < s.n) (hq : s.mark (s.outer q) ≠ 1) (hq' : s'.mark (s'.outer q) = 1) : Ev s + 1 ≤ Ev s' := by
  have key := sumR_le (n := s.n) (f := fun p => (if s.mark (s.outer p) = 1 then (1 : Int) else 0) + (if p = q then 1 else 0)) (g := fun p => if s'.mark (s'.outer p) = 1 then (1 : Int) else 0) fun p p0 p1 => by
    show (if s.mark (s.outer p) = 1 then (1 : Int) else 0) + (if p = q then 1 else 0) ≤ (if s'.mark (s'.outer p) = 1 then (1 : Int) else 0)
    by_cases e : p = q
    · subst e
      rw [if_neg hq, if_pos rfl, if_pos hq']; decide
    · rw [if_neg e]
      by_cases e2 : s.mark (s.outer p) = 1
      · rw [if_pos e2, if_pos (h p p0 p1 e2)]; decide
      · rw [if_neg e2]; split <;> decide
  rw [sumR_add, sumR_one q0 q1] at key
  unfold Ev
  rw [hn]
  exact key
/-! ### a tree grows -/
section
variable {J : Int → Int → Prop} {s : St} {r : Int → Nat}
/-- two bodies more in a tree -/
theorem grown (h : Str J s) (k : Pr J s) (t : Tr J s r) {u v : Int} (u0 : 0 ≤ u) (u1 : u < s.n) (v0 : 0 ≤ v) (v1 : v < s.n) (ju : J u v) (mu : s.mark (s.outer u) = 1) (mv : s.mark (s.outer v) = 0) :
    ∃ x y, s.tie (s.outer v) = some (x, y) ∧ 0 ≤ y ∧ y < s.n ∧ s.mark (s.outer y) = 0 ∧ (∃ r', Tr J { s with mark := upd (upd s.mark (s.outer v) 2) (s.outer y) 1, way := upd s.way (s.outer v) (some (u, v)) } r') ∧
      (∀ p, 0 ≤ p → p < s.n → s.mark (s.outer p) = 1 → upd (upd s.mark (s.outer v) 2) (s.outer y) 1 (s.outer p) = 1) ∧ s.outer y ≠ s.outer v := by
  have ov := h.out_of v0 v1
  have ou := h.out_of u0 u1
  cases ht : s.tie (s.outer v) with
  | none => have := t.lone _ ov ht; omega
  | some j =>
    obtain ⟨x, y⟩ := j
    obtain ⟨p1, p2, p3, p4, p5, p6⟩ := k.pr _ x y ov ht
    have oy := h.out_of p2 p3
    have ex := ((h.out_in ov).mp p1).2.2
    have my : s.mark (s.outer y) = 0 := by
      rcases t.mks _ oy with m | m | m
      · exact m
      · have := t.even _ _ _ oy m p6
        rw [ex] at this; omega
      · obtain ⟨x', y', u', v', q1, q2, _⟩ := t.odd _ oy m
        rw [p6] at q1
        cases q1
        rw [ex] at q2; omega
    have nu : s.outer u ≠ s.outer v := fun e => by rw [e] at mu; omega
    have nuy : s.outer u ≠ s.outer y := fun e => by rw [e] at mu; omega
    have mk' : ∀ b, b ≠ s.outer v → b ≠ s.outer y → upd (upd s.mark (s.outer v) 2) (s.outer y) 1 b = s.mark b := fun b h1 h2 => by rw [upd_ne h2, upd_ne h1]
    have mkv : upd (upd s.mark (s.outer v) 2) (s.outer y) 1 (s.outer v) = 2 := by rw [upd_ne (fun e => p5 e.symm), upd_same]
    have mky : upd (upd s.mark (s.outer v) 2) (s.outer y) 1 (s.outer y) = 1 := upd_same
    have nz : ∀ b, s.mark b ≠ 0 → b ≠ s.outer v ∧ b ≠ s.outer y := fun b hb => ⟨fun e => hb (by rw [e]; exact mv), fun e => hb (by rw [e]; exact my)⟩
    refine ⟨x, y, rfl, p2, p3, my, ⟨upd (upd r (s.outer v) (r (s.outer u) + 1)) (s.outer y) (r (s.outer u) + 2), ⟨fun b ob => ?_, fun b ob hb => ?_, fun b ob mb => ?_, fun b x' y' ob mb hb => ?_⟩⟩, fun p p0 p1 mp => ?_, p5⟩
    · have ob : s.out b := ob
      show upd _ _ _ b = 0 ∨ upd _ _ _ b = 1 ∨ upd _ _ _ b = 2
      by_cases e1 : b = s.outer y
      · rw [e1, mky]; exact .inr (.inl rfl)
      · by_cases e2 : b = s.outer v
        · rw [e2, mkv]; exact .inr (.inr rfl)
        · rw [mk' b e2 e1]; exact t.mks b ob
    · have ob : s.out b := ob
      have hb : s.tie b = none := hb
      show upd _ _ _ b = 1
      have := t.lone b ob hb
      have := nz b (by omega)
      rw [mk' b this.1 this.2]; exact t.lone b ob hb
    · have ob : s.out b := ob
      have mb : upd (upd s.mark (s.outer v) 2) (s.outer y) 1 b = 2 := mb
      show ∃ x' y' u' v', s.tie b = some (x', y') ∧ upd (upd s.mark (s.outer v) 2) (s.outer y) 1 (s.outer y') = 1 ∧ upd (upd r (s.outer v) (r (s.outer u) + 1)) (s.outer y) (r (s.outer u) + 2) b < upd (upd r (s.outer v) (r (s.outer u) + 1)) (s.outer y) (r (s.outer u) + 2) (s.outer y') ∧ upd s.way (s.outer v) (some (u, v)) b = some (u', v') ∧ v' ∈ s.ins b ∧ 0 ≤ u' ∧ u' < s.n ∧ upd (upd s.mark (s.outer v) 2) (s.outer y) 1 (s.outer u') = 1 ∧ upd (upd r (s.outer v) (r (s.outer u) + 1)) (s.outer y) (r (s.outer u) + 2) (s.outer u') < upd (upd r (s.outer v) (r (s.outer u) + 1)) (s.outer y) (r (s.outer u) + 2) b ∧ J u' v'
      by_cases e2 : b = s.outer v
      · subst e2
        refine ⟨x, y, u, v, ht, mky, ?_, upd_same, (h.out v v0 v1).2.2, u0, u1, by rw [mk' _ nu nuy]; exact mu, ?_, ju⟩
        · rw [upd_same, upd_ne (fun e => p5 e.symm), upd_same]; omega
        · rw [upd_ne nuy, upd_ne nu, upd_ne (fun e => p5 e.symm), upd_same]; omega
      · by_cases e1 : b = s.outer y
        · rw [e1, mky] at mb; omega
        · rw [mk' b e2 e1] at mb
          obtain ⟨x', y', u', v', q1, q2, q3, q4, q5, q6, q7, q8, q9, q10⟩ := t.odd b ob mb
          have n1 := nz _ (show s.mark (s.outer y') ≠ 0 by omega)
          have n2 := nz _ (show s.mark (s.outer u') ≠ 0 by omega)
          refine ⟨x', y', u', v', q1, by rw [mk' _ n1.1 n1.2]; exact q2, ?_, by rw [upd_ne e2]; exact q4, q5, q6, q7, by rw [mk' _ n2.1 n2.2]; exact q8, ?_, q10⟩
          · rw [upd_ne e1, upd_ne e2, upd_ne n1.2, upd_ne n1.1]; exact q3
          · rw [upd_ne e1, upd_ne e2, upd_ne n2.2, upd_ne n2.1]; exact q9
    · have ob : s.out b := ob
      have hb : s.tie b = some (x', y') := hb
      have mb : upd (upd s.mark (s.outer v) 2) (s.outer y) 1 b = 1 := mb
      show upd (upd s.mark (s.outer v) 2) (s.outer y) 1 (s.outer y') = 2
      by_cases e1 : b = s.outer y
      · rw [e1, p6] at hb
        cases hb
        rw [ex]; exact mkv
      · by_cases e2 : b = s.outer v
        · rw [e2, mkv] at mb; omega
        · rw [mk' b e2 e1] at mb
          have := t.even b x' y' ob mb hb
          have n1 := nz _ (show s.mark (s.outer y') ≠ 0 by omega)
          rw [mk' _ n1.1 n1.2]; exact this
    · have := nz _ (show s.mark (s.outer p) ≠ 0 by omega)
      rw [mk' _ this.1 this.2]; exact mp
/-! ### a ring is found -/
def LU (s : St) (b : Int) : Int × Int := (linkUp s b).getD default
theorem lu_ok (h : Str J s) (k : Pr J s) (t : Tr J s r) (sy : ∀ x y, J x y → J y x) {b : Int} {j : Int × Int} (ob : s.out b) (e : linkUp s b = some j) : j.1 ∈ s.ins b ∧ j.2 ∈ s.ins (s.outer j.2) ∧ J j.1 j.2 := by
  unfold linkUp at e
  split at e
  · rename_i m
    obtain ⟨x, y, u, v, q1, q2, q3, q4, q5, q6, q7, q8, q9, q10⟩ := t.odd b ob m
    rw [q4] at e
    cases e
    exact ⟨q5, (h.out u q6 q7).2.2, sy _ _ q10⟩
  · obtain ⟨x, y⟩ := j
    obtain ⟨q1, q2, q3, q4, q5, q6⟩ := k.pr b x y ob e
    exact ⟨q1, (h.out y q2 q3).2.2, q4⟩
theorem ch_up (h : Str J s) (k : Pr J s) (t : Tr J s r) (sy : ∀ x y, J x y → J y x) {m : Int} {D : List Int} : ∀ {b : Int} {B : List Int}, Pth s b (B ++ m :: D) → (∀ c ∈ B ++ m :: D, s.out c) → Ch s.ins J b (B.map fun c => (c, LU s c)) m := by
  intro b B p
  generalize hq : B ++ m :: D = L at p
  induction p generalizing B with
  | @root b h' =>
    intro _
    cases B with
    | nil =>
      rw [List.nil_append] at hq
      rw [(List.cons.inj hq).1]
      exact .nil _
    | cons a B => exact absurd (congrArg List.length hq) (by simp)
  | @step b j L h' p ih =>
    intro ho
    cases B with
    | nil =>
      rw [List.nil_append] at hq
      rw [(List.cons.inj hq).1]
      exact .nil _
    | cons a B =>
      rw [List.cons_append] at hq
      obtain ⟨e1, e2⟩ := List.cons.inj hq
      subst e1
      obtain ⟨q1, q2, q3⟩ := lu_ok h k t sy (ho a (by simp)) h'
      have e : LU s a = j := by unfold LU; rw [h']; rfl
      rw [List.map_cons, e]
      exact .cons q1 q2 q3 (ih e2 fun c hc => ho c (List.mem_cons_of_mem _ hc))
def crev : List (Int × (Int × Int)) → Int → List (Int × (Int × Int))
  | [], _ => []
  | (_, j) :: l, c => crev l c ++ [((l.head?.map (·.1)).getD c, sw j)]
theorem Ch.rev {ins : Int → List Int} (sy : ∀ x y, J x y → J y x) {a c : Int} {l : List (Int × (Int × Int))} (h : Ch ins J a l c) : Ch ins J c (crev l c) a := by
  induction h with
  | nil a => exact .nil _
  | @cons a b c j l h1 h2 h3 h ih =>
    have e : (l.head?.map (·.1)).getD c = b := by
      cases h with
      | nil => rfl
      | cons _ _ _ _ => rfl
    rw [crev, e]
    exact ih.app (.cons h2 h1 (sy _ _ h3) (.nil _))
theorem crev_fst (f : Int → Int × (Int × Int)) (hf : ∀ a, (f a).1 = a) (m : Int) : ∀ A : List Int, (crev (A.map f) m).map (·.1) ++ [A.head?.getD m] = (A ++ [m]).reverse
  | [] => rfl
  | a :: A => by
    have ih := crev_fst f hf m A
    have e : ((A.map f).head?.map (·.1)).getD m = A.head?.getD m := by
      cases A with
      | nil => rfl
      | cons b A => simp [hf]
    rw [List.map_cons, crev, List.map_append, List.map_cons, List.map_nil, e, ih]
    simp
theorem crev_snd (f : Int → Int × (Int × Int)) (m : Int) : ∀ A : List Int, (crev (A.map f) m).map (·.2) = (A.map fun a => sw (f a).2).reverse
  | [] => rfl
  | a :: A => by
    rw [List.map_cons, crev, List.map_append, crev_snd f m A]
    simp
/-- where two paths meet -/
structure Meet (s : St) (u v : Int) (A B D : List Int) (m : Int) : Prop where
  p1 : EP s (s.outer u) (A ++ m :: D)
  p2 : EP s (s.outer v) (B ++ m :: D)
  stop : A = [] ∨ B = [] ∨ A.getLast? ≠ B.getLast?
theorem Meet.dis {u v m : Int} {A B D : List Int} (M : Meet s u v A B D m) (n1 : (A ++ m :: D).Nodup) : ∀ b ∈ A, b ∉ B := by
  intro b hA hB
  obtain ⟨A1, A2, rfl⟩ := List.append_of_mem hA
  obtain ⟨B1, B2, rfl⟩ := List.append_of_mem hB
  have q1 := M.p1.pth
  have q2 := M.p2.pth
  rw [List.append_assoc, List.cons_append] at q1 q2
  have e := (q1.tail).det q2.tail
  have e := (List.cons.inj e).2
  have e2 : A2 = B2 := List.append_cancel_right e
  subst e2
  rcases M.stop with z | z | z
  · exact absurd z (by simp)
  · exact absurd z (by simp)
  · refine z ?_
    rw [List.getLast?_append, List.getLast?_append]
    cases A2 with
    | nil => rfl
    | cons a A2 => rw [List.getLast?_cons_cons]; rfl
theorem Meet.mark {u v m : Int} {A B D : List Int} (M : Meet s u v A B D m) (h : Str J s) (k : Pr J s) (t : Tr J s r) (ou : s.out (s.outer u)) (ov : s.out (s.outer v)) : s.mark m = 1 := by
  obtain ⟨a1, _⟩ := EP.rank t h k M.p1 ou
  obtain ⟨a2, _⟩ := EP.rank t h k M.p2 ov
  have hm : m ∈ A ++ m :: D := by simp
  obtain ⟨om, _, mm⟩ := a1 m hm
  refine Classical.byContradiction fun n1 => ?_
  have m2 : s.mark m = 2 := by rcases mm with z | z <;> omega
  obtain ⟨x, y, u', v', q1, q2, q3, q4, q5, q6, q7, q8, q9, q10⟩ := t.odd m om m2
  have key : ∀ {e : Int} {P : List Int}, EP s e (P ++ m :: D) → s.out e → (∀ b ∈ P ++ m :: D, s.out b) → P.getLast? = some (s.outer y) := by
    intro e P p
    generalize hq : P ++ m :: D = L at p
    induction p generalizing P with
    | @root e me he =>
      intro _ _
      cases P with
      | nil =>
        rw [List.nil_append] at hq
        rw [(List.cons.inj hq).1] at m2; omega
      | cons a P => exact absurd (congrArg List.length hq) (by simp)
    | @step e o x2 y2 u2 v2 L me h1 h2 mo h3 p ih =>
      intro oe hL
      cases P with
      | nil =>
        rw [List.nil_append] at hq
        rw [(List.cons.inj hq).1] at m2; omega
      | cons a P =>
        rw [List.cons_append] at hq
        obtain ⟨ea, hq2⟩ := List.cons.inj hq
        clear hq
        subst ea
        cases P with
        | nil =>
          rw [List.nil_append] at hq2
          have em := (List.cons.inj hq2).1
          obtain ⟨p1, p2, p3, p4, p5, p6⟩ := k.pr a x2 y2 oe h1
          rw [h2, ← em, q1] at p6
          cases p6
          rw [((h.out_in oe).mp p1).2.2]; rfl
        | cons a2 P =>
          rw [List.cons_append] at hq2
          have := ih (List.cons.inj hq2).2 (hL _ (by
              obtain ⟨T, e⟩ := p.head
              rw [e]; simp)) fun b hb => hL b (List.mem_cons_of_mem _ (List.mem_cons_of_mem _ hb))
          cases P with
          | nil => cases this
          | cons a3 P => rw [List.getLast?_cons_cons, List.getLast?_cons_cons]; exact this
  have k1 := key M.p1 ou fun b hb => (a1 b hb).1
  have k2 := key M.p2 ov fun b hb => (a2 b hb).1
  rcases M.stop with z | z | z
  · rw [z] at k1; cases k1
  · rw [z] at k2; cases k2
  · exact z (k1.trans k2.symm)
/-- the ring that a link within a tree makes -/
def ringL (s : St) (u v : Int) (A B : List Int) (m : Int) : List (Int × (Int × Int)) := crev (A.map fun c => (c, LU s c)) m ++ (s.outer u, (u, v)) :: B.map fun c => (c, LU s c)
theorem ringL_fst {u v m : Int} {A B D : List Int} (M : Meet s u v A B D m) : (ringL s u v A B m).map (·.1) = (A ++ [m]).reverse ++ B := by
  have e : A.head?.getD m = s.outer u := by
    obtain ⟨T, e⟩ := M.p1.head
    cases A with
    | nil => exact (List.cons.inj e).1
    | cons a A => exact (List.cons.inj e).1
  have := crev_fst (fun c => (c, LU s c)) (fun _ => rfl) m A
  rw [e] at this
  unfold ringL
  rw [List.map_append, List.map_cons, List.map_map]
  have e2 : ((fun x : Int × (Int × Int) => x.1) ∘ fun c => (c, LU s c)) = id := rfl
  rw [e2, List.map_id, ← this]
  simp
theorem ringL_snd {u v m : Int} {A B : List Int} : (ringL s u v A B m).map (·.2) = (A.map fun a => sw (LU s a)).reverse ++ (u, v) :: B.map fun c => LU s c := by
  unfold ringL
  rw [List.map_append, crev_snd, List.map_cons, List.map_map]; rfl
structure Ringed (J : Int → Int → Prop) (s s' : St) : Prop where
  str : Str J s'
  pr : Pr J s'
  tr : ∃ r', Tr J s' r'
  lc : lc s' = lc s
  ev : ∀ p, 0 ≤ p → p < s.n → s.mark (s.outer p) = 1 → s'.mark (s'.outer p) = 1
  more : ∃ q, 0 ≤ q ∧ q < s.n ∧ s.mark (s.outer q) ≠ 1 ∧ s'.mark (s'.outer q) = 1
theorem ringed (h : Str J s) (k : Pr J s) (t : Tr J s r) (sy : ∀ x y, J x y → J y x) {u v m : Int} {A B D : List Int} (M : Meet s u v A B D m) (u0 : 0 ≤ u) (u1 : u < s.n) (v0 : 0 ≤ v) (v1 : v < s.n) (ju : J u v) (ne : s.outer u ≠ s.outer v) :
    Ringed J s (together s (ringL s u v A B m) (s.tie m)) := by
  have ou := h.out_of u0 u1
  have ov := h.out_of v0 v1
  obtain ⟨a1, n1⟩ := EP.rank t h k M.p1 ou
  obtain ⟨a2, n2⟩ := EP.rank t h k M.p2 ov
  have mm := M.mark h k t ou ov
  have om : s.out m := (a1 m (by simp)).1
  have hA : ∀ b ∈ A, b ∈ A ++ m :: D := fun b hb => List.mem_append_left _ hb
  have hB : ∀ b ∈ B, b ∈ B ++ m :: D := fun b hb => List.mem_append_left _ hb
  have dis := M.dis n1
  have ndA := (List.nodup_append.mp n1)
  have ndB := (List.nodup_append.mp n2)
  have mA : m ∉ A := fun z => ndA.2.2 m z m (by simp) rfl
  have mB : m ∉ B := fun z => ndB.2.2 m z m (by simp) rfl
  have inA := EP.mates_in h k mm M.p1 ou fun b hb => (a1 b hb).1
  have inB := EP.mates_in h k mm M.p2 ov fun b hb => (a2 b hb).1
  have memR : ∀ c, c ∈ (ringL s u v A B m).map (·.1) ↔ c ∈ A ∨ c = m ∨ c ∈ B := fun c => by
    rw [ringL_fst M]; simp only [List.mem_append, List.mem_reverse, List.mem_singleton, or_assoc]
  have outR : ∀ c ∈ (ringL s u v A B m).map (·.1), s.out c := fun c hc => by
    rcases (memR c).mp hc with z | z | z
    · exact (a1 c (hA c z)).1
    · rw [z]; exact om
    · exact (a2 c (hB c z)).1
  have ch : Ch s.ins J m (ringL s u v A B m) m := by
    have c1 := (ch_up h k t sy M.p1.pth fun b hb => (a1 b hb).1).rev sy
    have c2 := ch_up h k t sy M.p2.pth fun b hb => (a2 b hb).1
    exact c1.app (.cons (h.out u u0 u1).2.2 (h.out v v0 v1).2.2 ju c2)
  have len : (ringL s u v A B m).length = A.length + 1 + B.length := by
    have := congrArg List.length (ringL_fst M)
    simp at this
    omega
  have l1 := M.p1.odd
  have l2 := M.p2.odd
  rw [List.length_append, List.length_cons] at l1 l2
  have two : A.length + B.length ≠ 0 := fun z => by
    have e1 : A = [] := List.eq_nil_of_length_eq_zero (by omega)
    have e2 : B = [] := List.eq_nil_of_length_eq_zero (by omega)
    obtain ⟨T1, q1⟩ := M.p1.head
    obtain ⟨T2, q2⟩ := M.p2.head
    rw [e1] at q1; rw [e2] at q2
    exact ne ((List.cons.inj q1).1.symm.trans (List.cons.inj q2).1)
  have nd : ((ringL s u v A B m).map (·.1)).Nodup := by
    rw [ringL_fst M, List.nodup_append]
    refine ⟨(List.reverse_perm _).nodup_iff.mpr (List.nodup_append.mpr ⟨ndA.1, by simp, fun a ha b hb e => mA (by rw [List.mem_singleton] at hb; rw [← hb, ← e]; exact ha)⟩), ndB.1, fun a ha b hb e => ?_⟩
    subst e
    rcases List.mem_append.mp (List.mem_reverse.mp ha) with z | z
    · exact dis a z hb
    · rw [List.mem_singleton] at z; rw [z] at hb; exact mB hb
  have str := tog_str (t := s.tie m) h ch (by omega) (by omega) nd outR
  have no : ∀ b, s.out b → b ≠ s.nb := fun b ob e => by have := (h.out_rg ob).2; omega
  have o' : ∀ p, 0 ≤ p → p < s.n → (together s (ringL s u v A B m) (s.tie m)).outer p = if s.outer p ∈ (ringL s u v A B m).map (·.1) then s.nb else s.outer p := fun p p0 p1 => by
    show (if p ∈ _ then s.nb else s.outer p) = _
    by_cases hp : s.outer p ∈ (ringL s u v A B m).map (·.1)
    · rw [if_pos hp, if_pos ((tog_in h outR p0 p1).mpr hp)]
    · rw [if_neg hp, if_neg fun z => hp ((tog_in h outR p0 p1).mp z)]
  have out' : ∀ b, (together s (ringL s u v A B m) (s.tie m)).out b → b = s.nb ∨ (b ≠ s.nb ∧ s.out b ∧ b ∉ (ringL s u v A B m).map (·.1)) := fun b ob => by
    obtain ⟨p, p0, p1, e⟩ := ob
    have p1 : p < s.n := p1
    rw [o' p p0 p1] at e
    split at e
    · exact .inl e.symm
    · rename_i hp
      subst e
      exact .inr ⟨no _ (h.out_of p0 p1), h.out_of p0 p1, hp⟩
  have outnb : (together s (ringL s u v A B m) (s.tie m)).out s.nb := ⟨u, u0, u1, by
    rw [o' u u0 u1, if_pos ((memR _).mpr ?_)]
    obtain ⟨T, e⟩ := M.p1.head
    cases A with
    | nil => exact .inr (.inl (List.cons.inj e).1.symm)
    | cons a A => rw [← (List.cons.inj e).1]; simp⟩
  have tie' : ∀ b, b ≠ s.nb → (together s (ringL s u v A B m) (s.tie m)).tie b = s.tie b := fun b hb => upd_ne hb
  have tieN : (together s (ringL s u v A B m) (s.tie m)).tie s.nb = s.tie m := upd_same
  have mk' : ∀ b, b ≠ s.nb → (together s (ringL s u v A B m) (s.tie m)).mark b = s.mark b := fun b hb => upd_ne hb
  have mkN : (together s (ringL s u v A B m) (s.tie m)).mark s.nb = 1 := upd_same
  have wy' : ∀ b, b ≠ s.nb → (together s (ringL s u v A B m) (s.tie m)).way b = s.way b := fun b hb => upd_ne hb
  have in' : ∀ b, b ≠ s.nb → (together s (ringL s u v A B m) (s.tie m)).ins b = s.ins b := fun b hb => upd_ne hb
  have inN : (together s (ringL s u v A B m) (s.tie m)).ins s.nb = ((ringL s u v A B m).map (·.1)).flatMap s.ins := upd_same
  -- the mate of the ring's foot is in no ring
  have foot : ∀ x y, s.tie m = some (x, y) → s.outer y ∉ (ringL s u v A B m).map (·.1) := fun x y e hy => by
    obtain ⟨q1, q2, q3, q4, q5, q6⟩ := k.pr m x y om e
    have ex := ((h.out_in om).mp q1).2.2
    rcases (memR _).mp hy with z | z | z
    · have := inA _ z _ _ q6
      rw [ex] at this; exact mA this
    · exact q5 z
    · have := inB _ z _ _ q6
      rw [ex] at this; exact mB this
  -- a mate of a body out of the ring lies in it only at the foot
  have mate : ∀ b x y, s.out b → b ∉ (ringL s u v A B m).map (·.1) → s.tie b = some (x, y) → s.outer y ∈ (ringL s u v A B m).map (·.1) → s.outer y = m := fun b x y ob nb e hy => by
    obtain ⟨q1, q2, q3, q4, q5, q6⟩ := k.pr b x y ob e
    have ex := ((h.out_in ob).mp q1).2.2
    rcases (memR _).mp hy with z | z | z
    · have := inA _ z _ _ q6
      rw [ex] at this
      exact absurd ((memR b).mpr (.inl this)) nb
    · exact z
    · have := inB _ z _ _ q6
      rw [ex] at this
      exact absurd ((memR b).mpr (.inr (.inr this))) nb
  have least : ∀ c ∈ (ringL s u v A B m).map (·.1), r m ≤ r c := fun c hc => by
    have go : ∀ {e : Int} {P : List Int}, EP s e (P ++ m :: D) → s.out e → (∀ b ∈ P ++ m :: D, s.out b) → ∀ c ∈ P, r m ≤ r c := by
      intro e P p
      generalize hq : P ++ m :: D = L at p
      induction p generalizing P with
      | @root e me he =>
        intro _ _
        cases P with
        | nil => intro c hc; cases hc
        | cons a P => exact absurd (congrArg List.length hq) (by simp)
      | @step e o x2 y2 u2 v2 L me h1 h2 mo h3 p ih =>
        intro oe hL
        have R := (EP.rank t h k (.step me h1 h2 mo h3 p) oe).1
        have oo : s.out o := hL o (by simp)
        obtain ⟨x', y', u', v', q1, q2, q3, q4, q5, q6, q7, q8, q9, q10⟩ := t.odd o oo mo
        rw [h3] at q4
        cases q4
        have R2 := (EP.rank t h k p (h.out_of q6 q7)).1
        cases P with
        | nil => intro c hc; cases hc
        | cons a P =>
          rw [List.cons_append] at hq
          obtain ⟨ea, hq2⟩ := List.cons.inj hq
          clear hq
          subst ea
          intro c hc
          rcases List.mem_cons.mp hc with rfl | hc
          · exact (R m (by rw [← hq2]; simp)).2.1
          · cases P with
            | nil => cases hc
            | cons a2 P =>
              rw [List.cons_append] at hq2
              obtain ⟨eb, hq3⟩ := List.cons.inj hq2
              subst eb
              rcases List.mem_cons.mp hc with rfl | hc
              · have := (R2 m (by rw [← hq3]; simp)).2.1
                omega
              · exact ih hq3 (h.out_of q6 q7) (fun b hb => hL b (List.mem_cons_of_mem _ (List.mem_cons_of_mem _ hb))) c hc
    rcases (memR c).mp hc with z | z | z
    · exact go M.p1 ou (fun b hb => (a1 b hb).1) c z
    · rw [z]; exact Nat.le_refl _
    · exact go M.p2 ov (fun b hb => (a2 b hb).1) c z
  refine ⟨str, ⟨fun b x y ob e => ?_⟩, ⟨upd r s.nb (r m), ⟨fun b ob => ?_, fun b ob hb => ?_, fun b ob mb => ?_, fun b x y ob mb hb => ?_⟩⟩, ?_, fun p p0 p1 mp => ?_, ?_⟩
  · show x ∈ (together s (ringL s u v A B m) (s.tie m)).ins b ∧ 0 ≤ y ∧ y < s.n ∧ J x y ∧ (together s (ringL s u v A B m) (s.tie m)).outer y ≠ b ∧ (together s (ringL s u v A B m) (s.tie m)).tie ((together s (ringL s u v A B m) (s.tie m)).outer y) = some (y, x)
    rcases out' b ob with rfl | ⟨nb, ob, hr⟩
    · rw [tieN] at e
      obtain ⟨q1, q2, q3, q4, q5, q6⟩ := k.pr m x y om e
      rw [inN, o' y q2 q3, if_neg (foot x y e), tie' _ (no _ (h.out_of q2 q3))]
      exact ⟨List.mem_flatMap.mpr ⟨m, (memR m).mpr (.inr (.inl rfl)), q1⟩, q2, q3, q4, no _ (h.out_of q2 q3), q6⟩
    · rw [tie' b nb] at e
      obtain ⟨q1, q2, q3, q4, q5, q6⟩ := k.pr b x y ob e
      rw [in' b nb, o' y q2 q3]
      by_cases hy : s.outer y ∈ (ringL s u v A B m).map (·.1)
      · have em := mate b x y ob hr e hy
        rw [if_pos hy, tieN]
        rw [em] at q6
        exact ⟨q1, q2, q3, q4, fun z => nb z.symm, q6⟩
      · rw [if_neg hy, tie' _ (no _ (h.out_of q2 q3))]
        exact ⟨q1, q2, q3, q4, q5, q6⟩
  · rcases out' b ob with rfl | ⟨nb, ob, hr⟩
    · rw [mkN]; exact .inr (.inl rfl)
    · rw [mk' b nb]; exact t.mks b ob
  · rcases out' b ob with rfl | ⟨nb, ob, hr⟩
    · exact mkN
    · rw [tie' b nb] at hb
      rw [mk' b nb]; exact t.lone b ob hb
  · rcases out' b ob with rfl | ⟨nb, ob, hr⟩
    · rw [mkN] at mb; omega
    · rw [mk' b nb] at mb
      obtain ⟨x, y, u', v', q1, q2, q3, q4, q5, q6, q7, q8, q9, q10⟩ := t.odd b ob mb
      obtain ⟨z1, z2, z3, z4, z5, z6⟩ := k.pr b x y ob q1
      refine ⟨x, y, u', v', by rw [tie' b nb]; exact q1, ?_, ?_, by rw [wy' b nb]; exact q4, by rw [in' b nb]; exact q5, q6, q7, ?_, ?_, q10⟩
      · rw [o' y z2 z3]
        split
        · exact mkN
        · rw [mk' _ (no _ (h.out_of z2 z3))]; exact q2
      · rw [o' y z2 z3, upd_ne nb]
        by_cases hy : s.outer y ∈ (ringL s u v A B m).map (·.1)
        · rw [if_pos hy, upd_same, ← mate b x y ob hr q1 hy]; exact q3
        · rw [if_neg hy, upd_ne (no _ (h.out_of z2 z3))]; exact q3
      · rw [o' u' q6 q7]
        split
        · exact mkN
        · rw [mk' _ (no _ (h.out_of q6 q7))]; exact q8
      · rw [o' u' q6 q7, upd_ne nb]
        by_cases hy : s.outer u' ∈ (ringL s u v A B m).map (·.1)
        · rw [if_pos hy, upd_same]
          have := least _ hy
          omega
        · rw [if_neg hy, upd_ne (no _ (h.out_of q6 q7))]; exact q9
  · rcases out' b ob with rfl | ⟨nb, ob, hr⟩
    · rw [tieN] at hb
      obtain ⟨q1, q2, q3, q4, q5, q6⟩ := k.pr m x y om hb
      rw [o' y q2 q3, if_neg (foot x y hb), mk' _ (no _ (h.out_of q2 q3))]
      exact t.even m x y om mm hb
    · rw [tie' b nb] at hb
      rw [mk' b nb] at mb
      obtain ⟨q1, q2, q3, q4, q5, q6⟩ := k.pr b x y ob hb
      have := t.even b x y ob mb hb
      have hy : s.outer y ∉ (ringL s u v A B m).map (·.1) := fun z => by
        have e := mate b x y ob hr hb z
        rw [e] at this
        omega
      rw [o' y q2 q3, if_neg hy, mk' _ (no _ (h.out_of q2 q3))]; exact this
  · classical
    have key : sumR s.nb (fun b => (if lone (together s (ringL s u v A B m) (s.tie m)) b then (1 : Int) else 0) + (if b = m then (if s.tie m = none then 1 else 0) else 0)) = sumR s.nb fun b => if lone s b then (1 : Int) else 0 := by
      refine sumR_congr fun b b0 b1 => ?_
      have nb : b ≠ s.nb := by omega
      have il : lone (together s (ringL s u v A B m) (s.tie m)) b ↔ (s.out b ∧ b ∉ (ringL s u v A B m).map (·.1)) ∧ s.tie b = none := by
        unfold lone
        rw [tie' b nb]
        constructor
        · rintro ⟨ob, e⟩
          rcases out' b ob with z | ⟨_, z1, z2⟩
          · exact absurd z nb
          · exact ⟨⟨z1, z2⟩, e⟩
        · rintro ⟨⟨⟨p, p0, p1, e1⟩, z2⟩, e⟩
          refine ⟨⟨p, p0, p1, ?_⟩, e⟩
          rw [o' p p0 p1, if_neg (by rw [e1]; exact z2), e1]
      by_cases hr : b ∈ (ringL s u v A B m).map (·.1)
      · rw [if_neg (fun z => (il.mp z).1.2 hr)]
        by_cases e : b = m
        · subst e
          rw [if_pos rfl]
          by_cases ht : s.tie b = none
          · rw [if_pos ht, if_pos (show lone s b from ⟨om, ht⟩)]; rfl
          · rw [if_neg ht, if_neg fun z : lone s b => ht z.2]; rfl
        · rw [if_neg e, if_neg]
          · rfl
          · intro z
            have m1 := t.lone b z.1 z.2
            rcases (memR b).mp hr with q | q | q
            · obtain ⟨z', P, eP, t1, t2⟩ := M.p1.lone
              have hb := hA b q
              rw [eP] at hb
              rcases List.mem_append.mp hb with hb | hb
              · have := t2 b hb z.2; omega
              · rw [List.mem_singleton] at hb
                subst hb
                have hd : b ∈ m :: D := by
                  have : (A ++ m :: D).getLast? = some b := by rw [eP]; simp
                  rw [List.getLast?_append] at this
                  have e2 : (m :: D).getLast? = some b := by
                    cases hx : (m :: D).getLast? with
                    | none => rw [List.getLast?_eq_none_iff] at hx; cases hx
                    | some w => rw [hx] at this; simpa using this
                  exact List.mem_of_getLast? e2
                exact ndA.2.2 b q b hd rfl
            · exact e q
            · obtain ⟨z', P, eP, t1, t2⟩ := M.p2.lone
              have hb := hB b q
              rw [eP] at hb
              rcases List.mem_append.mp hb with hb | hb
              · have := t2 b hb z.2; omega
              · rw [List.mem_singleton] at hb
                subst hb
                have hd : b ∈ m :: D := by
                  have : (B ++ m :: D).getLast? = some b := by rw [eP]; simp
                  rw [List.getLast?_append] at this
                  have e2 : (m :: D).getLast? = some b := by
                    cases hx : (m :: D).getLast? with
                    | none => rw [List.getLast?_eq_none_iff] at hx; cases hx
                    | some w => rw [hx] at this; simpa using this
                  exact List.mem_of_getLast? e2
                exact ndB.2.2 b q b hd rfl
      · have e : b ≠ m := fun e => hr (by rw [e]; exact (memR m).mpr (.inr (.inl rfl)))
        rw [if_neg e]
        by_cases hl : lone s b
        · rw [if_pos hl, if_pos (il.mpr ⟨⟨hl.1, hr⟩, hl.2⟩)]; rfl
        · rw [if_neg hl, if_neg fun z => hl ⟨(il.mp z).1.1, (il.mp z).2⟩]; rfl
    have rm := h.out_rg om
    rw [sumR_add, sumR_one rm.1 rm.2] at key
    show sumR (s.nb + 1) (fun b => if lone (together s (ringL s u v A B m) (s.tie m)) b then (1 : Int) else 0) = sumR s.nb fun b => if lone s b then (1 : Int) else 0
    rw [sumR_snoc (by have := h.n0; have := h.nb; omega), ← key]
    congr 1
    by_cases ht : s.tie m = none
    · rw [if_pos ht, if_pos (show lone _ _ from ⟨outnb, by rw [tieN]; exact ht⟩)]
    · rw [if_neg ht, if_neg]
      exact fun z => ht (by rw [← tieN]; exact z.2)
  · rw [o' p p0 p1]
    split
    · exact mkN
    · rw [mk' _ (no _ (h.out_of p0 p1))]; exact mp
  · -- an odd body of the ring
    have go : ∀ {e : Int} {P : List Int}, EP s e (P ++ m :: D) → P ≠ [] → ∃ o ∈ P, s.mark o = 2 := by
      intro e P p hP
      generalize hq : P ++ m :: D = L at p
      cases p with
      | root me he =>
        cases P with
        | nil => exact absurd rfl hP
        | cons a P => exact absurd (congrArg List.length hq) (by simp)
      | @step e o x2 y2 u2 v2 L me h1 h2 mo h3 p =>
        cases P with
        | nil => exact absurd rfl hP
        | cons a P =>
          rw [List.cons_append] at hq
          obtain ⟨ea, hq2⟩ := List.cons.inj hq
          cases P with
          | nil =>
            rw [List.nil_append] at hq2
            rw [(List.cons.inj hq2).1] at mm; omega
          | cons a2 P =>
            rw [List.cons_append] at hq2
            exact ⟨a2, by simp, by rw [(List.cons.inj hq2).1]; exact mo⟩
    have : ∃ o ∈ (ringL s u v A B m).map (·.1), s.mark o = 2 := by
      by_cases e : A = []
      · have e2 : B ≠ [] := fun z => two (by rw [e, z]; rfl)
        obtain ⟨o, ho, mo⟩ := go M.p2 e2
        exact ⟨o, (memR o).mpr (.inr (.inr ho)), mo⟩
      · obtain ⟨o, ho, mo⟩ := go M.p1 e
        exact ⟨o, (memR o).mpr (.inl ho), mo⟩
    obtain ⟨o, ho, mo⟩ := this
    obtain ⟨q, q0, q1, hq⟩ := outR o ho
    refine ⟨q, q0, q1, by rw [hq]; omega, ?_⟩
    rw [o' q q0 q1, hq, if_pos ho]; exact mkN
end
end Bl
/-! W5: what shows that no pairing leaves fewer alone -/
namespace Bl
open M
def helps (s : St) (u v : Int) : Prop := s.outer u ≠ s.outer v ∧ s.mark (s.outer u) = 1 ∧ s.mark (s.outer v) ≠ 2
/-- an even number of things two by two -/
theorem two_by_two {f : Int → Int} : ∀ (k : Nat) {l : List Int}, l.length ≤ k → l.Nodup → (∀ x ∈ l, f x ∈ l ∧ f x ≠ x ∧ f (f x) = x) → l.length % 2 = 0
  | 0, l, hk, _, _ => by rw [Nat.le_zero.mp hk]
  | k + 1, [], _, _, _ => rfl
  | k + 1, x :: l, hk, nd, h => by
    obtain ⟨h1, h2, h3⟩ := h x List.mem_cons_self
    obtain ⟨n1, n2⟩ := List.nodup_cons.mp nd
    have hf : f x ∈ l := (List.mem_cons.mp h1).resolve_left h2
    have lp := List.length_pos_of_mem hf
    have := two_by_two k (l := l.erase (f x)) (by rw [List.length_erase_of_mem hf, ]; simp at hk; omega) (n2.erase _) fun y hy => by
      have hy' := (List.Nodup.mem_erase_iff n2).mp hy
      obtain ⟨a1, a2, a3⟩ := h y (List.mem_cons_of_mem _ hy'.2)
      have ne1 : f y ≠ x := fun e => hy'.1 (by rw [← e, a3])
      have ne2 : f y ≠ f x := fun e => by
        have e2 : f (f y) = f (f x) := by rw [e]
        rw [a3, h3] at e2
        subst e2
        exact n1 hy'.2
      exact ⟨(List.Nodup.mem_erase_iff n2).mpr ⟨ne2, (List.mem_cons.mp a1).resolve_left ne1⟩, a2, a3⟩
    rw [List.length_erase_of_mem hf] at this
    rw [List.length_cons]; omega
/-- names of the parts that are left -/
structure Lab (n : Int) (E : Int → Int → Prop) (O : List Int) (part : Int → Int) : Prop where
  eq : ∀ u v, 0 ≤ u → u < n → 0 ≤ v → v < n → E u v → u ∉ O → v ∉ O → part u = part v
  rc : ∀ u v, 0 ≤ u → u < n → 0 ≤ v → v < n → u ∉ O → v ∉ O → part u = part v → Rch (fun a b => 0 ≤ b ∧ b < n ∧ E a b ∧ b ∉ O) u v
def cls (n : Int) (O : List Int) (part : Int → Int) (l : Int) : List Int := (rngL 0 n).filter fun p => !decide (p ∈ O) && decide (part p = l)
open Classical in
noncomputable def evens (s : St) : List Int := (rngL 0 s.nb).filter fun b => decide (s.out b ∧ s.mark b = 1)
structure Cert (s : St) (E : Int → Int → Prop) (O : List Int) : Prop where
  O : ∀ p, p ∈ O ↔ 0 ≤ p ∧ p < s.n ∧ s.mark (s.outer p) = 2
  no : ∀ u v, 0 ≤ u → u < s.n → 0 ≤ v → v < s.n → E u v → ¬ helps s u v
section
variable {J E : Int → Int → Prop} {s : St} {r : Int → Nat} {O : List Int} {part : Int → Int}
/-- a body's places have one name -/
theorem one_name (h : Str J s) (je : ∀ x y, J x y → E x y) (L : Lab s.n E O part) : ∀ (k : Nat) {b : Int}, b.toNat ≤ k → 0 ≤ b → b < s.nb → (∀ p ∈ s.ins b, p ∉ O) → ∀ p ∈ s.ins b, ∀ q ∈ s.ins b, part p = part q := by
  intro k
  induction k using Nat.strongRecOn with
  | _ k ih =>
    intro b hk b0 b1 hO p hp q hq
    by_cases hr : s.ring b = []
    · by_cases hb : b < s.n
      · rw [(h.base b b0 hb).1] at hp hq
        rw [List.mem_singleton.mp hp, List.mem_singleton.mp hq]
      · rw [(h.dead b (by omega) b1 hr).1] at hp; cases hp
    · obtain ⟨_, R⟩ := h.rok b b0 b1 hr
      have sub : ∀ c ∈ s.ring b, ∀ x ∈ s.ins c, ∀ y ∈ s.ins c, part x = part y := fun c hc x hx y hy => by
        obtain ⟨c0, c1, _⟩ := R.parts c hc
        exact ih c.toNat (by omega) (Nat.le_refl _) c0 (by omega) (fun z hz => hO z (R.sub hc hz)) x hx y hy
      have rg : ∀ x ∈ s.ins b, 0 ≤ x ∧ x < s.n := fun x hx => ⟨(h.mem b x b0 b1 hx).1, (h.mem b x b0 b1 hx).2.1⟩
      -- all parts have the name of the first one
      have z : ∀ (i : Nat), (i : Int) < (s.ring b).length → ∀ x ∈ s.ins (ge (s.ring b) i), part x = part ((ge (s.joints b) 0).1) := by
        intro i
        induction i with
        | zero =>
          intro hi x hx
          have := R.jt 0 (Int.le_refl _) hi
          exact sub _ (ge_mem (Int.le_refl _) hi) x hx _ this.1
        | succ i ihi =>
          intro hi x hx
          have hi' : (i : Int) < (s.ring b).length := by omega
          obtain ⟨t1, t2, t3⟩ := R.jt i (by omega) hi'
          have en : nx (s.ring b).length i = ((i + 1 : Nat) : Int) := by unfold nx; rw [if_pos (by omega)]; omega
          rw [en] at t2
          have m1 : ge (s.ring b) (i : Int) ∈ s.ring b := ge_mem (by omega) hi'
          have m2 : ge (s.ring b) ((i + 1 : Nat) : Int) ∈ s.ring b := ge_mem (by omega) hi
          have b1' := R.sub m1 t1
          have b2' := R.sub m2 t2
          have := L.eq _ _ (rg _ b1').1 (rg _ b1').2 (rg _ b2').1 (rg _ b2').2 (je _ _ t3) (hO _ b1') (hO _ b2')
          rw [sub _ m2 x hx _ t2, ← this]
          exact ihi hi' _ t1
      have all : ∀ x ∈ s.ins b, part x = part ((ge (s.joints b) 0).1) := fun x hx => by
        rw [R.flat] at hx
        obtain ⟨c, hc, hx⟩ := List.mem_flatMap.mp hx
        obtain ⟨i, i0, i1, rfl⟩ := mem_ge.mp hc
        obtain ⟨i, rfl⟩ := Int.eq_ofNat_of_zero_le i0
        exact z i i1 x hx
      rw [all p hp, all q hq]
theorem Cert.notO (h : Str J s) (c : Cert s E O) {b : Int} (ob : s.out b) (mb : s.mark b ≠ 2) : ∀ p ∈ s.ins b, p ∉ O := fun p hp hO => mb (by
  have := (c.O p).mp hO
  rw [((h.out_in ob).mp hp).2.2] at this
  exact this.2.2)
theorem Cert.even_cls (h : Str J s) (c : Cert s E O) (je : ∀ x y, J x y → E x y) (L : Lab s.n E O part) {b p : Int} (ob : s.out b) (mb : s.mark b = 1) (hp : p ∈ s.ins b) : ∀ q, q ∈ cls s.n O part (part p) ↔ q ∈ s.ins b := by
  obtain ⟨b0, b1⟩ := h.out_rg ob
  have nO := c.notO h ob (by omega)
  intro q
  unfold cls
  rw [List.mem_filter, rngL_mem]
  simp only [Bool.and_eq_true, Bool.not_eq_true', decide_eq_false_iff_not, decide_eq_true_eq]
  have pb := (h.out_in ob).mp hp
  constructor
  · rintro ⟨⟨q0, q1⟩, q2, q3⟩
    have R := L.rc p q pb.1 pb.2.1 q0 q1 (nO p hp) q2 q3.symm
    refine R.ind (P := fun z => z ∈ s.ins b) (fun x y e hx => ?_) hp
    obtain ⟨y0, y1, e1, e2⟩ := e
    have xb := (h.out_in ob).mp hx
    refine Classical.byContradiction fun hy => ?_
    refine c.no x y xb.1 xb.2.1 y0 y1 e1 ⟨fun z => hy ((h.out_in ob).mpr ⟨y0, y1, by rw [← z]; exact xb.2.2⟩), by rw [xb.2.2]; exact mb, fun z => e2 ((c.O y).mpr ⟨y0, y1, z⟩)⟩
  · intro hq
    have qb := (h.out_in ob).mp hq
    exact ⟨⟨qb.1, qb.2.1⟩, nO q hq, (one_name h je L b.toNat (Nat.le_refl _) b0 b1 nO p hp q hq).symm⟩
theorem cls_nodup {n l : Int} : (cls n O part l).Nodup := rngL_nodup.filter _
theorem Cert.even_odd (h : Str J s) (c : Cert s E O) (je : ∀ x y, J x y → E x y) (L : Lab s.n E O part) {b p : Int} (ob : s.out b) (mb : s.mark b = 1) (hp : p ∈ s.ins b) : (cls s.n O part (part p)).length % 2 = 1 := by
  obtain ⟨b0, b1⟩ := h.out_rg ob
  rw [nodup_len_eq cls_nodup (h.nd b b0 b1) (c.even_cls h je L ob mb hp)]
  exact h.odd b b0 b1 (h.out_ne ob)
/-- the first place of a body -/
def fst (s : St) (b : Int) : Int := ge (s.ins b) 0
theorem fst_in (h : Str J s) {b : Int} (ob : s.out b) : fst s b ∈ s.ins b := by
  have := List.length_pos_iff.mpr (h.out_ne ob)
  exact ge_mem (Int.le_refl _) (by omega)
theorem mem_evens {b : Int} (h : Str J s) : b ∈ evens s ↔ s.out b ∧ s.mark b = 1 := by
  classical
  unfold evens
  rw [List.mem_filter, rngL_mem, decide_eq_true_eq]
  exact ⟨fun z => z.2, fun z => ⟨h.out_rg z.1, z⟩⟩
theorem evens_nodup : (evens s).Nodup := by unfold evens; exact rngL_nodup.filter _
theorem names_nodup (h : Str J s) (c : Cert s E O) (je : ∀ x y, J x y → E x y) (L : Lab s.n E O part) : ((evens s).map fun b => part (fst s b)).Nodup := by
  rw [List.nodup_iff_pairwise_ne, List.pairwise_map]
  refine List.Pairwise.imp_of_mem ?_ (List.nodup_iff_pairwise_ne.mp evens_nodup)
  intro b d hb hd ne e
  obtain ⟨ob, mb⟩ := (mem_evens h).mp hb
  obtain ⟨od, md⟩ := (mem_evens h).mp hd
  have i1 := (c.even_cls h je L ob mb (fst_in h ob) (fst s d))
  rw [e] at i1
  have i2 := (c.even_cls h je L od md (fst_in h od) (fst s d)).mpr (fst_in h od)
  have := i1.mp i2
  exact ne (((h.out_in ob).mp this).2.2.symm.trans ((h.out_in od).mp (fst_in h od)).2.2)
theorem cert_ge (h : Str J s) (c : Cert s E O) (je : ∀ x y, J x y → E x y) (L : Lab s.n E O part) {K : List Int} (hK : ∀ p, 0 ≤ p → p < s.n → p ∉ O → part p ∈ K) :
    (evens s).length ≤ (K.filter fun l => decide ((cls s.n O part l).length % 2 = 1)).length := by
  have := nodup_len (names_nodup h c je L) (ys := K.filter fun l => decide ((cls s.n O part l).length % 2 = 1)) fun l hl => by
    obtain ⟨b, hb, rfl⟩ := List.mem_map.mp hl
    obtain ⟨ob, mb⟩ := (mem_evens h).mp hb
    have hf := fst_in h ob
    have pb := (h.out_in ob).mp hf
    exact List.mem_filter.mpr ⟨hK _ pb.1 pb.2.1 (c.notO h ob (by omega) _ hf), decide_eq_true (c.even_odd h je L ob mb hf)⟩
  rwa [List.length_map] at this
theorem cert_eq (h : Str J s) (k : Pr J s) (t : Tr J s r) (c : Cert s E O) (je : ∀ x y, J x y → E x y) (L : Lab s.n E O part) (pl : ∀ b, s.out b → s.mark b = 0 → b < s.n) {K : List Int} (nK : K.Nodup) (hK : ∀ l, l ∈ K ↔ ∃ p, 0 ≤ p ∧ p < s.n ∧ p ∉ O ∧ part p = l) :
    (evens s).length = (K.filter fun l => decide ((cls s.n O part l).length % 2 = 1)).length := by
  refine Nat.le_antisymm (cert_ge h c je L fun p p0 p1 p2 => (hK _).mpr ⟨p, p0, p1, p2, rfl⟩) ?_
  have := nodup_len (nK.filter fun l => decide ((cls s.n O part l).length % 2 = 1)) (ys := (evens s).map fun b => part (fst s b)) fun l hl => by
    obtain ⟨h1, h2⟩ := List.mem_filter.mp hl
    have h2 := of_decide_eq_true h2
    obtain ⟨p, p0, p1, p2, rfl⟩ := (hK l).mp h1
    have op := h.out_of p0 p1
    have pin := (h.out p p0 p1).2.2
    rcases t.mks _ op with m | m | m
    · -- mark 0: an even number
      exfalso
      have place : ∀ q, 0 ≤ q → q < s.n → s.mark (s.outer q) = 0 → s.outer q = q := fun q q0 q1 mq => by
        have oq := h.out_of q0 q1
        have b := h.base _ (h.out_rg oq).1 (pl _ oq mq)
        have := (h.out q q0 q1).2.2
        rw [b.1] at this
        exact (List.mem_singleton.mp this).symm
      have zero : ∀ q ∈ cls s.n O part (part p), 0 ≤ q ∧ q < s.n ∧ s.mark (s.outer q) = 0 ∧ part q = part p ∧ q ∉ O := fun q hq => by
        have hq' := hq
        unfold cls at hq
        rw [List.mem_filter, rngL_mem] at hq
        simp only [Bool.and_eq_true, Bool.not_eq_true', decide_eq_false_iff_not, decide_eq_true_eq] at hq
        obtain ⟨⟨q0, q1⟩, q2, q3⟩ := hq
        have oq := h.out_of q0 q1
        refine ⟨q0, q1, ?_, q3, q2⟩
        rcases t.mks _ oq with z | z | z
        · exact z
        · have i := (c.even_cls h je L oq z (h.out q q0 q1).2.2 p)
          rw [q3] at i
          have hp : p ∈ cls s.n O part (part p) := by
            unfold cls
            rw [List.mem_filter, rngL_mem]
            simp [p0, p1, p2]
          have := ((h.out_in oq).mp (i.mp hp)).2.2
          rw [this] at m; omega
        · exact absurd ((c.O q).mpr ⟨q0, q1, z⟩) q2
      have mate : ∀ q ∈ cls s.n O part (part p), ∃ y, s.tie q = some (q, y) ∧ y ∈ cls s.n O part (part p) ∧ y ≠ q ∧ s.tie y = some (y, q) := fun q hq => by
        obtain ⟨q0, q1, q2, q3, q4⟩ := zero q hq
        have oq := h.out_of q0 q1
        have eq := place q q0 q1 q2
        cases ht : s.tie (s.outer q) with
        | none => have := t.lone _ oq ht; omega
        | some j =>
          obtain ⟨x, y⟩ := j
          obtain ⟨p1', p2', p3', p4', p5', p6'⟩ := k.pr _ x y oq ht
          have ex : x = q := by
            have b := h.base _ (h.out_rg oq).1 (pl _ oq q2)
            rw [b.1, eq] at p1'
            exact List.mem_singleton.mp p1'
          subst ex
          have oy := h.out_of p2' p3'
          have my : s.mark (s.outer y) = 0 := by
            rcases t.mks _ oy with z | z | z
            · exact z
            · have := t.even _ _ _ oy z p6'; omega
            · obtain ⟨x', y', u', v', w1, w2, _⟩ := t.odd _ oy z
              rw [p6'] at w1
              cases w1
              omega
          have ey := place y p2' p3' my
          have yO : y ∉ O := fun z => by have := ((c.O y).mp z).2.2; omega
          rw [eq] at ht p5'
          rw [ey] at p5' p6'
          refine ⟨y, ht, ?_, p5', p6'⟩
          have := L.eq x y q0 q1 p2' p3' (je _ _ p4') q4 yO
          unfold cls
          rw [List.mem_filter, rngL_mem]
          simp [p2', p3', yO, ← this, q3]
      have := two_by_two (f := fun q => ((s.tie q).getD default).2) _ (Nat.le_refl _) cls_nodup fun q hq => by
        obtain ⟨y, e1, e2, e3, e4⟩ := mate q hq
        show ((s.tie q).getD default).2 ∈ _ ∧ ((s.tie q).getD default).2 ≠ q ∧ ((s.tie ((s.tie q).getD default).2).getD default).2 = q
        rw [e1]
        refine ⟨e2, e3, ?_⟩
        show ((s.tie y).getD default).2 = q
        rw [e4]; rfl
      omega
    · refine List.mem_map.mpr ⟨s.outer p, (mem_evens h).mpr ⟨op, m⟩, ?_⟩
      have b := h.out_rg op
      exact one_name h je L _ (Nat.le_refl _) b.1 b.2 (c.notO h op (by omega)) _ (fst_in h op) _ pin
    · exact absurd ((c.O p).mpr ⟨p0, p1, m⟩) p2
  rwa [List.length_map] at this
/-! ### the numbers of bodies -/
open Classical in
noncomputable def mateOf (s : St) (b : Int) : Int := if s.out b then (match s.tie b with | some j => s.outer j.2 | none => b) else b
theorem mate_od (h : Str J s) (k : Pr J s) : Od s.nb ((rngL 0 s.nb).map (mateOf s)) := by
  have n0 := h.n0
  have nb := h.nb
  have inv : ∀ b, 0 ≤ b → b < s.nb → 0 ≤ mateOf s b ∧ mateOf s b < s.nb ∧ mateOf s (mateOf s b) = b := fun b b0 b1 => by
    by_cases ob : s.out b
    · cases e : s.tie b with
      | none =>
        have : mateOf s b = b := by unfold mateOf; rw [if_pos ob, e]
        rw [this, this]; exact ⟨b0, b1, rfl⟩
      | some j =>
        obtain ⟨x, y⟩ := j
        obtain ⟨p1, p2, p3, p4, p5, p6⟩ := k.pr b x y ob e
        have oy := h.out_of p2 p3
        have e1 : mateOf s b = s.outer y := by unfold mateOf; rw [if_pos ob, e]
        have e2 : mateOf s (s.outer y) = b := by
          unfold mateOf
          rw [if_pos oy, p6]
          exact ((h.out_in ob).mp p1).2.2
        rw [e1, e2]
        exact ⟨(h.out_rg oy).1, (h.out_rg oy).2, rfl⟩
    · have : mateOf s b = b := by unfold mateOf; rw [if_neg ob]
      rw [this, this]; exact ⟨b0, b1, rfl⟩
  have gm : ∀ i, 0 ≤ i → i < s.nb → ge ((rngL 0 s.nb).map (mateOf s)) i = mateOf s i := fun i i0 i1 => by
    rw [ge_map i0 (by rw [rngL_len]; omega), ge_rng i0 (by omega), Int.zero_add]
  refine ⟨by rw [List.length_map, rngL_len]; omega, fun i i0 i1 => ?_, fun i j i0 i1 j0 j1 e => ?_⟩
  · rw [gm i i0 i1]; exact ⟨(inv i i0 i1).1, (inv i i0 i1).2.1⟩
  · rw [gm i i0 i1, gm j j0 j1] at e
    rw [← (inv i i0 i1).2.2, ← (inv j j0 j1).2.2, e]
theorem filter_len {p : Int → Prop} [DecidablePred p] {n : Int} : (((rngL 0 n).filter fun b => decide (p b)).length : Int) = sumR n fun b => if p b then 1 else 0 := by
  unfold sumR
  generalize rngL 0 n = l
  induction l with
  | nil => rfl
  | cons x l ih =>
    rw [List.map_cons, List.sum_cons, List.filter_cons]
    by_cases h : p x
    · rw [if_pos (decide_eq_true h), if_pos h, List.length_cons]; omega
    · rw [if_neg (by simpa using h), if_neg h]; omega
/-- as many even bodies as odd ones and such that are alone -/
theorem even_count (h : Str J s) (k : Pr J s) (t : Tr J s r) (nO : O.Nodup) (hO : ∀ p, p ∈ O ↔ 0 ≤ p ∧ p < s.n ∧ s.mark (s.outer p) = 2) (pl : ∀ b, s.out b → s.mark b = 2 → b < s.n) : ((evens s).length : Int) = O.length + lc s := by
  classical
  have n0 := h.n0
  have nb := h.nb
  have e1 : (O.length : Int) = sumR s.nb fun b => if s.out b ∧ s.mark b = 2 then 1 else 0 := by
    rw [← filter_len]
    refine congrArg Int.ofNat (nodup_len_eq nO (rngL_nodup.filter _) fun p => ?_)
    rw [hO, List.mem_filter, rngL_mem, decide_eq_true_eq]
    constructor
    · rintro ⟨p0, p1, m⟩
      have op := h.out_of p0 p1
      have b := h.base _ (h.out_rg op).1 (pl _ op m)
      have := (h.out p p0 p1).2.2
      rw [b.1] at this
      have e := List.mem_singleton.mp this
      rw [e]
      rw [← e]
      exact ⟨⟨p0, by omega⟩, by rw [e]; exact op, by rw [e]; exact m⟩
    · rintro ⟨_, op, m⟩
      have lt := pl p op m
      have p0 := (h.out_rg op).1
      refine ⟨p0, lt, ?_⟩
      have : p ∈ s.ins p := by rw [(h.base p p0 lt).1]; simp
      rw [((h.out_in op).mp this).2.2]; exact m
  have e2 : ((evens s).length : Int) = sumR s.nb fun b => if s.out b ∧ s.mark b = 1 then 1 else 0 := by
    unfold evens
    exact filter_len (p := fun b => s.out b ∧ s.mark b = 1)
  have e3 := (mate_od h k).sum fun b => if s.out b ∧ s.mark b = 2 then (1 : Int) else 0
  rw [e1, e2, ← e3]
  show _ = _ + sumR s.nb fun b => if lone s b then (1 : Int) else 0
  rw [← sumR_add]
  refine sumR_congr fun b b0 b1 => ?_
  rw [ge_map b0 (by rw [rngL_len]; omega), ge_rng b0 (by omega), Int.zero_add]
  by_cases ob : s.out b
  · cases e : s.tie b with
    | none =>
      have m := t.lone b ob e
      have em : mateOf s b = b := by unfold mateOf; rw [if_pos ob, e]
      rw [em, if_pos ⟨ob, m⟩, if_neg (fun z => by have := z.2; omega), if_pos (show lone s b from ⟨ob, e⟩)]; rfl
    | some j =>
      obtain ⟨x, y⟩ := j
      obtain ⟨p1, p2, p3, p4, p5, p6⟩ := k.pr b x y ob e
      have oy := h.out_of p2 p3
      have em : mateOf s b = s.outer y := by unfold mateOf; rw [if_pos ob, e]
      have nl : ¬ lone s b := fun z => by have := z.2; rw [e] at this; cases this
      rw [em, if_neg nl]
      by_cases m : s.mark b = 1
      · rw [if_pos ⟨ob, m⟩, if_pos ⟨oy, t.even b x y ob m e⟩]; rfl
      · rw [if_neg (fun z => m z.2), if_neg]
        · rfl
        · rintro ⟨_, m2⟩
          obtain ⟨x', y', u', v', w1, w2, _⟩ := t.odd _ oy m2
          rw [p6] at w1
          cases w1
          rw [((h.out_in ob).mp p1).2.2] at w2
          exact m w2
  · have em : mateOf s b = b := by unfold mateOf; rw [if_neg ob]
    rw [em, if_neg (fun z => ob z.1), if_neg (fun z => ob z.1), if_neg (fun z : lone s b => ob z.1)]; rfl
end
end Bl
/-! N7: all but the last one; walks by place -/
namespace M
open PySem PySem.Spec L2
theorem cutL_upto {α : Type} {xs : List α} {k : Nat} (h0 : 0 < k) : cutL xs none (some (-(k : Int))) = xs.take (xs.length - k) := by
  unfold cutL
  have e : HT.sIx xs.length xs.length (some (-(k : Int))) = xs.length - k := by
    show (if (-(k : Int)) < 0 then (-(k : Int) + (xs.length : Int)).toNat else _) = _
    rw [if_pos (by omega)]; omega
  rw [e, HT.sIx_none, List.drop_zero, Nat.sub_zero]
theorem cutL_init {α : Type} {xs : List α} : cutL xs none (some (-(1 : Int))) = xs.dropLast := by
  rw [List.dropLast_eq_take]
  exact cutL_upto (k := 1) (by decide)
/-- a walked list of numbers, by place -/
theorem Y.foldR {S α : Type} {f : S → α → Option S} {N : Nat} {g : Nat → α} {s0 : S} (I : Nat → S → Prop) (h0 : I 0 s0) (hs : ∀ i s, i < N → I i s → Y (f s (g i)) (I (i + 1))) : Y (List.foldlM (m := Option) f s0 ((List.range N).map g)) (I N) := by
  have := Y.fold (f := f) (xs := (List.range N).map g) (s0 := s0) (I := fun pre s => I pre.length s) h0 fun pre x post s e h => by
    have hl : pre.length < N := by
      have := congrArg List.length e
      rw [List.length_map, List.length_range, List.length_append, List.length_cons] at this; omega
    have hx : ((List.range N).map g)[pre.length]? = some x := by rw [e]; simp
    rw [List.getElem?_map, List.getElem?_range hl] at hx
    cases hx
    simp only [List.length_append, List.length_singleton]
    exact hs _ s hl h
  simpa using this
/-- a while, by a measure that need not be read off the state -/
theorem Y.whileN {S R : Type} {c : S → Option Bool} {f : S → Option (Stp S R)} {s0 : S} (I : Nat → S → Prop) {Q : S → Prop} {C : R → Prop} (h0 : ∃ n, I n s0)
    (hs : ∀ n s, I n s → ∃ b, c s = some b ∧ (b = false → Q s) ∧ (b = true → Y (f s) (StP (fun s' => ∃ m, m < n ∧ I m s') Q C))) : Y (M.whileS c f s0) (LoP Q C) := by
  have key : ∀ N n s, n < N → I n s → ∃ r, wl c f N s = some r ∧ LoP Q C r := by
    intro N
    induction N with
    | zero => intro n s h; omega
    | succ N ih =>
      intro n s hm hI
      obtain ⟨b, e1, h1, h2⟩ := hs n s hI
      rw [wl, e1]
      cases b with
      | false => exact ⟨.dn s, rfl, h1 rfl⟩
      | true =>
        obtain ⟨o, e2, h3⟩ := h2 rfl
        rw [Option.bind_some, if_pos rfl, e2]
        cases o with
        | go s' =>
          obtain ⟨m, hm', hI'⟩ := h3
          exact ih m s' (by omega) hI'
        | bk s' => exact ⟨.dn s', rfl, h3⟩
        | rt r => exact ⟨.rt r, rfl, h3⟩
  obtain ⟨n, hn⟩ := h0
  obtain ⟨r, e, h⟩ := key (n + 1) n s0 (Nat.lt_succ_self _) hn
  exact ⟨r, whileS_iff.mpr ⟨_, e⟩, h⟩
theorem rngC_up {n : Int} {N : Nat} (h : n = 2 * N + 1 ∨ n = 2 * N) : rngC 1 n 2 = (List.range N).map fun i => (1 : Int) + (i : Nat) * 2 := by
  unfold rngC
  have : (Builtin.Range.rangeSize 1 n 2).toNat = N := by
    unfold Builtin.Range.rangeSize
    rw [if_pos (by decide)]
    by_cases hz : 1 < n
    · rw [if_pos hz]; omega
    · rw [if_neg hz]; omega
  rw [this]
theorem rngC_down {N : Nat} : rngC (N : Int) 0 (-1) = (List.range N).map fun i => (N : Int) - (i : Nat) := by
  unfold rngC
  have : (Builtin.Range.rangeSize (N : Int) 0 (-1)).toNat = N := by
    unfold Builtin.Range.rangeSize
    rw [if_neg (by decide)]
    by_cases hz : (N : Int) > 0
    · rw [if_pos hz]
      have e : (- -1 : Int) = 1 := rfl
      rw [e, Int.ediv_one]; omega
    · rw [if_neg hz]; omega
  rw [this]
  apply List.map_congr_left
  intro i _
  omega
end M
/-! X1: the web's defs over bodies -/
namespace T
open M Bl
open L2 (atI)
section
variable {α : Type} [Inhabited α]
def LF (xs : List α) (m : Int) (f : Int → α) : Prop := (xs.length : Int) = m ∧ ∀ b, 0 ≤ b → b < m → ge xs b = f b
theorem LF.at_ {xs : List α} {m : Int} {f : Int → α} (h : LF xs m f) {i : Int} (i0 : 0 ≤ i) (i1 : i < m) : atI xs i = some (f i) := by
  rw [atI_ge i0 (by rw [h.1]; exact i1), h.2 i i0 i1]
theorem LF.st {xs : List α} {m : Int} {f : Int → α} (h : LF xs m f) {i : Int} (i0 : 0 ≤ i) (i1 : i < m) (a : α) : stM xs i a = some (up xs i a) := stM_up i0 (by rw [h.1]; exact i1)
theorem LF.up {xs : List α} {m : Int} {f : Int → α} (h : LF xs m f) {i : Int} (i0 : 0 ≤ i) (i1 : i < m) (a : α) : LF (M.up xs i a) m (upd f i a) := by
  refine ⟨by rw [up_len]; exact h.1, fun b b0 b1 => ?_⟩
  rw [ge_up i0 (by rw [h.1]; exact i1) b0]
  unfold upd
  rw [h.2 b b0 b1]
theorem LF.ap {xs : List α} {m : Int} {f : Int → α} (h : LF xs m f) (hm : m < 16777216) (a : α) : apM xs a = some (xs ++ [a]) := apM_some (by have := h.1; omega)
theorem LF.app {xs : List α} {m : Int} {f : Int → α} (h : LF xs m f) (a : α) : LF (xs ++ [a]) (m + 1) (upd f m a) := by
  have hl := h.1
  refine ⟨by rw [List.length_append, List.length_singleton]; omega, fun b b0 b1 => ?_⟩
  by_cases e : b = m
  · subst e
    rw [upd_same, ← hl]; exact ge_last
  · rw [upd_ne e, ge_append_left b0 (by omega)]; exact h.2 b b0 (by omega)
theorem LF.congr {xs : List α} {m : Int} {f g : Int → α} (h : LF xs m f) (e : ∀ b, 0 ≤ b → b < m → f b = g b) : LF xs m g := ⟨h.1, fun b b0 b1 => (h.2 b b0 b1).trans (e b b0 b1)⟩
end
structure Rel (w : C_Web) (s : St) : Prop where
  size : w.size = s.n
  ins : LF w.inside s.nb s.ins
  pri : LF w.price s.nb s.price
  rin : LF w.ring s.nb s.ring
  joi : LF w.joints s.nb s.joints
  tie : LF w.tie s.nb s.tie
  mar : LF w.mark s.nb s.mark
  way : LF w.way s.nb s.way
  out : LF w.outer s.n s.outer
section
variable {J : Int → Int → Prop} {w : C_Web} {s : St} {r : Int → Nat}
theorem y_link (R : Rel w s) {b : Int} (b0 : 0 ≤ b) (b1 : b < s.nb) (hw : s.mark b = 2 → s.way b ≠ none) : m_link_up w b = some (linkUp s b) := by
  unfold m_link_up linkUp
  rw [R.mar.at_ b0 b1, R.way.at_ b0 b1, R.tie.at_ b0 b1]
  simp only [bs]
  by_cases h : s.mark b = 2
  · rw [if_pos (decide_eq_true h), if_pos h]
    cases e : s.way b with
    | none => exact absurd e (hw h)
    | some j => rfl
  · rw [if_neg (by simpa using h), if_neg h]
theorem atI_snoc {α : Type} {P : List α} {c : α} : atI (P ++ [c]) (-(1 : Int)) = some c := atI_last
/-- the bodies of a path, as the defs ask for them -/
def Good1 (s : St) (b : Int) : Prop := 0 ≤ b ∧ b < s.nb ∧ (s.mark b = 2 → s.way b ≠ none) ∧ ∀ j, linkUp s b = some j → 0 ≤ j.2 ∧ j.2 < s.n
theorem y_path (R : Rel w s) {b : Int} {L : List Int} (p : Pth s b L) (hg : ∀ c ∈ L, Good1 s c) (hl : L.length < 16777216) : m_path_up w b = some L := by
  have key : Y (m_path_up w b) fun x => x = L := by
    unfold m_path_up
    refine Y.bind (P := fun x => x = L) (Y.whileM (I := fun l => ∃ P c D, l = P ++ [c] ∧ Pth s c (c :: D) ∧ L = P ++ c :: D) (μ := fun l => L.length - l.length) ?_ fun l hI => ?_) fun x e => ⟨x, rfl, e⟩
    · obtain ⟨T, e⟩ := p.head
      subst e
      exact ⟨[], b, T, rfl, p, rfl⟩
    · obtain ⟨P, c, D, rfl, q, eL⟩ := hI
      obtain ⟨c0, c1, c2, c3⟩ := hg c (by rw [eL]; simp)
      have el := y_link R c0 c1 c2
      refine ⟨(linkUp s c).isSome, by rw [atI_snoc]; simp only [bs]; rw [el]; rfl, fun hf => ?_, fun ht => ?_⟩
      · cases q with
        | root h => rw [eL]
        | step h k => rw [h] at hf; cases hf
      · cases q with
        | root h => rw [h] at ht; cases ht
        | @step _ j _ h k =>
          obtain ⟨j0, j1⟩ := c3 j h
          obtain ⟨T, e⟩ := k.head
          subst e
          rw [atI_snoc]
          simp only [bs]
          rw [el, h]
          simp only [bs]
          rw [R.out.at_ j0 j1]
          have hlen : (P ++ [c]).length < L.length := by rw [eL]; simp
          simp only [bs]
          rw [apM_some (by omega)]
          refine ⟨_, rfl, ⟨P ++ [c], s.outer j.2, T, rfl, k, by rw [eL]; simp⟩, ?_⟩
          simp only [List.length_append, List.length_singleton] at *
          omega
  exact key.eq
theorem good1 (h : Str J s) (k : Pr J s) (t : Tr J s r) {b : Int} (ob : s.out b) (mb : s.mark b = 1 ∨ s.mark b = 2) : Good1 s b := by
  obtain ⟨b0, b1⟩ := h.out_rg ob
  have hw : s.mark b = 2 → ∃ u v, s.way b = some (u, v) ∧ 0 ≤ u ∧ u < s.n := fun m => by
    obtain ⟨x, y, u, v, q1, q2, q3, q4, q5, q6, q7, q8, q9, q10⟩ := t.odd b ob m
    exact ⟨u, v, q4, q6, q7⟩
  refine ⟨b0, b1, fun m => by obtain ⟨u, v, e, _⟩ := hw m; rw [e]; simp, fun j e => ?_⟩
  unfold linkUp at e
  split at e
  · rename_i m
    obtain ⟨u, v, e2, u0, u1⟩ := hw m
    rw [e2] at e
    cases e
    exact ⟨u0, u1⟩
  · obtain ⟨x, y⟩ := j
    obtain ⟨p1, p2, p3, p4, p5, p6⟩ := k.pr b x y ob e
    exact ⟨p2, p3⟩
theorem path_len (h : Str J s) {L : List Int} (nd : L.Nodup) (ho : ∀ b ∈ L, s.out b) : (L.length : Int) ≤ s.nb := by
  have := nodup_len nd (ys := rngL 0 s.nb) fun b hb => rngL_mem.mpr (h.out_rg (ho b hb))
  rw [rngL_len] at this
  have := h.n0
  have := h.nb
  omega
theorem y_epath (R : Rel w s) (h : Str J s) (k : Pr J s) (t : Tr J s r) (hb : s.nb < 16777216) {e : Int} {L : List Int} (oe : s.out e) (p : EP s e L) : m_path_up w e = some L := by
  obtain ⟨a1, n1⟩ := EP.rank t h k p oe
  have := path_len h n1 fun b hb => (a1 b hb).1
  exact y_path R p.pth (fun c hc => good1 h k t (a1 c hc).1 (a1 c hc).2.2) (by omega)
/-! ### pairs changed -/
theorem chg_snoc (way : Int → Option (Int × Int)) : ∀ (n : Nat) {L : List Int} {o e : Int} {l : Int × Int} {f : Int → Option (Int × Int)}, L.length = 2 * n + 1 → chg way (L ++ [o, e]) l f = upd (upd (chg way L l f) o (some (sw ((way o).getD default)))) e (some ((way o).getD default))
  | 0, [a], o, e, l, f, _ => rfl
  | n + 1, a :: b :: L, o, e, l, f, h => by
    rw [List.cons_append, List.cons_append, chg, chg]
    exact chg_snoc way n (by simp at h; omega)
theorem ep_two {e : Int} {L : List Int} (p : EP s e L) : ∀ (i : Nat), 2 * i + 2 < L.length → ∃ u v, s.way (ge L ((2 * i + 1 : Nat) : Int)) = some (u, v) ∧ s.mark (ge L ((2 * i + 1 : Nat) : Int)) = 2 := by
  induction p with
  | root m ht => intro i hi; exact absurd hi (by simp)
  | @step e o x y u v L m h1 h2 mo h3 p ih =>
    intro i hi
    cases i with
    | zero => exact ⟨u, v, h3, mo⟩
    | succ i =>
      obtain ⟨u', v', e1, e2⟩ := ih i (by simp at hi; omega)
      have eg : ge (e :: o :: L) ((2 * (i + 1) + 1 : Nat) : Int) = ge L ((2 * i + 1 : Nat) : Int) := by
        rw [ge_cons (by omega), ge_cons (by omega)]
        congr 1; omega
      rw [eg]
      exact ⟨u', v', e1, e2⟩
theorem take_two {L : List Int} {i : Nat} (h : 2 * i + 2 < L.length) : L.take (2 * (i + 1) + 1) = L.take (2 * i + 1) ++ [ge L ((2 * i + 1 : Nat) : Int), ge L ((2 * i + 2 : Nat) : Int)] := by
  rw [ge_get (by omega), ge_get h]
  have e1 : 2 * (i + 1) + 1 = 2 * i + 1 + 2 := by omega
  rw [e1, List.take_add, List.drop_eq_getElem_cons (by omega), List.drop_eq_getElem_cons (show 2 * i + 1 + 1 < L.length by omega)]
  rfl
theorem y_change (R : Rel w s) {e : Int} {L : List Int} (p : EP s e L) (hg : ∀ c ∈ L, Good1 s c) (hlen : L.length < 16777216) (l : Int × Int) :
    Y (m_change_up w e l) fun w' => Rel w' { s with tie := chg s.way L l s.tie } := by
  have he : e ∈ L := by obtain ⟨T, e⟩ := p.head; rw [e]; simp
  have odd := p.odd
  obtain ⟨N, hN⟩ : ∃ N, L.length = 2 * N + 1 := ⟨L.length / 2, by omega⟩
  unfold m_change_up
  rw [y_path R p.pth hg hlen, bs, cutL_init, lcM_map (f := fun c => linkUp s c) (by rw [List.length_dropLast]; omega) fun c hc => ?_, bs, R.tie.st (hg e he).1 (hg e he).2.1, bs, rngCM_some (by omega) (by omega) (by omega) (by omega) (by decide) (by decide) (by decide), bs]
  · rw [rngC_up (N := N) (by omega)]
    refine Y.bind (Y.foldR (I := fun i w' => Rel w' { s with tie := chg s.way (L.take (2 * i + 1)) l s.tie }) ?_ fun i w' hi R' => ?_) fun w' R' => ⟨w', rfl, ?_⟩
    · obtain ⟨T, eT⟩ := p.head
      rw [eT]
      show Rel _ { s with tie := chg s.way [e] l s.tie }
      exact ⟨R.size, R.ins, R.pri, R.rin, R.joi, R.tie.up (hg e he).1 (hg e he).2.1 _, R.mar, R.way, R.out⟩
    · obtain ⟨u, v, ew, em⟩ := ep_two p i (by omega)
      have ei : (1 : Int) + (i : Nat) * 2 = ((2 * i + 1 : Nat) : Int) := by omega
      have ei2 : ((2 * i + 1 : Nat) : Int) + 1 = ((2 * i + 2 : Nat) : Int) := by omega
      rw [ei]
      have g1 : ge L ((2 * i + 1 : Nat) : Int) ∈ L := ge_mem (by omega) (by omega)
      have g2 : ge L ((2 * i + 2 : Nat) : Int) ∈ L := ge_mem (by omega) (by omega)
      have o1 : 0 ≤ ge L ((2 * i + 1 : Nat) : Int) ∧ ge L ((2 * i + 1 : Nat) : Int) < s.nb := ⟨(hg _ g1).1, (hg _ g1).2.1⟩
      have o2 : 0 ≤ ge L ((2 * i + 2 : Nat) : Int) ∧ ge L ((2 * i + 2 : Nat) : Int) < s.nb := ⟨(hg _ g2).1, (hg _ g2).2.1⟩
      have al : atI (L.dropLast.map fun c => linkUp s c) ((2 * i + 1 : Nat) : Int) = some (some (v, u)) := by
        rw [atI_ge (by omega) (by rw [List.length_map, List.length_dropLast]; omega), ge_map (by omega) (by rw [List.length_dropLast]; omega)]
        have : ge L.dropLast ((2 * i + 1 : Nat) : Int) = ge L ((2 * i + 1 : Nat) : Int) := by
          rw [ge_get (by rw [List.length_dropLast]; omega), ge_get (by omega), List.getElem_dropLast]
        rw [this]
        unfold linkUp
        rw [if_pos em, ew]; rfl
      have al1 : atI L ((2 * i + 1 : Nat) : Int) = some (ge L ((2 * i + 1 : Nat) : Int)) := atI_ge (by omega) (by omega)
      have al2 : atI L ((2 * i + 2 : Nat) : Int) = some (ge L ((2 * i + 2 : Nat) : Int)) := atI_ge (by omega) (by omega)
      have T1 := R'.tie.up o1.1 o1.2 (some (v, u))
      have T2 := T1.up o2.1 o2.2 (some (u, v))
      rw [al]
      simp only [bs]
      rw [al1, bs, R'.tie.st o1.1 o1.2, bs]
      simp only [bs, Option.map_some]
      rw [ei2, al2, bs, T1.st o2.1 o2.2, bs]
      refine ⟨_, rfl, ?_⟩
      rw [take_two (by omega), chg_snoc s.way i (by rw [List.length_take]; omega), ew]
      exact ⟨R.size ▸ R'.size, R'.ins, R'.pri, R'.rin, R'.joi, T2, R'.mar, R'.way, R'.out⟩
    · have : L.take (2 * N + 1) = L := List.take_of_length_le (by omega)
      rw [this] at R'
      exact R'
  · have hc' : c ∈ L := List.dropLast_subset _ hc
    have g := hg c hc'
    exact y_link R g.1 g.2.1 g.2.2.1
end
end T
/-! X2: rings put together, trees that grow -/
namespace T
open M Bl
open L2 (atI)
section
variable {J : Int → Int → Prop} {w : C_Web} {s : St} {r : Int → Nat}
theorem y_together (R : Rel w s) (hn : s.n ≤ 1000000) (hb : s.nb < 16777216) {l : List (Int × (Int × Int))} {t : Option (Int × Int)} (hp : ∀ c ∈ l.map (·.1), 0 ≤ c ∧ c < s.nb) (hf : ((l.map (·.1)).flatMap s.ins).length ≤ 1000000) (hi : ∀ p ∈ (l.map (·.1)).flatMap s.ins, 0 ≤ p ∧ p < s.n) :
    Y (m_Web__put_together w (l.map (·.1)) (l.map (·.2)) t) fun w' => Rel w' (together s l t) := by
  unfold m_Web__put_together
  refine Y.bind (P := fun pl => pl = (l.map (·.1)).flatMap s.ins) (Y.fold (I := fun pre pl => pl = pre.flatMap s.ins) rfl fun pre c post pl e hpl => ?_) fun pl hpl => ?_
  · subst hpl
    obtain ⟨c0, c1⟩ := hp c (by rw [e]; simp)
    rw [R.ins.at_ c0 c1, bs, exM_some, bs]
    · refine ⟨_, rfl, ?_⟩
      rw [List.flatMap_append, List.flatMap_cons, List.flatMap_nil, List.append_nil]
    · rw [e, List.flatMap_append, List.flatMap_cons, List.length_append, List.length_append] at hf
      omega
  · subst hpl
    rw [R.ins.ap hb, bs, R.pri.ap hb, bs, R.rin.ap hb, bs, R.joi.ap hb, bs, R.tie.ap hb, bs, R.mar.ap hb, bs, R.way.ap hb, bs]
    refine Y.bind (Y.fold (I := fun pre (w' : C_Web) => ∃ o', w' = C_Web.mk w.size (w.inside ++ [(l.map (·.1)).flatMap s.ins]) (w.price ++ [0]) (w.ring ++ [l.map (·.1)]) (w.joints ++ [l.map (·.2)]) (w.tie ++ [t]) (w.mark ++ [1]) (w.way ++ [none]) o' ∧ LF o' s.n (fun p => if p ∈ pre then s.nb else s.outer p)) ⟨w.outer, rfl, R.out.congr fun p _ _ => by rw [if_neg (by simp)]⟩ fun pre p post w' e hw' => ?_) fun w' hw' => ?_
    · obtain ⟨o', rfl, lo⟩ := hw'
      obtain ⟨p0, p1⟩ := hi p (by rw [e]; simp)
      show Y ((stM o' p (w.inside.length : Int)).bind fun outer => _) _
      rw [lo.st p0 p1, bs]
      refine ⟨_, rfl, _, rfl, (lo.up p0 p1 _).congr fun q q0 q1 => ?_⟩
      unfold Bl.upd
      rw [R.ins.1]
      by_cases eq : q = p
      · rw [if_pos eq, if_pos (by rw [eq]; simp)]
      · rw [if_neg eq]
        show (if q ∈ pre then s.nb else s.outer q) = _
        by_cases hq : q ∈ pre
        · rw [if_pos hq, if_pos (List.mem_append_left _ hq)]
        · rw [if_neg hq, if_neg (by simp [hq, eq])]
    · obtain ⟨o', rfl, lo⟩ := hw'
      exact ⟨_, rfl, R.size, R.ins.app _, R.pri.app _, R.rin.app _, R.joi.app _, R.tie.app _, R.mar.app _, R.way.app _, lo⟩
theorem ahead_some {b c : Int} {P D : List Int} (p : Pth s b (P ++ c :: D)) : ∀ a ∈ P, ∃ j, linkUp s a = some j ∧ LU s a = j := by
  intro a ha
  obtain ⟨P1, P2, rfl⟩ := List.append_of_mem ha
  rw [List.append_assoc, List.cons_append] at p
  have q := p.tail
  generalize hq : a :: (P2 ++ c :: D) = L at q
  cases q with
  | root h => exact absurd (congrArg List.length hq) (by simp)
  | step h k => exact ⟨_, h, by unfold LU; rw [h]; rfl⟩
theorem fmlen (h : Str J s) {l : List Int} (nd : l.Nodup) (ho : ∀ c ∈ l, s.out c) : (l.flatMap s.ins).Nodup := by
  rw [List.nodup_iff_pairwise_ne, List.pairwise_flatMap]
  refine ⟨fun c hc => List.nodup_iff_pairwise_ne.mp (h.nd c (h.out_rg (ho c hc)).1 (h.out_rg (ho c hc)).2), ?_⟩
  refine List.Pairwise.imp_of_mem ?_ (List.nodup_iff_pairwise_ne.mp nd)
  intro c d hc hd ne x hx y hy e
  subst e
  exact ne (((h.out_in (ho c hc)).mp hx).2.2.symm.trans ((h.out_in (ho d hd)).mp hy).2.2)
theorem poD_snoc {α : Type} {P : List α} {a : α} : poD (P ++ [a]) = some P := by
  unfold poD; simp
theorem y_put_ring (R : Rel w s) (h : Str J s) (k : Pr J s) (t : Tr J s r) (hn : s.n ≤ 1000000) (hb : s.nb ≤ 4000000) {u v : Int} {L1 L2 : List Int} (u0 : 0 ≤ u) (u1 : u < s.n) (v0 : 0 ≤ v) (v1 : v < s.n) (p1 : EP s (s.outer u) L1) (p2 : EP s (s.outer v) L2) (hl : L1.getLast? = L2.getLast?) :
    Y (m_put_ring w u v) fun w' => ∃ A B D m, Meet s u v A B D m ∧ Rel w' (together s (ringL s u v A B m) (s.tie m)) := by
  have ou := h.out_of u0 u1
  have ov := h.out_of v0 v1
  obtain ⟨a1, n1⟩ := EP.rank t h k p1 ou
  obtain ⟨a2, n2⟩ := EP.rank t h k p2 ov
  have len1 := path_len h n1 fun b hb => (a1 b hb).1
  have len2 := path_len h n2 fun b hb => (a2 b hb).1
  unfold m_put_ring
  simp only [bs]
  rw [R.out.at_ u0 u1, R.out.at_ v0 v1]
  simp only [bs]
  rw [y_epath R h k t (by omega) ou p1, bs, y_epath R h k t (by omega) ov p2, bs]
  refine Y.bind (P := fun (o : List Int × List Int) => ∃ A B D m, o = (A ++ [m], B ++ [m]) ∧ Meet s u v A B D m ∧ L1 = A ++ m :: D ∧ L2 = B ++ m :: D) (Y.whileM (I := fun (o : List Int × List Int) => ∃ A B D m, o = (A ++ [m], B ++ [m]) ∧ L1 = A ++ m :: D ∧ L2 = B ++ m :: D) (μ := fun o => o.1.length) ?_ fun o ho => ?_) fun o ho => ?_
  · obtain ⟨z1, P1, e1, _, _⟩ := p1.lone
    obtain ⟨z2, P2, e2, _, _⟩ := p2.lone
    rw [e1, e2] at hl
    simp at hl
    subst hl
    exact ⟨P1, P2, [], z1, by rw [e1, e2], e1, e2⟩
  · obtain ⟨A, B, D, m, rfl, e1, e2⟩ := ho
    have stopd : (A = [] ∨ B = [] ∨ A.getLast? ≠ B.getLast?) → ∃ A' B' D' m', (A ++ [m], B ++ [m]) = (A' ++ [m'], B' ++ [m']) ∧ Meet s u v A' B' D' m' ∧ L1 = A' ++ m' :: D' ∧ L2 = B' ++ m' :: D' := fun st =>
      ⟨A, B, D, m, rfl, ⟨by rw [← e1]; exact p1, by rw [← e2]; exact p2, st⟩, e1, e2⟩
    by_cases hA : A = []
    · subst hA
      exact ⟨false, by simp, fun _ => stopd (.inl rfl), fun z => by cases z⟩
    · by_cases hB : B = []
      · subst hB
        refine ⟨false, ?_, fun _ => stopd (.inr (.inl rfl)), fun z => by cases z⟩
        have : 1 < ((A ++ [m]).length : Int) := by have := List.length_pos_iff.mpr hA; rw [List.length_append, List.length_singleton]; omega
        simp only [decide_eq_true this, bs, if_pos]
        simp
      · obtain ⟨A', a, rfl⟩ : ∃ A' a, A = A' ++ [a] := ⟨_, _, (List.dropLast_concat_getLast hA).symm⟩
        obtain ⟨B', b, rfl⟩ : ∃ B' b, B = B' ++ [b] := ⟨_, _, (List.dropLast_concat_getLast hB).symm⟩
        have i1 : 1 < ((A' ++ [a] ++ [m]).length : Int) := by simp; omega
        have i2 : 1 < ((B' ++ [b] ++ [m]).length : Int) := by simp; omega
        have g1 : atI (A' ++ [a] ++ [m]) (-2) = some a := by rw [List.append_assoc]; exact atI_last2
        have g2 : atI (B' ++ [b] ++ [m]) (-2) = some b := by rw [List.append_assoc]; exact atI_last2
        refine ⟨decide (a = b), ?_, fun hf => ?_, fun ht => ?_⟩
        · simp only [decide_eq_true i1, decide_eq_true i2, bs, if_pos]
          rw [g1, g2]; rfl
        · refine stopd (.inr (.inr ?_))
          have : a ≠ b := of_decide_eq_false hf
          simpa using this
        · have e : a = b := of_decide_eq_true ht
          subst e
          show Y ((poD (A' ++ [a] ++ [m])).bind _) _
          rw [poD_snoc, bs]
          show Y ((poD (B' ++ [a] ++ [m])).bind _) _
          rw [poD_snoc, bs]
          refine ⟨_, rfl, ⟨A', B', m :: D, a, rfl, by rw [e1]; simp, by rw [e2]; simp⟩, ?_⟩
          simp
  · obtain ⟨A, B, D, m, rfl, M, e1, e2⟩ := ho
    have nA := congrArg List.length e1
    have nB := congrArg List.length e2
    rw [List.length_append, List.length_cons] at nA nB
    have eA : ((A ++ [m]).length : Int) - 1 = (A.length : Int) := by rw [List.length_append, List.length_singleton]; omega
    show Y ((rngCM (((A ++ [m]).length : Int) - 1) 0 (-1)).bind _) _
    rw [eA, rngCM_some (by omega) (by omega) (by decide) (by decide) (by decide) (by decide) (by decide), bs, rngC_down]
    have sA := ahead_some M.p1.pth
    have sB := ahead_some M.p2.pth
    have gA : ∀ a ∈ A, m_link_up w a = some (some (LU s a)) := fun a ha => by
      have := a1 a (by rw [e1]; exact List.mem_append_left _ ha)
      have g := good1 h k t this.1 this.2.2
      obtain ⟨j, j1, j2⟩ := sA a ha
      rw [y_link R g.1 g.2.1 g.2.2.1, j1, j2]
    have gB : ∀ a ∈ B, m_link_up w a = some (some (LU s a)) := fun a ha => by
      have := a2 a (by rw [e2]; exact List.mem_append_left _ ha)
      have g := good1 h k t this.1 this.2.2
      obtain ⟨j, j1, j2⟩ := sB a ha
      rw [y_link R g.1 g.2.1 g.2.2.1, j1, j2]
    refine Y.bind (Y.foldR (I := fun i (o : List Int × List (Int × Int)) => o = ((A ++ [m]).reverse.take i, (A.map fun a => sw (LU s a)).reverse.take i)) rfl fun i o hi ho => ?_) fun o ho => ?_
    · subst ho
      have hk : ((A.length : Int) - (i : Nat)) = ((A.length - i : Nat) : Int) := by omega
      have hk1 : ((A.length : Int) - (i : Nat)) - 1 = ((A.length - i - 1 : Nat) : Int) := by omega
      have l1 : A.length - i < (A ++ [m]).length := by rw [List.length_append, List.length_singleton]; omega
      have l2 : A.length - i - 1 < (A ++ [m]).length := by rw [List.length_append, List.length_singleton]; omega
      have l3 : A.length - i - 1 < A.length := by omega
      show Y ((atI (A ++ [m]) ((A.length : Int) - (i : Nat))).bind _) _
      rw [hk, atI_nat l1, bs, apM_some (by rw [List.length_take]; omega), bs]
      simp only [bs]
      rw [show (((A.length - i : Nat) : Int) - (1 : Int)) = ((A.length - i - 1 : Nat) : Int) by omega, atI_nat l2, bs, List.getElem_append_left l3, gA _ (List.getElem_mem l3)]
      simp only [bs]
      rw [apM_some (by rw [List.length_take]; omega), bs]
      refine ⟨_, rfl, ?_⟩
      have t1 : (A ++ [m]).reverse.take (i + 1) = (A ++ [m]).reverse.take i ++ [(A ++ [m])[A.length - i]] := by
        rw [List.take_add, List.drop_eq_getElem_cons (by rw [List.length_reverse, List.length_append, List.length_singleton]; omega), List.getElem_reverse]
        congr 2
        simp only [List.length_append, List.length_singleton]
        congr 1
        all_goals first | rfl | omega
      have t2 : (A.map fun a => sw (LU s a)).reverse.take (i + 1) = (A.map fun a => sw (LU s a)).reverse.take i ++ [sw (LU s A[A.length - i - 1])] := by
        rw [List.take_add, List.drop_eq_getElem_cons (by rw [List.length_reverse, List.length_map]; omega), List.getElem_reverse, List.getElem_map]
        have ei : (A.map fun a => sw (LU s a)).length - 1 - i = A.length - i - 1 := by rw [List.length_map]; omega
        simp only [ei]
        rfl
      rw [t1, t2]; rfl
    · subst ho
      have r1 : ∀ x, (A ++ [m])[0]? = some x → (A ++ [m]).reverse.take A.length ++ [x] = (A ++ [m]).reverse := fun x hx => by
        cases A with
        | nil => simp at hx; subst hx; rfl
        | cons a A =>
          simp at hx; subst hx
          rw [List.cons_append, List.reverse_cons, List.take_append_of_le_length (by simp)]
          rw [List.take_of_length_le (by simp)]
      have r2 : (A.map fun a => sw (LU s a)).reverse.take A.length = (A.map fun a => sw (LU s a)).reverse := List.take_of_length_le (by simp)
      show Y ((atI (A ++ [m]) (0 : Int)).bind _) _
      have l0 : 0 < (A ++ [m]).length := by simp
      have z : atI (A ++ [m]) (0 : Int) = some ((A ++ [m])[0]'l0) := atI_nat (i := 0) l0
      rw [z, bs, apM_some (by rw [List.length_take]; omega), bs, r1 _ (List.getElem?_eq_getElem l0), r2, apM_some (by rw [List.length_reverse, List.length_map]; omega), bs, cutL_init]
      have eB : (B ++ [m]).dropLast = B := by simp
      simp only [eB]
      refine Y.bind (Y.fold (I := fun pre (o : List Int × List (Int × Int)) => o = ((A ++ [m]).reverse ++ pre, (A.map fun a => sw (LU s a)).reverse ++ [(u, v)] ++ pre.map fun c => LU s c)) (by simp) fun pre c post o e ho => ?_) fun o ho => ?_
      · subst ho
        have lp := congrArg List.length e
        rw [List.length_append, List.length_cons] at lp
        show Y ((apM ((A ++ [m]).reverse ++ pre) c).bind _) _
        rw [apM_some (by simp; omega), bs, gB c (by rw [e]; simp)]
        simp only [bs]
        rw [apM_some (by simp; omega), bs]
        exact ⟨_, rfl, by simp⟩
      · subst ho
        simp only [bs]
        rw [atI_snoc]
        simp only [bs]
        have om := (a1 m (by rw [e1]; simp)).1
        rw [R.tie.at_ (h.out_rg om).1 (h.out_rg om).2, bs]
        have f1 := ringL_fst M
        have f2 : (ringL s u v A B m).map (·.2) = (A.map fun a => sw (LU s a)).reverse ++ [(u, v)] ++ B.map fun c => LU s c := by rw [ringL_snd]; simp
        rw [← f1, ← f2]
        have nd1 := List.nodup_append.mp (by rw [← e1]; exact n1 : (A ++ m :: D).Nodup)
        have nd2 := List.nodup_append.mp (by rw [← e2]; exact n2 : (B ++ m :: D).Nodup)
        have dis := M.dis (by rw [← e1]; exact n1)
        have outR : ∀ c ∈ (ringL s u v A B m).map (·.1), s.out c := fun c hc => by
          rw [f1] at hc
          rcases List.mem_append.mp hc with z | z
          · exact (a1 c (by rw [e1]; simp at z ⊢; rcases z with z | z; exact .inr (.inl z); exact .inl z)).1
          · exact (a2 c (by rw [e2]; exact List.mem_append_left _ z)).1
        have nd : ((ringL s u v A B m).map (·.1)).Nodup := by
          rw [f1, List.nodup_append]
          refine ⟨(List.reverse_perm _).nodup_iff.mpr (List.nodup_append.mpr ⟨nd1.1, by simp, fun a ha b hb e => nd1.2.2 a ha m (by simp) (by rw [List.mem_singleton] at hb; rw [e, hb])⟩), nd2.1, fun a ha b hb e => ?_⟩
          subst e
          rcases List.mem_append.mp (List.mem_reverse.mp ha) with z | z
          · exact dis a z hb
          · rw [List.mem_singleton] at z; rw [z] at hb; exact nd2.2.2 m hb m (by simp) rfl
        have fm := fmlen h nd outR
        have fr : ∀ p ∈ ((ringL s u v A B m).map (·.1)).flatMap s.ins, 0 ≤ p ∧ p < s.n := fun p hp => by
          obtain ⟨c, hc, hp⟩ := List.mem_flatMap.mp hp
          have := (h.out_in (outR c hc)).mp hp
          exact ⟨this.1, this.2.1⟩
        have fl := nodup_len fm (ys := rngL 0 s.n) fun p hp => rngL_mem.mpr (fr p hp)
        rw [rngL_len] at fl
        obtain ⟨w', e', R'⟩ := y_together R hn (by omega) (t := s.tie m) (fun c hc => h.out_rg (outR c hc)) (by omega) fr
        exact ⟨w', by rw [e', bs], A, B, D, m, M, R'⟩
theorem y_helps (R : Rel w s) (h : Str J s) {u v : Int} (u0 : 0 ≤ u) (u1 : u < s.n) (v0 : 0 ≤ v) (v1 : v < s.n) : ∃ b, m_helps w u v = some b ∧ (b = true ↔ helps s u v) := by
  have ou := h.out_rg (h.out_of u0 u1)
  have ov := h.out_rg (h.out_of v0 v1)
  unfold m_helps helps
  rw [R.out.at_ u0 u1, bs, R.out.at_ v0 v1, bs, R.mar.at_ ou.1 ou.2, R.mar.at_ ov.1 ov.2]
  simp only [bs]
  by_cases e1 : s.outer u = s.outer v
  · exact ⟨false, by simp [e1], by simp [e1]⟩
  · by_cases e2 : s.mark (s.outer u) = 1
    · by_cases e3 : s.mark (s.outer v) = 2
      · exact ⟨false, by simp [e1, e2, e3], by simp [e3]⟩
      · exact ⟨true, by simp [e1, e2, e3], by simp [e1, e2, e3]⟩
    · exact ⟨false, by simp [e1, e2], by simp [e2]⟩
theorem EP.congr {s' : St} {e : Int} {L : List Int} (p : EP s e L) (ht : ∀ c ∈ L, s'.tie c = s.tie c) (hm : s'.mark = s.mark) (hw : s'.way = s.way) (ho : s'.outer = s.outer) : EP s' e L := by
  induction p with
  | root m h => exact .root (by rw [hm]; exact m) (by rw [ht _ (by simp)]; exact h)
  | step m h1 h2 mo h3 k ih =>
    refine .step (by rw [hm]; exact m) (by rw [ht _ (by simp)]; exact h1) (by rw [ho]; exact h2) (by rw [hm]; exact mo) (by rw [hw]; exact h3) ?_
    rw [ho]
    exact ih fun c hc => ht c (List.mem_cons_of_mem _ (List.mem_cons_of_mem _ hc))
inductive Grew (w' : C_Web) (s : St) (u v : Int) : Bool → Prop where
  | more (y : Int) (x : Int) (m0 : s.mark (s.outer v) = 0) (e : s.tie (s.outer v) = some (x, y)) (R : Rel w' { s with mark := Bl.upd (Bl.upd s.mark (s.outer v) 2) (s.outer y) 1, way := Bl.upd s.way (s.outer v) (some (u, v)) }) : Grew w' s u v false
  | ring (A B D : List Int) (m : Int) (M : Meet s u v A B D m) (R : Rel w' (together s (ringL s u v A B m) (s.tie m))) : Grew w' s u v false
  | pairs (L1 L2 : List Int) (p1 : EP s (s.outer u) L1) (p2 : EP s (s.outer v) L2) (hd : ∀ b ∈ L1, b ∉ L2) (R : Rel w' { s with tie := chg s.way L2 (v, u) (chg s.way L1 (u, v) s.tie) }) : Grew w' s u v true
theorem y_grow (R : Rel w s) (h : Str J s) (k : Pr J s) (t : Tr J s r) (hn : s.n ≤ 1000000) (hb : s.nb ≤ 4000000) {u v : Int} (u0 : 0 ≤ u) (u1 : u < s.n) (v0 : 0 ≤ v) (v1 : v < s.n) (hh : helps s u v) :
    Y (m_grow w u v) fun x => Grew x.1 s u v x.2 := by
  have ou := h.out_of u0 u1
  have ov := h.out_of v0 v1
  have ru := h.out_rg ou
  have rv := h.out_rg ov
  obtain ⟨ne, mu, mv⟩ := hh
  unfold m_grow
  rw [R.out.at_ v0 v1, bs, R.mar.at_ rv.1 rv.2]
  simp only [bs]
  by_cases m0 : s.mark (s.outer v) = 0
  · rw [if_pos (decide_eq_true m0)]
    cases ht : s.tie (s.outer v) with
    | none => have := t.lone _ ov ht; omega
    | some j =>
      obtain ⟨x, y⟩ := j
      obtain ⟨q1, q2, q3, q4, q5, q6⟩ := k.pr _ x y ov ht
      have ry := h.out_rg (h.out_of q2 q3)
      rw [R.mar.st rv.1 rv.2, bs, R.way.st rv.1 rv.2, bs, R.tie.at_ rv.1 rv.2, ht]
      simp only [bs]
      rw [R.out.at_ q2 q3, bs, (R.mar.up rv.1 rv.2 2).st ry.1 ry.2, bs]
      exact ⟨_, rfl, .more y x m0 ht ⟨R.size, R.ins, R.pri, R.rin, R.joi, R.tie, (R.mar.up rv.1 rv.2 2).up ry.1 ry.2 1, R.way.up rv.1 rv.2 _, R.out⟩⟩
  · have m1 : s.mark (s.outer v) = 1 := by rcases t.mks _ ov with z | z | z <;> omega
    obtain ⟨L1, p1⟩ := t.path h k ou mu
    obtain ⟨L2, p2⟩ := t.path h k ov m1
    obtain ⟨a1, n1⟩ := EP.rank t h k p1 ou
    obtain ⟨a2, n2⟩ := EP.rank t h k p2 ov
    have len1 := path_len h n1 fun b hb => (a1 b hb).1
    have len2 := path_len h n2 fun b hb => (a2 b hb).1
    rw [if_neg (by simpa using m0), R.out.at_ u0 u1, bs, y_epath R h k t (by omega) ou p1, y_epath R h k t (by omega) ov p2]
    simp only [bs]
    obtain ⟨z1, P1, e1, t1, l1⟩ := p1.lone
    obtain ⟨z2, P2, e2, t2, l2⟩ := p2.lone
    rw [e1, e2, atI_snoc, atI_snoc]
    simp only [bs]
    by_cases ez : z1 = z2
    · rw [if_pos (decide_eq_true ez)]
      obtain ⟨w', e', A, B, D, m, M, R'⟩ := y_put_ring R h k t hn hb u0 u1 v0 v1 p1 p2 (by rw [e1, e2]; simp [ez])
      rw [e', bs]
      exact ⟨_, rfl, .ring A B D m M R'⟩
    · rw [if_neg (by simpa using ez)]
      have hd : ∀ b ∈ L1, b ∉ L2 := fun b h1 h2 => by
        obtain ⟨A1, A2, eA⟩ := List.append_of_mem h1
        obtain ⟨B1, B2, eB⟩ := List.append_of_mem h2
        have q1 := p1.pth
        have q2 := p2.pth
        rw [eA] at q1
        rw [eB] at q2
        have e := (q1.tail).det q2.tail
        have f1 : L1.getLast? = (b :: A2).getLast? := by rw [eA, List.getLast?_append]; cases hx : (b :: A2).getLast? with
          | none => rw [List.getLast?_eq_none_iff] at hx; cases hx
          | some _ => rfl
        have f2 : L2.getLast? = (b :: B2).getLast? := by rw [eB, List.getLast?_append]; cases hx : (b :: B2).getLast? with
          | none => rw [List.getLast?_eq_none_iff] at hx; cases hx
          | some _ => rfl
        rw [e, ← f2, e1, e2] at f1
        simp at f1
        exact ez f1
      have g1 : ∀ c ∈ L1, Good1 s c := fun c hc => good1 h k t (a1 c hc).1 (a1 c hc).2.2
      obtain ⟨w1, e1', R1⟩ := y_change R p1 g1 (by omega) (u, v)
      rw [e1', bs]
      have cs := (chg_spec p1 n1 (u, v) s.tie).1
      have hlu : ∀ c ∈ L2, linkUp { s with tie := chg s.way L1 (u, v) s.tie } c = linkUp s c := fun c hc => by
        unfold linkUp
        show (if s.mark c = 2 then _ else chg s.way L1 (u, v) s.tie c) = _
        rw [cs c fun z => hd c z hc]
      have p2' : EP { s with tie := chg s.way L1 (u, v) s.tie } (s.outer v) L2 := EP.congr p2 (fun c hc => cs c fun z => hd c z hc) rfl rfl rfl
      obtain ⟨w2, e2', R2⟩ := y_change R1 p2' (fun c hc => by
        have g := good1 h k t (a2 c hc).1 (a2 c hc).2.2
        exact ⟨g.1, g.2.1, g.2.2.1, fun j hj => g.2.2.2 j (by rw [← hlu c hc]; exact hj)⟩) (by omega) (v, u)
      rw [e2', bs]
      exact ⟨_, rfl, .pairs L1 L2 p1 p2 hd R2⟩
end
end T
/-! X3: webs made, begun, loosened -/
namespace T
open M Bl
open L2 (atI)
def initS (n p : Int) : St := ⟨n, n, fun k => [k], fun _ => p, fun _ => [], fun _ => [], fun _ => none, fun _ => 0, fun _ => none, fun k => k⟩
theorem lf_rng {α : Type} [Inhabited α] {n : Int} (n0 : 0 ≤ n) {f : Int → α} : LF ((rngL 0 n).map f) n f := by
  refine ⟨by rw [List.length_map, rngL_len]; omega, fun b b0 b1 => ?_⟩
  rw [ge_map b0 (by rw [rngL_len]; omega), ge_rng b0 (by omega), Int.zero_add]
theorem y_new {n p : Int} (n0 : 0 ≤ n) (n1 : n ≤ 1000000) : Y (m_Web__new n p) fun w => Rel w (initS n p) := by
  unfold m_Web__new
  have ln : (rngL 0 n).length < 16777216 := by rw [rngL_len]; omega
  rw [bs, rngM_some]
  simp only [bs]
  rw [lcM_map (f := fun k => [k]) ln fun _ _ => rfl, bs, lcM_map (f := fun _ => p) ln fun _ _ => rfl, bs, lcM_map (f := fun _ => ([] : List Int)) ln fun _ _ => rfl, bs, lcM_map (f := fun _ => ([] : List (Int × Int))) ln fun _ _ => rfl, bs,
    lcM_map (f := fun _ => (none : Option (Int × Int))) ln fun _ _ => rfl, bs, lcM_map (f := fun _ => (0 : Int)) ln fun _ _ => rfl, bs, bs]
  unfold lrgM
  rw [if_pos (by omega), bs]
  exact ⟨_, rfl, rfl, lf_rng n0, lf_rng n0, lf_rng n0, lf_rng n0, lf_rng n0, lf_rng n0, lf_rng n0, by have := lf_rng (f := fun k : Int => k) n0; rwa [List.map_id'] at this⟩
theorem init_str {J : Int → Int → Prop} {n p : Int} (n0 : 0 ≤ n) : Str J (initS n p) := by
  refine ⟨n0, Int.le_refl _, fun b _ _ => ⟨rfl, rfl⟩, fun q q0 q1 => ⟨q0, q1, List.mem_singleton.mpr rfl⟩, fun b q b0 b1 hq => ?_, fun _ _ _ => ?_, fun _ _ _ _ => rfl, fun b q q' _ _ h1 h2 => ?_, fun b q _ _ h1 h2 => ?_, fun b _ _ h => absurd rfl h, fun b b0 b1 => ?_, fun b b0 b1 => ?_⟩
  · have e := List.mem_singleton.mp hq
    subst e
    exact ⟨b0, b1, Int.le_refl _⟩
  · show ([_] : List Int).Nodup
    simp
  · rw [List.mem_singleton.mp h1, List.mem_singleton.mp h2]
  · exact absurd (List.mem_singleton.mp h1) h2
  · have b0 : n ≤ b := b0
    have b1 : b < n := b1
    omega
  · have b0 : n ≤ b := b0
    have b1 : b < n := b1
    omega
theorem init_pr {J : Int → Int → Prop} {n p : Int} : Pr J (initS n p) := ⟨fun b x y _ e => by cases e⟩
theorem init_lc {n p : Int} (n0 : 0 ≤ n) : lc (initS n p) = n := by
  classical
  have : lc (initS n p) = sumR n fun _ => 1 := sumR_congr (n := n) fun b b0 b1 => if_pos ⟨⟨b, b0, b1, rfl⟩, rfl⟩
  rw [this, sumR_const n0]; omega
section
variable {J : Int → Int → Prop} {w : C_Web} {s : St} {r : Int → Nat}
theorem lc_nonneg : 0 ≤ lc s := by
  classical
  exact sumR_nonneg fun b _ _ => by split <;> decide
theorem y_outermost (R : Rel w s) (hn : s.n ≤ 1000000) : Y (m_Web__outermost w) fun l => l.Nodup ∧ ∀ b, b ∈ l ↔ s.out b := by
  unfold m_Web__outermost
  have hl := R.out.1
  refine Y.bind (Y.fold (I := fun pre d => DS d pre) DS.nil fun pre x post d e hd => ?_) fun d hd => ?_
  · have lp := congrArg List.length e
    rw [List.length_append, List.length_cons] at lp
    have := hd.le
    rw [dpM_some (by omega), bs]
    exact ⟨_, rfl, hd.put x true⟩
  · obtain ⟨t, e, nd, hm⟩ := hd.keys
    refine ⟨t, e, nd, fun b => ?_⟩
    rw [hm, mem_ge]
    constructor
    · rintro ⟨i, i0, i1, rfl⟩
      exact ⟨i, i0, by omega, (R.out.2 i i0 (by omega)).symm⟩
    · rintro ⟨p, p0, p1, e⟩
      exact ⟨p, p0, by omega, by rw [R.out.2 p p0 p1]; exact e⟩
theorem y_is_ring (R : Rel w s) {b : Int} (b0 : 0 ≤ b) (b1 : b < s.nb) : ∃ v, m_Web__is_ring w b = some v ∧ (v = true ↔ s.ring b ≠ []) := by
  unfold m_Web__is_ring
  rw [R.rin.at_ b0 b1]
  simp only [bs]
  refine ⟨_, rfl, ?_⟩
  unfold eqB
  simp
def begun (s : St) (l : List Int) : St := { s with mark := fun b => if b ∈ l then (if s.tie b = none then 1 else 0) else s.mark b, way := fun b => if b ∈ l then none else s.way b }
theorem begun_tr {l : List Int} (hl : ∀ b, b ∈ l ↔ s.out b) : Tr J (begun s l) fun _ => 0 := by
  have mk : ∀ b, (begun s l).out b → (begun s l).mark b = if s.tie b = none then 1 else 0 := fun b ob => if_pos ((hl b).mpr ob)
  refine ⟨fun b ob => ?_, fun b ob ht => ?_, fun b ob m => ?_, fun b x y ob m ht => ?_⟩
  · rw [mk b ob]; split <;> simp
  · have ht : s.tie b = none := ht
    rw [mk b ob, if_pos ht]
  · rw [mk b ob] at m
    split at m <;> omega
  · rw [mk b ob] at m
    have ht : s.tie b = some (x, y) := ht
    rw [ht] at m
    simp at m
theorem y_begin (R : Rel w s) (h : Str J s) (hn : s.n ≤ 1000000) : Y (m_Web__begin w) fun w' => ∃ l, l.Nodup ∧ (∀ b, b ∈ l ↔ s.out b) ∧ Rel w' (begun s l) := by
  unfold m_Web__begin
  refine Y.bind (y_outermost R hn) fun l hl => ?_
  refine Y.bind (Y.fold (I := fun pre w' => Rel w' (begun s pre)) ⟨R.size, R.ins, R.pri, R.rin, R.joi, R.tie, R.mar.congr fun b _ _ => (by show s.mark b = if b ∈ ([] : List Int) then (if s.tie b = none then 1 else 0) else s.mark b; rw [if_neg List.not_mem_nil]), R.way.congr fun b _ _ => (by show s.way b = if b ∈ ([] : List Int) then none else s.way b; rw [if_neg List.not_mem_nil]), R.out⟩ fun pre b post w' e R' => ?_) fun w' R' => ⟨w', rfl, l, hl.1, hl.2, R'⟩
  have ob := (hl.2 b).mp (by rw [e]; simp)
  obtain ⟨b0, b1⟩ := h.out_rg ob
  have W : LF (M.up w'.way b none) s.nb fun c => if c ∈ pre ++ [b] then none else s.way c := (R'.way.up b0 b1 none).congr fun c _ _ => by
    unfold Bl.upd
    by_cases ec : c = b
    · rw [if_pos ec, if_pos (by rw [ec]; simp)]
    · rw [if_neg ec]
      show (if c ∈ pre then none else s.way c) = _
      by_cases hc : c ∈ pre
      · rw [if_pos hc, if_pos (List.mem_append_left _ hc)]
      · rw [if_neg hc, if_neg (by simp [hc, ec])]
  have Mk : ∀ (v : Int), v = (if s.tie b = none then 1 else 0) → ∀ (xs : List Int), LF xs s.nb (Bl.upd (begun s pre).mark b v) → LF xs s.nb fun c => if c ∈ pre ++ [b] then (if s.tie c = none then 1 else 0) else s.mark c := fun v hv xs hx => hx.congr fun c _ _ => by
    unfold Bl.upd
    by_cases ec : c = b
    · rw [if_pos ec, if_pos (by rw [ec]; simp), hv, ec]
    · rw [if_neg ec]
      show (if c ∈ pre then _ else s.mark c) = _
      by_cases hc : c ∈ pre
      · rw [if_pos hc, if_pos (List.mem_append_left _ hc)]
      · rw [if_neg hc, if_neg (by simp [hc, ec])]
  rw [R'.way.st b0 b1, bs, R'.mar.st b0 b1, bs, R'.tie.at_ b0 b1, bs, bs]
  have M1 := R'.mar.up b0 b1 (0 : Int)
  cases ht : s.tie b with
  | none =>
    have e1 : ((begun s pre).tie b).isNone = true := by show (s.tie b).isNone = true; rw [ht]; rfl
    rw [e1, if_pos rfl, M1.st b0 b1, bs, bs]
    refine ⟨_, rfl, R'.size, R'.ins, R'.pri, R'.rin, R'.joi, R'.tie, Mk 1 (by rw [ht]; rfl) _ ?_, W, R'.out⟩
    refine (M1.up b0 b1 1).congr fun c _ _ => ?_
    unfold Bl.upd
    split <;> rfl
  | some j =>
    have e1 : ((begun s pre).tie b).isNone = false := by show (s.tie b).isNone = false; rw [ht]; rfl
    rw [e1, if_neg (by decide), bs]
    exact ⟨_, rfl, R'.size, R'.ins, R'.pri, R'.rin, R'.joi, R'.tie, Mk 0 (by rw [ht]; rfl) _ M1, W, R'.out⟩
theorem y_spot (R : Rel w s) {ring : List Int} (hr : ∀ c ∈ ring, 0 ≤ c ∧ c < s.nb) {p i : Int} (i0 : 0 ≤ i) (i1 : i < ring.length) (hp : p ∈ s.ins (ge ring i)) : Y (m_Web__spot w ring p) fun a => 0 ≤ a ∧ a < ring.length ∧ p ∈ s.ins (ge ring a) := by
  unfold m_Web__spot
  refine Y.bind (Y.whileM (I := fun k => 0 ≤ k ∧ k ≤ i) (μ := fun k => (i - k).toNat) (Q := fun a => 0 ≤ a ∧ a < ring.length ∧ p ∈ s.ins (ge ring a)) ⟨Int.le_refl _, i0⟩ fun k hk => ?_) fun a ha => ⟨a, rfl, ha⟩
  obtain ⟨k0, k1⟩ := hk
  have hc := hr (ge ring k) (ge_mem k0 (by omega))
  refine ⟨!decide (p ∈ s.ins (ge ring k)), ?_, fun hf => ⟨k0, by omega, by simpa using hf⟩, fun ht => ⟨_, rfl, ?_⟩⟩
  · simp only [bs]
    rw [atI_ge k0 (by omega)]
    simp only [bs]
    rw [R.ins.at_ hc.1 hc.2]; rfl
  · have : k ≠ i := fun e => by rw [e] at ht; simp [hp] at ht
    exact ⟨⟨by omega, by omega⟩, by omega⟩
theorem y_take_apart (R : Rel w s) (h : Str J s) (hn : s.n ≤ 1000000) (hb : s.nb ≤ 4000000) {b : Int} (o : s.out b) (hr : s.ring b ≠ []) (ht : ∀ x y, s.tie b = some (x, y) → x ∈ s.ins b) :
    Y (m_Web__take_apart w b) fun w' => ∃ a : Int, 0 ≤ a ∧ a < (s.ring b).length ∧ (∀ x y, s.tie b = some (x, y) → x ∈ s.ins (ge (s.ring b) a)) ∧ Rel w' (apart s b a) := by
  obtain ⟨b0, b1⟩ := h.out_rg o
  obtain ⟨bn, r⟩ := h.rok b b0 b1 hr
  have ro := r.odd
  have r3 := r.three
  have rl := r.len
  have rg : ∀ c ∈ s.ring b, 0 ≤ c ∧ c < s.nb := fun c hc => by have := r.parts c hc; omega
  unfold m_Web__take_apart
  rw [R.rin.at_ b0 b1, bs, R.joi.at_ b0 b1, bs, R.tie.at_ b0 b1, bs, bs]
  refine Y.bind (P := fun (a : Int) => 0 ≤ a ∧ a < (s.ring b).length ∧ (∀ x y, s.tie b = some (x, y) → x ∈ s.ins (ge (s.ring b) a))) ?_ fun a ha => ?_
  · cases e : s.tie b with
    | none =>
      rw [if_neg (by simp)]
      exact ⟨0, rfl, Int.le_refl _, by omega, fun x y z => by cases z⟩
    | some j =>
      obtain ⟨x, y⟩ := j
      rw [if_pos (by simp)]
      simp only [bs]
      have hx := ht x y e
      rw [r.flat] at hx
      obtain ⟨c, hc, hx⟩ := List.mem_flatMap.mp hx
      obtain ⟨i, i0, i1, rfl⟩ := mem_ge.mp hc
      refine Y.bind (y_spot R rg i0 i1 hx) fun a ha => ⟨a, rfl, ha.1, ha.2.1, fun x' y' z => by cases z; exact ha.2.2⟩
  · obtain ⟨a0, a1, aT⟩ := ha
    refine (Y.imp (P := fun w' => Rel w' (apart s b a)) ?_ fun w' R' => ⟨a, a0, a1, aT, R'⟩)
    have hlen : (s.ring b).length ≤ 4000000 := by
      have := nodup_len r.nd (ys := rngL 0 s.nb) fun c hc => rngL_mem.mpr (rg c hc)
      rw [rngL_len] at this
      omega
    obtain ⟨N, hN⟩ : ∃ N, (s.ring b).length = 2 * N + 1 := ⟨(s.ring b).length / 2, by omega⟩
    have ga := rg _ (ge_mem (xs := s.ring b) a0 a1)
    rw [atI_ge a0 a1, bs, bs, R.tie.st ga.1 ga.2, bs, rngCM_some (by decide) (by decide) (by omega) (by omega) (by decide) (by decide) (by decide), bs, rngC_up (N := N) (by omega)]
    have gr : ∀ j : Int, 0 ≤ j → j < (s.ring b).length → 0 ≤ ge (s.ring b) j ∧ ge (s.ring b) j < s.nb := fun j j0 j1 => rg _ (ge_mem j0 j1)
    have fi : ∀ (i : Int) (j : Int), 0 ≤ j → j < (s.ring b).length → (if ge (s.ring b) j ∈ s.ring b ∧ ofs (s.ring b).length a ((s.ring b).idxOf (ge (s.ring b) j) : Int) ≤ i then apTie (s.joints b) (s.ring b).length a (s.tie b) ((s.ring b).idxOf (ge (s.ring b) j) : Int) else s.tie (ge (s.ring b) j)) = if ofs (s.ring b).length a j ≤ i then apTie (s.joints b) (s.ring b).length a (s.tie b) j else s.tie (ge (s.ring b) j) := fun i j j0 j1 => by
      rw [idx_ge r.nd j0 j1]
      have : ge (s.ring b) j ∈ s.ring b := ge_mem j0 j1
      by_cases z : ofs (s.ring b).length a j ≤ i
      · rw [if_pos ⟨this, z⟩, if_pos z]
      · rw [if_neg (fun q => z q.2), if_neg z]
    refine Y.bind (Y.foldR (I := fun i w' => Rel w' { s with tie := fun c => if c ∈ s.ring b ∧ ofs (s.ring b).length a ((s.ring b).idxOf c : Int) ≤ 2 * i then apTie (s.joints b) (s.ring b).length a (s.tie b) ((s.ring b).idxOf c : Int) else s.tie c }) ?_ fun i w' hi R' => ?_) fun w1 R1 => ?_
    · refine ⟨R.size, R.ins, R.pri, R.rin, R.joi, (R.tie.up ga.1 ga.2 _).congr fun c c0 c1 => ?_, R.mar, R.way, R.out⟩
      show Bl.upd s.tie (ge (s.ring b) a) (s.tie b) c = if c ∈ s.ring b ∧ ofs (s.ring b).length a ((s.ring b).idxOf c : Int) ≤ 2 * ((0 : Nat) : Int) then apTie (s.joints b) (s.ring b).length a (s.tie b) ((s.ring b).idxOf c : Int) else s.tie c
      by_cases hc : c ∈ s.ring b
      · obtain ⟨j, j0, j1, rfl⟩ := mem_ge.mp hc
        rw [fi _ j j0 j1]
        by_cases ej : j = a
        · subst ej
          have z : ofs (s.ring b).length j j = 0 := by unfold ofs; rw [if_pos (Int.le_refl _)]; omega
          rw [Bl.upd_same, if_pos (by omega)]
          unfold apTie
          rw [if_pos z]
        · have z : 0 < ofs (s.ring b).length a j := by unfold ofs; split <;> omega
          rw [Bl.upd_ne (fun e => ej (nodup_ge r.nd j0 j1 a0 a1 e)), if_neg (by omega)]
      · rw [if_neg (fun z => hc z.1), Bl.upd_ne fun e => hc (by rw [e]; exact ge_mem a0 a1)]
    · -- one step
      have hm : (0 : Int) < (s.ring b).length := by omega
      have key : ∃ k kk : Int, 0 ≤ k ∧ k < (s.ring b).length ∧ 0 ≤ kk ∧ kk < (s.ring b).length ∧ (a + (1 + (i : Nat) * 2)) % ((s.ring b).length : Int) = k ∧ (k + 1) % ((s.ring b).length : Int) = kk ∧ ofs (s.ring b).length a k = 2 * i + 1 ∧ ofs (s.ring b).length a kk = 2 * i + 2 ∧ pv (s.ring b).length kk = k := by
        have md : ∀ x : Int, 0 ≤ x → x < 2 * (s.ring b).length → x % ((s.ring b).length : Int) = if x < (s.ring b).length then x else x - (s.ring b).length := fun x x0 x1 => by
          split
          · rename_i z; exact Int.emod_eq_of_lt x0 z
          · rename_i z
            have := Int.emod_eq_of_lt (a := x - (s.ring b).length) (b := (s.ring b).length) (by omega) (by omega)
            rw [Int.sub_emod_right] at this; exact this
        have e1 := md (a + (1 + (i : Nat) * 2)) (by omega) (by omega)
        have k0 : 0 ≤ (a + (1 + (i : Nat) * 2)) % ((s.ring b).length : Int) := Int.emod_nonneg _ (by omega)
        have k1 : (a + (1 + (i : Nat) * 2)) % ((s.ring b).length : Int) < (s.ring b).length := Int.emod_lt_of_pos _ hm
        refine ⟨_, _, k0, k1, Int.emod_nonneg _ (by omega), Int.emod_lt_of_pos _ hm, rfl, rfl, ?_, ?_, ?_⟩
        · rw [e1]; unfold ofs; split <;> split <;> omega
        · rw [md _ (by omega) (by omega), e1]; unfold ofs; split <;> split <;> split <;> omega
        · rw [md _ (by omega) (by omega), e1]; unfold pv; split <;> split <;> split <;> omega
      obtain ⟨k, kk, k0, k1, l0, l1, ek, ekk, ok, okk, epv⟩ := key
      have mod : modM (a + (1 + (i : Nat) * 2)) ((s.ring b).length : Int) = some k := by unfold modM; rw [if_pos hm, ek]
      have modk : modM (k + 1) ((s.ring b).length : Int) = some kk := by unfold modM; rw [if_pos hm, ekk]
      have gk := gr k k0 k1
      have gkk := gr kk l0 l1
      rw [mod, bs, atI_ge k0 (by rw [rl]; exact k1)]
      simp only [bs, Option.map_some]
      rw [atI_ge k0 k1, bs, R'.tie.st gk.1 gk.2, bs, modk]
      simp only [bs]
      rw [atI_ge l0 l1, bs, (R'.tie.up gk.1 gk.2 _).st gkk.1 gkk.2, bs]
      refine ⟨_, rfl, R'.size, R'.ins, R'.pri, R'.rin, R'.joi, ((R'.tie.up gk.1 gk.2 _).up gkk.1 gkk.2 _).congr fun c c0 c1 => ?_, R'.mar, R'.way, R'.out⟩
      show Bl.upd (Bl.upd (fun c => if c ∈ s.ring b ∧ ofs (s.ring b).length a ((s.ring b).idxOf c : Int) ≤ 2 * (i : Int) then apTie (s.joints b) (s.ring b).length a (s.tie b) ((s.ring b).idxOf c : Int) else s.tie c) (ge (s.ring b) k) (some (ge (s.joints b) k))) (ge (s.ring b) kk) (some ((ge (s.joints b) k).2, (ge (s.joints b) k).1)) c = if c ∈ s.ring b ∧ ofs (s.ring b).length a ((s.ring b).idxOf c : Int) ≤ 2 * ((i + 1 : Nat) : Int) then apTie (s.joints b) (s.ring b).length a (s.tie b) ((s.ring b).idxOf c : Int) else s.tie c
      by_cases hc : c ∈ s.ring b
      · obtain ⟨j, j0, j1, rfl⟩ := mem_ge.mp hc
        rw [fi _ j j0 j1]
        by_cases e2 : j = kk
        · subst e2
          rw [Bl.upd_same, if_pos (by rw [okk]; omega)]
          unfold apTie
          rw [okk, if_neg (by omega), if_neg (by omega), epv]; rfl
        · rw [Bl.upd_ne fun e => e2 (nodup_ge r.nd j0 j1 l0 l1 e)]
          by_cases e1 : j = k
          · subst e1
            rw [Bl.upd_same, if_pos (by rw [ok]; omega)]
            unfold apTie
            rw [ok, if_neg (by omega), if_pos (by omega)]
          · rw [Bl.upd_ne fun e => e1 (nodup_ge r.nd j0 j1 k0 k1 e)]
            show (if ge (s.ring b) j ∈ s.ring b ∧ _ then _ else _) = _
            rw [fi _ j j0 j1]
            have n1 : ofs (s.ring b).length a j ≠ 2 * i + 1 := fun z => e1 (by unfold ofs at z ok; split at z <;> split at ok <;> omega)
            have n2 : ofs (s.ring b).length a j ≠ 2 * i + 2 := fun z => e2 (by unfold ofs at z okk; split at z <;> split at okk <;> omega)
            by_cases z : ofs (s.ring b).length a j ≤ 2 * (i : Int)
            · rw [if_pos z, if_pos (by omega)]
            · rw [if_neg z, if_neg (by omega)]
      · rw [if_neg (fun z => hc z.1), Bl.upd_ne fun e => hc (by rw [e]; exact ge_mem l0 l1), Bl.upd_ne fun e => hc (by rw [e]; exact ge_mem k0 k1)]
        show (if c ∈ s.ring b ∧ _ then _ else _) = _
        rw [if_neg (fun z => hc z.1)]
    · -- marks, ways, places
      have R1t : LF w1.tie s.nb (apart s b a).tie := R1.tie.congr fun c c0 c1 => by
        show (if c ∈ s.ring b ∧ ofs (s.ring b).length a ((s.ring b).idxOf c : Int) ≤ 2 * (N : Int) then apTie (s.joints b) (s.ring b).length a (s.tie b) ((s.ring b).idxOf c : Int) else s.tie c) = if c ∈ s.ring b then apTie (s.joints b) (s.ring b).length a (s.tie b) ((s.ring b).idxOf c : Int) else s.tie c
        by_cases hc : c ∈ s.ring b
        · have hx : (s.ring b).idxOf c < (s.ring b).length := List.idxOf_lt_length_of_mem hc
          rw [if_pos hc, if_pos ⟨hc, by unfold ofs; split <;> omega⟩]
        · rw [if_neg hc, if_neg fun z => hc z.1]
      refine Y.bind (Y.fold (I := fun pre (w' : C_Web) => ∃ mk wy o', w' = C_Web.mk w1.size w1.inside w1.price w1.ring w1.joints w1.tie mk wy o' ∧ LF mk s.nb (fun c => if c ∈ pre then 0 else s.mark c) ∧ LF wy s.nb (fun c => if c ∈ pre then none else s.way c) ∧ LF o' s.n (fun p => (pre.find? fun c => decide (p ∈ s.ins c)).getD (s.outer p))) ⟨_, _, _, rfl, R1.mar.congr fun c _ _ => by simp, R1.way.congr fun c _ _ => by simp, R1.out⟩ fun pre c post w' e hw => ?_) fun w2 hw => ?_
      · obtain ⟨mk, wy, o', rfl, lm, lw, lo⟩ := hw
        have hc : c ∈ s.ring b := by rw [e]; simp
        obtain ⟨c0, c1⟩ := rg c hc
        have cb : c ≠ b := by have := (r.parts c hc).2.1; omega
        rw [lm.st c0 c1, bs, lw.st c0 c1, bs]
        have li : LF w1.inside s.nb s.ins := R1.ins
        rw [li.at_ c0 c1, bs]
        refine Y.bind (Y.fold (I := fun pre2 (w' : C_Web) => ∃ o2, w' = C_Web.mk w1.size w1.inside w1.price w1.ring w1.joints w1.tie (M.up mk c 0) (M.up wy c none) o2 ∧ LF o2 s.n (fun p => if p ∈ pre2 then c else (pre.find? fun c => decide (p ∈ s.ins c)).getD (s.outer p))) ⟨o', rfl, lo.congr fun p _ _ => by simp⟩ fun pre2 p post2 w' e2 hw => ?_) fun w2 hw => ?_
        · obtain ⟨o2, rfl, lo2⟩ := hw
          have hp : p ∈ s.ins c := by rw [e2]; simp
          obtain ⟨p0, p1, _⟩ := h.mem c p c0 c1 hp
          show Y ((stM o2 p c).bind fun outer => _) _
          rw [lo2.st p0 p1, bs]
          refine ⟨_, rfl, _, rfl, (lo2.up p0 p1 _).congr fun q q0 q1 => ?_⟩
          unfold Bl.upd
          by_cases eq : q = p
          · rw [if_pos eq, if_pos (by rw [eq]; simp)]
          · rw [if_neg eq]
            show (if q ∈ pre2 then c else _) = _
            by_cases hq : q ∈ pre2
            · rw [if_pos hq, if_pos (List.mem_append_left _ hq)]
            · rw [if_neg hq, if_neg (by simp [hq, eq])]
        · obtain ⟨o2, rfl, lo2⟩ := hw
          refine ⟨_, rfl, _, _, _, rfl, (lm.up c0 c1 0).congr fun d _ _ => ?_, (lw.up c0 c1 none).congr fun d _ _ => ?_, lo2.congr fun p p0 p1 => ?_⟩
          · unfold Bl.upd
            by_cases ed : d = c
            · rw [if_pos ed, if_pos (by rw [ed]; simp)]
            · rw [if_neg ed]
              show (if d ∈ pre then 0 else s.mark d) = _
              by_cases hd : d ∈ pre
              · rw [if_pos hd, if_pos (List.mem_append_left _ hd)]
              · rw [if_neg hd, if_neg (by simp [hd, ed])]
          · unfold Bl.upd
            by_cases ed : d = c
            · rw [if_pos ed, if_pos (by rw [ed]; simp)]
            · rw [if_neg ed]
              show (if d ∈ pre then none else s.way d) = _
              by_cases hd : d ∈ pre
              · rw [if_pos hd, if_pos (List.mem_append_left _ hd)]
              · rw [if_neg hd, if_neg (by simp [hd, ed])]
          · rw [List.find?_append]
            by_cases hp : p ∈ s.ins c
            · rw [if_pos hp]
              have : pre.find? (fun c => decide (p ∈ s.ins c)) = none := List.find?_eq_none.mpr fun d hd hd2 => by
                have hd' : d ∈ s.ring b := by rw [e]; exact List.mem_append_left _ hd
                have ecd := r.dis (h.nd b b0 b1) hd' hc (of_decide_eq_true hd2) hp
                subst ecd
                have nd := r.nd
                rw [e, List.nodup_append] at nd
                exact nd.2.2 d hd d (by simp) rfl
              rw [this]
              simp [hp]
            · rw [if_neg hp]
              have : ([c].find? fun c => decide (p ∈ s.ins c)) = none := by simp [hp]
              rw [this]
              cases pre.find? (fun c => decide (p ∈ s.ins c)) <;> rfl
      · obtain ⟨mk, wy, o', rfl, lm, lw, lo⟩ := hw
        have l1 : LF w1.inside s.nb s.ins := R1.ins
        have l2 : LF w1.ring s.nb s.ring := R1.rin
        have l3 : LF w1.joints s.nb s.joints := R1.joi
        have l4 : LF w1.price s.nb s.price := R1.pri
        rw [l1.st b0 b1, bs, l2.st b0 b1, bs, l3.st b0 b1, bs, l4.st b0 b1, bs]
        exact ⟨_, rfl, R1.size, l1.up b0 b1 _, l4.up b0 b1 _, l2.up b0 b1 _, l3.up b0 b1 _, R1t, lm, lw, lo⟩
end
end T
/-! X4: webs loosened, pairs told -/
namespace T
open M Bl
open L2 (atI)
theorem poL_snoc {α : Type} {P : List α} {a : α} : poL (P ++ [a]) = some (a, P) := by
  unfold poL; simp
theorem fm_ge {f : Int → List Int} : ∀ {l : List Int}, (∀ c ∈ l, f c ≠ []) → l.length ≤ (l.flatMap f).length
  | [], _ => Nat.le_refl _
  | c :: l, h => by
    have := fm_ge (f := f) (l := l) fun d hd => h d (List.mem_cons_of_mem _ hd)
    have := List.length_pos_iff.mpr (h c List.mem_cons_self)
    rw [List.flatMap_cons, List.length_append, List.length_cons]; omega
section
variable {J : Int → Int → Prop} {w : C_Web} {s : St} {r : Int → Nat}
theorem y_loosen (R : Rel w s) (h : Str J s) (k : Pr J s) (sy : ∀ x y, J x y → J y x) (hn : s.n ≤ 1000000) (hb : s.nb ≤ 4000000) (all : Bool) (P : St → Prop) (hP : P s)
    (step : ∀ (s' : St) (b a : Int), Str J s' → Pr J s' → P s' → s'.n = s.n → s'.nb = s.nb → s'.out b → s'.ring b ≠ [] → (all = true ∨ s'.price b = 0) → 0 ≤ a → a < (s'.ring b).length → (∀ x y, s'.tie b = some (x, y) → x ∈ s'.ins (ge (s'.ring b) a)) → P (apart s' b a)) :
    Y (m_Web__loosen w all) fun w' => ∃ s', Rel w' s' ∧ Str J s' ∧ Pr J s' ∧ lc s' = lc s ∧ s'.n = s.n ∧ s'.nb = s.nb ∧ P s' ∧ ∀ b, s'.out b → s'.ring b ≠ [] → all = false ∧ s'.price b ≠ 0 := by
  unfold m_Web__loosen
  refine Y.bind (y_outermost R hn) fun todo hto => ?_
  refine Y.bind (Y.whileM (I := fun (o : List Int × C_Web) => ∃ s', Rel o.2 s' ∧ Str J s' ∧ Pr J s' ∧ lc s' = lc s ∧ s'.n = s.n ∧ s'.nb = s.nb ∧ P s' ∧ o.1.Nodup ∧ (∀ b ∈ o.1, s'.out b) ∧ (∀ b, s'.out b → s'.ring b ≠ [] → (all = true ∨ s'.price b = 0) → b ∈ o.1))
    (μ := fun o => 2 * (o.1.flatMap fun b => ge o.2.inside b).length - o.1.length) (Q := fun o => ∃ s', Rel o.2 s' ∧ Str J s' ∧ Pr J s' ∧ lc s' = lc s ∧ s'.n = s.n ∧ s'.nb = s.nb ∧ P s' ∧ ∀ b, s'.out b → s'.ring b ≠ [] → all = false ∧ s'.price b ≠ 0)
    ⟨s, R, h, k, rfl, rfl, rfl, hP, hto.1, fun b hb => (hto.2 b).mp hb, fun b ob _ _ => (hto.2 b).mpr ob⟩ fun o ho => ?_) fun o ho => ⟨o.2, rfl, ho⟩
  obtain ⟨todo, w'⟩ := o
  obtain ⟨s', R', h', k', elc, en, enb, hP', nd, ho1, ho2⟩ := ho
  by_cases ht : todo = []
  · refine ⟨false, by simp [ht, eqB], fun _ => ⟨s', R', h', k', elc, en, enb, hP', fun b ob hr => ?_⟩, fun z => by cases z⟩
    have hnm : ¬ (all = true ∨ s'.price b = 0) := fun z => by
      have := ho2 b ob hr z
      rw [ht] at this; cases this
    exact ⟨by cases all with
      | true => exact absurd (.inl rfl) hnm
      | false => rfl, fun z => hnm (.inr z)⟩
  · refine ⟨true, by simp [eqB, ht], (fun z => by cases z), fun _ => ?_⟩
    obtain ⟨T, b, rfl⟩ : ∃ T b, todo = T ++ [b] := ⟨_, _, (List.dropLast_concat_getLast ht).symm⟩
    have ob : s'.out b := ho1 b (by simp)
    obtain ⟨b0, b1⟩ := h'.out_rg ob
    have ndT := List.nodup_append.mp nd
    have nbT : ∀ c ∈ T, c ≠ b := fun c hc e => ndT.2.2 c hc b (by simp) e
    have hT : ∀ c ∈ T, s'.out c := fun c hc => ho1 c (List.mem_append_left _ hc)
    have gI : ∀ c, s'.out c → ge w'.inside c = s'.ins c := fun c oc => R'.ins.2 c (h'.out_rg oc).1 (h'.out_rg oc).2
    have fT : T.flatMap (fun c => ge w'.inside c) = T.flatMap s'.ins := fm_congr fun c hc => gI c (hT c hc)
    have szT := fm_ge (f := s'.ins) (l := T) fun c hc => h'.out_ne (hT c hc)
    have szb := List.length_pos_iff.mpr (h'.out_ne ob)
    have lT := path_len h' ndT.1 hT
    show Y ((poL (T ++ [b])).bind _) _
    rw [poL_snoc, bs]
    obtain ⟨v, ev, hv⟩ := y_is_ring R' b0 b1
    show Y (Option.bind (Option.bind (m_Web__is_ring w' b) _) _) _
    rw [ev, bs]
    have μ0 : 2 * ((T ++ [b]).flatMap fun c => ge w'.inside c).length - (T ++ [b]).length = 2 * ((T.flatMap s'.ins).length + (s'.ins b).length) - (T.length + 1) := by
      rw [List.flatMap_append, fT, List.flatMap_cons, List.flatMap_nil, List.append_nil, List.length_append, List.length_append, List.length_singleton, gI b ob]
    -- it stays
    have stays : ¬ (s'.ring b ≠ [] ∧ (all = true ∨ s'.price b = 0)) → Y (some (T, w')) fun o => (∃ s', Rel o.2 s' ∧ Str J s' ∧ Pr J s' ∧ lc s' = lc s ∧ s'.n = s.n ∧ s'.nb = s.nb ∧ P s' ∧ o.1.Nodup ∧ (∀ b ∈ o.1, s'.out b) ∧ (∀ b, s'.out b → s'.ring b ≠ [] → (all = true ∨ s'.price b = 0) → b ∈ o.1)) ∧ 2 * (o.1.flatMap fun b => ge o.2.inside b).length - o.1.length < 2 * ((T ++ [b]).flatMap fun c => ge w'.inside c).length - (T ++ [b]).length := fun hno => by
      refine ⟨_, rfl, ⟨s', R', h', k', elc, en, enb, hP', ndT.1, hT, fun c oc hr hc => ?_⟩, ?_⟩
      · rcases List.mem_append.mp (ho2 c oc hr hc) with z | z
        · exact z
        · rw [List.mem_singleton] at z
          rw [z] at hr hc
          exact absurd ⟨hr, hc⟩ hno
      · rw [μ0]
        show 2 * (T.flatMap fun c => ge w'.inside c).length - T.length < _
        rw [fT]; omega
    -- it is taken apart
    have goes : (s'.ring b ≠ [] ∧ (all = true ∨ s'.price b = 0)) → Y ((exM T (s'.ring b)).bind fun todo_2 => (m_Web__take_apart w' b).bind fun r7 => some (todo_2, r7)) fun o => (∃ s', Rel o.2 s' ∧ Str J s' ∧ Pr J s' ∧ lc s' = lc s ∧ s'.n = s.n ∧ s'.nb = s.nb ∧ P s' ∧ o.1.Nodup ∧ (∀ b ∈ o.1, s'.out b) ∧ (∀ b, s'.out b → s'.ring b ≠ [] → (all = true ∨ s'.price b = 0) → b ∈ o.1)) ∧ 2 * (o.1.flatMap fun b => ge o.2.inside b).length - o.1.length < 2 * ((T ++ [b]).flatMap fun c => ge w'.inside c).length - (T ++ [b]).length := fun ⟨hr, hc⟩ => by
      obtain ⟨bn, rk⟩ := h'.rok b b0 b1 hr
      have lr : (s'.ring b).length ≤ s'.nb.toNat := by
        have := nodup_len rk.nd (ys := rngL 0 s'.nb) fun c hc => rngL_mem.mpr (by have := rk.parts c hc; omega)
        rw [rngL_len] at this; omega
      rw [exM_some (by omega), bs]
      obtain ⟨w2, e2, a, a0, a1, aT, R2⟩ := y_take_apart R' h' (by omega) (by omega) ob hr fun x y e => (k'.pr b x y ob e).1
      rw [e2, bs]
      have np : ∀ c, s'.out c → c ∉ s'.ring b := fun c oc hc => h'.out_part oc b0 b1 hc
      have out2 := fun c => ap_out (a := a) h' ob hr (c := c)
      have nb2 : ∀ c ∈ s'.ring b, c ≠ b := fun c hc e => by have := (rk.parts c hc).2.1; omega
      refine ⟨_, rfl, ⟨apart s' b a, R2, ap_str h' ob hr, ap_pr h' k' sy ob hr a0 a1 aT, by rw [ap_lc h' ob hr a0 a1]; exact elc, en, enb, step s' b a h' k' hP' en enb ob hr hc a0 a1 aT, ?_, fun c hc' => ?_, fun c oc hr' hc' => ?_⟩, ?_⟩
      · exact List.nodup_append.mpr ⟨ndT.1, rk.nd, fun x hx y hy e => np x (hT x hx) (by rw [e]; exact hy)⟩
      · rcases List.mem_append.mp hc' with z | z
        · exact (out2 c).mpr (.inr ⟨hT c z, nbT c z⟩)
        · exact (out2 c).mpr (.inl z)
      · rcases (out2 c).mp oc with z | ⟨oc', ne⟩
        · exact List.mem_append_right _ z
        · have e1 : (apart s' b a).ring c = s'.ring c := upd_ne ne
          have e2 : (apart s' b a).price c = s'.price c := upd_ne ne
          rw [e1] at hr'
          rw [e2] at hc'
          rcases List.mem_append.mp (ho2 c oc' hr' hc') with z | z
          · exact List.mem_append_left _ z
          · rw [List.mem_singleton] at z; exact absurd z ne
      · rw [μ0]
        have g2 : ∀ c, (apart s' b a).out c → c ≠ b → ge w2.inside c = s'.ins c := fun c oc ne => by
          have rg := (ap_str (a := a) h' ob hr).out_rg oc
          rw [R2.ins.2 c rg.1 rg.2]
          exact upd_ne ne
        show 2 * ((T ++ s'.ring b).flatMap fun c => ge w2.inside c).length - (T ++ s'.ring b).length < _
        have e1 : T.flatMap (fun c => ge w2.inside c) = T.flatMap s'.ins := fm_congr fun c hc => g2 c ((out2 c).mpr (.inr ⟨hT c hc, nbT c hc⟩)) (nbT c hc)
        have e2 : (s'.ring b).flatMap (fun c => ge w2.inside c) = (s'.ring b).flatMap s'.ins := fm_congr fun c hc => g2 c ((out2 c).mpr (.inl hc)) (nb2 c hc)
        rw [List.flatMap_append, e1, e2, ← rk.flat, List.length_append, List.length_append]
        have := rk.three
        omega
    cases v with
    | false =>
      have : ¬ s'.ring b ≠ [] := fun z => by have := hv.mpr z; cases this
      rw [if_neg (by decide), bs, if_neg (by decide), bs]
      exact stays fun z => this z.1
    | true =>
      have hr := hv.mp rfl
      rw [if_pos rfl, bs]
      cases all with
      | true =>
        rw [if_pos rfl, bs, if_pos rfl, R'.rin.at_ b0 b1, bs]
        have := goes ⟨hr, .inl rfl⟩
        obtain ⟨o, eo, ho⟩ := this
        rw [eo, bs]
        exact ⟨_, rfl, ho⟩
      | false =>
        rw [if_neg (by decide), R'.pri.at_ b0 b1]
        simp only [bs]
        by_cases hp : s'.price b = 0
        · rw [if_pos (decide_eq_true hp), R'.rin.at_ b0 b1, bs]
          obtain ⟨o, eo, ho⟩ := goes ⟨hr, .inr hp⟩
          rw [eo, bs]
          exact ⟨_, rfl, ho⟩
        · rw [if_neg (by simpa using hp), bs]
          exact stays fun z => z.2.elim (fun q => by cases q) hp
theorem flt_split {p : Int → Bool} : ∀ l : List Int, l.length = (l.filter p).length + (l.filter fun x => !p x).length
  | [] => rfl
  | x :: l => by
    have := flt_split (p := p) l
    rw [List.filter_cons, List.filter_cons]
    cases hx : p x <;> simp <;> omega
def prsF (s : St) (p : Int) : Option (Int × Int) := (s.tie p).bind fun j => if j.1 < j.2 then some j else none
def prs (s : St) : List (Int × Int) := (rngL 0 s.n).filterMap (prsF s)
/-- all bodies are places -/
def Flat (s : St) : Prop := ∀ b, s.out b → b < s.n
theorem flat_of (h : Str J s) (hr : ∀ b, s.out b → s.ring b = []) : Flat s := fun b ob => by
  refine Classical.byContradiction fun hn => ?_
  obtain ⟨b0, b1⟩ := h.out_rg ob
  exact h.out_ne ob (h.dead b (by omega) b1 (hr b ob)).1
theorem flat_outer (h : Str J s) (hf : Flat s) {p : Int} (p0 : 0 ≤ p) (p1 : p < s.n) : s.outer p = p := by
  have op := h.out_of p0 p1
  have := (h.out p p0 p1).2.2
  rw [(h.base _ (h.out_rg op).1 (hf _ op)).1] at this
  exact (List.mem_singleton.mp this).symm
theorem flat_tie (h : Str J s) (k : Pr J s) (hf : Flat s) {p x y : Int} (p0 : 0 ≤ p) (p1 : p < s.n) (e : s.tie p = some (x, y)) : x = p ∧ 0 ≤ y ∧ y < s.n ∧ J p y ∧ y ≠ p ∧ s.tie y = some (y, p) := by
  have ep := flat_outer h hf p0 p1
  have op := h.out_of p0 p1
  rw [ep] at op
  obtain ⟨q1, q2, q3, q4, q5, q6⟩ := k.pr p x y op e
  have ey := flat_outer h hf q2 q3
  rw [(h.base p p0 p1).1] at q1
  have ex := List.mem_singleton.mp q1
  subst ex
  rw [ey] at q5 q6
  exact ⟨rfl, q2, q3, q4, q5, q6⟩
theorem mem_prs (h : Str J s) (k : Pr J s) (hf : Flat s) {x y : Int} : (x, y) ∈ prs s ↔ 0 ≤ x ∧ x < s.n ∧ s.tie x = some (x, y) ∧ x < y := by
  unfold prs prsF
  rw [List.mem_filterMap]
  constructor
  · rintro ⟨p, hp, e⟩
    obtain ⟨p0, p1⟩ := rngL_mem.mp hp
    cases ht : s.tie p with
    | none => rw [ht] at e; cases e
    | some j =>
      obtain ⟨x', y'⟩ := j
      rw [ht, bs] at e
      split at e
      · rename_i hlt
        cases e
        have := (flat_tie h k hf p0 p1 ht).1
        subst this
        exact ⟨p0, p1, ht, hlt⟩
      · cases e
  · rintro ⟨x0, x1, e, hlt⟩
    refine ⟨x, rngL_mem.mpr ⟨x0, x1⟩, ?_⟩
    rw [e, bs, if_pos hlt]
theorem prs_sorted (h : Str J s) (k : Pr J s) (hf : Flat s) : (prs s).Pairwise fun e f => e.1 < f.1 := by
  unfold prs
  rw [List.pairwise_filterMap]
  refine List.Pairwise.imp_of_mem ?_ (rngL_lt (a := 0) (b := s.n))
  intro p q hp hq hlt e he f hf'
  obtain ⟨p0, p1⟩ := rngL_mem.mp hp
  obtain ⟨q0, q1⟩ := rngL_mem.mp hq
  have key : ∀ {p : Int} {e : Int × Int}, 0 ≤ p → p < s.n → prsF s p = some e → e.1 = p := fun {p e} p0 p1 he => by
    unfold prsF at he
    cases ht : s.tie p with
    | none => rw [ht] at he; cases he
    | some j =>
      obtain ⟨x', y'⟩ := j
      rw [ht, bs] at he
      split at he
      · cases he
        exact (flat_tie h k hf p0 p1 ht).1
      · cases he
  rw [key p0 p1 he, key q0 q1 hf']; exact hlt
theorem prs_nodup (h : Str J s) (k : Pr J s) (hf : Flat s) : (ends (prs s)).Nodup := by
  unfold ends
  rw [List.nodup_iff_pairwise_ne, List.pairwise_flatMap]
  refine ⟨fun e he => ?_, List.Pairwise.imp_of_mem ?_ (prs_sorted h k hf)⟩
  · obtain ⟨x, y⟩ := e
    have := (mem_prs h k hf).mp he
    simp; omega
  · rintro ⟨x, y⟩ ⟨x', y'⟩ he hf' hlt a ha b hb e
    have hlt : x < x' := hlt
    obtain ⟨x0, x1, e1, l1⟩ := (mem_prs h k hf).mp he
    obtain ⟨z0, z1, e2, l2⟩ := (mem_prs h k hf).mp hf'
    have t1 := (flat_tie h k hf x0 x1 e1).2.2.2.2.2
    have t2 := (flat_tie h k hf z0 z1 e2).2.2.2.2.2
    simp at ha hb
    subst e
    rcases ha with rfl | rfl
    · rcases hb with rfl | rfl
      · omega
      · rw [e1] at t2; cases t2; omega
    · rcases hb with rfl | rfl
      · rw [e2] at t1; cases t1; omega
      · rw [t1] at t2; cases t2; omega
theorem prs_len (h : Str J s) (k : Pr J s) (hf : Flat s) : 2 * ((prs s).length : Int) = s.n - lc s := by
  classical
  have n0 := h.n0
  have nb := h.nb
  have e1 : 2 * (prs s).length = ((rngL 0 s.n).filter fun p => decide (s.tie p ≠ none)).length := by
    rw [← ends_len]
    refine nodup_len_eq (prs_nodup h k hf) (rngL_nodup.filter _) fun p => ?_
    rw [List.mem_filter, rngL_mem, decide_eq_true_eq]
    unfold ends
    rw [List.mem_flatMap]
    constructor
    · rintro ⟨⟨x, y⟩, he, hp⟩
      obtain ⟨x0, x1, e1, l1⟩ := (mem_prs h k hf).mp he
      have t1 := (flat_tie h k hf x0 x1 e1)
      simp at hp
      rcases hp with rfl | rfl
      · exact ⟨⟨x0, x1⟩, by rw [e1]; simp⟩
      · exact ⟨⟨t1.2.1, t1.2.2.1⟩, by rw [t1.2.2.2.2.2]; simp⟩
    · rintro ⟨⟨p0, p1⟩, ht⟩
      cases e : s.tie p with
      | none => exact absurd e ht
      | some j =>
        obtain ⟨x, y⟩ := j
        have t1 := flat_tie h k hf p0 p1 e
        have ex := t1.1
        subst ex
        by_cases hl : x < y
        · exact ⟨(x, y), (mem_prs h k hf).mpr ⟨p0, p1, e, hl⟩, by simp⟩
        · refine ⟨(y, x), (mem_prs h k hf).mpr ⟨t1.2.1, t1.2.2.1, t1.2.2.2.2.2, by have := t1.2.2.2.2.1; omega⟩, by simp⟩
  have e2 : lc s = (((rngL 0 s.n).filter fun p => !decide (s.tie p ≠ none)).length : Int) := by
    unfold lc
    rw [← filter_len (p := fun b => lone s b)]
    refine congrArg Int.ofNat (nodup_len_eq (rngL_nodup.filter _) (rngL_nodup.filter _) fun p => ?_)
    rw [List.mem_filter, List.mem_filter, rngL_mem, rngL_mem, decide_eq_true_eq]
    constructor
    · rintro ⟨_, o, t⟩
      exact ⟨⟨(h.out_rg o).1, hf p o⟩, by simp [t]⟩
    · rintro ⟨⟨p0, p1⟩, t⟩
      have op := h.out_of p0 p1
      rw [flat_outer h hf p0 p1] at op
      exact ⟨⟨p0, by omega⟩, op, by simpa using t⟩
  have e3 := flt_split (p := fun p => decide (s.tie p ≠ none)) (rngL 0 s.n)
  rw [rngL_len] at e3
  omega
theorem y_pairs (R : Rel w s) (h : Str J s) (k : Pr J s) (sy : ∀ x y, J x y → J y x) (hn : s.n ≤ 1000000) (hb : s.nb ≤ 4000000) (P : St → Prop) (hP : P s)
    (step : ∀ (s' : St) (b a : Int), Str J s' → Pr J s' → P s' → s'.n = s.n → s'.nb = s.nb → s'.out b → s'.ring b ≠ [] → 0 ≤ a → a < (s'.ring b).length → (∀ x y, s'.tie b = some (x, y) → x ∈ s'.ins (ge (s'.ring b) a)) → P (apart s' b a)) :
    Y (m_Web__pairs w) fun o => ∃ s', Rel o.1 s' ∧ Str J s' ∧ Pr J s' ∧ lc s' = lc s ∧ s'.n = s.n ∧ P s' ∧ Flat s' ∧ o.2 = (prs s').map some := by
  unfold m_Web__pairs
  refine Y.bind (y_loosen R h k sy hn hb true P hP fun s' b a a1 a2 a3 a4 a5 a6 a7 _ a8 a9 a10 => step s' b a a1 a2 a3 a4 a5 a6 a7 a8 a9 a10) fun w' hw => ?_
  obtain ⟨s', R', h', k', elc, en, enb, hP', hr⟩ := hw
  have hr : ∀ b, s'.out b → s'.ring b = [] := fun b ob => Classical.byContradiction fun z => by have := (hr b ob z).1; cases this
  have hf := flat_of h' hr
  have sz := R'.size
  have nn := h'.n0
  have nbb := h'.nb
  rw [bs, rngM_some, bs]
  rw [sz]
  refine Y.bind (Y.fold (I := fun pre found => found = (pre.filterMap (prsF s')).map some) rfl fun pre p post found e hfo => ?_) fun found hfo => ⟨_, rfl, s', R', h', k', elc, en, hP', hf, hfo⟩
  subst hfo
  obtain ⟨p0, p1⟩ := rngL_mem.mp (by rw [e]; simp : p ∈ rngL 0 s'.n)
  have hlen : pre.length ≤ 1000000 := by
    have := congrArg List.length e
    rw [rngL_len, List.length_append] at this; omega
  rw [R'.tie.at_ p0 (by omega), bs]
  have fl : ((pre.filterMap (prsF s')).map some).length < 16777216 := by
    have := List.length_filterMap_le (prsF s') pre
    rw [List.length_map]; omega
  rw [List.filterMap_append, List.map_append]
  cases ht : s'.tie p with
  | none =>
    have ep : prsF s' p = none := by unfold prsF; rw [ht]; rfl
    simp only [bs, Option.isSome_none, Bool.false_eq_true, if_false]
    refine ⟨_, rfl, ?_⟩
    simp [ep]
  | some j =>
    obtain ⟨x, y⟩ := j
    have ep : prsF s' p = if x < y then some (x, y) else none := by unfold prsF; rw [ht]; rfl
    simp only [bs, Option.isSome_some, if_true]
    by_cases hl : x < y
    · rw [if_pos (decide_eq_true hl), apM_some fl, bs, bs]
      refine ⟨_, rfl, ?_⟩
      simp [ep, hl]
    · rw [if_neg (by simpa using hl), bs]
      refine ⟨_, rfl, ?_⟩
      simp [ep, hl]
end
end T
/-! X5: the largest pairing -/
namespace T
open M Bl
open L2 (atI)
section
variable {w : C_Web} {s : St} {r : Int → Nat} {J : Int → Int → Prop} {links : List (Int × Int)}
def HelpP (s : St) (links : List (Int × Int)) : Option (Int × Int) → Prop
  | none => ∀ e ∈ links, ¬ helps s e.1 e.2 ∧ ¬ helps s e.2 e.1
  | some e => helps s e.1 e.2 ∧ Adj links e.1 e.2
theorem y_helpful (R : Rel w s) (h : Str J s) (hg : Good s.n links) : Y (m_helpful w links) (HelpP s links) := by
  unfold m_helpful
  refine Y.fin (Q := fun _ => ∀ e ∈ links, ¬ helps s e.1 e.2 ∧ ¬ helps s e.2 e.1) (C := HelpP s links) (Y.loop (I := fun pre _ => ∀ e ∈ pre, ¬ helps s e.1 e.2 ∧ ¬ helps s e.2 e.1) (fun e he => by cases he) (fun pre e post u eq hI => ?_) fun u hu => hu) (fun u hu => ⟨none, rfl, hu⟩) fun o ho => ho
  have he : e ∈ links := by rw [eq]; simp
  obtain ⟨a0, a1, c0, c1⟩ := hg e he
  obtain ⟨b1, e1, i1⟩ := y_helps R h a0 a1 c0 c1
  obtain ⟨b2, e2, i2⟩ := y_helps R h c0 c1 a0 a1
  rw [e1, bs]
  cases b1 with
  | true =>
    rw [if_pos rfl]
    exact ⟨_, rfl, i1.mp rfl, .inl he⟩
  | false =>
    rw [if_neg (by decide), e2, bs]
    cases b2 with
    | true =>
      rw [if_pos rfl]
      exact ⟨_, rfl, i2.mp rfl, .inr he⟩
    | false =>
      rw [if_neg (by decide)]
      refine ⟨_, rfl, fun f hf => ?_⟩
      rcases List.mem_append.mp hf with z | z
      · exact hI f z
      · rw [List.mem_singleton.mp z]
        exact ⟨fun z => (by have := i1.mpr z; cases this), fun z => (by have := i2.mpr z; cases this)⟩
/-- within a search: all but the even bodies are places -/
def Half (s : St) : Prop := ∀ b, s.out b → s.mark b ≠ 1 → b < s.n
theorem half_more (h : Str J s) (hf : Half s) {v y : Int} (ov : s.out (s.outer v)) (oy : s.out (s.outer y)) (mv : s.mark (s.outer v) = 0) (my : s.mark (s.outer y) = 0) (wy : Int → Option (Int × Int)) : Half { s with mark := Bl.upd (Bl.upd s.mark (s.outer v) 2) (s.outer y) 1, way := wy } := fun b ob mb => by
  have mb : Bl.upd (Bl.upd s.mark (s.outer v) 2) (s.outer y) 1 b ≠ 1 := mb
  by_cases e1 : b = s.outer y
  · rw [e1]; exact hf _ oy (by omega)
  · by_cases e2 : b = s.outer v
    · rw [e2]; exact hf _ ov (by omega)
    · rw [Bl.upd_ne e1, Bl.upd_ne e2] at mb
      exact hf b ob mb
theorem half_ring (hn : s.n ≤ s.nb) (h : Str J s) (hf : Half s) {l : List (Int × (Int × Int))} {t : Option (Int × Int)} : Half (together s l t) := fun b ob mb => by
  obtain ⟨p, p0, p1, e⟩ := ob
  have e : (if p ∈ (l.map (·.1)).flatMap s.ins then s.nb else s.outer p) = b := e
  have mb : Bl.upd s.mark s.nb 1 b ≠ 1 := mb
  by_cases eb : b = s.nb
  · rw [eb, Bl.upd_same] at mb; exact absurd rfl mb
  · rw [Bl.upd_ne eb] at mb
    split at e
    · exact absurd e.symm eb
    · exact hf b ⟨p, p0, p1, e⟩ mb
/-- what a search leaves -/
structure Seen (J : Int → Int → Prop) (s : St) (links : List (Int × Int)) (s' : St) (b : Bool) : Prop where
  str : Str J s'
  pr : Pr J s'
  n : s'.n = s.n
  nb : s'.nb ≤ s.nb + s.n
  yes : b = true → lc s' = lc s - 2
  no : b = false → lc s' = lc s ∧ (∃ r, Tr J s' r) ∧ Half s' ∧ HelpP s' links none
theorem y_searched (R : Rel w s) (h : Str (Adj links) s) (k : Pr (Adj links) s) (hf : Flat s) (hg : Good s.n links) (hn : s.n ≤ 1000000) (hb : s.nb + s.n ≤ 4000000) :
    Y (m_searched w links) fun o => ∃ s', Rel o.1 s' ∧ Seen (Adj links) s links s' o.2 := by
  have sy : ∀ x y, Adj links x y → Adj links y x := fun x y z => z.sym
  have n0 := h.n0
  have nn := h.nb
  unfold m_searched
  refine Y.bind (y_begin R h hn) fun w1 hw1 => ?_
  obtain ⟨l, hl1, hl2, R1⟩ := hw1
  have h1 : Str (Adj links) (begun s l) := h.tmw _ _ _
  have k1 : Pr (Adj links) (begun s l) := ⟨k.pr⟩
  have t1 : Tr (Adj links) (begun s l) fun _ => 0 := begun_tr hl2
  refine Y.bind (y_helpful R1 h1 hg) fun link hlink => ?_
  refine Y.fin (Q := fun o => ∃ s', Rel o.1 s' ∧ Seen (Adj links) s links s' false) (C := fun o : C_Web × Bool => ∃ s', Rel o.1 s' ∧ Seen (Adj links) s links s' o.2)
    (Y.whileS (I := fun (o : C_Web × Option (Int × Int)) => ∃ s', Rel o.1 s' ∧ Str (Adj links) s' ∧ Pr (Adj links) s' ∧ (∃ r, Tr (Adj links) s' r) ∧ lc s' = lc s ∧ s'.n = s.n ∧ Half s' ∧ s'.nb ≤ s.nb + Ev s' ∧ HelpP s' links o.2)
      (μ := fun o => (s.n - sumR s.n fun p => if ge o.1.mark (ge o.1.outer p) = 1 then 1 else 0).toNat) ?_ fun o ho => ?_) (fun o ho => ?_) fun o ho => ho
  · have lc1 : lc (begun s l) = lc s := rfl
    refine ⟨begun s l, R1, h1, k1, ⟨_, t1⟩, lc1, rfl, fun b ob _ => hf b ob, ?_, hlink⟩
    have := (Ev_rg (s := begun s l) n0).1
    show s.nb ≤ s.nb + _
    omega
  · obtain ⟨w', link⟩ := o
    obtain ⟨s', R', h', k', ⟨r', t'⟩, elc, en, hh, hnb, hl⟩ := ho
    have evr := Ev_rg (s := s') h'.n0
    have μe : ∀ (w2 : C_Web) (s2 : St), Rel w2 s2 → Str (Adj links) s2 → s2.n = s.n → (sumR s.n fun p => if ge w2.mark (ge w2.outer p) = 1 then 1 else 0) = Ev s2 := fun w2 s2 R2 h2 e2 => by
      unfold Ev
      rw [e2]
      refine sumR_congr fun p p0 p1 => ?_
      rw [R2.out.2 p p0 (by omega)]
      have := h2.out_rg (h2.out_of p0 (by omega : p < s2.n))
      rw [R2.mar.2 _ this.1 this.2]
    cases link with
    | none =>
      refine ⟨false, rfl, fun _ => ⟨s', R', h', k', en, by omega, (fun z => by cases z), fun _ => ⟨elc, ⟨r', t'⟩, hh, hl⟩⟩, fun z => by cases z⟩
    | some e =>
      obtain ⟨u, v⟩ := e
      obtain ⟨hel, hadj⟩ := hl
      have hel : helps s' u v := hel
      have hadj : Adj links u v := hadj
      have rg := hg.adj hadj
      rw [← en] at rg
      obtain ⟨u0, u1, v0, v1⟩ := rg
      refine ⟨true, rfl, (fun z => by cases z), fun _ => ?_⟩
      simp only [bs]
      obtain ⟨⟨w2, b⟩, e2, g⟩ := y_grow R' h' k' t' (by omega) (by omega) u0 u1 v0 v1 hel
      rw [e2, bs]
      have g : Grew w2 s' u v b := g
      have fin : ∀ (s2 : St), Rel w2 s2 → Str (Adj links) s2 → Pr (Adj links) s2 → (∃ r, Tr (Adj links) s2 r) → lc s2 = lc s → s2.n = s.n → Half s2 → s2.nb ≤ s.nb + Ev s2 → Ev s' + 1 ≤ Ev s2 →
          Y ((m_helpful w2 links).bind fun link_1 => some (Stp.go (R := C_Web × Bool) (w2, link_1))) (StP (fun o => (∃ s', Rel o.1 s' ∧ Str (Adj links) s' ∧ Pr (Adj links) s' ∧ (∃ r, Tr (Adj links) s' r) ∧ lc s' = lc s ∧ s'.n = s.n ∧ Half s' ∧ s'.nb ≤ s.nb + Ev s' ∧ HelpP s' links o.2) ∧ (s.n - sumR s.n fun p => if ge o.1.mark (ge o.1.outer p) = 1 then 1 else 0).toNat < (s.n - sumR s.n fun p => if ge w'.mark (ge w'.outer p) = 1 then 1 else 0).toNat) (fun o => ∃ s', Rel o.1 s' ∧ Seen (Adj links) s links s' false) fun o => ∃ s', Rel o.1 s' ∧ Seen (Adj links) s links s' o.2) := fun s2 R2 h2 k2 t2 l2 n2 hf2 nb2 ev2 => by
        refine Y.bind (y_helpful R2 h2 (by rw [n2]; exact hg)) fun link_1 hl1 => ⟨_, rfl, ⟨s2, R2, h2, k2, t2, l2, n2, hf2, nb2, hl1⟩, ?_⟩
        show (s.n - sumR s.n fun p => if ge w2.mark (ge w2.outer p) = 1 then 1 else 0).toNat < _
        rw [μe w2 s2 R2 h2 n2, μe w' s' R' h' en]
        have := Ev_rg (s := s2) h2.n0
        omega
      have mu := hel.2.1
      cases g with
      | more y x m0 e R2 =>
        rw [if_neg (fun z : false = true => by cases z)]
        obtain ⟨x', y', g1, g2, g3, g4, g5, g6, g7⟩ := grown h' k' t' u0 u1 v0 v1 hadj mu m0
        rw [e] at g1
        cases g1
        have ov := h'.out_of v0 v1
        have oy := h'.out_of g2 g3
        have ev : Ev s' + 1 ≤ Ev { s' with mark := Bl.upd (Bl.upd s'.mark (s'.outer v) 2) (s'.outer y) 1, way := Bl.upd s'.way (s'.outer v) (some (u, v)) } := Ev_lt rfl g6 g2 g3 (by omega) Bl.upd_same
        refine fin _ R2 (h'.tmw _ _ _) ⟨k'.pr⟩ g5 elc en (half_more h' hh ov oy m0 g4 _) ?_ ev
        show s'.nb ≤ _
        omega
      | ring A B D m M R2 =>
        rw [if_neg (fun z : false = true => by cases z)]
        have Q := ringed h' k' t' sy M u0 u1 v0 v1 hadj hel.1
        obtain ⟨q, q0, q1, q2, q3⟩ := Q.more
        have ev := Ev_lt (s := s') (s' := together s' (ringL s' u v A B m) (s'.tie m)) rfl Q.ev q0 q1 q2 q3
        refine fin _ R2 Q.str Q.pr Q.tr (by rw [Q.lc]; exact elc) en (half_ring h'.nb h' hh) ?_ ev
        show s'.nb + 1 ≤ _
        omega
      | pairs L1 L2 p1 p2 hd R2 =>
        rw [if_pos rfl]
        obtain ⟨j1, j2⟩ := joined h' k' sy t' u0 u1 v0 v1 hadj p1 p2 hd
        exact ⟨_, rfl, _, R2, h'.tmw _ _ _, j1, en, by show s'.nb ≤ _; omega, (fun _ => by rw [j2, elc]), fun z => by cases z⟩
  · obtain ⟨s', R', S⟩ := ho
    exact ⟨_, rfl, s', R', S⟩
def oddsL (s : St) : List Int := (rngL 0 s.n).filter fun p => decide (s.mark (s.outer p) = 2)
theorem y_odd_places (R : Rel w s) (h : Str J s) (hn : s.n ≤ 1000000) : m_odd_places w = some (oddsL s) := by
  unfold m_odd_places oddsL
  have n0 := h.n0
  rw [R.size, rngM_some, bs]
  rw [lcM_eq (p := fun p => decide (s.mark (s.outer p) = 2)) (f := fun p => p) (by rw [rngL_len]; omega) (fun p hp => ?_) (fun _ _ _ => rfl), List.map_id']
  obtain ⟨p0, p1⟩ := rngL_mem.mp hp
  have := h.out_rg (h.out_of p0 p1)
  simp only [bs]
  rw [R.out.at_ p0 p1]
  simp only [bs]
  rw [R.mar.at_ this.1 this.2]; rfl
/-- what is told of the largest pairing -/
structure Largest (n : Int) (links : List (Int × Int)) (P : List (Int × Int)) (out : List Int) : Prop where
  adj : ∀ e ∈ P, Adj links e.1 e.2 ∧ e.1 < e.2 ∧ 0 ≤ e.1 ∧ e.2 < n
  srt : P.Pairwise fun e f => e.1 < f.1
  nd : (ends P).Nodup
  rise : out.Pairwise (· < ·)
  rg : ∀ x ∈ out, 0 ≤ x ∧ x < n
  cert : ∀ (part : Int → Int) (K : List Int), Lab n (Adj links) out part → K.Nodup → (∀ l, l ∈ K ↔ ∃ p, 0 ≤ p ∧ p < n ∧ p ∉ out ∧ part p = l) → ((K.filter fun l => decide ((cls n out part l).length % 2 = 1)).length : Int) = out.length + n - 2 * P.length
theorem y_largest {n : Int} (n0 : 0 ≤ n) (n1 : n ≤ 1000) (hg : Good n links) : Y (m_largest n links) fun o => ∃ P, o.1 = P.map some ∧ Largest n links P o.2 := by
  have sy : ∀ x y, Adj links x y → Adj links y x := fun x y z => z.sym
  unfold m_largest
  refine Y.bind (y_new n0 (by omega)) fun w0 R0 => ?_
  refine Y.fin (Q := fun w' => ∃ s', Rel w' s' ∧ Str (Adj links) s' ∧ Pr (Adj links) s' ∧ (∃ r, Tr (Adj links) s' r) ∧ s'.n = n ∧ s'.nb ≤ 4000000 ∧ Half s' ∧ HelpP s' links none) (C := fun _ => True)
    (Y.whileN (I := fun m w' => ∃ s', Rel w' s' ∧ Str (Adj links) s' ∧ Pr (Adj links) s' ∧ s'.n = n ∧ Flat s' ∧ s'.nb ≤ n + 1000 * (n - lc s') ∧ lc s' = (m : Int)) ⟨n.toNat, ?_⟩ fun m w' hw => ?_) (fun w' hw => ?_) fun r => r.elim
  · refine ⟨initS n 0, R0, init_str n0, init_pr, rfl, fun b ob => ((init_str (J := Adj links) (p := 0) n0).out_rg ob).2, ?_, ?_⟩
    · rw [init_lc n0]
      show n ≤ _
      omega
    · rw [init_lc n0]; omega
  · obtain ⟨s', R', h', k', en, hf, hnb, elc⟩ := hw
    refine ⟨true, rfl, (fun z => by cases z), fun _ => ?_⟩
    obtain ⟨⟨w2, b⟩, e2, s2, R2, S⟩ := y_searched R' h' k' hf (by rw [en]; exact hg) (by omega) (by omega)
    rw [e2, bs]
    have R2 : Rel w2 s2 := R2
    have S : Seen (Adj links) s' links s2 b := S
    have nb2 := S.nb
    have n2 := S.n
    cases b with
    | false =>
      rw [if_neg (fun z : false = true => by cases z)]
      obtain ⟨l2, t2, h2, p2⟩ := S.no rfl
      exact ⟨_, rfl, s2, R2, S.str, S.pr, t2, by omega, by omega, h2, p2⟩
    | true =>
      rw [if_pos rfl]
      have l2 := S.yes rfl
      obtain ⟨w3, e3, s3, R3, h3, k3, l3, n3, nb3, _, hr⟩ := y_loosen R2 S.str S.pr sy (by omega) (by omega) true (fun _ => True) trivial fun _ _ _ _ _ _ _ _ _ _ _ _ _ _ => trivial
      rw [e3, bs]
      have hp := lc_nonneg (s := s3)
      refine ⟨_, rfl, (lc s3).toNat, by omega, s3, R3, h3, k3, by omega, flat_of h3 fun b ob => Classical.byContradiction fun z => (by have := (hr b ob z).1; cases this), by omega, by omega⟩
  · obtain ⟨s', R', h', k', ⟨r, t'⟩, en, hnb, hh, hp⟩ := hw
    rw [y_odd_places R' h' (by omega), bs]
    have mo : ∀ p, p ∈ oddsL s' ↔ 0 ≤ p ∧ p < s'.n ∧ s'.mark (s'.outer p) = 2 := fun p => by
      unfold oddsL
      rw [List.mem_filter, rngL_mem, decide_eq_true_eq, and_assoc]
    obtain ⟨o, e2, s2, R2, h2, k2, l2, n2, _, f2, ep⟩ := y_pairs R' h' k' sy (by omega) hnb (fun _ => True) trivial fun _ _ _ _ _ _ _ _ _ _ _ _ _ => trivial
    rw [e2, bs]
    refine ⟨_, rfl, prs s2, ep, ?_⟩
    refine ⟨fun e he => ?_, prs_sorted h2 k2 f2, prs_nodup h2 k2 f2, rngL_lt.filter _, fun x hx => ?_, fun part K L nK hK => ?_⟩
    · obtain ⟨x, y⟩ := e
      obtain ⟨x0, x1, e1, l1⟩ := (mem_prs h2 k2 f2).mp he
      have t1 := flat_tie h2 k2 f2 x0 x1 e1
      exact ⟨t1.2.2.2.1, l1, x0, by have := t1.2.2.1; show y < n; omega⟩
    · have := (mo x).mp hx
      rw [en] at this
      exact ⟨this.1, this.2.1⟩
    · have C : Cert s' (Adj links) (oddsL s') := ⟨mo, fun u v u0 u1 v0 v1 e z => by
        rcases e with e | e
        · exact (hp _ e).1 z
        · exact (hp _ e).2 z⟩
      have e1 := cert_eq h' k' t' C (fun _ _ z => z) (by rw [en]; exact L) (fun b ob mb => hh b ob (by omega)) nK (by rw [en]; exact hK)
      have e2 := even_count (O := oddsL s') h' k' t' (rngL_nodup.filter _) mo fun b ob mb => hh b ob (by omega)
      have e3 := prs_len h2 k2 f2
      rw [en] at e1
      show ((K.filter fun l => decide ((cls n (oddsL s') part l).length % 2 = 1)).length : Int) = (oddsL s').length + n - 2 * (prs s2).length
      rw [← e1]
      omega
end
end T
/-! W6: names of the parts, found link by link -/
namespace Bl
open M
structure PartI (n : Int) (links : List (Int × Int)) (O p : List Int) : Prop where
  len : (p.length : Int) = n
  lab : Lab n (Adj links) O fun u => ge p u
theorem partI_nil {n : Int} {O : List Int} (n0 : 0 ≤ n) : PartI n [] O (rngL 0 n) := by
  refine ⟨by rw [rngL_len]; omega, fun u v _ _ _ _ e => ?_, fun u v u0 u1 v0 v1 _ _ e => ?_⟩
  · rcases e with z | z <;> cases z
  · rw [ge_rng u0 (by omega), ge_rng v0 (by omega)] at e
    have : u = v := by omega
    subst this
    exact .refl
theorem adj_mono {l : List (Int × Int)} {e : Int × Int} {a b : Int} (h : Adj l a b) : Adj (l ++ [e]) a b := Adj.snoc.mpr (.inl h)
theorem partI_keep {n : Int} {pre : List (Int × Int)} {O p : List Int} {x y : Int} (hp : PartI n pre O p) (hk : x ∈ O ∨ y ∈ O ∨ ge p x = ge p y) : PartI n (pre ++ [(x, y)]) O p := by
  refine ⟨hp.len, fun u v u0 u1 v0 v1 e hu hv => ?_, fun u v u0 u1 v0 v1 hu hv e => ?_⟩
  · rcases Adj.snoc.mp e with z | ⟨z1, z2⟩ | ⟨z1, z2⟩
    · exact hp.lab.eq u v u0 u1 v0 v1 z hu hv
    · have z1 : u = x := z1
      have z2 : v = y := z2
      subst z1; subst z2
      rcases hk with z | z | z
      · exact absurd z hu
      · exact absurd z hv
      · exact z
    · have z1 : u = y := z1
      have z2 : v = x := z2
      subst z1; subst z2
      rcases hk with z | z | z
      · exact absurd z hv
      · exact absurd z hu
      · exact z.symm
  · exact (hp.lab.rc u v u0 u1 v0 v1 hu hv e).mono fun a b ⟨h1, h2, h3, h4⟩ => ⟨h1, h2, adj_mono h3, h4⟩
theorem partI_join {n : Int} {pre : List (Int × Int)} {O p : List Int} {x y : Int} (hp : PartI n pre O p) (x0 : 0 ≤ x) (x1 : x < n) (y0 : 0 ≤ y) (y1 : y < n) (hx : x ∉ O) (hy : y ∉ O) (he : ge p x ≠ ge p y) :
    PartI n (pre ++ [(x, y)]) O (p.map fun one => if one = ge p y then ge p x else one) := by
  have hl := hp.len
  have gm : ∀ u, 0 ≤ u → u < n → ge (p.map fun one => if one = ge p y then ge p x else one) u = if ge p u = ge p y then ge p x else ge p u := fun u u0 u1 => ge_map u0 (by omega)
  have up : ∀ {u v : Int}, Rch (fun a b => 0 ≤ b ∧ b < n ∧ Adj pre a b ∧ b ∉ O) u v → Rch (fun a b => 0 ≤ b ∧ b < n ∧ Adj (pre ++ [(x, y)]) a b ∧ b ∉ O) u v := fun r => r.mono fun a b ⟨h1, h2, h3, h4⟩ => ⟨h1, h2, adj_mono h3, h4⟩
  have axy : Adj (pre ++ [(x, y)]) x y := Adj.snoc.mpr (.inr (.inl ⟨rfl, rfl⟩))
  refine ⟨by rw [List.length_map]; exact hl, fun u v u0 u1 v0 v1 e hu hv => ?_, fun u v u0 u1 v0 v1 hu hv e => ?_⟩
  · show ge (p.map _) u = ge (p.map _) v
    rw [gm u u0 u1, gm v v0 v1]
    rcases Adj.snoc.mp e with z | ⟨z1, z2⟩ | ⟨z1, z2⟩
    · rw [hp.lab.eq u v u0 u1 v0 v1 z hu hv]
    · have z1 : u = x := z1
      have z2 : v = y := z2
      rw [z1, z2, if_neg he, if_pos rfl]
    · have z1 : u = y := z1
      have z2 : v = x := z2
      rw [z1, z2, if_neg he, if_pos rfl]
  · have e : ge (p.map _) u = ge (p.map _) v := e
    rw [gm u u0 u1, gm v v0 v1] at e
    by_cases e1 : ge p u = ge p y
    · by_cases e2 : ge p v = ge p y
      · exact up (hp.lab.rc u v u0 u1 v0 v1 hu hv (e1.trans e2.symm))
      · rw [if_pos e1, if_neg e2] at e
        exact ((up (hp.lab.rc u y u0 u1 y0 y1 hu hy e1)).step ⟨x0, x1, axy.sym, hx⟩).trans (up (hp.lab.rc x v x0 x1 v0 v1 hx hv e))
    · by_cases e2 : ge p v = ge p y
      · rw [if_neg e1, if_pos e2] at e
        exact ((up (hp.lab.rc u x u0 u1 x0 x1 hu hx e)).step ⟨y0, y1, axy, hy⟩).trans (up (hp.lab.rc y v y0 y1 v0 v1 hy hv e2.symm))
      · rw [if_neg e1, if_neg e2] at e
        exact up (hp.lab.rc u v u0 u1 v0 v1 hu hv e)
theorem dedup (l : List Int) : ∃ K : List Int, K.Nodup ∧ ∀ x, x ∈ K ↔ x ∈ l := by
  induction l with
  | nil => exact ⟨[], by simp, fun x => Iff.rfl⟩
  | cons a l ih =>
    obtain ⟨K, nd, h⟩ := ih
    by_cases ha : a ∈ K
    · exact ⟨K, nd, fun x => by rw [h, List.mem_cons]; exact ⟨.inr, fun z => z.elim (fun e => by rw [e]; exact (h a).mp ha) id⟩⟩
    · exact ⟨a :: K, List.nodup_cons.mpr ⟨ha, nd⟩, fun x => by rw [List.mem_cons, List.mem_cons, h]⟩
theorem lab_ex {n : Int} {links : List (Int × Int)} (n0 : 0 ≤ n) (hg : Good n links) (O : List Int) : ∃ (part : Int → Int) (K : List Int), Lab n (Adj links) O part ∧ K.Nodup ∧ ∀ l, l ∈ K ↔ ∃ p, 0 ≤ p ∧ p < n ∧ p ∉ O ∧ part p = l := by
  have key : ∀ (post pre : List (Int × Int)), links = pre ++ post → (∃ p, PartI n pre O p) → ∃ p, PartI n links O p := by
    intro post
    induction post with
    | nil => intro pre e h; rw [List.append_nil] at e; rw [e]; exact h
    | cons e post ih =>
      rintro pre eq ⟨p, hp⟩
      obtain ⟨x, y⟩ := e
      obtain ⟨x0, x1, y0, y1⟩ := hg (x, y) (by rw [eq]; simp)
      refine ih (pre ++ [(x, y)]) (by rw [eq]; simp) ?_
      by_cases h : x ∈ O ∨ y ∈ O ∨ ge p x = ge p y
      · exact ⟨p, partI_keep hp h⟩
      · exact ⟨_, partI_join hp x0 x1 y0 y1 (fun z => h (.inl z)) (fun z => h (.inr (.inl z))) fun z => h (.inr (.inr z))⟩
  obtain ⟨p, hp⟩ := key links [] rfl ⟨_, partI_nil n0⟩
  obtain ⟨K, nd, hK⟩ := dedup (((rngL 0 n).filter fun q => !decide (q ∈ O)).map fun q => ge p q)
  refine ⟨_, K, hp.lab, nd, fun l => ?_⟩
  rw [hK, List.mem_map]
  constructor
  · rintro ⟨q, hq, e⟩
    obtain ⟨h1, h2⟩ := List.mem_filter.mp hq
    obtain ⟨q0, q1⟩ := rngL_mem.mp h1
    exact ⟨q, q0, q1, by simpa using h2, e⟩
  · rintro ⟨q, q0, q1, hO, e⟩
    exact ⟨q, List.mem_filter.mpr ⟨rngL_mem.mpr ⟨q0, q1⟩, by simp [hO]⟩, e⟩
end Bl
/-! Lg: the laws' own nets and walks -/
namespace T
open M Bl
open L2 (atI)
theorem y_cell {sc : Scr} {k : Int} (h : 0 ≤ k) : ∃ c, m__law_cell_at sc k = some c := by
  unfold m__law_cell_at
  exact Y.cell h
theorem y_linked (u v n shape cell share : Int) : ∃ b, m__law_linked u v n shape cell share = some b := by
  unfold m__law_linked
  repeat' split
  all_goals exact ⟨_, rfl⟩
/-- a law's net -/
structure Net (n : Int) (l : List (Int × Int)) : Prop where
  rg : ∀ e ∈ l, 0 ≤ e.1 ∧ e.1 < e.2 ∧ e.2 < n
  len : l.length ≤ 1000000
theorem Net.good {n : Int} {l : List (Int × Int)} (h : Net n l) : Good n l := fun e he => by have := h.rg e he; omega
theorem Net.sub {n : Int} {l m : List (Int × Int)} (h : Net n l) (hs : m.Sublist l) : Net n m := ⟨fun e he => h.rg e (hs.subset he), by have := hs.length_le; have := h.len; omega⟩
theorem y_links {sc : Scr} {n shape share : Int} (n0 : 0 ≤ n) (n1 : n ≤ 40) : Y (m__law_links sc n shape share) (Net n) := by
  unfold m__law_links
  rw [rngM_some, bs]
  refine Y.bind (Y.rng (I := fun u (o : List (Int × Int) × Int) => (∀ e ∈ o.1, 0 ≤ e.1 ∧ e.1 < e.2 ∧ e.2 < n) ∧ (o.1.length : Int) ≤ 1000 * u ∧ 0 ≤ o.2) n0 ⟨(fun e he => by cases he), by simp, by decide⟩ fun u o u0 u1 ho => ?_) fun o ho => ?_
  · rw [rngM_some, bs]
    refine Y.bind (Y.rng (I := fun v (o : List (Int × Int) × Int) => (∀ e ∈ o.1, 0 ≤ e.1 ∧ e.1 < e.2 ∧ e.2 < n) ∧ (o.1.length : Int) ≤ 1000 * u + (v - u - 1) ∧ 0 ≤ o.2) (by omega) ⟨ho.1, by have := ho.2.1; simp; omega, ho.2.2⟩ fun v o v0 v1 ho => ?_) fun o ho => ⟨_, rfl, ho.1, by have := ho.2.1; simp; omega, ho.2.2⟩
    obtain ⟨h1, h2, h3⟩ := ho
    obtain ⟨c, ec⟩ := y_cell (sc := sc) h3
    obtain ⟨b, eb⟩ := y_linked u v n shape c share
    simp only [bs, ec, eb]
    cases b with
    | true =>
      rw [if_pos rfl, apM_some (by omega), bs, bs]
      refine ⟨_, rfl, fun e he => ?_, ?_, by show 0 ≤ o.2 + 1; omega⟩
      · rcases List.mem_append.mp he with z | z
        · exact h1 e z
        · rw [List.mem_singleton.mp z]
          exact ⟨u0, by show u < v; omega, v1⟩
      · show ((o.1 ++ [(u, v)]).length : Int) ≤ _
        rw [List.length_append, List.length_singleton]; omega
    | false =>
      rw [if_neg (by decide), bs]
      exact ⟨_, rfl, h1, by show (o.1.length : Int) ≤ _; omega, by show 0 ≤ o.2 + 1; omega⟩
  · obtain ⟨h1, h2, h3⟩ := ho
    have hl : o.1.length ≤ 40000 := by omega
    refine Y.bind (P := fun l => (∀ e ∈ l, 0 ≤ e.1 ∧ e.1 < e.2 ∧ e.2 < n) ∧ l.length ≤ 40000) ?_ fun l hl => ?_
    · split
      · exact ⟨_, rfl, fun e he => h1 e (List.mem_reverse.mp he), by rw [List.length_reverse]; exact hl⟩
      · exact ⟨_, rfl, h1, hl⟩
    · refine Y.bind (P := Net n) ?_ fun l hl => ⟨_, rfl, hl⟩
      split
      · have hx := hl.2
        have c1 : cutL l (some ((l.length : Int) / 2)) none = l.drop (l.length / 2) := by
          have := cutL_from (xs := l) (k := l.length / 2) (by omega)
          rw [← this]; congr 2
        have c2 : cutL l none (some ((l.length : Int) / 2)) = l.take (l.length / 2) := by
          have := cutL_to (xs := l) (k := l.length / 2) (by omega)
          rw [← this]; congr 2
        rw [c1, c2, exM_some (by rw [List.length_drop, List.length_take]; omega), bs]
        refine ⟨_, rfl, fun e he => ?_, by rw [List.length_append, List.length_drop, List.length_take]; omega⟩
        rcases List.mem_append.mp he with z | z
        · exact hl.1 e (List.mem_of_mem_drop z)
        · exact hl.1 e (List.mem_of_mem_take z)
      · exact ⟨_, rfl, hl.1, by have := hl.2; omega⟩
theorem y_pairing {links P : List (Int × Int)} (hl : ∀ e ∈ P, e ∈ links) (h0 : ∀ e ∈ P, 0 ≤ e.1) (hs : P.Pairwise fun e f => e.1 < f.1) (nd : (ends P).Nodup) (hlen : P.length ≤ 1000000) : m__law_pairing (P.map some) links = some true := by
  refine Y.eq ?_
  unfold m__law_pairing
  rw [if_neg (by decide)]
  refine Y.fin (Q := fun _ => True) (C := fun b => b = true) (Y.loop (I := fun pre (o : Dk Bool × Int) => ∃ Q, pre = Q.map some ∧ DS o.1 (ends Q) ∧ ((Q = [] ∧ o.2 = -1) ∨ ∃ e ∈ Q, o.2 = e.1)) ⟨[], rfl, DS.nil, .inl ⟨rfl, rfl⟩⟩ (fun pre x post o eq hI => ?_) fun _ _ => trivial) (fun _ _ => ⟨_, rfl, rfl⟩) fun _ h => h
  obtain ⟨Q, rfl, dQ, hQ⟩ := hI
  obtain ⟨taken, last⟩ := o
  have ex : ∃ e S, P = Q ++ e :: S ∧ x = some e := by
    have e1 := congrArg (List.take Q.length) eq
    rw [← List.map_take, List.take_left' (by simp)] at e1
    have hinj : Function.Injective (some : (Int × Int) → Option (Int × Int)) := fun a b h => Option.some.inj h
    have e2 : P.take Q.length = Q := by
      have := congrArg (List.map fun z : Option (Int × Int) => z.getD default) e1
      rw [List.map_map, List.map_map] at this
      have hid : ((fun z : Option (Int × Int) => z.getD default) ∘ some) = id := rfl
      rw [hid, List.map_id, List.map_id] at this; exact this
    have hlen2 : Q.length < P.length := by
      have := congrArg List.length eq
      simp at this; omega
    refine ⟨P[Q.length], P.drop (Q.length + 1), ?_, ?_⟩
    · conv => lhs; rw [← List.take_append_drop Q.length P, e2, List.drop_eq_getElem_cons hlen2]
    · have := congrArg (fun z => z[Q.length]?) eq
      simp [hlen2] at this
      exact this.symm
  obtain ⟨e, S, eP, rfl⟩ := ex
  obtain ⟨x, y⟩ := e
  have he : (x, y) ∈ P := by rw [eP]; simp
  have hmem := hl _ he
  have x0 : 0 ≤ x := h0 _ he
  have eE : ends P = ends Q ++ ([x, y] ++ ends S) := by rw [eP, ends_append]; rfl
  rw [eE, List.nodup_append, List.nodup_append] at nd
  have nx : x ∉ ends Q := fun z => nd.2.2 x z x (by simp) rfl
  have ny : y ∉ ends Q := fun z => nd.2.2 y z y (by simp) rfl
  have hlt : ¬ x < last := by
    rcases hQ with ⟨_, z⟩ | ⟨f, hf, z⟩
    · have z : last = -1 := z
      omega
    · have z : last = f.1 := z
      rw [eP, List.pairwise_append] at hs
      have : f.1 < x := hs.2.2 f hf (x, y) (by simp)
      omega
  have wx : m__law_whole x = some true := rfl
  have wy : m__law_whole y = some true := rfl
  have mb : memB (x, y) links = true := memB_iff.mpr hmem
  have dl : taken.kvs.length ≤ 2000000 := by
    have := dQ.le
    have e1 := ends_len Q
    have : Q.length ≤ P.length := by rw [eP]; simp
    have dQ : DS taken (ends Q) := dQ
    have := dQ.le
    omega
  have dQ : DS taken (ends Q) := dQ
  simp only [bs, wx, wy, mb, dQ.lookF nx, dQ.lookF ny, Bool.not_true, Bool.false_eq_true, if_false, decide_true, hlt, decide_false]
  have d1 := dQ.put x true
  have dl1 : (put taken.kvs (KeyE.key x) true).length ≤ 2000001 := by have := put_len (kvs := taken.kvs) (k := KeyE.key x) (v := true); omega
  rw [dpM_some (by omega), bs, dpM_some (by show (put taken.kvs (KeyE.key x) true).length < _; omega), bs]
  refine ⟨_, rfl, Q ++ [(x, y)], by simp, ?_, .inr ⟨(x, y), by simp, rfl⟩⟩
  have := d1.put y true
  refine this.congr fun z => ?_
  rw [ends_append]
  simp [ends]
end T
/-! Mx: no pairing is larger -/
namespace T
open M Bl
open L2 (atI)
structure Mt (links Q : List (Int × Int)) : Prop where
  mem : ∀ e ∈ Q, e ∈ links
  nd : (ends Q).Nodup
def IsMax (links : List (Int × Int)) (k : Nat) : Prop := (∃ P, Mt links P ∧ P.length = k) ∧ ∀ Q, Mt links Q → Q.length ≤ k
theorem IsMax.uniq {links : List (Int × Int)} {a b : Nat} (h : IsMax links a) (k : IsMax links b) : a = b := by
  obtain ⟨⟨P, p1, p2⟩, h2⟩ := h
  obtain ⟨⟨Q, q1, q2⟩, k2⟩ := k
  have := h2 Q q1
  have := k2 P p1
  omega
theorem Mt.len {n : Int} {links Q : List (Int × Int)} (hN : Net n links) (n0 : 0 ≤ n) (h : Mt links Q) : 2 * Q.length ≤ n.toNat := by
  have := nodup_len h.nd (ys := rngL 0 n) fun x hx => by
    unfold ends at hx
    obtain ⟨e, he, hx⟩ := List.mem_flatMap.mp hx
    have := hN.rg e (h.mem e he)
    simp at hx
    rcases hx with rfl | rfl <;> rw [rngL_mem] <;> omega
  rw [ends_len, rngL_len] at this
  omega
theorem weak {n : Int} {links Q : List (Int × Int)} {O : List Int} {part : Int → Int} {K : List Int} (n0 : 0 ≤ n) (hN : Net n links) (L : Lab n (Adj links) O part) (nK : K.Nodup) (hK : ∀ l, l ∈ K ↔ ∃ p, 0 ≤ p ∧ p < n ∧ p ∉ O ∧ part p = l) (hQ : Mt links Q) :
    ((K.filter fun l => decide ((cls n O part l).length % 2 = 1)).length : Int) ≤ O.length + n - 2 * Q.length := by
  classical
  have rgQ : ∀ x ∈ ends Q, 0 ≤ x ∧ x < n := fun x hx => by
    unfold ends at hx
    obtain ⟨e, he, hx⟩ := List.mem_flatMap.mp hx
    have := hN.rg e (hQ.mem e he)
    simp at hx
    rcases hx with rfl | rfl <;> omega
  have adjL : ∀ {x y : Int}, Adj Q x y → Adj links x y := fun z => z.elim (fun z => .inl (hQ.mem _ z)) fun z => .inr (hQ.mem _ z)
  have adjR : ∀ {x y : Int}, Adj Q x y → x ∈ ends Q ∧ y ∈ ends Q := fun {x y} z => ⟨mem_ends.mpr ⟨y, z⟩, mem_ends.mpr ⟨x, z.sym⟩⟩
  have adjN : ∀ {x y : Int}, Adj Q x y → x ≠ y := fun {x y} z e => by
    subst e
    have : (x, x) ∈ links := z.elim (fun z => hQ.mem _ z) fun z => hQ.mem _ z
    have := hN.rg _ this
    have : x < x := this.2.1
    omega
  have ex : ∀ l, l ∈ K.filter (fun l => decide ((cls n O part l).length % 2 = 1)) → ∃ z, ∃ p ∈ cls n O part l, (z = p ∧ p ∉ ends Q) ∨ (Adj Q p z ∧ z ∈ O) := fun l hl => by
    have h2 := of_decide_eq_true (List.mem_filter.mp hl).2
    refine Classical.byContradiction fun hn => ?_
    have mate : ∀ p ∈ cls n O part l, ∃ q, Adj Q p q ∧ q ∈ cls n O part l := fun p hp => by
      have hp' := hp
      unfold cls at hp
      rw [List.mem_filter, rngL_mem] at hp
      simp only [Bool.and_eq_true, Bool.not_eq_true', decide_eq_false_iff_not, decide_eq_true_eq] at hp
      by_cases he : p ∈ ends Q
      · obtain ⟨q, hq⟩ := mem_ends.mp he
        have rq := rgQ q (adjR hq).2
        by_cases hO : q ∈ O
        · exact absurd ⟨q, p, hp', .inr ⟨hq, hO⟩⟩ hn
        · refine ⟨q, hq, ?_⟩
          have := L.eq p q hp.1.1 hp.1.2 rq.1 rq.2 (adjL hq) hp.2.1 hO
          unfold cls
          rw [List.mem_filter, rngL_mem]
          simp [rq, hO, ← this, hp.2.2]
      · exact absurd ⟨p, p, hp', .inl ⟨rfl, he⟩⟩ hn
    have := two_by_two (f := fun p => if h : ∃ q, Adj Q p q ∧ q ∈ cls n O part l then h.choose else p) _ (Nat.le_refl _) (cls_nodup (n := n) (O := O) (part := part) (l := l)) fun p hp => by
      have h1 := mate p hp
      have c1 := h1.choose_spec
      have h2 := mate _ c1.2
      have c2 := h2.choose_spec
      have e1 : (if h : ∃ q, Adj Q p q ∧ q ∈ cls n O part l then h.choose else p) = h1.choose := dif_pos h1
      have e2 : (if h : ∃ q, Adj Q h1.choose q ∧ q ∈ cls n O part l then h.choose else h1.choose) = h2.choose := dif_pos h2
      show (if h : ∃ q, Adj Q p q ∧ q ∈ cls n O part l then h.choose else p) ∈ _ ∧ (if h : ∃ q, Adj Q p q ∧ q ∈ cls n O part l then h.choose else p) ≠ p ∧ (fun p => if h : ∃ q, Adj Q p q ∧ q ∈ cls n O part l then h.choose else p) (if h : ∃ q, Adj Q p q ∧ q ∈ cls n O part l then h.choose else p) = p
      rw [e1]
      refine ⟨c1.2, fun e => adjN c1.1 e.symm, ?_⟩
      show (if h : ∃ q, Adj Q h1.choose q ∧ q ∈ cls n O part l then h.choose else h1.choose) = p
      rw [e2]
      exact adj_uniq hQ.nd c2.1 c1.1.sym
    omega
  have inj : ((K.filter fun l => decide ((cls n O part l).length % 2 = 1)).map fun l => if h : ∃ z, ∃ p ∈ cls n O part l, (z = p ∧ p ∉ ends Q) ∨ (Adj Q p z ∧ z ∈ O) then h.choose else 0).Nodup := by
    rw [List.nodup_iff_pairwise_ne, List.pairwise_map]
    refine List.Pairwise.imp_of_mem ?_ (List.nodup_iff_pairwise_ne.mp (nK.filter _))
    intro a b ha hb ne e
    have h1 := ex a ha
    have h2 := ex b hb
    rw [dif_pos h1, dif_pos h2] at e
    obtain ⟨p, hp, c1⟩ := h1.choose_spec
    obtain ⟨q, hq, c2⟩ := h2.choose_spec
    rw [← e] at c2
    have same : p = q → False := fun z => by
      subst z
      unfold cls at hp hq
      rw [List.mem_filter] at hp hq
      simp only [Bool.and_eq_true, Bool.not_eq_true', decide_eq_false_iff_not, decide_eq_true_eq] at hp hq
      exact ne (hp.2.2.symm.trans hq.2.2)
    have nO : ∀ {l x : Int}, x ∈ cls n O part l → x ∉ O := fun hx => by
      unfold cls at hx
      rw [List.mem_filter] at hx
      simp only [Bool.and_eq_true, Bool.not_eq_true', decide_eq_false_iff_not, decide_eq_true_eq] at hx
      exact hx.2.1
    rcases c1 with ⟨c1, _⟩ | ⟨c1, o1⟩
    · rcases c2 with ⟨c2, _⟩ | ⟨c2, o2⟩
      · exact same (c1.symm.trans c2)
      · rw [c1] at o2; exact nO hp o2
    · rcases c2 with ⟨c2, _⟩ | ⟨c2, o2⟩
      · rw [c2] at o1; exact nO hq o1
      · exact same (adj_uniq hQ.nd c1.sym c2.sym)
  have sub := nodup_len inj (ys := O ++ (rngL 0 n).filter fun x => !decide (x ∈ ends Q)) fun z hz => by
    obtain ⟨l, hl, rfl⟩ := List.mem_map.mp hz
    have h1 := ex l hl
    rw [dif_pos h1]
    obtain ⟨p, hp, c1⟩ := h1.choose_spec
    rcases c1 with ⟨c1, c2⟩ | ⟨c1, c2⟩
    · refine List.mem_append_right _ (List.mem_filter.mpr ?_)
      rw [c1]
      unfold cls at hp
      exact ⟨(List.mem_filter.mp hp).1, by simp [c2]⟩
    · exact List.mem_append_left _ c2
  rw [List.length_map, List.length_append] at sub
  have split := flt_split (p := fun x => decide (x ∈ ends Q)) (rngL 0 n)
  have eQ : ((rngL 0 n).filter fun x => decide (x ∈ ends Q)).length = 2 * Q.length := by
    rw [← ends_len]
    refine nodup_len_eq (rngL_nodup.filter _) hQ.nd fun x => ?_
    rw [List.mem_filter, rngL_mem, decide_eq_true_eq]
    exact ⟨fun z => z.2, fun z => ⟨rgQ x z, z⟩⟩
  rw [rngL_len] at split
  omega
theorem inl_of {n : Int} {links P : List (Int × Int)} {out : List Int} (hN : Net n links) (h : Largest n links P out) : ∀ e ∈ P, e ∈ links := fun e he => by
  obtain ⟨a, l, _⟩ := h.adj e he
  rcases a with z | z
  · exact z
  · have := hN.rg _ z
    have : e.2 < e.1 := this.2.1
    omega
theorem max_of {n : Int} {links P : List (Int × Int)} {out : List Int} (n0 : 0 ≤ n) (n1 : n ≤ 1000) (hN : Net n links) (h : Largest n links P out) : IsMax links P.length := by
  refine ⟨⟨P, ⟨inl_of hN h, h.nd⟩, rfl⟩, fun Q hQ => ?_⟩
  obtain ⟨part, K, hL, nK, hK⟩ := lab_ex n0 hN.good out
  have e4 := h.cert part K hL nK hK
  have := weak n0 hN hL nK hK hQ
  omega
theorem y_max {n : Int} {links : List (Int × Int)} (n0 : 0 ≤ n) (n1 : n ≤ 1000) (hN : Net n links) : ∃ P out, m_largest n links = some (P.map some, out) ∧ Largest n links P out ∧ IsMax links P.length := by
  obtain ⟨⟨f1, out⟩, ef, P, eP, hL⟩ := y_largest n0 n1 hN.good
  have eP : f1 = P.map some := eP
  have hL : Largest n links P out := hL
  subst eP
  exact ⟨P, out, ef, hL, max_of n0 n1 hN hL⟩
/-! ### nets with fewer links -/
theorem IsMax.mono {l m : List (Int × Int)} {a b : Nat} (h : IsMax l a) (k : IsMax m b) (hs : ∀ e ∈ m, e ∈ l) : b ≤ a := by
  obtain ⟨⟨Q, q1, q2⟩, _⟩ := k
  have := h.2 Q ⟨fun e he => hs e (q1.mem e he), q1.nd⟩
  omega
theorem filter_one {p : Int × Int → Bool} : ∀ {P : List (Int × Int)}, P.Pairwise (fun a b => p a = true ∨ p b = true) → P.length ≤ (P.filter p).length + 1
  | [], _ => by simp
  | a :: P, h => by
    obtain ⟨h1, h2⟩ := List.pairwise_cons.mp h
    rw [List.filter_cons]
    cases ha : p a with
    | true =>
      have := filter_one h2
      simp; omega
    | false =>
      have : P.filter p = P := List.filter_eq_self.mpr fun b hb => (h1 b hb).resolve_left (by rw [ha]; decide)
      simp [this]
theorem sub_ends {P Q : List (Int × Int)} (h : Q.Sublist P) (nd : (ends P).Nodup) : (ends Q).Nodup := by
  have hs : (ends Q).Sublist (ends P) := by
    induction h with
    | slnil => exact List.Sublist.refl _
    | cons a _ ih =>
      rename_i P _
      have := ih ((List.sublist_append_right [a.1, a.2] (ends P)).nodup nd)
      exact this.trans (List.sublist_append_right [a.1, a.2] (ends P))
    | cons_cons a _ ih =>
      rename_i P _
      have := ih ((List.sublist_append_right [a.1, a.2] (ends P)).nodup nd)
      exact (List.Sublist.refl [a.1, a.2]).append this
  exact hs.nodup nd
/-- without some links of which a pairing has at most one -/
theorem IsMax.less {l : List (Int × Int)} {p : Int × Int → Bool} {a b : Nat} (h : IsMax l a) (k : IsMax (l.filter p) b) (hp : ∀ P, Mt l P → P.Pairwise fun e f => p e = true ∨ p f = true) : b = a ∨ b + 1 = a := by
  have h1 := h.mono k fun e he => (List.mem_filter.mp he).1
  obtain ⟨⟨P, p1, p2⟩, _⟩ := h
  have h2 := filter_one (hp P p1)
  have h3 := k.2 (P.filter p) ⟨fun e he => List.mem_filter.mpr ⟨p1.mem e (List.mem_filter.mp he).1, (List.mem_filter.mp he).2⟩, sub_ends List.filter_sublist p1.nd⟩
  omega
theorem ends_dis {P : List (Int × Int)} (nd : (ends P).Nodup) : P.Pairwise fun e f => e.1 ≠ f.1 ∧ e.1 ≠ f.2 ∧ e.2 ≠ f.1 ∧ e.2 ≠ f.2 := by
  unfold ends at nd
  rw [List.nodup_iff_pairwise_ne, List.pairwise_flatMap] at nd
  exact nd.2.imp fun {e f} z => ⟨z _ (by simp) _ (by simp), z _ (by simp) _ (by simp), z _ (by simp) _ (by simp), z _ (by simp) _ (by simp)⟩
end T
/-! La: the places that are left alone -/
namespace T
open M Bl
open L2 (atI)
def noP (p : Int) (e : Int × Int) : Bool := !decide (p ∈ [e.1, e.2])
def fi (p u : Int) : Int := u - M.b2i (decide (p < u))
def bk (p u : Int) : Int := if p ≤ u then u + 1 else u
def fi2 (p : Int) (e : Int × Int) : Int × Int := (fi p e.1, fi p e.2)
def bk2 (p : Int) (e : Int × Int) : Int × Int := (bk p e.1, bk p e.2)
theorem fi_bk (p u : Int) : fi p (bk p u) = u := by
  unfold fi bk M.b2i
  split <;> simp <;> omega
theorem bk_fi {p u : Int} (h : u ≠ p) : bk p (fi p u) = u := by
  unfold fi bk M.b2i
  by_cases z : p < u
  · simp [z]; omega
  · simp [z]; omega
theorem noP_iff {p : Int} {e : Int × Int} : noP p e = true ↔ e.1 ≠ p ∧ e.2 ≠ p := by
  unfold noP
  simp
  constructor
  · rintro ⟨a, b⟩; exact ⟨fun z => a z.symm, fun z => b z.symm⟩
  · rintro ⟨a, b⟩; exact ⟨fun z => a z.symm, fun z => b z.symm⟩
theorem y_without_place {links : List (Int × Int)} {p : Int} (hl : links.length ≤ 1000000) : m_without_place links p = some ((links.filter (noP p)).map (fi2 p)) := by
  refine Y.eq ?_
  unfold m_without_place
  refine Y.bind (Y.fold (I := fun pre found => found = (pre.filter (noP p)).map (fi2 p)) rfl fun pre e post found eq hf => ?_) fun found hf => ⟨_, rfl, hf⟩
  subst hf
  have plen : ((pre.filter (noP p)).map (fi2 p)).length < 16777216 := by
    have := congrArg List.length eq
    have := List.length_filter_le (noP p) pre
    rw [List.length_map]
    rw [List.length_append] at *; omega
  rw [List.filter_append, List.map_append]
  by_cases h : e.1 ≠ p ∧ e.2 ≠ p
  · rw [if_pos (by simp [h.1, h.2]), apM_some plen, bs, bs]
    refine ⟨_, rfl, ?_⟩
    have : noP p e = true := noP_iff.mpr h
    simp [this]; rfl
  · have hn : noP p e = false := by rw [Bool.eq_false_iff]; exact fun z => h (noP_iff.mp z)
    rw [if_neg (by
      intro z
      simp at z
      exact h z), bs]
    refine ⟨_, rfl, ?_⟩
    simp [hn]
theorem net_fi {n p : Int} {links : List (Int × Int)} (hN : Net n links) (p0 : 0 ≤ p) (p1 : p < n) : Net (n - 1) ((links.filter (noP p)).map (fi2 p)) := by
  refine ⟨fun e he => ?_, by have := List.length_filter_le (noP p) links; have := hN.len; rw [List.length_map]; omega⟩
  obtain ⟨f, hf, rfl⟩ := List.mem_map.mp he
  obtain ⟨h1, h2⟩ := List.mem_filter.mp hf
  have h2 := noP_iff.mp h2
  have := hN.rg f h1
  show 0 ≤ fi p f.1 ∧ fi p f.1 < fi p f.2 ∧ fi p f.2 < n - 1
  unfold fi M.b2i
  by_cases z1 : p < f.1
  · have z2 : p < f.2 := by omega
    simp [z1, z2]; omega
  · by_cases z2 : p < f.2
    · simp [z1, z2]; omega
    · simp [z1, z2]; omega
theorem ends_map (g : Int → Int) : ∀ Q : List (Int × Int), ends (Q.map fun e => (g e.1, g e.2)) = (ends Q).map g
  | [] => rfl
  | e :: Q => by
    have := ends_map g Q
    show _ :: _ :: ends _ = _ :: _ :: _
    rw [this]; rfl
theorem max_fi {p : Int} {l : List (Int × Int)} (hp : ∀ e ∈ l, e.1 ≠ p ∧ e.2 ≠ p) {k : Nat} (h : IsMax (l.map (fi2 p)) k) : IsMax l k := by
  have fwd : ∀ Q, Mt l Q → Mt (l.map (fi2 p)) (Q.map (fi2 p)) := fun Q hQ => by
    refine ⟨fun e he => ?_, ?_⟩
    · obtain ⟨f, hf, rfl⟩ := List.mem_map.mp he
      exact List.mem_map.mpr ⟨f, hQ.mem f hf, rfl⟩
    · have : ends (Q.map (fi2 p)) = (ends Q).map (fi p) := ends_map (fi p) Q
      rw [this, List.nodup_iff_pairwise_ne, List.pairwise_map]
      refine List.Pairwise.imp_of_mem ?_ (List.nodup_iff_pairwise_ne.mp hQ.nd)
      intro a b ha hb ne e
      have go : ∀ {x : Int}, x ∈ ends Q → x ≠ p := fun {x} hx => by
        unfold ends at hx
        obtain ⟨e, he, hx⟩ := List.mem_flatMap.mp hx
        have := hp e (hQ.mem e he)
        simp at hx
        rcases hx with rfl | rfl
        · exact this.1
        · exact this.2
      exact ne (by rw [← bk_fi (go ha), ← bk_fi (go hb), e])
  have back : ∀ R, Mt (l.map (fi2 p)) R → Mt l (R.map (bk2 p)) := fun R hR => by
    refine ⟨fun e he => ?_, ?_⟩
    · obtain ⟨f, hf, rfl⟩ := List.mem_map.mp he
      obtain ⟨g, hg, rfl⟩ := List.mem_map.mp (hR.mem f hf)
      have := hp g hg
      have e : bk2 p (fi2 p g) = g := by
        show (bk p (fi p g.1), bk p (fi p g.2)) = g
        rw [bk_fi this.1, bk_fi this.2]
      rw [e]; exact hg
    · have : ends (R.map (bk2 p)) = (ends R).map (bk p) := ends_map (bk p) R
      rw [this, List.nodup_iff_pairwise_ne, List.pairwise_map]
      refine (List.nodup_iff_pairwise_ne.mp hR.nd).imp fun {a b} ne e => ne ?_
      rw [← fi_bk p a, ← fi_bk p b, e]
  obtain ⟨⟨P, p1, p2⟩, h2⟩ := h
  refine ⟨⟨P.map (bk2 p), back P p1, by rw [List.length_map]; exact p2⟩, fun Q hQ => ?_⟩
  have := h2 _ (fwd Q hQ)
  rwa [List.length_map] at this
open Classical in
noncomputable def alone (n : Int) (links : List (Int × Int)) (k : Nat) : List Int := (rngL 0 n).filter fun p => decide (IsMax (links.filter (noP p)) k)
theorem y_left_alone {n : Int} {links : List (Int × Int)} (n0 : 0 ≤ n) (n1 : n ≤ 1000) (hN : Net n links) {k : Nat} (hk : IsMax links k) : m_left_alone n links = some (alone n links k) := by
  classical
  refine Y.eq ?_
  unfold m_left_alone
  obtain ⟨P, out, ef, h, hM⟩ := y_max n0 n1 hN
  have ek := hM.uniq hk
  rw [ef]
  simp only [bs]
  rw [rngM_some, bs]
  refine Y.bind (Y.fold (I := fun pre found => found = pre.filter fun p => decide (IsMax (links.filter (noP p)) k)) rfl fun pre p post found eq hf => ?_) fun found hf => ⟨_, rfl, hf⟩
  subst hf
  obtain ⟨p0, p1⟩ := rngL_mem.mp (by rw [eq]; simp : p ∈ rngL 0 n)
  have plen : (pre.filter fun p => decide (IsMax (links.filter (noP p)) k)).length < 16777216 := by
    have := congrArg List.length eq
    have := List.length_filter_le (fun p => decide (IsMax (links.filter (noP p)) k)) pre
    rw [rngL_len, List.length_append] at *; omega
  rw [y_without_place hN.len]
  simp only [bs]
  obtain ⟨P2, out2, ef2, h2, hM2⟩ := y_max (by omega) (by omega) (net_fi hN p0 p1)
  have hM2 := max_fi (fun e he => noP_iff.mp (List.mem_filter.mp he).2) hM2
  rw [ef2]
  simp only [bs]
  rw [List.filter_append]
  by_cases hD : IsMax (links.filter (noP p)) k
  · have e3 := hM2.uniq hD
    rw [if_pos (by rw [decide_eq_true_eq, List.length_map, List.length_map]; omega), apM_some plen, bs, bs]
    refine ⟨_, rfl, ?_⟩
    simp [hD]
  · rw [if_neg (by
      rw [decide_eq_true_eq, List.length_map, List.length_map]
      intro z
      have : P2.length = k := by omega
      rw [this] at hM2
      exact hD hM2), bs]
    refine ⟨_, rfl, ?_⟩
    simp [hD]
theorem alone_len {n : Int} {links : List (Int × Int)} {k : Nat} (n0 : 0 ≤ n) : ((alone n links k).length : Int) ≤ n := by
  classical
  have : (alone n links k).length ≤ (rngL 0 n).length := List.length_filter_le _ _
  rw [rngL_len] at this
  omega
theorem alone_rise {n : Int} {links : List (Int × Int)} {k : Nat} : (alone n links k).Pairwise (· < ·) := by
  unfold alone
  exact rngL_lt.filter _
theorem alone_mem {n : Int} {links : List (Int × Int)} {k : Nat} {p : Int} : p ∈ alone n links k ↔ (0 ≤ p ∧ p < n) ∧ IsMax (links.filter (noP p)) k := by
  classical
  unfold alone
  rw [List.mem_filter, rngL_mem, decide_eq_true_eq]
end T
namespace T
open M Bl
open L2 (atI)
theorem y_linksN {sc : Scr} {n shape share : Int} (n0 : 0 ≤ n) (n1 : n ≤ 40) : Y (m__law_links sc n shape share) fun l => l.Nodup := by
  unfold m__law_links
  rw [rngM_some, bs]
  refine Y.bind (Y.rng (I := fun u (o : List (Int × Int) × Int) => o.1.Nodup ∧ (∀ e ∈ o.1, e.1 < u) ∧ (o.1.length : Int) ≤ 1000 * u ∧ 0 ≤ o.2) n0 ⟨by simp, (fun e he => by cases he), by simp, by decide⟩ fun u o u0 u1 ho => ?_) fun o ho => ?_
  · rw [rngM_some, bs]
    refine Y.bind (Y.rng (I := fun v (o : List (Int × Int) × Int) => o.1.Nodup ∧ (∀ e ∈ o.1, e.1 < u ∨ (e.1 = u ∧ e.2 < v)) ∧ (o.1.length : Int) ≤ 1000 * u + (v - u - 1) ∧ 0 ≤ o.2) (by omega) ⟨ho.1, fun e he => .inl (ho.2.1 e he), by have := ho.2.2.1; simp; omega, ho.2.2.2⟩ fun v o v0 v1 ho => ?_) fun o ho => ⟨_, rfl, ho.1, fun e he => by have := ho.2.1 e he; show e.1 < u + 1; omega, by have := ho.2.2.1; simp; omega, ho.2.2.2⟩
    obtain ⟨h0, h1, h2, h3⟩ := ho
    obtain ⟨c, ec⟩ := y_cell (sc := sc) h3
    obtain ⟨b, eb⟩ := y_linked u v n shape c share
    simp only [bs, ec, eb]
    cases b with
    | true =>
      rw [if_pos rfl, apM_some (by omega), bs, bs]
      refine ⟨_, rfl, ?_, fun e he => ?_, ?_, by show 0 ≤ o.2 + 1; omega⟩
      · show (o.1 ++ [(u, v)]).Nodup
        refine List.nodup_append.mpr ⟨h0, by simp, fun a ha b hb e => ?_⟩
        rw [List.mem_singleton] at hb
        subst e; subst hb
        have := h1 _ ha
        simp at this
      · rcases List.mem_append.mp he with z | z
        · have := h1 e z; omega
        · rw [List.mem_singleton.mp z]
          exact .inr ⟨rfl, by show v < v + 1; omega⟩
      · show ((o.1 ++ [(u, v)]).length : Int) ≤ _
        rw [List.length_append, List.length_singleton]; omega
    | false =>
      rw [if_neg (by decide), bs]
      exact ⟨_, rfl, h0, fun e he => by have := h1 e he; omega, by show (o.1.length : Int) ≤ _; omega, by show 0 ≤ o.2 + 1; omega⟩
  · obtain ⟨h0, h1, h2, h3⟩ := ho
    have hl : o.1.length ≤ 40000 := by omega
    refine Y.bind (P := fun l => l.Nodup ∧ l.length ≤ 40000) ?_ fun l hl => ?_
    · split
      · exact ⟨_, rfl, (List.reverse_perm _).nodup_iff.mpr h0, by rw [List.length_reverse]; exact hl⟩
      · exact ⟨_, rfl, h0, hl⟩
    · refine Y.bind (P := fun l => l.Nodup) ?_ fun l hl => ⟨_, rfl, hl⟩
      split
      · have hx := hl.2
        have c1 : cutL l (some ((l.length : Int) / 2)) none = l.drop (l.length / 2) := by
          have := cutL_from (xs := l) (k := l.length / 2) (by omega)
          rw [← this]; congr 2
        have c2 : cutL l none (some ((l.length : Int) / 2)) = l.take (l.length / 2) := by
          have := cutL_to (xs := l) (k := l.length / 2) (by omega)
          rw [← this]; congr 2
        rw [c1, c2, exM_some (by rw [List.length_drop, List.length_take]; omega), bs]
        refine ⟨_, rfl, ?_⟩
        have := hl.1
        rw [← List.take_append_drop (l.length / 2) l] at this
        exact (List.perm_append_comm.nodup_iff).mp this
      · exact ⟨_, rfl, hl.1⟩
theorem few {n : Int} {l : List (Int × Int)} (n1 : n ≤ 7) (hN : Net n l) (nd : l.Nodup) : l.length ≤ 21 := by
  have := nodup_len nd (ys := (rngL 0 7).flatMap fun u => (rngL (u + 1) 7).map fun v => (u, v)) fun e he => by
    obtain ⟨u, v⟩ := e
    have := hN.rg (u, v) he
    have h1 : 0 ≤ u := this.1
    have h2 : u < v := this.2.1
    have h3 : v < n := this.2.2
    exact List.mem_flatMap.mpr ⟨u, rngL_mem.mpr ⟨h1, by omega⟩, List.mem_map.mpr ⟨v, rngL_mem.mpr ⟨by omega, by omega⟩, rfl⟩⟩
  have e : ((rngL 0 7).flatMap fun u => (rngL (u + 1) 7).map fun v => (u, v)).length = 21 := by decide
  omega
structure All (links : List (Int × Int)) (E : List (List (Int × Int))) : Prop where
  len : E.length ≤ 2 ^ links.length
  mt : ∀ Q ∈ E, Mt links Q
  all : ∀ Q, Mt links Q → ∃ R ∈ E, (∀ e, e ∈ R ↔ e ∈ Q) ∧ R.length = Q.length
theorem ends_mem {Q : List (Int × Int)} {x : Int} : x ∈ ends Q ↔ ∃ e ∈ Q, x = e.1 ∨ x = e.2 := by
  unfold ends
  rw [List.mem_flatMap]
  constructor
  · rintro ⟨e, he, hx⟩; exact ⟨e, he, by simpa using hx⟩
  · rintro ⟨e, he, hx⟩; exact ⟨e, he, by simpa using hx⟩
theorem mt_nodup {l Q : List (Int × Int)} (h : Mt l Q) : Q.Nodup := (ends_dis h.nd).imp fun {a b} z e => z.1 (by rw [e])
theorem y_all {n : Int} {links : List (Int × Int)} (n0 : 0 ≤ n) (n1 : n ≤ 7) (hN : Net n links) (nd : links.Nodup) : Y (m__law_all links) (All links) := by
  have hf := few n1 hN nd
  unfold m__law_all
  rw [bs]
  refine Y.bind (Y.fold (I := fun pre E => All pre E) ⟨by simp, fun Q hQ => by rw [List.mem_singleton.mp hQ]; exact ⟨(fun e he => by cases he), by simp [ends]⟩, fun Q hQ => ⟨[], by simp, fun e => ⟨(fun z => by cases z), fun z => hQ.mem e z⟩, by
      cases Q with
      | nil => rfl
      | cons a Q => have := hQ.mem a (by simp); cases this⟩⟩ fun pre e post E eq hE => ?_) fun E hE => ⟨_, rfl, hE⟩
  obtain ⟨u, v⟩ := e
  have plen : pre.length + 1 ≤ 21 := by
    have := congrArg List.length eq
    rw [List.length_append, List.length_cons] at this; omega
  have pw1 : 2 ^ (pre.length + 1) ≤ 2 ^ 21 := Nat.pow_le_pow_right (by decide) plen
  have pw0 : 2 ^ (pre.length + 1) = 2 ^ pre.length * 2 := Nat.pow_succ ..
  have eN := hE.len
  have hQl : ∀ Q ∈ E, Q.length ≤ 7 := fun Q hQ => by
    have hm := hE.mt Q hQ
    have := Mt.len (Q := Q) hN n0 ⟨fun e he => by rw [eq]; exact List.mem_append_left _ (hm.mem e he), hm.nd⟩
    omega
  have uv : u ≠ v := by
    have := hN.rg (u, v) (by rw [eq]; simp)
    have : u < v := this.2.1
    omega
  rw [bs]
  refine Y.bind (Y.fold (I := fun pre2 more => more = (pre2.filter fun Q => !decide (u ∈ ends Q) && !decide (v ∈ ends Q)).map fun Q => Q ++ [(u, v)]) rfl fun pre2 Q post2 more eq2 hm => ?_) fun more hm => ?_
  · subst hm
    have hQ : Q ∈ E := by rw [eq2]; simp
    have ql := hQl Q hQ
    have ll := congrArg List.length eq2
    rw [List.length_append, List.length_cons] at ll
    have fl : ((pre2.filter fun Q => !decide (u ∈ ends Q) && !decide (v ∈ ends Q)).map fun Q => Q ++ [(u, v)]).length < 16777216 := by
      have := List.length_filter_le (fun Q => !decide (u ∈ ends Q) && !decide (v ∈ ends Q)) pre2
      rw [List.length_map]; omega
    rw [lcM_map (f := fun link : Int × Int => decide (u ∈ [link.1, link.2]) || decide (v ∈ [link.1, link.2])) (by omega) fun _ _ => rfl]
    simp only [bs]
    have ea : ((Q.map fun link : Int × Int => decide (u ∈ [link.1, link.2]) || decide (v ∈ [link.1, link.2])).any id) = !(!decide (u ∈ ends Q) && !decide (v ∈ ends Q)) := by
      rw [Bool.eq_iff_iff, List.any_map]
      simp only [List.any_eq_true, Function.comp, id, Bool.or_eq_true, decide_eq_true_eq, Bool.not_eq_true', Bool.and_eq_false_iff, Bool.not_eq_false', ends_mem]
      constructor
      · rintro ⟨e, he, z | z⟩
        · exact .inl ⟨e, he, by simpa using z⟩
        · exact .inr ⟨e, he, by simpa using z⟩
      · rintro (⟨e, he, z⟩ | ⟨e, he, z⟩)
        · exact ⟨e, he, .inl (by simpa using z)⟩
        · exact ⟨e, he, .inr (by simpa using z)⟩
    rw [ea, Bool.not_not, List.filter_append, List.map_append]
    cases hc : (!decide (u ∈ ends Q) && !decide (v ∈ ends Q)) with
    | true =>
      rw [if_pos rfl, exM_some (by simp; omega), bs, apM_some fl, bs, bs]
      refine ⟨_, rfl, ?_⟩
      simp [hc]
    | false =>
      rw [if_neg (by decide), bs]
      refine ⟨_, rfl, ?_⟩
      simp [hc]
  · subst hm
    have fl := List.length_filter_le (fun Q => !decide (u ∈ ends Q) && !decide (v ∈ ends Q)) E
    rw [exM_some (by rw [List.length_map]; omega), bs]
    refine ⟨_, rfl, ?_, fun Q hQ => ?_, fun Q hQ => ?_⟩
    · rw [List.length_append, List.length_append, List.length_map, List.length_singleton]; omega
    · rcases List.mem_append.mp hQ with z | z
      · have := hE.mt Q z
        exact ⟨fun e he => List.mem_append_left _ (this.mem e he), this.nd⟩
      · obtain ⟨R, hR, rfl⟩ := List.mem_map.mp z
        obtain ⟨r1, r2⟩ := List.mem_filter.mp hR
        simp only [Bool.and_eq_true, Bool.not_eq_true', decide_eq_false_iff_not] at r2
        have := hE.mt R r1
        refine ⟨fun e he => ?_, ?_⟩
        · rcases List.mem_append.mp he with z | z
          · exact List.mem_append_left _ (this.mem e z)
          · exact List.mem_append_right _ z
        · rw [ends_append, List.nodup_append]
          refine ⟨this.nd, by simp [ends, uv], fun a ha b hb e => ?_⟩
          subst e
          simp [ends] at hb
          rcases hb with rfl | rfl
          · exact r2.1 ha
          · exact r2.2 ha
    · by_cases he : (u, v) ∈ Q
      · have qn := mt_nodup hQ
        have hx : Mt pre (Q.erase (u, v)) := ⟨fun e h => by
          obtain ⟨h1, h2⟩ := (List.Nodup.mem_erase_iff qn).mp h
          rcases List.mem_append.mp (hQ.mem e h2) with z | z
          · exact z
          · exact absurd (List.mem_singleton.mp z) h1, sub_ends List.erase_sublist hQ.nd⟩
        obtain ⟨R, r1, r2, r3⟩ := hE.all _ hx
        have hperm : Q.Perm ((u, v) :: Q.erase (u, v)) := List.perm_cons_erase he
        have nd2 := (ends_perm hperm).nodup_iff.mp hQ.nd
        have nd3 : (u :: v :: ends (Q.erase (u, v))).Nodup := nd2
        rw [List.nodup_cons, List.nodup_cons] at nd3
        have same : ∀ x, x ∈ ends R ↔ x ∈ ends (Q.erase (u, v)) := fun x => by
          rw [ends_mem, ends_mem]
          exact ⟨fun ⟨e, a, b⟩ => ⟨e, (r2 e).mp a, b⟩, fun ⟨e, a, b⟩ => ⟨e, (r2 e).mpr a, b⟩⟩
        refine ⟨R ++ [(u, v)], List.mem_append_right _ (List.mem_map.mpr ⟨R, List.mem_filter.mpr ⟨r1, ?_⟩, rfl⟩), fun e => ?_, ?_⟩
        · have a1 : u ∉ ends R := fun z => nd3.1 (List.mem_cons_of_mem _ ((same u).mp z))
          have a2 : v ∉ ends R := fun z => nd3.2.1 ((same v).mp z)
          simp [a1, a2]
        · rw [List.mem_append, List.mem_singleton, r2, List.Nodup.mem_erase_iff qn]
          constructor
          · rintro (z | z)
            · exact z.2
            · rw [z]; exact he
          · intro z
            by_cases q : e = (u, v)
            · exact .inr q
            · exact .inl ⟨q, z⟩
        · rw [List.length_append, List.length_singleton, r3, List.length_erase_of_mem he]
          have := List.length_pos_of_mem he
          omega
      · obtain ⟨R, r1, r2, r3⟩ := hE.all Q ⟨fun e h => by
          rcases List.mem_append.mp (hQ.mem e h) with z | z
          · exact z
          · rw [List.mem_singleton] at z; subst z; exact absurd h he, hQ.nd⟩
        exact ⟨R, List.mem_append_left _ r1, r2, r3⟩
theorem law_true (ns : List Int) (hl : ns.length ≤ 63) : m_law ⟨ns⟩ = some true := by
  classical
  unfold m_law
  obtain ⟨c0, e0⟩ := y_cell (sc := ⟨ns⟩) (k := 0) (by decide)
  obtain ⟨c1, e1⟩ := y_cell (sc := ⟨ns⟩) (k := 1) (by decide)
  rw [e0]
  simp only [bs]
  rw [e1]
  simp only [bs]
  have n0 : 0 ≤ c0 % 8 := by omega
  have n1 : c0 % 8 ≤ 7 := by omega
  generalize c0 % 8 = n at n0 n1
  obtain ⟨links, el, hN⟩ := y_links (sc := ⟨ns⟩) (n := n) (shape := c1 % 5) (share := 2 + c1 / 5 % 7) n0 (by omega)
  have nd := (y_linksN (sc := ⟨ns⟩) (n := n) (shape := c1 % 5) (share := 2 + c1 / 5 % 7) n0 (by omega)).get el
  have hf := few n1 hN nd
  rw [el, bs]
  refine Y.eq (Y.bind (y_all n0 n1 hN nd) fun E hE => ?_)
  have eN := hE.len
  have pw1 : 2 ^ links.length ≤ 2 ^ 21 := Nat.pow_le_pow_right (by decide) hf
  have el2 : E.length < 16777216 := by omega
  rw [lcM_map (f := fun Q : List (Int × Int) => (Q.length : Int)) el2 fun _ _ => rfl, bs]
  obtain ⟨P, out, ef, hL, hM⟩ := y_max n0 (by omega) hN
  have pl := Mt.len (Q := P) hN n0 ⟨inl_of hN hL, hL.nd⟩
  -- the size
  have em : (E.map fun Q => (Q.length : Int)).max? = some (P.length : Int) := by
    rw [List.max?_eq_some_iff]
    constructor
    · obtain ⟨R, r1, r2, r3⟩ := hE.all P ⟨inl_of hN hL, hL.nd⟩
      exact List.mem_map.mpr ⟨R, r1, by rw [r3]⟩
    · intro b hb
      obtain ⟨Q, hQ, rfl⟩ := List.mem_map.mp hb
      have := hM.2 Q (hE.mt Q hQ)
      omega
  rw [em, bs, ef, bs]
  simp only [bs, Bool.not_true, Bool.false_eq_true, if_false, decide_true]
  rw [y_pairing (inl_of hN hL) (fun e he => (hL.adj e he).2.2.1) hL.srt hL.nd (by omega)]
  simp only [bs, Bool.not_true, Bool.false_eq_true, if_false, List.length_map, decide_true]
  rw [rngM_some, bs]
  refine Y.bind (P := fun due => due = alone n links P.length) (Y.fold (I := fun pre due => due = pre.filter fun p => decide (IsMax (links.filter (noP p)) P.length)) rfl fun pre p post due eq hf => ?_) fun due hdue => ?_
  · subst hf
    have plen : (pre.filter fun p => decide (IsMax (links.filter (noP p)) P.length)).length < 16777216 := by
      have := congrArg List.length eq
      have := List.length_filter_le (fun p => decide (IsMax (links.filter (noP p)) P.length)) pre
      rw [rngL_len, List.length_append] at *; omega
    rw [lcM_map (f := fun Q : List (Int × Int) => decide ((Q.length : Int) = P.length) && !((Q.map fun link : Int × Int => decide (p ∈ [link.1, link.2])).any id)) el2 fun Q hQ => ?_]
    · simp only [bs]
      rw [List.filter_append]
      have key : ((E.map fun Q : List (Int × Int) => decide ((Q.length : Int) = P.length) && !((Q.map fun link : Int × Int => decide (p ∈ [link.1, link.2])).any id)).any id) = decide (IsMax (links.filter (noP p)) P.length) := by
        rw [Bool.eq_iff_iff, List.any_map, decide_eq_true_eq]
        simp only [List.any_eq_true, Function.comp, id, Bool.and_eq_true, decide_eq_true_eq, Bool.not_eq_true', List.any_map, List.any_eq_false]
        constructor
        · rintro ⟨Q, hQ, q1, q2⟩
          have mQ := hE.mt Q hQ
          refine ⟨⟨Q, ⟨fun e he => List.mem_filter.mpr ⟨mQ.mem e he, ?_⟩, mQ.nd⟩, by omega⟩, fun R hR => hM.2 R ⟨fun e he => (List.mem_filter.mp (hR.mem e he)).1, hR.nd⟩⟩
          unfold noP
          have := q2 e he
          simpa using this
        · rintro ⟨⟨Q, q1, q2⟩, _⟩
          obtain ⟨R, r1, r2, r3⟩ := hE.all Q ⟨fun e he => (List.mem_filter.mp (q1.mem e he)).1, q1.nd⟩
          refine ⟨R, r1, by omega, fun e he => ?_⟩
          have := (List.mem_filter.mp (q1.mem e ((r2 e).mp he))).2
          unfold noP at this
          simpa using this
      rw [key]
      by_cases hD : IsMax (links.filter (noP p)) P.length
      · rw [if_pos (decide_eq_true hD), apM_some plen, bs, bs]
        refine ⟨_, rfl, ?_⟩
        simp [hD]
      · rw [if_neg (by rw [decide_eq_false hD]; decide), bs]
        refine ⟨_, rfl, ?_⟩
        simp [hD]
    · have mQ := hE.mt Q hQ
      have ql := Mt.len hN n0 mQ
      by_cases hq : (Q.length : Int) = P.length
      · rw [if_pos (decide_eq_true hq), lcM_map (f := fun link : Int × Int => decide (p ∈ [link.1, link.2])) (by omega) fun _ _ => rfl]
        simp only [bs, hq, decide_true, Bool.true_and]
      · rw [if_neg (by rw [decide_eq_false hq]; decide)]
        simp only [hq, decide_false, Bool.false_and]
  · subst hdue
    rw [y_left_alone n0 (by omega) hN hM, bs]
    have al := alone_len (links := links) (k := P.length) n0
    have ew : lcM (fun (_ : Int) => some true) (fun (place_1 : Int) => m__law_whole place_1) (alone n links P.length) = some ((alone n links P.length).map fun _ => true) := lcM_map (f := fun _ => true) (by omega) fun _ _ => rfl
    rw [ew]
    simp only [bs, if_true, eqB_self]
    have : ((alone n links P.length).map fun _ => true).all id = true := by rw [List.all_map]; simp
    rw [this, if_pos rfl]
    exact ⟨_, rfl, rfl⟩
end T
namespace T
open PySem PySem.Spec PyProof.Rows L2 M
def loose : List PySem.Str := (["_wall", "link_up", "path_up", "change_up", "put_ring", "grow", "helps", "Web", "helpful", "searched", "odd_places", "largest", "without_place", "left_alone", "_law_cell_at", "_law_whole", "_law_linked", "_law_links", "_law_pairing", "_law_all"] : List PySem.Str)
abbrev R : PySem.W.OpenRow := PySem.W.OpenLaw.row PySem.Challenge.rw_rollcall_k11_whole_largest_of_all
abbrev hk : PySem.W.Hook := He.hookD 6 fa fn
def ob (s : PySem.W.SharedT) : He.AlD := He.obsDG 6 fa fn (HandSHeadRun.getT s)
theorem ob_eq (s : PySem.W.SharedT) : ob s = hk.obs s.abs := He.obsDG_eq (HandSHeadRun.getT_eq s)
theorem run (w : World) : HandSHeadRun.RunEq R (PySem.W.view R.prog [24]) hk ob 3000 loose w := by
  intro os
  kernel_rfl
def spLaw (K : PySem.W.Frag) : Sp := sp1 K m_law
theorem facts {P : Program} {w : World} {K : PySem.W.Frag} {h : Heap} {mg : Str → Option Value} {f : Addr} (X : K.In h) (G : h.Ns mainGlobals mg) (hfa : mg ("law" : Str) = some (.ref f)) (C : He.SaysD fa fn K) :
    ∃ fd : FuncData, (∀ (s : Shared) (v : Value), BindsTo s fd ⟨[v], []⟩ [("script", v)]) ∧ ∀ base : Heap, K.In base → base.Ns mainGlobals mg → FnOk P w K mg base CX0 8 f fd ["script"] (spLaw K) := by
  have T : Tx K mg := { b_all := He.free_ok X G (C.fact 19 (f := .free "all") rfl), b_any := He.free_ok X G (C.fact 20 (f := .free "any") rfl), b_bool := He.free_ok X G (C.fact 21 (f := .free "bool") rfl), b_int := He.free_ok X G (C.fact 22 (f := .free "int") rfl), b_isinstance := He.free_ok X G (C.fact 23 (f := .free "isinstance") rfl), b_len := He.free_ok X G (C.fact 24 (f := .free "len") rfl), b_list := He.free_ok X G (C.fact 25 (f := .free "list") rfl), b_max := He.free_ok X G (C.fact 26 (f := .free "max") rfl), b_range := He.free_ok X G (C.fact 27 (f := .free "range") rfl), b_tuple := He.free_ok X G (C.fact 28 (f := .free "tuple") rfl), cls_Web := He.cls_ok (C.fact 29 (f := .cls "Web") rfl), mk_Web := He.mkr_ok (C.fact 30 (f := .mkr "Web") rfl), g_Web := He.glo_ok X G (C.fact 31 (f := .glo "Web") rfl), at_Web_size := He.noat_ok (C.fact 32 (f := .noat "Web" "size") rfl), at_Web_inside := He.noat_ok (C.fact 33 (f := .noat "Web" "inside") rfl), at_Web_price := He.noat_ok (C.fact 34 (f := .noat "Web" "price") rfl), at_Web_ring := He.noat_ok (C.fact 35 (f := .noat "Web" "ring") rfl), at_Web_joints := He.noat_ok (C.fact 36 (f := .noat "Web" "joints") rfl), at_Web_tie := He.noat_ok (C.fact 37 (f := .noat "Web" "tie") rfl), at_Web_mark := He.noat_ok (C.fact 38 (f := .noat "Web" "mark") rfl), at_Web_way := He.noat_ok (C.fact 39 (f := .noat "Web" "way") rfl), at_Web_outer := He.noat_ok (C.fact 40 (f := .noat "Web" "outer") rfl), mt_Web__outermost := He.meth_ok (C.fact 41 (f := .meth "Web" "outermost") rfl), mt_Web__is_ring := He.meth_ok (C.fact 42 (f := .meth "Web" "is_ring") rfl), mt_Web__begin := He.meth_ok (C.fact 43 (f := .meth "Web" "begin") rfl), mt_Web__put_together := He.meth_ok (C.fact 44 (f := .meth "Web" "put_together") rfl), mt_Web__spot := He.meth_ok (C.fact 45 (f := .meth "Web" "spot") rfl), mt_Web__take_apart := He.meth_ok (C.fact 46 (f := .meth "Web" "take_apart") rfl), mt_Web__loosen := He.meth_ok (C.fact 47 (f := .meth "Web" "loosen") rfl), mt_Web__pairs := He.meth_ok (C.fact 48 (f := .meth "Web" "pairs") rfl) }
  have g_link_up := He.glo_ok X G (C.fact 0 (f := .glo "link_up") rfl)
  have g_path_up := He.glo_ok X G (C.fact 1 (f := .glo "path_up") rfl)
  have g_change_up := He.glo_ok X G (C.fact 2 (f := .glo "change_up") rfl)
  have g_put_ring := He.glo_ok X G (C.fact 3 (f := .glo "put_ring") rfl)
  have g_grow := He.glo_ok X G (C.fact 4 (f := .glo "grow") rfl)
  have g_helps := He.glo_ok X G (C.fact 5 (f := .glo "helps") rfl)
  have g_helpful := He.glo_ok X G (C.fact 6 (f := .glo "helpful") rfl)
  have g_searched := He.glo_ok X G (C.fact 7 (f := .glo "searched") rfl)
  have g_odd_places := He.glo_ok X G (C.fact 8 (f := .glo "odd_places") rfl)
  have g_largest := He.glo_ok X G (C.fact 9 (f := .glo "largest") rfl)
  have g_without_place := He.glo_ok X G (C.fact 10 (f := .glo "without_place") rfl)
  have g_left_alone := He.glo_ok X G (C.fact 11 (f := .glo "left_alone") rfl)
  have g__law_cell_at := He.glo_ok X G (C.fact 12 (f := .glo "_law_cell_at") rfl)
  have g__law_whole := He.glo_ok X G (C.fact 13 (f := .glo "_law_whole") rfl)
  have g__law_linked := He.glo_ok X G (C.fact 14 (f := .glo "_law_linked") rfl)
  have g__law_links := He.glo_ok X G (C.fact 15 (f := .glo "_law_links") rfl)
  have g__law_pairing := He.glo_ok X G (C.fact 16 (f := .glo "_law_pairing") rfl)
  have g__law_all := He.glo_ok X G (C.fact 17 (f := .glo "_law_all") rfl)
  have g_law := He.glo_ok X G (C.fact 18 (f := .glo "law") rfl)
  obtain ⟨fdL, FL⟩ := C.def_ 27 (d := d_law) rfl
  have b := FunD.bindsA (ps := ["script"]) FL fun _ _ _ _ _ _ us hl => match us, hl with | [_], _ => rfl
  have e0 := hfa.symm.trans g_law
  cases e0
  have ok : ∀ base : Heap, Fn P w K mg base 8 "law" ["script"] (spLaw K) := fun base => by
    have F_link_up : Fn P w K mg base 1 "link_up" ["web", "body"] (sp2 K m_link_up) := ok_link_up T C g_link_up 
    have F_path_up : Fn P w K mg base 2 "path_up" ["web", "body"] (spw2 K m_path_up (fun c => .o c)) := ok_path_up T C g_path_up F_link_up
    have F_change_up : Fn P w K mg base 3 "change_up" ["web", "body", "link"] (spo_change_up K) := ok_change_up T C g_change_up F_link_up F_path_up
    have F_Web__put_together : FnM P w K base mg 1 "Web" "put_together" ["self", "ring", "joints", "tie"] (spo_Web__put_together K) := ok_Web__put_together T C 
    have F_put_ring : Fn P w K mg base 3 "put_ring" ["web", "u", "v"] (spo_put_ring K) := ok_put_ring T C g_put_ring F_Web__put_together F_link_up F_path_up
    have F_grow : Fn P w K mg base 4 "grow" ["web", "u", "v"] (spo_grow K) := ok_grow T C g_grow F_change_up F_path_up F_put_ring
    have F_helps : Fn P w K mg base 1 "helps" ["web", "u", "v"] (sp3 K m_helps) := ok_helps T C g_helps 
    have F_Web__new : FnC P w K base mg 1 "Web" ["self", "size", "price"] (spo_Web__new K) := ok_Web__new T C 
    have F_Web__outermost : FnM P w K base mg 1 "Web" "outermost" ["self"] (spw1 K m_Web__outermost (fun c => .o c)) := ok_Web__outermost T C 
    have F_Web__is_ring : FnM P w K base mg 1 "Web" "is_ring" ["self", "body"] (sp2 K m_Web__is_ring) := ok_Web__is_ring T C 
    have F_Web__begin : FnM P w K base mg 2 "Web" "begin" ["self"] (spo_Web__begin K) := ok_Web__begin T C F_Web__outermost
    have F_Web__spot : FnM P w K base mg 1 "Web" "spot" ["self", "ring", "place"] (sp3 K m_Web__spot) := ok_Web__spot T C 
    have F_Web__take_apart : FnM P w K base mg 2 "Web" "take_apart" ["self", "body"] (spo_Web__take_apart K) := ok_Web__take_apart T C F_Web__spot
    have F_Web__loosen : FnM P w K base mg 3 "Web" "loosen" ["self", "all_of_them"] (spo_Web__loosen K) := ok_Web__loosen T C F_Web__is_ring F_Web__outermost F_Web__take_apart
    have F_Web__pairs : FnM P w K base mg 4 "Web" "pairs" ["self"] (spo_Web__pairs K) := ok_Web__pairs T C F_Web__loosen
    have F_helpful : Fn P w K mg base 2 "helpful" ["web", "links"] (sp2 K m_helpful) := ok_helpful T C g_helpful F_helps
    have F_searched : Fn P w K mg base 5 "searched" ["web", "links"] (spo_searched K) := ok_searched T C g_searched F_Web__begin F_grow F_helpful
    have F_odd_places : Fn P w K mg base 1 "odd_places" ["web"] (spw1 K m_odd_places (fun c => .o c)) := ok_odd_places T C g_odd_places 
    have F_largest : Fn P w K mg base 6 "largest" ["n", "links"] (spw2 K m_largest (fun c => .ot_ [.o c.1, .o c.2])) := ok_largest T C g_largest F_Web__loosen F_Web__new F_Web__pairs F_odd_places F_searched
    have F_without_place : Fn P w K mg base 1 "without_place" ["links", "place"] (spw2 K m_without_place (fun c => .o c)) := ok_without_place T C g_without_place 
    have F_left_alone : Fn P w K mg base 7 "left_alone" ["n", "links"] (spw2 K m_left_alone (fun c => .o c)) := ok_left_alone T C g_left_alone F_largest F_without_place
    have F__law_cell_at : Fn P w K mg base 1 "_law_cell_at" ["script", "k"] (sp2 K m__law_cell_at) := ok__law_cell_at T C g__law_cell_at 
    have F__law_whole : Fn P w K mg base 1 "_law_whole" ["found"] (sp1 K m__law_whole) := ok__law_whole T C g__law_whole 
    have F__law_linked : Fn P w K mg base 1 "_law_linked" ["u", "v", "n", "shape", "cell", "share"] (sp6 K m__law_linked) := ok__law_linked T C g__law_linked 
    have F__law_links : Fn P w K mg base 2 "_law_links" ["script", "n", "shape", "share"] (spw4 K m__law_links (fun c => .o c)) := ok__law_links T C g__law_links F__law_cell_at F__law_linked
    have F__law_pairing : Fn P w K mg base 2 "_law_pairing" ["found", "links"] (sp2 K m__law_pairing) := ok__law_pairing T C g__law_pairing F__law_whole
    have F__law_all : Fn P w K mg base 1 "_law_all" ["links"] (sp1 K m__law_all) := ok__law_all T C g__law_all 
    have F_law : Fn P w K mg base 8 "law" ["script"] (sp1 K m_law) := ok_law T C g_law F__law_all F__law_cell_at F__law_links F__law_pairing F__law_whole F_largest F_left_alone
    exact F_law
  refine ⟨fdL, fun s v => b s [v] rfl, fun base _ _ => ?_⟩
  obtain ⟨fd2, h1, h2, h3⟩ := (ok base).ex
  have ef : fd2 = fdL := fn_same h3 FL
  rw [← ef]
  exact h1
end T
open PySem PySem.W PySem.Calls PyProof.Rows
theorem PySem.Challenge.cw_rollcall_k11_whole_largest_of_all_holds : PySem.Challenge.rw_rollcall_k11_whole_largest_of_all.Holds := by
  w_on; o_law
  refine HandSHeadRun.head_any (r := OpenLaw.row PySem.Challenge.rw_rollcall_k11_whole_largest_of_all) (q := view (OpenLaw.row PySem.Challenge.rw_rollcall_k11_whole_largest_of_all).prog [24]) (H := T.hk) (ob := T.ob) (M := 3000) (loose := T.loose) (d := HandSHeadRun.topDef (OpenLaw.row PySem.Challenge.rw_rollcall_k11_whole_largest_of_all).prog 24) (kwd := []) T.ob_eq
    (by kernel_rfl) (fun s => by kernel_rfl) T.run (by kernel_rfl) (by kernel_rfl) (by kernel_rfl) (by rfl) (by first | assumption | decide +kernel) (by decide +kernel) ⟨rfl, rfl, rfl, rfl, rfl, by decide +kernel⟩ ?hw ?hc
  case hw => w_witness2
  case hc =>
    refine L2.walk_ofE (l := PySem.Challenge.rw_rollcall_k11_whole_largest_of_all) (n := 63) (k := 8) (x := "script") (CX := L2.CX0) rfl (by decide) (by kernel_rfl) ⟨rfl, by decide, by decide⟩ ?F (fun _ _ _ _ z => z)
    intro w mg fa h Y G hmg0
    obtain ⟨K, KX, c⟩ := Y
    have hmg : mg ("law" : PySem.Str) = some (.ref fa) := by
      have e : (HandSHeadRun.topDef (OpenLaw.row PySem.Challenge.rw_rollcall_k11_whole_largest_of_all).prog 24).name = ("law" : PySem.Str) := by kernel_rfl
      rw [← e]
      exact hmg0
    obtain ⟨fd, hb, hF⟩ := T.facts (P := (PySem.Challenge.rw_rollcall_k11_whole_largest_of_all).prog) (w := w) KX G hmg c
    exact ⟨K, fd, T.spLaw K, KX, hb, fun H a ns hl _ hS => M.law_end hS (T.law_true ns hl), hF⟩
