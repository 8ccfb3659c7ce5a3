import PyProof.Rows.All
import Wide.All
import OpenK.AllK
import Wide.FinOn
import HandS.ForMost
import HandS.ForExc
import HandS.Property
import HandS.MakeKw
import HandS.MakeKwOnly
import HandS.WideBits
import HandS.IsInst
import HandS.OwnEq
import HandS.Flow
import HandS.Style
import HandS.Head0
import HandS.Head1
import HandS.Head2
import HandS.HeadEnd
import HandS.HeadHook1
import HandS.HeadHook2
import HandS.HeadHook3
import HandS.HeadHook4
import KE.KStateDown
import HandS.HeadNt
import PySem.Challenge.RW_ringvotes_k09_pipes_and_meters
set_option Elab.async false
set_option linter.all false
set_option maxRecDepth 100000
set_option maxHeartbeats 0
section
/-! Data without a heap (D), how it lies in a heap (Rp), and what a piece of the text computes over it. -/
namespace RV
open PySem L2
inductive D where
  | non
  | bl (b : Bool)
  | int (i : Int)
  | str (s : Str)
  | ty (n : String)
  | adr (a : Addr)
  | cell (k : Nat)
  | scr (ns : List Int)
  | tup (ds : List D)
  | lst (ds : List D)
  | obj (C : Addr) (fs : List (Str × D))

mutual
inductive Rp (K : PySem.W.Frag) (as : List Addr) (F : Hp) : D → V → Prop where
  | non : Rp K as F .non .non
  | bl (b : Bool) : Rp K as F (.bl b) (.bl b)
  | int (i : Int) : Rp K as F (.int i) (.int i)
  | str (s : Str) : Rp K as F (.str s) (.str s)
  | ty (n : String) : Rp K as F (.ty n) (.ty n)
  | adr (a : Addr) : Rp K as F (.adr a) (.ref a)
  | cell {k : Nat} {a : Addr} : as[k]? = some a → Rp K as F (.cell k) (.ref a)
  | scr {a : Addr} {ns : List Int} : SqL K F a (ns.map V.int) → Rp K as F (.scr ns) (.ref a)
  | tup {a : Addr} {xs : List V} {ds : List D} : SqT K F a xs → RpL K as F ds xs → Rp K as F (.tup ds) (.ref a)
  | lst {a : Addr} {xs : List V} {ds : List D} : F a = some (.lst xs) → RpL K as F ds xs → Rp K as F (.lst ds) (.ref a)
  | obj {a C dx : Addr} {fs : List (Str × D)} {vfs : List (Str × V)} : F a = some (.ins C dx vfs) → RpF K as F fs vfs → Rp K as F (.obj C fs) (.ref a)
inductive RpL (K : PySem.W.Frag) (as : List Addr) (F : Hp) : List D → List V → Prop where
  | nil : RpL K as F [] []
  | cons {d : D} {v : V} {ds : List D} {vs : List V} : Rp K as F d v → RpL K as F ds vs → RpL K as F (d :: ds) (v :: vs)
inductive RpF (K : PySem.W.Frag) (as : List Addr) (F : Hp) : List (Str × D) → List (Str × V) → Prop where
  | nil : RpF K as F [] []
  | cons {n : Str} {d : D} {v : V} {fs : List (Str × D)} {vfs : List (Str × V)} : Rp K as F d v → RpF K as F fs vfs → RpF K as F ((n, d) :: fs) ((n, v) :: vfs)
end

/-- what F knows, H knows -/
def Ex (F H : Hp) : Prop := ∀ a o, F a = some o → H a = some o
theorem Ex.refl (F : Hp) : Ex F F := fun _ _ h => h
theorem Ex.trans {F G H : Hp} (a : Ex F G) (b : Ex G H) : Ex F H := fun x o h => b x o (a x o h)
theorem Ex.sqT {K : PySem.W.Frag} {F H : Hp} {a : Addr} {xs : List V} (e : Ex F H) (h : SqT K F a xs) : SqT K H a xs := by
  rcases h with h | h
  · rcases h with h | ⟨o, h⟩
    · exact .inl (.inl (e a _ h))
    · exact .inl (.inr ⟨o, e a _ h⟩)
  · exact .inr h
theorem Ex.sqL {K : PySem.W.Frag} {F H : Hp} {a : Addr} {xs : List V} (e : Ex F H) (h : SqL K F a xs) : SqL K H a xs := by
  rcases h with h | h
  · rcases h with h | ⟨o, h⟩
    · exact .inl (.inl (e a _ h))
    · exact .inl (.inr ⟨o, e a _ h⟩)
  · exact .inr h
theorem Ex.new {F : Hp} {p : Addr} {o : HO} (h : F p = none) : Ex F (upd F p o) := fun a u q => by
  rw [upd_ne (ne_of_none q h)]
  exact q
theorem Ex.both {F H : Hp} {p : Addr} {o : HO} (e : Ex F H) : Ex (upd F p o) (upd H p o) := fun a u q => by
  by_cases h : a = p
  · subst h
    rw [upd_same] at q ⊢
    exact q
  · rw [upd_ne h] at q ⊢
    exact e a u q

def Pre (as bs : List Addr) : Prop := ∀ (i : Nat) (a : Addr), as[i]? = some a → bs[i]? = some a
theorem Pre.refl (as : List Addr) : Pre as as := fun _ _ h => h
theorem Pre.trans {as bs cs : List Addr} (a : Pre as bs) (b : Pre bs cs) : Pre as cs := fun i x h => b i x (a i x h)

section
variable {K : PySem.W.Frag} {as bs : List Addr} {F G : Hp}
mutual
theorem Rp.mono (e : Ex F G) (p : Pre as bs) : ∀ {d : D} {v : V}, Rp K as F d v → Rp K bs G d v
  | _, _, .non => .non
  | _, _, .bl b => .bl b
  | _, _, .int i => .int i
  | _, _, .str s => .str s
  | _, _, .ty n => .ty n
  | _, _, .adr a => .adr a
  | _, _, .cell h => .cell (p _ _ h)
  | _, _, .scr h => .scr (e.sqL h)
  | _, _, .tup h r => .tup (e.sqT h) (RpL.mono e p r)
  | _, _, .lst h r => .lst (e _ _ h) (RpL.mono e p r)
  | _, _, .obj h r => .obj (e _ _ h) (RpF.mono e p r)
theorem RpL.mono (e : Ex F G) (p : Pre as bs) : ∀ {ds : List D} {vs : List V}, RpL K as F ds vs → RpL K bs G ds vs
  | _, _, .nil => .nil
  | _, _, .cons h r => .cons (Rp.mono e p h) (RpL.mono e p r)
theorem RpF.mono (e : Ex F G) (p : Pre as bs) : ∀ {fs : List (Str × D)} {vfs : List (Str × V)}, RpF K as F fs vfs → RpF K bs G fs vfs
  | _, _, .nil => .nil
  | _, _, .cons h r => .cons (Rp.mono e p h) (RpF.mono e p r)
end
theorem RpL.length : ∀ {ds : List D} {vs : List V}, RpL K as F ds vs → ds.length = vs.length
  | _, _, .nil => rfl
  | _, _, .cons _ r => congrArg (· + 1) r.length
theorem RpL.append : ∀ {ds es : List D} {vs ws : List V}, RpL K as F ds vs → RpL K as F es ws → RpL K as F (ds ++ es) (vs ++ ws)
  | _, _, _, _, .nil, s => s
  | _, _, _, _, .cons h r, s => .cons h (r.append s)
theorem RpL.get : ∀ {ds : List D} {vs : List V}, RpL K as F ds vs → ∀ {i : Nat} {d : D}, ds[i]? = some d → ∃ v, vs[i]? = some v ∧ Rp K as F d v
  | _, _, .nil, i, d, h => by simp at h
  | _, _, .cons h r, 0, d, e => by
    simp only [List.getElem?_cons_zero, Option.some.injEq] at e
    subst e
    exact ⟨_, rfl, h⟩
  | _, _, .cons h r, i + 1, d, e => by
    obtain ⟨v, q, z⟩ := r.get (i := i) (d := d) (by simpa using e)
    exact ⟨v, by simpa using q, z⟩
theorem RpL.get' : ∀ {ds : List D} {vs : List V}, RpL K as F ds vs → ∀ {i : Nat} {v : V}, vs[i]? = some v → ∃ d, ds[i]? = some d ∧ Rp K as F d v
  | _, _, .nil, i, d, h => by simp at h
  | _, _, .cons h r, 0, d, e => by
    simp only [List.getElem?_cons_zero, Option.some.injEq] at e
    subst e
    exact ⟨_, rfl, h⟩
  | _, _, .cons h r, i + 1, d, e => by
    obtain ⟨v, q, z⟩ := r.get' (i := i) (v := d) (by simpa using e)
    exact ⟨v, by simpa using q, z⟩
theorem RpL.set {d : D} {v : V} (h : Rp K as F d v) : ∀ {ds : List D} {vs : List V} (i : Nat), RpL K as F ds vs → RpL K as F (ds.set i d) (vs.set i v)
  | _, _, _, .nil => .nil
  | _, _, 0, .cons _ r => .cons h r
  | _, _, i + 1, .cons q r => .cons q (RpL.set h i r)
theorem RpL.drop : ∀ {ds : List D} {vs : List V} (n : Nat), RpL K as F ds vs → RpL K as F (ds.drop n) (vs.drop n)
  | _, _, 0, r => r
  | _, _, _ + 1, .nil => .nil
  | _, _, n + 1, .cons _ r => RpL.drop n r
theorem RpL.take : ∀ {ds : List D} {vs : List V} (n : Nat), RpL K as F ds vs → RpL K as F (ds.take n) (vs.take n)
  | _, _, 0, _ => .nil
  | _, _, _ + 1, .nil => .nil
  | _, _, n + 1, .cons h r => .cons h (RpL.take n r)
theorem RpF.look {f : Str} : ∀ {fs : List (Str × D)} {vfs : List (Str × V)} {d : D}, RpF K as F fs vfs → fs.lookup f = some d → ∃ v, vfs.lookup f = some v ∧ Rp K as F d v
  | _, _, d, .nil, e => by simp at e
  | _, _, d, .cons (n := n) h r, e => by
    by_cases q : (f == n) = true
    · simp only [List.lookup, q] at e ⊢
      cases e
      exact ⟨_, rfl, h⟩
    · have q' : (f == n) = false := by simpa using q
      simp only [List.lookup, q'] at e ⊢
      exact r.look e
theorem RpF.look0 {f : Str} : ∀ {fs : List (Str × D)} {vfs : List (Str × V)}, RpF K as F fs vfs → fs.lookup f = none → vfs.lookup f = none
  | _, _, .nil, e => rfl
  | _, _, .cons (n := n) h r, e => by
    by_cases q : (f == n) = true
    · simp only [List.lookup, q] at e
      cases e
    · have q' : (f == n) = false := by simpa using q
      simp only [List.lookup, q'] at e ⊢
      exact r.look0 e
theorem RpL.unsn {ds : List D} {d : D} {vs : List V} (r : RpL K as F (d :: ds) vs) : ∃ v ws, vs = v :: ws ∧ Rp K as F d v ∧ RpL K as F ds ws := by
  cases r with
  | cons h r => exact ⟨_, _, rfl, h, r⟩
theorem RpL.unnil {vs : List V} (r : RpL K as F [] vs) : vs = [] := by
  cases r
  rfl
end

/-! ### cells: lists, dicts, objects that change; what they hold names no cell -/
inductive Cell where
  | lst (ds : List D)
  | dic (kvs : List (Key × D))
  | ob (C : Addr) (fs : List (Str × D))
  | hid
def Cell.isHid : Cell → Bool
  | .hid => true
  | _ => false
abbrev WS := List Cell
def RpK (K : PySem.W.Frag) (as : List Addr) (F : Hp) : List (Key × D) → List (Key × V) → Prop
  | [], [] => True
  | (k, d) :: r, (k', v) :: s => k = k' ∧ Rp K as F d v ∧ RpK K as F r s
  | _, _ => False
theorem RpK.mono {K : PySem.W.Frag} {as bs : List Addr} {F G : Hp} (e : Ex F G) (p : Pre as bs) : ∀ {ds : List (Key × D)} {vs : List (Key × V)}, RpK K as F ds vs → RpK K bs G ds vs
  | [], [], _ => trivial
  | _ :: _, _ :: _, h => ⟨h.1, h.2.1.mono e p, RpK.mono e p h.2.2⟩
  | [], _ :: _, h => h.elim
  | _ :: _, [], h => h.elim
def CellOf (K : PySem.W.Frag) (F : Hp) : Cell → HO → Prop
  | .lst ds, .lst xs => RpL K [] F ds xs
  | .dic kvs, .dK vkv => RpK K [] F kvs vkv
  | .ob C fs, .ins C' _ vfs => C' = C ∧ RpF K [] F fs vfs
  | .hid, _ => True
  | _, _ => False
theorem CellOf.mono {K : PySem.W.Frag} {F G : Hp} (e : Ex F G) : ∀ {c : Cell} {o : HO}, CellOf K F c o → CellOf K G c o := by
  intro c o h
  cases c with
  | hid => trivial
  | lst ds =>
    cases o with
    | lst xs => exact RpL.mono e (Pre.refl _) h
    | _ => exact h.elim
  | dic ds =>
    cases o with
    | dK xs => exact RpK.mono e (Pre.refl _) h
    | _ => exact h.elim
  | ob C fs =>
    cases o with
    | ins C' dx vfs => exact ⟨h.1, RpF.mono e (Pre.refl _) h.2⟩
    | _ => exact h.elim
structure CellAt (K : PySem.W.Frag) (F H : Hp) (p : Addr) (c : Cell) : Prop where
  out : c.isHid = false → F p = none
  at_ : ∃ o, H p = some o ∧ CellOf K F c o
theorem CellAt.there {K : PySem.W.Frag} {F H : Hp} {p : Addr} {c : Cell} (h : CellAt K F H p c) : H p ≠ none := by
  obtain ⟨o, e, _⟩ := h.at_
  rw [e]
  simp
/-- F: what stands still; H: the heap; as, S: the cells -/
structure Sit (K : PySem.W.Frag) (as : List Addr) (F H : Hp) (S : WS) : Prop where
  len : as.length = S.length
  ex : Ex F H
  nd : as.Nodup
  cell : ∀ (i : Nat) (p : Addr) (c : Cell), as[i]? = some p → S[i]? = some c → CellAt K F H p c
theorem Sit.at_ {K : PySem.W.Frag} {as : List Addr} {F H : Hp} {S : WS} (I : Sit K as F H S) {i : Nat} {c : Cell} (h : S[i]? = some c) : ∃ p, as[i]? = some p ∧ CellAt K F H p c := by
  have hl : i < as.length := by
    rw [I.len]
    exact (List.getElem?_eq_some_iff.mp h).1
  exact ⟨as[i], List.getElem?_eq_getElem hl, I.cell i _ c (List.getElem?_eq_getElem hl) h⟩
theorem Sit.there {K : PySem.W.Frag} {as : List Addr} {F H : Hp} {S : WS} (I : Sit K as F H S) {p : Addr} (h : p ∈ as) : H p ≠ none := by
  obtain ⟨i, hi⟩ := List.getElem?_of_mem h
  have hl : i < S.length := by
    rw [← I.len]
    exact (List.getElem?_eq_some_iff.mp hi).1
  exact (I.cell i p S[i] hi (List.getElem?_eq_getElem hl)).there
structure Grow (K : PySem.W.Frag) (as : List Addr) (F H : Hp) (bs : List Addr) (F' H' : Hp) (S' : WS) : Prop where
  sit : Sit K bs F' H' S'
  pre : Pre as bs
  ex : Ex F F'
  new : ∀ a, F' a ≠ none → F a ≠ none ∨ H a = none
  newc : ∀ p ∈ bs, p ∈ as ∨ H p = none
  old : ∀ a o, a ∉ as → H a = some o → H' a = some o
  there : ∀ a, H a ≠ none → H' a ≠ none
section
variable {K : PySem.W.Frag} {as bs cs : List Addr} {F H F1 H1 F2 H2 : Hp} {S S1 S2 : WS}
theorem Grow.refl (I : Sit K as F H S) : Grow K as F H as F H S :=
  ⟨I, Pre.refl _, Ex.refl _, fun _ h => .inl h, fun _ h => .inl h, fun _ _ _ h => h, fun _ h => h⟩
theorem none_back {a : Addr} (t : H a ≠ none → H1 a ≠ none) (h : H1 a = none) : H a = none := by
  cases q : H a with
  | none => rfl
  | some o => exact absurd h (t (by rw [q]; simp))
theorem Grow.trans (a : Grow K as F H bs F1 H1 S1) (b : Grow K bs F1 H1 cs F2 H2 S2) : Grow K as F H cs F2 H2 S2 where
  sit := b.sit
  pre := a.pre.trans b.pre
  ex := a.ex.trans b.ex
  new := fun x h => by
    rcases b.new x h with h | h
    · exact a.new x h
    · exact .inr (none_back (a.there x) h)
  newc := fun p h => by
    rcases b.newc p h with h | h
    · exact a.newc p h
    · exact .inr (none_back (a.there p) h)
  old := fun x o h q => by
    have q1 := a.old x o h q
    refine b.old x o (fun hx => ?_) q1
    rcases a.newc x hx with z | z
    · exact h z
    · rw [z] at q
      cases q
  there := fun x h => b.there x (a.there x h)
theorem RpE_aux {d : D} {v : V} (g : Grow K as F H bs F1 H1 S1) (r : Rp K as F d v) : Rp K bs F1 d v := r.mono g.ex g.pre
theorem Sit.out {p : Addr} (I : Sit K as F H S) (hp : H p = none) : F p = none := by
  cases q : F p with
  | none => rfl
  | some u =>
    have z := I.ex p u q
    rw [hp] at z
    cases z
theorem upd_there {p a : Addr} {o : HO} (h : H a ≠ none) : upd H p o a ≠ none := by
  by_cases e : a = p
  · subst e
    rw [upd_same]
    simp
  · rw [upd_ne e]
    exact h
/-- a new thing that stands still -/
theorem Sit.grow {p : Addr} {o : HO} (I : Sit K as F H S) (hp : H p = none) : Grow K as F H as (upd F p o) (upd H p o) S := by
  have fp : F p = none := I.out hp
  have np : ∀ q ∈ as, q ≠ p := fun q hq e => I.there (e ▸ hq) hp
  refine ⟨⟨I.len, I.ex.both, I.nd, fun i q c h1 h2 => ?_⟩, Pre.refl _, Ex.new fp, fun a h => ?_, fun _ h => .inl h, fun a u _ h => ?_, fun a h => upd_there h⟩
  · obtain ⟨z1, ob, z2, z3⟩ := I.cell i q c h1 h2
    have nq : q ≠ p := np q (List.mem_of_getElem? h1)
    exact ⟨fun h => by rw [upd_ne nq]; exact z1 h, ob, by rw [upd_ne nq]; exact z2, z3.mono (Ex.new fp)⟩
  · by_cases e : a = p
    · subst e
      exact .inr hp
    · rw [upd_ne e] at h
      exact .inl h
  · rw [upd_ne (ne_of_none h hp)]
    exact h
/-- a thing that neither stands still nor is a cell changes -/
theorem Sit.other {p : Addr} {o : HO} (I : Sit K as F H S) (hf : F p = none) (ha : p ∉ as) : Sit K as F (upd H p o) S := by
  refine ⟨I.len, fun a u h => ?_, I.nd, fun i q c h1 h2 => ?_⟩
  · have np : a ≠ p := fun z => by rw [z, hf] at h; cases h
    rw [upd_ne np]
    exact I.ex a u h
  · obtain ⟨z1, ob, z2, z3⟩ := I.cell i q c h1 h2
    have nq : q ≠ p := fun z => ha (z ▸ List.mem_of_getElem? h1)
    exact ⟨z1, ob, by rw [upd_ne nq]; exact z2, z3⟩
/-- a thing that is no cell stands still from here on -/
theorem Sit.freeze {p : Addr} {o : HO} (I : Sit K as F H S) (hf : F p = none) (ha : p ∉ as) (hp : H p = some o) : Sit K as (upd F p o) H S := by
  refine ⟨I.len, fun a u h => ?_, I.nd, fun i q c h1 h2 => ?_⟩
  · by_cases e2 : a = p
    · subst e2
      rw [upd_same] at h
      cases h
      exact hp
    · rw [upd_ne e2] at h
      exact I.ex a u h
  · obtain ⟨z1, ob, z2, z3⟩ := I.cell i q c h1 h2
    have nq : q ≠ p := fun z => ha (z ▸ List.mem_of_getElem? h1)
    exact ⟨fun h => by rw [upd_ne nq]; exact z1 h, ob, z2, z3.mono (Ex.new hf)⟩
end

/-! ### what is computed -/
abbrev Env := List (Option D)
abbrev M := WS → Option (D × WS)
abbrev MB := WS → Option (Bool × WS)
abbrev ML := WS → Option (List D × WS)
inductive Out where
  | nx (ρ : Env)
  | ret (d : D)
  | bk (ρ : Env)
  | ct (ρ : Env)
abbrev MS := WS → Option (Out × WS)
/-- the slots -/
structure RpE (K : PySem.W.Frag) (as : List Addr) (F : Hp) (ρ : Env) (σ : L2.St) : Prop where
  len : ρ.length = σ.length
  at_ : ∀ (i : Nat) (d : D), ρ[i]? = some (some d) → ∃ v, σ[i]? = some (some v) ∧ Rp K as F d v
theorem RpE.mono {K : PySem.W.Frag} {as bs : List Addr} {F G : Hp} {ρ : Env} {σ : L2.St} (r : RpE K as F ρ σ) (e : Ex F G) (p : Pre as bs) : RpE K bs G ρ σ :=
  ⟨r.len, fun i d h => let ⟨v, h1, h2⟩ := r.at_ i d h; ⟨v, h1, h2.mono e p⟩⟩
theorem RpE.grow {K : PySem.W.Frag} {as bs : List Addr} {F H F1 H1 : Hp} {S1 : WS} {ρ : Env} {σ : L2.St} (r : RpE K as F ρ σ) (g : Grow K as F H bs F1 H1 S1) : RpE K bs F1 ρ σ := r.mono g.ex g.pre
theorem RpE.set {K : PySem.W.Frag} {as : List Addr} {F : Hp} {ρ : Env} {σ : L2.St} {i : Nat} {d : D} {v : V} (r : RpE K as F ρ σ) (h : Rp K as F d v) : RpE K as F (ρ.set i (some d)) (σ.set i (some v)) := by
  refine ⟨by rw [List.length_set, List.length_set]; exact r.len, fun j e q => ?_⟩
  by_cases hj : i = j
  · subst hj
    have hl : i < ρ.length := by
      have := (List.getElem?_eq_some_iff.mp q).1
      rwa [List.length_set] at this
    rw [List.getElem?_set_self hl] at q
    cases q
    exact ⟨v, List.getElem?_set_self (by rw [← r.len]; exact hl), h⟩
  · rw [List.getElem?_set_ne hj] at q ⊢
    exact r.at_ j e q

/-- the value of an expression's reading, by the data -/
def ME (K : PySem.W.Frag) (te : TE) (m : Env → M) : Prop := ∀ (as : List Addr) (F H : Hp) (S : WS) (ρ : Env) (σ : L2.St), Sit K as F H S → RpE K as F ρ σ → ∀ d S', m ρ S = some (d, S') →
  ∀ Q : VK, (∀ F' H' v, Grow K as F H as F' H' S' → Rp K as F' d v → Q v H') → te σ H Q
def MTt (K : PySem.W.Frag) (te : TT) (m : Env → MB) : Prop := ∀ (as : List Addr) (F H : Hp) (S : WS) (ρ : Env) (σ : L2.St), Sit K as F H S → RpE K as F ρ σ → ∀ b S', m ρ S = some (b, S') →
  ∀ Q : Bool → Hp → Prop, (∀ F' H', Grow K as F H as F' H' S' → Q b H') → te σ H Q
def MA (K : PySem.W.Frag) (te : TA) (m : Env → ML) : Prop := ∀ (as : List Addr) (F H : Hp) (S : WS) (ρ : Env) (σ : L2.St), Sit K as F H S → RpE K as F ρ σ → ∀ ds S', m ρ S = some (ds, S') →
  ∀ Q : List V → Hp → Prop, (∀ F' H' vs, Grow K as F H as F' H' S' → RpL K as F' ds vs → Q vs H') → te σ H Q
def Ends.at (K : PySem.W.Frag) (E : Ends) (bs : List Addr) (F' H' : Hp) : Out → Prop
  | .nx ρ => ∀ σ, RpE K bs F' ρ σ → E.nx σ H'
  | .ret d => ∀ v, Rp K bs F' d v → E.rt v H'
  | .bk ρ => ∀ σ, RpE K bs F' ρ σ → E.bk σ H'
  | .ct ρ => ∀ σ, RpE K bs F' ρ σ → E.ct σ H'
def MSt (K : PySem.W.Frag) (ts : TS) (m : Env → MS) : Prop := ∀ (as : List Addr) (F H : Hp) (S : WS) (ρ : Env) (σ : L2.St), Sit K as F H S → RpE K as F ρ σ → ∀ o S', m ρ S = some (o, S') →
  ∀ E : Ends, (∀ bs F' H', Grow K as F H bs F' H' S' → Ends.at K E bs F' H' o) → ts E σ H

structure GE (X : Cx) (e : Expr) (m : Env → M) : Prop where
  ex : ∃ te, PE X e te ∧ ME X.K te m
structure GT (X : Cx) (e : Expr) (m : Env → MB) : Prop where
  ex : ∃ te, PT X e te ∧ MTt X.K te m
structure GW (X : Cx) (e : Expr) (m : Env → MB) : Prop where
  ex : ∃ te, PW X e te ∧ MTt X.K te m
structure GA (X : Cx) (es : List Expr) (m : Env → ML) : Prop where
  ex : ∃ te, PA X es te ∧ MA X.K te m
structure GS (X : Cx) (st : Stmt) (m : Env → MS) : Prop where
  ex : ∃ ts, PS X st ts ∧ MSt X.K ts m
structure GSs (X : Cx) (sts : List Stmt) (m : Env → MS) : Prop where
  ex : ∃ ts, PSs X sts ts ∧ MSt X.K ts m
end RV
end
section
/-! Expressions: what each construct computes, and that its reading keeps to it. -/
namespace RV
open PySem L2
section
variable {X : Cx} {a b c e : Expr} {pos : Pos} {ea eb ec ee : Env → M}

def eVar (i : Nat) : Env → M := fun ρ S => match ρ[i]? with
  | some (some d) => some (d, S)
  | _ => none
def eC (d : D) : Env → M := fun _ S => some (d, S)
theorem ge_var (i : Nat) {x : Str} (hN : X.N[i]? = some x := by rfl) (hv : Vis X.env.scope x := by first | exact Or.inl rfl | exact Or.inr (Or.inl rfl) | exact Or.inr (Or.inr rfl))
    (hd : (x == ("__debug__" : Str)) = false := by decide) (hcd : (x == ("__classdict__" : Str)) = false := by decide) : GE X (.Name x pos) (eVar i) := by
  refine ⟨tVar i, pe_var hN hv hd hcd, fun as F H S ρ σ I R d S' h Q q => ?_⟩
  unfold eVar at h
  split at h
  · rename_i d' hd'
    cases h
    obtain ⟨v, h1, h2⟩ := R.at_ i _ hd'
    exact ⟨v, h1, q F H v (Grow.refl I) h2⟩
  · cases h
theorem me_c {K : PySem.W.Frag} {v : V} {d : D} (h : ∀ as F, Rp K as F d v) : ME K (tC v) (eC d) := fun as F H S ρ σ I R d' S' e Q q => by
  cases e
  exact q F H v (Grow.refl I) (h as F)
theorem ge_int {i : Int} {j : Nat} : GE X (.Constant (.int i) j pos) (eC (.int i)) := ⟨_, pe_int, me_c fun _ _ => .int i⟩
theorem ge_bl {i : Bool} {j : Nat} : GE X (.Constant (.bool i) j pos) (eC (.bl i)) := ⟨_, pe_bl, me_c fun _ _ => .bl i⟩
theorem ge_str {i : Str} {j : Nat} : GE X (.Constant (.str i) j pos) (eC (.str i)) := ⟨_, pe_str, me_c fun _ _ => .str i⟩
theorem ge_non {j : Nat} : GE X (.Constant .none j pos) (eC .non) := ⟨_, pe_non, me_c fun _ _ => .non⟩
/-- a module's text, number, class -/
theorem ge_gstr {x z : Str} (hm : ∃ t, X.mg x = some (.str z t)) (hg : Gl X x := by rfl) (hd : (x == ("__debug__" : Str)) = false := by decide) : GE X (.Name x pos) (eC (.str z)) := by
  obtain ⟨t, hm⟩ := hm
  exact ⟨_, pe_glob (v := .str z) hg hm ⟨t, rfl⟩ hd, me_c fun _ _ => .str z⟩
theorem ge_gint {x : Str} {i : Int} (hm : ∃ t, X.mg x = some (.int i t)) (hg : Gl X x := by rfl) (hd : (x == ("__debug__" : Str)) = false := by decide) : GE X (.Name x pos) (eC (.int i)) := by
  obtain ⟨t, hm⟩ := hm
  exact ⟨_, pe_glob (v := .int i) hg hm ⟨t, rfl⟩ hd, me_c fun _ _ => .int i⟩
theorem ge_gref {x : Str} {a : Addr} (hm : X.mg x = some (.ref a)) (hg : Gl X x := by rfl) (hd : (x == ("__debug__" : Str)) = false := by decide) : GE X (.Name x pos) (eC (.adr a)) :=
  ⟨_, pe_glob (v := .ref a) hg hm rfl hd, me_c fun _ _ => .adr a⟩
theorem ge_ty {x : Str} {n : String} (hm : X.mg x = none) (hv : bootBuiltins x = some (.type n)) (hg : Gl X x := by rfl) (hn : x ≠ "__name__" := by decide) (hd : (x == ("__debug__" : Str)) = false := by decide) : GE X (.Name x pos) (eC (.ty n)) :=
  ⟨_, pe_bltn (v := .ty n) hg hm hv rfl hn hd, me_c fun _ _ => .ty n⟩

/-! ### operations -/
/-- an operation on values by one on data; nothing but new things comes -/
def RO (K : PySem.W.Frag) (r : R2) (f : WS → D → D → Option D) : Prop := ∀ (as : List Addr) (F H : Hp) (S : WS) (x y d : D) (vx vy : V), Sit K as F H S → Rp K as F x vx → Rp K as F y vy → f S x y = some d →
  ∀ Q : VK, (∀ F' H' v, Grow K as F H as F' H' S → Rp K as F' d v → Q v H') → r vx vy H Q
def eOp (f : WS → D → D → Option D) (ea eb : Env → M) : Env → M := fun ρ S => (ea ρ S).bind fun p => (eb ρ p.2).bind fun q => (f q.2 p.1 q.1).map fun d => (d, q.2)
theorem me_op {K : PySem.W.Frag} {r : R2} {f : WS → D → D → Option D} {ta tb : TE} (hr : RO K r f) (ha : ME K ta ea) (hb : ME K tb eb) : ME K (tOp r ta tb) (eOp f ea eb) := fun as F H S ρ σ I R d S' h Q q => by
  unfold eOp at h
  cases h1 : ea ρ S with
  | none => rw [h1] at h; cases h
  | some p =>
    rw [h1] at h
    cases h2 : eb ρ p.2 with
    | none => simp [h2] at h
    | some z =>
      simp only [Option.bind_some, h2] at h
      cases h3 : f z.2 p.1 z.1 with
      | none => rw [h3] at h; cases h
      | some w =>
        rw [h3] at h
        cases h
        refine ha as F H S ρ σ I R p.1 p.2 h1 _ fun F1 H1 v1 g1 r1 => ?_
        refine hb as F1 H1 p.2 ρ σ g1.sit (R.grow g1) z.1 z.2 h2 _ fun F2 H2 v2 g2 r2 => ?_
        exact hr as F2 H2 z.2 p.1 z.1 d v1 v2 g2.sit (RpE_aux g2 r1) r2 h3 Q fun F3 H3 v3 g3 r3 => q F3 H3 v3 ((g1.trans g2).trans g3) r3
theorem ge_op {op : Operator} {r : R2} {f : WS → D → D → Option D} (ho : OpR X (binaryOp op) r) (hr : RO X.K r f) (ha : GE X a ea) (hb : GE X b eb) : GE X (.BinOp a op b pos) (eOp f ea eb) := by
  obtain ⟨ta, pa, ma⟩ := ha
  obtain ⟨tb, pb, mb⟩ := hb
  exact ⟨_, pe_op ho pa pb, me_op hr ma mb⟩
theorem ge_cmp {op : CmpOp} {r : R2} {f : WS → D → D → Option D} (ho : OpR X (compareOp op) r) (hr : RO X.K r f) (ha : GE X a ea) (hb : GE X b eb) (hm : behindInMarks op b = false) : GE X (.Compare a [op] [b] pos) (eOp f ea eb) := by
  obtain ⟨ta, pa, ma⟩ := ha
  obtain ⟨tb, pb, mb⟩ := hb
  exact ⟨_, pe_cmpR ho pa pb hm, me_op hr ma mb⟩
theorem ge_ix {r : R2} {f : WS → D → D → Option D} (ho : IxR X r) (hr : RO X.K r f) (ha : GE X a ea) (hb : GE X b eb) (hs : PlainIx b := by exact fun _ _ => rfl) : GE X (.Subscript a b pos) (eOp f ea eb) := by
  obtain ⟨ta, pa, ma⟩ := ha
  obtain ⟨tb, pb, mb⟩ := hb
  exact ⟨_, pe_ix ho pa pb hs, me_op hr ma mb⟩
def RU (K : PySem.W.Frag) (r : V → Hp → VK → Prop) (f : WS → D → Option D) : Prop := ∀ (as : List Addr) (F H : Hp) (S : WS) (x d : D) (vx : V), Sit K as F H S → Rp K as F x vx → f S x = some d →
  ∀ Q : VK, (∀ F' H' v, Grow K as F H as F' H' S → Rp K as F' d v → Q v H') → r vx H Q
def eUn (f : WS → D → Option D) (ea : Env → M) : Env → M := fun ρ S => (ea ρ S).bind fun p => (f p.2 p.1).map fun d => (d, p.2)
theorem me_un {K : PySem.W.Frag} {r : V → Hp → VK → Prop} {f : WS → D → Option D} {ta : TE} (hr : RU K r f) (ha : ME K ta ea) : ME K (tUn r ta) (eUn f ea) := fun as F H S ρ σ I R d S' h Q q => by
  unfold eUn at h
  cases h1 : ea ρ S with
  | none => rw [h1] at h; cases h
  | some p =>
    simp only [h1, Option.bind_some] at h
    cases h3 : f p.2 p.1 with
    | none => rw [h3] at h; cases h
    | some w =>
      rw [h3] at h
      cases h
      refine ha as F H S ρ σ I R p.1 p.2 h1 _ fun F1 H1 v1 g1 r1 => ?_
      exact hr as F1 H1 p.2 p.1 d v1 g1.sit r1 h3 Q fun F3 H3 v3 g3 r3 => q F3 H3 v3 (g1.trans g3) r3
theorem ge_un {op : UnaryOp} {r : V → Hp → VK → Prop} {f : WS → D → Option D} (ho : UnR X (unaryOp op) r) (hr : RU X.K r f) (ha : GE X a ea) : GE X (.UnaryOp op a pos) (eUn f ea) := by
  obtain ⟨ta, pa, ma⟩ := ha
  exact ⟨_, pe_un ho pa, me_un hr ma⟩

/-! ### arguments -/
def aNil : Env → ML := fun _ S => some ([], S)
def aCons (ea : Env → M) (er : Env → ML) : Env → ML := fun ρ S => (ea ρ S).bind fun p => (er ρ p.2).map fun q => (p.1 :: q.1, q.2)
theorem ma_nil {K : PySem.W.Frag} : MA K tNil aNil := fun as F H S ρ σ I R ds S' h Q q => by
  cases h
  exact q F H [] (Grow.refl I) .nil
theorem ma_cons {K : PySem.W.Frag} {ta : TE} {tr : TA} {er : Env → ML} (ha : ME K ta ea) (hr : MA K tr er) : MA K (tCons ta tr) (aCons ea er) := fun as F H S ρ σ I R ds S' h Q q => by
  unfold aCons at h
  cases h1 : ea ρ S with
  | none => rw [h1] at h; cases h
  | some p =>
    simp only [h1, Option.bind_some] at h
    cases h2 : er ρ p.2 with
    | none => rw [h2] at h; cases h
    | some z =>
      rw [h2] at h
      cases h
      refine ha as F H S ρ σ I R p.1 p.2 h1 _ fun F1 H1 v1 g1 r1 => ?_
      refine hr as F1 H1 p.2 ρ σ g1.sit (R.grow g1) z.1 z.2 h2 _ fun F2 H2 vs g2 r2 => ?_
      exact q F2 H2 (v1 :: vs) (g1.trans g2) (.cons (RpE_aux g2 r1) r2)
theorem ga_nil : GA X [] aNil := ⟨_, pa_nil, ma_nil⟩
theorem ga_cons {es : List Expr} {er : Env → ML} (ha : GE X e ea) (hr : GA X es er) (hs : starEach (e :: es) X.env = (false, eval e X.env) :: starEach es X.env := by rfl) : GA X (e :: es) (aCons ea er) := by
  obtain ⟨ta, pa, ma⟩ := ha
  obtain ⟨tr, pr, mr⟩ := hr
  exact ⟨_, pa_cons pa pr hs, ma_cons ma mr⟩
structure GK (X : Cx) (kws : List Keyword) (m : Env → ML) : Prop where
  ex : ∃ te, PK X kws te ∧ MA X.K te m
theorem gk_nil : GK X [] aNil := ⟨_, pk_nil, ma_nil⟩
theorem gk_cons {nm : Option Str} {kpos : Pos} {kws : List Keyword} {er : Env → ML} (ha : GE X e ea) (hr : GK X kws er) : GK X (⟨nm, e, kpos⟩ :: kws) (aCons ea er) := by
  obtain ⟨ta, pa, ma⟩ := ha
  obtain ⟨tr, pr, mr⟩ := hr
  exact ⟨_, pk_cons pa pr, ma_cons ma mr⟩

/-! ### displays -/
def small (n : Nat) : Bool := decide (n ≤ 100000)
theorem small_le {n : Nat} (h : small n = true) : n ≤ sizeLine := Nat.le_trans (of_decide_eq_true h) (by decide)
def eSeq (mk : List D → D) (er : Env → ML) : Env → M := fun ρ S => (er ρ S).bind fun p => if small p.1.length = true then some (mk p.1, p.2) else none
theorem me_tup {K : PySem.W.Frag} {t : TA} {er : Env → ML} (h : MA K t er) : ME K (tTup t) (eSeq .tup er) := fun as F H S ρ σ I R d S' e Q q => by
  unfold eSeq at e
  cases h1 : er ρ S with
  | none => rw [h1] at e; cases e
  | some p =>
    simp only [h1, Option.bind_some] at e
    split at e
    · rename_i hs
      cases e
      refine h as F H S ρ σ I R p.1 p.2 h1 _ fun F1 H1 vs g1 r1 => ⟨?_, fun a ha => ?_⟩
      · rw [← r1.length]
        exact small_le hs
      · have g2 := g1.sit.grow (o := .tup vs) ha
        exact q _ _ _ (g1.trans g2) (.tup (SqT.of upd_same) (r1.mono g2.ex g2.pre))
    · cases e
theorem me_lst {K : PySem.W.Frag} {t : TA} {er : Env → ML} (h : MA K t er) : ME K (tLst t) (eSeq .lst er) := fun as F H S ρ σ I R d S' e Q q => by
  unfold eSeq at e
  cases h1 : er ρ S with
  | none => rw [h1] at e; cases e
  | some p =>
    simp only [h1, Option.bind_some] at e
    split at e
    · rename_i hs
      cases e
      refine h as F H S ρ σ I R p.1 p.2 h1 _ fun F1 H1 vs g1 r1 => ⟨?_, fun a ha => ?_⟩
      · rw [← r1.length]
        exact small_le hs
      · have g2 := g1.sit.grow (o := .lst vs) ha
        exact q _ _ _ (g1.trans g2) (.lst upd_same (r1.mono g2.ex g2.pre))
    · cases e
theorem ge_tup {es : List Expr} {er : Env → ML} {x1} (h : GA X es er) : GE X (.Tuple es x1 pos) (eSeq .tup er) := by
  obtain ⟨t, p, m⟩ := h
  exact ⟨_, pe_tup p, me_tup m⟩
theorem ge_lst {es : List Expr} {er : Env → ML} (h : GA X es er) : GE X (.List es pos) (eSeq .lst er) := by
  obtain ⟨t, p, m⟩ := h
  exact ⟨_, pe_lst p, me_lst m⟩

/-! ### calls of built-ins -/
def RC (K : PySem.W.Frag) (r : List V → Hp → VK → Prop) (f : WS → List D → Option D) : Prop := ∀ (as : List Addr) (F H : Hp) (S : WS) (ds : List D) (d : D) (vs : List V), Sit K as F H S → RpL K as F ds vs → f S ds = some d →
  ∀ Q : VK, (∀ F' H' v, Grow K as F H as F' H' S → Rp K as F' d v → Q v H') → r vs H Q
def eCall (f : WS → List D → Option D) (er : Env → ML) : Env → M := fun ρ S => (er ρ S).bind fun p => (f p.2 p.1).map fun d => (d, p.2)
theorem me_cb {K : PySem.W.Frag} {r : List V → Hp → VK → Prop} {f : WS → List D → Option D} {t : TA} {er : Env → ML} (hr : RC K r f) (h : MA K t er) : ME K (tCB r t) (eCall f er) := fun as F H S ρ σ I R d S' e Q q => by
  unfold eCall at e
  cases h1 : er ρ S with
  | none => rw [h1] at e; cases e
  | some p =>
    simp only [h1, Option.bind_some] at e
    cases h3 : f p.2 p.1 with
    | none => rw [h3] at e; cases e
    | some w =>
      rw [h3] at e
      cases e
      refine h as F H S ρ σ I R p.1 p.2 h1 _ fun F1 H1 v1 g1 r1 => ?_
      exact hr as F1 H1 p.2 p.1 d v1 g1.sit r1 h3 Q fun F3 H3 v3 g3 r3 => q F3 H3 v3 (g1.trans g3) r3
theorem ge_callB {x : Str} {id : String} {r : List V → Hp → VK → Prop} {f : WS → List D → Option D} {p : Pos} {es : List Expr} {er : Env → ML} (hc : CallR X (.builtin id) r) (hr : RC X.K r f) (hm : X.mg x = none) (hv : bootBuiltins x = some (.builtin id)) (ha : GA X (e :: es) er)
    (hg : Gl X x := by rfl) (hn : x ≠ "__name__" := by decide) (hdb : (x == ("__debug__" : Str)) = false := by decide) (h1 : starEach (e :: es) X.env = (false, eval e X.env) :: starEach es X.env := by rfl) (h2 : (backTo pos (starEach es X.env)).any (·.1) = false := by rfl) :
    GE X (.Call (.Name x p) (e :: es) [] pos) (eCall f er) := by
  obtain ⟨t, p, m⟩ := ha
  exact ⟨_, pe_callB hc hg hm hv p hn hdb h1 h2, me_cb hr m⟩
theorem ge_callTy {x : Str} {T : String} {r : List V → Hp → VK → Prop} {f : WS → List D → Option D} {p : Pos} {es : List Expr} {er : Env → ML} (hc : CallR X (.type T) r) (hr : RC X.K r f) (hm : X.mg x = none) (hv : bootBuiltins x = some (.type T)) (ha : GA X (e :: es) er)
    (hg : Gl X x := by rfl) (hn : x ≠ "__name__" := by decide) (hdb : (x == ("__debug__" : Str)) = false := by decide) (h1 : starEach (e :: es) X.env = (false, eval e X.env) :: starEach es X.env := by rfl) (h2 : (backTo pos (starEach es X.env)).any (·.1) = false := by rfl) :
    GE X (.Call (.Name x p) (e :: es) [] pos) (eCall f er) := by
  obtain ⟨t, p, m⟩ := ha
  exact ⟨_, pe_callTy hc hg hm hv p hn hdb h1 h2, me_cb hr m⟩

/-! ### calls of defs -/
/-- the promise of a def: it hands back what G says -/
def spG (K : PySem.W.Frag) (n : Nat) (G : List D → M) : Sp := fun vs H Q _ => ∃ (as : List Addr) (F : Hp) (S : WS) (ds : List D) (d : D) (S' : WS), Sit K as F H S ∧ RpL K as F ds vs ∧ ds.length = n ∧ G ds S = some (d, S') ∧
  ∀ F' H' v, Grow K as F H as F' H' S' → Rp K as F' d v → Q v H'
def eFn (n : Nat) (G : List D → M) (dvs : List D) (er : Env → ML) : Env → M := fun ρ S => (er ρ S).bind fun p => if (p.1 ++ dvs).length = n then G (p.1 ++ dvs) p.2 else none
theorem me_fn {K : PySem.W.Frag} {n : Nat} {G : List D → M} {dvs : List D} {dv : List V} {E : XK} {t : TA} {er : Env → ML} (hd : ∀ as F, RpL K as F dvs dv) (h : MA K t er) : ME K (tCall (spG K n G) dv E t) (eFn n G dvs er) := fun as F H S ρ σ I R d S' e Q q => by
  unfold eFn at e
  cases h1 : er ρ S with
  | none => rw [h1] at e; cases e
  | some p =>
    simp only [h1, Option.bind_some] at e
    split at e
    · rename_i hl
      refine h as F H S ρ σ I R p.1 p.2 h1 _ fun F1 H1 v1 g1 r1 => ?_
      exact ⟨as, F1, p.2, p.1 ++ dvs, d, S', g1.sit, r1.append (hd as F1), hl, e, fun F3 H3 v3 g3 r3 => q F3 H3 v3 (g1.trans g3) r3⟩
    · cases e
theorem ge_call {CX : CXT} {k j n : Nat} {f : Addr} {fd : FuncData} {ps : List Str} {G : List D → M} {dvs : List D} {dv : List V} {ds : List Value} {E : XK} {x : Str} {p : Pos} {es : List Expr} {er : Env → ML}
    (F : FnOk X.prog X.w X.K X.mg X.base CX k f fd ps (spG X.K n G)) (hr : Room j X.A) (hj : k ≤ j) (hm : X.mg x = some (.ref f)) (hk : PySem.W.keepIn X.K (.ref f) = true) (hb : Binds X.K fd ps ds) (hd : Vals dv ds) (hx : Passes CX X E)
    (hdv : ∀ as F, RpL X.K as F dvs dv) (ha : GA X (e :: es) er) (hg : Gl X x := by rfl) (hdb : (x == ("__debug__" : Str)) = false := by decide) (h1 : starEach (e :: es) X.env = (false, eval e X.env) :: starEach es X.env := by rfl) (h2 : (backTo pos (starEach es X.env)).any (·.1) = false := by rfl) :
    GE X (.Call (.Name x p) (e :: es) [] pos) (eFn n G dvs er) := by
  obtain ⟨t, p, m⟩ := ha
  exact ⟨_, pe_call F (hr.mono hj) hg hm hk hb hd hx p hdb h1 h2, me_fn hdv m⟩
end
end RV
end
section
/-! Tests, statements, loops, comprehensions. -/
namespace RV
open PySem L2
section
variable {X : Cx} {a b c e : Expr} {pos : Pos} {ea eb ec ee : Env → M} {ma mb : Env → MB}
/-! ### tests -/
def bBl (m : Env → M) : Env → MB := fun ρ S => match m ρ S with
  | some (.bl b, S') => some (b, S')
  | _ => none
theorem bBl_some {m : Env → M} {ρ : Env} {S S' : WS} {b : Bool} (h : bBl m ρ S = some (b, S')) : m ρ S = some (.bl b, S') := by
  unfold bBl at h
  split at h
  · rename_i h1
    cases h
    exact h1
  · cases h
theorem mt_test {K : PySem.W.Frag} {t : TE} (h : ME K t ea) : MTt K (tTest t) (bBl ea) := fun as F H S ρ σ I R b S' e Q q =>
  h as F H S ρ σ I R (.bl b) S' (bBl_some e) _ fun F' H' v g r => by
    cases r
    exact ⟨b, rfl, q F' H' g⟩
theorem mt_B {K : PySem.W.Frag} {t : TE} (h : ME K t ea) : MTt K (tB t) (bBl ea) := mt_test h
theorem gt_cmp {op : CmpOp} {r : R2} {f : WS → D → D → Option D} (ho : OpR X (compareOp op) r) (hr : RO X.K r f) (ha : GE X a ea) (hb : GE X b eb) (hm : behindInMarks op b = false) : GT X (.Compare a [op] [b] pos) (bBl (eOp f ea eb)) := by
  obtain ⟨ta, pa, ma⟩ := ha
  obtain ⟨tb, pb, mb⟩ := hb
  exact ⟨_, pt_cmpR ho pa pb hm, mt_test (me_op hr ma mb)⟩
/-- a expression that gives a bool -/
theorem gt_val (ha : GE X a ea) (he : ∀ whole, isTrue a X.env whole = (do let v ← whole; standAt a.pos; holding [v] (truthy v)) := by intro _; rfl) : GT X a (bBl ea) := by
  obtain ⟨ta, pa, ma⟩ := ha
  exact ⟨_, pt_val pa he, mt_B ma⟩
/-- by truth -/
def RT (K : PySem.W.Frag) (r : V → Hp → (Bool → Hp → Prop) → Prop) (f : WS → D → Option Bool) : Prop := ∀ (as : List Addr) (F H : Hp) (S : WS) (x : D) (b : Bool) (vx : V), Sit K as F H S → Rp K as F x vx → f S x = some b →
  ∀ Q : Bool → Hp → Prop, (∀ F' H', Grow K as F H as F' H' S → Q b H') → r vx H Q
def bTru (f : WS → D → Option Bool) (ea : Env → M) : Env → MB := fun ρ S => (ea ρ S).bind fun p => (f p.2 p.1).map fun b => (b, p.2)
theorem mt_tru {K : PySem.W.Frag} {r : V → Hp → (Bool → Hp → Prop) → Prop} {f : WS → D → Option Bool} {ta : TE} (hr : RT K r f) (ha : ME K ta ea) : MTt K (fun σ H Q => ta σ H fun x H' => r x H' Q) (bTru f ea) := fun as F H S ρ σ I R b S' e Q q => by
  unfold bTru at e
  cases h1 : ea ρ S with
  | none => rw [h1] at e; cases e
  | some p =>
    simp only [h1, Option.bind_some] at e
    cases h3 : f p.2 p.1 with
    | none => rw [h3] at e; cases e
    | some w =>
      rw [h3] at e
      cases e
      refine ha as F H S ρ σ I R p.1 p.2 h1 _ fun F1 H1 v1 g1 r1 => ?_
      exact hr as F1 H1 p.2 p.1 b v1 g1.sit r1 h3 Q fun F3 H3 g3 => q F3 H3 (g1.trans g3)
theorem pt_truthR {ta : TE} {r : V → Hp → (Bool → Hp → Prop) → Prop} (ht : TruR X r) (ha : PE X a ta) (he : ∀ whole, isTrue a X.env whole = (do let v ← whole; standAt a.pos; holding [v] (truthy v))) :
    PT X a (fun σ H Q => ta σ H fun x H' => r x H' Q) :=
  ⟨fun pins s σ H Q I h => PyProof.Rows.isTrue_plain (thn (ha.run pins s σ H _ I h) fun v s1 ⟨x, H1, I1, r1, q1⟩ => ht pins s1 σ H1 x v Q I1 r1 q1) (he _)⟩
theorem gt_tru {r : V → Hp → (Bool → Hp → Prop) → Prop} {f : WS → D → Option Bool} (ht : TruR X r) (hr : RT X.K r f) (ha : GE X a ea) (he : ∀ whole, isTrue a X.env whole = (do let v ← whole; standAt a.pos; holding [v] (truthy v)) := by intro _; rfl) : GT X a (bTru f ea) := by
  obtain ⟨ta, pa, ma⟩ := ha
  exact ⟨_, pt_truthR ht pa he, mt_tru hr ma⟩
def eNotT (m : Env → MB) : Env → M := fun ρ S => (m ρ S).map fun p => (.bl (!p.1), p.2)
/-- not a, as a value -/
theorem ge_notT {r : V → Hp → (Bool → Hp → Prop) → Prop} {f : WS → D → Option Bool} (ht : TruR X r) (hr : RT X.K r f) (ha : GE X a ea) : GE X (.UnaryOp .Not a pos) (eNotT (bTru f ea)) := by
  obtain ⟨ta, pa, ma⟩ := ha
  have mt := mt_tru hr ma
  refine ⟨fun σ H Q => ta σ H fun x H1 => r x H1 fun c H2 => Q (.bl (!c)) H2, ⟨fun pins s σ H Q I h => ?_⟩, fun as F H S ρ σ I R d S' e Q q => ?_⟩
  · refine PyProof.Rows.UnaryOp_ (thn (pa.run pins s σ H _ I h) fun v s1 ⟨x, H1, I1, r1, q1⟩ => ?_)
    exact PyProof.Rows.not_of (thn (ht pins s1 σ H1 x v _ I1 r1 q1) fun c s2 ⟨H2, I2, q2⟩ => ⟨.bl (!c), H2, I2, rfl, q2⟩)
  · unfold eNotT at e
    cases h1 : bTru f ea ρ S with
    | none => rw [h1] at e; cases e
    | some p =>
      rw [h1] at e
      cases e
      exact mt as F H S ρ σ I R p.1 p.2 h1 (fun c H2 => Q (.bl (!c)) H2) fun F' H' g => q F' H' _ g (.bl _)
def bAnd (ma mb : Env → MB) : Env → MB := fun ρ S => (ma ρ S).bind fun p => if p.1 = true then mb ρ p.2 else some (false, p.2)
def bOr (ma mb : Env → MB) : Env → MB := fun ρ S => (ma ρ S).bind fun p => if p.1 = true then some (true, p.2) else mb ρ p.2
def bNot (ma : Env → MB) : Env → MB := fun ρ S => (ma ρ S).map fun p => (!p.1, p.2)
theorem mt_and {K : PySem.W.Frag} {t u : TT} (h1 : MTt K t ma) (h2 : MTt K u mb) : MTt K (tAnd t u) (bAnd ma mb) := fun as F H S ρ σ I R b S' e Q q => by
  unfold bAnd at e
  cases h : ma ρ S with
  | none => rw [h] at e; cases e
  | some p =>
    simp only [h, Option.bind_some] at e
    refine h1 as F H S ρ σ I R p.1 p.2 h _ fun F1 H1 g1 => ?_
    split at e
    · rename_i hp
      simp only [hp, if_true]
      exact h2 as F1 H1 p.2 ρ σ g1.sit (R.grow g1) b S' e Q fun F2 H2 g2 => q F2 H2 (g1.trans g2)
    · rename_i hp
      cases e
      simp only [hp, if_false, Bool.false_eq_true]
      exact q F1 H1 g1
theorem mt_or {K : PySem.W.Frag} {t u : TT} (h1 : MTt K t ma) (h2 : MTt K u mb) : MTt K (tOr t u) (bOr ma mb) := fun as F H S ρ σ I R b S' e Q q => by
  unfold bOr at e
  cases h : ma ρ S with
  | none => rw [h] at e; cases e
  | some p =>
    simp only [h, Option.bind_some] at e
    refine h1 as F H S ρ σ I R p.1 p.2 h _ fun F1 H1 g1 => ?_
    split at e
    · rename_i hp
      cases e
      simp only [hp, if_true]
      exact q F1 H1 g1
    · rename_i hp
      simp only [hp, if_false, Bool.false_eq_true]
      exact h2 as F1 H1 p.2 ρ σ g1.sit (R.grow g1) b S' e Q fun F2 H2 g2 => q F2 H2 (g1.trans g2)
theorem mt_not {K : PySem.W.Frag} {t : TT} (h1 : MTt K t ma) : MTt K (tNot t) (bNot ma) := fun as F H S ρ σ I R b S' e Q q => by
  unfold bNot at e
  cases h : ma ρ S with
  | none => rw [h] at e; cases e
  | some p =>
    rw [h] at e
    cases e
    exact h1 as F H S ρ σ I R p.1 p.2 h _ fun F1 H1 g1 => q F1 H1 g1
theorem GW.gt (h : GW X e ma) : GT X e ma := by
  obtain ⟨t, p, m⟩ := h
  exact ⟨_, p.pt, m⟩
theorem gw_and1 (ha : GT X a ma) : GW X (.BoolOp .And [a] pos) ma := by
  obtain ⟨t, p, m⟩ := ha
  exact ⟨_, pw_and1 p, m⟩
theorem gw_or1 (ha : GT X a ma) : GW X (.BoolOp .Or [a] pos) ma := by
  obtain ⟨t, p, m⟩ := ha
  exact ⟨_, pw_or1 p, m⟩
theorem gw_and {rest : List Expr} (ha : GT X a ma) (hb : GW X (.BoolOp .And (b :: rest) pos) mb) : GW X (.BoolOp .And (a :: b :: rest) pos) (bAnd ma mb) := by
  obtain ⟨t, p, m⟩ := ha
  obtain ⟨u, p', m'⟩ := hb
  exact ⟨_, pw_and p p', mt_and m m'⟩
theorem gw_or {rest : List Expr} (ha : GT X a ma) (hb : GW X (.BoolOp .Or (b :: rest) pos) mb) : GW X (.BoolOp .Or (a :: b :: rest) pos) (bOr ma mb) := by
  obtain ⟨t, p, m⟩ := ha
  obtain ⟨u, p', m'⟩ := hb
  exact ⟨_, pw_or p p', mt_or m m'⟩
theorem gt_not (ha : GT X a ma) : GT X (.UnaryOp .Not a pos) (bNot ma) := by
  obtain ⟨t, p, m⟩ := ha
  exact ⟨_, pt_not p, mt_not m⟩
/-! bools as values -/
def eAnd (ea eb : Env → M) : Env → M := fun ρ S => (bBl ea ρ S).bind fun p => if p.1 = true then eb ρ p.2 else some (.bl false, p.2)
def eOr (ea eb : Env → M) : Env → M := fun ρ S => (bBl ea ρ S).bind fun p => if p.1 = true then some (.bl true, p.2) else eb ρ p.2
theorem ge_one {op : BoolOp} (ha : GE X a ea) : GE X (.BoolOp op [a] pos) ea := by
  obtain ⟨t, p, m⟩ := ha
  exact ⟨_, pe_one p, m⟩
theorem ge_and {rest : List Expr} (ha : GE X a ea) (hb : GE X (.BoolOp .And (b :: rest) pos) eb) : GE X (.BoolOp .And (a :: b :: rest) pos) (eAnd ea eb) := by
  obtain ⟨t, p, m⟩ := ha
  obtain ⟨u, p', m'⟩ := hb
  refine ⟨_, pe_and p p', fun as F H S ρ σ I R d S' e Q q => ?_⟩
  unfold eAnd at e
  cases h : bBl ea ρ S with
  | none => rw [h] at e; cases e
  | some z =>
    simp only [h, Option.bind_some] at e
    refine m as F H S ρ σ I R _ _ (bBl_some h) _ fun F1 H1 v g1 r1 => ?_
    cases r1
    refine ⟨z.1, rfl, ?_⟩
    split at e
    · rename_i hp
      simp only [hp, if_true]
      exact m' as F1 H1 z.2 ρ σ g1.sit (R.grow g1) d S' e Q fun F2 H2 w g2 r2 => q F2 H2 w (g1.trans g2) r2
    · rename_i hp
      cases e
      simp only [hp, if_false, Bool.false_eq_true]
      exact q F1 H1 _ g1 (.bl _)
theorem ge_or {rest : List Expr} (ha : GE X a ea) (hb : GE X (.BoolOp .Or (b :: rest) pos) eb) : GE X (.BoolOp .Or (a :: b :: rest) pos) (eOr ea eb) := by
  obtain ⟨t, p, m⟩ := ha
  obtain ⟨u, p', m'⟩ := hb
  refine ⟨_, pe_or p p', fun as F H S ρ σ I R d S' e Q q => ?_⟩
  unfold eOr at e
  cases h : bBl ea ρ S with
  | none => rw [h] at e; cases e
  | some z =>
    simp only [h, Option.bind_some] at e
    refine m as F H S ρ σ I R _ _ (bBl_some h) _ fun F1 H1 v g1 r1 => ?_
    cases r1
    refine ⟨z.1, rfl, ?_⟩
    split at e
    · rename_i hp
      cases e
      simp only [hp, if_true]
      exact q F1 H1 _ g1 (.bl _)
    · rename_i hp
      simp only [hp, if_false, Bool.false_eq_true]
      exact m' as F1 H1 z.2 ρ σ g1.sit (R.grow g1) d S' e Q fun F2 H2 w g2 r2 => q F2 H2 w (g1.trans g2) r2
def eIf (mc : Env → MB) (ea eb : Env → M) : Env → M := fun ρ S => (mc ρ S).bind fun p => if p.1 = true then ea ρ p.2 else eb ρ p.2
theorem ge_ifExp (hc : GT X c ma) (ha : GE X a ea) (hb : GE X b eb) : GE X (.IfExp c a b pos) (eIf ma ea eb) := by
  obtain ⟨tc, pc, mc⟩ := hc
  obtain ⟨t, p, m⟩ := ha
  obtain ⟨u, p', m'⟩ := hb
  refine ⟨_, pe_ifExp pc p p', fun as F H S ρ σ I R d S' e Q q => ?_⟩
  unfold eIf at e
  cases h : ma ρ S with
  | none => rw [h] at e; cases e
  | some z =>
    simp only [h, Option.bind_some] at e
    refine mc as F H S ρ σ I R z.1 z.2 h _ fun F1 H1 g1 => ?_
    split at e
    · rename_i hp
      simp only [hp, if_true]
      exact m as F1 H1 z.2 ρ σ g1.sit (R.grow g1) d S' e Q fun F2 H2 w g2 r2 => q F2 H2 w (g1.trans g2) r2
    · rename_i hp
      simp only [hp, if_false, Bool.false_eq_true]
      exact m' as F1 H1 z.2 ρ σ g1.sit (R.grow g1) d S' e Q fun F2 H2 w g2 r2 => q F2 H2 w (g1.trans g2) r2

/-! ### statements -/
variable {st : Stmt} {sts rest : List Stmt} {m1 m2 : Env → MS}
def sNil : Env → MS := fun ρ S => some (.nx ρ, S)
def sSeq (m1 m2 : Env → MS) : Env → MS := fun ρ S => (m1 ρ S).bind fun p => match p.1 with
  | .nx ρ' => m2 ρ' p.2
  | o => some (o, p.2)
theorem Ends.at_grow {K : PySem.W.Frag} {E : Ends} {as bs : List Addr} {F H : Hp} {o : Out} (h : Ends.at K E bs F H o) : Ends.at K E bs F H o := h
theorem ms_nil {K : PySem.W.Frag} : MSt K tNext sNil := fun as F H S ρ σ I R o S' e E q => by
  cases e
  exact q as F H (Grow.refl I) σ R
theorem ms_seq {K : PySem.W.Frag} {t u : TS} (h1 : MSt K t m1) (h2 : MSt K u m2) : MSt K (tSeq t u) (sSeq m1 m2) := fun as F H S ρ σ I R o S' e E q => by
  unfold sSeq at e
  cases h : m1 ρ S with
  | none => rw [h] at e; cases e
  | some p =>
    simp only [h, Option.bind_some] at e
    refine h1 as F H S ρ σ I R p.1 p.2 h _ fun bs F1 H1 g1 => ?_
    obtain ⟨o1, S1⟩ := p
    cases o1 with
    | nx ρ1 => exact fun σ1 R1 => h2 bs F1 H1 S1 ρ1 σ1 g1.sit R1 o S' e E fun cs F2 H2 g2 => q cs F2 H2 (g1.trans g2)
    | ret d =>
      cases e
      exact q bs F1 H1 g1
    | bk ρ1 =>
      cases e
      exact q bs F1 H1 g1
    | ct ρ1 =>
      cases e
      exact q bs F1 H1 g1
theorem gss_nil : GSs X [] sNil := ⟨_, pss_nil, ms_nil⟩
theorem gss_cons (h1 : GS X st m1) (h2 : GSs X rest m2) : GSs X (st :: rest) (sSeq m1 m2) := by
  obtain ⟨t, p, m⟩ := h1
  obtain ⟨u, p', m'⟩ := h2
  exact ⟨_, pss_cons p p', ms_seq m m'⟩
theorem gss_one (h1 : GS X st m1) : GSs X [st] m1 := by
  obtain ⟨t, p, m⟩ := h1
  exact ⟨_, pss_one p, m⟩
def sNever : Env → MS := fun _ _ => none
theorem gs_never : GS X st sNever := ⟨_, ps_never, fun as F H S ρ σ I R o S' e => by cases e⟩
def sRet (ea : Env → M) : Env → MS := fun ρ S => (ea ρ S).map fun p => (.ret p.1, p.2)
theorem gs_ret (h : GE X e ea) : GS X (.Return (some e) pos) (sRet ea) := by
  obtain ⟨t, p, m⟩ := h
  refine ⟨_, ps_ret p, fun as F H S ρ σ I R o S' e' E q => ?_⟩
  unfold sRet at e'
  cases h1 : ea ρ S with
  | none => rw [h1] at e'; cases e'
  | some z =>
    rw [h1] at e'
    cases e'
    exact m as F H S ρ σ I R z.1 z.2 h1 _ fun F1 H1 v g r => q as F1 H1 g v r
def sDrop (ea : Env → M) : Env → MS := fun ρ S => (ea ρ S).map fun p => (.nx ρ, p.2)
theorem gs_expr (h : GE X e ea) (hs : swapsWith e none pos.line X.env = pure false := by rfl) : GS X (.Expr e pos) (sDrop ea) := by
  obtain ⟨t, p, m⟩ := h
  refine ⟨_, ps_expr p hs, fun as F H S ρ σ I R o S' e' E q => ?_⟩
  unfold sDrop at e'
  cases h1 : ea ρ S with
  | none => rw [h1] at e'; cases e'
  | some z =>
    rw [h1] at e'
    cases e'
    exact m as F H S ρ σ I R z.1 z.2 h1 _ fun F1 H1 v g r => q as F1 H1 g σ (R.grow g)
def sAsg (i : Nat) (ea : Env → M) : Env → MS := fun ρ S => (ea ρ S).map fun p => (.nx (ρ.set i (some p.1)), p.2)
theorem ms_asg {K : PySem.W.Frag} {i : Nat} {t : TE} (m : ME K t ea) : MSt K (tAsg t (gName i)) (sAsg i ea) := fun as F H S ρ σ I R o S' e' E q => by
  unfold sAsg at e'
  cases h1 : ea ρ S with
  | none => rw [h1] at e'; cases e'
  | some z =>
    rw [h1] at e'
    cases e'
    exact m as F H S ρ σ I R z.1 z.2 h1 _ fun F1 H1 v g r => q as F1 H1 g _ ((R.grow g).set r)
theorem gs_set (i : Nat) {x : Str} {pos' : Pos} (hN : X.N.Nodup) (h : GE X e ea) (hi : X.N[i]? = some x := by rfl) (hx : Loc X.env.scope x := by first | exact Or.inl rfl | exact Or.inr rfl) (hs : swapsWith e (some (.Name x pos')) pos.line X.env = pure false := by rfl)
    (hf : X.fn x = true ∨ X.env.scope.names.lookup x = some .local := by first | exact .inl rfl | exact .inr rfl | assumption) : GS X (.Assign [.Name x pos'] e pos) (sAsg i ea) := by
  obtain ⟨t, p, m⟩ := h
  exact ⟨_, ps_set (i := i) hN hi hx p hs hf, ms_asg m⟩
def sIf (mc : Env → MB) (m1 m2 : Env → MS) : Env → MS := fun ρ S => (mc ρ S).bind fun p => if p.1 = true then m1 ρ p.2 else m2 ρ p.2
theorem gs_if {as bs : List Stmt} (hc : GT X c ma) (ha : GSs X as m1) (hb : GSs X bs m2) : GS X (.If c as bs pos) (sIf ma m1 m2) := by
  obtain ⟨tc, pc, mc⟩ := hc
  obtain ⟨t, p, m⟩ := ha
  obtain ⟨u, p', m'⟩ := hb
  refine ⟨_, ps_if pc p p', fun as F H S ρ σ I R o S' e E q => ?_⟩
  unfold sIf at e
  cases h : ma ρ S with
  | none => rw [h] at e; cases e
  | some z =>
    simp only [h, Option.bind_some] at e
    refine mc as F H S ρ σ I R z.1 z.2 h _ fun F1 H1 g1 => ?_
    split at e
    · rename_i hp
      simp only [hp, if_true]
      exact m as F1 H1 z.2 ρ σ g1.sit (R.grow g1) o S' e E fun cs F2 H2 g2 => q cs F2 H2 (g1.trans g2)
    · rename_i hp
      simp only [hp, if_false, Bool.false_eq_true]
      exact m' as F1 H1 z.2 ρ σ g1.sit (R.grow g1) o S' e E fun cs F2 H2 g2 => q cs F2 H2 (g1.trans g2)
theorem gs_pass : GS X (.Pass pos) sNil := ⟨_, ps_pass, ms_nil⟩
def sBreak : Env → MS := fun ρ S => some (.bk ρ, S)
def sCont : Env → MS := fun ρ S => some (.ct ρ, S)
theorem gs_break : GS X (.Break pos) sBreak := ⟨_, ps_break, fun as F H S ρ σ I R o S' e E q => by cases e; exact q as F H (Grow.refl I) σ R⟩
theorem gs_continue : GS X (.Continue pos) sCont := ⟨_, ps_continue, fun as F H S ρ σ I R o S' e E q => by cases e; exact q as F H (Grow.refl I) σ R⟩

end
end RV
end
section
/-! Walks, for, comprehensions; a def by its body. -/
namespace RV
open PySem L2
section
variable {X : Cx} {a b c e tg iter : Expr} {pos : Pos} {ea eb ec ee : Env → M} {ma mb : Env → MB} {m1 m2 mbody : Env → MS}
/-! ### targets: vs the slots that are touched -/
def Agr (vs : List Nat) (σ σ' : L2.St) : Prop := σ'.length = σ.length ∧ ∀ j, j ∉ vs → σ'[j]? = σ[j]?
theorem Agr.refl {vs : List Nat} {σ : L2.St} : Agr vs σ σ := ⟨rfl, fun _ _ => rfl⟩
theorem Agr.app {vs ws : List Nat} {σ σ1 σ2 : L2.St} (a : Agr vs σ σ1) (b : Agr ws σ1 σ2) : Agr (vs ++ ws) σ σ2 :=
  ⟨b.1.trans a.1, fun j h => (b.2 j fun z => h (List.mem_append_right _ z)).trans (a.2 j fun z => h (List.mem_append_left _ z))⟩
theorem Agr.set {i : Nat} {σ : L2.St} {v : Option V} : Agr [i] σ (σ.set i v) := ⟨List.length_set, fun j h => List.getElem?_set_ne (fun z => h (by rw [z]; exact List.mem_singleton.mpr rfl))⟩
def MG (K : PySem.W.Frag) (g : TG) (vs : List Nat) (f : D → Env → Option Env) : Prop := ∀ (as : List Addr) (F H : Hp) (S : WS) (ρ : Env) (σ : L2.St) (x : D) (v : V) (ρ' : Env), Sit K as F H S → RpE K as F ρ σ → Rp K as F x v → f x ρ = some ρ' →
  ∀ Q : L2.St → Hp → Prop, (∀ σ', Agr vs σ σ' → RpE K as F ρ' σ' → Q σ' H) → g v σ H Q
structure GG (X : Cx) (tg : Expr) (vs : List Nat) (f : D → Env → Option Env) : Prop where
  ex : ∃ g, PG X tg g ∧ MG X.K g vs f
def MGs (K : PySem.W.Frag) (g : TGs) (vs : List Nat) (f : List D → Env → Option Env) : Prop := ∀ (as : List Addr) (F H : Hp) (S : WS) (ρ : Env) (σ : L2.St) (xs : List D) (us : List V) (ρ' : Env), Sit K as F H S → RpE K as F ρ σ → RpL K as F xs us → f xs ρ = some ρ' →
  ∀ Q : L2.St → Hp → Prop, (∀ σ', Agr vs σ σ' → RpE K as F ρ' σ' → Q σ' H) → g us σ H Q
structure GGs (X : Cx) (ts : List Expr) (n : Nat) (vs : List Nat) (f : List D → Env → Option Env) : Prop where
  ex : ts.length = n ∧ ∃ g, PGs X ts g ∧ MGs X.K g vs f
def tName (i : Nat) : D → Env → Option Env := fun d ρ => some (ρ.set i (some d))
theorem gg_name (i : Nat) {x : Str} (hN : X.N.Nodup) (hi : X.N[i]? = some x := by rfl) (hx : Loc X.env.scope x := by first | exact Or.inl rfl | exact Or.inr rfl) (hf : X.fn x = true ∨ X.env.scope.names.lookup x = some .local := by first | exact .inl rfl | exact .inr rfl | assumption) :
    GG X (.Name x pos) [i] (tName i) := by
  refine ⟨_, pg_name (i := i) hN hi hx hf, fun as F H S ρ σ x v ρ' I R r e Q q => ?_⟩
  cases e
  exact q _ Agr.set (R.set r)
def tsNil : List D → Env → Option Env := fun ds ρ => match ds with
  | [] => some ρ
  | _ => none
def tsCons (f : D → Env → Option Env) (g : List D → Env → Option Env) : List D → Env → Option Env := fun ds ρ => match ds with
  | [] => none
  | d :: r => (f d ρ).bind fun ρ' => g r ρ'
theorem ggs_nil : GGs X [] 0 [] tsNil := by
  refine ⟨rfl, _, pgs_nil, fun as F H S ρ σ xs us ρ' I R r e Q q => ?_⟩
  unfold tsNil at e
  cases r with
  | nil =>
    cases e
    exact ⟨rfl, q σ Agr.refl R⟩
  | cons _ _ => cases e
theorem ggs_cons {n : Nat} {vs ws : List Nat} {es : List Expr} {f : D → Env → Option Env} {g : List D → Env → Option Env} (h1 : GG X e vs f) (h2 : GGs X es n ws g) (hs : (assignEach (e :: es) X.env).map (·.2) = assign e X.env :: (assignEach es X.env).map (·.2) := by rfl) :
    GGs X (e :: es) (n + 1) (vs ++ ws) (tsCons f g) := by
  obtain ⟨t, p, m⟩ := h1
  obtain ⟨hn, u, p', m'⟩ := h2
  refine ⟨by rw [List.length_cons, hn], _, pgs_cons p p' hs, fun as F H S ρ σ xs us ρ' I R r e Q q => ?_⟩
  cases r with
  | nil => cases e
  | cons h r =>
    rename_i d v ds ws
    unfold tsCons at e
    cases h1 : f d ρ with
    | none => simp [h1] at e
    | some ρ1 =>
      simp only [h1, Option.bind_some] at e
      exact ⟨v, ws, rfl, m as F H S ρ σ d v ρ1 I R h h1 _ fun σ1 A1 R1 => m' as F H S ρ1 σ1 ds ws ρ' I R1 r e Q fun σ2 A2 R2 => q σ2 (A1.app A2) R2⟩
def tTupD (n : Nat) (g : List D → Env → Option Env) : D → Env → Option Env := fun d ρ => match d with
  | .tup ds => if ds.length = n then g ds ρ else none
  | _ => none
theorem gg_tup {es : List Expr} {k n : Nat} {vs : List Nat} {g : List D → Env → Option Env} (hc : X.calm = true) (h : GGs X es n vs g) (hn : (assignEach es X.env).length = n := by rfl) (hst : (assignEach es X.env).findIdx? (·.1) = none := by rfl) : GG X (.Tuple es k pos) vs (tTupD n g) := by
  obtain ⟨hl, t, p, m⟩ := h
  refine ⟨_, pg_tup hc p hn hst, fun as F H S ρ σ x v ρ' I R r e Q q => ?_⟩
  cases r with
  | tup hq rl =>
    unfold tTupD at e
    simp only at e
    split at e
    · rename_i hz
      exact ⟨_, _, rfl, I.ex.sqT hq, by rw [← rl.length]; exact hz, m as F H S ρ σ _ _ ρ' I R rl e Q q⟩
    · cases e
  | _ => cases e

/-! ### walks -/
structure Walks (K : PySem.W.Frag) (J : It) (as : List Addr) (F : Hp) (ds : List D) : Prop where
  stop : ∀ bs F2 H2 S2, Sit K bs F2 H2 S2 → Ex F F2 → Pre as bs → J.stop ds.length H2
  go : ∀ i, i < ds.length → ∀ bs F2 H2 S2, Sit K bs F2 H2 S2 → Ex F F2 → Pre as bs → J.go i H2
  yld : ∀ (i : Nat) (d : D), ds[i]? = some d → ∀ bs F2 H2 S2, Sit K bs F2 H2 S2 → Ex F F2 → Pre as bs → ∀ x H', J.yld i H2 x H' → ∃ F', Grow K bs F2 H2 bs F' H' S2 ∧ Rp K bs F' d x
theorem Walks.mono {K : PySem.W.Frag} {J : It} {as bs : List Addr} {F G : Hp} {ds : List D} (w : Walks K J as F ds) (e : Ex F G) (p : Pre as bs) : Walks K J bs G ds :=
  ⟨fun cs F2 H2 S2 I x y => w.stop cs F2 H2 S2 I (e.trans x) (p.trans y), fun i h cs F2 H2 S2 I x y => w.go i h cs F2 H2 S2 I (e.trans x) (p.trans y), fun i d h cs F2 H2 S2 I x y => w.yld i d h cs F2 H2 S2 I (e.trans x) (p.trans y)⟩
def MI (K : PySem.W.Frag) (wi : TI) (m : Env → ML) : Prop := ∀ (as : List Addr) (F H : Hp) (S : WS) (ρ : Env) (σ : L2.St), Sit K as F H S → RpE K as F ρ σ → ∀ ds S', m ρ S = some (ds, S') →
  ∀ R : It → Hp → Prop, (∀ F' H' J, Grow K as F H as F' H' S' → Walks K J as F' ds → R J H') → wi σ H R
structure GI (X : Cx) (tg iter : Expr) (m : Env → ML) : Prop where
  ex : ∃ wi, PI X tg iter wi ∧ MI X.K wi m
theorem sqL_ex {K : PySem.W.Frag} {F H : Hp} {a : Addr} {xs : List V} (e : Ex F H) (h : F a = some (.lst xs)) : SqL K H a xs := SqL.of (e a _ h)
theorem sqL_one {K : PySem.W.Frag} {H : Hp} {a : Addr} {xs ys : List V} (h : H a = some (.lst xs)) (hk : SqL K H a ys) : SqL K H a ys := hk
theorem walks_range {K : PySem.W.Frag} {as : List Addr} {F : Hp} {lo : Int} {n : Nat} : Walks K (Itr lo n) as F ((List.range n).map fun (i : Nat) => D.int (lo + (i : Int))) := by
  refine ⟨fun bs F2 H2 S2 I _ _ => ?_, fun i h bs F2 H2 S2 I _ _ => ?_, fun i d h bs F2 H2 S2 I _ _ x H' y => ?_⟩
  · show n ≤ ((List.range n).map fun (i : Nat) => D.int (lo + (i : Int))).length
    simp
  · have h2 : i < n := by simpa using h
    exact h2
  · obtain ⟨rfl, rfl⟩ := y
    simp only [List.getElem?_map, Option.map_eq_some_iff] at h
    obtain ⟨j, hj, rfl⟩ := h
    have hji : j = i := by
      have := List.getElem?_eq_some_iff.mp hj
      obtain ⟨q, w⟩ := this
      simpa using w.symm
    subst hji
    exact ⟨F2, Grow.refl I, .int _⟩
def iRange1 (er : Env → ML) : Env → ML := fun ρ S => (er ρ S).bind fun p => match p.1 with
  | [.int j] => if -(2 ^ 62) ≤ j ∧ j < 2 ^ 62 then some ((List.range j.toNat).map fun (i : Nat) => D.int (0 + (i : Int)), p.2) else none
  | _ => none
theorem gi_range1 {er : Env → ML} {p : Pos} (hm : X.mg "range" = none) (ha : GA X [a] er) (hg : Gl X "range" := by rfl) (hs : starEach [a] X.env = [(false, eval a X.env)] := by rfl) : GI X tg (.Call (.Name "range" p) [a] [] pos) (iRange1 er) := by
  obtain ⟨t, p, m⟩ := ha
  refine ⟨_, pi_range1 hg hm p hs, fun as F H S ρ σ I R ds S' e Q q => ?_⟩
  unfold iRange1 at e
  cases h1 : er ρ S with
  | none => rw [h1] at e; cases e
  | some z =>
    simp only [h1, Option.bind_some] at e
    split at e
    · rename_i j hz
      split at e
      · rename_i hj
        cases e
        refine m as F H S ρ σ I R z.1 z.2 h1 _ fun F1 H1 vs g r => ?_
        rw [hz] at r
        obtain ⟨v, ws, rfl, rv, rn⟩ := r.unsn
        obtain rfl := rn.unnil
        cases rv
        exact ⟨j, rfl, hj.1, hj.2, q F1 H1 _ g walks_range⟩
      · cases e
    · cases e
/-- over a list that stands still, a tuple -/
def iSeq (ea : Env → M) : Env → ML := fun ρ S => (ea ρ S).bind fun p => match p.1 with
  | .lst ds => some (ds, p.2)
  | .scr ns => some (ns.map D.int, p.2)
  | _ => none
def iTupD (ea : Env → M) : Env → ML := fun ρ S => (ea ρ S).bind fun p => match p.1 with
  | .tup ds => some (ds, p.2)
  | _ => none
theorem walks_list {K : PySem.W.Frag} {as : List Addr} {F : Hp} {p : Addr} {xs : List V} {ds : List D} (h : SqL K F p xs) (r : RpL K as F ds xs) : Walks K (Itl K p) as F ds := by
  refine ⟨fun bs F2 H2 S2 I e _ => ?_, fun i hi bs F2 H2 S2 I e _ => ?_, fun i d hd bs F2 H2 S2 I e pr x H' y => ?_⟩
  · have hq : SqL K H2 p xs := I.ex.sqL (e.sqL h)
    refine ⟨xs, hq, ?_⟩
    rw [← r.length]
    exact Nat.le_refl _
  · have hq : SqL K H2 p xs := I.ex.sqL (e.sqL h)
    have hl : i < xs.length := by
      rw [← r.length]
      exact hi
    exact ⟨xs, xs[i], hq, List.getElem?_eq_getElem hl⟩
  · have hq : SqL K H2 p xs := I.ex.sqL (e.sqL h)
    obtain ⟨rfl, y⟩ := y
    have y1 := y xs hq
    obtain ⟨v, hv, rv⟩ := r.get hd
    rw [hv] at y1
    cases y1
    exact ⟨F2, Grow.refl I, rv.mono e pr⟩
theorem rpl_ints {K : PySem.W.Frag} {as : List Addr} {F : Hp} : ∀ ns : List Int, RpL K as F (ns.map D.int) (ns.map V.int)
  | [] => .nil
  | n :: ns => .cons (.int n) (rpl_ints ns)
theorem walks_tup {K : PySem.W.Frag} {as : List Addr} {F : Hp} {p : Addr} {xs : List V} {ds : List D} (h : SqT K F p xs) (r : RpL K as F ds xs) : Walks K (Itt K p) as F ds := by
  refine ⟨fun bs F2 H2 S2 I e _ => ?_, fun i hi bs F2 H2 S2 I e _ => ?_, fun i d hd bs F2 H2 S2 I e pr x H' y => ?_⟩
  · have hq : SqT K H2 p xs := I.ex.sqT (e.sqT h)
    refine ⟨xs, hq, ?_⟩
    rw [← r.length]
    exact Nat.le_refl _
  · have hq : SqT K H2 p xs := I.ex.sqT (e.sqT h)
    have hl : i < xs.length := by
      rw [← r.length]
      exact hi
    exact ⟨xs, xs[i], hq, List.getElem?_eq_getElem hl⟩
  · have hq : SqT K H2 p xs := I.ex.sqT (e.sqT h)
    obtain ⟨rfl, y⟩ := y
    have y1 := y xs hq
    obtain ⟨v, hv, rv⟩ := r.get hd
    rw [hv] at y1
    cases y1
    exact ⟨F2, Grow.refl I, rv.mono e pr⟩
theorem gi_list (ha : GE X a ea) : GI X tg a (iSeq ea) := by
  obtain ⟨t, p, m⟩ := ha
  refine ⟨_, pi_list p, fun as F H S ρ σ I R ds S' e Q q => ?_⟩
  unfold iSeq at e
  cases h1 : ea ρ S with
  | none => rw [h1] at e; cases e
  | some z =>
    simp only [h1, Option.bind_some] at e
    split at e
    · rename_i ds' hz
      cases e
      refine m as F H S ρ σ I R z.1 z.2 h1 _ fun F1 H1 v g r => ?_
      rw [hz] at r
      cases r with
      | lst hp rl => exact ⟨_, rfl, ⟨_, SqL.of (g.sit.ex _ _ hp)⟩, q F1 H1 _ g (walks_list (SqL.of hp) rl)⟩
    · rename_i ns hz
      cases e
      refine m as F H S ρ σ I R z.1 z.2 h1 _ fun F1 H1 v g r => ?_
      rw [hz] at r
      cases r with
      | scr hp => exact ⟨_, rfl, ⟨_, g.sit.ex.sqL hp⟩, q F1 H1 _ g (walks_list hp (rpl_ints ns))⟩
    · cases e
theorem gi_tup (ha : GE X a ea) : GI X tg a (iTupD ea) := by
  obtain ⟨t, p, m⟩ := ha
  refine ⟨_, pi_tup p, fun as F H S ρ σ I R ds S' e Q q => ?_⟩
  unfold iTupD at e
  cases h1 : ea ρ S with
  | none => rw [h1] at e; cases e
  | some z =>
    simp only [h1, Option.bind_some] at e
    split at e
    · rename_i ds' hz
      cases e
      refine m as F H S ρ σ I R z.1 z.2 h1 _ fun F1 H1 v g r => ?_
      rw [hz] at r
      cases r with
      | tup hp rl => exact ⟨_, rfl, ⟨_, g.sit.ex.sqT hp⟩, q F1 H1 _ g (walks_tup hp rl)⟩
    · cases e
end
end RV
end
section
/-! for, comprehensions; a def by its body. -/
namespace RV
open PySem L2
section
variable {X : Cx} {a b c e tg iter : Expr} {pos : Pos} {ea eb ec ee : Env → M} {ma mb : Env → MB} {m1 m2 mbody : Env → MS}
theorem walks_str {K : PySem.W.Frag} {as : List Addr} {F : Hp} {x : Str} : Walks K (Its x) as F (x.cps.toList.map fun c => D.str ⟨#[c]⟩) := by
  refine ⟨fun bs F2 H2 S2 I _ _ => ?_, fun i h bs F2 H2 S2 I _ _ => ?_, fun i d h bs F2 H2 S2 I _ _ y H' z => ?_⟩
  · show x.length ≤ (x.cps.toList.map fun c => D.str ⟨#[c]⟩).length
    simp [Str.length]
  · show i < x.length
    simpa [Str.length] using h
  · obtain ⟨rfl, z⟩ := z
    simp only [List.getElem?_map, Option.map_eq_some_iff] at h
    obtain ⟨j, hj, rfl⟩ := h
    have z2 : ∃ c, x.cps.toList[i]? = some c ∧ y = V.str ⟨#[c]⟩ := by
      first
        | exact z
        | simpa using z
    obtain ⟨c, hc, rfl⟩ := z2
    rw [hj] at hc
    cases hc
    exact ⟨F2, Grow.refl I, .str _⟩
def iStrD (ea : Env → M) : Env → ML := fun ρ S => (ea ρ S).bind fun p => match p.1 with
  | .str x => some (x.cps.toList.map fun c => D.str ⟨#[c]⟩, p.2)
  | _ => none
theorem gi_str (ha : GE X a ea) : GI X tg a (iStrD ea) := by
  obtain ⟨t, p, m⟩ := ha
  refine ⟨_, pi_str p, fun as F H S ρ σ I R ds S' e Q q => ?_⟩
  unfold iStrD at e
  cases h1 : ea ρ S with
  | none => rw [h1] at e; cases e
  | some z =>
    simp only [h1, Option.bind_some] at e
    split at e
    · rename_i ds' hz
      cases e
      refine m as F H S ρ σ I R z.1 z.2 h1 _ fun F1 H1 v g r => ?_
      rw [hz] at r
      cases r
      exact ⟨_, rfl, q F1 H1 _ g walks_str⟩
    · cases e

/-! ### for -/
def forD (f : D → Env → Option Env) (mb : Env → MS) : List D → Env → MS
  | [], ρ, S => some (.nx ρ, S)
  | x :: xs, ρ, S => (f x ρ).bind fun ρ1 => (mb ρ1 S).bind fun p => match p.1 with
    | .nx ρ2 => forD f mb xs ρ2 p.2
    | .ct ρ2 => forD f mb xs ρ2 p.2
    | .bk ρ2 => some (.nx ρ2, p.2)
    | .ret d => some (.ret d, p.2)
def sFor (mi : Env → ML) (f : D → Env → Option Env) (mb : Env → MS) : Env → MS := fun ρ S => (mi ρ S).bind fun p => forD f mb p.1 ρ p.2
theorem ms_for {K : PySem.W.Frag} {wi : TI} {g : TG} {tb : TS} {mi : Env → ML} {f : D → Env → Option Env} {vs : List Nat} (hi : MI K wi mi) (hg : MG K g vs f) (hb : MSt K tb mbody) : MSt K (tFor wi g tb) (sFor mi f mbody) := fun as F H S ρ σ I R o S' e E q => by
  unfold sFor at e
  cases h1 : mi ρ S with
  | none => rw [h1] at e; cases e
  | some z =>
    obtain ⟨ds, S0⟩ := z
    simp only [h1, Option.bind_some] at e
    refine hi as F H S ρ σ I R ds S0 h1 _ fun F0 H0 J g0 wk => ?_
    refine ⟨fun i m σ H => m = ds.length - i ∧ i ≤ ds.length ∧ ∃ bs F1 S1 ρ1, Grow K as F0 H0 bs F1 H S1 ∧ RpE K bs F1 ρ1 σ ∧ forD f mbody (ds.drop i) ρ1 S1 = some (o, S'), ⟨ds.length, by simp, Nat.zero_le _, as, F0, S0, ρ, Grow.refl g0.sit, R.grow g0, by simpa using e⟩, ?_⟩
    rintro i m σ1 H1 ⟨rfl, hle, bs, F1, S1, ρ1, g1, R1, e1⟩
    by_cases hlt : i < ds.length
    · right
      refine ⟨wk.go i hlt bs F1 H1 S1 g1.sit g1.ex g1.pre, fun σ' H' => ∃ m', m' < ds.length - i ∧ m' = ds.length - (i + 1) ∧ i + 1 ≤ ds.length ∧ ∃ bs F1 S1 ρ1, Grow K as F0 H0 bs F1 H' S1 ∧ RpE K bs F1 ρ1 σ' ∧ forD f mbody (ds.drop (i + 1)) ρ1 S1 = some (o, S'), fun σ' H' n => ?_, fun x H' y => ?_⟩
      · obtain ⟨m', h1, h2, h3, h4⟩ := n
        exact ⟨m', h1, h2, h3, h4⟩
      · have hd : ds[i]? = some ds[i] := List.getElem?_eq_getElem hlt
        obtain ⟨F2, g2, rx⟩ := wk.yld i ds[i] hd bs F1 H1 S1 g1.sit g1.ex g1.pre x H' y
        rw [List.drop_eq_getElem_cons hlt] at e1
        unfold forD at e1
        cases hf : f ds[i] ρ1 with
        | none => rw [hf] at e1; cases e1
        | some ρ2 =>
          simp only [hf, Option.bind_some] at e1
          cases hm : mbody ρ2 S1 with
          | none => rw [hm] at e1; cases e1
          | some p =>
            simp only [hm, Option.bind_some] at e1
            refine hg bs F2 H' S1 ρ1 σ1 ds[i] x ρ2 g2.sit (R1.grow g2) rx hf _ fun σ2 _ R2 => ?_
            refine hb bs F2 H' S1 ρ2 σ2 g2.sit R2 p.1 p.2 hm _ fun cs F3 H3 g3 => ?_
            have g4 := (g1.trans g2).trans g3
            obtain ⟨o1, S2⟩ := p
            cases o1 with
            | nx ρ3 => exact fun σ3 R3 => ⟨_, by omega, rfl, hlt, cs, F3, S2, ρ3, g4, R3, e1⟩
            | ct ρ3 => exact fun σ3 R3 => ⟨_, by omega, rfl, hlt, cs, F3, S2, ρ3, g4, R3, e1⟩
            | bk ρ3 =>
              cases e1
              exact fun σ3 R3 => q cs F3 H3 (g0.trans g4) σ3 R3
            | ret d =>
              cases e1
              exact fun v r => q cs F3 H3 (g0.trans g4) v r
    · left
      have hi2 : i = ds.length := by omega
      subst hi2
      refine ⟨wk.stop bs F1 H1 S1 g1.sit g1.ex g1.pre, ?_⟩
      rw [List.drop_length] at e1
      unfold forD at e1
      cases e1
      exact q bs F1 H1 (g0.trans g1) σ1 R1
theorem gs_for {body : List Stmt} {mi : Env → ML} {vs : List Nat} {f : D → Env → Option Env} (hp : PassesOwn (model X.prog X.w) X.A X.env X.xe) (hc : X.calm = true) (hi : GI X tg iter mi) (hg : GG X tg vs f) (hb : GSs X body mbody)
    (hs : ∀ (x : Value), foldedSetIterable iter X.env x = pure x := by intro _; rfl) : GS X (.For tg iter body [] pos) (sFor mi f mbody) := by
  obtain ⟨wi, pi, mi'⟩ := hi
  obtain ⟨g, pg, mg⟩ := hg
  obtain ⟨t, pt, mt⟩ := hb
  exact ⟨_, ps_for hp hc pi pg pt hs, ms_for mi' mg mt⟩
end
end RV
end
section
/-! Comprehensions; a def by its body. -/
namespace RV
open PySem L2
section
variable {X : Cx} {a b c e tg iter elt : Expr} {pos : Pos} {ea eb ec ee : Env → M} {ma mb mc : Env → MB} {m1 m2 mbody : Env → MS}
/-! ### the reading that says just what m says -/
def rdE (K : PySem.W.Frag) (m : Env → M) : TE := fun σ H Q => ∃ (as : List Addr) (F : Hp) (S : WS) (ρ : Env) (d : D) (S' : WS), Sit K as F H S ∧ RpE K as F ρ σ ∧ m ρ S = some (d, S') ∧ ∀ F' H' v, Grow K as F H as F' H' S' → Rp K as F' d v → Q v H'
theorem GE.canon (h : GE X e ea) : PE X e (rdE X.K ea) := by
  obtain ⟨t, p, m⟩ := h
  refine ⟨fun pins s σ H Q I h => ?_⟩
  obtain ⟨as, F, S, ρ, d, S', I', R, hm, q⟩ := h
  exact p.run pins s σ H Q I (m as F H S ρ σ I' R d S' hm Q q)
def rdT (K : PySem.W.Frag) (m : Env → MB) : TT := fun σ H Q => ∃ (as : List Addr) (F : Hp) (S : WS) (ρ : Env) (d : Bool) (S' : WS), Sit K as F H S ∧ RpE K as F ρ σ ∧ m ρ S = some (d, S') ∧ ∀ F' H', Grow K as F H as F' H' S' → Q d H'
theorem GT.canon (h : GT X e ma) : PT X e (rdT X.K ma) := by
  obtain ⟨t, p, m⟩ := h
  refine ⟨fun pins s σ H Q I h => ?_⟩
  obtain ⟨as, F, S, ρ, d, S', I', R, hm, q⟩ := h
  exact p.run pins s σ H Q I (m as F H S ρ σ I' R d S' hm Q q)
def rdG (K : PySem.W.Frag) (vs : List Nat) (f : D → Env → Option Env) : TG := fun v σ H Q => ∃ (as : List Addr) (F : Hp) (S : WS) (ρ : Env) (x : D) (ρ' : Env), Sit K as F H S ∧ RpE K as F ρ σ ∧ Rp K as F x v ∧ f x ρ = some ρ' ∧ ∀ σ', Agr vs σ σ' → RpE K as F ρ' σ' → Q σ' H
theorem GG.canon {vs : List Nat} {f : D → Env → Option Env} (h : GG X tg vs f) : PG X tg (rdG X.K vs f) := by
  obtain ⟨t, p, m⟩ := h
  refine ⟨fun pins s σ H v u Q I r h => ?_⟩
  obtain ⟨as, F, S, ρ, x, ρ', I', R, rx, hm, q⟩ := h
  exact p.run pins s σ H v u Q I r (m as F H S ρ σ x v ρ' I' R rx hm Q q)
/-- tests of a comprehension: none or one -/
structure GTs (X : Cx) (ifs : List Expr) (m : Env → MB) : Prop where
  ex : PTs X ifs (rdT X.K m)
def bYes : Env → MB := fun _ S => some (true, S)
theorem gts_nil : GTs X [] bYes := by
  refine ⟨⟨fun pins s σ H Q I h => ?_⟩⟩
  obtain ⟨as, F, S, ρ, d, S', I', R, hm, q⟩ := h
  cases hm
  exact pts_nil.run pins s σ H Q I (q F H (Grow.refl I'))
theorem gts_one (h : GT X c mc) : GTs X [c] mc := ⟨pts_one h.canon⟩

/-! ### comprehensions -/
def wipeE (ρ : Env) : List Nat → Env
  | [] => ρ
  | v :: vs => (wipeE ρ vs).set v none
theorem set_none {K : PySem.W.Frag} {as : List Addr} {F : Hp} {ρ : Env} {σ : L2.St} {i : Nat} (r : RpE K as F ρ σ) : RpE K as F (ρ.set i none) (σ.set i none) := by
  refine ⟨by rw [List.length_set, List.length_set]; exact r.len, fun j d q => ?_⟩
  by_cases hj : i = j
  · subst hj
    by_cases hl : i < ρ.length
    · rw [List.getElem?_set_self hl] at q
      cases q
    · rw [List.getElem?_eq_none (by rw [List.length_set]; omega)] at q
      cases q
  · rw [List.getElem?_set_ne hj] at q ⊢
    exact r.at_ j d q
theorem RpE.wipe {K : PySem.W.Frag} {as : List Addr} {F : Hp} {ρ : Env} {σ : L2.St} (r : RpE K as F ρ σ) : ∀ vs : List Nat, RpE K as F (wipeE ρ vs) (L2.wipe σ vs)
  | [] => r
  | v :: vs => set_none (r.wipe vs)
theorem wipe_at (σ : L2.St) (j : Nat) : ∀ vs : List Nat, (L2.wipe σ vs)[j]? = if j ∈ vs then (if j < σ.length then some none else none) else σ[j]?
  | [] => by simp [L2.wipe]
  | v :: vs => by
    unfold L2.wipe
    by_cases h : v = j
    · subst h
      by_cases hl : v < σ.length
      · rw [List.getElem?_set_self (by rw [wipe_length]; exact hl)]
        simp [hl]
      · rw [List.getElem?_eq_none (by rw [List.length_set, wipe_length]; omega)]
        simp [hl]
    · rw [List.getElem?_set_ne h, wipe_at σ j vs]
      have : j ≠ v := fun z => h z.symm
      simp [this]
theorem wipe_agr {σ σ2 : L2.St} {us vs : List Nat} (h : Agr us (L2.wipe σ vs) σ2) (hs : ∀ x ∈ us, x ∈ vs) : L2.wipe σ2 vs = L2.wipe σ vs := by
  have hl : σ2.length = σ.length := h.1.trans (wipe_length σ vs)
  refine List.ext_getElem? fun j => ?_
  rw [wipe_at, wipe_at, hl]
  by_cases hj : j ∈ vs
  · simp [hj]
  · rw [if_neg hj, if_neg hj, h.2 j fun z => hj (hs j z), wipe_at, if_neg hj]
def lcD (f : D → Env → Option Env) (mc : Env → MB) (me : Env → M) (ρ : Env) : List D → ML
  | [], S => some ([], S)
  | x :: xs, S => (f x ρ).bind fun ρ1 => (mc ρ1 S).bind fun p => if p.1 = true then (me ρ1 p.2).bind fun q => (lcD f mc me ρ xs q.2).map fun r => (q.1 :: r.1, r.2) else lcD f mc me ρ xs p.2
def eLc (mi : Env → ML) (f : D → Env → Option Env) (mc : Env → MB) (me : Env → M) (vs : List Nat) : Env → M := fun ρ S => (mi ρ S).bind fun p => if small p.1.length = true then (lcD f mc me (wipeE ρ vs) p.1 p.2).map fun q => (.lst q.1, q.2) else none
theorem lcD_len {f : D → Env → Option Env} {mc : Env → MB} {me : Env → M} {ρ : Env} : ∀ {xs : List D} {S : WS} {ds : List D} {S' : WS}, lcD f mc me ρ xs S = some (ds, S') → ds.length ≤ xs.length
  | [], S, ds, S', h => by
    unfold lcD at h
    cases h
    exact Nat.le_refl _
  | x :: xs, S, ds, S', h => by
    unfold lcD at h
    cases h1 : f x ρ with
    | none => rw [h1] at h; cases h
    | some ρ1 =>
      simp only [h1, Option.bind_some] at h
      cases h2 : mc ρ1 S with
      | none => rw [h2] at h; cases h
      | some p =>
        simp only [h2, Option.bind_some] at h
        split at h
        · cases h3 : me ρ1 p.2 with
          | none => rw [h3] at h; cases h
          | some q =>
            simp only [h3, Option.bind_some] at h
            cases h4 : lcD f mc me ρ xs q.2 with
            | none => rw [h4] at h; cases h
            | some r =>
              rw [h4] at h
              cases h
              have := lcD_len (ds := r.1) (S' := r.2) h4
              simp only [List.length_cons]
              omega
        · have := lcD_len h
          simp only [List.length_cons]
          omega
theorem me_lc {K : PySem.W.Frag} {wi : TI} {mi : Env → ML} {us vs : List Nat} {f : D → Env → Option Env} (hi : MI K wi mi) (hs : ∀ x ∈ us, x ∈ vs) : ME K (tLc wi (rdG K us f) (rdT K mc) (rdE K ee) vs) (eLc mi f mc ee vs) := fun as F H S ρ σ I R d S' e Q q => by
  unfold eLc at e
  cases h1 : mi ρ S with
  | none => rw [h1] at e; cases e
  | some z =>
    obtain ⟨ds, S0⟩ := z
    simp only [h1, Option.bind_some] at e
    split at e
    · rename_i hsm
      cases h2 : lcD f mc ee (wipeE ρ vs) ds S0 with
      | none => rw [h2] at e; cases e
      | some w =>
        rw [h2] at e
        cases e
        obtain ⟨wl, wS⟩ := w
        simp only at q
        refine hi as F H S ρ σ I R ds S0 h1 _ fun F0 H0 J g0 wk D0 hD => ?_
        have fD : F0 D0 = none := by
          cases q0 : F0 D0 with
          | none => rfl
          | some u =>
            have := g0.sit.ex _ _ q0
            rw [hD] at this
            cases this
        have aD : D0 ∉ as := fun z => g0.sit.there z hD
        have RW : RpE K as F0 (wipeE ρ vs) (L2.wipe σ vs) := (R.grow g0).wipe vs
        -- behind i turns: what was made so far, and what the rest will make
        refine ⟨fun i m H1 => m = ds.length - i ∧ i ≤ ds.length ∧ ∃ F1 S1 acc done rest, Grow K as F0 H0 as F1 H1 S1 ∧ F1 D0 = none ∧ H1 D0 = some (.lst acc) ∧ RpL K as F1 done acc ∧ done.length ≤ i ∧ lcD f mc ee (wipeE ρ vs) (ds.drop i) S1 = some (rest, wS) ∧ done ++ rest = wl, ⟨ds.length, by simp, Nat.zero_le _, F0, S0, [], [], wl, ?_, fD, upd_same, .nil, Nat.le_refl _, by simpa using h2, rfl⟩, ?_⟩
        · exact ⟨g0.sit.other fD aD, Pre.refl _, Ex.refl _, fun _ h => .inl h, fun _ h => .inl h, fun a o _ h => by rw [upd_ne (ne_of_none h hD)]; exact h, fun a h => by
            by_cases e1 : a = D0
            · subst e1
              rw [upd_same]
              simp
            · rw [upd_ne e1]
              exact h⟩
        rintro i m H1 ⟨rfl, hle, F1, S1, acc, done, rest, g1, f1, hD1, ra, hdl, e1, ew⟩
        have hacc : acc.length < sizeLine := by
          rw [← ra.length]
          have h5 : ds.length ≤ 100000 := of_decide_eq_true hsm
          have h6 : (100000 : Nat) < sizeLine := by decide
          omega
        by_cases hlt : i < ds.length
        · right
          refine ⟨wk.go i hlt as F1 H1 S1 g1.sit g1.ex g1.pre, fun H' => ∃ m', m' < ds.length - i ∧ m' = ds.length - (i + 1) ∧ i + 1 ≤ ds.length ∧ ∃ F1 S1 acc done rest, Grow K as F0 H0 as F1 H' S1 ∧ F1 D0 = none ∧ H' D0 = some (.lst acc) ∧ RpL K as F1 done acc ∧ done.length ≤ i + 1 ∧ lcD f mc ee (wipeE ρ vs) (ds.drop (i + 1)) S1 = some (rest, wS) ∧ done ++ rest = wl, fun H' n => ?_, fun x H' y => ?_⟩
          · obtain ⟨m', n1, n2, n3, n4⟩ := n
            exact ⟨m', n1, n2, n3, n4⟩
          · have hd : ds[i]? = some ds[i] := List.getElem?_eq_getElem hlt
            obtain ⟨F2, g2, rx⟩ := wk.yld i ds[i] hd as F1 H1 S1 g1.sit g1.ex g1.pre x H' y
            rw [List.drop_eq_getElem_cons hlt] at e1
            unfold lcD at e1
            cases hf : f ds[i] (wipeE ρ vs) with
            | none => rw [hf] at e1; cases e1
            | some ρ2 =>
              simp only [hf, Option.bind_some] at e1
              cases hm : mc ρ2 S1 with
              | none => rw [hm] at e1; cases e1
              | some p =>
                simp only [hm, Option.bind_some] at e1
                have keepD : ∀ {F3 H3 S3} , Grow K as F2 H' as F3 H3 S3 → F3 D0 = none ∧ H3 D0 = some (.lst acc) := fun {F3 H3 S3} g3 => by
                  have hD2 : H' D0 = some (.lst acc) := g2.old _ _ aD hD1
                  refine ⟨?_, g3.old _ _ aD hD2⟩
                  cases q3 : F3 D0 with
                  | none => rfl
                  | some u =>
                    rcases g3.new D0 (by rw [q3]; simp) with z | z
                    · rcases g2.new D0 z with z | z
                      · exact absurd f1 z
                      · rw [hD1] at z
                        cases z
                    · rw [hD2] at z
                      cases z
                refine ⟨as, F2, S1, wipeE ρ vs, ds[i], ρ2, g2.sit, RW.mono (g1.ex.trans g2.ex) (Pre.refl _), rx, hf, fun σ2 A2 R2 => ⟨wipe_agr A2 hs, ?_⟩⟩
                refine ⟨as, F2, S1, ρ2, p.1, p.2, g2.sit, R2, hm, fun F3 H3 g3 => ?_⟩
                obtain ⟨pb, S2⟩ := p
                cases pb with
                | true =>
                  simp only [if_true] at e1 ⊢
                  cases he : ee ρ2 S2 with
                  | none => rw [he] at e1; cases e1
                  | some y2 =>
                    simp only [he, Option.bind_some] at e1
                    cases hr : lcD f mc ee (wipeE ρ vs) (ds.drop (i + 1)) y2.2 with
                    | none => rw [hr] at e1; cases e1
                    | some r =>
                      rw [hr] at e1
                      cases e1
                      refine ⟨as, F3, S2, ρ2, y2.1, y2.2, g3.sit, R2.grow g3, he, fun F4 H4 v g4 r4 => ?_⟩
                      obtain ⟨f4, hD4⟩ := keepD (g3.trans g4)
                      have g5 := ((g1.trans g2).trans g3).trans g4
                      refine ⟨acc, hD4, hacc, _, by omega, rfl, hlt, F4, y2.2, acc ++ [v], done ++ [y2.1], r.1, ?_, f4, upd_same, ?_, ?_, hr, by rw [← ew]; simp⟩
                      · exact ⟨g5.sit.other f4 aD, g5.pre, g5.ex, g5.new, g5.newc, fun a o ha h => by
                          have na : a ≠ D0 := ne_of_none h hD
                          rw [upd_ne na]
                          exact g5.old a o ha h, fun a h => by
                          by_cases e2 : a = D0
                          · subst e2
                            rw [upd_same]
                            simp
                          · rw [upd_ne e2]
                            exact g5.there a h⟩
                      · exact (ra.mono ((g2.ex.trans g3.ex).trans g4.ex) (Pre.refl _)).append (.cons r4 .nil)
                      · rw [List.length_append]
                        show done.length + 1 ≤ i + 1
                        omega
                | false =>
                  simp only [if_false, Bool.false_eq_true] at e1 ⊢
                  obtain ⟨f4, hD4⟩ := keepD g3
                  exact ⟨_, by omega, rfl, hlt, F3, S2, acc, done, rest, (g1.trans g2).trans g3, f4, hD4, ra.mono (g2.ex.trans g3.ex) (Pre.refl _), by omega, e1, ew⟩
        · left
          have hi2 : i = ds.length := by omega
          subst hi2
          refine ⟨wk.stop as F1 H1 S1 g1.sit g1.ex g1.pre, ?_⟩
          rw [List.drop_length] at e1
          unfold lcD at e1
          cases e1
          rw [List.append_nil] at ew
          subst ew
          -- the list stands still from here on
          have gA := g0.trans g1
          have exF : Ex F1 (upd F1 D0 (.lst acc)) := Ex.new f1
          refine q (upd F1 D0 (.lst acc)) H1 (.ref D0) ⟨g1.sit.freeze f1 aD hD1, Pre.refl _, gA.ex.trans exF, fun a h => ?_, fun _ h => .inl h, gA.old, gA.there⟩ (.lst upd_same (ra.mono exF (Pre.refl _)))
          · by_cases e2 : a = D0
            · subst e2
              right
              cases q0 : H a with
              | none => rfl
              | some u =>
                exact absurd hD (g0.there a (by rw [q0]; simp))
            · rw [upd_ne e2] at h
              exact gA.new a h
    · cases e
theorem ge_lc {scope : Scope} {own : List (Str × Nat)} {ifs : List Expr} {mi : Env → ML} {us : List Nat} {f : D → Env → Option Env} (hc : X.calm = true) (hN : X.N.Nodup) (hi : GI X tg iter mi) (ok : BlkOk X.N X.env.scope scope own)
    (hg : ∀ (s : Shared) (H : Hp) (C : Addr) (cl : List (Str × Addr)) (fp : List Addr), GG (X.blk s H scope (compEnvC scope cl C X.env) fp) tg us f)
    (ht : ∀ (s : Shared) (H : Hp) (C : Addr) (cl : List (Str × Addr)) (fp : List Addr), GTs (X.blk s H scope (compEnvC scope cl C X.env) fp) ifs mc)
    (he : ∀ (s : Shared) (H : Hp) (C : Addr) (cl : List (Str × Addr)) (fp : List Addr), GE (X.blk s H scope (compEnvC scope cl C X.env) fp) elt ee)
    (hu : ∀ x ∈ us, x ∈ own.map (·.2) := by decide) (hs : ∀ (x : Value), foldedSetIterable iter X.env x = pure x := by intro _; rfl) :
    GE X (.ListComp elt [⟨tg, iter, ifs, 0⟩] scope pos) (eLc mi f mc ee (own.map (·.2))) := by
  obtain ⟨wi, pi, mi'⟩ := hi
  exact ⟨_, pe_lc (own := own) hc hN pi ok (fun s H C cl fp => (hg s H C cl fp).canon) (fun s H C cl fp => (ht s H C cl fp).ex) (fun s H C cl fp => (he s H C cl fp).canon) hs, me_lc mi' hu⟩
end
end RV
end
section
/-! A def by its body; instances: made, read, their fields set; calls where nothing is being shown. -/
namespace RV
open PySem L2
/-! ### data that names no cell from n on -/
mutual
def D.clean (n : Nat) : D → Bool
  | .cell k => decide (k < n)
  | .tup ds => D.cleanL n ds
  | .lst ds => D.cleanL n ds
  | .obj _ fs => D.cleanF n fs
  | .non | .bl _ | .int _ | .str _ | .ty _ | .adr _ | .scr _ => true
def D.cleanL (n : Nat) : List D → Bool
  | [] => true
  | d :: ds => D.clean n d && D.cleanL n ds
def D.cleanF (n : Nat) : List (Str × D) → Bool
  | [] => true
  | (_, d) :: ds => D.clean n d && D.cleanF n ds
end
section
variable {K : PySem.W.Frag} {as bs : List Addr} {F : Hp} {n : Nat}
mutual
theorem Rp.back (p : ∀ k a, k < n → bs[k]? = some a → as[k]? = some a) : ∀ {d : D} {v : V}, Rp K bs F d v → D.clean n d = true → Rp K as F d v
  | _, _, .non, _ => .non
  | _, _, .bl b, _ => .bl b
  | _, _, .int i, _ => .int i
  | _, _, .str s, _ => .str s
  | _, _, .ty n, _ => .ty n
  | _, _, .adr a, _ => .adr a
  | _, _, .scr h, _ => .scr h
  | _, _, .cell h, c => .cell (p _ _ (by unfold D.clean at c; exact of_decide_eq_true c) h)
  | _, _, .tup h r, c => .tup h (RpL.back p r (by unfold D.clean at c; exact c))
  | _, _, .lst h r, c => .lst h (RpL.back p r (by unfold D.clean at c; exact c))
  | _, _, .obj h r, c => .obj h (RpF.back p r (by unfold D.clean at c; exact c))
theorem RpL.back (p : ∀ k a, k < n → bs[k]? = some a → as[k]? = some a) : ∀ {ds : List D} {vs : List V}, RpL K bs F ds vs → D.cleanL n ds = true → RpL K as F ds vs
  | _, _, .nil, _ => .nil
  | _, _, .cons h r, c => by
    unfold D.cleanL at c
    obtain ⟨c1, c2⟩ := Bool.and_eq_true_iff.mp c
    exact .cons (Rp.back p h c1) (RpL.back p r c2)
theorem RpF.back (p : ∀ k a, k < n → bs[k]? = some a → as[k]? = some a) : ∀ {fs : List (Str × D)} {vfs : List (Str × V)}, RpF K bs F fs vfs → D.cleanF n fs = true → RpF K as F fs vfs
  | _, _, .nil, _ => .nil
  | _, _, .cons h r, c => by
    unfold D.cleanF at c
    obtain ⟨c1, c2⟩ := Bool.and_eq_true_iff.mp c
    exact .cons (Rp.back p h c1) (RpF.back p r c2)
end
theorem pre_nil {as : List Addr} : Pre [] as := fun i a h => by simp at h
end

/-! ### a def by its body -/
def startE (n : Nat) (ds : List D) : Env := ds.map some ++ List.replicate (n - ds.length) none
theorem startE_ok {K : PySem.W.Frag} {as : List Addr} {F : Hp} {N : List Str} {ds : List D} {vs : List V} (r : RpL K as F ds vs) : RpE K as F (startE N.length ds) (L2.start N vs) := by
  have hl := r.length
  refine ⟨by simp [startE, L2.start, hl], fun i d h => ?_⟩
  unfold startE at h
  unfold L2.start
  by_cases hi : i < ds.length
  · rw [List.getElem?_append_left (by simpa using hi)] at h
    rw [List.getElem?_append_left (by simpa [← hl] using hi)]
    simp only [List.getElem?_map, Option.map_eq_some_iff] at h
    obtain ⟨d', h1, h2⟩ := h
    cases h2
    obtain ⟨v, hv, rv⟩ := r.get h1
    exact ⟨v, by simp [hv], rv⟩
  · rw [List.getElem?_append_right (by simpa using hi)] at h
    simp [List.getElem?_replicate] at h
/-- what a body hands back: a list of the def's own stands still from here on -/
def fin (n : Nat) (d : D) (S : WS) : Option (D × WS) := if S.length = n then some (d, S) else match d with
  | .cell k => if k < n then some (d, S.take n) else match S[k]? with
    | some (.lst ds) => some (.lst ds, S.take n)
    | _ => none
  | d => if D.clean n d = true then some (d, S.take n) else none
def fnD (n : Nat) (m : Env → MS) : List D → M := fun ds S => (m (startE n ds) S).bind fun p => match p.1 with
  | .ret d => fin S.length d p.2
  | .nx _ => fin S.length .non p.2
  | _ => none
theorem Sit.take {K : PySem.W.Frag} {as bs : List Addr} {F H : Hp} {S : WS} (I : Sit K bs F H S) (p : Pre as bs) (hl : as.length ≤ bs.length) (hn : as.Nodup) : Sit K as F H (S.take as.length) := by
  refine ⟨by rw [List.length_take, ← I.len]; omega, I.ex, hn, fun i q c h1 h2 => ?_⟩
  have hi := (List.getElem?_eq_some_iff.mp h1).1
  rw [List.getElem?_take_of_lt hi] at h2
  exact I.cell i q c (p i q h1) h2
theorem pre_len {as bs : List Addr} (p : Pre as bs) : as.length ≤ bs.length := by
  by_cases h : as.length = 0
  · omega
  · have hl : as.length - 1 < as.length := by omega
    have := p (as.length - 1) _ (List.getElem?_eq_getElem hl)
    have := (List.getElem?_eq_some_iff.mp this).1
    omega
theorem pre_back {as bs : List Addr} (p : Pre as bs) : ∀ k a, k < as.length → bs[k]? = some a → as[k]? = some a := fun k a hk h => by
  have := p k _ (List.getElem?_eq_getElem hk)
  rw [h] at this
  cases this
  exact List.getElem?_eq_getElem hk
theorem pre_eq {as bs : List Addr} (p : Pre as bs) (h : bs.length = as.length) : bs = as := by
  refine List.ext_getElem? fun i => ?_
  by_cases hi : i < as.length
  · have := p i _ (List.getElem?_eq_getElem hi)
    rw [this, List.getElem?_eq_getElem hi]
  · rw [List.getElem?_eq_none (by omega), List.getElem?_eq_none (by omega)]
/-- what was a cell of the def's own is out of sight -/
theorem Grow.drop {K : PySem.W.Frag} {as bs : List Addr} {F H F' H' : Hp} {S' : WS} (g : Grow K as F H bs F' H' S') (hn : as.Nodup) : Grow K as F H as F' H' (S'.take as.length) :=
  ⟨g.sit.take g.pre (pre_len g.pre) hn, Pre.refl _, g.ex, g.new, fun _ h => .inl h, g.old, g.there⟩
theorem fin_ok {K : PySem.W.Frag} {as bs : List Addr} {F H F' H' : Hp} {S S1 S' : WS} {d d' : D} {v : V} (I : Sit K as F H S) (g : Grow K as F H bs F' H' S1) (r : Rp K bs F' d v) (h : fin S.length d S1 = some (d', S')) :
    ∃ F2, Grow K as F H as F2 H' S' ∧ Rp K as F2 d' v := by
  have hl : bs.length = S1.length := g.sit.len
  have hn : as.length = S.length := I.len
  unfold fin at h
  split at h
  · rename_i e
    cases h
    have eb : bs = as := pre_eq g.pre (by omega)
    subst eb
    exact ⟨F', g, r⟩
  · have gd := g.drop I.nd
    rw [hn] at gd
    have other : ∀ x : D, D.clean S.length x = true → Rp K bs F' x v → Rp K as F' x v := fun x hx rx => rx.back (fun k a hk => pre_back g.pre k a (by omega)) hx
    split at h
    · rename_i k
      split at h
      · rename_i hk
        cases h
        exact ⟨F', gd, other _ (by unfold D.clean; exact decide_eq_true hk) r⟩
      · rename_i hk
        split at h
        · rename_i ds hS
          cases h
          cases r with
          | cell ha =>
            rename_i a
            obtain ⟨z1, o, z2, z3⟩ := g.sit.cell k a _ ha hS
            cases o with
            | lst xs =>
              have fa : F' a = none := z1 rfl
              have na : a ∉ as := fun z => by
                obtain ⟨i, hi⟩ := List.getElem?_of_mem z
                have h1 := g.pre i a hi
                have hib : i < bs.length := (List.getElem?_eq_some_iff.mp h1).1
                have h2 : i = k := (List.getElem?_inj hib g.sit.nd).mp (h1.trans ha.symm)
                have := (List.getElem?_eq_some_iff.mp hi).1
                omega
              refine ⟨upd F' a (.lst xs), ⟨gd.sit.freeze fa na z2, Pre.refl _, gd.ex.trans (Ex.new fa), fun b hb => ?_, fun _ h => .inl h, gd.old, gd.there⟩, .lst upd_same (RpL.mono (Ex.new fa) pre_nil z3)⟩
              by_cases e2 : b = a
              · subst e2
                rcases g.newc b (List.mem_of_getElem? ha) with z | z
                · exact absurd z na
                · exact .inr z
              · rw [upd_ne e2] at hb
                exact gd.new b hb
            | _ => exact z3.elim
        · cases h
    · split at h
      · rename_i hc
        cases h
        exact ⟨F', gd, other _ hc r⟩
      · cases h
theorem fnD_run {K : PySem.W.Frag} {N : List Str} {m : Env → MS} {ts : TS} {n : Nat} {vs : List V} {H : Hp} {Q : VK} {E : XK} (hm : MSt K ts m) (h : spG K n (fnD N.length m) vs H Q E) :
    ts { nx := fun _ H' => Q .non H', rt := Q } (L2.start N vs) H := by
  obtain ⟨as, F, S, ds, d, S', I, r, hl, e, q⟩ := h
  unfold fnD at e
  cases h1 : m (startE N.length ds) S with
  | none => rw [h1] at e; cases e
  | some p =>
    simp only [h1, Option.bind_some] at e
    refine hm as F H S _ _ I (startE_ok r) p.1 p.2 h1 _ fun bs F' H' g => ?_
    obtain ⟨o, S1⟩ := p
    cases o with
    | nx ρ =>
      intro σ R
      obtain ⟨F2, g2, r2⟩ := fin_ok (v := .non) I g .non e
      exact q F2 H' .non g2 r2
    | ret d1 =>
      intro v rv
      obtain ⟨F2, g2, r2⟩ := fin_ok I g rv e
      exact q F2 H' v g2 r2
    | bk ρ => cases e
    | ct ρ => cases e
section
variable {P : Program} {w : World} {K : PySem.W.Frag} {mg : Str → Option Value} {base : Heap}
theorem fn_G {x qual : Str} {params : Arguments} {body : List Stmt} {scope : Scope} {dvs : List V} {kws : List (Str × V)} {f : Addr} {fd : FuncData} {N ps : List Str} {k : Nat} {m : Env → MS} (F : FunD K x qual params body scope dvs kws f fd) (S : FnScope N ps scope)
    (hb : ∀ (cdv : Value) (A : Around) (outer : List PySem.Env) (s : Shared) (H : Hp) (E : XK), Room k (A.deeper (PyProof.Rows.envOfC qual scope s.heap.objs.size f cdv)) → GSs (cxOf CX0 P w K mg base N qual scope f cdv A outer s H E).nox body m) :
    FnOk P w K mg base CX0 (k + 1) f fd ps (spG K ps.length (fnD N.length m)) := by
  refine F.ok S (fun vs H Q E h => ?_) (fun cdv A outer s H vs Q E hr h => ?_)
  · obtain ⟨as, F, S, ds, d, S', I, r, hl, e, q⟩ := h
    rw [← r.length]
    exact hl
  · obtain ⟨ts, p, hm⟩ := hb cdv A outer s H E hr
    exact ⟨ts, p.nox, fnD_run hm h⟩

/-! ### where no text of a thing is being made: repr may be asked -/
structure FnGd (P : Program) (w : World) (K : PySem.W.Frag) (mg : Str → Option Value) (base : Heap) (k : Nat) (f : Addr) (fd : FuncData) (ps : List Str) (sp : Sp) : Prop where
  len : ∀ vs H Q E, sp vs H Q E → vs.length = ps.length
  run : ∀ (A : Around) (outer : List PySem.Env) (s : Shared) (H : Hp) (args : Args) (us : List Value) (vs : List V) (Q : VK) (E : XK), A.guards = some [] → Room k A → Env0 P w K mg base A outer s H → BindsTo s fd args (ps.zip us) → Vals vs us → sp vs H Q E →
    codeAny (model P w) A (.call (.ref f) args) (CR CX0 outer P w H s Q E) s
theorem FnGd.of {k : Nat} {f : Addr} {fd : FuncData} {ps : List Str} {sp : Sp} (F : FnOk P w K mg base CX0 k f fd ps sp) : FnGd P w K mg base k f fd ps sp :=
  ⟨F.len, fun A outer s H args us vs Q E _ => F.run A outer s H args us vs Q E⟩
theorem fnGd_of {f : Addr} {name qual : Str} {params : Arguments} {body : List Stmt} {scope : Scope} {dvs : List V} {kws : List (Str × V)} {fd : FuncData} {N ps : List Str} {sp : Sp} {k : Nat} (F : FunD K name qual params body scope dvs kws f fd) (S : FnScope N ps scope)
    (len : ∀ vs H Q E, sp vs H Q E → vs.length = ps.length)
    (hbody : ∀ (cdv : Value) (A : Around) (outer : List PySem.Env) (s : Shared) (H : Hp) (vs : List V) (Q : VK) (E : XK), A.guards = some [] → Room k (A.deeper (PyProof.Rows.envOfC qual scope s.heap.objs.size f cdv)) → sp vs H Q E →
      ∃ t, PSs (cxOf CX0 P w K mg base N qual scope f cdv A outer s H E) body t ∧ t { nx := fun _ H' => Q .non H', rt := Q } (L2.start N vs) H) :
    FnGd P w K mg base (k + 1) f fd ps sp := by
  obtain ⟨oc, od, dV, kV, doc, pm, an, cdv, ct, osl, rfl, lk, hcd, _, _⟩ := F.ex
  refine ⟨len, fun A outer s H args us vs Q E hg hr e0 hb r hsp => ?_⟩
  have still : ∀ b o, base.get? b = some o → s.heap.get? b = some o := fun b o e => (e0.bs b o e).1
  have KX : K.In s.heap := e0.mod.kin.keeps still
  have bound : ∀ y ∈ ps.zip us, scope.names.lookup y.1 = some .local ∨ (scope.names.lookup y.1 = some .cell ∧ ((cellsFrom (s.heap.objs.size + 1) scope.names []).lookup y.1).isSome = true) := by
    rintro ⟨n, v⟩ hy
    rcases S.par n (List.of_mem_zip hy).1 with q | q
    · exact Or.inl q
    · exact Or.inr ⟨q, PySem.W.cellsFrom_some _ _ _ (.inl q)⟩
  refine codeAny_call_function hr.depth (KX _ _ lk) rfl S.co S.gen rfl (PySem.W.codeRec_of KX hcd) (hb _ _ _ _ ?_)
  refine wpAny_newFunctionEnv_cells S.kind bound fun env he s1 x => ?_
  subst he
  refine ⟨(e0.mod.nolimit.keeps still).keeps x.toInCall.keep, codeAny_func ?_⟩
  obtain ⟨t, ht, hq⟩ := hbody cdv A outer s H vs Q E hg (hr.deeper _) hsp
  have I := inv_start (CX := CX0) (E := E) (f := f) (cd := cdv) (qual := qual) S hr.hd e0 (len _ _ _ _ hsp) r x
  refine wpAny_mono (ht.run [] s1 (L2.start N vs) H _ I hq) (fun fl s' hs => ?_) fun e s' hs => hs
  cases fl with
  | ret u =>
    obtain ⟨v, σ', H', J, rv, q⟩ := hs
    exact ⟨v, H', J.os, J.bare, J.base, J.hok, rv, q⟩
  | next =>
    obtain ⟨σ', H', J, q⟩ := hs
    exact ⟨V.non, H', J.os, J.bare, J.base, J.hok, rfl, q⟩
  | brk =>
    obtain ⟨_, _, _, q⟩ := hs
    exact q.elim
  | cont =>
    obtain ⟨_, _, _, q⟩ := hs
    exact q.elim
theorem fn_GG {x qual : Str} {params : Arguments} {body : List Stmt} {scope : Scope} {dvs : List V} {kws : List (Str × V)} {f : Addr} {fd : FuncData} {N ps : List Str} {k : Nat} {m : Env → MS} (F : FunD K x qual params body scope dvs kws f fd) (S : FnScope N ps scope)
    (hb : ∀ (cdv : Value) (A : Around) (outer : List PySem.Env) (s : Shared) (H : Hp) (E : XK), A.guards = some [] → Room k (A.deeper (PyProof.Rows.envOfC qual scope s.heap.objs.size f cdv)) → GSs (cxOf CX0 P w K mg base N qual scope f cdv A outer s H E).nox body m) :
    FnGd P w K mg base (k + 1) f fd ps (spG K ps.length (fnD N.length m)) := by
  refine fnGd_of F S (fun vs H Q E h => ?_) (fun cdv A outer s H vs Q E hg hr h => ?_)
  · obtain ⟨as, F, S, ds, d, S', I, r, hl, e, q⟩ := h
    rw [← r.length]
    exact hl
  · obtain ⟨ts, p, hm⟩ := hb cdv A outer s H E hg hr
    exact ⟨ts, p.nox, fnD_run hm h⟩
end
section
variable {X : Cx} {e o : Expr} {es : List Expr} {pos p apos : Pos} {er ek : Env → ML} {ea : Env → M}
theorem ge_callG {k j n : Nat} {f : Addr} {fd : FuncData} {ps : List Str} {G : List D → M} {dvs : List D} {dv : List V} {ds : List Value} {x : Str}
    (F : FnGd X.prog X.w X.K X.mg X.base k f fd ps (spG X.K n G)) (hgd : X.A.guards = some []) (hr : Room j X.A) (hj : k ≤ j) (hm : X.mg x = some (.ref f)) (hk : PySem.W.keepIn X.K (.ref f) = true) (hb : Binds X.K fd ps ds) (hd : Vals dv ds)
    (hdv : ∀ as F, RpL X.K as F dvs dv) (ha : GA X (e :: es) er) (hg : Gl X x := by rfl) (hdb : (x == ("__debug__" : Str)) = false := by decide) (h1 : starEach (e :: es) X.env = (false, eval e X.env) :: starEach es X.env := by rfl) (h2 : (backTo pos (starEach es X.env)).any (·.1) = false := by rfl) :
    GE X (.Call (.Name x p) (e :: es) [] pos) (eFn n G dvs er) := by
  obtain ⟨t, pa, m⟩ := ha
  refine ⟨tCall (spG X.K n G) dv E0 t, ⟨fun pins s σ H Q I h => ?_⟩, me_fn hdv m⟩
  refine wpAny_Call_Name_kw (ld_glob I hg hm ?_ hdb)
  refine PySem.W.callWith_K (h₀ := X.base) I.ok.mod.kin hk (thn (pa.run pos pins s σ H _ I h) fun us s1 hh => ?_) h1 h2
  obtain ⟨vs, H1, I1, r1, q1⟩ := hh
  refine ⟨I1.kIn, ?_⟩
  have r2 : Vals (vs ++ dv) (us ++ ds) := r1.append hd
  have hl : (us ++ ds).length = ps.length := r2.length.symm.trans (F.len _ _ _ _ q1)
  refine wpAny_call (codeAny_mono (F.run X.A X.stack s1 H1 ⟨us, []⟩ (us ++ ds) (vs ++ dv) Q E0 hgd (hr.mono hj) I1.env0 (hb s1 us I1.kIn hl) r2 q1) fun r s' hq => ?_)
  cases r with
  | error er => exact hq.elim
  | ok fl =>
    cases fl with
    | ret u => exact I1.after hq
    | next => exact hq.elim
    | brk => exact hq.elim
    | cont => exact hq.elim
end
end RV
end
section
/-! Instances: made, their fields read and set, properties. -/
namespace RV
open PySem L2
section
variable {X : Cx} {e o : Expr} {es : List Expr} {pos p apos : Pos} {er ek : Env → ML} {ea eb : Env → M} {C : Addr} {f : Str}
/-- o.f of an instance of the class at C: one that stands still, or a cell -/
def fldD (C : Addr) (f : Str) (S : WS) : D → Option D
  | .obj C' fs => if C' = C then fs.lookup f else none
  | .cell k => match S[k]? with
    | some (.ob C' fs) => if C' = C then fs.lookup f else none
    | _ => none
  | _ => none
theorem fld_at {K : PySem.W.Frag} {as : List Addr} {F H : Hp} {S : WS} {x d : D} {v : V} (I : Sit K as F H S) (r : Rp K as F x v) (h : fldD C f S x = some d) : ∃ a dx vfs u, v = .ref a ∧ H a = some (.ins C dx vfs) ∧ vfs.lookup f = some u ∧ Rp K as F d u := by
  cases x with
  | obj C' fs =>
    unfold fldD at h
    simp only at h
    split at h
    · rename_i e
      subst e
      cases r with
      | obj ha rf =>
        obtain ⟨u, h1, h2⟩ := rf.look h
        exact ⟨_, _, _, u, rfl, I.ex _ _ ha, h1, h2⟩
    · cases h
  | cell k =>
    unfold fldD at h
    cases hS : S[k]? with
    | none => simp [hS] at h
    | some c =>
      cases c with
      | ob C' fs =>
        simp only [hS] at h
        split at h
        · rename_i e
          subst e
          cases r with
          | cell ha =>
            obtain ⟨z1, ob, z2, z3⟩ := I.cell k _ _ ha hS
            cases ob with
            | ins C2 dx vfs =>
              obtain ⟨e2, z3⟩ := z3
              subst e2
              obtain ⟨u, h1, h2⟩ := z3.look h
              exact ⟨_, dx, vfs, u, rfl, z2, h1, h2.mono (Ex.refl _) pre_nil⟩
            | _ => exact z3.elim
        · cases h
      | lst ds => simp [hS] at h
      | dic ds => simp [hS] at h
      | hid => simp [hS] at h
  | _ => cases h
theorem ge_fld (cl : Cls X.K C) (no : NoAttr X.K C f) (ha : GE X e ea) (hb : attributeBase e f X.env (eval e X.env) = eval e X.env := by rfl) : GE X (.Attribute e f pos) (eUn (fldD C f) ea) := by
  obtain ⟨t, pa, m⟩ := ha
  refine ⟨_, pe_fld pa hb, fun as F H S ρ σ I R d S' h Q q => ?_⟩
  unfold eUn at h
  cases h1 : ea ρ S with
  | none => rw [h1] at h; cases h
  | some z =>
    simp only [h1, Option.bind_some] at h
    cases h3 : fldD C f z.2 z.1 with
    | none => rw [h3] at h; cases h
    | some w =>
      rw [h3] at h
      cases h
      refine m as F H S ρ σ I R z.1 z.2 h1 _ fun F1 H1 v g r => ?_
      obtain ⟨a, dx, vfs, u, rfl, ha, hl, ru⟩ := fld_at g.sit r h3
      exact ⟨a, C, dx, vfs, u, rfl, ha, cl, no, hl, q F1 H1 u g ru⟩
/-- o.f, a property of the class at C -/
def eProp (C : Addr) (G : List D → M) (ea : Env → M) : Env → M := fun ρ S => (ea ρ S).bind fun p => match p.1 with
  | .obj C' fs => if C' = C then G [.obj C' fs] p.2 else none
  | .cell k => (match p.2[k]? with
    | some (.ob C' fs) => if C' = C then G [.cell k] p.2 else none
    | _ => none)
  | _ => none
theorem ge_prop {k j : Nat} {pr g : Addr} {fd : FuncData} {ps : List Str} {G : List D → M} (cl : Cls X.K C) (hp : PropOf X.K C f pr g) (Fn : FnOk X.prog X.w X.K X.mg X.base CX0 k g fd ps (spG X.K 1 G)) (hr : Room j X.A) (hj : k + 1 ≤ j) (hb : Binds X.K fd ps []) (ha : GE X e ea)
    (hab : attributeBase e f X.env (eval e X.env) = eval e X.env := by rfl) : GE X (.Attribute e f pos) (eProp C G ea) := by
  obtain ⟨t, pa, m⟩ := ha
  refine ⟨_, pe_prop (dvs := []) (E := E0) pa cl hp Fn (hr.mono hj) hb .nil pass0 hab, fun as F H S ρ σ I R d S' h Q q => ?_⟩
  unfold eProp at h
  cases h1 : ea ρ S with
  | none => rw [h1] at h; cases h
  | some z =>
    obtain ⟨zd, zS⟩ := z
    simp only [h1, Option.bind_some] at h
    refine m as F H S ρ σ I R zd zS h1 _ fun F1 H1 v g r => ?_
    cases zd with
    | obj C' fs =>
      simp only at h
      split at h
      · rename_i e
        subst e
        cases r with
        | obj h0 rf => exact ⟨_, _, _, rfl, g.sit.ex _ _ h0, as, F1, zS, [.obj C' fs], d, S', g.sit, .cons (.obj h0 rf) .nil, rfl, h, fun F2 H2 v2 g2 r2 => q F2 H2 v2 (g.trans g2) r2⟩
      · cases h
    | cell k =>
      simp only at h
      split at h
      · rename_i C' fs hS
        split at h
        · rename_i e
          subst e
          cases r with
          | cell h0 =>
            obtain ⟨z1, ob, z2, z3⟩ := g.sit.cell k _ _ h0 hS
            cases ob with
            | ins C2 dx vfs =>
              obtain ⟨e2, z3⟩ := z3
              subst e2
              exact ⟨_, _, _, rfl, z2, as, F1, zS, [.cell k], d, S', g.sit, .cons (.cell h0) .nil, rfl, h, fun F2 H2 v2 g2 r2 => q F2 H2 v2 (g.trans g2) r2⟩
            | _ => exact z3.elim
        · cases h
      · cases h
    | _ => cases h

/-! ### a cell's content changes -/
theorem Sit.put {K : PySem.W.Frag} {as : List Addr} {F H : Hp} {S : WS} {k : Nat} {p : Addr} {c c' : Cell} {o : HO} (I : Sit K as F H S) (ha : as[k]? = some p) (hS : S[k]? = some c) (hc : c.isHid = false) (hc' : c'.isHid = false) (ho : CellOf K F c' o) :
    Grow K as F H as F (upd H p o) (S.set k c') := by
  have z := I.cell k p c ha hS
  have fp : F p = none := z.out hc
  have hk : k < S.length := (List.getElem?_eq_some_iff.mp hS).1
  refine ⟨⟨by rw [List.length_set]; exact I.len, fun a u h => ?_, I.nd, fun i q c2 h1 h2 => ?_⟩, Pre.refl _, Ex.refl _, fun _ h => .inl h, fun _ h => .inl h, fun a u na h => ?_, fun a h => upd_there h⟩
  · have np : a ≠ p := fun z => by rw [z, fp] at h; cases h
    rw [upd_ne np]
    exact I.ex a u h
  · by_cases e : k = i
    · subst e
      rw [ha] at h1
      cases h1
      rw [List.getElem?_set_self hk] at h2
      cases h2
      exact ⟨fun _ => fp, o, upd_same, ho⟩
    · rw [List.getElem?_set_ne e] at h2
      have nq : q ≠ p := fun z => by
        subst z
        have hia : k < as.length := (List.getElem?_eq_some_iff.mp ha).1
        exact e ((List.getElem?_inj hia I.nd).mp (ha.trans h1.symm))
      obtain ⟨z1, ob, z2, z3⟩ := I.cell i q c2 h1 h2
      exact ⟨z1, ob, by rw [upd_ne nq]; exact z2, z3⟩
  · have np : a ≠ p := fun z => na (z ▸ List.mem_of_getElem? ha)
    rw [upd_ne np]
    exact h
def putD (f : Str) (d : D) : List (Str × D) → List (Str × D)
  | [] => [(f, d)]
  | (g, x) :: r => if g = f then (g, d) :: r else (g, x) :: putD f d r
theorem RpF.put {K : PySem.W.Frag} {as : List Addr} {F : Hp} {d : D} {v : V} (h : Rp K as F d v) : ∀ {fs : List (Str × D)} {vfs : List (Str × V)}, RpF K as F fs vfs → RpF K as F (putD f d fs) (putF f v vfs)
  | _, _, .nil => .cons h .nil
  | _, _, .cons (n := n) hd r => by
    unfold putD putF
    by_cases e : n = f
    · rw [if_pos e, if_pos e]
      exact .cons h r
    · rw [if_neg e, if_neg e]
      exact .cons hd (RpF.put h r)
theorem RpF.length {K : PySem.W.Frag} {as : List Addr} {F : Hp} : ∀ {fs : List (Str × D)} {vfs : List (Str × V)}, RpF K as F fs vfs → fs.length = vfs.length
  | _, _, .nil => rfl
  | _, _, .cons _ r => congrArg (· + 1) r.length
/-- o.f = e, o an instance that is a cell -/
def sFldD (C : Addr) (f : Str) (eo ee : Env → M) : Env → MS := fun ρ S => (ee ρ S).bind fun p => (eo ρ p.2).bind fun q => match q.1 with
  | .cell k => (match q.2[k]? with
    | some (.ob C' fs) => if C' = C ∧ D.clean 0 p.1 = true ∧ fs.length < 1000 then some (.nx ρ, q.2.set k (.ob C (putD f p.1 fs))) else none
    | _ => none)
  | _ => none
theorem gs_fld {ppos : Pos} (cl : Cls X.K C) (no : NoAttr X.K C f) (ho : GE X o ea) (he : GE X e eb) (hs : swapsWith e (some (.Attribute o f ppos)) pos.line X.env = pure false := by rfl) : GS X (.Assign [.Attribute o f ppos] e pos) (sFldD C f ea eb) := by
  obtain ⟨t, pt, mt⟩ := ho
  obtain ⟨u, pu, mu⟩ := he
  refine ⟨_, ps_fld pt pu hs, fun as F H S ρ σ I R ou S' h E q => ?_⟩
  unfold sFldD at h
  cases h1 : eb ρ S with
  | none => rw [h1] at h; cases h
  | some y =>
    simp only [h1, Option.bind_some] at h
    cases h2 : ea ρ y.2 with
    | none => rw [h2] at h; cases h
    | some z =>
      obtain ⟨zd, zS⟩ := z
      simp only [h2, Option.bind_some] at h
      refine mu as F H S ρ σ I R y.1 y.2 h1 _ fun F1 H1 v1 g1 r1 => ?_
      refine mt as F1 H1 y.2 ρ σ g1.sit (R.grow g1) zd zS h2 _ fun F2 H2 v2 g2 r2 => ?_
      cases zd with
      | cell k =>
        simp only at h
        split at h
        · rename_i C' fs hS
          split at h
          · rename_i hc
            obtain ⟨e1, hcl, hlen⟩ := hc
            subst e1
            cases h
            cases r2 with
            | cell h0 =>
              obtain ⟨z1, ob, z2, z3⟩ := g2.sit.cell k _ _ h0 hS
              cases ob with
              | ins C2 dx vfs =>
                obtain ⟨e2, z3⟩ := z3
                subst e2
                have r1' : Rp X.K [] F2 y.1 v1 := (RpE_aux g2 r1).back (n := 0) (fun k a hk => absurd hk (by omega)) hcl
                have g3 := g2.sit.put (c' := .ob C2 (putD f y.1 fs)) (o := .ins C2 dx (putF f v1 vfs)) h0 hS rfl rfl ⟨rfl, z3.put r1'⟩
                refine ⟨_, _, dx, vfs, rfl, z2, cl, no, by rw [← z3.length]; exact hlen, ?_⟩
                have g4 := (g1.trans g2).trans g3
                exact q as _ _ g4 σ (R.grow g4)
              | _ => exact z3.elim
          · cases h
        · cases h
      | _ => cases h

/-! ### an instance made -/
def makeD (C : Addr) (n : Nat) (G : List D → M) (ds : List D) (S : WS) : Option (D × WS) := if ds.length + 1 = n then (match G (.cell S.length :: ds) (S ++ [.ob C []]) with
  | some (.non, S2) => if S2.length = S.length + 1 then (match S2[S.length]? with
    | some (.ob C' fs) => if C' = C then some (.obj C fs, S2.take S.length) else none
    | _ => none) else none
  | _ => none) else none
theorem sit_cell {K : PySem.W.Frag} {as : List Addr} {F H : Hp} {S : WS} {x : Addr} {c : Cell} {o : HO} {H' : Hp} (I : Sit K as F H S) (hx : H x = none) (hH : ∀ a u, H a = some u → H' a = some u) (hx' : H' x = some o) (hc : c.isHid = false) (ho : CellOf K F c o) : Sit K (as ++ [x]) F H' (S ++ [c]) := by
  have nx : x ∉ as := fun z => I.there z hx
  refine ⟨by simp [I.len], fun a u h => hH _ _ (I.ex a u h), ?_, fun i q c2 h1 h2 => ?_⟩
  · rw [List.nodup_append]
    refine ⟨I.nd, by simp, fun a ha b hb e => ?_⟩
    rw [List.mem_singleton] at hb
    subst hb
    exact nx (e ▸ ha)
  · by_cases hi : i < as.length
    · rw [List.getElem?_append_left hi] at h1
      rw [List.getElem?_append_left (by rw [← I.len]; exact hi)] at h2
      obtain ⟨z1, ob, z2, z3⟩ := I.cell i q c2 h1 h2
      exact ⟨z1, ob, hH _ _ z2, z3⟩
    · have hi2 : i = as.length := by
        have := (List.getElem?_eq_some_iff.mp h1).1
        simp at this
        omega
      subst hi2
      rw [List.getElem?_append_right (Nat.le_refl _)] at h1
      rw [List.getElem?_append_right (by rw [I.len]; exact Nat.le_refl _)] at h2
      simp at h1
      simp [I.len] at h2
      subst h1
      subst h2
      exact ⟨fun _ => I.out hx, o, hx', ho⟩
theorem pre_app {as bs : List Addr} : Pre as (as ++ bs) := fun i a h => by
  rw [List.getElem?_append_left (List.getElem?_eq_some_iff.mp h).1]
  exact h
theorem make_ok {K : PySem.W.Frag} {as : List Addr} {F H : Hp} {S S' : WS} {n : Nat} {G : List D → M} {ds : List D} {vs : List V} {d : D} {E : XK} {Q : VK} (I : Sit K as F H S) (r : RpL K as F ds vs) (h : makeD C n G ds S = some (d, S'))
    (q : ∀ F' H' v, Grow K as F H as F' H' S' → Rp K as F' d v → Q v H') (x dx : Addr) (hx : H x = none) (hdx : H dx = none) (ne : dx ≠ x) :
    spG K n G (.ref x :: vs) (upd (upd H dx (.own x)) x (.ins C dx [])) (fun v H2 => v = .non ∧ Q (.ref x) H2) E := by
  unfold makeD at h
  split at h
  · rename_i hn
    cases hG : G (.cell S.length :: ds) (S ++ [.ob C []]) with
    | none => rw [hG] at h; cases h
    | some z =>
      obtain ⟨zd, S2⟩ := z
      rw [hG] at h
      cases zd with
      | non =>
        simp only at h
        split at h
        · rename_i hl
          split at h
          · rename_i C' fs hS
            split at h
            · rename_i eC
              subst eC
              cases h
              have hH : ∀ a u, H a = some u → upd (upd H dx (.own x)) x (.ins C' dx []) a = some u := fun a u e => by
                rw [upd_ne (ne_of_none e hx), upd_ne (ne_of_none e hdx)]
                exact e
              have nx : x ∉ as := fun z => I.there z hx
              have I2 : Sit K (as ++ [x]) F (upd (upd H dx (.own x)) x (.ins C' dx [])) (S ++ [.ob C' []]) := sit_cell I hx hH upd_same rfl ⟨rfl, .nil⟩
              refine ⟨as ++ [x], F, S ++ [.ob C' []], .cell S.length :: ds, .non, S2, I2, .cons (.cell (by rw [← I.len]; simp)) (r.mono (Ex.refl _) pre_app), by rw [List.length_cons]; exact hn, hG, fun F1 H1 v g rv => ?_⟩
              cases rv
              refine ⟨rfl, ?_⟩
              have hxa : (as ++ [x])[S.length]? = some x := by rw [← I.len]; simp
              obtain ⟨z1, ob, z2, z3⟩ := g.sit.cell S.length x _ hxa hS
              cases ob with
              | ins C2 dx2 vfs =>
                obtain ⟨e2, z3⟩ := z3
                subst e2
                have fx : F1 x = none := z1 rfl
                have I3 : Sit K as F1 H1 (S2.take as.length) := g.sit.take pre_app (by simp) I.nd
                rw [I.len] at I3
                have I4 := I3.freeze fx nx z2
                refine q (upd F1 x (.ins C2 dx2 vfs)) H1 (.ref x) ⟨I4, Pre.refl _, g.ex.trans (Ex.new fx), fun a ha => ?_, fun _ h => .inl h, fun a u na e => ?_, fun a e => ?_⟩ (.obj upd_same (RpF.mono (Ex.new fx) pre_nil z3))
                · by_cases e3 : a = x
                  · subst e3
                    exact .inr hx
                  · rw [upd_ne e3] at ha
                    rcases g.new a ha with z | z
                    · exact .inl z
                    · rw [upd_ne e3] at z
                      refine .inr (none_back (H1 := upd H dx (.own x)) (fun h => upd_there h) z)
                · refine g.old a u (fun z => ?_) (hH a u e)
                  rcases List.mem_append.mp z with z | z
                  · exact na z
                  · rw [List.mem_singleton] at z
                    subst z
                    rw [hx] at e
                    cases e
                · exact g.there a (upd_there (upd_there e))
              | _ => exact z3.elim
            · cases h
          · cases h
        · cases h
      | _ => cases h
  · cases h
def eMake (C : Addr) (n : Nat) (G : List D → M) (dvs : List D) (er : Env → ML) : Env → M := fun ρ S => (er ρ S).bind fun p => makeD C n G (p.1 ++ dvs) p.2
theorem ge_make {CX : CXT} {k j n : Nat} {fI : Addr} {fd : FuncData} {ps : List Str} {G : List D → M} {dvs : List D} {dv : List V} {ds : List Value} {E : XK} {x : Str} (Mm : Mk X.K C fI) (Fn : FnOk X.prog X.w X.K X.mg X.base CX k fI fd ps (spG X.K n G)) (hr : Room j X.A) (hj : k + 1 ≤ j)
    (hm : X.mg x = some (.ref C)) (hb : Binds X.K fd ps ds) (hd : Vals dv ds) (hx : Passes CX X E) (hdv : ∀ as F, RpL X.K as F dvs dv) (ha : GA X (e :: es) er) (hg : Gl X x := by rfl) (hdb : (x == ("__debug__" : Str)) = false := by decide)
    (h1 : starEach (e :: es) X.env = (false, eval e X.env) :: starEach es X.env := by rfl) (h2 : (backTo pos (starEach es X.env)).any (·.1) = false := by rfl) : GE X (.Call (.Name x p) (e :: es) [] pos) (eMake C n G dvs er) := by
  obtain ⟨t, pa, m⟩ := ha
  refine ⟨_, pe_make Mm Fn (hr.mono hj) hg hm hb hd hx pa hdb h1 h2, fun as F H S ρ σ I R d S' h Q q => ?_⟩
  unfold eMake at h
  cases h1 : er ρ S with
  | none => rw [h1] at h; cases h
  | some z =>
    simp only [h1, Option.bind_some] at h
    refine m as F H S ρ σ I R z.1 z.2 h1 _ fun F1 H1 vs g r => ?_
    intro x dx hx hdx ne
    exact make_ok g.sit (r.append (hdv as F1)) h (fun F2 H2 v g2 r2 => q F2 H2 v (g.trans g2) r2) x dx hx hdx ne
/-- C() -/
theorem ge_make0 {CX : CXT} {k j n : Nat} {fI : Addr} {fd : FuncData} {ps : List Str} {G : List D → M} {dvs : List D} {dv : List V} {ds : List Value} {E : XK} {x : Str} (Mm : Mk X.K C fI) (Fn : FnOk X.prog X.w X.K X.mg X.base CX k fI fd ps (spG X.K n G)) (hr : Room j X.A) (hj : k + 1 ≤ j)
    (hm : X.mg x = some (.ref C)) (hb : Binds X.K fd ps ds) (hd : Vals dv ds) (hx : Passes CX X E) (hdv : ∀ as F, RpL X.K as F dvs dv) (hg : Gl X x := by rfl) (hdb : (x == ("__debug__" : Str)) = false := by decide) : GE X (.Call (.Name x p) [] [] pos) (eMake C n G dvs aNil) := by
  refine ⟨_, pe_make0 Mm Fn (hr.mono hj) hg hm hb hd hx hdb, fun as F H S ρ σ I R d S' h Q q => ?_⟩
  unfold eMake aNil at h
  simp only [Option.bind_some, List.nil_append] at h
  intro x dx hx hdx ne
  exact make_ok (vs := [] ++ dv) I (hdv as F) h q x dx hx hdx ne
/-- C(e, .., k = v, ..): gD puts the values and the keywords' values in the parameters' order (without self) -/
def eMakeK (C : Addr) (n m1 m2 : Nat) (G : List D → M) (gD : List D → List D → List D) (er ek : Env → ML) : Env → M := fun ρ S => (er ρ S).bind fun p => (ek ρ p.2).bind fun z => if p.1.length = m1 ∧ z.1.length = m2 then makeD C n G (gD p.1 z.1) z.2 else none
theorem ge_makeK {CX : CXT} {k j n m1 : Nat} {fI : Addr} {fd : FuncData} {ps ks : List Str} {G : List D → M} {g : List Value → List Value → List Value} {gV : List V → List V → List V} {gD : List D → List D → List D} {E : XK} {x : Str} {kws : List Keyword} (Mm : Mk X.K C fI) (Fn : FnOk X.prog X.w X.K X.mg X.base CX k fI fd ps (spG X.K n G)) (hr : Room j X.A) (hj : k + 1 ≤ j)
    (hm : X.mg x = some (.ref C)) (hb : KBn X.K fd ps (m1 + 1) ks g gV) (hx : Passes CX X E) (hgD : ∀ as F (ds zs : List D) (vs ws : List V) (s : V), RpL X.K as F ds vs → RpL X.K as F zs ws → ds.length = m1 → zs.length = ks.length → ∃ us, gV (s :: vs) ws = s :: us ∧ RpL X.K as F (gD ds zs) us) (ha : GA X (e :: es) er) (hk : GK X kws ek) (hg : Gl X x := by rfl)
    (hall : (backToKw pos (keywordEach kws X.env)).all (·.1.isSome) = true := by rfl) (hks : (backToKw pos (keywordEach kws X.env)).filterMap (·.1) = ks := by rfl) (hdb : (x == ("__debug__" : Str)) = false := by decide)
    (he : starEach (e :: es) X.env = (false, eval e X.env) :: starEach es X.env := by rfl) (hpl : ((backTo pos (starEach (e :: es) X.env)).any (·.1) || (backToKw pos (keywordEach kws X.env)).any (·.1.isNone)) = false := by rfl) :
    GE X (.Call (.Name x p) (e :: es) kws pos) (eMakeK C n m1 ks.length G gD er ek) := by
  obtain ⟨t, pa, m⟩ := ha
  obtain ⟨u, pk, mk⟩ := hk
  refine ⟨_, pe_makeK Mm Fn (hr.mono hj) hg hm hb hx pa pk hall hks hdb he hpl, fun as F H S ρ σ I R d S' h Q q => ?_⟩
  unfold eMakeK at h
  cases h1 : er ρ S with
  | none => rw [h1] at h; cases h
  | some z =>
    simp only [h1, Option.bind_some] at h
    cases h2 : ek ρ z.2 with
    | none => rw [h2] at h; cases h
    | some y =>
      simp only [h2, Option.bind_some] at h
      split at h
      · rename_i hl
        refine m as F H S ρ σ I R z.1 z.2 h1 _ fun F1 H1 vs g1 r1 => ?_
        refine mk as F1 H1 z.2 ρ σ g1.sit (R.grow g1) y.1 y.2 h2 _ fun F2 H2 ws g2 r2 => ?_
        have r1' := r1.mono g2.ex g2.pre
        refine ⟨r1.length.symm.trans hl.1, r2.length.symm.trans hl.2, fun x dx hx hdx ne => ?_⟩
        obtain ⟨us, e1, r3⟩ := hgD as F2 z.1 y.1 vs ws (.ref x) r1' r2 hl.1 hl.2
        rw [e1]
        exact make_ok g2.sit r3 h (fun F3 H3 v g3 r4 => q F3 H3 v ((g1.trans g2).trans g3) r4) x dx hx hdx ne
      · cases h
theorem ge_makeK0 {CX : CXT} {k j n : Nat} {fI : Addr} {fd : FuncData} {ps ks : List Str} {G : List D → M} {g : List Value → List Value → List Value} {gV : List V → List V → List V} {gD : List D → List D → List D} {E : XK} {x : Str} {kws : List Keyword} (Mm : Mk X.K C fI) (Fn : FnOk X.prog X.w X.K X.mg X.base CX k fI fd ps (spG X.K n G)) (hr : Room j X.A) (hj : k + 1 ≤ j)
    (hm : X.mg x = some (.ref C)) (hb : KBn X.K fd ps 1 ks g gV) (hx : Passes CX X E) (hgD : ∀ as F (ds zs : List D) (vs ws : List V) (s : V), RpL X.K as F ds vs → RpL X.K as F zs ws → ds.length = 0 → zs.length = ks.length → ∃ us, gV (s :: vs) ws = s :: us ∧ RpL X.K as F (gD ds zs) us) (hk : GK X kws ek) (hg : Gl X x := by rfl)
    (hall : (backToKw pos (keywordEach kws X.env)).all (·.1.isSome) = true := by rfl) (hks : (backToKw pos (keywordEach kws X.env)).filterMap (·.1) = ks := by rfl) (hdb : (x == ("__debug__" : Str)) = false := by decide)
    (hpl : ((backTo pos (starEach [] X.env)).any (·.1) || (backToKw pos (keywordEach kws X.env)).any (·.1.isNone)) = false := by rfl) :
    GE X (.Call (.Name x p) [] kws pos) (eMakeK C n 0 ks.length G gD aNil ek) := by
  obtain ⟨u, pk, mk⟩ := hk
  refine ⟨_, pe_makeK0 Mm Fn (hr.mono hj) hg hm hb hx pk hall hks hdb hpl, fun as F H S ρ σ I R d S' h Q q => ?_⟩
  unfold eMakeK aNil at h
  simp only [Option.bind_some] at h
  cases h2 : ek ρ S with
  | none => rw [h2] at h; cases h
  | some y =>
    simp only [h2, Option.bind_some] at h
    split at h
    · rename_i hl
      refine mk as F H S ρ σ I R y.1 y.2 h2 _ fun F2 H2 ws g2 r2 => ?_
      refine ⟨rfl, r2.length.symm.trans hl.2, fun x dx hx hdx ne => ?_⟩
      obtain ⟨us, e1, r3⟩ := hgD as F2 [] y.1 [] ws (.ref x) .nil r2 rfl hl.2
      rw [e1]
      exact make_ok g2.sit r3 h (fun F3 H3 v g3 r4 => q F3 H3 v (g2.trans g3) r4) x dx hx hdx ne
    · cases h
end
end RV
end
section
/-! Operations on data. -/
namespace RV
open PySem L2
section
variable {K : PySem.W.Frag} {as : List Addr} {F H : Hp} {S : WS}
/-- nothing new comes: the value itself -/
theorem keep {S : WS} {Q : VK} {d : D} {v : V} (I : Sit K as F H S) (q : ∀ F' H' v, Grow K as F H as F' H' S → Rp K as F' d v → Q v H') (r : Rp K as F d v) : Q v H := q F H v (Grow.refl I) r
theorem fresh {Q : VK} {o : HO} {d : D} (I : Sit K as F H S) (q : ∀ F' H' v, Grow K as F H as F' H' S → Rp K as F' d v → Q v H') (r : ∀ p, Rp K as (upd F p o) d (.ref p)) : ∀ p, H p = none → Q (.ref p) (upd H p o) := fun p hp => q _ _ _ (I.grow hp) (r p)
/-! ### numbers -/
def intD (f : Int → Int → Int) : WS → D → D → Option D := fun _ x y => match x, y with
  | .int i, .int j => some (.int (f i j))
  | _, _ => none
def cmpD (f : Int → Int → Bool) : WS → D → D → Option D := fun _ x y => match x, y with
  | .int i, .int j => some (.bl (f i j))
  | _, _ => none
theorem ro_int {f : Int → Int → Int} : RO K (rI0 fun i j => .int (f i j)) (intD f) := fun as F H S x y d vx vy I rx ry h Q q => by
  unfold intD at h
  split at h
  · cases h
    cases rx
    cases ry
    exact ⟨_, _, rfl, rfl, keep I q (.int _)⟩
  · cases h
theorem ro_cmp {f : Int → Int → Bool} : RO K (rI0 fun i j => .bl (f i j)) (cmpD f) := fun as F H S x y d vx vy I rx ry h Q q => by
  unfold cmpD at h
  split at h
  · cases h
    cases rx
    cases ry
    exact ⟨_, _, rfl, rfl, keep I q (.bl _)⟩
  · cases h
/-- under a condition that can be told -/
def intCD (c : Int → Int → Bool) (f : Int → Int → Int) : WS → D → D → Option D := fun _ x y => match x, y with
  | .int i, .int j => if c i j = true then some (.int (f i j)) else none
  | _, _ => none
theorem ro_intC {C : Int → Int → Prop} {c : Int → Int → Bool} {f : Int → Int → Int} (hc : ∀ i j, c i j = true → C i j) : RO K (rI C fun i j => .int (f i j)) (intCD c f) := fun as F H S x y d vx vy I rx ry h Q q => by
  unfold intCD at h
  split at h
  · split at h
    · rename_i hh
      cases h
      cases rx
      cases ry
      exact ⟨_, _, rfl, rfl, hc _ _ hh, keep I q (.int _)⟩
    · cases h
  · cases h
theorem RO.or {r r' : R2} {f g : WS → D → D → Option D} (h : RO K r f) (h' : RO K r' g) : RO K (fun x y H Q => r x y H Q ∨ r' x y H Q) (fun S x y => (f S x y).orElse fun _ => g S x y) := fun as F H S x y d vx vy I rx ry e Q q => by
  replace e : ((f S x y).orElse fun _ => g S x y) = some d := e
  cases h1 : f S x y with
  | some z =>
    rw [h1] at e
    have e' : z = d := by simpa using e
    subst e'
    exact .inl (h as F H S x y z vx vy I rx ry h1 Q q)
  | none =>
    rw [h1] at e
    exact .inr (h' as F H S x y d vx vy I rx ry (by simpa using e) Q q)
def mulOk (i j : Int) : Bool := decide ((-(2 ^ 64) < i ∧ i < 2 ^ 64) ∨ (-(2 ^ 64) < j ∧ j < 2 ^ 64))
def powOk (i j : Int) : Bool := decide (0 ≤ j ∧ j ≤ 1000000 ∧ i.natAbs < 2 ^ 64)
theorem mulOk_c {i j : Int} (h : mulOk i j = true) : CMul i j := by
  unfold mulOk at h
  simp only [decide_eq_true_eq] at h
  exact h
theorem powOk_c {i j : Int} (h : powOk i j = true) : CPow i j := by
  unfold powOk at h
  simp only [decide_eq_true_eq] at h
  exact h
def posR (_ j : Int) : Bool := decide (0 < j)
def divOk (_ j : Int) : Bool := decide (0 < j ∧ j < 1073741824)
/-! ### texts -/
def catS : WS → D → D → Option D := fun _ x y => match x, y with
  | .str a, .str b => if small (a.length + b.length) = true then some (.str (a ++ b)) else none
  | _, _ => none
theorem ro_catS : RO K (fun x y H Q => ∃ i j, x = .str i ∧ y = .str j ∧ i.length + j.length ≤ sizeLine ∧ Q (.str (i ++ j)) H) catS := fun as F H S x y d vx vy I rx ry h Q q => by
  unfold catS at h
  split at h
  · split at h
    · rename_i hh
      cases h
      cases rx
      cases ry
      exact ⟨_, _, rfl, rfl, small_le hh, keep I q (.str _)⟩
    · cases h
  · cases h
/-- lists together -/
def catL : WS → D → D → Option D := fun _ x y => match x, y with
  | .lst a, .lst b => if small (a.length + b.length) = true then some (.lst (a ++ b)) else none
  | _, _ => none
theorem ro_catL : RO K rCat catL := fun as F H S x y d vx vy I rx ry h Q q => by
  unfold catL at h
  split at h
  · split at h
    · rename_i hh
      cases h
      cases rx with
      | lst h1 r1 =>
        cases ry with
        | lst h2 r2 =>
          refine ⟨_, _, _, _, rfl, rfl, I.ex _ _ h1, I.ex _ _ h2, by rw [← r1.length, ← r2.length]; exact small_le hh, fun p hp => ?_⟩
          refine q _ _ _ (I.grow hp) (.lst upd_same ((r1.append r2).mono (Ex.new (I.out hp)) (Pre.refl _)))
    · cases h
  · cases h
/-! ### an item -/
def ixD : WS → D → D → Option D := fun S x y => match x, y with
  | .lst ds, .int i => atI ds i
  | .tup ds, .int i => atI ds i
  | .str s, .int i => if small s.length = true then (atI s.cps.toList i).map fun c => .str ⟨#[c]⟩ else none
  | .cell k, .int i => match S[k]? with
    | some (.lst ds) => atI ds i
    | _ => none
  | .scr ns, .int i => (atI ns i).map D.int
  | _, _ => none
theorem atI_map {ns : List Int} {i n : Int} (h : L2.atI ns i = some n) : L2.atI (ns.map V.int) i = some (V.int n) := by
  unfold L2.atI at h ⊢
  rw [List.length_map]
  cases h1 : ixN ns.length i with
  | none => rw [h1] at h; cases h
  | some j =>
    rw [h1] at h
    simp only [Option.bind_some] at h ⊢
    rw [List.getElem?_map, h]
    rfl
theorem RpL.atI {ds : List D} {vs : List V} (r : RpL K as F ds vs) {i : Int} {d : D} (h : L2.atI ds i = some d) : ∃ v, L2.atI vs i = some v ∧ Rp K as F d v := by
  unfold L2.atI at h ⊢
  rw [← r.length]
  cases h1 : ixN ds.length i with
  | none => rw [h1] at h; cases h
  | some j =>
    rw [h1] at h
    simp only [Option.bind_some] at h ⊢
    exact r.get h
theorem ro_ix : RO K (rIx K) ixD := fun as F H S x y d vx vy I rx ry h Q q => by
  unfold ixD at h
  split at h
  · cases ry
    cases rx with
    | lst h1 r1 =>
      obtain ⟨v, e, rv⟩ := r1.atI h
      exact .inl ⟨_, _, _, v, rfl, rfl, SqL.of (I.ex _ _ h1), e, keep I q rv⟩
  · cases ry
    cases rx with
    | tup h1 r1 =>
      obtain ⟨v, e, rv⟩ := r1.atI h
      exact .inr (.inl ⟨_, _, _, v, rfl, rfl, I.ex.sqT h1, e, keep I q rv⟩)
  · split at h
    · rename_i hh
      cases ry
      cases rx
      rename_i s i
      cases h1 : atI s.cps.toList i with
      | none => rw [h1] at h; cases h
      | some c =>
        rw [h1] at h
        cases h
        exact .inr (.inr ⟨_, _, c, rfl, rfl, small_le hh, h1, keep I q (.str _)⟩)
    · cases h
  · rename_i k i
    split at h
    · rename_i ds hS
      cases ry
      cases rx with
      | cell ha =>
        obtain ⟨z1, ob, z2, z3⟩ := I.cell k _ _ ha hS
        cases ob with
        | lst xs =>
          obtain ⟨v, e, rv⟩ := RpL.atI (K := K) (as := []) (F := F) z3 h
          exact .inl ⟨_, _, _, v, rfl, rfl, SqL.of z2, e, keep I q (rv.mono (Ex.refl _) pre_nil)⟩
        | _ => exact z3.elim
    · cases h
  · simp only [Option.map_eq_some_iff] at h
    obtain ⟨n, h1, rfl⟩ := h
    cases ry
    cases rx with
    | scr hs => exact .inl ⟨_, _, _, _, rfl, rfl, I.ex.sqL hs, atI_map h1, keep I q (.int n)⟩
  · cases h
/-! ### in -/
def flatD : D → Bool
  | .non => true
  | .bl _ => true
  | .int _ => true
  | .str _ => true
  | _ => false
def eqFl : D → D → Bool
  | .non, .non => true
  | .bl a, .bl b => a == b
  | .bl a, .int b => (if a then 1 else 0) == b
  | .int a, .bl b => a == (if b then 1 else 0)
  | .int a, .int b => a == b
  | .str a, .str b => a == b
  | _, _ => false
theorem flat_v {d : D} {v : V} (r : Rp K as F d v) (h : flatD d = true) : flatV v = true := by
  cases r <;> first | rfl | cases h
theorem flat_all : ∀ {ds : List D} {vs : List V}, RpL K as F ds vs → ds.all flatD = true → vs.all flatV = true
  | _, _, .nil, _ => rfl
  | _, _, .cons h r, e => by
    simp only [List.all_cons, Bool.and_eq_true] at e ⊢
    exact ⟨flat_v h e.1, flat_all r e.2⟩
theorem eqFl_v {d e : D} {v u : V} (r : Rp K as F d v) (s : Rp K as F e u) (hd : flatD d = true) (he : flatD e = true) : eqV v u = eqFl d e := by
  cases r <;> first | (cases hd; done) | (cases s <;> first | rfl | (cases he; done))
theorem any_v {x : D} {vx : V} (rx : Rp K as F x vx) (hx : flatD x = true) : ∀ {ds : List D} {vs : List V}, RpL K as F ds vs → ds.all flatD = true → inV vx vs = ds.any fun y => eqFl y x
  | _, _, .nil, _ => rfl
  | _, _, .cons h r, e => by
    simp only [List.all_cons, Bool.and_eq_true] at e
    have ih := any_v rx hx r e.2
    unfold inV at ih ⊢
    simp only [List.any_cons, ih, eqFl_v h rx e.1 hx]
def itemsD (S : WS) : D → Option (List D)
  | .lst ds => some ds
  | .tup ds => some ds
  | .scr ns => some (ns.map D.int)
  | .cell k => match S[k]? with
    | some (.lst ds) => some ds
    | _ => none
  | _ => none
theorem items_v {x : D} {v : V} {ds : List D} (I : Sit K as F H S) (r : Rp K as F x v) (h : itemsD S x = some ds) : ∃ a xs, v = .ref a ∧ (SqL K H a xs ∨ SqT K H a xs) ∧ RpL K as F ds xs := by
  cases x with
  | lst ds' =>
    cases h
    cases r with
    | lst h1 r1 => exact ⟨_, _, rfl, .inl (SqL.of (I.ex _ _ h1)), r1⟩
  | tup ds' =>
    cases h
    cases r with
    | tup h1 r1 => exact ⟨_, _, rfl, .inr (I.ex.sqT h1), r1⟩
  | scr ns =>
    cases h
    cases r with
    | scr h1 => exact ⟨_, _, rfl, .inl (I.ex.sqL h1), rpl_ints ns⟩
  | cell k =>
    unfold itemsD at h
    cases hS : S[k]? with
    | none => simp [hS] at h
    | some c =>
      cases c with
      | lst es =>
        simp only [hS] at h
        cases h
        cases r with
        | cell ha =>
          obtain ⟨z1, ob, z2, z3⟩ := I.cell k _ _ ha hS
          cases ob with
          | lst xs => exact ⟨_, _, rfl, .inl (SqL.of z2), RpL.mono (Ex.refl _) pre_nil z3⟩
          | _ => exact z3.elim
      | _ => simp [hS] at h
  | _ => cases h
def inD (neg : Bool) : WS → D → D → Option D := fun S x y => (itemsD S y).bind fun ds => if flatD x = true ∧ ds.all flatD = true then some (.bl (if neg then !ds.any (fun y => eqFl y x) else ds.any fun y => eqFl y x)) else none
theorem ro_in {neg : Bool} : RO K (rIn K neg) (inD neg) := fun as F H S x y d vx vy I rx ry h Q q => by
  unfold inD at h
  cases h1 : itemsD S y with
  | none => rw [h1] at h; cases h
  | some ds =>
    simp only [h1, Option.bind_some] at h
    split at h
    · rename_i hh
      cases h
      obtain ⟨a, xs, rfl, hs, r⟩ := items_v I ry h1
      refine ⟨a, xs, rfl, hs, flat_v rx hh.1, flat_all r hh.2, ?_⟩
      rw [any_v rx hh.1 r hh.2]
      exact keep I q (.bl _)
    · cases h
/-- one sign in a text -/
def inSD (neg : Bool) : WS → D → D → Option D := fun _ x y => match x, y with
  | .str s, .str z => match s.cps.toList with
    | [c] => some (.bl (if neg then !decide (c ∈ z.cps.toList) else decide (c ∈ z.cps.toList)))
    | _ => none
  | _, _ => none
theorem one_sign {s : Str} {c : Nat} (h : s.cps.toList = [c]) : s = ⟨#[c]⟩ := by
  obtain ⟨a⟩ := s
  have : a = #[c] := by
    apply Array.ext'
    simpa using h
  rw [this]
theorem ro_inS : RO K (fun x y H Q => ∃ (c : Nat) (z : Str), x = .str ⟨#[c]⟩ ∧ y = .str z ∧ Q (.bl (decide (c ∈ z.cps.toList))) H) (inSD false) := fun as F H S x y d vx vy I rx ry h Q q => by
  unfold inSD at h
  split at h
  · split at h
    · rename_i hc
      cases h
      cases rx
      cases ry
      rw [one_sign hc]
      exact ⟨_, _, rfl, rfl, keep I q (.bl _)⟩
    · cases h
  · cases h
theorem ro_notInS : RO K (fun x y H Q => ∃ (c : Nat) (z : Str), x = .str ⟨#[c]⟩ ∧ y = .str z ∧ Q (.bl (!decide (c ∈ z.cps.toList))) H) (inSD true) := fun as F H S x y d vx vy I rx ry h Q q => by
  unfold inSD at h
  split at h
  · split at h
    · rename_i hc
      cases h
      cases rx
      cases ry
      rw [one_sign hc]
      exact ⟨_, _, rfl, rfl, keep I q (.bl _)⟩
    · cases h
  · cases h
/-! ### == of data -/
mutual
def D.py : D → Option PyData
  | .non => some .none
  | .bl b => some (.bool b)
  | .int i => some (.int i)
  | .str s => some (.str s)
  | .tup ds => (D.pyL ds).map PyData.tuple
  | .lst ds => (D.pyL ds).map PyData.list
  | .ty _ | .adr _ | .cell _ | .scr _ | .obj _ _ => none
def D.pyL : List D → Option (List PyData)
  | [] => some []
  | d :: ds => (D.py d).bind fun a => (D.pyL ds).map fun b => a :: b
end
mutual
theorem Rp.dp (I : Ex F H) : ∀ {d : D} {v : V} {p : PyData}, Rp K as F d v → D.py d = some p → Dp K H v p
  | _, _, _, .non, h => by
    unfold D.py at h
    cases h
    exact .non
  | _, _, _, .bl b, h => by
    unfold D.py at h
    cases h
    exact .bl b
  | _, _, _, .int i, h => by
    unfold D.py at h
    cases h
    exact .int i
  | _, _, _, .str s, h => by
    unfold D.py at h
    cases h
    exact .str s
  | _, _, _, .ty n, h => by unfold D.py at h; cases h
  | _, _, _, .adr a, h => by unfold D.py at h; cases h
  | _, _, _, .cell _, h => by unfold D.py at h; cases h
  | _, _, _, .scr _, h => by unfold D.py at h; cases h
  | _, _, _, .obj _ _, h => by unfold D.py at h; cases h
  | _, _, _, .tup h1 r, h => by
    unfold D.py at h
    simp only [Option.map_eq_some_iff] at h
    obtain ⟨ps, h2, rfl⟩ := h
    exact .tup (I.sqT h1) (RpL.dp I r h2)
  | _, _, _, .lst h1 r, h => by
    unfold D.py at h
    simp only [Option.map_eq_some_iff] at h
    obtain ⟨ps, h2, rfl⟩ := h
    exact .lst (SqL.of (I _ _ h1)) (RpL.dp I r h2)
theorem RpL.dp (I : Ex F H) : ∀ {ds : List D} {vs : List V} {ps : List PyData}, RpL K as F ds vs → D.pyL ds = some ps → DpAll K H vs ps
  | _, _, _, .nil, h => by
    unfold D.pyL at h
    cases h
    exact .nil
  | _, _, _, .cons hd r, h => by
    unfold D.pyL at h
    simp only [Option.bind_eq_some_iff, Option.map_eq_some_iff] at h
    obtain ⟨a, h1, b, h2, rfl⟩ := h
    exact .cons (Rp.dp I hd h1) (RpL.dp I r h2)
end
def eqPy (x y : D) : Option Bool := (D.py x).bind fun a => (D.py y).bind fun b => if SeqAt.shaped a = true ∧ SeqAt.shaped b = true then some (PyData.eqv a b) else none
theorem ro_eqD : RO K (rEqD K) (fun _ x y => (eqPy x y).map D.bl) := fun as F H S x y d vx vy I rx ry h Q q => by
  unfold eqPy at h
  simp only [Option.map_eq_some_iff, Option.bind_eq_some_iff] at h
  obtain ⟨c, ⟨a, h1, b, h2, h3⟩, rfl⟩ := h
  split at h3
  · rename_i hs
    cases h3
    exact ⟨a, b, rx.dp I.ex h1, ry.dp I.ex h2, hs.1, hs.2, keep I q (.bl _)⟩
  · cases h3
theorem ro_neD : RO K (rNeD K) (fun _ x y => (eqPy x y).map fun c => D.bl (!c)) := fun as F H S x y d vx vy I rx ry h Q q => by
  unfold eqPy at h
  simp only [Option.map_eq_some_iff, Option.bind_eq_some_iff] at h
  obtain ⟨c, ⟨a, h1, b, h2, h3⟩, rfl⟩ := h
  split at h3
  · rename_i hs
    cases h3
    exact ⟨a, b, rx.dp I.ex h1, ry.dp I.ex h2, hs.1, hs.2, keep I q (.bl _)⟩
  · cases h3
/-- two texts, two numbers, two bools -/
def eqScal : D → D → Option Bool
  | .str a, .str b => some (decide (a = b))
  | .int a, .int b => some (decide (a = b))
  | .bl a, .bl b => some (decide (a = b))
  | _, _ => none
theorem dec_of {α β : Type} [DecidableEq α] [DecidableEq β] {a b : α} {f : α → β} (hf : ∀ x y, f x = f y → x = y) : decide (f a = f b) = decide (a = b) := by
  by_cases h : a = b
  · subst h
    simp
  · rw [decide_eq_false h, decide_eq_false fun z => h (hf _ _ z)]
theorem ro_eqS : RO K rEq (fun _ x y => (eqScal x y).map D.bl) := fun as F H S x y d vx vy I rx ry h Q q => by
  replace h : (eqScal x y).map D.bl = some d := h
  unfold eqScal at h
  split at h
  · cases h
    cases rx
    cases ry
    refine ⟨rfl, ?_⟩
    rw [dec_of (f := V.str) fun x y e => by cases e; rfl]
    exact keep I q (.bl _)
  · cases h
    cases rx
    cases ry
    refine ⟨rfl, ?_⟩
    rw [dec_of (f := V.int) fun x y e => by cases e; rfl]
    exact keep I q (.bl _)
  · cases h
    cases rx
    cases ry
    refine ⟨rfl, ?_⟩
    rw [dec_of (f := V.bl) fun x y e => by cases e; rfl]
    exact keep I q (.bl _)
  · cases h
theorem ro_neS : RO K rNe (fun _ x y => (eqScal x y).map fun c => D.bl (!c)) := fun as F H S x y d vx vy I rx ry h Q q => by
  replace h : ((eqScal x y).map fun c => D.bl (!c)) = some d := h
  unfold eqScal at h
  split at h
  · cases h
    cases rx
    cases ry
    refine ⟨rfl, ?_⟩
    rw [dec_of (f := V.str) fun x y e => by cases e; rfl]
    exact keep I q (.bl _)
  · cases h
    cases rx
    cases ry
    refine ⟨rfl, ?_⟩
    rw [dec_of (f := V.int) fun x y e => by cases e; rfl]
    exact keep I q (.bl _)
  · cases h
    cases rx
    cases ry
    refine ⟨rfl, ?_⟩
    rw [dec_of (f := V.bl) fun x y e => by cases e; rfl]
    exact keep I q (.bl _)
  · cases h
/-! ### built-ins -/
def lenD : WS → List D → Option D := fun S xs => match xs with
  | [.str s] => if small s.length = true then some (.int (s.length : Nat)) else none
  | [x] => (itemsD S x).map fun ds => .int (ds.length : Nat)
  | _ => none
theorem rc_len : RC K (fun xs H Q => ∃ x n, xs = [x] ∧ LenV K x H n ∧ Q (.int n) H) lenD := fun as F H S ds d vs I r h Q q => by
  unfold lenD at h
  split at h
  · split at h
    · rename_i hh
      cases h
      obtain ⟨v, ws, rfl, rv, rn⟩ := r.unsn
      obtain rfl := rn.unnil
      cases rv
      exact ⟨_, _, rfl, ⟨small_le hh, rfl⟩, keep I q (.int _)⟩
    · cases h
  · simp only [Option.map_eq_some_iff] at h
    obtain ⟨es, h1, rfl⟩ := h
    obtain ⟨v, ws, rfl, rv, rn⟩ := r.unsn
    obtain rfl := rn.unnil
    obtain ⟨a, xs, rfl, hs, rl⟩ := items_v I rv h1
    refine ⟨_, es.length, rfl, ?_, keep I q (.int _)⟩
    rcases hs with hs | hs
    · exact .inl ⟨_, hs, rl.length⟩
    · exact .inr ⟨_, hs, rl.length⟩
  · cases h
def boolsD : List D → Option (List Bool)
  | [] => some []
  | .bl b :: r => (boolsD r).map fun t => b :: t
  | _ => none
theorem bools_v : ∀ {ds : List D} {vs : List V} {bs : List Bool}, RpL K as F ds vs → boolsD ds = some bs → vs = bs.map V.bl
  | _, _, bs, .nil, h => by
    unfold boolsD at h
    cases h
    rfl
  | _, _, bs, .cons (d := d) hd r, h => by
    cases hd with
    | bl b =>
      unfold boolsD at h
      simp only [Option.map_eq_some_iff] at h
      obtain ⟨t, h1, rfl⟩ := h
      rw [bools_v r h1]
      rfl
    | _ => cases h
def allD : WS → List D → Option D := fun _ xs => match xs with
  | [.lst ds] => (boolsD ds).map fun bs => .bl (bs.all id)
  | _ => none
def anyD : WS → List D → Option D := fun _ xs => match xs with
  | [.lst ds] => (boolsD ds).map fun bs => .bl (bs.any id)
  | _ => none
theorem rc_all : RC K (rAll K) allD := fun as F H S ds d vs I r h Q q => by
  unfold allD at h
  split at h
  · simp only [Option.map_eq_some_iff] at h
    obtain ⟨bs, h1, rfl⟩ := h
    obtain ⟨v, ws, rfl, rv, rn⟩ := r.unsn
    obtain rfl := rn.unnil
    cases rv with
    | lst h2 rl =>
      have e := bools_v rl h1
      subst e
      exact ⟨_, bs, rfl, SqL.of (I.ex _ _ h2), keep I q (.bl _)⟩
  · cases h
theorem rc_any : RC K (rAny K) anyD := fun as F H S ds d vs I r h Q q => by
  unfold anyD at h
  split at h
  · simp only [Option.map_eq_some_iff] at h
    obtain ⟨bs, h1, rfl⟩ := h
    obtain ⟨v, ws, rfl, rv, rn⟩ := r.unsn
    obtain rfl := rn.unnil
    cases rv with
    | lst h2 rl =>
      have e := bools_v rl h1
      subst e
      exact ⟨_, bs, rfl, SqL.of (I.ex _ _ h2), keep I q (.bl _)⟩
  · cases h
/-! ### slices -/
def RSl (K : PySem.W.Frag) (r : V → Option Int → Option Int → Hp → VK → Prop) (f : WS → D → Option Int → Option Int → Option D) : Prop := ∀ (as : List Addr) (F H : Hp) (S : WS) (x d : D) (vx : V) (lo hi : Option Int), Sit K as F H S → Rp K as F x vx → f S x lo hi = some d →
  ∀ Q : VK, (∀ F' H' v, Grow K as F H as F' H' S → Rp K as F' d v → Q v H') → r vx lo hi H Q
def slS : WS → D → Option Int → Option Int → Option D := fun _ x lo hi => match x with
  | .str z => if small z.length = true then some (.str (cutS z lo hi)) else none
  | _ => none
theorem rsl_str : RSl K rSlS slS := fun as F H S x d vx lo hi I rx h Q q => by
  unfold slS at h
  split at h
  · split at h
    · rename_i hh
      cases h
      cases rx
      exact ⟨_, rfl, small_le hh, keep I q (.str _)⟩
    · cases h
  · cases h
def cutD (ds : List D) (lo hi : Option Int) : List D := (ds.drop (HT.sIx ds.length 0 lo)).take (HT.sIx ds.length ds.length hi - HT.sIx ds.length 0 lo)
def slL : WS → D → Option Int → Option Int → Option D := fun S x lo hi => match x with
  | .lst ds => some (.lst (cutD ds lo hi))
  | _ => none
theorem rsl_lst : RSl K (rSlL K) slL := fun as F H S x d vx lo hi I rx h Q q => by
  unfold slL at h
  split at h
  · cases h
    cases rx with
    | lst h1 r1 =>
      refine ⟨_, _, rfl, SqL.of (I.ex _ _ h1), fun p hp => ?_⟩
      refine q _ _ _ (I.grow hp) (.lst upd_same ?_)
      unfold cutD cutV
      rw [r1.length]
      exact ((r1.drop _).take _).mono (Ex.new (I.out hp)) (Pre.refl _)
  · cases h
end
section
variable {X : Cx} {e : Expr} {pos : Pos} {ea : Env → M}
abbrev MO := WS → Option (Option Int × WS)
structure GO (X : Cx) (e : Option Expr) (m : Env → MO) : Prop where
  ex : ∃ t : TO, PO X e t ∧ ∀ (as : List Addr) (F H : Hp) (S : WS) (ρ : Env) (σ : L2.St), Sit X.K as F H S → RpE X.K as F ρ σ → ∀ o S', m ρ S = some (o, S') →
    ∀ Q : Option Int → Hp → Prop, (∀ F' H', Grow X.K as F H as F' H' S' → Q o H') → t σ H Q
def oNone : Env → MO := fun _ S => some (none, S)
def oSome (ea : Env → M) : Env → MO := fun ρ S => (ea ρ S).bind fun p => match p.1 with
  | .int i => some (some i, p.2)
  | _ => none
theorem go_none : GO X none oNone := ⟨_, po_none, fun as F H S ρ σ I R o S' h Q q => by
  cases h
  exact q F H (Grow.refl I)⟩
theorem go_some (h : GE X e ea) : GO X (some e) (oSome ea) := by
  obtain ⟨t, p, m⟩ := h
  refine ⟨_, po_some p, fun as F H S ρ σ I R o S' h Q q => ?_⟩
  unfold oSome at h
  cases h1 : ea ρ S with
  | none => rw [h1] at h; cases h
  | some z =>
    obtain ⟨zd, zS⟩ := z
    simp only [h1, Option.bind_some] at h
    cases zd with
    | int i =>
      cases h
      refine m as F H S ρ σ I R _ _ h1 _ fun F1 H1 v g r => ?_
      cases r
      exact ⟨i, rfl, q F1 H1 g⟩
    | _ => cases h
def eSl (f : WS → D → Option Int → Option Int → Option D) (ea : Env → M) (lo hi : Env → MO) : Env → M := fun ρ S => (ea ρ S).bind fun p => (lo ρ p.2).bind fun l => (hi ρ l.2).bind fun u => (f u.2 p.1 l.1 u.1).map fun d => (d, u.2)
theorem ge_slice {lo hi : Option Expr} {p2 : Pos} {r : V → Option Int → Option Int → Hp → VK → Prop} {f : WS → D → Option Int → Option Int → Option D} {ml mh : Env → MO} (hr : SlR X r) (hf : RSl X.K r f) (he : GE X e ea) (hl : GO X lo ml) (hh : GO X hi mh) : GE X (.Subscript e (.Slice lo hi none p2) pos) (eSl f ea ml mh) := by
  obtain ⟨t, p, m⟩ := he
  obtain ⟨tl, pl, m1⟩ := hl
  obtain ⟨tu, pu, m2⟩ := hh
  refine ⟨_, pe_slice hr p pl pu, fun as F H S ρ σ I R d S' h Q q => ?_⟩
  unfold eSl at h
  cases h1 : ea ρ S with
  | none => rw [h1] at h; cases h
  | some z =>
    simp only [h1, Option.bind_some] at h
    cases h2 : ml ρ z.2 with
    | none => rw [h2] at h; cases h
    | some y =>
      simp only [h2, Option.bind_some] at h
      cases h3 : mh ρ y.2 with
      | none => rw [h3] at h; cases h
      | some w =>
        simp only [h3, Option.bind_some] at h
        cases h4 : f w.2 z.1 y.1 w.1 with
        | none => rw [h4] at h; cases h
        | some d' =>
          rw [h4] at h
          cases h
          refine m as F H S ρ σ I R z.1 z.2 h1 _ fun F1 H1 v g1 r1 => ?_
          refine m1 as F1 H1 z.2 ρ σ g1.sit (R.grow g1) y.1 y.2 h2 _ fun F2 H2 g2 => ?_
          refine m2 as F2 H2 y.2 ρ σ g2.sit ((R.grow g1).grow g2) w.1 w.2 h3 _ fun F3 H3 g3 => ?_
          have g := g2.trans g3
          exact hf as F3 H3 w.2 z.1 d v y.1 w.1 g3.sit (RpE_aux g r1) h4 Q fun F4 H4 u g4 r4 => q F4 H4 u ((g1.trans g).trans g4) r4
end
end RV
end
section
/-! Kinds (isinstance), truth, the texts of things (repr), own == and !=. -/
namespace RV
open PySem L2
section
variable {K : PySem.W.Frag} {as : List Addr} {F H : Hp} {S : WS}
/-- what is asked of an own class so that its instances' kind is known -/
structure KindC (K : PySem.W.Frag) (C : Addr) : Prop where
  cl : Cls K C
  ha : PySem.W.findIn K (.ref C) "__class__" = some (some (.builtin "object.__class__"))
  hn : PySem.W.specialIn K (.builtin "object.__class__") "__get__" = some (some (.builtin "getset_descriptor.__get__"))
  tk : PySem.W.takesIn K (.builtin "object.__class__") = some true
  mro : PySem.W.mroIn K C (.type "object") = some true
/-- the kind of data -/
def kindD (own : Addr → Bool) : D → Option Value
  | .non => some (.type "NoneType")
  | .bl _ => some (.type "bool")
  | .int _ => some (.type "int")
  | .str _ => some (.type "str")
  | .tup _ => some (.type "tuple")
  | .lst _ => some (.type "list")
  | .obj C _ => if own C = true then some (.ref C) else none
  | _ => none
theorem tyx_of {own : Addr → Bool} {d : D} {v : V} {t : Value} (ho : ∀ C, own C = true → KindC K C) (e : Ex F H) (r : Rp K as F d v) (h : kindD own d = some t) : TyX K H v t := by
  cases r with
  | non =>
    cases h
    exact .base .non
  | bl b =>
    cases h
    exact .base (.bl b)
  | int i =>
    cases h
    exact .base (.int i)
  | str s =>
    cases h
    exact .base (.str s)
  | tup h1 _ =>
    cases h
    rcases h1 with h1 | ⟨o, its, n, h1, h2, _⟩
    · rcases h1 with h1 | ⟨o, h1⟩
      · exact .base (.tup (e _ _ h1))
      · exact .fTuple (e _ _ h1)
    · exact .kTuple h1 h2
  | lst h1 _ =>
    cases h
    exact .base (.lst (e _ _ h1))
  | obj h1 _ =>
    unfold kindD at h
    simp only at h
    split at h
    · rename_i hc
      cases h
      have k := ho _ hc
      exact .base (.ins (e _ _ h1) k.cl k.ha k.hn k.tk k.mro)
    · cases h
  | _ => cases h
def clsD : D → Option Value
  | .ty n => some (.type n)
  | .adr a => some (.ref a)
  | _ => none
def isiD (own : Addr → Bool) (tab : Value → Value → Option Bool) : WS → List D → Option D := fun _ xs => match xs with
  | [x, c] => (kindD own x).bind fun t => (clsD c).bind fun u => (tab t u).map D.bl
  | _ => none
theorem rc_isi {own : Addr → Bool} {tab : Value → Value → Option Bool} (ho : ∀ C, own C = true → KindC K C) (ht : ∀ t u b, tab t u = some b → PySem.W.kitOne K t u = some b) : RC K (rIsi K) (isiD own tab) := fun as F H S ds d vs I r h Q q => by
  unfold isiD at h
  split at h
  · simp only [Option.bind_eq_some_iff, Option.map_eq_some_iff] at h
    obtain ⟨t, h1, u, h2, b, h3, rfl⟩ := h
    obtain ⟨v, ws, rfl, rv, rn⟩ := r.unsn
    obtain ⟨w, zs, rfl, rw', rn⟩ := rn.unsn
    obtain rfl := rn.unnil
    refine ⟨v, w, t, u, b, rfl, ?_, tyx_of ho I.ex rv h1, ht t u b h3, keep I q (.bl _)⟩
    cases rw' with
    | ty n =>
      cases h2
      exact .ty n
    | adr a =>
      cases h2
      exact .own a
    | _ => cases h2
  · cases h
/-! ### truth -/
def truD : WS → D → Option Bool := fun S x => match x with
  | .non => some false
  | .bl b => some b
  | .int i => some (i != 0)
  | .str s => if small s.length = true then some ((s.length : Int) != 0) else none
  | x => (itemsD S x).map fun ds => !ds.isEmpty
theorem rt_tru : RT K (fun x H Q => ∃ k, TruV K x H k ∧ Q k H) truD := fun as F H S x b vx I r h Q q => by
  have go : ∀ {ds : List D}, itemsD S x = some ds → (!ds.isEmpty) = b → ∃ k, TruV K vx H k ∧ Q k H := fun {ds} h1 e => by
    obtain ⟨a, xs, rfl, hs, rl⟩ := items_v I r h1
    refine ⟨b, ?_, q F H (Grow.refl I)⟩
    have e2 : (!xs.isEmpty) = b := by
      rw [← e]
      cases rl <;> rfl
    rcases hs with hs | hs
    · exact .inl ⟨_, hs, e2.symm⟩
    · exact .inr (.inl ⟨_, hs, e2.symm⟩)
  unfold truD at h
  split at h
  · cases h
    cases r
    exact ⟨false, rfl, q F H (Grow.refl I)⟩
  · cases h
    cases r
    exact ⟨b, rfl, q F H (Grow.refl I)⟩
  · cases h
    cases r
    exact ⟨_, rfl, q F H (Grow.refl I)⟩
  · split at h
    · rename_i hs
      cases h
      cases r
      exact ⟨_, ⟨small_le hs, rfl⟩, q F H (Grow.refl I)⟩
    · cases h
  · simp only [Option.map_eq_some_iff] at h
    obtain ⟨ds, h1, h2⟩ := h
    exact go h1 h2
theorem RT.or {r r' : V → Hp → (Bool → Hp → Prop) → Prop} {f g : WS → D → Option Bool} (h : RT K r f) (h' : RT K r' g) : RT K (fun x H Q => r x H Q ∨ r' x H Q) (fun S x => (f S x).orElse fun _ => g S x) := fun as F H S x b vx I rx e Q q => by
  replace e : ((f S x).orElse fun _ => g S x) = some b := e
  cases h1 : f S x with
  | some z =>
    rw [h1] at e
    have e' : z = b := by simpa using e
    subst e'
    exact .inl (h as F H S x z vx I rx h1 Q q)
  | none =>
    rw [h1] at e
    exact .inr (h' as F H S x b vx I rx (by simpa using e) Q q)
end
section
variable {X : Cx}
theorem truR_or {r r' : V → Hp → (Bool → Hp → Prop) → Prop} (h : TruR X r) (h' : TruR X r') : TruR X (fun x H Q => r x H Q ∨ r' x H Q) := fun pins s σ H x v Q I rx q => by
  rcases q with q | q
  · exact h pins s σ H x v Q I rx q
  · exact h' pins s σ H x v Q I rx q
/-- an instance of a class without __bool__ and __len__ -/
theorem tru_obj0 {C : Addr} (hb : PySem.W.findIn X.K (.ref C) "__bool__" = some none) (hl : PySem.W.findIn X.K (.ref C) "__len__" = some none) : TruR X (fun x H Q => ∃ a dx fs, x = .ref a ∧ H a = some (.ins C dx fs) ∧ Q true H) := fun pins s σ H x v Q I rx q => by
  obtain ⟨a, dx, fs, rfl, ha, q⟩ := q
  cases rx
  obtain ⟨mA, J, _⟩ := ins_get I.hok ha
  obtain ⟨od, J, _⟩ := J.look
  obtain ⟨m, hF⟩ := I.fr
  exact PySem.W.truthy_K0 hF I.ok.mod.kin J hb hl ⟨H, I, q⟩
def truObj (C : Addr) : WS → D → Option Bool := fun _ x => match x with
  | .obj C' _ => if C' = C then some true else none
  | _ => none
theorem rt_obj0 {K : PySem.W.Frag} {C : Addr} : RT K (fun x H Q => ∃ a dx fs, x = .ref a ∧ H a = some (.ins C dx fs) ∧ Q true H) (truObj C) := fun as F H S x b vx I rx e Q q => by
  unfold truObj at e
  split at e
  · split at e
    · rename_i hc
      cases e
      subst hc
      cases rx with
      | obj h1 _ => exact ⟨_, _, _, rfl, I.ex _ _ h1, q F H (Grow.refl I)⟩
    · cases e
  · cases e

/-! ### repr of a list or tuple of plain data -/
def rRepr (K : PySem.W.Frag) : List V → Hp → VK → Prop := fun xs H Q => ∃ a d, xs = [.ref a] ∧ Dp K H (.ref a) d ∧ d.showable = true ∧ d.hasDict = false ∧ d.depth ≤ 64 ∧ d.shown.length ≤ sizeLine ∧ Q (.str d.shown) H
theorem call_repr {k : Nat} (hg : X.A.guards = some []) (hr : Room k X.A) : CallR X (.builtin "repr") (rRepr X.K) := fun pins s σ H xs us Q I rv h => by
  obtain ⟨a, d, rfl, hd, hs, hnd, hde, hz, q⟩ := h
  obtain ⟨u, rfl, ru⟩ := vals1 rv
  cases ru
  obtain ⟨as, rd⟩ := hd.reads I d _ _ rfl
  refine PySem.repr_of_reads' rd hs (fun z => by rw [hnd] at z; cases z) hg (by have := hr.un; omega) (fun b o e => e) (fun h' u tk hk => ?_) hz
  exact ⟨.str d.shown, H, I.kept hk, ⟨u, rfl⟩, q⟩
def isSeqD : D → Bool
  | .lst _ => true
  | .tup _ => true
  | _ => false
def reprD : WS → List D → Option D := fun _ xs => match xs with
  | [x] => (D.py x).bind fun p => if isSeqD x = true ∧ p.showable = true ∧ p.hasDict = false ∧ p.depth ≤ 64 ∧ p.shown.length ≤ sizeLine then some (.str p.shown) else none
  | _ => none
theorem rc_repr {K : PySem.W.Frag} : RC K (rRepr K) reprD := fun as F H S ds d vs I r h Q q => by
  unfold reprD at h
  split at h
  · simp only [Option.bind_eq_some_iff] at h
    obtain ⟨p, h1, h2⟩ := h
    split at h2
    · rename_i hh
      cases h2
      obtain ⟨v, ws, rfl, rv, rn⟩ := r.unsn
      obtain rfl := rn.unnil
      have dp := rv.dp I.ex h1
      cases rv with
      | lst h3 r3 => exact ⟨_, p, rfl, dp, hh.2.1, hh.2.2.1, hh.2.2.2.1, hh.2.2.2.2, keep I q (.str _)⟩
      | tup h3 r3 => exact ⟨_, p, rfl, dp, hh.2.1, hh.2.2.1, hh.2.2.2.1, hh.2.2.2.2, keep I q (.str _)⟩
      | _ => cases hh.1
    · cases h2
  · cases h

/-! ### an operation that runs a def of the text's own -/
def ROM (K : PySem.W.Frag) (r : R2) (f : D → D → M) : Prop := ∀ (as : List Addr) (F H : Hp) (S : WS) (x y d : D) (vx vy : V) (S' : WS), Sit K as F H S → Rp K as F x vx → Rp K as F y vy → f x y S = some (d, S') →
  ∀ Q : VK, (∀ F' H' v, Grow K as F H as F' H' S' → Rp K as F' d v → Q v H') → r vx vy H Q
def eOpM (f : D → D → M) (ea eb : Env → M) : Env → M := fun ρ S => (ea ρ S).bind fun p => (eb ρ p.2).bind fun q => f p.1 q.1 q.2
theorem me_opM {K : PySem.W.Frag} {r : R2} {f : D → D → M} {ta tb : TE} {ea eb : Env → M} (hr : ROM K r f) (ha : ME K ta ea) (hb : ME K tb eb) : ME K (tOp r ta tb) (eOpM f ea eb) := fun as F H S ρ σ I R d S' h Q q => by
  unfold eOpM at h
  cases h1 : ea ρ S with
  | none => rw [h1] at h; cases h
  | some p =>
    simp only [h1, Option.bind_some] at h
    cases h2 : eb ρ p.2 with
    | none => rw [h2] at h; cases h
    | some z =>
      simp only [h2, Option.bind_some] at h
      refine ha as F H S ρ σ I R p.1 p.2 h1 _ fun F1 H1 v1 g1 r1 => ?_
      refine hb as F1 H1 p.2 ρ σ g1.sit (R.grow g1) z.1 z.2 h2 _ fun F2 H2 v2 g2 r2 => ?_
      exact hr as F2 H2 z.2 p.1 z.1 d v1 v2 S' g2.sit (RpE_aux g2 r1) r2 h Q fun F3 H3 v3 g3 r3 => q F3 H3 v3 ((g1.trans g2).trans g3) r3
theorem ROM.of {K : PySem.W.Frag} {r : R2} {f : WS → D → D → Option D} (h : RO K r f) : ROM K r (fun x y S => (f S x y).map fun d => (d, S)) := fun as F H S x y d vx vy S' I rx ry e Q q => by
  replace e : ((f S x y).map fun d => (d, S)) = some (d, S') := e
  simp only [Option.map_eq_some_iff] at e
  obtain ⟨d', h1, h2⟩ := e
  cases h2
  exact h as F H S x y d vx vy I rx ry h1 Q q
theorem ROM.or {K : PySem.W.Frag} {r r' : R2} {f g : D → D → M} (h : ROM K r f) (h' : ROM K r' g) : ROM K (fun x y H Q => r x y H Q ∨ r' x y H Q) (fun x y S => (f x y S).orElse fun _ => g x y S) := fun as F H S x y d vx vy S' I rx ry e Q q => by
  replace e : ((f x y S).orElse fun _ => g x y S) = some (d, S') := e
  cases h1 : f x y S with
  | some z =>
    rw [h1] at e
    have e' : z = (d, S') := by simpa using e
    subst e'
    exact .inl (h as F H S x y d vx vy S' I rx ry h1 Q q)
  | none =>
    rw [h1] at e
    exact .inr (h' as F H S x y d vx vy S' I rx ry (by simpa using e) Q q)
variable {a b : Expr} {pos : Pos} {ea eb : Env → M}
theorem ge_cmpM {op : CmpOp} {r : R2} {f : D → D → M} (ho : OpR X (compareOp op) r) (hr : ROM X.K r f) (ha : GE X a ea) (hb : GE X b eb) (hm : behindInMarks op b = false) : GE X (.Compare a [op] [b] pos) (eOpM f ea eb) := by
  obtain ⟨ta, pa, ma⟩ := ha
  obtain ⟨tb, pb, mb⟩ := hb
  exact ⟨_, pe_cmpR ho pa pb hm, me_opM hr ma mb⟩
theorem gt_cmpM {op : CmpOp} {r : R2} {f : D → D → M} (ho : OpR X (compareOp op) r) (hr : ROM X.K r f) (ha : GE X a ea) (hb : GE X b eb) (hm : behindInMarks op b = false) : GT X (.Compare a [op] [b] pos) (bBl (eOpM f ea eb)) := by
  obtain ⟨ta, pa, ma⟩ := ha
  obtain ⟨tb, pb, mb⟩ := hb
  exact ⟨_, pt_cmpR ho pa pb hm, mt_test (me_opM hr ma mb)⟩
/-! ### own == -/
def rEqOwn (K : PySem.W.Frag) (C : Addr) (sp : Sp) (neg : Bool) : R2 := fun x y H Q => ∃ a dx fs t, x = .ref a ∧ H a = some (.ins C dx fs) ∧ TyX K H y t ∧ PySem.W.notFirst K C t = true ∧ sp [x, y] H (fun v H' => ∃ c, v = .bl c ∧ Q (.bl (if neg then !c else c)) H') E0
theorem run_eqOwn {f : Addr} {fd : FuncData} {ps : List Str} {sp : Sp} {k : Nat} {A : Around} {pins : List (Addr × Obj)} {s : Shared} {σ : L2.St} {H : Hp} {y : V} {u : Value} {p : Addr} {R : VK} (Fn : FnOk X.prog X.w X.K X.mg X.base CX0 k f fd ps sp) (hr : Room k A) (hfr : A.frames = X.A.frames) (hb : Binds X.K fd ps []) (I : Inv X pins σ H s) (ry : RelV y u)
    (h : sp [.ref p, y] H R E0) : wpAny (model X.prog X.w) A (call (.ref f) [.ref p, u]) (EP X pins σ R) X.xe s := by
  have e0 : Env0 X.prog X.w X.K X.mg X.base A X.stack s H := by
    have e := I.env0
    exact ⟨by rw [hfr]; exact e.frames, e.mod, e.bs, e.bsz, e.funs, e.frf, e.hok, e.bare⟩
  have r2 : Vals [V.ref p, y] [Value.ref p, u] := .cons rfl (.cons ry .nil)
  have hl : [Value.ref p, u].length = ps.length := r2.length.symm.trans (Fn.len _ _ _ _ h)
  refine wpAny_call (codeAny_mono (Fn.run A X.stack s H ⟨[.ref p, u], []⟩ [.ref p, u] [.ref p, y] R E0 hr e0 (by
    have := hb s [.ref p, u] I.kIn (by simpa using hl)
    simpa using this) r2 h) fun r s' hq => ?_)
  cases r with
  | error e => exact hq.elim
  | ok fl =>
    cases fl with
    | ret w => exact I.after hq
    | next => exact hq.elim
    | brk => exact hq.elim
    | cont => exact hq.elim
theorem op_eqOwn {C f : Addr} {fd : FuncData} {ps : List Str} {sp : Sp} {k j : Nat} (Fn : FnOk X.prog X.w X.K X.mg X.base CX0 k f fd ps sp) (hr : Room j X.A) (hj : k ≤ j) (hs : PySem.W.findIn X.K (.ref C) "__eq__" = some (some (.ref f))) (hf : PySem.W.isFn X.K (.ref f) = true) (hb : Binds X.K fd ps []) :
    OpR X (compareOp .Eq) (rEqOwn X.K C sp false) := fun pins s σ H x y v u Q I rx ry q => by
  obtain ⟨p, dx, fs, t, rfl, ha, ty, hn, q⟩ := q
  cases rx
  obtain ⟨mA, J, _⟩ := ins_get I.hok ha
  obtain ⟨od, J, _⟩ := J.look
  obtain ⟨m, hF⟩ := I.fr
  obtain ⟨Pk, kx, hP, _⟩ := kit_of I ry ty
  show wpAny (model X.prog X.w) X.A (richCompare .Eq (.ref p) u) (EP X pins σ Q) X.xe s
  refine PySem.W.cmp_K (op := .Eq) hr.units0 hF I.ok.mod.kin J (kx.ty _ _ I.kIn hP) hn hs hf ?_
  refine thn (run_eqOwn Fn (hr.mono hj) rfl hb I ry q) fun w s' hw => ?_
  obtain ⟨z, H', I', rz, c, rfl, qc⟩ := hw
  cases rz
  exact ⟨.bl c, H', I', rfl, qc⟩
theorem ne_inst {prog : Program} {w : World} {A : Around} {E : Value → Shared → Prop} {s : Shared} {K : PySem.W.Frag} {x C L f : Addr} {h0 : Heap} {m : Str → Option Value} {ox : Obj} {od : Option Obj} {b tb : Value} {Q : Value → Shared → Prop} (hu : A.units + 1 < cLine)
    (F : PyProof.Rows.Fr h0 L s.heap m) (X0 : K.In h0) (I : PySem.W.InstAt s.heap x ox C od) (hb : PySem.W.Looks (model prog w) s.heap (typeOf b) tb) (hn : PySem.W.notFirst K C tb = true) (hne : PySem.W.findIn K (.ref C) "__ne__" = some (some (.builtin "object.__ne__")))
    (hs : PySem.W.findIn K (.ref C) "__eq__" = some (some (.ref f))) (hf : PySem.W.isFn K (.ref f) = true) (hm : PySem.W.mroIn K C (.type "object") = some true)
    (h : wpAny (model prog w) A.in1 (call (.ref f) [.ref x, b]) (fun v s' => ∃ r, v = .bool r ∧ Q (.bool (!r)) s') E s) : wpAny (model prog w) A (richCompare .NotEq (.ref x) b) Q E s := by
  have KX := X0.keeps F.keep
  -- object.__ne__ asks __eq__ and turns the answer round
  have body : wpAny (model prog w) A.in1 (Builtin.«object.__ne__» ⟨[.ref x, b], []⟩) (fun fin s' => ∃ r, fin = .done (.ret (.bool r)) ∧ Q (.bool r) s') E s := by
    unfold Builtin.«object.__ne__»
    refine wpAny_bind (m := slotArgs "__ne__" 1 _) (wpAny_pure ?_)
    refine wpAny_bind (wpAny_cRoomFor (by show A.units + 1 < cLine; exact hu) ?_)
    refine wpAny_bind (PySem.W.ifBound_K KX I hs hf (wpAny_mono h (fun v s' hv => ?_) fun _ _ e => e))
    obtain ⟨r, rfl, hq⟩ := hv
    refine wpAny_bind (m := truthy (.bool r)) (wpAny_pure ?_)
    exact wpAny_pure ⟨_, rfl, hq⟩
  have chk : ∀ {A' : Around} {E' : Value → Shared → Prop} {Q' : Unit → Shared → Prop}, Q' () s → wpAny (model prog w) A' (checkBuiltinCall "object.__ne__" ⟨[.ref x, b], []⟩) Q' E' s := fun {A' E' Q'} hq => by
    simp only [checkBuiltinCall, PySem.F.cmpKind_ne, PySem.F.cmpSplit_ne]
    refine wpAny_bind (wpAny_bind (I.type.here ((PySem.W.looks_mroIn KX hm).here ?_)))
    simp only [Bool.not_true, Bool.false_eq_true, if_false]
    have ha := PySem.F.cmpArgs_ne (.ref x) b
    cases hsig : Manifest.signature? "object.__ne__" with
    | none => exact wpAny_pure hq
    | some sig =>
      simp only [argsOk, hsig] at ha
      have h2 : Bind.checkArgs "object.__ne__" sig ⟨[.ref x, b], []⟩ = pure () := ha
      show wpAny (model prog w) A' (Bind.checkArgs "object.__ne__" sig ⟨[.ref x, b], []⟩) Q' E' s
      rw [h2]
      exact wpAny_pure hq
  have one : wpAny (model prog w) A (tryCompare (.ref x) "__ne__" b) (fun r s' => ∃ v, r = some v ∧ Q v s') E s := by
    unfold tryCompare
    refine wpAny_bind ?_
    simp only [callSpecialIfBound?, bindSpecialIfBound?]
    refine wpAny_holding (wpAny_bind (wpAny_bind (wpAny_bind (I.type.here ((PySem.W.looks_findIn KX hne).here ?_)))))
    refine wpAny_bind (wpAny_askSetting (wpAny_ite ?_))
    have fin : wpAny (model prog w) A (call (.builtin "object.__ne__") ([.ref x] ++ [b]) >>= fun v => pure (some v)) (fun r s' => wpAny (model prog w) A (match r with | some .notImplemented | none => pure none | some v => pure (some v)) (fun r s' => ∃ v, r = some v ∧ Q v s') E s') E s := by
      refine wpAny_bind (wpAny_call (codeAny_call_builtin PySem.F.cmp_object.ne.plain PySem.F.cmpEntry_ne (chk ?_)))
      refine wpAny_mono body (fun fin s' hf => ?_) fun _ _ e => e
      obtain ⟨r, rfl, hq⟩ := hf
      exact wpAny_pure (wpAny_pure ⟨_, rfl, hq⟩)
    simp only [PySem.F.cmp_object.ne.bind]
    split
    · exact wpAny_bind (wpAny_pure (wpAny_pure fin))
    · exact wpAny_tryCatch (wpAny_bind (wpAny_pure (wpAny_pure fin)))
  unfold richCompare
  simp only [PySem.oneThing_ref]
  refine wpAny_holding (wpAny_bind (wpAny_cRoomFor (by omega) ?_))
  refine wpAny_bind (I.type.here (wpAny_bind (hb.here ?_)))
  have done : wpAny (model prog w) A (tryCompare (.ref x) "__ne__" b) (fun r s' => ∃ v, r = some v ∧ Q v s') E s := one
  split
  · rename_i q
    have e : PySem.W.subIn K tb (.ref C) = some false := by
      rcases Bool.or_eq_true_iff.mp hn with e | e
      · rw [beq_iff_eq.mp e] at q
        simp at q
      · exact beq_iff_eq.mp e
    refine wpAny_bind ((PySem.W.looks_subIn KX e).here ?_)
    simp only [Bool.false_eq_true, if_false]
    refine wpAny_bind (wpAny_mono done (fun r s' z => ?_) fun _ _ e => e)
    obtain ⟨v, rfl, hq⟩ := z
    exact wpAny_pure hq
  · refine wpAny_bind (wpAny_pure ?_)
    simp only [Bool.false_eq_true, if_false]
    refine wpAny_bind (wpAny_mono done (fun r s' z => ?_) fun _ _ e => e)
    obtain ⟨v, rfl, hq⟩ := z
    exact wpAny_pure hq
theorem op_neOwn {C f : Addr} {fd : FuncData} {ps : List Str} {sp : Sp} {k j : Nat} (Fn : FnOk X.prog X.w X.K X.mg X.base CX0 k f fd ps sp) (hr : Room j X.A) (hj : k + 1 ≤ j) (hs : PySem.W.findIn X.K (.ref C) "__eq__" = some (some (.ref f))) (hf : PySem.W.isFn X.K (.ref f) = true) (hb : Binds X.K fd ps [])
    (hne : PySem.W.findIn X.K (.ref C) "__ne__" = some (some (.builtin "object.__ne__"))) (hm : PySem.W.mroIn X.K C (.type "object") = some true) :
    OpR X (compareOp .NotEq) (rEqOwn X.K C sp true) := fun pins s σ H x y v u Q I rx ry q => by
  obtain ⟨p, dx, fs, t, rfl, ha, ty, hn, q⟩ := q
  cases rx
  obtain ⟨mA, J, _⟩ := ins_get I.hok ha
  obtain ⟨od, J, _⟩ := J.look
  obtain ⟨m, hF⟩ := I.fr
  obtain ⟨Pk, kx, hP, _⟩ := kit_of I ry ty
  show wpAny (model X.prog X.w) X.A (richCompare .NotEq (.ref p) u) (EP X pins σ Q) X.xe s
  refine ne_inst (by have := hr.un; omega) hF I.ok.mod.kin J (kx.ty _ _ I.kIn hP) hn hne hs hf hm ?_
  refine thn (run_eqOwn Fn (hr.mono hj).in1 rfl hb I ry q) fun w s' hw => ?_
  obtain ⟨z, H', I', rz, c, rfl, qc⟩ := hw
  cases rz
  exact ⟨c, rfl, .bl (!c), H', I', rfl, qc⟩
/-- x == y, x != y by the == of x's own class -/
def eqOwnD (C : Addr) (own nf : Addr → Bool) (G : List D → M) (neg : Bool) (nfK : Value → Bool) : D → D → M := fun x y S => match x with
  | .obj C' fs => if C' = C then (match kindD own y with
    | some t => if nfK t = true then (match G [.obj C' fs, y] S with
      | some (.bl c, S') => some (.bl (if neg then !c else c), S')
      | _ => none) else none
    | none => none) else none
  | _ => none
theorem rom_eqOwn {K : PySem.W.Frag} {C : Addr} {own nf : Addr → Bool} {G : List D → M} {neg : Bool} {nfK : Value → Bool} (ho : ∀ C, own C = true → KindC K C) (hn : ∀ t, nfK t = true → PySem.W.notFirst K C t = true) : ROM K (rEqOwn K C (spG K 2 G) neg) (eqOwnD C own nf G neg nfK) := fun as F H S x y d vx vy S' I rx ry e Q q => by
  unfold eqOwnD at e
  split at e
  · rename_i C' fs
    split at e
    · rename_i hc
      subst hc
      split at e
      · rename_i t ht
        split at e
        · rename_i hnf
          split at e
          · rename_i c S1 hG
            cases e
            cases rx with
            | obj h1 r1 =>
              refine ⟨_, _, _, t, rfl, I.ex _ _ h1, tyx_of ho I.ex ry ht, hn t hnf, as, F, S, [.obj C' fs, y], .bl c, S', I, .cons (.obj h1 r1) (.cons ry .nil), rfl, hG, fun F' H' v g r => ?_⟩
              cases r
              exact ⟨c, rfl, q F' H' _ g (.bl _)⟩
          · cases e
        · cases e
      · cases e
    · cases e
  · cases e
end
end RV
end
section
/-! Further statements and built-ins; the law's own end. -/
namespace RV
open PySem L2
section
variable {X : Cx} {a b c e o tg iter elt : Expr} {pos : Pos} {ea eb ec ee eo ei : Env → M} {er : Env → ML} {mc : Env → MB}
/-! ### several names at once -/
def sAsgG (f : D → Env → Option Env) (ea : Env → M) : Env → MS := fun ρ S => (ea ρ S).bind fun p => (f p.1 ρ).map fun ρ' => (.nx ρ', p.2)
theorem gs_asg {vs : List Nat} {f : D → Env → Option Env} (he : GE X e ea) (hg : GG X tg vs f) (hs : swapsWithSole [tg] e pos.line X.env = pure false := by rfl) (hw : swappedStores [tg] e X.env = pure none := by rfl) (h1 : (assignEach [tg] X.env).map (·.2) = [assign tg X.env] := by rfl) : GS X (.Assign [tg] e pos) (sAsgG f ea) := by
  obtain ⟨t, p, m⟩ := he
  obtain ⟨g, pg, mg⟩ := hg
  refine ⟨_, ps_asg p pg hs hw h1, fun as F H S ρ σ I R ou S' h E q => ?_⟩
  unfold sAsgG at h
  cases h1 : ea ρ S with
  | none => rw [h1] at h; cases h
  | some z =>
    simp only [h1, Option.bind_some] at h
    cases h2 : f z.1 ρ with
    | none => rw [h2] at h; cases h
    | some ρ' =>
      rw [h2] at h
      cases h
      refine m as F H S ρ σ I R z.1 z.2 h1 _ fun F1 H1 v g r => ?_
      exact mg as F1 H1 z.2 ρ σ z.1 v ρ' g.sit (R.grow g) r h2 _ fun σ' _ R' => q as F1 H1 g σ' R'
def sPar2 (i j : Nat) (er : Env → ML) : Env → MS := fun ρ S => (er ρ S).bind fun p => match p.1 with
  | [x, y] => some (.nx ((ρ.set i (some x)).set j (some y)), p.2)
  | _ => none
theorem gs_par2 (i j : Nat) {x y : Str} {px py pt pt2 : Pos} {kt k2 : Nat} (hc : X.calm = true) (hN : X.N.Nodup) (ha : GA X [a, b] er) (hi : X.N[i]? = some x := by rfl) (hj : X.N[j]? = some y := by rfl) (hij : i ≠ j := by decide)
    (hx : X.env.scope.names.lookup x = some .local := by rfl) (hy : X.env.scope.names.lookup y = some .local := by rfl)
    (hw : swappedStores [.Tuple [.Name x px, .Name y py] kt pt] (.Tuple [a, b] k2 pt2) X.env = pure (some [x, y]) := by rfl)
    (hs : swapsWithSole [.Tuple [.Name x px, .Name y py] kt pt] (.Tuple [a, b] k2 pt2) pos.line X.env = pure false := by rfl) :
    GS X (.Assign [.Tuple [.Name x px, .Name y py] kt pt] (.Tuple [a, b] k2 pt2) pos) (sPar2 i j er) := by
  obtain ⟨t, p, m⟩ := ha
  refine ⟨_, ps_par hc hN hi hj hij hx hy p hw hs, fun as F H S ρ σ I R ou S' h E q => ?_⟩
  unfold sPar2 at h
  cases h1 : er ρ S with
  | none => rw [h1] at h; cases h
  | some z =>
    simp only [h1, Option.bind_some] at h
    split at h
    · rename_i d1 d2 hz
      cases h
      refine m as F H S ρ σ I R z.1 z.2 h1 _ fun F1 H1 vs g r => ?_
      rw [hz] at r
      obtain ⟨v, ws, rfl, r1, rn⟩ := r.unsn
      obtain ⟨w, zs, rfl, r2, rn⟩ := rn.unsn
      obtain rfl := rn.unnil
      exact ⟨v, w, rfl, q as F1 H1 g _ (((R.grow g).set r1).set r2)⟩
    · cases h
def sPar3 (i j l : Nat) (er : Env → ML) : Env → MS := fun ρ S => (er ρ S).bind fun p => match p.1 with
  | [x, y, z] => some (.nx (((ρ.set i (some x)).set j (some y)).set l (some z)), p.2)
  | _ => none
theorem gs_par3 (i j l : Nat) {x y z : Str} {px py pz pt pt2 : Pos} {kt k2 : Nat} (hc : X.calm = true) (hN : X.N.Nodup) (ha : GA X [a, b, c] er) (hi : X.N[i]? = some x := by rfl) (hj : X.N[j]? = some y := by rfl) (hl : X.N[l]? = some z := by rfl) (hij : i ≠ j := by decide) (hil : i ≠ l := by decide) (hjl : j ≠ l := by decide)
    (hx : X.env.scope.names.lookup x = some .local := by rfl) (hy : X.env.scope.names.lookup y = some .local := by rfl) (hz : X.env.scope.names.lookup z = some .local := by rfl)
    (hw : swappedStores [.Tuple [.Name x px, .Name y py, .Name z pz] kt pt] (.Tuple [a, b, c] k2 pt2) X.env = pure (some [x, y, z]) := by rfl)
    (hs : swapsWithSole [.Tuple [.Name x px, .Name y py, .Name z pz] kt pt] (.Tuple [a, b, c] k2 pt2) pos.line X.env = pure false := by rfl) :
    GS X (.Assign [.Tuple [.Name x px, .Name y py, .Name z pz] kt pt] (.Tuple [a, b, c] k2 pt2) pos) (sPar3 i j l er) := by
  obtain ⟨t, p, m⟩ := ha
  refine ⟨_, ps_par3 hc hN hi hj hl hij hil hjl hx hy hz p hw hs, fun as F H S ρ σ I R ou S' h E q => ?_⟩
  unfold sPar3 at h
  cases h1 : er ρ S with
  | none => rw [h1] at h; cases h
  | some z =>
    simp only [h1, Option.bind_some] at h
    split at h
    · rename_i d1 d2 d3 hz
      cases h
      refine m as F H S ρ σ I R z.1 z.2 h1 _ fun F1 H1 vs g r => ?_
      rw [hz] at r
      obtain ⟨v, ws, rfl, r1, rn⟩ := r.unsn
      obtain ⟨w, zs, rfl, r2, rn⟩ := rn.unsn
      obtain ⟨w3, zs, rfl, r3, rn⟩ := rn.unsn
      obtain rfl := rn.unnil
      exact ⟨v, w, w3, rfl, q as F1 H1 g _ ((((R.grow g).set r1).set r2).set r3)⟩
    · cases h
/-- y = [e for ..] -/
theorem gs_setLc (i : Nat) {y : Str} {py spos : Pos} {scope : Scope} {own : List (Str × Nat)} {ifs : List Expr} {mi : Env → ML} {us : List Nat} {f : D → Env → Option Env} (hc : X.calm = true) (hN : X.N.Nodup) (hi : GI X tg iter mi) (ok : BlkOk X.N X.env.scope scope own)
    (hg : ∀ (s : Shared) (H : Hp) (C : Addr) (cl : List (Str × Addr)) (fp : List Addr), GG (X.blk s H scope (compEnvC scope cl C X.env) fp) tg us f)
    (ht : ∀ (s : Shared) (H : Hp) (C : Addr) (cl : List (Str × Addr)) (fp : List Addr), GTs (X.blk s H scope (compEnvC scope cl C X.env) fp) ifs mc)
    (he : ∀ (s : Shared) (H : Hp) (C : Addr) (cl : List (Str × Addr)) (fp : List Addr), GE (X.blk s H scope (compEnvC scope cl C X.env) fp) elt ee)
    (hsw : swapsWith (.ListComp elt [⟨tg, iter, ifs, 0⟩] scope pos) (some (.Name y py)) spos.line X.env = pure true)
    (hy : X.N[i]? = some y := by rfl) (hyl : X.env.scope.names.lookup y = some .local := by rfl)
    (hu : ∀ x ∈ us, x ∈ own.map (·.2) := by decide) (hs : ∀ (x : Value), foldedSetIterable iter X.env x = pure x := by intro _; rfl) :
    GS X (.Assign [.Name y py] (.ListComp elt [⟨tg, iter, ifs, 0⟩] scope pos) spos) (sAsg i (eLc mi f mc ee (own.map (·.2)))) := by
  obtain ⟨wi, pi, mi'⟩ := hi
  exact ⟨_, ps_setLc (own := own) hc hN hy hyl hsw pi ok (fun s H C cl fp => (hg s H C cl fp).canon) (fun s H C cl fp => (ht s H C cl fp).ex) (fun s H C cl fp => (he s H C cl fp).canon) hs, ms_asg (me_lc mi' hu)⟩
/-! ### o[i] = e, o a list that is a cell -/
def setIxD (o i d : D) (S : WS) : Option WS := match o, i with
  | .cell k, .int n => match S[k]? with
    | some (.lst ds) => if D.clean 0 d = true then (ixN ds.length n).map fun j => S.set k (.lst (ds.set j d)) else none
    | _ => none
  | _, _ => none
theorem setIx_ok {K : PySem.W.Frag} {as : List Addr} {F H : Hp} {S S' : WS} {o i d : D} {vo vi v : V} {Q : Hp → Prop} (I : Sit K as F H S) (ro : Rp K as F o vo) (ri : Rp K as F i vi) (rv : Rp K as F d v) (h : setIxD o i d S = some S') (q : ∀ H', Grow K as F H as F H' S' → Q H') : rSetL vo vi v H Q := by
  unfold setIxD at h
  split at h
  · rename_i k n
    split at h
    · rename_i ds hS
      split at h
      · rename_i hcl
        simp only [Option.map_eq_some_iff] at h
        obtain ⟨j, hj, rfl⟩ := h
        cases ri
        cases ro with
        | cell h0 =>
          obtain ⟨z1, ob, z2, z3⟩ := I.cell k _ _ h0 hS
          cases ob with
          | lst xs =>
            have z3' : RpL K [] F ds xs := z3
            have r1' : Rp K [] F d v := rv.back (n := 0) (fun k a hk => absurd hk (by omega)) hcl
            have g3 := I.put (c' := .lst (ds.set j d)) (o := .lst (xs.set j v)) h0 hS rfl rfl (RpL.set r1' j z3')
            exact ⟨_, xs, n, j, rfl, rfl, z2, by rw [← z3'.length]; exact hj, q _ g3⟩
          | _ => exact z3.elim
      · cases h
    · cases h
  · cases h
def sSetIx (eo ei ee : Env → M) : Env → MS := fun ρ S => (ee ρ S).bind fun p => (eo ρ p.2).bind fun x => (ei ρ x.2).bind fun y => (setIxD x.1 y.1 p.1 y.2).map fun S' => (.nx ρ, S')
theorem gs_setIx {i : Expr} {tpos : Pos} (he : GE X e ee) (ho : GE X o eo) (hi : GE X i ei) (hs : swapsWithSole [.Subscript o i tpos] e pos.line X.env = pure false := by rfl) (hw : swappedStores [.Subscript o i tpos] e X.env = pure none := by rfl) (h1 : (assignEach [.Subscript o i tpos] X.env).map (·.2) = [assign (.Subscript o i tpos) X.env] := by rfl)
    (ha : ∀ (v : Value), assign (.Subscript o i tpos) X.env v = (do
      let ov ← holding [v] (eval o X.env)
      let iv ← holding [v, ov] (eval i X.env)
      standAt tpos
      holding [v, ov, iv] (setItem ov iv v)
      release [v, ov, iv] []) := by intro _; rfl) : GS X (.Assign [.Subscript o i tpos] e pos) (sSetIx eo ei ee) := by
  obtain ⟨t, p, m⟩ := he
  obtain ⟨to, po, mo⟩ := ho
  obtain ⟨ti, pi, mi⟩ := hi
  refine ⟨_, ps_asg p (pg_sub po pi set_list ha) hs hw h1, fun as F H S ρ σ I R ou S' h E q => ?_⟩
  unfold sSetIx at h
  cases h1 : ee ρ S with
  | none => rw [h1] at h; cases h
  | some z =>
    simp only [h1, Option.bind_some] at h
    cases h2 : eo ρ z.2 with
    | none => rw [h2] at h; cases h
    | some y =>
      simp only [h2, Option.bind_some] at h
      cases h3 : ei ρ y.2 with
      | none => rw [h3] at h; cases h
      | some w =>
        simp only [h3, Option.bind_some] at h
        simp only [Option.map_eq_some_iff] at h
        obtain ⟨S2, h4, h5⟩ := h
        cases h5
        refine m as F H S ρ σ I R z.1 z.2 h1 _ fun F1 H1 v1 g1 r1 => ?_
        refine mo as F1 H1 z.2 ρ σ g1.sit (R.grow g1) y.1 y.2 h2 _ fun F2 H2 v2 g2 r2 => ?_
        refine mi as F2 H2 y.2 ρ σ g2.sit ((R.grow g1).grow g2) w.1 w.2 h3 _ fun F3 H3 v3 g3 r3 => ?_
        refine setIx_ok g3.sit (RpE_aux g3 r2) r3 (RpE_aux g3 (RpE_aux g2 r1)) h4 fun H' g4 => ?_
        have g := ((g1.trans g2).trans g3).trans g4
        exact q as F3 H' g σ (R.grow g)
/-- o[i], x = e, e a pair -/
def sPairSet (j : Nat) (eo ei ee : Env → M) : Env → MS := fun ρ S => (ee ρ S).bind fun p => match p.1 with
  | .tup [d1, d2] => (eo ρ p.2).bind fun x => (ei ρ x.2).bind fun y => (setIxD x.1 y.1 d1 y.2).map fun S' => (.nx (ρ.set j (some d2)), S')
  | _ => none
theorem gs_pairSet (j : Nat) {i : Expr} {x : Str} {tpos px pt : Pos} {kt : Nat} (hc : X.calm = true) (hN : X.N.Nodup) (he : GE X e ee) (ho : GE X o eo) (hi : GE X i ei) (hj : X.N[j]? = some x := by rfl) (hx : Loc X.env.scope x := by first | exact Or.inl rfl | exact Or.inr rfl) (hf : X.fn x = true ∨ X.env.scope.names.lookup x = some .local := by first | exact .inl rfl | exact .inr rfl | assumption)
    (hs : swapsWithSole [.Tuple [.Subscript o i tpos, .Name x px] kt pt] e pos.line X.env = pure false := by rfl) (hw : swappedStores [.Tuple [.Subscript o i tpos, .Name x px] kt pt] e X.env = pure none := by rfl)
    (h1 : (assignEach [.Tuple [.Subscript o i tpos, .Name x px] kt pt] X.env).map (·.2) = [assign (.Tuple [.Subscript o i tpos, .Name x px] kt pt) X.env] := by rfl)
    (ha : ∀ (v : Value), assign (.Subscript o i tpos) X.env v = (do
      let ov ← holding [v] (eval o X.env)
      let iv ← holding [v, ov] (eval i X.env)
      standAt tpos
      holding [v, ov, iv] (setItem ov iv v)
      release [v, ov, iv] []) := by intro _; rfl)
    (e1 : (assignEach [.Subscript o i tpos, .Name x px] X.env).map (·.2) = assign (.Subscript o i tpos) X.env :: (assignEach [.Name x px] X.env).map (·.2) := by rfl)
    (e2 : (assignEach [.Name x px] X.env).map (·.2) = assign (.Name x px) X.env :: (assignEach [] X.env).map (·.2) := by rfl)
    (e3 : (assignEach [.Subscript o i tpos, .Name x px] X.env).length = 2 := by rfl) (e4 : (assignEach [.Subscript o i tpos, .Name x px] X.env).findIdx? (·.1) = none := by rfl) :
    GS X (.Assign [.Tuple [.Subscript o i tpos, .Name x px] kt pt] e pos) (sPairSet j eo ei ee) := by
  obtain ⟨t, p, m⟩ := he
  obtain ⟨to, po, mo⟩ := ho
  obtain ⟨ti, pi, mi⟩ := hi
  refine ⟨_, ps_asg p (pg_tup hc (pgs_cons (pg_sub po pi set_list ha) (pgs_cons (pg_name (i := j) hN hj hx hf) pgs_nil e2) e1) e3 e4) hs hw h1, fun as F H S ρ σ I R ou S' h E q => ?_⟩
  unfold sPairSet at h
  cases h1 : ee ρ S with
  | none => rw [h1] at h; cases h
  | some z =>
    obtain ⟨zd, zS⟩ := z
    simp only [h1, Option.bind_some] at h
    split at h
    · rename_i d1 d2
      cases h2 : eo ρ zS with
      | none => rw [h2] at h; cases h
      | some y =>
        simp only [h2, Option.bind_some] at h
        cases h3 : ei ρ y.2 with
        | none => rw [h3] at h; cases h
        | some w =>
          simp only [h3, Option.bind_some] at h
          simp only [Option.map_eq_some_iff] at h
          obtain ⟨S2, h4, h5⟩ := h
          cases h5
          refine m as F H S ρ σ I R _ _ h1 _ fun F1 H1 v1 g1 r1 => ?_
          cases r1 with
          | tup hq rl =>
            obtain ⟨u1, ws, rfl, ru1, rn⟩ := rl.unsn
            obtain ⟨u2, zs, rfl, ru2, rn⟩ := rn.unsn
            obtain rfl := rn.unnil
            refine ⟨_, _, rfl, g1.sit.ex.sqT hq, rfl, u1, [u2], rfl, ?_⟩
            refine mo as F1 H1 zS ρ σ g1.sit (R.grow g1) y.1 y.2 h2 _ fun F2 H2 v2 g2 r2 => ?_
            refine mi as F2 H2 y.2 ρ σ g2.sit ((R.grow g1).grow g2) w.1 w.2 h3 _ fun F3 H3 v3 g3 r3 => ?_
            refine setIx_ok g3.sit (RpE_aux g3 r2) r3 (RpE_aux g3 (RpE_aux g2 ru1)) h4 fun H' g4 => ?_
            have g := ((g1.trans g2).trans g3).trans g4
            exact ⟨u2, [], rfl, rfl, q as F3 H' g _ ((R.grow g).set (RpE_aux g3 (RpE_aux g2 ru2)))⟩
    · cases h
/-! ### a chain of two comparisons -/
def bChain (f g : WS → D → D → Option D) (ea eb ec : Env → M) : Env → MB := fun ρ S => (ea ρ S).bind fun p => (eb ρ p.2).bind fun q => match f q.2 p.1 q.1 with
  | some (.bl true) => (ec ρ q.2).bind fun z => match g z.2 q.1 z.1 with
    | some (.bl c) => some (c, z.2)
    | _ => none
  | some (.bl false) => some (false, q.2)
  | _ => none
theorem gt_chain {op op' : CmpOp} {r r' : R2} {f g : WS → D → D → Option D} (ho : OpR X (compareOp op) r) (ho' : OpR X (compareOp op') r') (hr : RO X.K r f) (hr' : RO X.K r' g) (ha : GE X a ea) (hb : GE X b eb) (hc : GE X c ec) (hm : lastMarks [op, op'] [b, c] = false := by with_unfolding_all rfl) :
    GT X (.Compare a [op, op'] [b, c] pos) (bChain f g ea eb ec) := by
  obtain ⟨ta, pa, ma⟩ := ha
  obtain ⟨tb, pb, mb⟩ := hb
  obtain ⟨tc, pc, mc⟩ := hc
  refine ⟨_, pt_chain ho ho' pa pb pc hm, fun as F H S ρ σ I R k S' h Q q => ?_⟩
  unfold bChain at h
  cases h1 : ea ρ S with
  | none => rw [h1] at h; cases h
  | some z =>
    simp only [h1, Option.bind_some] at h
    cases h2 : eb ρ z.2 with
    | none => rw [h2] at h; cases h
    | some y =>
      simp only [h2, Option.bind_some] at h
      refine ma as F H S ρ σ I R z.1 z.2 h1 _ fun F1 H1 v1 g1 r1 => ?_
      refine mb as F1 H1 z.2 ρ σ g1.sit (R.grow g1) y.1 y.2 h2 _ fun F2 H2 v2 g2 r2 => ?_
      split at h
      · rename_i hf
        cases h3 : ec ρ y.2 with
        | none => rw [h3] at h; cases h
        | some w =>
          simp only [h3, Option.bind_some] at h
          split at h
          · rename_i c hg
            cases h
            refine hr as F2 H2 y.2 z.1 y.1 _ v1 v2 g2.sit (RpE_aux g2 r1) r2 hf _ fun F3 H3 v3 g3 r3 => ?_
            cases r3
            refine ⟨true, rfl, ?_⟩
            simp only [if_true]
            refine mc as F3 H3 y.2 ρ σ g3.sit (((R.grow g1).grow g2).grow g3) w.1 w.2 h3 _ fun F4 H4 v4 g4 r4 => ?_
            refine hr' as F4 H4 w.2 y.1 w.1 _ v2 v4 g4.sit (RpE_aux g4 (RpE_aux g3 r2)) r4 hg _ fun F5 H5 v5 g5 r5 => ?_
            cases r5
            exact ⟨k, rfl, q F5 H5 ((((g1.trans g2).trans g3).trans g4).trans g5)⟩
          · cases h
      · rename_i hf
        cases h
        refine hr as F2 H2 y.2 z.1 y.1 _ v1 v2 g2.sit (RpE_aux g2 r1) r2 hf _ fun F3 H3 v3 g3 r3 => ?_
        cases r3
        refine ⟨false, rfl, ?_⟩
        simp only [if_false, Bool.false_eq_true]
        exact ⟨false, rfl, q F3 H3 ((g1.trans g2).trans g3)⟩
      · cases h
end
section
variable {K : PySem.W.Frag}
/-! ### built-ins on numbers -/
def absD : WS → List D → Option D := fun _ xs => match xs with
  | [.int i] => some (.int (if i < 0 then -i else i))
  | _ => none
theorem rc_abs : RC K (fun xs H Q => ∃ i, xs = [.int i] ∧ Q (.int (if i < 0 then -i else i)) H) absD := fun as F H S ds d vs I r h Q q => by
  unfold absD at h
  split at h
  · cases h
    obtain ⟨v, ws, rfl, rv, rn⟩ := r.unsn
    obtain rfl := rn.unnil
    cases rv
    exact ⟨_, rfl, keep I q (.int _)⟩
  · cases h
def intOfD : WS → List D → Option D := fun _ xs => match xs with
  | [.int i] => some (.int i)
  | _ => none
theorem rc_int1 : RC K (fun xs H Q => (∃ i, xs = [.int i] ∧ Q (.int i) H) ∨ ∃ k, xs = [.bl k] ∧ Q (.int (if k then 1 else 0)) H) intOfD := fun as F H S ds d vs I r h Q q => by
  unfold intOfD at h
  split at h
  · cases h
    obtain ⟨v, ws, rfl, rv, rn⟩ := r.unsn
    obtain rfl := rn.unnil
    cases rv
    exact .inl ⟨_, rfl, keep I q (.int _)⟩
  · cases h
def max2D : WS → List D → Option D := fun _ xs => match xs with
  | [.int i, .int j] => some (.int (if j > i then j else i))
  | _ => none
def min2D : WS → List D → Option D := fun _ xs => match xs with
  | [.int i, .int j] => some (.int (if j < i then j else i))
  | _ => none
theorem rc_max2 : RC K (fun xs H Q => ∃ i j, xs = [.int i, .int j] ∧ Q (.int (if j > i then j else i)) H) max2D := fun as F H S ds d vs I r h Q q => by
  unfold max2D at h
  split at h
  · cases h
    obtain ⟨v, ws, rfl, rv, rn⟩ := r.unsn
    obtain ⟨v2, ws, rfl, rv2, rn⟩ := rn.unsn
    obtain rfl := rn.unnil
    cases rv
    cases rv2
    exact ⟨_, _, rfl, keep I q (.int _)⟩
  · cases h
theorem rc_min2 : RC K (fun xs H Q => ∃ i j, xs = [.int i, .int j] ∧ Q (.int (if j < i then j else i)) H) min2D := fun as F H S ds d vs I r h Q q => by
  unfold min2D at h
  split at h
  · cases h
    obtain ⟨v, ws, rfl, rv, rn⟩ := r.unsn
    obtain ⟨v2, ws, rfl, rv2, rn⟩ := rn.unsn
    obtain rfl := rn.unnil
    cases rv
    cases rv2
    exact ⟨_, _, rfl, keep I q (.int _)⟩
  · cases h
def dmOk (j : Int) : Bool := decide (0 < j ∧ j.natAbs < 2 ^ 1000)
theorem dmOk_c {i j : Int} (h : dmOk j = true) : CDivP i j := by
  unfold dmOk at h
  simp only [decide_eq_true_eq] at h
  refine ⟨h.1, PyProof.noPylong_of_log2 ?_⟩
  have h2 : j.natAbs ≠ 0 := by omega
  have h3 : j.natAbs.log2 < 1000 := (Nat.log2_lt h2).mpr h.2
  omega
def divmodD : WS → List D → Option D := fun _ xs => match xs with
  | [.int i, .int j] => if dmOk j = true then some (.tup [.int (i / j), .int (i % j)]) else none
  | _ => none
theorem rc_divmod : RC K (fun xs H Q => ∃ i j, xs = [.int i, .int j] ∧ CDivP i j ∧ ∀ p, H p = none → Q (.ref p) (upd H p (.tup [.int (i / j), .int (i % j)]))) divmodD := fun as F H S ds d vs I r h Q q => by
  unfold divmodD at h
  split at h
  · split at h
    · rename_i hh
      cases h
      obtain ⟨v, ws, rfl, rv, rn⟩ := r.unsn
      obtain ⟨v2, ws, rfl, rv2, rn⟩ := rn.unsn
      obtain rfl := rn.unnil
      cases rv
      cases rv2
      exact ⟨_, _, rfl, dmOk_c hh, fun p hp => q _ _ _ (I.grow hp) (.tup (SqT.of upd_same) (.cons (.int _) (.cons (.int _) .nil)))⟩
    · cases h
  · cases h
end
end RV
end
section
/-! The law's own end. -/
namespace RV
open PySem L2
/-- the law's def, called with the script -/
theorem script_run {P : Program} {w : World} {K : PySem.W.Frag} {mg mb : Str → Option Value} {k : Nat} {fa a : Addr} {fd : FuncData} {x : Str} {sp : Sp} {s1 : Shared} {vs : List Value} {ns : List Int}
    (KX : K.In s1.heap) (hns : s1.heap.Ns mainGlobals mg) (hb : s1.heap.Ns builtinsNs mb) (hbb : ∀ x : Str, x ≠ "__name__" → mb x = bootBuiltins x) (hlim : s1.heap.NoLimit) (hg : s1.gens = #[])
    (ha : s1.heap.get? a = some { cls := .type "list", data := .seq vs.toArray }) (hi : PyProof.Rows.IntsAre vs ns) (hl : ns.length ≤ sizeLine) (hr : Room k callerA)
    (F : ∀ base : Heap, K.In base → base.Ns mainGlobals mg → FnGd P w K mg base k fa fd [x] sp) (hbind : ∀ (s : Shared) (u : Value), BindsTo s fd ⟨[u], []⟩ [(x, u)])
    (hsp : ∀ H : Hp, SqL K H a (ns.map V.int) → sp [.ref a] H (fun v _ => v = .bl true) fun _ _ _ => False) :
    codeAny (model P w) callerA (.call (.ref fa) ⟨[.ref a], []⟩) (fun r s' => r = .ok (.ret (.bool true)) ∧ OldK s1.heap s'.heap ∧ s'.os = s1.os ∧ PyProof.Rows.AllBare s'.gens) s1 := by
  have rv := vals_ints hi
  -- H tracks the script alone (or nothing), the script locked
  have core : ∀ H : Hp, (∀ c, H c = none ∨ ∃ o xs, H c = some (.frz o (.lst xs))) → SqL K H a (ns.map V.int) → HOk P w H s1.heap → (∀ c, H c ≠ none → c = a) → (H a ≠ none → K.lookup a = none) →
      codeAny (model P w) callerA (.call (.ref fa) ⟨[.ref a], []⟩) (fun r s' => r = .ok (.ret (.bool true)) ∧ OldK s1.heap s'.heap ∧ s'.os = s1.os ∧ PyProof.Rows.AllBare s'.gens) s1 := by
    intro H only hS hok alone hK
    have dictOut : ∀ {c : Addr} {o : Obj} {es : Array DictEntry} {ep : Nat}, s1.heap.get? c = some o → o.data = .dict es ep → H c = none := by
      intro c o es ep e d
      cases q : H c with
      | none => rfl
      | some u =>
        have e' : c = a := alone c (by rw [q]; simp)
        subst e'
        rw [ha] at e
        cases e
        exact absurd d (by intro z; cases z)
    have ns' : ∀ {c : Addr} {m : Str → Option Value}, s1.heap.Ns c m → (hidT s1.heap H).Ns c m := fun {c m} ⟨o, es, ep, e, d, r⟩ => ⟨o, es, ep, hidT_get e (dictOut e d), d, r⟩
    have KB : K.In (hidT s1.heap H) := by
      intro c o e
      refine hidT_get (KX c o e) ?_
      cases q : H c with
      | none => rfl
      | some u =>
        have e' : c = a := alone c (by rw [q]; simp)
        subst e'
        rw [hK (by rw [q]; simp)] at e
        cases e
    have md : Mod K mg (hidT s1.heap H) := by
      obtain ⟨mc, l1, l2⟩ := hlim
      exact ⟨KB, ns' hns, ⟨mb, ns' hb, hbb⟩, ⟨mc, ns' l1, l2⟩⟩
    have e0 : Env0 P w K mg (hidT s1.heap H) callerA [] s1 H := by
      refine ⟨rfl, md, fun c o e => of_hidT e, Nat.le_of_eq (hidT_size _ _), trivial, fun c hc => ?_, hok, .of_eq hg⟩
      exact absurd hc (by simp [frs])
    refine codeAny_mono ((F _ KB (ns' hns)).run callerA [] s1 H ⟨[.ref a], []⟩ [.ref a] [.ref a] _ _ rfl hr e0 (hbind s1 (.ref a)) (.cons rfl .nil) (hsp H hS)) fun r s' h => ?_
    cases r with
    | error e => exact h.elim
    | ok fl =>
      cases fl with
      | next => exact h.elim
      | brk => exact h.elim
      | cont => exact h.elim
      | ret u =>
        obtain ⟨v, H', os, bare, un, hok', r', q⟩ := h
        have q' : v = .bl true := q
        subst q'
        obtain rfl : u = Value.bool true := r'
        refine ⟨rfl, OldK.of_keep fun c o e => ?_, os, bare⟩
        rcases only c with z | ⟨ob, xs, z⟩
        · exact un.keep c o e z (by simp [frs]) (by simp)
        · obtain ⟨e1, _⟩ := hok c _ z
          obtain ⟨e2, _⟩ := hok' c _ (un.frzs c ob _ z)
          rw [e] at e1
          cases e1
          exact e2
  cases hk : K.lookup a with
  | some o =>
    have e := KX a o hk
    rw [ha] at e
    cases e
    refine core (fun _ => none) (fun _ => .inl rfl) ?_ (fun c u z => by cases z) (fun c z => absurd rfl z) fun z => absurd rfl z
    refine .inr ⟨_, vs.toArray, _, hk, rfl, rfl, rfl, ?_, by simpa using rv⟩
    rw [List.size_toArray, hi.length]
    exact hl
  | none =>
    let lock : HO := .frz { cls := .type "list", data := .seq vs.toArray } (.lst (ns.map V.int))
    have at1 : (fun c => if c = a then some lock else none : Hp) a = some lock := if_pos rfl
    refine core (fun c => if c = a then some lock else none) (fun c => ?_) (.inl (.inr ⟨_, at1⟩)) (fun c u z => ?_) (fun c z => ?_) fun _ => hk
    · by_cases hc : c = a
      · exact .inr ⟨_, _, if_pos hc⟩
      · exact .inl (if_neg hc)
    · by_cases hc : c = a
      · have z' : some lock = some u := (if_pos hc).symm.trans z
        cases z'
        subst hc
        exact ⟨ha, by rw [List.length_map]; exact hl, vs, _, rv, ha⟩
      · have z' : none = some u := (if_neg hc).symm.trans z
        cases z'
    · by_cases hc : c = a
      · exact hc
      · exact absurd (if_neg hc) z
/-- F gives the written part, the function object, what the law computes, over every base -/
theorem walk_G {l : PySem.W.OpenLaw} {n k : Nat} {q : Program} {loose : List Str} {XP : (Str → Option Value) → Heap → Prop} {YP : World → Heap → Prop} {d : DefRec} {x : Str}
    (hn : l.most = some n) (hn2 : n ≤ sizeLine) (hdf : d.params.defaults = []) (hr : Room k callerA)
    (F : ∀ (w : World) (mg : Str → Option Value) (fa : Addr) (h : Heap), YP w h → h.Ns mainGlobals mg → mg d.name = some (.ref fa) →
      ∃ (K : PySem.W.Frag) (fd : FuncData) (G : List D → M), K.In h ∧ (∀ (s : Shared) (u : Value), BindsTo s fd ⟨[u], []⟩ [(x, u)]) ∧
        (∀ ns : List Int, ns.length ≤ n → G [.scr ns] [] = some (.bl true, [])) ∧
        ∀ base : Heap, K.In base → base.Ns mainGlobals mg → FnGd l.prog w K mg base k fa fd [x] (spG K 1 G)) :
    PySem.W.WalkO q loose XP YP l.row.toRowW d [] (fun f vs => PySem.call f vs) := by
  refine Att.attach_call hn hdf fun w s0 s1 mg mb fa o pm cd doc a vs ns Gr Y ho hd hcd hmg hobj hints hlen hg => ?_
  obtain ⟨K, fd, G, KX, hb, hG, hF⟩ := F w mg fa _ Y Gr.T.g hmg
  refine script_run KX Gr.T.g Gr.T.b Gr.T.builtins Gr.T.nolimit hg hobj hints (Nat.le_trans hlen hn2) hr hF hb fun H hS => ?_
  refine ⟨[], H, [], [.scr ns], .bl true, [], ⟨rfl, Ex.refl _, List.nodup_nil, fun i p c h => by simp at h⟩, .cons (.scr hS) .nil, rfl, hG ns hlen, fun F' H' v _ r => ?_⟩
  cases r
  rfl
end RV
end
section
/-! What a caller wants of a def, a class, a property; operations for all kinds at once. -/
namespace RV
open PySem L2
section
variable (P : Program) (w : World) (K : PySem.W.Frag) (mg : Str → Option Value) (base : Heap)
/-- the module's name x is a def that computes G -/
def Fc (x : Str) (k n : Nat) (G : List D → M) : Prop := ∃ (f : Addr) (fd : FuncData) (ps : List Str), FnOk P w K mg base CX0 k f fd ps (spG K n G) ∧ Binds K fd ps [] ∧ PySem.W.keepIn K (.ref f) = true ∧ mg x = some (.ref f)
/-- .. where no text is being made -/
def Fg (x : Str) (k n : Nat) (G : List D → M) : Prop := ∃ (f : Addr) (fd : FuncData) (ps : List Str), FnGd P w K mg base k f fd ps (spG K n G) ∧ Binds K fd ps [] ∧ PySem.W.keepIn K (.ref f) = true ∧ mg x = some (.ref f)
/-- the module's name x is the class at C; its __init__ computes G; dvs: the defaults that fill up -/
def Mc (x : Str) (C : Addr) (k n : Nat) (G : List D → M) (dvs : List D) : Prop := ∃ (f : Addr) (fd : FuncData) (ps : List Str) (dv : List V) (ds : List Value), Mk K C f ∧ FnOk P w K mg base CX0 k f fd ps (spG K n G) ∧ Binds K fd ps ds ∧ Vals dv ds ∧ (∀ as F, RpL K as F dvs dv) ∧ mg x = some (.ref C)
/-- .. called with m1 values and keywords ks -/
def Mk_ (x : Str) (C : Addr) (k n m1 : Nat) (ks : List Str) (G : List D → M) (gD : List D → List D → List D) : Prop := ∃ (f : Addr) (fd : FuncData) (ps : List Str) (g : List Value → List Value → List Value) (gV : List V → List V → List V), Mk K C f ∧ FnOk P w K mg base CX0 k f fd ps (spG K n G) ∧ KBn K fd ps (m1 + 1) ks g gV ∧
  (∀ as F (ds zs : List D) (vs ws : List V) (s : V), RpL K as F ds vs → RpL K as F zs ws → ds.length = m1 → zs.length = ks.length → ∃ us, gV (s :: vs) ws = s :: us ∧ RpL K as F (gD ds zs) us) ∧ mg x = some (.ref C)
/-- f is a property of the class at C that computes G -/
def Pc (C : Addr) (f : Str) (k : Nat) (G : List D → M) : Prop := ∃ (pr g : Addr) (fd : FuncData) (ps : List Str), Cls K C ∧ PropOf K C f pr g ∧ FnOk P w K mg base CX0 k g fd ps (spG K 1 G) ∧ Binds K fd ps []
/-- the class at C has an own == that computes G -/
def Ec (C : Addr) (k : Nat) (G : List D → M) : Prop := ∃ (f : Addr) (fd : FuncData) (ps : List Str), FnOk P w K mg base CX0 k f fd ps (spG K 2 G) ∧ Binds K fd ps [] ∧ PySem.W.findIn K (.ref C) "__eq__" = some (some (.ref f)) ∧ PySem.W.isFn K (.ref f) = true ∧ PySem.W.findIn K (.ref C) "__ne__" = some (some (.builtin "object.__ne__")) ∧ PySem.W.mroIn K C (.type "object") = some true
end
section
variable {X : Cx} {e o a b : Expr} {es : List Expr} {pos p : Pos} {er ek : Env → ML} {ea eb : Env → M} {x f : Str} {k j n : Nat} {G : List D → M} {C : Addr} {dvs : List D}
theorem ge_callF (c : Fc X.prog X.w X.K X.mg X.base x k n G) (hr : Room j X.A) (ha : GA X (e :: es) er) (hj : k ≤ j := by decide) (hg : Gl X x := by rfl) (hdb : (x == ("__debug__" : Str)) = false := by decide) (h1 : starEach (e :: es) X.env = (false, eval e X.env) :: starEach es X.env := by rfl) (h2 : (backTo pos (starEach es X.env)).any (·.1) = false := by rfl) :
    GE X (.Call (.Name x p) (e :: es) [] pos) (eFn n G [] er) := by
  obtain ⟨f, fd, ps, F, hb, hk, hm⟩ := c
  exact ge_call (dv := []) F hr hj hm hk hb .nil pass0 (fun _ _ => .nil) ha hg hdb h1 h2
theorem ge_callGF (c : Fg X.prog X.w X.K X.mg X.base x k n G) (hgd : X.A.guards = some []) (hr : Room j X.A) (ha : GA X (e :: es) er) (hj : k ≤ j := by decide) (hg : Gl X x := by rfl) (hdb : (x == ("__debug__" : Str)) = false := by decide) (h1 : starEach (e :: es) X.env = (false, eval e X.env) :: starEach es X.env := by rfl) (h2 : (backTo pos (starEach es X.env)).any (·.1) = false := by rfl) :
    GE X (.Call (.Name x p) (e :: es) [] pos) (eFn n G [] er) := by
  obtain ⟨f, fd, ps, F, hb, hk, hm⟩ := c
  exact ge_callG (dv := []) F hgd hr hj hm hk hb .nil (fun _ _ => .nil) ha hg hdb h1 h2
theorem ge_makeF (c : Mc X.prog X.w X.K X.mg X.base x C k n G dvs) (hr : Room j X.A) (ha : GA X (e :: es) er) (hj : k + 1 ≤ j := by decide) (hg : Gl X x := by rfl) (hdb : (x == ("__debug__" : Str)) = false := by decide) (h1 : starEach (e :: es) X.env = (false, eval e X.env) :: starEach es X.env := by rfl) (h2 : (backTo pos (starEach es X.env)).any (·.1) = false := by rfl) :
    GE X (.Call (.Name x p) (e :: es) [] pos) (eMake C n G dvs er) := by
  obtain ⟨f, fd, ps, dv, ds, M, F, hb, hd, hdv, hm⟩ := c
  exact ge_make M F hr hj hm hb hd pass0 hdv ha hg hdb h1 h2
theorem ge_makeKF {m1 : Nat} {ks : List Str} {gD : List D → List D → List D} {kws : List Keyword} (c : Mk_ X.prog X.w X.K X.mg X.base x C k n m1 ks G gD) (hr : Room j X.A) (ha : GA X (e :: es) er) (hk : GK X kws ek) (hj : k + 1 ≤ j := by decide) (hg : Gl X x := by rfl)
    (hall : (backToKw pos (keywordEach kws X.env)).all (·.1.isSome) = true := by rfl) (hks : (backToKw pos (keywordEach kws X.env)).filterMap (·.1) = ks := by rfl) (hdb : (x == ("__debug__" : Str)) = false := by decide)
    (he : starEach (e :: es) X.env = (false, eval e X.env) :: starEach es X.env := by rfl) (hpl : ((backTo pos (starEach (e :: es) X.env)).any (·.1) || (backToKw pos (keywordEach kws X.env)).any (·.1.isNone)) = false := by rfl) :
    GE X (.Call (.Name x p) (e :: es) kws pos) (eMakeK C n m1 ks.length G gD er ek) := by
  obtain ⟨f, fd, ps, g, gV, M, F, hb, hgD, hm⟩ := c
  exact ge_makeK M F hr hj hm hb pass0 hgD ha hk hg hall hks hdb he hpl
theorem ge_makeKF0 {ks : List Str} {gD : List D → List D → List D} {kws : List Keyword} (c : Mk_ X.prog X.w X.K X.mg X.base x C k n 0 ks G gD) (hr : Room j X.A) (hk : GK X kws ek) (hj : k + 1 ≤ j := by decide) (hg : Gl X x := by rfl)
    (hall : (backToKw pos (keywordEach kws X.env)).all (·.1.isSome) = true := by rfl) (hks : (backToKw pos (keywordEach kws X.env)).filterMap (·.1) = ks := by rfl) (hdb : (x == ("__debug__" : Str)) = false := by decide)
    (hpl : ((backTo pos (starEach [] X.env)).any (·.1) || (backToKw pos (keywordEach kws X.env)).any (·.1.isNone)) = false := by rfl) :
    GE X (.Call (.Name x p) [] kws pos) (eMakeK C n 0 ks.length G gD aNil ek) := by
  obtain ⟨f, fd, ps, g, gV, M, F, hb, hgD, hm⟩ := c
  exact ge_makeK0 M F hr hj hm hb pass0 hgD hk hg hall hks hdb hpl
theorem ge_propF (c : Pc X.prog X.w X.K X.mg X.base C f k G) (hr : Room j X.A) (ha : GE X e ea) (hj : k + 1 ≤ j := by decide) (hab : attributeBase e f X.env (eval e X.env) = eval e X.env := by rfl) : GE X (.Attribute e f pos) (eProp C G ea) := by
  obtain ⟨pr, g, fd, ps, cl, hp, F, hb⟩ := c
  exact ge_prop cl hp F hr hj hb ha hab
theorem op_eqF (c : Ec X.prog X.w X.K X.mg X.base C k G) (hr : Room j X.A) (hj : k ≤ j := by decide) : OpR X (compareOp .Eq) (rEqOwn X.K C (spG X.K 2 G) false) := by
  obtain ⟨f, fd, ps, F, hb, hs, hf, _, _⟩ := c
  exact op_eqOwn F hr hj hs hf hb
theorem op_neF (c : Ec X.prog X.w X.K X.mg X.base C k G) (hr : Room j X.A) (hj : k + 1 ≤ j := by decide) : OpR X (compareOp .NotEq) (rEqOwn X.K C (spG X.K 2 G) true) := by
  obtain ⟨f, fd, ps, F, hb, hs, hf, hne, hm⟩ := c
  exact op_neOwn F hr hj hs hf hb hne hm
end
/-! ### all kinds at once -/
section
variable {K : PySem.W.Frag} {X : Cx}
theorem RO.eq {r : R2} {f g : WS → D → D → Option D} (h : RO K r f) (e : ∀ S x y d, g S x y = some d → f S x y = some d) : RO K r g := fun as F H S x y d vx vy I rx ry hd => h as F H S x y d vx vy I rx ry (e S x y d hd)
def addD : WS → D → D → Option D := fun _ x y => match x, y with
  | .int i, .int j => some (.int (i + j))
  | .str a, .str b => if small (a.length + b.length) = true then some (.str (a ++ b)) else none
  | .lst a, .lst b => if small (a.length + b.length) = true then some (.lst (a ++ b)) else none
  | _, _ => none
def rAddS_ : R2 := fun x y H Q => ∃ i j, x = .str i ∧ y = .str j ∧ i.length + j.length ≤ sizeLine ∧ Q (.str (i ++ j)) H
def rAddA : R2 := fun x y H Q => (rI0 fun i j => .int (i + j)) x y H Q ∨ (rAddS_ x y H Q ∨ rCat x y H Q)
theorem op_addA : OpR X (binaryOp .Add) rAddA := OpR.or op_add (OpR.or op_add_str op_cat)
theorem ro_addA : RO K rAddA addD := RO.eq (RO.or (ro_int (f := fun i j => i + j)) (RO.or (r := rAddS_) ro_catS ro_catL)) fun S x y d h => by
  unfold addD at h
  split at h
  · simpa [intD] using h
  · simp only [intD, catS, Option.orElse] at h ⊢
    rw [h]
  · simpa [intD, catS, catL] using h
  · cases h
def mulD : WS → D → D → Option D := intCD mulOk fun i j => i * j
def powD : WS → D → D → Option D := intCD powOk fun i j => i ^ j.toNat
def modD : WS → D → D → Option D := intCD posR fun i j => i % j
def fdivD : WS → D → D → Option D := intCD divOk fun i j => i / j
def subD : WS → D → D → Option D := intD fun i j => i - j
theorem ro_mul : RO K (rI CMul fun i j => .int (i * j)) mulD := ro_intC fun _ _ h => mulOk_c h
theorem ro_pow : RO K (rI CPow fun i j => .int (i ^ j.toNat)) powD := ro_intC fun _ _ h => powOk_c h
theorem ro_mod : RO K (rI (fun _ j => 0 < j) fun i j => .int (i % j)) modD := ro_intC fun _ _ h => of_decide_eq_true h
theorem ro_fdiv : RO K (rI CDiv fun i j => .int (i / j)) fdivD := ro_intC fun i j h => by
  have h2 : 0 < j ∧ j < 1073741824 := of_decide_eq_true h
  exact h2
theorem ro_sub : RO K (rI0 fun i j => .int (i - j)) subD := ro_int
def ltD : WS → D → D → Option D := cmpD fun i j => decide (i < j)
def leD : WS → D → D → Option D := cmpD fun i j => decide (i ≤ j)
def gtD : WS → D → D → Option D := cmpD fun i j => decide (j < i)
def geD : WS → D → D → Option D := cmpD fun i j => decide (j ≤ i)
theorem ro_lt : RO K (rI0 fun i j => .bl (decide (i < j))) ltD := ro_cmp
theorem ro_le : RO K (rI0 fun i j => .bl (decide (i ≤ j))) leD := ro_cmp
theorem ro_gt : RO K (rI0 fun i j => .bl (decide (j < i))) gtD := ro_cmp
theorem ro_ge : RO K (rI0 fun i j => .bl (decide (j ≤ i))) geD := ro_cmp
def negD : WS → D → Option D := fun _ x => match x with
  | .int i => some (.int (-i))
  | _ => none
theorem ru_neg : RU K (rU fun i => .int (-i)) negD := fun as F H S x d vx I rx h Q q => by
  unfold negD at h
  split at h
  · cases h
    cases rx
    exact ⟨_, rfl, keep I q (.int _)⟩
  · cases h
/-- texts, numbers, bools; else plain data -/
def eqAny (x y : D) : Option Bool := (eqScal x y).orElse fun _ => eqPy x y
def eqD : WS → D → D → Option D := fun _ x y => (eqAny x y).map D.bl
def neD : WS → D → D → Option D := fun _ x y => (eqAny x y).map fun c => D.bl (!c)
def rEqA (K : PySem.W.Frag) : R2 := fun x y H Q => rEq x y H Q ∨ rEqD K x y H Q
def rNeA (K : PySem.W.Frag) : R2 := fun x y H Q => rNe x y H Q ∨ rNeD K x y H Q
theorem ro_eqA : RO K (rEqA K) eqD := RO.eq (RO.or ro_eqS ro_eqD) fun S x y d h => by
  unfold eqD eqAny at h
  cases h1 : eqScal x y with
  | none =>
    rw [h1] at h
    simpa using h
  | some c =>
    rw [h1] at h
    simpa using h
theorem ro_neA : RO K (rNeA K) neD := RO.eq (RO.or ro_neS ro_neD) fun S x y d h => by
  unfold neD eqAny at h
  cases h1 : eqScal x y with
  | none =>
    rw [h1] at h
    simpa using h
  | some c =>
    rw [h1] at h
    simpa using h
theorem op_eqA {j : Nat} (hr : Room j X.A) : OpR X (compareOp .Eq) (rEqA X.K) := OpR.or op_eq (op_eqD hr.units)
theorem op_neA {j : Nat} (hr : Room j X.A) : OpR X (compareOp .NotEq) (rNeA X.K) := OpR.or op_ne (op_neD hr.units)
theorem RSl.or {r r' : V → Option Int → Option Int → Hp → VK → Prop} {f g : WS → D → Option Int → Option Int → Option D} (h : RSl K r f) (h' : RSl K r' g) : RSl K (fun x lo hi H Q => r x lo hi H Q ∨ r' x lo hi H Q) (fun S x lo hi => (f S x lo hi).orElse fun _ => g S x lo hi) := fun as F H S x d vx lo hi I rx e Q q => by
  replace e : ((f S x lo hi).orElse fun _ => g S x lo hi) = some d := e
  cases h1 : f S x lo hi with
  | some z =>
    rw [h1] at e
    have e' : z = d := by simpa using e
    subst e'
    exact .inl (h as F H S x z vx lo hi I rx h1 Q q)
  | none =>
    rw [h1] at e
    exact .inr (h' as F H S x d vx lo hi I rx (by simpa using e) Q q)
def slD : WS → D → Option Int → Option Int → Option D := fun _ x lo hi => match x with
  | .str z => if small z.length = true then some (.str (cutS z lo hi)) else none
  | .lst ds => some (.lst (cutD ds lo hi))
  | _ => none
def rSlA (K : PySem.W.Frag) : V → Option Int → Option Int → Hp → VK → Prop := fun x lo hi H Q => rSlS x lo hi H Q ∨ rSlL K x lo hi H Q
theorem sl_A : SlR X (rSlA X.K) := SlR.or sl_str sl_list
theorem rsl_A : RSl K (rSlA K) slD := fun as F H S x d vx lo hi I rx h => (RSl.or rsl_str rsl_lst) as F H S x d vx lo hi I rx (by
  unfold slD at h
  split at h
  · simp only [slS, Option.orElse] at h ⊢
    rw [h]
  · simpa [slS, slL] using h
  · cases h)
end
end RV
end
section
/-! A new list that is written to later: a cell. -/
namespace RV
open PySem L2
def MN (K : PySem.W.Frag) (te : TE) (m : Env → ML) : Prop := ∀ (as : List Addr) (F H : Hp) (S : WS) (ρ : Env) (σ : L2.St), Sit K as F H S → RpE K as F ρ σ → ∀ ds S', m ρ S = some (ds, S') →
  ∀ Q : VK, (∀ F' H' a, Grow K as F H (as ++ [a]) F' H' (S' ++ [.lst ds]) → Q (.ref a) H') → te σ H Q
structure GN (X : Cx) (e : Expr) (m : Env → ML) : Prop where
  ex : ∃ te, PE X e te ∧ MN X.K te m
section
variable {K : PySem.W.Frag} {X : Cx} {e : Expr} {pos : Pos} {m : Env → ML}
theorem rpl_clean0 {as : List Addr} {F : Hp} {ds : List D} {vs : List V} (r : RpL K as F ds vs) (h : D.cleanL 0 ds = true) : RpL K [] F ds vs := r.back (fun k a hk => by omega) h
def nLst (er : Env → ML) : Env → ML := fun ρ S => (er ρ S).bind fun p => if small p.1.length = true ∧ D.cleanL 0 p.1 = true then some p else none
theorem mn_lst {t : TA} {er : Env → ML} (h : MA K t er) : MN K (tLst t) (nLst er) := fun as F H S ρ σ I R ds S' e Q q => by
  unfold nLst at e
  cases h1 : er ρ S with
  | none => rw [h1] at e; cases e
  | some p =>
    simp only [h1, Option.bind_some] at e
    split at e
    · rename_i hs
      cases e
      refine h as F H S ρ σ I R ds S' h1 _ fun F1 H1 vs g1 r1 => ⟨?_, fun a ha => ?_⟩
      · rw [← r1.length]
        exact small_le hs.1
      · have sc : Sit K (as ++ [a]) F1 (upd H1 a (.lst vs)) (S' ++ [.lst ds]) := sit_cell g1.sit ha (fun b u hb => by rw [upd_ne (ne_of_none hb ha)]; exact hb) upd_same rfl (rpl_clean0 r1 hs.2)
        refine q F1 _ a (g1.trans ⟨sc, fun i p hi => by rw [List.getElem?_append_left (List.getElem?_eq_some_iff.mp hi).1]; exact hi, Ex.refl _, fun _ h => .inl h, fun p hp => ?_, fun b u _ hb => by rw [upd_ne (ne_of_none hb ha)]; exact hb, fun b hb => upd_there hb⟩)
        rcases List.mem_append.mp hp with z | z
        · exact .inl z
        · rw [List.mem_singleton] at z
          subst z
          exact .inr ha
    · cases e
theorem gn_lst {es : List Expr} {er : Env → ML} (h : GA X es er) : GN X (.List es pos) (nLst er) := by
  obtain ⟨t, p, m⟩ := h
  exact ⟨_, pe_lst p, mn_lst m⟩
def sAsgN (i : Nat) (m : Env → ML) : Env → MS := fun ρ S => (m ρ S).map fun p => (.nx (ρ.set i (some (.cell p.2.length))), p.2 ++ [.lst p.1])
theorem cell_last {as : List Addr} {F H F' H' : Hp} {S' : WS} {c : Cell} {a : Addr} {as0 : List Addr} (g : Grow K as0 F H (as ++ [a]) F' H' (S' ++ [c])) : Rp K (as ++ [a]) F' (.cell S'.length) (.ref a) := by
  have hl : as.length = S'.length := by
    have := g.sit.len
    simp at this
    exact this
  refine .cell ?_
  rw [← hl]
  simp
theorem ms_asgN {i : Nat} {t : TE} (h : MN K t m) : MSt K (tAsg t (gName i)) (sAsgN i m) := fun as F H S ρ σ I R o S' e' E q => by
  unfold sAsgN at e'
  cases h1 : m ρ S with
  | none => rw [h1] at e'; cases e'
  | some z =>
    rw [h1] at e'
    cases e'
    exact h as F H S ρ σ I R z.1 z.2 h1 _ fun F1 H1 a g => q _ F1 H1 g _ ((R.grow g).set (cell_last g))
theorem gs_setN (i : Nat) {x : Str} {pos' : Pos} (hN : X.N.Nodup) (h : GN X e m) (hi : X.N[i]? = some x := by rfl) (hx : Loc X.env.scope x := by first | exact Or.inl rfl | exact Or.inr rfl) (hs : swapsWith e (some (.Name x pos')) pos.line X.env = pure false := by rfl)
    (hf : X.fn x = true ∨ X.env.scope.names.lookup x = some .local := by first | exact .inl rfl | exact .inr rfl | assumption) : GS X (.Assign [.Name x pos'] e pos) (sAsgN i m) := by
  obtain ⟨t, p, m⟩ := h
  exact ⟨_, ps_set (i := i) hN hi hx p hs hf, ms_asgN m⟩
def sRetN (m : Env → ML) : Env → MS := fun ρ S => (m ρ S).map fun p => (.ret (.cell p.2.length), p.2 ++ [.lst p.1])
theorem gs_retN (h : GN X e m) : GS X (.Return (some e) pos) (sRetN m) := by
  obtain ⟨t, p, h⟩ := h
  refine ⟨_, ps_ret p, fun as F H S ρ σ I R o S' e' E q => ?_⟩
  unfold sRetN at e'
  cases h1 : m ρ S with
  | none => rw [h1] at e'; cases e'
  | some z =>
    rw [h1] at e'
    cases e'
    refine h as F H S ρ σ I R z.1 z.2 h1 _ fun F1 H1 a g => ?_
    exact q _ F1 H1 g (.ref a) (cell_last g)
/-! ### defs that hand back such a list -/
theorem Grow.only {as bs : List Addr} {F H F' H' : Hp} {S1 : WS} {k : Nat} {a : Addr} {c : Cell} (g : Grow K as F H bs F' H' S1) (hn : as.Nodup) (hk : as.length ≤ k) (ha : bs[k]? = some a) (hS : S1[k]? = some c) : Grow K as F H (as ++ [a]) F' H' (S1.take as.length ++ [c]) := by
  have gd := g.drop hn
  have na : a ∉ as := fun z => by
    obtain ⟨i, hi⟩ := List.getElem?_of_mem z
    have h1 := g.pre i a hi
    have hib : i < bs.length := (List.getElem?_eq_some_iff.mp h1).1
    have h2 : i = k := (List.getElem?_inj hib g.sit.nd).mp (h1.trans ha.symm)
    have := (List.getElem?_eq_some_iff.mp hi).1
    omega
  have hl : (S1.take as.length).length = as.length := gd.sit.len.symm
  refine ⟨⟨by rw [List.length_append, List.length_append, ← gd.sit.len]; rfl, gd.sit.ex, ?_, fun i q c2 h1 h2 => ?_⟩, fun i p hi => by rw [List.getElem?_append_left (List.getElem?_eq_some_iff.mp hi).1]; exact hi, g.ex, g.new, fun p hp => ?_, g.old, g.there⟩
  · rw [List.nodup_append]
    refine ⟨hn, by simp, fun x hx b hb e => ?_⟩
    rw [List.mem_singleton] at hb
    subst hb
    exact na (e ▸ hx)
  · by_cases hi : i < as.length
    · rw [List.getElem?_append_left hi] at h1
      rw [List.getElem?_append_left (by rw [hl]; exact hi)] at h2
      exact gd.sit.cell i q c2 h1 h2
    · have hi2 : i = as.length := by
        have := (List.getElem?_eq_some_iff.mp h1).1
        simp at this
        omega
      subst hi2
      rw [List.getElem?_append_right (Nat.le_refl _)] at h1
      rw [List.getElem?_append_right (by omega), hl] at h2
      simp at h1 h2
      subst h1 h2
      exact g.sit.cell k a c ha hS
  · rcases List.mem_append.mp hp with z | z
    · exact .inl z
    · rw [List.mem_singleton] at z
      subst z
      exact g.newc p (List.mem_of_getElem? ha)
def fnN (n : Nat) (m : Env → MS) : List D → ML := fun ds S => (m (startE n ds) S).bind fun p => match p.1 with
  | .ret (.cell k) => if S.length ≤ k then (match p.2[k]? with
    | some (.lst xs) => some (xs, p.2.take S.length)
    | _ => none) else none
  | _ => none
def spN (K : PySem.W.Frag) (n : Nat) (G : List D → ML) : Sp := fun vs H Q _ => ∃ (as : List Addr) (F : Hp) (S : WS) (ds xs : List D) (S' : WS), Sit K as F H S ∧ RpL K as F ds vs ∧ ds.length = n ∧ G ds S = some (xs, S') ∧
  ∀ F' H' a, Grow K as F H (as ++ [a]) F' H' (S' ++ [.lst xs]) → Q (.ref a) H'
theorem fnN_run {N : List Str} {m : Env → MS} {ts : TS} {n : Nat} {vs : List V} {H : Hp} {Q : VK} {E : XK} (hm : MSt K ts m) (h : spN K n (fnN N.length m) vs H Q E) :
    ts { nx := fun _ H' => Q .non H', rt := Q } (L2.start N vs) H := by
  obtain ⟨as, F, S, ds, xs, S', I, r, hl, e, q⟩ := h
  unfold fnN at e
  cases h1 : m (startE N.length ds) S with
  | none => rw [h1] at e; cases e
  | some p =>
    simp only [h1, Option.bind_some] at e
    refine hm as F H S _ _ I (startE_ok r) p.1 p.2 h1 _ fun bs F' H' g => ?_
    obtain ⟨o, S1⟩ := p
    split at e
    · rename_i k ho
      have ho' : o = .ret (.cell k) := ho
      subst ho'
      split at e
      · rename_i hk
        split at e
        · rename_i ys hS
          cases e
          intro v rv
          cases rv with
          | cell ha =>
            have g2 := g.only I.nd (by rw [I.len]; exact hk) ha hS
            rw [I.len] at g2
            exact q _ _ _ g2
        · cases e
      · cases e
    · cases e
end
section
variable {P : Program} {w : World} {K : PySem.W.Frag} {mg : Str → Option Value} {base : Heap}
theorem fn_N {x qual : Str} {params : Arguments} {body : List Stmt} {scope : Scope} {dvs : List V} {kws : List (Str × V)} {f : Addr} {fd : FuncData} {N ps : List Str} {k : Nat} {m : Env → MS} (F : FunD K x qual params body scope dvs kws f fd) (S : FnScope N ps scope)
    (hb : ∀ (cdv : Value) (A : Around) (outer : List PySem.Env) (s : Shared) (H : Hp) (E : XK), Room k (A.deeper (PyProof.Rows.envOfC qual scope s.heap.objs.size f cdv)) → GSs (cxOf CX0 P w K mg base N qual scope f cdv A outer s H E).nox body m) :
    FnOk P w K mg base CX0 (k + 1) f fd ps (spN K ps.length (fnN N.length m)) := by
  refine F.ok S (fun vs H Q E h => ?_) (fun cdv A outer s H vs Q E hr h => ?_)
  · obtain ⟨as, F, S, ds, d, S', I, r, hl, e, q⟩ := h
    rw [← r.length]
    exact hl
  · obtain ⟨ts, p, hm⟩ := hb cdv A outer s H E hr
    exact ⟨ts, p.nox, fnN_run hm h⟩
end
def Fn_ (P : Program) (w : World) (K : PySem.W.Frag) (mg : Str → Option Value) (base : Heap) (x : Str) (k n : Nat) (G : List D → ML) : Prop := ∃ (f : Addr) (fd : FuncData) (ps : List Str), FnOk P w K mg base CX0 k f fd ps (spN K n G) ∧ Binds K fd ps [] ∧ PySem.W.keepIn K (.ref f) = true ∧ mg x = some (.ref f)
section
variable {X : Cx} {e : Expr} {es : List Expr} {pos p : Pos} {er : Env → ML} {x : Str} {k j n : Nat} {G : List D → ML}
def nFn (n : Nat) (G : List D → ML) (er : Env → ML) : Env → ML := fun ρ S => (er ρ S).bind fun p => if p.1.length = n then G p.1 p.2 else none
theorem mn_fn {K : PySem.W.Frag} {E : XK} {t : TA} (h : MA K t er) : MN K (tCall (spN K n G) [] E t) (nFn n G er) := fun as F H S ρ σ I R d S' e Q q => by
  unfold nFn at e
  cases h1 : er ρ S with
  | none => rw [h1] at e; cases e
  | some p =>
    simp only [h1, Option.bind_some] at e
    split at e
    · rename_i hl
      refine h as F H S ρ σ I R p.1 p.2 h1 _ fun F1 H1 v1 g1 r1 => ?_
      refine ⟨as, F1, p.2, p.1, d, S', g1.sit, by simpa using r1, hl, e, fun F3 H3 v3 g3 => q F3 H3 v3 (g1.trans g3)⟩
    · cases e
theorem gn_callF (c : Fn_ X.prog X.w X.K X.mg X.base x k n G) (hr : Room j X.A) (ha : GA X (e :: es) er) (hj : k ≤ j := by decide) (hg : Gl X x := by rfl) (hdb : (x == ("__debug__" : Str)) = false := by decide) (h1 : starEach (e :: es) X.env = (false, eval e X.env) :: starEach es X.env := by rfl) (h2 : (backTo pos (starEach es X.env)).any (·.1) = false := by rfl) :
    GN X (.Call (.Name x p) (e :: es) [] pos) (nFn n G er) := by
  obtain ⟨f, fd, ps, F, hb, hk, hm⟩ := c
  obtain ⟨t, p, m⟩ := ha
  exact ⟨_, pe_call F (hr.mono hj) hg hm hk hb .nil pass0 p hdb h1 h2, mn_fn m⟩
end
end RV
end
section
/-! The head's facts: classes, properties, own ==, tables; keywords without defaults. -/
namespace RV
open PySem L2
open He (eqO eqO_ok ba ga ma)
def hookB (n : Nat) (fa : List He.Fa) (fn : List He5.DefA) (ex : PySem.W.Frag → Bool) : PySem.W.Hook where
  α := He.AlD × Bool
  obs := fun s => (He5.obsAG n fa fn s.heap.get?, ex (He.frG s.heap.get? (He5.asA s.heap.get? n)))
  val := fun _ => (He5.valA fn, true)
  says := fun _ h => ∃ K : PySem.W.Frag, K.In h ∧ He5.SaysA fa fn K ∧ ex K = true
  of := fun _ _ e => ⟨_, He.frG_in, congrArg Prod.fst e, congrArg Prod.snd e⟩
  keeps := fun _ _ _ ⟨K, hK, c⟩ k => ⟨K, PySem.W.Frag.In.keeps hK k, c⟩
def obB (n : Nat) (fa : List He.Fa) (fn : List He5.DefA) (ex : PySem.W.Frag → Bool) (g : Addr → Option Obj) : He.AlD × Bool := (He5.obsAG n fa fn g, ex (He.frG g (He5.asA g n)))
theorem obB_eq {n : Nat} {fa : List He.Fa} {fn : List He5.DefA} {ex : PySem.W.Frag → Bool} {g : Addr → Option Obj} {s : Shared} (h : ∀ a, g a = s.heap.get? a) : obB n fa fn ex g = (hookB n fa fn ex).obs s := by
  have e : g = s.heap.get? := funext h
  rw [e] <;> rfl
section
variable {K : PySem.W.Frag}
def kindB (K : PySem.W.Frag) (C : Addr) : Bool := eqO (PySem.W.findIn K (.ref C) "__class__") (some (some (.builtin "object.__class__"))) && (eqO (PySem.W.specialIn K (.builtin "object.__class__") "__get__") (some (some (.builtin "getset_descriptor.__get__"))) &&
  (decide (PySem.W.takesIn K (.builtin "object.__class__") = some true) && decide (PySem.W.mroIn K C (.type "object") = some true)))
theorem kindB_ok {C : Addr} (cl : Cls K C) (h : kindB K C = true) : KindC K C := by
  obtain ⟨h1, h⟩ := ba h
  obtain ⟨h2, h⟩ := ba h
  obtain ⟨h3, h4⟩ := ba h
  exact ⟨cl, eqO_ok h1, eqO_ok h2, of_decide_eq_true h3, of_decide_eq_true h4⟩
def propB (K : PySem.W.Frag) (C : Addr) (f : Str) : Bool := eqO (PySem.W.findIn K (.ref C) f) (some (some (.ref (ma K C f)))) && (eqO (PySem.W.specialIn K (.ref (ma K C f)) "__get__") (some (some (.builtin "property.__get__"))) &&
  (decide (PySem.W.takesIn K (.ref (ma K C f)) = some true) && (match PySem.W.recIn K (ma K C f) "property" with
    | some (.ref g :: _) => decide (g = He5.wf K C "property" f)
    | _ => false)))
theorem propB_ok {C : Addr} {f : Str} (h : propB K C f = true) : PropOf K C f (ma K C f) (He5.wf K C "property" f) := by
  obtain ⟨h1, h⟩ := ba h
  obtain ⟨h2, h⟩ := ba h
  obtain ⟨h3, h4⟩ := ba h
  refine ⟨eqO_ok h1, eqO_ok h2, of_decide_eq_true h3, ?_⟩
  split at h4
  · rename_i g r e
    have := of_decide_eq_true h4
    subst this
    exact ⟨r, e⟩
  · cases h4
def eqB (K : PySem.W.Frag) (C : Addr) : Bool := eqO (PySem.W.findIn K (.ref C) "__eq__") (some (some (.ref (ma K C "__eq__")))) && (PySem.W.isFn K (.ref (ma K C "__eq__")) && (eqO (PySem.W.findIn K (.ref C) "__ne__") (some (some (.builtin "object.__ne__"))) && decide (PySem.W.mroIn K C (.type "object") = some true)))
theorem ec_of {P : Program} {w : World} {mg : Str → Option Value} {base : Heap} {C : Addr} {k : Nat} {G : List D → M} {fd : FuncData} {ps : List Str} (h : eqB K C = true) (F : FnOk P w K mg base CX0 k (ma K C "__eq__") fd ps (spG K 2 G)) (b : Binds K fd ps []) : Ec P w K mg base C k G := by
  obtain ⟨h1, h⟩ := ba h
  obtain ⟨h2, h⟩ := ba h
  obtain ⟨h3, h4⟩ := ba h
  exact ⟨_, fd, ps, F, b, eqO_ok h1, h2, eqO_ok h3, of_decide_eq_true h4⟩
def bareB (K : PySem.W.Frag) (C : Addr) : Bool := eqO (PySem.W.findIn K (.ref C) "__bool__") (some none) && eqO (PySem.W.findIn K (.ref C) "__len__") (some none)
theorem bareB_ok {C : Addr} (h : bareB K C = true) : PySem.W.findIn K (.ref C) "__bool__" = some none ∧ PySem.W.findIn K (.ref C) "__len__" = some none := ⟨eqO_ok (ba h).1, eqO_ok (ba h).2⟩
/-- isinstance among ts (kinds) and us (classes): sub tells -/
def tabD (ts us : List Value) (sub : Value → Value → Bool) (t u : Value) : Option Bool := if t ∈ ts ∧ u ∈ us then some (sub t u) else none
def tabB (K : PySem.W.Frag) (ts us : List Value) (sub : Value → Value → Bool) : Bool := ts.all fun t => us.all fun u => decide (PySem.W.kitOne K t u = some (sub t u))
theorem tabB_ok {ts us : List Value} {sub : Value → Value → Bool} (h : tabB K ts us sub = true) (t u : Value) (b : Bool) (e : tabD ts us sub t u = some b) : PySem.W.kitOne K t u = some b := by
  unfold tabD at e
  split at e
  · rename_i hm
    cases e
    exact of_decide_eq_true (List.all_eq_true.mp (List.all_eq_true.mp h t hm.1) u hm.2)
  · cases e
def nfB (K : PySem.W.Frag) (C : Addr) (ts : List Value) : Bool := ts.all fun t => PySem.W.notFirst K C t
def nfD (ts : List Value) (t : Value) : Bool := decide (t ∈ ts)
theorem nfB_ok {C : Addr} {ts : List Value} (h : nfB K C ts = true) (t : Value) (e : nfD ts t = true) : PySem.W.notFirst K C t = true := List.all_eq_true.mp h t (of_decide_eq_true e)
theorem kbn0 {x qual : Str} {params : Arguments} {body : List Stmt} {scope : Scope} {kws : List (Str × V)} {f : Addr} {fd : FuncData} {ps : List Str} (F : FunD K x qual params body scope [] kws f fd) (n : Nat) (ks : List Str) (g : {α : Type} → List α → List α → List α)
    (hrel : ∀ {vs zs : List V} {us ws : List Value}, Vals vs us → Vals zs ws → Vals (g vs zs) (g us ws))
    (h : ∀ (kV doc pm : Value) (an : Option Addr) (cdv ct : Value) (us ws : List Value), us.length = n → ws.length = ks.length → bindArgs (PySem.W.fnOf x qual params body scope .none kV doc pm an cdv ct) ⟨us, ks.zip ws⟩ = pure (ps.zip (g us ws))) : KBn K fd ps n ks g g := by
  obtain ⟨oc, od, dV, kV, doc, pm, an, cdv, ct, osl, rfl, lk, hcd, hD, hK⟩ := F.ex
  rcases hD with ⟨_, rfl⟩ | ⟨e, _⟩
  · exact ⟨fun s us ws X l1 l2 => BindsTo.of_eq (h kV doc pm an cdv ct us ws l1 l2), fun r1 r2 => hrel r1 r2⟩
  · exact absurd rfl e
end
end RV
namespace RV
open PySem L2
open He (eqO eqO_ok ba ga ma)
/-- keywords' values into the parameters' order -/
def perm {α : Type} (m : List Nat) (us ws : List α) : List α := us ++ m.flatMap fun i => (ws.drop i).take 1
theorem vals_take1 {vs : List V} {us : List Value} (h : Vals vs us) : Vals (vs.take 1) (us.take 1) := by
  cases h with
  | nil => exact .nil
  | cons a _ => exact .cons a .nil
theorem vals_perm {m : List Nat} {vs zs : List V} {us ws : List Value} (r1 : Vals vs us) (r2 : Vals zs ws) : Vals (perm m vs zs) (perm m us ws) := by
  refine r1.append ?_
  induction m with
  | nil => exact .nil
  | cons i m ih =>
    rw [List.flatMap_cons, List.flatMap_cons]
    exact (vals_take1 (r2.drop i)).append ih
theorem rpl_drop {K : PySem.W.Frag} {as : List Addr} {F : Hp} : ∀ (n : Nat) {ds : List D} {vs : List V}, RpL K as F ds vs → RpL K as F (ds.drop n) (vs.drop n)
  | 0, _, _, h => h
  | _ + 1, _, _, .nil => .nil
  | n + 1, _, _, .cons _ r => rpl_drop n r
theorem rpl_take1 {K : PySem.W.Frag} {as : List Addr} {F : Hp} {ds : List D} {vs : List V} (h : RpL K as F ds vs) : RpL K as F (ds.take 1) (vs.take 1) := by
  cases h with
  | nil => exact .nil
  | cons a _ => exact .cons a .nil
theorem rpl_perm {K : PySem.W.Frag} {as : List Addr} {F : Hp} {m : List Nat} {ds zs : List D} {vs ws : List V} (r1 : RpL K as F ds vs) (r2 : RpL K as F zs ws) : RpL K as F (perm m ds zs) (perm m vs ws) := by
  refine r1.append ?_
  induction m with
  | nil => exact .nil
  | cons i m ih =>
    rw [List.flatMap_cons, List.flatMap_cons]
    exact (rpl_take1 (rpl_drop i r2)).append ih
theorem mkK_of {P : Program} {w : World} {K : PySem.W.Frag} {mg : Str → Option Value} {base : Heap} {x y qual : Str} {params : Arguments} {body : List Stmt} {scope : Scope} {kws : List (Str × V)} {f C : Addr} {fd : FuncData} {ps : List Str} {k n : Nat} {G : List D → M} (m1 : Nat) (ks : List Str) (m : List Nat) (F : FunD K x qual params body scope [] kws f fd) (M : Mk K C f) (ok : FnOk P w K mg base CX0 k f fd ps (spG K n G)) (hm : mg y = some (.ref C))
    (h : ∀ (kV doc pm : Value) (an : Option Addr) (cdv ct : Value) (us ws : List Value), us.length = m1 + 1 → ws.length = ks.length → bindArgs (PySem.W.fnOf x qual params body scope .none kV doc pm an cdv ct) ⟨us, ks.zip ws⟩ = pure (ps.zip (perm m us ws))) :
    Mk_ P w K mg base y C k n m1 ks G (perm m) :=
  ⟨f, fd, ps, perm m, perm m, M, ok, kbn0 F (m1 + 1) ks (perm m) vals_perm h, fun as F ds zs vs ws s r1 r2 _ _ => ⟨perm m vs ws, rfl, rpl_perm r1 r2⟩, hm⟩
end RV
end
section
/-! Wells: what the laws draw from. -/
namespace RV
open PySem L2
def dipB : Env → MS := sSeq (sSetIx (eVar 0) (eC (.int 2)) (eOp addD (eOp ixD (eVar 0) (eC (.int 2))) (eC (.int 1)))) (sSeq (sIf (bBl (eOp gtD (eOp ixD (eVar 0) (eC (.int 1))) (eC (.int 0)))) (sSeq (sPairSet 2 (eVar 0) (eC (.int 1)) (eCall divmodD (aCons (eOp ixD (eVar 0) (eC (.int 1))) (aCons (eVar 1) (aNil))))) (sRet (eVar 2))) (sNil)) (sSeq (sSetIx (eVar 0) (eC (.int 0)) (eOp modD (eCall intOfD (aCons (eOp addD (eOp addD (eOp mulD (eOp ixD (eVar 0) (eC (.int 0))) (eC (.int 69621))) (eOp mulD (eOp mulD (eC (.int 31)) (eOp ixD (eVar 0) (eC (.int 2)))) (eOp ixD (eVar 0) (eC (.int 2))))) (eC (.int 40503))) (aNil))) (eC (.int 2147483629)))) (sSeq (sAsg 3 (eOp modD (eCall intOfD (aCons (eOp mulD (eOp ixD (eVar 0) (eC (.int 0))) (eOp addD (eOp modD (eCall intOfD (aCons (eOp ixD (eVar 0) (eC (.int 0))) (aNil))) (eC (.int 30011))) (eC (.int 17)))) (aNil))) (eC (.int 2147483587)))) (sRet (eOp modD (eCall intOfD (aCons (eOp fdivD (eVar 3) (eC (.int 64))) (aNil))) (eVar 1))))))
def dipD : List D → M := fnD 4 dipB
def wellL : Env → MS := sAsg 2 (eOp modD (eCall intOfD (aCons (eOp addD (eOp mulD (eVar 2) (eC (.int 52711))) (eVar 3)) (aNil))) (eC (.int 2147483629)))
def wellE : Env → MS := sRetN (nLst (aCons (eOp modD (eCall intOfD (aCons (eVar 2) (aNil))) (eC (.int 2147483629))) (aCons (eIf (bBl (eOp geD (eCall absD (aCons (eVar 2) (aNil))) (eOp powD (eC (.int 10)) (eC (.int 18))))) (eCall absD (aCons (eVar 2) (aNil))) (eC (.int 0))) (aCons (eC (.int 0)) (aNil)))))
def wellB : Env → MS := sSeq (sAsg 2 (eIf (bBl (eOp ltD (eVar 1) (eCall lenD (aCons (eVar 0) (aNil))))) (eOp ixD (eVar 0) (eVar 1)) (eOp mulD (eOp mulD (eC (.int 90017)) (eOp addD (eVar 1) (eC (.int 3)))) (eOp addD (eVar 1) (eC (.int 5)))))) (sSeq (sIf (bBl (eOp geD (eVar 1) (eCall lenD (aCons (eVar 0) (aNil))))) (sFor (iSeq (eVar 0)) (tName 3) wellL) (sNil)) wellE)
def wellD : List D → ML := fnN 4 wellB
def nameL : Env → MS := sAsg 2 (eOp addD (eVar 2) (eOp ixD (eVar 1) (eFn 2 dipD [] (aCons (eVar 0) (aCons (eC (.int 36)) (aNil))))))
def nameB : Env → MS := sSeq (sIf (bBl (eOp eqD (eFn 2 dipD [] (aCons (eVar 0) (aCons (eC (.int 6)) (aNil)))) (eC (.int 0)))) (sRet (eOp ixD (eSeq .lst (aCons (eC (.str "pipe")) (aCons (eC (.str "meter")) (aCons (eC (.str "sealed")) (aCons (eC (.str "self")) (aCons (eC (.str "net")) (aCons (eC (.str "tell")) (aCons (eC (.str "if")) (aCons (eC (.str "a")) (aNil)))))))))) (eFn 2 dipD [] (aCons (eVar 0) (aCons (eC (.int 8)) (aNil)))))) (sNil)) (sSeq (sAsg 1 (eC (.str "abcdefghijklmnopqrstuvwxyz0123456789"))) (sSeq (sAsg 2 (eOp ixD (eVar 1) (eFn 2 dipD [] (aCons (eVar 0) (aCons (eC (.int 26)) (aNil)))))) (sSeq (sFor (iRange1 (aCons (eFn 2 dipD [] (aCons (eVar 0) (aCons (eC (.int 8)) (aNil)))) (aNil))) (tName 3) nameL) (sRet (eVar 2)))))
def nameD : List D → M := fnD 4 nameB
def freshM : Env → MS := sIf (bAnd (bBl (eOp neD (eVar 1) (eSeq .lst (aNil)))) (bBl (eOp ltD (eVar 2) (eC (.int 2))))) (sSeq (sAsg 4 (eOp ixD (eVar 1) (eFn 2 dipD [] (aCons (eVar 0) (aCons (eCall lenD (aCons (eVar 1) (aNil))) (aNil)))))) (sAsg 3 (eIf (bBl (eOp eqD (eVar 2) (eC (.int 0)))) (eSl slD (eOp addD (eVar 4) (eVar 3)) (oNone) (oSome (eC (.int 8)))) (eSl slD (eVar 4) (oNone) (oSome (eOp addD (eC (.int 1)) (eFn 2 dipD [] (aCons (eVar 0) (aCons (eC (.int 7)) (aNil)))))))))) (sNil)
def freshT : Env → MS := sSeq (sIf (bBl (eOp (inD true) (eVar 3) (eVar 1))) (sRet (eVar 3)) (sNil)) (sSeq (sAsg 5 (eLc (iStrD (eC (.str "abcdefghijklmnopqrstuvwxyz0123456789"))) (tName 6) (bYes) (eOp addD (eSl slD (eVar 3) (oNone) (oSome (eC (.int 7)))) (eVar 6)) [6])) (sRet (eOp ixD (eLc (iSeq (eVar 5)) (tName 7) (bBl (eOp (inD true) (eVar 7) (eVar 1))) (eVar 7) [7]) (eC (.int 0)))))
def freshB : Env → MS := sSeq (sAsgG (tTupD 2 (tsCons (tName 2) (tsCons (tName 3) (tsNil)))) (eSeq .tup (aCons (eFn 2 dipD [] (aCons (eVar 0) (aCons (eC (.int 4)) (aNil)))) (aCons (eFn 1 nameD [] (aCons (eVar 0) (aNil))) (aNil))))) (sSeq freshM freshT)
def freshD : List D → M := fnD 8 freshB
structure W where
  a : Int
  b : Int
  c : Int
def W.d (w : W) : Cell := .lst [.int w.a, .int w.b, .int w.c]
structure Good (n : Int) (w : W) : Prop where
  a0 : 0 ≤ w.a
  a1 : w.a < 2147483629
  b0 : 0 ≤ w.b
  c0 : 0 ≤ w.c
  c1 : w.c ≤ n
theorem Good.mono {n m : Int} {w : W} (h : Good n w) (e : n ≤ m) : Good m w := ⟨h.a0, h.a1, h.b0, h.c0, by have := h.c1; omega⟩
def put (S : WS) (k : Nat) (w : W) : WS := S.set k w.d
theorem put_at {S : WS} {k : Nat} {w : W} (h : k < S.length) : (put S k w)[k]? = some w.d := by simp [put, h]
theorem put_len {S : WS} {k : Nat} {w : W} : (put S k w).length = S.length := by simp [put]
theorem put_put {S : WS} {k : Nat} {w w' : W} : put (put S k w) k w' = put S k w' := by simp [put]
theorem put_set {S : WS} {k : Nat} {w : W} {x y z : Int} : (put S k w).set k (.lst [.int x, .int y, .int z]) = put S k ⟨x, y, z⟩ := by simp [put, W.d]
theorem atI0 {α : Type} {x y z : α} : atI [x, y, z] 0 = some x := rfl
theorem atI1 {α : Type} {x y z : α} : atI [x, y, z] 1 = some y := rfl
theorem atI2 {α : Type} {x y z : α} : atI [x, y, z] 2 = some z := rfl
theorem ixN0 : ixN 3 0 = some 0 := rfl
theorem ixN1 : ixN 3 1 = some 1 := rfl
theorem ixN2 : ixN 3 2 = some 2 := rfl
theorem mulOk_l {i j : Int} (h : 0 ≤ i) (h1 : i < 18446744073709551616) : mulOk i j = true := decide_eq_true (.inl ⟨by omega, by simpa using h1⟩)
theorem mulOk_r {i j : Int} (h : 0 ≤ j) (h1 : j < 18446744073709551616) : mulOk i j = true := decide_eq_true (.inr ⟨by omega, by simpa using h1⟩)
theorem fin_same {n : Nat} {d : D} {S : WS} (h : S.length = n) : fin n d S = some (d, S) := if_pos h
theorem dip_ok {S : WS} {k : Nat} {n m : Int} {w : W} (hk : k < S.length) (g : Good n w) (hn : n < 1000000000000000000) (hm : 0 < m) (hm2 : m < 1073741824) :
    ∃ r w', dipD [.cell k, .int m] (put S k w) = some (.int r, put S k w') ∧ 0 ≤ r ∧ r < m ∧ Good (n + 1) w' := by
  obtain ⟨a, b, c⟩ := w
  obtain ⟨a0, a1, b0, c0, c1⟩ := g
  simp only at a0 a1 b0 c0 c1
  have hat : ∀ w : W, (put S k w)[k]? = some (.lst [.int w.a, .int w.b, .int w.c]) := fun w => put_at hk
  clear hk
  have hd : dmOk m = true := decide_eq_true ⟨hm, by have : m.natAbs < 2 ^ 30 := by omega
                                                    exact Nat.lt_trans this (by decide +kernel)⟩
  by_cases hb : 0 < b
  · refine ⟨b % m, ⟨a, b / m, c + 1⟩, ?_, Int.emod_nonneg _ (by omega), Int.emod_lt_of_pos _ hm, a0, a1, Int.ediv_nonneg b0 (by omega), by show 0 ≤ c + 1; omega, by show c + 1 ≤ n + 1; omega⟩
    simp [dipD, fnD, dipB, sSeq, sSetIx, eVar, eC, eOp, startE, ixD, hat, put_len, put_set, atI0, atI1, atI2, addD, setIxD, D.clean, ixN0, ixN1, ixN2, sIf, bBl, gtD, cmpD, hb, sPairSet, eCall, aCons, aNil, divmodD, hd, sRet, fin]
  · have e1 : mulOk a 69621 = true := mulOk_l a0 (by omega)
    have e2 : mulOk 31 (c + 1) = true := mulOk_l (by omega) (by omega)
    have e3 : mulOk (31 * (c + 1)) (c + 1) = true := mulOk_r (by omega) (by omega)
    have ea := Int.emod_nonneg (a * 69621 + 31 * (c + 1) * (c + 1) + 40503) (b := 2147483629) (by omega)
    have ea2 := Int.emod_lt_of_pos (a * 69621 + 31 * (c + 1) * (c + 1) + 40503) (b := 2147483629) (by omega)
    generalize hx : (a * 69621 + 31 * (c + 1) * (c + 1) + 40503) % 2147483629 = x at ea ea2
    have e4 : mulOk x (x % 30011 + 17) = true := mulOk_l ea (by omega)
    have p1 : ∀ i : Int, posR i 2147483629 = true := fun _ => rfl
    have p2 : ∀ i : Int, posR i 30011 = true := fun _ => rfl
    have p3 : ∀ i : Int, posR i 2147483587 = true := fun _ => rfl
    have p4 : ∀ i : Int, posR i m = true := fun _ => decide_eq_true hm
    have p5 : ∀ i : Int, divOk i 64 = true := fun _ => rfl
    refine ⟨(x * (x % 30011 + 17) % 2147483587) / 64 % m, ⟨x, b, c + 1⟩, ?_, Int.emod_nonneg _ (by omega), Int.emod_lt_of_pos _ hm, ea, ea2, b0, by show 0 ≤ c + 1; omega, by show c + 1 ≤ n + 1; omega⟩
    simp [dipD, fnD, dipB, sSeq, sSetIx, eVar, eC, eOp, startE, ixD, hat, put_len, put_set, atI0, atI1, atI2, addD, setIxD, D.clean, ixN0, ixN1, ixN2, sIf, bBl, gtD, cmpD, hb, eCall, aCons, aNil, sRet, fin, mulD, intCD, e1, e2, e3, e4, modD, p1, p2, p3, p4, p5, intOfD, hx, sAsg, fdivD, sNil]

theorem mulD_int {S : WS} {i j : Int} (h : mulOk i j = true) : mulD S (.int i) (.int j) = some (.int (i * j)) := if_pos h
theorem powD_int {S : WS} {i j : Int} (h : powOk i j = true) : powD S (.int i) (.int j) = some (.int (i ^ j.toNat)) := if_pos h
theorem modD_int {S : WS} {i j : Int} (h : 0 < j) : modD S (.int i) (.int j) = some (.int (i % j)) := if_pos (decide_eq_true h)
theorem fdivD_int {S : WS} {i j : Int} (h : divOk i j = true) : fdivD S (.int i) (.int j) = some (.int (i / j)) := if_pos h
theorem ltD_int {S : WS} {i j : Int} : ltD S (.int i) (.int j) = some (.bl (decide (i < j))) := rfl
theorem leD_int {S : WS} {i j : Int} : leD S (.int i) (.int j) = some (.bl (decide (i ≤ j))) := rfl
theorem gtD_int {S : WS} {i j : Int} : gtD S (.int i) (.int j) = some (.bl (decide (j < i))) := rfl
theorem geD_int {S : WS} {i j : Int} : geD S (.int i) (.int j) = some (.bl (decide (j ≤ i))) := rfl
theorem subD_int {S : WS} {i j : Int} : subD S (.int i) (.int j) = some (.int (i - j)) := rfl
theorem addD_int {S : WS} {i j : Int} : addD S (.int i) (.int j) = some (.int (i + j)) := rfl
theorem addD_str {S : WS} {a b : Str} (h : small (a.length + b.length) = true) : addD S (.str a) (.str b) = some (.str (a ++ b)) := if_pos h
theorem intOf_int {S : WS} {i : Int} : intOfD S [.int i] = some (.int i) := rfl
theorem absD_int {S : WS} {i : Int} : absD S [.int i] = some (.int (if i < 0 then -i else i)) := rfl
theorem eqD_int {S : WS} {i j : Int} : eqD S (.int i) (.int j) = some (.bl (decide (i = j))) := rfl
theorem eqD_str {S : WS} {i j : Str} : eqD S (.str i) (.str j) = some (.bl (decide (i = j))) := rfl
theorem neD_str {S : WS} {i j : Str} : neD S (.str i) (.str j) = some (.bl (!decide (i = j))) := rfl
theorem well_for {S : WS} {sc : Option D} {k : Option D} : ∀ (ns : List Int) (x : Int) (o : Option D), ∃ x' o', forD (tName 3) wellL (ns.map D.int) [sc, k, some (.int x), o] S = some (.nx [sc, k, some (.int x'), o'], S)
  | [], x, o => ⟨x, o, rfl⟩
  | i :: ns, x, o => by
    obtain ⟨x', o', h⟩ := well_for (S := S) (sc := sc) (k := k) ns ((x * 52711 + i) % 2147483629) (some (.int i))
    refine ⟨x', o', ?_⟩
    have e : mulOk x 52711 = true := mulOk_r (by omega) (by omega)
    have st : wellL [sc, k, some (.int x), some (.int i)] S = some (.nx [sc, k, some (.int ((x * 52711 + i) % 2147483629)), some (.int i)], S) := by
      simp [wellL, sAsg, eOp, eCall, intOf_int, aCons, aNil, addD_int, mulD_int e, eVar, eC, modD_int]
    simp only [List.map_cons, forD, tName, List.set, Option.bind_some, st]
    exact h
theorem well_ok {S : WS} {ns : List Int} {k : Int} (h0 : 0 ≤ k) (h1 : k < 1000000) : ∃ w : W, wellD [.scr ns, .int k] S = some ([.int w.a, .int w.b, .int w.c], S) ∧ Good 0 w := by
  have hp : ∀ i : Int, posR i 2147483629 = true := fun _ => rfl
  have hpw : powOk 10 18 = true := by decide +kernel
  have e1 : mulOk 90017 (k + 3) = true := mulOk_l (by omega) (by omega)
  have e2 : mulOk (90017 * (k + 3)) (k + 5) = true := mulOk_l (by omega) (by omega)
  have last : ∀ (x : Int) (o : Option D), ∃ w : W, wellE [some (.scr ns), some (.int k), some (.int x), o] S = some (.ret (.cell S.length), S ++ [w.d]) ∧ Good 0 w := by
    intro x o
    have he : ((10 : Int) ^ (18 : Int).toNat) = 1000000000000000000 := by decide +kernel
    by_cases hx : 1000000000000000000 ≤ (if x < 0 then -x else x)
    · refine ⟨⟨x % 2147483629, if x < 0 then -x else x, 0⟩, ?_, Int.emod_nonneg _ (by omega), Int.emod_lt_of_pos _ (by omega), by show 0 ≤ (if x < 0 then -x else x); split <;> omega, Int.le_refl _, Int.le_refl _⟩
      simp only [wellE, sRetN, nLst, aCons, aNil, eOp, eCall, intOf_int, eVar, eC, eIf, bBl, geD_int, absD_int, powD_int hpw, he, hx, W.d, Option.bind_some, Option.map_some, List.getElem?_cons_zero, List.getElem?_cons_succ, modD_int (show (0 : Int) < 2147483629 by decide), decide_true, if_true]
      rfl
    · refine ⟨⟨x % 2147483629, 0, 0⟩, ?_, Int.emod_nonneg _ (by omega), Int.emod_lt_of_pos _ (by omega), Int.le_refl _, Int.le_refl _, Int.le_refl _⟩
      simp only [wellE, sRetN, nLst, aCons, aNil, eOp, eCall, intOf_int, eVar, eC, eIf, bBl, geD_int, absD_int, powD_int hpw, he, hx, W.d, Option.bind_some, Option.map_some, List.getElem?_cons_zero, List.getElem?_cons_succ, modD_int (show (0 : Int) < 2147483629 by decide), decide_false, if_false, Bool.false_eq_true]
      rfl
  have hend : ∀ w : W, wellB [some (.scr ns), some (.int k), none, none] S = some (.ret (.cell S.length), S ++ [w.d]) → wellD [.scr ns, .int k] S = some ([.int w.a, .int w.b, .int w.c], S) := fun w h => by
    simp [wellD, fnN, startE, h, W.d]
  by_cases hk : k < ns.length
  · have ha : atI ns k = some (ns[k.toNat]'(by omega)) := by
      unfold atI ixN
      rw [if_pos h0, if_pos hk, Option.bind_some]
      exact List.getElem?_eq_getElem _
    obtain ⟨w, hw, gw⟩ := last (ns[k.toNat]'(by omega)) none
    have hnk : ¬ (ns.length : Int) ≤ k := by omega
    refine ⟨w, hend w ?_, gw⟩
    rw [← hw]
    simp [wellB, sSeq, sAsg, eIf, bBl, eOp, ltD_int, eVar, eCall, lenD, itemsD, aCons, aNil, hk, ixD, ha, sIf, geD_int, hnk, sNil]
  · obtain ⟨x', o', h2⟩ := well_for (S := S) (sc := some (.scr ns)) (k := some (.int k)) ns (90017 * (k + 3) * (k + 5)) none
    obtain ⟨w, hw, gw⟩ := last x' o'
    have hnk : (ns.length : Int) ≤ k := by omega
    refine ⟨w, hend w ?_, gw⟩
    rw [← hw]
    simp [wellB, sSeq, sAsg, eIf, bBl, eOp, ltD_int, eVar, eC, eCall, lenD, itemsD, aCons, aNil, hk, sIf, geD_int, hnk, sFor, iSeq, mulD_int e1, mulD_int e2, addD_int, h2]
/-! ### names -/
def letters : Str := "abcdefghijklmnopqrstuvwxyz"
def digits : Str := "0123456789"
def signs : Str := "abcdefghijklmnopqrstuvwxyz0123456789"
def isLt (c : Nat) : Bool := decide (c ∈ letters.cps.toList)
def isDg (c : Nat) : Bool := decide (c ∈ digits.cps.toList)
def nmL : List Nat → Bool
  | [] => false
  | c :: r => isLt c && (decide (r.length ≤ 7) && r.all fun x => isLt x || isDg x)
def Nm (s : Str) : Prop := nmL s.cps.toList = true
theorem signs_at {i : Nat} (h : i < 36) : ∃ c, signs.cps.toList[i]? = some c ∧ (isLt c || isDg c) = true ∧ (i < 26 → isLt c = true) := by
  have : ∀ i : Fin 36, (match signs.cps.toList[i.val]? with
    | some c => (isLt c || isDg c) && (decide (26 ≤ i.val) || isLt c)
    | none => false) = true := by decide +kernel
  have t := this ⟨i, h⟩
  simp only at t
  split at t
  · rename_i c e
    simp only [Bool.and_eq_true, Bool.or_eq_true, decide_eq_true_eq] at t
    exact ⟨c, e, by simpa using t.1, fun hi => by rcases t.2 with z | z; omega; exact z⟩
  · cases t
theorem signs_atI {r : Int} (h0 : 0 ≤ r) (h : r < 36) : ∃ c, atI signs.cps.toList r = some c ∧ (isLt c || isDg c) = true ∧ (r < 26 → isLt c = true) := by
  obtain ⟨c, e, h1, h2⟩ := signs_at (i := r.toNat) (by omega)
  refine ⟨c, ?_, h1, fun z => h2 (by omega)⟩
  unfold atI ixN
  rw [if_pos h0, if_pos (show r < ((signs.cps.toList.length : Nat) : Int) from h), Option.bind_some]
  exact e
theorem cat_cps (a b : Str) : (a ++ b).cps.toList = a.cps.toList ++ b.cps.toList := by
  show (a.cps ++ b.cps).toList = _
  simp
theorem len_cps (a : Str) : a.length = a.cps.toList.length := by
  show a.cps.size = _
  simp
theorem nm_len {s : Str} (h : Nm s) : 1 ≤ s.length ∧ s.length ≤ 8 := by
  rw [len_cps]
  unfold Nm nmL at h
  split at h
  · cases h
  · rename_i c r e
    simp only [Bool.and_eq_true, decide_eq_true_eq] at h
    rw [e]
    simp
    omega
theorem nm_snoc {s : Str} {c : Nat} (h : Nm s) (hl : s.length ≤ 7) (hc : (isLt c || isDg c) = true) : Nm (s ++ ⟨#[c]⟩) := by
  rw [len_cps] at hl
  unfold Nm at h ⊢
  rw [cat_cps]
  unfold nmL at h
  split at h
  · cases h
  · rename_i a r e
    rw [e] at hl ⊢
    simp only [Bool.and_eq_true, decide_eq_true_eq] at h
    simp only [List.length_cons] at hl
    show (isLt a && (decide ((r ++ [c]).length ≤ 7) && (r ++ [c]).all fun x => isLt x || isDg x)) = true
    simp only [Bool.and_eq_true, decide_eq_true_eq, List.length_append, List.length_singleton, List.all_append]
    refine ⟨h.1, by omega, h.2.2, by simpa using hc⟩
theorem nm_take {l : List Nat} (m : Nat) (h : nmL l = true) (hm : 0 < m) : nmL (l.take m) = true := by
  cases l with
  | nil => cases h
  | cons a r =>
    obtain ⟨m, rfl⟩ : ∃ j, m = j + 1 := ⟨m - 1, by omega⟩
    rw [List.take_succ_cons]
    simp only [nmL, Bool.and_eq_true, decide_eq_true_eq, List.all_eq_true] at h ⊢
    refine ⟨h.1, ?_, fun x hx => h.2.2 x (List.mem_of_mem_take hx)⟩
    rw [List.length_take]
    omega
theorem dip_eq {S : WS} {k : Nat} {ρ : Env} {m : Int} {r : Int} {w w' : W} (hρ : ρ[0]? = some (some (.cell k))) (e : dipD [.cell k, .int m] (put S k w) = some (.int r, put S k w')) : eFn 2 dipD [] (aCons (eVar 0) (aCons (eC (.int m)) (aNil))) ρ (put S k w) = some (.int r, put S k w') := by
  simp [eFn, aCons, eVar, hρ, eC, aNil, e]
theorem name_for {S : WS} {k : Nat} (hk : k < S.length) : ∀ (xs : List D) (s : Str) (o : Option D) (n : Int) (w : W), Nm s → s.length + xs.length ≤ 8 → Good n w → n + xs.length < 1000000000000000000 → ∃ s' o' w', Nm s' ∧ Good (n + xs.length) w' ∧
    forD (tName 3) nameL xs [some (.cell k), some (.str signs), some (.str s), o] (put S k w) = some (.nx [some (.cell k), some (.str signs), some (.str s'), o'], put S k w')
  | [], s, o, n, w, hs, hl, g, hn => ⟨s, o, w, hs, g.mono (by simp), rfl⟩
  | x :: xs, s, o, n, w, hs, hl, g, hn => by
    simp only [List.length_cons] at hl hn
    obtain ⟨r, w1, e1, r0, r1, g1⟩ := dip_ok hk g (by omega) (m := 36) (by omega) (by omega)
    obtain ⟨c, hc, hal, _⟩ := signs_atI r0 r1
    obtain ⟨s', o', w', hs', g', e'⟩ := name_for hk xs (s ++ ⟨#[c]⟩) (some x) (n + 1) w1 (nm_snoc hs (by omega) hal) (by rw [len_cps, cat_cps]; simp [len_cps] at hl ⊢; omega) g1 (by omega)
    refine ⟨s', o', w', hs', g'.mono (by simp; omega), ?_⟩
    have hsm : small (s.length + Str.length ⟨#[c]⟩) = true := decide_eq_true (by
      have : Str.length ⟨#[c]⟩ = 1 := rfl
      have := (nm_len hs).2
      omega)
    have hss : small signs.length = true := by decide +kernel
    have d := dip_eq (ρ := [some (.cell k), some (.str signs), some (.str s), some x]) rfl e1
    simp only [forD, tName, Option.bind_some, List.set, nameL, sAsg, eOp, d, eVar, List.getElem?_cons_zero, List.getElem?_cons_succ, ixD, hss, hc, if_true, Option.map_some, addD, hsm]
    exact e'
end RV
end
section
/-! Names out of wells. -/
namespace RV
open PySem L2
def words : List D := [.str "pipe", .str "meter", .str "sealed", .str "self", .str "net", .str "tell", .str "if", .str "a"]
theorem words_at {r : Int} (h0 : 0 ≤ r) (h : r < 8) : ∃ s, atI words r = some (.str s) ∧ Nm s := by
  have : r = 0 ∨ r = 1 ∨ r = 2 ∨ r = 3 ∨ r = 4 ∨ r = 5 ∨ r = 6 ∨ r = 7 := by omega
  rcases this with e | e | e | e | e | e | e | e <;> subst e <;> exact ⟨_, rfl, by unfold Nm; decide +kernel⟩
theorem nm_one {c : Nat} (h : isLt c = true) : Nm ⟨#[c]⟩ := by
  unfold Nm
  show (isLt c && (decide (([] : List Nat).length ≤ 7) && ([] : List Nat).all fun x => isLt x || isDg x)) = true
  rw [h]
  rfl
theorem name_ok {S : WS} {k : Nat} {n : Int} {w : W} (hk : k < S.length) (g : Good n w) (hn : n < 100000000000000000) :
    ∃ s w', nameD [.cell k] (put S k w) = some (.str s, put S k w') ∧ Nm s ∧ Good (n + 10) w' := by
  obtain ⟨r1, w1, e1, a1, b1, g1⟩ := dip_ok hk g (by omega) (m := 6) (by omega) (by omega)
  have d1 := dip_eq (ρ := [some (.cell k), none, none, none]) rfl e1
  by_cases hr : r1 = 0
  · obtain ⟨r2, w2, e2, a2, b2, g2⟩ := dip_ok hk g1 (by omega) (m := 8) (by omega) (by omega)
    have d2 := dip_eq (ρ := [some (.cell k), none, none, none]) rfl e2
    obtain ⟨s, hs, ns⟩ := words_at a2 b2
    refine ⟨s, w2, ?_, ns, g2.mono (by omega)⟩
    have tb : ∀ (ρ : Env) (S : WS), eSeq .lst (aCons (eC (.str "pipe")) (aCons (eC (.str "meter")) (aCons (eC (.str "sealed")) (aCons (eC (.str "self")) (aCons (eC (.str "net")) (aCons (eC (.str "tell")) (aCons (eC (.str "if")) (aCons (eC (.str "a")) (aNil))))))))) ρ S = some (.lst words, S) := fun _ _ => rfl
    have st : startE 4 [D.cell k] = [some (.cell k), none, none, none] := rfl
    have tt : decide True = true := rfl
    simp only [nameD, fnD, st, nameB, sSeq, sIf, bBl, eOp, d1, Option.bind_some, eC, eqD_int, hr, Option.map_some, if_true, tt, sRet, tb, d2, ixD, hs]
    exact fin_same (by simp [put_len])
  · obtain ⟨r2, w2, e2, a2, b2, g2⟩ := dip_ok hk g1 (by omega) (m := 26) (by omega) (by omega)
    have d2 := dip_eq (ρ := [some (.cell k), some (.str signs), none, none]) rfl e2
    obtain ⟨c, hc, _, hl⟩ := signs_atI a2 (by omega)
    obtain ⟨r3, w3, e3, a3, b3, g3⟩ := dip_ok hk g2 (by omega) (m := 8) (by omega) (by omega)
    have d3 := dip_eq (ρ := [some (.cell k), some (.str signs), some (.str ⟨#[c]⟩), none]) rfl e3
    have hlen : ((List.range r3.toNat).map fun (i : Nat) => D.int (0 + (i : Int))).length = r3.toNat := by simp
    obtain ⟨s, o, w4, ns, g4, e4⟩ := name_for hk ((List.range r3.toNat).map fun (i : Nat) => D.int (0 + (i : Int))) ⟨#[c]⟩ none (n + 1 + 1 + 1) w3 (nm_one (hl b2)) (by rw [hlen]; show 1 + r3.toNat ≤ 8; omega) g3 (by rw [hlen]; omega)
    refine ⟨s, w4, ?_, ns, g4.mono (by rw [hlen]; omega)⟩
    have st : startE 4 [D.cell k] = [some (.cell k), none, none, none] := rfl
    have hss : small signs.length = true := by decide +kernel
    have hrg : -(2 ^ 62) ≤ r3 ∧ r3 < 2 ^ 62 := ⟨by omega, by omega⟩
    have sg : ("abcdefghijklmnopqrstuvwxyz0123456789" : Str) = signs := rfl
    have ff : ∀ S : WS, sIf (bBl (fun _ _ => some (D.bl false, S))) (fun _ _ => none) (sNil) [some (.cell k), none, none, none] S = some (.nx [some (.cell k), none, none, none], S) := fun _ => rfl
    simp only [nameD, fnD, st, nameB, sg, sSeq, sIf, bBl, eOp, d1, Option.bind_some, eC, eqD_int, hr, Option.map_some, decide_false, Bool.false_eq_true, if_false, sNil, sAsg, List.set, eVar, List.getElem?_cons_zero, List.getElem?_cons_succ, d2, ixD, hss, if_true, hc, sFor, iRange1, aCons, aNil, d3, hrg, and_self, e4, sRet]
    exact fin_same (by simp [put_len])
end RV
end
section
/-! Fresh names. -/
namespace RV
open PySem L2
theorem lc_pure {f : D → Env → Option Env} {mc : Env → MB} {me : Env → M} {ρ : Env} {S : WS} {p : D → Bool} {g : D → D} : ∀ xs : List D, (∀ x ∈ xs, ∃ ρ1, f x ρ = some ρ1 ∧ mc ρ1 S = some (p x, S) ∧ (p x = true → me ρ1 S = some (g x, S))) → lcD f mc me ρ xs S = some ((xs.filter p).map g, S)
  | [], _ => rfl
  | x :: xs, h => by
    obtain ⟨ρ1, h1, h2, h3⟩ := h x (List.mem_cons_self ..)
    have ih := lc_pure xs fun y hy => h y (List.mem_cons_of_mem _ hy)
    simp only [lcD, h1, Option.bind_some, h2]
    by_cases hp : p x = true
    · simp only [hp, if_true, h3 hp, Option.bind_some, ih, Option.map_some, List.filter_cons_of_pos, List.map_cons]
    · simp only [hp, if_false, ih, List.filter_cons_of_neg, Bool.false_eq_true, not_false_eq_true]
theorem isAl_lt {c : Nat} (h : (isLt c || isDg c) = true) : c < 128 := by
  simp only [Bool.or_eq_true, isLt, isDg, decide_eq_true_eq] at h
  have h1 : ∀ c ∈ letters.cps.toList, c < 128 := by decide +kernel
  have h2 : ∀ c ∈ digits.cps.toList, c < 128 := by decide +kernel
  rcases h with h | h
  · exact h1 c h
  · exact h2 c h
theorem nm_all {s : Str} (h : Nm s) : ∀ c ∈ s.cps.toList, (isLt c || isDg c) = true := by
  unfold Nm nmL at h
  split at h
  · cases h
  · rename_i a r e
    rw [e]
    simp only [Bool.and_eq_true, decide_eq_true_eq, List.all_eq_true] at h
    intro c hc
    rcases List.mem_cons.mp hc with z | z
    · subst z
      rw [h.1]
      rfl
    · exact h.2.2 c z
theorem nm_strOk {s : Str} (h : Nm s) : PyData.strOk s = true := by
  unfold PyData.strOk
  rw [← Array.all_toList, List.all_eq_true]
  intro c hc
  exact decide_eq_true (Nat.lt_trans (isAl_lt (nm_all h c hc)) (by decide))
theorem nm_small {s : Str} (h : Nm s) : small s.length = true := decide_eq_true (by have := (nm_len h).2; omega)
theorem pyL_str : ∀ ts : List Str, D.pyL (ts.map D.str) = some (ts.map PyData.str)
  | [] => rfl
  | t :: ts => by simp [D.pyL, D.py, pyL_str ts]
theorem lay_strs : ∀ ts : List Str, (∀ t ∈ ts, PyData.strOk t = true) → PyData.canLayAll0 (ts.map PyData.str) = true
  | [], _ => rfl
  | t :: ts, h => by simp [PyData.canLayAll0, PyData.canLay0, h t (List.mem_cons_self ..), lay_strs ts fun u hu => h u (List.mem_cons_of_mem _ hu)]
theorem depth_strs : ∀ ts : List Str, PyData.depthAll (ts.map PyData.str) = 0
  | [] => rfl
  | t :: ts => by simp [PyData.depthAll, PyData.depth, depth_strs ts]
theorem shaped_strs {ts : List Str} (h : ∀ t ∈ ts, PyData.strOk t = true) : SeqAt.shaped (.list (ts.map PyData.str)) = true := by
  simp [SeqAt.shaped, PyData.canLay0, lay_strs ts h, PyData.depth, depth_strs]
theorem ne_nil {S : WS} {ts : List Str} (h : ∀ t ∈ ts, PyData.strOk t = true) : neD S (.lst (ts.map D.str)) (.lst []) = some (.bl (!ts.isEmpty)) := by
  have h2 : SeqAt.shaped (.list []) = true := rfl
  unfold neD eqAny eqPy
  simp only [eqScal, D.py, pyL_str, D.pyL, Option.map_some, Option.bind_some, shaped_strs h, h2, and_self, if_true, Option.orElse]
  cases ts <;> rfl
theorem notIn_strs {S : WS} {t : Str} {ts : List Str} : inD true S (.str t) (.lst (ts.map D.str)) = some (.bl (decide (t ∉ ts))) := by
  have h1 : (ts.map D.str).all flatD = true := by
    rw [List.all_eq_true]
    intro x hx
    obtain ⟨u, _, rfl⟩ := List.mem_map.mp hx
    rfl
  have h2 : ((ts.map D.str).any fun y => eqFl y (.str t)) = decide (t ∈ ts) := by
    rw [Bool.eq_iff_iff, List.any_eq_true, decide_eq_true_eq]
    constructor
    · rintro ⟨x, hx, e⟩
      obtain ⟨u, hu, rfl⟩ := List.mem_map.mp hx
      have : u = t := eq_of_beq (show (u == t) = true from e)
      exact this ▸ hu
    · exact fun h => ⟨.str t, List.mem_map.mpr ⟨t, h, rfl⟩, (beq_self_eq_true t : (t == t) = true)⟩
  simp only [inD, itemsD, Option.bind_some, flatD, h1, and_self, if_true, h2]
  simp
theorem cut_to {z : Str} {m : Nat} : (cutS z none (some (m : Int))).cps.toList = z.cps.toList.take m := by
  unfold cutS
  rw [HT.sIx_none, HT.sIx_nat]
  simp only [List.drop_zero, Nat.sub_zero, len_cps]
  rw [List.take_eq_take_iff]
  simp
theorem nm_cut {z : Str} {m : Nat} (h : nmL (z.cps.toList.take m) = true) : Nm (cutS z none (some (m : Int))) := by
  unfold Nm
  rw [cut_to]
  exact h
theorem nm_cat8 {s t : Str} (hs : Nm s) (ht : Nm t) : Nm (cutS (s ++ t) none (some (8 : Int))) := by
  refine nm_cut (m := 8) ?_
  rw [cat_cps]
  have ha := nm_all ht
  unfold Nm nmL at hs
  split at hs
  · cases hs
  · rename_i a r e
    rw [e]
    simp only [Bool.and_eq_true, decide_eq_true_eq, List.all_eq_true] at hs
    show nmL ((a :: (r ++ t.cps.toList)).take 8) = true
    rw [List.take_succ_cons]
    simp only [nmL, Bool.and_eq_true, decide_eq_true_eq, List.all_eq_true]
    refine ⟨hs.1, by rw [List.length_take]; omega, fun x hx => ?_⟩
    rcases List.mem_append.mp (List.mem_of_mem_take hx) with z | z
    · exact hs.2.2 x z
    · exact ha x z
theorem nodup_le {α : Type} [DecidableEq α] : ∀ (l ts : List α), l.Nodup → (∀ x ∈ l, x ∈ ts) → l.length ≤ ts.length
  | [], _, _, _ => Nat.zero_le _
  | x :: l, ts, hn, h => by
    have hx := h x (List.mem_cons_self ..)
    have hn2 := List.nodup_cons.mp hn
    have := nodup_le l (ts.erase x) hn2.2 fun y hy => (List.mem_erase_of_ne (fun e : y = x => hn2.1 (e ▸ hy))).mpr (h y (List.mem_cons_of_mem _ hy))
    rw [List.length_erase_of_mem hx] at this
    have : 0 < ts.length := List.length_pos_of_mem hx
    simp only [List.length_cons]
    omega
/-- title[:7] and a sign -/
def alt (t : Str) (c : Nat) : Str := cutS t none (some (7 : Int)) ++ ⟨#[c]⟩
theorem alt_inj {t : Str} {c d : Nat} (h : alt t c = alt t d) : c = d := by
  have e : (alt t c).cps.toList = (alt t d).cps.toList := by rw [h]
  unfold alt at e
  rw [cat_cps, cat_cps] at e
  have := List.append_cancel_left e
  simpa using this
theorem nm_alt {t : Str} {c : Nat} (h : Nm t) (hc : (isLt c || isDg c) = true) : Nm (alt t c) := by
  refine nm_snoc (nm_cut (m := 7) (nm_take 7 h (by decide))) ?_ hc
  rw [len_cps, show cutS t none (some (7 : Int)) = cutS t none (some ((7 : Nat) : Int)) from rfl, cut_to, List.length_take]
  omega
theorem signs_all : ∀ c ∈ signs.cps.toList, (isLt c || isDg c) = true := by decide +kernel
theorem signs_nodup : signs.cps.toList.Nodup := by decide +kernel
/-- the first of them that is not taken -/
theorem alt_first {t : Str} {ts : List Str} (ht : Nm t) (hl : ts.length < 36) : ∃ c l, (isLt c || isDg c) = true ∧ alt t c ∉ ts ∧ (signs.cps.toList.map (alt t)).filter (fun z => decide (z ∉ ts)) = alt t c :: l := by
  cases e : (signs.cps.toList.map (alt t)).filter (fun z => decide (z ∉ ts)) with
  | nil =>
    exfalso
    rw [List.filter_eq_nil_iff] at e
    have nd : (signs.cps.toList.map (alt t)).Nodup := List.Pairwise.map _ (fun a b h e => h (alt_inj e)) signs_nodup
    have := nodup_le _ ts nd fun x hx => by simpa using e x hx
    rw [List.length_map] at this
    have : signs.cps.toList.length = 36 := by decide +kernel
    omega
  | cons z l =>
    have hm : z ∈ (signs.cps.toList.map (alt t)).filter (fun z => decide (z ∉ ts)) := by rw [e]; exact List.mem_cons_self ..
    obtain ⟨hm, hz⟩ := List.mem_filter.mp hm
    obtain ⟨c, hc, rfl⟩ := List.mem_map.mp hm
    exact ⟨c, l, signs_all c hc, of_decide_eq_true hz, rfl⟩
end RV
end
section
/-! The name that nobody has. -/
namespace RV
open PySem L2
theorem strs_at {ts : List Str} {r : Int} (h0 : 0 ≤ r) (h : r < ts.length) : ∃ t, atI (ts.map D.str) r = some (.str t) ∧ t ∈ ts := by
  refine ⟨ts[r.toNat]'(by omega), ?_, List.getElem_mem _⟩
  unfold atI ixN
  rw [if_pos h0, if_pos (by rw [List.length_map]; exact h), Option.bind_some, List.getElem?_map, List.getElem?_eq_getElem (by omega)]
  rfl
theorem freshM_ok {S : WS} {k : Nat} {n r : Int} {w : W} {t : Str} {ts : List Str} (hk : k < S.length) (g : Good n w) (hn : n < 100000000000000000) (ht : Nm t) (hts : ∀ t ∈ ts, Nm t) (hl : ts.length < 36) (r0 : 0 ≤ r) :
    ∃ t' o w', freshM [some (.cell k), some (.lst (ts.map D.str)), some (.int r), some (.str t), none, none, none, none] (put S k w) = some (.nx [some (.cell k), some (.lst (ts.map D.str)), some (.int r), some (.str t'), o, none, none, none], put S k w') ∧ Nm t' ∧ Good (n + 2) w' := by
  have hne : ∀ S, neD S (.lst (ts.map D.str)) (.lst []) = some (.bl (!ts.isEmpty)) := fun S => ne_nil fun t h => nm_strOk (hts t h)
  have s0 : small ([] : List D).length = true := rfl
  have tt : decide True = true := rfl
  by_cases hc : ts.isEmpty = false ∧ r < 2
  · obtain ⟨c1, c2⟩ := hc
    have hpos : 0 < ts.length := by
      cases ts with
      | nil => cases c1
      | cons => simp
    obtain ⟨i, w1, e1, i0, i1, g1⟩ := dip_ok hk g (by omega) (m := (ts.length : Int)) (by omega) (by omega)
    obtain ⟨u, hu, mu⟩ := strs_at i0 i1
    have nu := hts u mu
    have d1 : ∀ ρ : Env, ρ[0]? = some (some (.cell k)) → ρ[1]? = some (some (.lst (ts.map D.str))) → eFn 2 dipD [] (aCons (eVar 0) (aCons (eCall lenD (aCons (eVar 1) (aNil))) (aNil))) ρ (put S k w) = some (.int i, put S k w1) := fun ρ h1 h2 => by
      simp [eFn, aCons, eVar, h1, h2, eCall, lenD, itemsD, aNil, e1]
    by_cases hr : r = 0
    · subst hr
      have hsm : small (u.length + t.length) = true := decide_eq_true (by have := (nm_len nu).2; have := (nm_len ht).2; omega)
      have hsm2 : small (u ++ t).length = true := by
        rw [len_cps, cat_cps, List.length_append, ← len_cps, ← len_cps]
        exact hsm
      refine ⟨cutS (u ++ t) none (some 8), some (.str u), w1, ?_, nm_cat8 nu ht, g1.mono (by omega)⟩
      simp only [freshM, sIf, bAnd, bBl, eOp, eVar, List.getElem?_cons_zero, List.getElem?_cons_succ, Option.bind_some, eSeq, aNil, s0, if_true, hne, c1, Bool.not_false, Option.map_some, eC, ltD_int, show decide ((0 : Int) < 2) = true from rfl, sSeq, sAsg, d1, ixD, hu, List.set, eIf, eqD_int, tt, eSl, addD_str hsm, oNone, oSome, slD, hsm2]
    · obtain ⟨j, w2, e2, j0, j1, g2⟩ := dip_ok hk g1 (by omega) (m := 7) (by omega) (by omega)
      have hsm : small u.length = true := nm_small nu
      have d2 := dip_eq (ρ := [some (.cell k), some (.lst (ts.map D.str)), some (.int r), some (.str t), some (.str u), none, none, none]) rfl e2
      have hj : (1 + j) = (((1 + j).toNat : Nat) : Int) := by omega
      refine ⟨cutS u none (some (1 + j)), some (.str u), w2, ?_, ?_, g2.mono (by omega)⟩
      · simp only [freshM, sIf, bAnd, bBl, eOp, eVar, List.getElem?_cons_zero, List.getElem?_cons_succ, Option.bind_some, eSeq, aNil, s0, if_true, hne, c1, Bool.not_false, Option.map_some, eC, ltD_int, c2, tt, decide_true, sSeq, sAsg, d1, ixD, hu, List.set, eIf, eqD_int, hr, decide_false, Bool.false_eq_true, if_false, eSl, oNone, oSome, d2, addD_int, slD, hsm]
      · rw [hj]
        exact nm_cut (nm_take _ nu (by omega))
  · refine ⟨t, none, w, ?_, ht, g.mono (by omega)⟩
    by_cases c1 : ts.isEmpty = true
    · simp only [freshM, sIf, bAnd, bBl, eOp, eVar, List.getElem?_cons_zero, List.getElem?_cons_succ, Option.bind_some, eSeq, aNil, s0, if_true, hne, c1, Bool.not_true, Option.map_some, Bool.false_eq_true, if_false, sNil]
    · have c1' : ts.isEmpty = false := by simpa using c1
      have c2 : ¬ r < 2 := fun z => hc ⟨c1', z⟩
      simp only [freshM, sIf, bAnd, bBl, eOp, eVar, List.getElem?_cons_zero, List.getElem?_cons_succ, Option.bind_some, eSeq, aNil, s0, if_true, hne, c1', Bool.not_false, Option.map_some, eC, ltD_int, c2, decide_false, Bool.false_eq_true, if_false, sNil]
theorem freshT_ok {S : WS} {t : Str} {ts : List Str} {c r o : Option D} (ht : Nm t) (hl : ts.length < 36) : ∃ s, freshT [c, some (.lst (ts.map D.str)), r, some (.str t), o, none, none, none] S = some (.ret (.str s), S) ∧ Nm s ∧ s ∉ ts := by
  by_cases hin : t ∈ ts
  · obtain ⟨z, l, hz, hn, e⟩ := alt_first ht hl
    refine ⟨alt t z, ?_, nm_alt ht hz, hn⟩
    have hd : decide (t ∉ ts) = false := by simp [hin]
    have h36 : small (signs.cps.toList.map fun c => D.str ⟨#[c]⟩).length = true := by decide +kernel
    have sg : ("abcdefghijklmnopqrstuvwxyz0123456789" : Str) = signs := rfl
    have hst : small t.length = true := nm_small ht
    have lc1 : lcD (tName 6) bYes (eOp addD (eSl slD (eVar 3) (oNone) (oSome (eC (.int 7)))) (eVar 6)) (wipeE [c, some (.lst (ts.map D.str)), r, some (.str t), o, none, none, none] [6]) (signs.cps.toList.map fun c => D.str ⟨#[c]⟩) S = some ((signs.cps.toList.map fun c => D.str (alt t c)), S) := by
      rw [lc_pure (p := fun _ => true) (g := fun x => match x with | .str y => .str (cutS t none (some 7) ++ y) | y => y)]
      · rw [List.filter_eq_self.mpr (fun _ _ => rfl), List.map_map]
        rfl
      · intro x hx
        obtain ⟨q, hq, rfl⟩ := List.mem_map.mp hx
        refine ⟨_, rfl, rfl, fun _ => ?_⟩
        have hsm : small ((cutS t none (some 7)).length + Str.length ⟨#[q]⟩) = true := decide_eq_true (by
          have : Str.length ⟨#[q]⟩ = 1 := rfl
          have h7 : (cutS t none (some (7 : Int))).length ≤ 7 := by
            rw [len_cps, show cutS t none (some (7 : Int)) = cutS t none (some ((7 : Nat) : Int)) from rfl, cut_to, List.length_take]
            omega
          omega)
        simp only [wipeE, List.set, eOp, eSl, eVar, List.getElem?_cons_zero, List.getElem?_cons_succ, Option.bind_some, oNone, oSome, eC, slD, hst, if_true, Option.map_some, addD_str hsm]
    have hl2 : small (signs.cps.toList.map fun c => D.str (alt t c)).length = true := by
      rw [List.length_map]
      decide +kernel
    have lc2 : lcD (tName 7) (bBl (eOp (inD true) (eVar 7) (eVar 1))) (eVar 7) (wipeE [c, some (.lst (ts.map D.str)), r, some (.str t), o, some (.lst (signs.cps.toList.map fun c => D.str (alt t c))), none, none] [7]) (signs.cps.toList.map fun c => D.str (alt t c)) S = some (D.str (alt t z) :: l.map D.str, S) := by
      rw [lc_pure (p := fun x => match x with | .str y => decide (y ∉ ts) | _ => false) (g := fun x => x)]
      · have e2 : (signs.cps.toList.map fun c => D.str (alt t c)) = (signs.cps.toList.map (alt t)).map D.str := by simp
        rw [e2, List.filter_map]
        have e3 : ((fun x : D => match x with | .str y => decide (y ∉ ts) | _ => false) ∘ D.str) = fun z => decide (z ∉ ts) := rfl
        rw [e3, e]
        simp
      · intro x hx
        obtain ⟨q, hq, rfl⟩ := List.mem_map.mp hx
        refine ⟨_, rfl, ?_, fun _ => rfl⟩
        simp only [wipeE, List.set, bBl, eOp, eVar, List.getElem?_cons_zero, List.getElem?_cons_succ, Option.bind_some, notIn_strs, Option.map_some]
    have a0 : ∀ (x : D) (l : List D), atI (x :: l) 0 = some x := fun x l => by
      unfold atI ixN
      simp
    simp only [freshT, sSeq, sIf, bBl, eOp, eVar, List.getElem?_cons_zero, List.getElem?_cons_succ, Option.bind_some, notIn_strs, hd, Option.map_some, Bool.false_eq_true, if_false, sNil, sAsg, eLc, iStrD, eC, sg, h36, if_true, lc1, List.set, iSeq, hl2, lc2, sRet, ixD, a0]
  · refine ⟨t, ?_, ht, hin⟩
    have hd : decide (t ∉ ts) = true := decide_eq_true hin
    simp only [freshT, sSeq, sIf, bBl, eOp, eVar, List.getElem?_cons_zero, List.getElem?_cons_succ, Option.bind_some, notIn_strs, hd, Option.map_some, if_true, sRet]
theorem fresh_ok {S : WS} {k : Nat} {n : Int} {w : W} {ts : List Str} (hk : k < S.length) (g : Good n w) (hn : n < 10000000000000000) (hts : ∀ t ∈ ts, Nm t) (hl : ts.length < 36) :
    ∃ s w', freshD [.cell k, .lst (ts.map D.str)] (put S k w) = some (.str s, put S k w') ∧ Nm s ∧ s ∉ ts ∧ Good (n + 13) w' := by
  obtain ⟨r, w1, e1, r0, r1, g1⟩ := dip_ok hk g (by omega) (m := 4) (by omega) (by omega)
  obtain ⟨t, w2, e2, nt, g2⟩ := name_ok hk g1 (by omega)
  obtain ⟨t', o, w3, e3, nt', g3⟩ := freshM_ok hk g2 (by omega) nt hts hl r0
  obtain ⟨s, e4, ns, hs⟩ := freshT_ok (S := put S k w3) (c := some (.cell k)) (r := some (.int r)) (o := o) nt' hl
  refine ⟨s, w3, ?_, ns, hs, g3.mono (by omega)⟩
  have st : startE 8 [D.cell k, .lst (ts.map D.str)] = [some (.cell k), some (.lst (ts.map D.str)), none, none, none, none, none, none] := rfl
  have d1 := dip_eq (ρ := [some (.cell k), some (.lst (ts.map D.str)), none, none, none, none, none, none]) rfl e1
  have d2 : ∀ ρ : Env, ρ[0]? = some (some (.cell k)) → eFn 1 nameD [] (aCons (eVar 0) (aNil)) ρ (put S k w1) = some (.str t, put S k w2) := fun ρ h => by
    simp [eFn, aCons, eVar, h, aNil, e2]
  have s2 : small [D.int r, .str t].length = true := rfl
  have c0 : ([some (.cell k), some (.lst (ts.map D.str)), none, none, none, none, none, none] : Env)[0]? = some (some (.cell k)) := rfl
  simp only [freshD, fnD, st, freshB, sSeq, sAsgG, eSeq, aCons, d1, Option.bind_some, d2 _ c0, aNil, Option.map_some, s2, show small 2 = true from rfl, if_true, tTupD, show [D.int r, .str t].length = 2 from rfl, tsCons, tName, tsNil, List.set, e3, e4]
  rw [fin_same]
  rw [put_len, put_len]
end RV
end
section
namespace K9
open PySem L2 RV
def top (i : Nat) : Stmt := PySem.Challenge.pw_ringvotes_k09_pipes_and_meters.main.body.getD i (.Pass ⟨0, 0, 0, 0⟩)
structure Ad where
  Pipe : Addr
  Meter : Addr
def AdOk (A : Ad) : Prop := ([A.Pipe, A.Meter] : List Addr).Nodup
def own (A : Ad) (C : Addr) : Bool := C == A.Pipe || C == A.Meter
def kinds (A : Ad) : List Value := [.type "NoneType", .type "bool", .type "int", .type "str", .type "tuple", .type "list", .ref A.Pipe, .ref A.Meter]
def clss (A : Ad) : List Value := [.type "bool", .type "str", .ref A.Pipe, .ref A.Meter]
def sub (A : Ad) (t u : Value) : Bool := decide (t = u)
def tab (A : Ad) : Value → Value → Option Bool := tabD (kinds A) (clss A) (sub A)
def nf (A : Ad) : Value → Bool := nfD (kinds A)
def g_mk_Meter_0_at_sealed_name : List D → List D → List D := perm [2, 0, 1]
def g_mk_Meter_2_sealed : List D → List D → List D := perm [0]
def g_mk_Pipe_0_end_start_name : List D → List D → List D := perm [2, 1, 0]
structure Txt (K : PySem.W.Frag) (mg : Str → Option Value) (A : Ad) : Prop where
  n_abs : mg "abs" = none
  n_all : mg "all" = none
  n_any : mg "any" = none
  n_bool : mg "bool" = none
  n_divmod : mg "divmod" = none
  n_int : mg "int" = none
  n_isinstance : mg "isinstance" = none
  n_len : mg "len" = none
  n_max : mg "max" = none
  n_min : mg "min" = none
  n_range : mg "range" = none
  n_repr : mg "repr" = none
  n_str : mg "str" = none
  g_DIGITS : ∃ t, mg "DIGITS" = some (.str "0123456789" t)
  g_LETTERS : ∃ t, mg "LETTERS" = some (.str "abcdefghijklmnopqrstuvwxyz" t)
  g_LONGEST_NAME : ∃ t, mg "LONGEST_NAME" = some (.int 8 t)
  m_Pipe : mg "Pipe" = some (.ref A.Pipe)
  m_Meter : mg "Meter" = some (.ref A.Meter)
  k_Pipe : KindC K A.Pipe
  k_Meter : KindC K A.Meter
  no_Meter_kept : NoAttr K A.Meter "kept"
  no_Pipe_kept : NoAttr K A.Pipe "kept"
  tb_Pipe : PySem.W.findIn K (.ref A.Pipe) "__bool__" = some none
  tl_Pipe : PySem.W.findIn K (.ref A.Pipe) "__len__" = some none
  tb_Meter : PySem.W.findIn K (.ref A.Meter) "__bool__" = some none
  tl_Meter : PySem.W.findIn K (.ref A.Meter) "__len__" = some none
  kit : ∀ t u b, tab A t u = some b → PySem.W.kitOne K t u = some b
  nf_Pipe : ∀ t, nf A t = true → PySem.W.notFirst K A.Pipe t = true
  nf_Meter : ∀ t, nf A t = true → PySem.W.notFirst K A.Meter t = true
theorem Txt.own {K : PySem.W.Frag} {mg : Str → Option Value} {A : Ad} (T : Txt K mg A) (C : Addr) (h : K9.own A C = true) : KindC K C := by
  unfold K9.own at h
  simp only [Bool.or_eq_true, beq_iff_eq] at h
  rcases h with h | h
  · exact h ▸ T.k_Pipe
  · exact h ▸ T.k_Meter
/-! ### is_name -/
abbrev s_is_name : Stmt := top 9
theorem sc_is_name : FnScope ["value", "sign"] ["value"] (defScope s_is_name) := ⟨rfl, rfl, rfl, by decide +kernel, rfl, by decide +kernel, by decide +kernel⟩
def B_is_name (A : Ad) : RV.Env → MS := sSeq (sIf (bOr (bNot (bTru truD (eCall (isiD (own A) (tab A)) (aCons (eVar 0) (aCons (eC (.ty "str")) (aNil)))))) (bOr (bNot (bChain leD leD (eC (.int 1)) (eCall lenD (aCons (eVar 0) (aNil))) (eC (.int 8)))) (bBl (eOp (inSD true) (eOp ixD (eVar 0) (eC (.int 0))) (eC (.str "abcdefghijklmnopqrstuvwxyz")))))) (sRet (eC (.bl false))) (sNil)) (sRet (eCall allD (aCons (eLc (iStrD (eVar 0)) (tName 1) (bYes) (eOr (eOp (inSD false) (eVar 1) (eC (.str "abcdefghijklmnopqrstuvwxyz"))) (eOp (inSD false) (eVar 1) (eC (.str "0123456789")))) [1]) (aNil))))
def G_is_name (A : Ad) : List D → M := fnD 2 (B_is_name A)
theorem ok_is_name {P : Program} {w : World} {K : PySem.W.Frag} {mg : Str → Option Value} {base : Heap} {A : Ad} {f : Addr} {fd : FuncData} (T : Txt K mg A) (F : FunD K "is_name" "is_name" (defArgs s_is_name) (defBody s_is_name) (defScope s_is_name) [] [] f fd)  :
    FnOk P w K mg base CX0 1 f fd ["value"] (spG K 1 (G_is_name A)) := by
  refine fn_G F sc_is_name (fun cdv Ar outer s H E hr => ?_)
  exact gss_cons (gs_if ((gw_or (gt_not (gt_tru tru_ok rt_tru (ge_callB call_isi (rc_isi T.own T.kit) T.n_isinstance (by decide +kernel) (ga_cons (ge_var 0) (ga_cons (ge_ty T.n_str (by decide +kernel)) (ga_nil)))))) (gw_or (gt_not (gt_chain op_le op_le ro_le ro_le (ge_int) (ge_callB call_len rc_len T.n_len (by decide +kernel) (ga_cons (ge_var 0) (ga_nil))) (ge_gint T.g_LONGEST_NAME))) (gw_or1 (gt_cmp op_notIn_sign ro_notInS (ge_ix ix_seq ro_ix (ge_var 0) (ge_int)) (ge_gstr T.g_LETTERS) (by rfl))))).gt) (gss_one (gs_ret (ge_bl))) (gss_nil))
    (gss_one (gs_ret (ge_callB (cr_all rfl) rc_all T.n_all (by decide +kernel) (ga_cons (ge_lc (own := [("sign", 1)]) rfl sc_is_name.nd (gi_str (ge_var 0)) (blkOk_by (by rfl)) (fun _ _ _ _ _ => gg_name 1 sc_is_name.nd) (fun _ _ _ _ _ => gts_nil) (fun _ _ _ _ _ => ge_or (ge_cmp op_in_sign ro_inS (ge_var 1) (ge_gstr T.g_LETTERS) (by rfl)) (ge_one (ge_cmp op_in_sign ro_inS (ge_var 1) (ge_gstr T.g_DIGITS) (by rfl))))) (ga_nil)))))
/-! ### check_name -/
abbrev s_check_name : Stmt := top 10
theorem sc_check_name : FnScope ["value"] ["value"] (defScope s_check_name) := ⟨rfl, rfl, rfl, by decide +kernel, rfl, by decide +kernel, by decide +kernel⟩
def B_check_name (A : Ad) : RV.Env → MS := sIf (bNot (bTru truD (eFn 1 (G_is_name A) [] (aCons (eVar 0) (aNil))))) (sNever) (sNil)
def G_check_name (A : Ad) : List D → M := fnD 1 (B_check_name A)
theorem ok_check_name {P : Program} {w : World} {K : PySem.W.Frag} {mg : Str → Option Value} {base : Heap} {A : Ad} {f : Addr} {fd : FuncData} (T : Txt K mg A) (F : FunD K "check_name" "check_name" (defArgs s_check_name) (defBody s_check_name) (defScope s_check_name) [] [] f fd) (c_is_name : Fc P w K mg base "is_name" 1 1 (G_is_name A)) :
    FnOk P w K mg base CX0 2 f fd ["value"] (spG K 1 (G_check_name A)) := by
  refine fn_G F sc_check_name (fun cdv Ar outer s H E hr => ?_)
  exact gss_one (gs_if (gt_not (gt_tru tru_ok rt_tru (ge_callF c_is_name hr (ga_cons (ge_var 0) (ga_nil))))) (gss_one (gs_never)) (gss_nil))
/-! ### Pipe.__init__ -/
abbrev s_Pipe_init : Stmt := inClass (top 12) 0
theorem sc_Pipe_init : FnScope ["self", "name", "start", "end"] ["self", "name", "start", "end"] (defScope s_Pipe_init) := ⟨rfl, rfl, rfl, by decide +kernel, rfl, by decide +kernel, by decide +kernel⟩
def B_Pipe_init (A : Ad) : RV.Env → MS := sSeq (sDrop (eFn 1 (G_check_name A) [] (aCons (eVar 1) (aNil)))) (sSeq (sDrop (eFn 1 (G_check_name A) [] (aCons (eVar 2) (aNil)))) (sSeq (sDrop (eFn 1 (G_check_name A) [] (aCons (eVar 3) (aNil)))) (sSeq (sIf (bBl (eOp eqD (eVar 3) (eVar 2))) (sNever) (sNil)) (sFldD A.Pipe "kept" (eVar 0) (eSeq .tup (aCons (eVar 1) (aCons (eVar 2) (aCons (eVar 3) (aNil)))))))))
def G_Pipe_init (A : Ad) : List D → M := fnD 4 (B_Pipe_init A)
theorem ok_Pipe_init {P : Program} {w : World} {K : PySem.W.Frag} {mg : Str → Option Value} {base : Heap} {A : Ad} {f : Addr} {fd : FuncData} (T : Txt K mg A) (F : FunD K "__init__" "Pipe.__init__" (defArgs s_Pipe_init) (defBody s_Pipe_init) (defScope s_Pipe_init) [] [] f fd) (c_check_name : Fc P w K mg base "check_name" 2 1 (G_check_name A)) :
    FnOk P w K mg base CX0 3 f fd ["self", "name", "start", "end"] (spG K 4 (G_Pipe_init A)) := by
  refine fn_G F sc_Pipe_init (fun cdv Ar outer s H E hr => ?_)
  exact gss_cons (gs_expr (ge_callF c_check_name hr (ga_cons (ge_var 1) (ga_nil))))
    (gss_cons (gs_expr (ge_callF c_check_name hr (ga_cons (ge_var 2) (ga_nil))))
    (gss_cons (gs_expr (ge_callF c_check_name hr (ga_cons (ge_var 3) (ga_nil))))
    (gss_cons (gs_if (gt_cmp (op_eqA hr) ro_eqA (ge_var 3) (ge_var 2) (nomark _)) (gss_one (gs_never)) (gss_nil))
    (gss_one (gs_fld T.k_Pipe.cl T.no_Pipe_kept (ge_var 0) (ge_tup (ga_cons (ge_var 1) (ga_cons (ge_var 2) (ga_cons (ge_var 3) (ga_nil))))))))))
/-! ### Pipe.name -/
abbrev s_Pipe_name : Stmt := inClass (top 12) 1
theorem sc_Pipe_name : FnScope ["self"] ["self"] (defScope s_Pipe_name) := ⟨rfl, rfl, rfl, by decide +kernel, rfl, by decide +kernel, by decide +kernel⟩
def B_Pipe_name (A : Ad) : RV.Env → MS := sRet (eOp ixD (eUn (fldD A.Pipe "kept") (eVar 0)) (eC (.int 0)))
def G_Pipe_name (A : Ad) : List D → M := fnD 1 (B_Pipe_name A)
theorem ok_Pipe_name {P : Program} {w : World} {K : PySem.W.Frag} {mg : Str → Option Value} {base : Heap} {A : Ad} {f : Addr} {fd : FuncData} (T : Txt K mg A) (F : FunD K "name" "Pipe.name" (defArgs s_Pipe_name) (defBody s_Pipe_name) (defScope s_Pipe_name) [] [] f fd)  :
    FnOk P w K mg base CX0 1 f fd ["self"] (spG K 1 (G_Pipe_name A)) := by
  refine fn_G F sc_Pipe_name (fun cdv Ar outer s H E hr => ?_)
  exact gss_one (gs_ret (ge_ix ix_seq ro_ix (ge_fld T.k_Pipe.cl T.no_Pipe_kept (ge_var 0)) (ge_int)))
/-! ### Pipe.start -/
abbrev s_Pipe_start : Stmt := inClass (top 12) 2
theorem sc_Pipe_start : FnScope ["self"] ["self"] (defScope s_Pipe_start) := ⟨rfl, rfl, rfl, by decide +kernel, rfl, by decide +kernel, by decide +kernel⟩
def B_Pipe_start (A : Ad) : RV.Env → MS := sRet (eOp ixD (eUn (fldD A.Pipe "kept") (eVar 0)) (eC (.int 1)))
def G_Pipe_start (A : Ad) : List D → M := fnD 1 (B_Pipe_start A)
theorem ok_Pipe_start {P : Program} {w : World} {K : PySem.W.Frag} {mg : Str → Option Value} {base : Heap} {A : Ad} {f : Addr} {fd : FuncData} (T : Txt K mg A) (F : FunD K "start" "Pipe.start" (defArgs s_Pipe_start) (defBody s_Pipe_start) (defScope s_Pipe_start) [] [] f fd)  :
    FnOk P w K mg base CX0 1 f fd ["self"] (spG K 1 (G_Pipe_start A)) := by
  refine fn_G F sc_Pipe_start (fun cdv Ar outer s H E hr => ?_)
  exact gss_one (gs_ret (ge_ix ix_seq ro_ix (ge_fld T.k_Pipe.cl T.no_Pipe_kept (ge_var 0)) (ge_int)))
/-! ### Pipe.end -/
abbrev s_Pipe_end : Stmt := inClass (top 12) 3
theorem sc_Pipe_end : FnScope ["self"] ["self"] (defScope s_Pipe_end) := ⟨rfl, rfl, rfl, by decide +kernel, rfl, by decide +kernel, by decide +kernel⟩
def B_Pipe_end (A : Ad) : RV.Env → MS := sRet (eOp ixD (eUn (fldD A.Pipe "kept") (eVar 0)) (eC (.int 2)))
def G_Pipe_end (A : Ad) : List D → M := fnD 1 (B_Pipe_end A)
theorem ok_Pipe_end {P : Program} {w : World} {K : PySem.W.Frag} {mg : Str → Option Value} {base : Heap} {A : Ad} {f : Addr} {fd : FuncData} (T : Txt K mg A) (F : FunD K "end" "Pipe.end" (defArgs s_Pipe_end) (defBody s_Pipe_end) (defScope s_Pipe_end) [] [] f fd)  :
    FnOk P w K mg base CX0 1 f fd ["self"] (spG K 1 (G_Pipe_end A)) := by
  refine fn_G F sc_Pipe_end (fun cdv Ar outer s H E hr => ?_)
  exact gss_one (gs_ret (ge_ix ix_seq ro_ix (ge_fld T.k_Pipe.cl T.no_Pipe_kept (ge_var 0)) (ge_int)))
/-! ### Pipe.__eq__ -/
abbrev s_Pipe_eq : Stmt := inClass (top 12) 4
theorem sc_Pipe_eq : FnScope ["self", "other"] ["self", "other"] (defScope s_Pipe_eq) := ⟨rfl, rfl, rfl, by decide +kernel, rfl, by decide +kernel, by decide +kernel⟩
def B_Pipe_eq (A : Ad) : RV.Env → MS := sRet (eAnd (eCall (isiD (own A) (tab A)) (aCons (eVar 1) (aCons (eC (.adr A.Pipe)) (aNil)))) (eOp eqD (eUn (fldD A.Pipe "kept") (eVar 0)) (eUn (fldD A.Pipe "kept") (eVar 1))))
def G_Pipe_eq (A : Ad) : List D → M := fnD 2 (B_Pipe_eq A)
theorem ok_Pipe_eq {P : Program} {w : World} {K : PySem.W.Frag} {mg : Str → Option Value} {base : Heap} {A : Ad} {f : Addr} {fd : FuncData} (T : Txt K mg A) (F : FunD K "__eq__" "Pipe.__eq__" (defArgs s_Pipe_eq) (defBody s_Pipe_eq) (defScope s_Pipe_eq) [] [] f fd)  :
    FnOk P w K mg base CX0 1 f fd ["self", "other"] (spG K 2 (G_Pipe_eq A)) := by
  refine fn_G F sc_Pipe_eq (fun cdv Ar outer s H E hr => ?_)
  exact gss_one (gs_ret (ge_and (ge_callB call_isi (rc_isi T.own T.kit) T.n_isinstance (by decide +kernel) (ga_cons (ge_var 1) (ga_cons (ge_gref T.m_Pipe) (ga_nil)))) (ge_one (ge_cmp (op_eqA hr) ro_eqA (ge_fld T.k_Pipe.cl T.no_Pipe_kept (ge_var 0)) (ge_fld T.k_Pipe.cl T.no_Pipe_kept (ge_var 1)) (nomark _)))))
/-! ### Meter.__init__ -/
abbrev s_Meter_init : Stmt := inClass (top 13) 0
theorem sc_Meter_init : FnScope ["self", "name", "at", "sealed"] ["self", "name", "at", "sealed"] (defScope s_Meter_init) := ⟨rfl, rfl, rfl, by decide +kernel, rfl, by decide +kernel, by decide +kernel⟩
def B_Meter_init (A : Ad) : RV.Env → MS := sSeq (sDrop (eFn 1 (G_check_name A) [] (aCons (eVar 1) (aNil)))) (sSeq (sDrop (eFn 1 (G_check_name A) [] (aCons (eVar 2) (aNil)))) (sSeq (sIf (bNot (bTru truD (eCall (isiD (own A) (tab A)) (aCons (eVar 3) (aCons (eC (.ty "bool")) (aNil)))))) (sNever) (sNil)) (sFldD A.Meter "kept" (eVar 0) (eSeq .tup (aCons (eVar 1) (aCons (eVar 2) (aCons (eVar 3) (aNil))))))))
def G_Meter_init (A : Ad) : List D → M := fnD 4 (B_Meter_init A)
theorem ok_Meter_init {P : Program} {w : World} {K : PySem.W.Frag} {mg : Str → Option Value} {base : Heap} {A : Ad} {f : Addr} {fd : FuncData} (T : Txt K mg A) (F : FunD K "__init__" "Meter.__init__" (defArgs s_Meter_init) (defBody s_Meter_init) (defScope s_Meter_init) [] [("sealed", .bl false)] f fd) (c_check_name : Fc P w K mg base "check_name" 2 1 (G_check_name A)) :
    FnOk P w K mg base CX0 3 f fd ["self", "name", "at", "sealed"] (spG K 4 (G_Meter_init A)) := by
  refine fn_G F sc_Meter_init (fun cdv Ar outer s H E hr => ?_)
  exact gss_cons (gs_expr (ge_callF c_check_name hr (ga_cons (ge_var 1) (ga_nil))))
    (gss_cons (gs_expr (ge_callF c_check_name hr (ga_cons (ge_var 2) (ga_nil))))
    (gss_cons (gs_if (gt_not (gt_tru tru_ok rt_tru (ge_callB call_isi (rc_isi T.own T.kit) T.n_isinstance (by decide +kernel) (ga_cons (ge_var 3) (ga_cons (ge_ty T.n_bool (by decide +kernel)) (ga_nil)))))) (gss_one (gs_never)) (gss_nil))
    (gss_one (gs_fld T.k_Meter.cl T.no_Meter_kept (ge_var 0) (ge_tup (ga_cons (ge_var 1) (ga_cons (ge_var 2) (ga_cons (ge_var 3) (ga_nil)))))))))
/-! ### Meter.name -/
abbrev s_Meter_name : Stmt := inClass (top 13) 1
theorem sc_Meter_name : FnScope ["self"] ["self"] (defScope s_Meter_name) := ⟨rfl, rfl, rfl, by decide +kernel, rfl, by decide +kernel, by decide +kernel⟩
def B_Meter_name (A : Ad) : RV.Env → MS := sRet (eOp ixD (eUn (fldD A.Meter "kept") (eVar 0)) (eC (.int 0)))
def G_Meter_name (A : Ad) : List D → M := fnD 1 (B_Meter_name A)
theorem ok_Meter_name {P : Program} {w : World} {K : PySem.W.Frag} {mg : Str → Option Value} {base : Heap} {A : Ad} {f : Addr} {fd : FuncData} (T : Txt K mg A) (F : FunD K "name" "Meter.name" (defArgs s_Meter_name) (defBody s_Meter_name) (defScope s_Meter_name) [] [] f fd)  :
    FnOk P w K mg base CX0 1 f fd ["self"] (spG K 1 (G_Meter_name A)) := by
  refine fn_G F sc_Meter_name (fun cdv Ar outer s H E hr => ?_)
  exact gss_one (gs_ret (ge_ix ix_seq ro_ix (ge_fld T.k_Meter.cl T.no_Meter_kept (ge_var 0)) (ge_int)))
/-! ### Meter.at -/
abbrev s_Meter_at : Stmt := inClass (top 13) 2
theorem sc_Meter_at : FnScope ["self"] ["self"] (defScope s_Meter_at) := ⟨rfl, rfl, rfl, by decide +kernel, rfl, by decide +kernel, by decide +kernel⟩
def B_Meter_at (A : Ad) : RV.Env → MS := sRet (eOp ixD (eUn (fldD A.Meter "kept") (eVar 0)) (eC (.int 1)))
def G_Meter_at (A : Ad) : List D → M := fnD 1 (B_Meter_at A)
theorem ok_Meter_at {P : Program} {w : World} {K : PySem.W.Frag} {mg : Str → Option Value} {base : Heap} {A : Ad} {f : Addr} {fd : FuncData} (T : Txt K mg A) (F : FunD K "at" "Meter.at" (defArgs s_Meter_at) (defBody s_Meter_at) (defScope s_Meter_at) [] [] f fd)  :
    FnOk P w K mg base CX0 1 f fd ["self"] (spG K 1 (G_Meter_at A)) := by
  refine fn_G F sc_Meter_at (fun cdv Ar outer s H E hr => ?_)
  exact gss_one (gs_ret (ge_ix ix_seq ro_ix (ge_fld T.k_Meter.cl T.no_Meter_kept (ge_var 0)) (ge_int)))
/-! ### Meter.sealed -/
abbrev s_Meter_sealed : Stmt := inClass (top 13) 3
theorem sc_Meter_sealed : FnScope ["self"] ["self"] (defScope s_Meter_sealed) := ⟨rfl, rfl, rfl, by decide +kernel, rfl, by decide +kernel, by decide +kernel⟩
def B_Meter_sealed (A : Ad) : RV.Env → MS := sRet (eOp ixD (eUn (fldD A.Meter "kept") (eVar 0)) (eC (.int 2)))
def G_Meter_sealed (A : Ad) : List D → M := fnD 1 (B_Meter_sealed A)
theorem ok_Meter_sealed {P : Program} {w : World} {K : PySem.W.Frag} {mg : Str → Option Value} {base : Heap} {A : Ad} {f : Addr} {fd : FuncData} (T : Txt K mg A) (F : FunD K "sealed" "Meter.sealed" (defArgs s_Meter_sealed) (defBody s_Meter_sealed) (defScope s_Meter_sealed) [] [] f fd)  :
    FnOk P w K mg base CX0 1 f fd ["self"] (spG K 1 (G_Meter_sealed A)) := by
  refine fn_G F sc_Meter_sealed (fun cdv Ar outer s H E hr => ?_)
  exact gss_one (gs_ret (ge_ix ix_seq ro_ix (ge_fld T.k_Meter.cl T.no_Meter_kept (ge_var 0)) (ge_int)))
/-! ### Meter.__eq__ -/
abbrev s_Meter_eq : Stmt := inClass (top 13) 4
theorem sc_Meter_eq : FnScope ["self", "other"] ["self", "other"] (defScope s_Meter_eq) := ⟨rfl, rfl, rfl, by decide +kernel, rfl, by decide +kernel, by decide +kernel⟩
def B_Meter_eq (A : Ad) : RV.Env → MS := sRet (eAnd (eCall (isiD (own A) (tab A)) (aCons (eVar 1) (aCons (eC (.adr A.Meter)) (aNil)))) (eOp eqD (eUn (fldD A.Meter "kept") (eVar 0)) (eUn (fldD A.Meter "kept") (eVar 1))))
def G_Meter_eq (A : Ad) : List D → M := fnD 2 (B_Meter_eq A)
theorem ok_Meter_eq {P : Program} {w : World} {K : PySem.W.Frag} {mg : Str → Option Value} {base : Heap} {A : Ad} {f : Addr} {fd : FuncData} (T : Txt K mg A) (F : FunD K "__eq__" "Meter.__eq__" (defArgs s_Meter_eq) (defBody s_Meter_eq) (defScope s_Meter_eq) [] [] f fd)  :
    FnOk P w K mg base CX0 1 f fd ["self", "other"] (spG K 2 (G_Meter_eq A)) := by
  refine fn_G F sc_Meter_eq (fun cdv Ar outer s H E hr => ?_)
  exact gss_one (gs_ret (ge_and (ge_callB call_isi (rc_isi T.own T.kit) T.n_isinstance (by decide +kernel) (ga_cons (ge_var 1) (ga_cons (ge_gref T.m_Meter) (ga_nil)))) (ge_one (ge_cmp (op_eqA hr) ro_eqA (ge_fld T.k_Meter.cl T.no_Meter_kept (ge_var 0)) (ge_fld T.k_Meter.cl T.no_Meter_kept (ge_var 1)) (nomark _)))))
/-! ### _law_well -/
abbrev s_law_well : Stmt := top 15
theorem sc_law_well : FnScope ["_law_cells", "_law_k", "_law_cell", "_law_other"] ["_law_cells", "_law_k"] (defScope s_law_well) := ⟨rfl, rfl, rfl, by decide +kernel, rfl, by decide +kernel, by decide +kernel⟩
def B_law_well (A : Ad) : RV.Env → MS := sSeq (sAsg 2 (eIf (bBl (eOp ltD (eVar 1) (eCall lenD (aCons (eVar 0) (aNil))))) (eOp ixD (eVar 0) (eVar 1)) (eOp mulD (eOp mulD (eC (.int 90017)) (eOp addD (eVar 1) (eC (.int 3)))) (eOp addD (eVar 1) (eC (.int 5)))))) (sSeq (sIf (bBl (eOp geD (eVar 1) (eCall lenD (aCons (eVar 0) (aNil))))) (sFor (iSeq (eVar 0)) (tName 3) (sAsg 2 (eOp modD (eCall intOfD (aCons (eOp addD (eOp mulD (eVar 2) (eC (.int 52711))) (eVar 3)) (aNil))) (eC (.int 2147483629))))) (sNil)) (sRetN (nLst (aCons (eOp modD (eCall intOfD (aCons (eVar 2) (aNil))) (eC (.int 2147483629))) (aCons (eIf (bBl (eOp geD (eCall absD (aCons (eVar 2) (aNil))) (eOp powD (eC (.int 10)) (eC (.int 18))))) (eCall absD (aCons (eVar 2) (aNil))) (eC (.int 0))) (aCons (eC (.int 0)) (aNil)))))))
def G_law_well (A : Ad) : List D → ML := fnN 4 (B_law_well A)
theorem ok_law_well {P : Program} {w : World} {K : PySem.W.Frag} {mg : Str → Option Value} {base : Heap} {A : Ad} {f : Addr} {fd : FuncData} (T : Txt K mg A) (F : FunD K "_law_well" "_law_well" (defArgs s_law_well) (defBody s_law_well) (defScope s_law_well) [] [] f fd)  :
    FnOk P w K mg base CX0 1 f fd ["_law_cells", "_law_k"] (spN K 2 (G_law_well A)) := by
  refine fn_N F sc_law_well (fun cdv Ar outer s H E hr => ?_)
  exact gss_cons (gs_set 2 sc_law_well.nd (ge_ifExp (gt_cmp op_lt ro_lt (ge_var 1) (ge_callB call_len rc_len T.n_len (by decide +kernel) (ga_cons (ge_var 0) (ga_nil))) (nomark _)) (ge_ix ix_seq ro_ix (ge_var 0) (ge_var 1)) (ge_op op_mul ro_mul (ge_op op_mul ro_mul (ge_int) (ge_op op_addA ro_addA (ge_var 1) (ge_int))) (ge_op op_addA ro_addA (ge_var 1) (ge_int)))))
    (gss_cons (gs_if (gt_cmp op_ge ro_ge (ge_var 1) (ge_callB call_len rc_len T.n_len (by decide +kernel) (ga_cons (ge_var 0) (ga_nil))) (nomark _)) (gss_one (gs_for PassesOwn.never rfl (gi_list (ge_var 0)) (gg_name 3 sc_law_well.nd) (gss_one (gs_set 2 sc_law_well.nd (ge_op op_mod ro_mod (ge_callTy call_int1 rc_int1 T.n_int (by decide +kernel) (ga_cons (ge_op op_addA ro_addA (ge_op op_mul ro_mul (ge_var 2) (ge_int)) (ge_var 3)) (ga_nil))) (ge_int)))))) (gss_nil))
    (gss_one (gs_retN (gn_lst (ga_cons (ge_op op_mod ro_mod (ge_callTy call_int1 rc_int1 T.n_int (by decide +kernel) (ga_cons (ge_var 2) (ga_nil))) (ge_int)) (ga_cons (ge_ifExp (gt_cmp op_ge ro_ge (ge_callB call_abs rc_abs T.n_abs (by decide +kernel) (ga_cons (ge_var 2) (ga_nil))) (ge_op op_pow ro_pow (ge_int) (ge_int)) (nomark _)) (ge_callB call_abs rc_abs T.n_abs (by decide +kernel) (ga_cons (ge_var 2) (ga_nil))) (ge_int)) (ga_cons (ge_int) (ga_nil))))))))
/-! ### _law_dip -/
abbrev s_law_dip : Stmt := top 16
theorem sc_law_dip : FnScope ["_law_well_here", "_law_many", "_law_digit", "_law_mixed"] ["_law_well_here", "_law_many"] (defScope s_law_dip) := ⟨rfl, rfl, rfl, by decide +kernel, rfl, by decide +kernel, by decide +kernel⟩
def B_law_dip (A : Ad) : RV.Env → MS := sSeq (sSetIx (eVar 0) (eC (.int 2)) (eOp addD (eOp ixD (eVar 0) (eC (.int 2))) (eC (.int 1)))) (sSeq (sIf (bBl (eOp gtD (eOp ixD (eVar 0) (eC (.int 1))) (eC (.int 0)))) (sSeq (sPairSet 2 (eVar 0) (eC (.int 1)) (eCall divmodD (aCons (eOp ixD (eVar 0) (eC (.int 1))) (aCons (eVar 1) (aNil))))) (sRet (eVar 2))) (sNil)) (sSeq (sSetIx (eVar 0) (eC (.int 0)) (eOp modD (eCall intOfD (aCons (eOp addD (eOp addD (eOp mulD (eOp ixD (eVar 0) (eC (.int 0))) (eC (.int 69621))) (eOp mulD (eOp mulD (eC (.int 31)) (eOp ixD (eVar 0) (eC (.int 2)))) (eOp ixD (eVar 0) (eC (.int 2))))) (eC (.int 40503))) (aNil))) (eC (.int 2147483629)))) (sSeq (sAsg 3 (eOp modD (eCall intOfD (aCons (eOp mulD (eOp ixD (eVar 0) (eC (.int 0))) (eOp addD (eOp modD (eCall intOfD (aCons (eOp ixD (eVar 0) (eC (.int 0))) (aNil))) (eC (.int 30011))) (eC (.int 17)))) (aNil))) (eC (.int 2147483587)))) (sRet (eOp modD (eCall intOfD (aCons (eOp fdivD (eVar 3) (eC (.int 64))) (aNil))) (eVar 1))))))
def G_law_dip (A : Ad) : List D → M := fnD 4 (B_law_dip A)
theorem ok_law_dip {P : Program} {w : World} {K : PySem.W.Frag} {mg : Str → Option Value} {base : Heap} {A : Ad} {f : Addr} {fd : FuncData} (T : Txt K mg A) (F : FunD K "_law_dip" "_law_dip" (defArgs s_law_dip) (defBody s_law_dip) (defScope s_law_dip) [] [] f fd)  :
    FnOk P w K mg base CX0 1 f fd ["_law_well_here", "_law_many"] (spG K 2 (G_law_dip A)) := by
  refine fn_G F sc_law_dip (fun cdv Ar outer s H E hr => ?_)
  exact gss_cons (gs_setIx (ge_op op_addA ro_addA (ge_ix ix_seq ro_ix (ge_var 0) (ge_int)) (ge_int)) (ge_var 0) (ge_int))
    (gss_cons (gs_if (gt_cmp op_gt ro_gt (ge_ix ix_seq ro_ix (ge_var 0) (ge_int)) (ge_int) (nomark _)) (gss_cons (gs_pairSet 2 rfl sc_law_dip.nd (ge_callB call_divmodW rc_divmod T.n_divmod (by decide +kernel) (ga_cons (ge_ix ix_seq ro_ix (ge_var 0) (ge_int)) (ga_cons (ge_var 1) (ga_nil)))) (ge_var 0) (ge_int))
    (gss_one (gs_ret (ge_var 2)))) (gss_nil))
    (gss_cons (gs_setIx (ge_op op_mod ro_mod (ge_callTy call_int1 rc_int1 T.n_int (by decide +kernel) (ga_cons (ge_op op_addA ro_addA (ge_op op_addA ro_addA (ge_op op_mul ro_mul (ge_ix ix_seq ro_ix (ge_var 0) (ge_int)) (ge_int)) (ge_op op_mul ro_mul (ge_op op_mul ro_mul (ge_int) (ge_ix ix_seq ro_ix (ge_var 0) (ge_int))) (ge_ix ix_seq ro_ix (ge_var 0) (ge_int)))) (ge_int)) (ga_nil))) (ge_int)) (ge_var 0) (ge_int))
    (gss_cons (gs_set 3 sc_law_dip.nd (ge_op op_mod ro_mod (ge_callTy call_int1 rc_int1 T.n_int (by decide +kernel) (ga_cons (ge_op op_mul ro_mul (ge_ix ix_seq ro_ix (ge_var 0) (ge_int)) (ge_op op_addA ro_addA (ge_op op_mod ro_mod (ge_callTy call_int1 rc_int1 T.n_int (by decide +kernel) (ga_cons (ge_ix ix_seq ro_ix (ge_var 0) (ge_int)) (ga_nil))) (ge_int)) (ge_int))) (ga_nil))) (ge_int)))
    (gss_one (gs_ret (ge_op op_mod ro_mod (ge_callTy call_int1 rc_int1 T.n_int (by decide +kernel) (ga_cons (ge_op op_fdiv ro_fdiv (ge_var 3) (ge_int)) (ga_nil))) (ge_var 1)))))))
/-! ### _law_name -/
abbrev s_law_name : Stmt := top 17
theorem sc_law_name : FnScope ["_law_well_here", "_law_signs", "_law_line", "_law_turn"] ["_law_well_here"] (defScope s_law_name) := ⟨rfl, rfl, rfl, by decide +kernel, rfl, by decide +kernel, by decide +kernel⟩
def B_law_name (A : Ad) : RV.Env → MS := sSeq (sIf (bBl (eOp eqD (eFn 2 (G_law_dip A) [] (aCons (eVar 0) (aCons (eC (.int 6)) (aNil)))) (eC (.int 0)))) (sRet (eOp ixD (eSeq .lst (aCons (eC (.str "pipe")) (aCons (eC (.str "meter")) (aCons (eC (.str "sealed")) (aCons (eC (.str "self")) (aCons (eC (.str "net")) (aCons (eC (.str "tell")) (aCons (eC (.str "if")) (aCons (eC (.str "a")) (aNil)))))))))) (eFn 2 (G_law_dip A) [] (aCons (eVar 0) (aCons (eC (.int 8)) (aNil)))))) (sNil)) (sSeq (sAsg 1 (eC (.str "abcdefghijklmnopqrstuvwxyz0123456789"))) (sSeq (sAsg 2 (eOp ixD (eVar 1) (eFn 2 (G_law_dip A) [] (aCons (eVar 0) (aCons (eC (.int 26)) (aNil)))))) (sSeq (sFor (iRange1 (aCons (eFn 2 (G_law_dip A) [] (aCons (eVar 0) (aCons (eC (.int 8)) (aNil)))) (aNil))) (tName 3) (sAsg 2 (eOp addD (eVar 2) (eOp ixD (eVar 1) (eFn 2 (G_law_dip A) [] (aCons (eVar 0) (aCons (eC (.int 36)) (aNil)))))))) (sRet (eVar 2)))))
def G_law_name (A : Ad) : List D → M := fnD 4 (B_law_name A)
theorem ok_law_name {P : Program} {w : World} {K : PySem.W.Frag} {mg : Str → Option Value} {base : Heap} {A : Ad} {f : Addr} {fd : FuncData} (T : Txt K mg A) (F : FunD K "_law_name" "_law_name" (defArgs s_law_name) (defBody s_law_name) (defScope s_law_name) [] [] f fd) (c_law_dip : Fc P w K mg base "_law_dip" 1 2 (G_law_dip A)) :
    FnOk P w K mg base CX0 2 f fd ["_law_well_here"] (spG K 1 (G_law_name A)) := by
  refine fn_G F sc_law_name (fun cdv Ar outer s H E hr => ?_)
  exact gss_cons (gs_if (gt_cmp (op_eqA hr) ro_eqA (ge_callF c_law_dip hr (ga_cons (ge_var 0) (ga_cons (ge_int) (ga_nil)))) (ge_int) (nomark _)) (gss_one (gs_ret (ge_ix ix_seq ro_ix (ge_lst (ga_cons (ge_str) (ga_cons (ge_str) (ga_cons (ge_str) (ga_cons (ge_str) (ga_cons (ge_str) (ga_cons (ge_str) (ga_cons (ge_str) (ga_cons (ge_str) (ga_nil)))))))))) (ge_callF c_law_dip hr (ga_cons (ge_var 0) (ga_cons (ge_int) (ga_nil))))))) (gss_nil))
    (gss_cons (gs_set 1 sc_law_name.nd (ge_str))
    (gss_cons (gs_set 2 sc_law_name.nd (ge_ix ix_seq ro_ix (ge_var 1) (ge_callF c_law_dip hr (ga_cons (ge_var 0) (ga_cons (ge_int) (ga_nil))))))
    (gss_cons (gs_for PassesOwn.never rfl (gi_range1 T.n_range (ga_cons (ge_callF c_law_dip hr (ga_cons (ge_var 0) (ga_cons (ge_int) (ga_nil)))) (ga_nil))) (gg_name 3 sc_law_name.nd) (gss_one (gs_set 2 sc_law_name.nd (ge_op op_addA ro_addA (ge_var 2) (ge_ix ix_seq ro_ix (ge_var 1) (ge_callF c_law_dip hr (ga_cons (ge_var 0) (ga_cons (ge_int) (ga_nil)))))))))
    (gss_one (gs_ret (ge_var 2))))))
/-! ### _law_fresh -/
abbrev s_law_fresh : Stmt := top 18
theorem sc_law_fresh : FnScope ["_law_well_here", "_law_taken", "_law_way", "_law_title", "_law_mate", "_law_free", "_law_sign", "_law_each"] ["_law_well_here", "_law_taken"] (defScope s_law_fresh) := ⟨rfl, rfl, rfl, by decide +kernel, rfl, by decide +kernel, by decide +kernel⟩
def B_law_fresh (A : Ad) : RV.Env → MS := sSeq (sAsgG (tTupD 2 (tsCons (tName 2) (tsCons (tName 3) (tsNil)))) (eSeq .tup (aCons (eFn 2 (G_law_dip A) [] (aCons (eVar 0) (aCons (eC (.int 4)) (aNil)))) (aCons (eFn 1 (G_law_name A) [] (aCons (eVar 0) (aNil))) (aNil))))) (sSeq (sIf (bAnd (bBl (eOp neD (eVar 1) (eSeq .lst (aNil)))) (bBl (eOp ltD (eVar 2) (eC (.int 2))))) (sSeq (sAsg 4 (eOp ixD (eVar 1) (eFn 2 (G_law_dip A) [] (aCons (eVar 0) (aCons (eCall lenD (aCons (eVar 1) (aNil))) (aNil)))))) (sAsg 3 (eIf (bBl (eOp eqD (eVar 2) (eC (.int 0)))) (eSl slD (eOp addD (eVar 4) (eVar 3)) (oNone) (oSome (eC (.int 8)))) (eSl slD (eVar 4) (oNone) (oSome (eOp addD (eC (.int 1)) (eFn 2 (G_law_dip A) [] (aCons (eVar 0) (aCons (eC (.int 7)) (aNil)))))))))) (sNil)) (sSeq (sIf (bBl (eOp (inD true) (eVar 3) (eVar 1))) (sRet (eVar 3)) (sNil)) (sSeq (sAsg 5 (eLc (iStrD (eC (.str "abcdefghijklmnopqrstuvwxyz0123456789"))) (tName 6) (bYes) (eOp addD (eSl slD (eVar 3) (oNone) (oSome (eC (.int 7)))) (eVar 6)) [6])) (sRet (eOp ixD (eLc (iSeq (eVar 5)) (tName 7) (bBl (eOp (inD true) (eVar 7) (eVar 1))) (eVar 7) [7]) (eC (.int 0)))))))
def G_law_fresh (A : Ad) : List D → M := fnD 8 (B_law_fresh A)
theorem ok_law_fresh {P : Program} {w : World} {K : PySem.W.Frag} {mg : Str → Option Value} {base : Heap} {A : Ad} {f : Addr} {fd : FuncData} (T : Txt K mg A) (F : FunD K "_law_fresh" "_law_fresh" (defArgs s_law_fresh) (defBody s_law_fresh) (defScope s_law_fresh) [] [] f fd) (c_law_dip : Fc P w K mg base "_law_dip" 1 2 (G_law_dip A)) (c_law_name : Fc P w K mg base "_law_name" 2 1 (G_law_name A)) :
    FnOk P w K mg base CX0 3 f fd ["_law_well_here", "_law_taken"] (spG K 2 (G_law_fresh A)) := by
  refine fn_G F sc_law_fresh (fun cdv Ar outer s H E hr => ?_)
  exact gss_cons (gs_asg (ge_tup (ga_cons (ge_callF c_law_dip hr (ga_cons (ge_var 0) (ga_cons (ge_int) (ga_nil)))) (ga_cons (ge_callF c_law_name hr (ga_cons (ge_var 0) (ga_nil))) (ga_nil)))) (gg_tup rfl (ggs_cons (gg_name 2 sc_law_fresh.nd) (ggs_cons (gg_name 3 sc_law_fresh.nd) (ggs_nil)))))
    (gss_cons (gs_if ((gw_and (gt_cmp (op_neA hr) ro_neA (ge_var 1) (ge_lst (ga_nil)) (nomark _)) (gw_and1 (gt_cmp op_lt ro_lt (ge_var 2) (ge_int) (nomark _)))).gt) (gss_cons (gs_set 4 sc_law_fresh.nd (ge_ix ix_seq ro_ix (ge_var 1) (ge_callF c_law_dip hr (ga_cons (ge_var 0) (ga_cons (ge_callB call_len rc_len T.n_len (by decide +kernel) (ga_cons (ge_var 1) (ga_nil))) (ga_nil))))))
    (gss_one (gs_set 3 sc_law_fresh.nd (ge_ifExp (gt_cmp (op_eqA hr) ro_eqA (ge_var 2) (ge_int) (nomark _)) (ge_slice sl_A rsl_A (ge_op op_addA ro_addA (ge_var 4) (ge_var 3)) (go_none) (go_some (ge_int))) (ge_slice sl_A rsl_A (ge_var 4) (go_none) (go_some (ge_op op_addA ro_addA (ge_int) (ge_callF c_law_dip hr (ga_cons (ge_var 0) (ga_cons (ge_int) (ga_nil))))))))))) (gss_nil))
    (gss_cons (gs_if (gt_cmp op_notIn_seq ro_in (ge_var 3) (ge_var 1) (by rfl)) (gss_one (gs_ret (ge_var 3))) (gss_nil))
    (gss_cons (gs_setLc 5 (own := [("_law_sign", 6)]) rfl sc_law_fresh.nd (gi_str (ge_str)) (blkOk_by (by rfl)) (fun _ _ _ _ _ => gg_name 6 sc_law_fresh.nd) (fun _ _ _ _ _ => gts_nil) (fun _ _ _ _ _ => ge_op op_addA ro_addA (ge_slice sl_A rsl_A (ge_var 3) (go_none) (go_some (ge_int))) (ge_var 6)) (sw_true rfl rfl rfl (by decide +kernel)))
    (gss_one (gs_ret (ge_ix ix_seq ro_ix (ge_lc (own := [("_law_each", 7)]) rfl sc_law_fresh.nd (gi_list (ge_var 5)) (blkOk_by (by rfl)) (fun _ _ _ _ _ => gg_name 7 sc_law_fresh.nd) (fun _ _ _ _ _ => gts_one (gt_cmp op_notIn_seq ro_in (ge_var 7) (ge_var 1) (by rfl))) (fun _ _ _ _ _ => ge_var 7)) (ge_int)))))))
/-! ### _law_pipe_right -/
abbrev s_law_pipe_right : Stmt := top 19
theorem sc_law_pipe_right : FnScope ["_law_well_here", "_law_one", "_law_two", "_law_three", "_law_mine", "_law_mate", "_law_more", "_law_others", "_law_other"] ["_law_well_here"] (defScope s_law_pipe_right) := ⟨rfl, rfl, rfl, by decide +kernel, rfl, by decide +kernel, by decide +kernel⟩
def B_law_pipe_right (A : Ad) : RV.Env → MS := sSeq (sPar2 1 2 (aCons (eFn 1 (G_law_name A) [] (aCons (eVar 0) (aNil))) (aCons (eFn 1 (G_law_name A) [] (aCons (eVar 0) (aNil))) (aNil)))) (sSeq (sAsg 3 (eFn 2 (G_law_fresh A) [] (aCons (eVar 0) (aCons (eSeq .lst (aCons (eVar 2) (aNil))) (aNil))))) (sSeq (sAsgG (tTupD 2 (tsCons (tName 4) (tsCons (tName 5) (tsNil)))) (eSeq .tup (aCons (eMake A.Pipe 4 (G_Pipe_init A) [] (aCons (eVar 1) (aCons (eVar 2) (aCons (eVar 3) (aNil))))) (aCons (eMakeK A.Pipe 4 0 3 (G_Pipe_init A) (g_mk_Pipe_0_end_start_name) aNil (aCons (eVar 3) (aCons (eVar 2) (aCons (eVar 1) (aNil))))) (aNil))))) (sSeq (sIf (bOr (bBl (eOp neD (eCall reprD (aCons (eSeq .lst (aCons (eProp A.Pipe (G_Pipe_name A) (eVar 4)) (aCons (eProp A.Pipe (G_Pipe_start A) (eVar 4)) (aCons (eProp A.Pipe (G_Pipe_end A) (eVar 4)) (aNil))))) (aNil))) (eCall reprD (aCons (eSeq .lst (aCons (eVar 1) (aCons (eVar 2) (aCons (eVar 3) (aNil))))) (aNil))))) (bNot (bTru (truObj A.Pipe) (eVar 4)))) (sRet (eC (.bl false))) (sNil)) (sSeq (sIf (bOr (bBl (eOp neD (eCall reprD (aCons (eSeq .lst (aCons (eProp A.Pipe (G_Pipe_name A) (eVar 5)) (aCons (eProp A.Pipe (G_Pipe_start A) (eVar 5)) (aCons (eProp A.Pipe (G_Pipe_end A) (eVar 5)) (aNil))))) (aNil))) (eCall reprD (aCons (eSeq .lst (aCons (eVar 1) (aCons (eVar 2) (aCons (eVar 3) (aNil))))) (aNil))))) (bOr (bNot (bBl (eOpM (eqOwnD A.Pipe (own A) (own A) (G_Pipe_eq A) false (nf A)) (eVar 4) (eVar 5)))) (bBl (eOpM (eqOwnD A.Pipe (own A) (own A) (G_Pipe_eq A) true (nf A)) (eVar 4) (eVar 5))))) (sRet (eC (.bl false))) (sNil)) (sSeq (sAsg 6 (eSeq .lst (aCons (eFn 2 (G_law_fresh A) [] (aCons (eVar 0) (aCons (eSeq .lst (aCons (eVar 1) (aNil))) (aNil)))) (aCons (eFn 2 (G_law_fresh A) [] (aCons (eVar 0) (aCons (eSeq .lst (aCons (eVar 2) (aCons (eVar 3) (aNil)))) (aNil)))) (aNil))))) (sSeq (sAsg 7 (eSeq .lst (aCons (eMake A.Pipe 4 (G_Pipe_init A) [] (aCons (eOp ixD (eVar 6) (eC (.int 0))) (aCons (eVar 2) (aCons (eVar 3) (aNil))))) (aCons (eMake A.Pipe 4 (G_Pipe_init A) [] (aCons (eVar 1) (aCons (eOp ixD (eVar 6) (eC (.int 1))) (aCons (eVar 3) (aNil))))) (aCons (eMake A.Pipe 4 (G_Pipe_init A) [] (aCons (eVar 1) (aCons (eVar 2) (aCons (eOp ixD (eVar 6) (eC (.int 1))) (aNil))))) (aCons (eMake A.Pipe 4 (G_Pipe_init A) [] (aCons (eVar 1) (aCons (eVar 3) (aCons (eVar 2) (aNil))))) (aNil))))))) (sSeq (sAsg 7 (eOp addD (eVar 7) (eSeq .lst (aCons (eSeq .tup (aCons (eVar 1) (aCons (eVar 2) (aCons (eVar 3) (aNil))))) (aCons (eMake A.Meter 4 (G_Meter_init A) [.bl false] (aCons (eVar 1) (aCons (eVar 2) (aNil)))) (aCons (eOp addD (eOp addD (eOp addD (eOp addD (eOp addD (eC (.str "pipe ")) (eVar 1)) (eC (.str " "))) (eVar 2)) (eC (.str " "))) (eVar 3)) (aCons (eC .non) (aNil)))))))) (sRet (eAnd (eNotT (bTru truD (eCall anyD (aCons (eLc (iSeq (eVar 7)) (tName 8) (bYes) (eOpM (eqOwnD A.Pipe (own A) (own A) (G_Pipe_eq A) false (nf A)) (eVar 4) (eVar 8)) [8]) (aNil))))) (eCall allD (aCons (eLc (iSeq (eVar 7)) (tName 8) (bYes) (eOpM (eqOwnD A.Pipe (own A) (own A) (G_Pipe_eq A) true (nf A)) (eVar 4) (eVar 8)) [8]) (aNil))))))))))))
def G_law_pipe_right (A : Ad) : List D → M := fnD 9 (B_law_pipe_right A)
theorem ok_law_pipe_right {P : Program} {w : World} {K : PySem.W.Frag} {mg : Str → Option Value} {base : Heap} {A : Ad} {f : Addr} {fd : FuncData} (T : Txt K mg A) (F : FunD K "_law_pipe_right" "_law_pipe_right" (defArgs s_law_pipe_right) (defBody s_law_pipe_right) (defScope s_law_pipe_right) [] [] f fd) (c_Pipe_name : Pc P w K mg base A.Pipe "name" 1 (G_Pipe_name A)) (c_Pipe_start : Pc P w K mg base A.Pipe "start" 1 (G_Pipe_start A)) (c_Pipe_end : Pc P w K mg base A.Pipe "end" 1 (G_Pipe_end A)) (c_Pipe_eq : Ec P w K mg base A.Pipe 1 (G_Pipe_eq A)) (c_law_name : Fc P w K mg base "_law_name" 2 1 (G_law_name A)) (c_law_fresh : Fc P w K mg base "_law_fresh" 3 2 (G_law_fresh A)) (mk_Meter_2 : Mc P w K mg base "Meter" A.Meter 3 4 (G_Meter_init A) [.bl false]) (mk_Pipe_0_end_start_name : Mk_ P w K mg base "Pipe" A.Pipe 3 4 0 ["end", "start", "name"] (G_Pipe_init A) (g_mk_Pipe_0_end_start_name)) (mk_Pipe_3 : Mc P w K mg base "Pipe" A.Pipe 3 4 (G_Pipe_init A) []) :
    FnGd P w K mg base 5 f fd ["_law_well_here"] (spG K 1 (G_law_pipe_right A)) := by
  refine fn_GG F sc_law_pipe_right (fun cdv Ar outer s H E hgd hr => ?_)
  exact gss_cons (gs_par2 1 2 rfl sc_law_pipe_right.nd (ga_cons (ge_callF c_law_name hr (ga_cons (ge_var 0) (ga_nil))) (ga_cons (ge_callF c_law_name hr (ga_cons (ge_var 0) (ga_nil))) (ga_nil))))
    (gss_cons (gs_set 3 sc_law_pipe_right.nd (ge_callF c_law_fresh hr (ga_cons (ge_var 0) (ga_cons (ge_lst (ga_cons (ge_var 2) (ga_nil))) (ga_nil)))))
    (gss_cons (gs_asg (ge_tup (ga_cons (ge_makeF mk_Pipe_3 hr (ga_cons (ge_var 1) (ga_cons (ge_var 2) (ga_cons (ge_var 3) (ga_nil))))) (ga_cons (ge_makeKF0 (ks := ["end", "start", "name"]) mk_Pipe_0_end_start_name hr (gk_cons (ge_var 3) (gk_cons (ge_var 2) (gk_cons (ge_var 1) (gk_nil))))) (ga_nil)))) (gg_tup rfl (ggs_cons (gg_name 4 sc_law_pipe_right.nd) (ggs_cons (gg_name 5 sc_law_pipe_right.nd) (ggs_nil)))))
    (gss_cons (gs_if ((gw_or (gt_cmp (op_neA hr) ro_neA (ge_callB (call_repr hgd hr) rc_repr T.n_repr (by decide +kernel) (ga_cons (ge_lst (ga_cons (ge_propF c_Pipe_name hr (ge_var 4)) (ga_cons (ge_propF c_Pipe_start hr (ge_var 4)) (ga_cons (ge_propF c_Pipe_end hr (ge_var 4)) (ga_nil))))) (ga_nil))) (ge_callB (call_repr hgd hr) rc_repr T.n_repr (by decide +kernel) (ga_cons (ge_lst (ga_cons (ge_var 1) (ga_cons (ge_var 2) (ga_cons (ge_var 3) (ga_nil))))) (ga_nil))) (nomark _)) (gw_or1 (gt_not (gt_tru (tru_obj0 T.tb_Pipe T.tl_Pipe) rt_obj0 (ge_var 4))))).gt) (gss_one (gs_ret (ge_bl))) (gss_nil))
    (gss_cons (gs_if ((gw_or (gt_cmp (op_neA hr) ro_neA (ge_callB (call_repr hgd hr) rc_repr T.n_repr (by decide +kernel) (ga_cons (ge_lst (ga_cons (ge_propF c_Pipe_name hr (ge_var 5)) (ga_cons (ge_propF c_Pipe_start hr (ge_var 5)) (ga_cons (ge_propF c_Pipe_end hr (ge_var 5)) (ga_nil))))) (ga_nil))) (ge_callB (call_repr hgd hr) rc_repr T.n_repr (by decide +kernel) (ga_cons (ge_lst (ga_cons (ge_var 1) (ga_cons (ge_var 2) (ga_cons (ge_var 3) (ga_nil))))) (ga_nil))) (nomark _)) (gw_or (gt_not (gt_cmpM (op_eqF c_Pipe_eq hr) (rom_eqOwn T.own T.nf_Pipe) (ge_var 4) (ge_var 5) (nomark _))) (gw_or1 (gt_cmpM (op_neF c_Pipe_eq hr) (rom_eqOwn T.own T.nf_Pipe) (ge_var 4) (ge_var 5) (nomark _))))).gt) (gss_one (gs_ret (ge_bl))) (gss_nil))
    (gss_cons (gs_set 6 sc_law_pipe_right.nd (ge_lst (ga_cons (ge_callF c_law_fresh hr (ga_cons (ge_var 0) (ga_cons (ge_lst (ga_cons (ge_var 1) (ga_nil))) (ga_nil)))) (ga_cons (ge_callF c_law_fresh hr (ga_cons (ge_var 0) (ga_cons (ge_lst (ga_cons (ge_var 2) (ga_cons (ge_var 3) (ga_nil)))) (ga_nil)))) (ga_nil)))))
    (gss_cons (gs_set 7 sc_law_pipe_right.nd (ge_lst (ga_cons (ge_makeF mk_Pipe_3 hr (ga_cons (ge_ix ix_seq ro_ix (ge_var 6) (ge_int)) (ga_cons (ge_var 2) (ga_cons (ge_var 3) (ga_nil))))) (ga_cons (ge_makeF mk_Pipe_3 hr (ga_cons (ge_var 1) (ga_cons (ge_ix ix_seq ro_ix (ge_var 6) (ge_int)) (ga_cons (ge_var 3) (ga_nil))))) (ga_cons (ge_makeF mk_Pipe_3 hr (ga_cons (ge_var 1) (ga_cons (ge_var 2) (ga_cons (ge_ix ix_seq ro_ix (ge_var 6) (ge_int)) (ga_nil))))) (ga_cons (ge_makeF mk_Pipe_3 hr (ga_cons (ge_var 1) (ga_cons (ge_var 3) (ga_cons (ge_var 2) (ga_nil))))) (ga_nil)))))))
    (gss_cons (gs_set 7 sc_law_pipe_right.nd (ge_op op_addA ro_addA (ge_var 7) (ge_lst (ga_cons (ge_tup (ga_cons (ge_var 1) (ga_cons (ge_var 2) (ga_cons (ge_var 3) (ga_nil))))) (ga_cons (ge_makeF mk_Meter_2 hr (ga_cons (ge_var 1) (ga_cons (ge_var 2) (ga_nil)))) (ga_cons (ge_op op_addA ro_addA (ge_op op_addA ro_addA (ge_op op_addA ro_addA (ge_op op_addA ro_addA (ge_op op_addA ro_addA (ge_str) (ge_var 1)) (ge_str)) (ge_var 2)) (ge_str)) (ge_var 3)) (ga_cons (ge_non) (ga_nil))))))))
    (gss_one (gs_ret (ge_and (ge_notT tru_ok rt_tru (ge_callB (cr_any rfl) rc_any T.n_any (by decide +kernel) (ga_cons (ge_lc (own := [("_law_other", 8)]) rfl sc_law_pipe_right.nd (gi_list (ge_var 7)) (blkOk_by (by rfl)) (fun _ _ _ _ _ => gg_name 8 sc_law_pipe_right.nd) (fun _ _ _ _ _ => gts_nil) (fun _ _ _ _ _ => ge_cmpM (op_eqF c_Pipe_eq hr) (rom_eqOwn T.own T.nf_Pipe) (ge_var 4) (ge_var 8) (nomark _))) (ga_nil)))) (ge_one (ge_callB (cr_all rfl) rc_all T.n_all (by decide +kernel) (ga_cons (ge_lc (own := [("_law_other", 8)]) rfl sc_law_pipe_right.nd (gi_list (ge_var 7)) (blkOk_by (by rfl)) (fun _ _ _ _ _ => gg_name 8 sc_law_pipe_right.nd) (fun _ _ _ _ _ => gts_nil) (fun _ _ _ _ _ => ge_cmpM (op_neF c_Pipe_eq hr) (rom_eqOwn T.own T.nf_Pipe) (ge_var 4) (ge_var 8) (nomark _))) (ga_nil))))))))))))))
/-! ### _law_meter_right -/
abbrev s_law_meter_right : Stmt := top 20
theorem sc_law_meter_right : FnScope ["_law_well_here", "_law_one", "_law_two", "_law_shut", "_law_mine", "_law_mate", "_law_each", "_law_plain", "_law_others", "_law_other"] ["_law_well_here"] (defScope s_law_meter_right) := ⟨rfl, rfl, rfl, by decide +kernel, rfl, by decide +kernel, by decide +kernel⟩
def B_law_meter_right (A : Ad) : RV.Env → MS := sSeq (sPar3 1 2 3 (aCons (eFn 1 (G_law_name A) [] (aCons (eVar 0) (aNil))) (aCons (eFn 1 (G_law_name A) [] (aCons (eVar 0) (aNil))) (aCons (eOp eqD (eFn 2 (G_law_dip A) [] (aCons (eVar 0) (aCons (eC (.int 2)) (aNil)))) (eC (.int 0))) (aNil))))) (sSeq (sAsgG (tTupD 2 (tsCons (tName 4) (tsCons (tName 5) (tsNil)))) (eSeq .tup (aCons (eMakeK A.Meter 4 2 1 (G_Meter_init A) (g_mk_Meter_2_sealed) (aCons (eVar 1) (aCons (eVar 2) (aNil))) (aCons (eVar 3) (aNil))) (aCons (eMakeK A.Meter 4 0 3 (G_Meter_init A) (g_mk_Meter_0_at_sealed_name) aNil (aCons (eVar 2) (aCons (eVar 3) (aCons (eVar 1) (aNil))))) (aNil))))) (sSeq (sFor (iSeq (eSeq .lst (aCons (eVar 4) (aCons (eVar 5) (aNil))))) (tName 6) (sIf (bOr (bBl (eOp neD (eCall reprD (aCons (eSeq .lst (aCons (eProp A.Meter (G_Meter_name A) (eVar 6)) (aCons (eProp A.Meter (G_Meter_at A) (eVar 6)) (aCons (eProp A.Meter (G_Meter_sealed A) (eVar 6)) (aNil))))) (aNil))) (eCall reprD (aCons (eSeq .lst (aCons (eVar 1) (aCons (eVar 2) (aCons (eVar 3) (aNil))))) (aNil))))) (bNot (bTru (truObj A.Meter) (eVar 6)))) (sRet (eC (.bl false))) (sNil))) (sSeq (sAsg 7 (eMake A.Meter 4 (G_Meter_init A) [.bl false] (aCons (eVar 1) (aCons (eVar 2) (aNil))))) (sSeq (sIf (bOr (bBl (eOp neD (eCall reprD (aCons (eSeq .lst (aCons (eProp A.Meter (G_Meter_name A) (eVar 7)) (aCons (eProp A.Meter (G_Meter_at A) (eVar 7)) (aCons (eProp A.Meter (G_Meter_sealed A) (eVar 7)) (aNil))))) (aNil))) (eCall reprD (aCons (eSeq .lst (aCons (eVar 1) (aCons (eVar 2) (aCons (eC (.bl false)) (aNil))))) (aNil))))) (bBl (eOp eqD (eOpM (eqOwnD A.Meter (own A) (own A) (G_Meter_eq A) false (nf A)) (eVar 7) (eVar 4)) (eVar 3)))) (sRet (eC (.bl false))) (sNil)) (sSeq (sAsg 8 (eSeq .lst (aCons (eMakeK A.Meter 4 2 1 (G_Meter_init A) (g_mk_Meter_2_sealed) (aCons (eFn 2 (G_law_fresh A) [] (aCons (eVar 0) (aCons (eSeq .lst (aCons (eVar 1) (aNil))) (aNil)))) (aCons (eVar 2) (aNil))) (aCons (eVar 3) (aNil))) (aCons (eMakeK A.Meter 4 2 1 (G_Meter_init A) (g_mk_Meter_2_sealed) (aCons (eVar 1) (aCons (eFn 2 (G_law_fresh A) [] (aCons (eVar 0) (aCons (eSeq .lst (aCons (eVar 2) (aNil))) (aNil)))) (aNil))) (aCons (eVar 3) (aNil))) (aNil))))) (sSeq (sAsg 8 (eOp addD (eVar 8) (eSeq .lst (aCons (eMakeK A.Meter 4 2 1 (G_Meter_init A) (g_mk_Meter_2_sealed) (aCons (eVar 1) (aCons (eVar 2) (aNil))) (aCons (eNotT (bTru truD (eVar 3))) (aNil))) (aCons (eSeq .tup (aCons (eVar 1) (aCons (eVar 2) (aCons (eVar 3) (aNil))))) (aCons (eMake A.Pipe 4 (G_Pipe_init A) [] (aCons (eVar 1) (aCons (eVar 2) (aCons (eFn 2 (G_law_fresh A) [] (aCons (eVar 0) (aCons (eSeq .lst (aCons (eVar 2) (aNil))) (aNil)))) (aNil))))) (aCons (eVar 1) (aNil)))))))) (sSeq (sIf (bOr (bTru truD (eCall anyD (aCons (eLc (iSeq (eVar 8)) (tName 9) (bYes) (eOpM (eqOwnD A.Meter (own A) (own A) (G_Meter_eq A) false (nf A)) (eVar 4) (eVar 9)) [9]) (aNil)))) (bNot (bTru truD (eCall allD (aCons (eLc (iSeq (eVar 8)) (tName 9) (bYes) (eOpM (eqOwnD A.Meter (own A) (own A) (G_Meter_eq A) true (nf A)) (eVar 4) (eVar 9)) [9]) (aNil)))))) (sRet (eC (.bl false))) (sNil)) (sRet (eAnd (eOpM (eqOwnD A.Meter (own A) (own A) (G_Meter_eq A) false (nf A)) (eVar 4) (eVar 5)) (eNotT (bTru truD (eOpM (eqOwnD A.Meter (own A) (own A) (G_Meter_eq A) true (nf A)) (eVar 4) (eVar 5)))))))))))))
def G_law_meter_right (A : Ad) : List D → M := fnD 10 (B_law_meter_right A)
theorem ok_law_meter_right {P : Program} {w : World} {K : PySem.W.Frag} {mg : Str → Option Value} {base : Heap} {A : Ad} {f : Addr} {fd : FuncData} (T : Txt K mg A) (F : FunD K "_law_meter_right" "_law_meter_right" (defArgs s_law_meter_right) (defBody s_law_meter_right) (defScope s_law_meter_right) [] [] f fd) (c_Meter_name : Pc P w K mg base A.Meter "name" 1 (G_Meter_name A)) (c_Meter_at : Pc P w K mg base A.Meter "at" 1 (G_Meter_at A)) (c_Meter_sealed : Pc P w K mg base A.Meter "sealed" 1 (G_Meter_sealed A)) (c_Meter_eq : Ec P w K mg base A.Meter 1 (G_Meter_eq A)) (c_law_dip : Fc P w K mg base "_law_dip" 1 2 (G_law_dip A)) (c_law_name : Fc P w K mg base "_law_name" 2 1 (G_law_name A)) (c_law_fresh : Fc P w K mg base "_law_fresh" 3 2 (G_law_fresh A)) (mk_Meter_0_at_sealed_name : Mk_ P w K mg base "Meter" A.Meter 3 4 0 ["at", "sealed", "name"] (G_Meter_init A) (g_mk_Meter_0_at_sealed_name)) (mk_Meter_2 : Mc P w K mg base "Meter" A.Meter 3 4 (G_Meter_init A) [.bl false]) (mk_Meter_2_sealed : Mk_ P w K mg base "Meter" A.Meter 3 4 2 ["sealed"] (G_Meter_init A) (g_mk_Meter_2_sealed)) (mk_Pipe_3 : Mc P w K mg base "Pipe" A.Pipe 3 4 (G_Pipe_init A) []) :
    FnGd P w K mg base 5 f fd ["_law_well_here"] (spG K 1 (G_law_meter_right A)) := by
  refine fn_GG F sc_law_meter_right (fun cdv Ar outer s H E hgd hr => ?_)
  exact gss_cons (gs_par3 1 2 3 rfl sc_law_meter_right.nd (ga_cons (ge_callF c_law_name hr (ga_cons (ge_var 0) (ga_nil))) (ga_cons (ge_callF c_law_name hr (ga_cons (ge_var 0) (ga_nil))) (ga_cons (ge_cmp (op_eqA hr) ro_eqA (ge_callF c_law_dip hr (ga_cons (ge_var 0) (ga_cons (ge_int) (ga_nil)))) (ge_int) (nomark _)) (ga_nil)))))
    (gss_cons (gs_asg (ge_tup (ga_cons (ge_makeKF (ks := ["sealed"]) mk_Meter_2_sealed hr (ga_cons (ge_var 1) (ga_cons (ge_var 2) (ga_nil))) (gk_cons (ge_var 3) (gk_nil))) (ga_cons (ge_makeKF0 (ks := ["at", "sealed", "name"]) mk_Meter_0_at_sealed_name hr (gk_cons (ge_var 2) (gk_cons (ge_var 3) (gk_cons (ge_var 1) (gk_nil))))) (ga_nil)))) (gg_tup rfl (ggs_cons (gg_name 4 sc_law_meter_right.nd) (ggs_cons (gg_name 5 sc_law_meter_right.nd) (ggs_nil)))))
    (gss_cons (gs_for PassesOwn.never rfl (gi_list (ge_lst (ga_cons (ge_var 4) (ga_cons (ge_var 5) (ga_nil))))) (gg_name 6 sc_law_meter_right.nd) (gss_one (gs_if ((gw_or (gt_cmp (op_neA hr) ro_neA (ge_callB (call_repr hgd hr) rc_repr T.n_repr (by decide +kernel) (ga_cons (ge_lst (ga_cons (ge_propF c_Meter_name hr (ge_var 6)) (ga_cons (ge_propF c_Meter_at hr (ge_var 6)) (ga_cons (ge_propF c_Meter_sealed hr (ge_var 6)) (ga_nil))))) (ga_nil))) (ge_callB (call_repr hgd hr) rc_repr T.n_repr (by decide +kernel) (ga_cons (ge_lst (ga_cons (ge_var 1) (ga_cons (ge_var 2) (ga_cons (ge_var 3) (ga_nil))))) (ga_nil))) (nomark _)) (gw_or1 (gt_not (gt_tru (tru_obj0 T.tb_Meter T.tl_Meter) rt_obj0 (ge_var 6))))).gt) (gss_one (gs_ret (ge_bl))) (gss_nil))))
    (gss_cons (gs_set 7 sc_law_meter_right.nd (ge_makeF mk_Meter_2 hr (ga_cons (ge_var 1) (ga_cons (ge_var 2) (ga_nil)))))
    (gss_cons (gs_if ((gw_or (gt_cmp (op_neA hr) ro_neA (ge_callB (call_repr hgd hr) rc_repr T.n_repr (by decide +kernel) (ga_cons (ge_lst (ga_cons (ge_propF c_Meter_name hr (ge_var 7)) (ga_cons (ge_propF c_Meter_at hr (ge_var 7)) (ga_cons (ge_propF c_Meter_sealed hr (ge_var 7)) (ga_nil))))) (ga_nil))) (ge_callB (call_repr hgd hr) rc_repr T.n_repr (by decide +kernel) (ga_cons (ge_lst (ga_cons (ge_var 1) (ga_cons (ge_var 2) (ga_cons (ge_bl) (ga_nil))))) (ga_nil))) (nomark _)) (gw_or1 (gt_cmp (op_eqA hr) ro_eqA (ge_cmpM (op_eqF c_Meter_eq hr) (rom_eqOwn T.own T.nf_Meter) (ge_var 7) (ge_var 4) (nomark _)) (ge_var 3) (nomark _)))).gt) (gss_one (gs_ret (ge_bl))) (gss_nil))
    (gss_cons (gs_set 8 sc_law_meter_right.nd (ge_lst (ga_cons (ge_makeKF (ks := ["sealed"]) mk_Meter_2_sealed hr (ga_cons (ge_callF c_law_fresh hr (ga_cons (ge_var 0) (ga_cons (ge_lst (ga_cons (ge_var 1) (ga_nil))) (ga_nil)))) (ga_cons (ge_var 2) (ga_nil))) (gk_cons (ge_var 3) (gk_nil))) (ga_cons (ge_makeKF (ks := ["sealed"]) mk_Meter_2_sealed hr (ga_cons (ge_var 1) (ga_cons (ge_callF c_law_fresh hr (ga_cons (ge_var 0) (ga_cons (ge_lst (ga_cons (ge_var 2) (ga_nil))) (ga_nil)))) (ga_nil))) (gk_cons (ge_var 3) (gk_nil))) (ga_nil)))))
    (gss_cons (gs_set 8 sc_law_meter_right.nd (ge_op op_addA ro_addA (ge_var 8) (ge_lst (ga_cons (ge_makeKF (ks := ["sealed"]) mk_Meter_2_sealed hr (ga_cons (ge_var 1) (ga_cons (ge_var 2) (ga_nil))) (gk_cons (ge_notT tru_ok rt_tru (ge_var 3)) (gk_nil))) (ga_cons (ge_tup (ga_cons (ge_var 1) (ga_cons (ge_var 2) (ga_cons (ge_var 3) (ga_nil))))) (ga_cons (ge_makeF mk_Pipe_3 hr (ga_cons (ge_var 1) (ga_cons (ge_var 2) (ga_cons (ge_callF c_law_fresh hr (ga_cons (ge_var 0) (ga_cons (ge_lst (ga_cons (ge_var 2) (ga_nil))) (ga_nil)))) (ga_nil))))) (ga_cons (ge_var 1) (ga_nil))))))))
    (gss_cons (gs_if ((gw_or (gt_tru tru_ok rt_tru (ge_callB (cr_any rfl) rc_any T.n_any (by decide +kernel) (ga_cons (ge_lc (own := [("_law_other", 9)]) rfl sc_law_meter_right.nd (gi_list (ge_var 8)) (blkOk_by (by rfl)) (fun _ _ _ _ _ => gg_name 9 sc_law_meter_right.nd) (fun _ _ _ _ _ => gts_nil) (fun _ _ _ _ _ => ge_cmpM (op_eqF c_Meter_eq hr) (rom_eqOwn T.own T.nf_Meter) (ge_var 4) (ge_var 9) (nomark _))) (ga_nil)))) (gw_or1 (gt_not (gt_tru tru_ok rt_tru (ge_callB (cr_all rfl) rc_all T.n_all (by decide +kernel) (ga_cons (ge_lc (own := [("_law_other", 9)]) rfl sc_law_meter_right.nd (gi_list (ge_var 8)) (blkOk_by (by rfl)) (fun _ _ _ _ _ => gg_name 9 sc_law_meter_right.nd) (fun _ _ _ _ _ => gts_nil) (fun _ _ _ _ _ => ge_cmpM (op_neF c_Meter_eq hr) (rom_eqOwn T.own T.nf_Meter) (ge_var 4) (ge_var 9) (nomark _))) (ga_nil))))))).gt) (gss_one (gs_ret (ge_bl))) (gss_nil))
    (gss_one (gs_ret (ge_and (ge_cmpM (op_eqF c_Meter_eq hr) (rom_eqOwn T.own T.nf_Meter) (ge_var 4) (ge_var 5) (nomark _)) (ge_one (ge_notT tru_ok rt_tru (ge_cmpM (op_neF c_Meter_eq hr) (rom_eqOwn T.own T.nf_Meter) (ge_var 4) (ge_var 5) (nomark _))))))))))))))
/-! ### law -/
abbrev s_law : Stmt := top 21
theorem sc_law : FnScope ["_law_cells", "_law_k", "_law_well_here", "_law_turn"] ["_law_cells"] (defScope s_law) := ⟨rfl, rfl, rfl, by decide +kernel, rfl, by decide +kernel, by decide +kernel⟩
def B_law (A : Ad) : RV.Env → MS := sSeq (sFor (iRange1 (aCons (eCall max2D (aCons (eC (.int 2)) (aCons (eCall min2D (aCons (eCall lenD (aCons (eVar 0) (aNil))) (aCons (eC (.int 5)) (aNil)))) (aNil)))) (aNil))) (tName 1) (sSeq (sAsgN 2 (nFn 2 (G_law_well A) (aCons (eVar 0) (aCons (eVar 1) (aNil))))) (sIf (bNot (bTru truD (eCall allD (aCons (eLc (iRange1 (aCons (eC (.int 8)) (aNil))) (tName 3) (bYes) (eAnd (eFn 1 (G_law_pipe_right A) [] (aCons (eVar 2) (aNil))) (eFn 1 (G_law_meter_right A) [] (aCons (eVar 2) (aNil)))) [3]) (aNil))))) (sRet (eC (.bl false))) (sNil)))) (sRet (eC (.bl true)))
def G_law (A : Ad) : List D → M := fnD 4 (B_law A)
theorem ok_law {P : Program} {w : World} {K : PySem.W.Frag} {mg : Str → Option Value} {base : Heap} {A : Ad} {f : Addr} {fd : FuncData} (T : Txt K mg A) (F : FunD K "law" "law" (defArgs s_law) (defBody s_law) (defScope s_law) [] [] f fd) (c_law_well : Fn_ P w K mg base "_law_well" 1 2 (G_law_well A)) (c_law_pipe_right : Fg P w K mg base "_law_pipe_right" 5 1 (G_law_pipe_right A)) (c_law_meter_right : Fg P w K mg base "_law_meter_right" 5 1 (G_law_meter_right A)) :
    FnGd P w K mg base 6 f fd ["_law_cells"] (spG K 1 (G_law A)) := by
  refine fn_GG F sc_law (fun cdv Ar outer s H E hgd hr => ?_)
  exact gss_cons (gs_for PassesOwn.never rfl (gi_range1 T.n_range (ga_cons (ge_callB (call_max2 rfl) rc_max2 T.n_max (by decide +kernel) (ga_cons (ge_int) (ga_cons (ge_callB (call_min2 rfl) rc_min2 T.n_min (by decide +kernel) (ga_cons (ge_callB call_len rc_len T.n_len (by decide +kernel) (ga_cons (ge_var 0) (ga_nil))) (ga_cons (ge_int) (ga_nil)))) (ga_nil)))) (ga_nil))) (gg_name 1 sc_law.nd) (gss_cons (gs_setN 2 sc_law.nd (gn_callF c_law_well hr (ga_cons (ge_var 0) (ga_cons (ge_var 1) (ga_nil)))))
    (gss_one (gs_if (gt_not (gt_tru tru_ok rt_tru (ge_callB (cr_all rfl) rc_all T.n_all (by decide +kernel) (ga_cons (ge_lc (own := [("_law_turn", 3)]) rfl sc_law.nd (gi_range1 T.n_range (ga_cons (ge_int) (ga_nil))) (blkOk_by (by rfl)) (fun _ _ _ _ _ => gg_name 3 sc_law.nd) (fun _ _ _ _ _ => gts_nil) (fun _ _ _ _ _ => ge_and (ge_callGF c_law_pipe_right hgd hr (ga_cons (ge_var 2) (ga_nil))) (ge_one (ge_callGF c_law_meter_right hgd hr (ga_cons (ge_var 2) (ga_nil)))))) (ga_nil))))) (gss_one (gs_ret (ge_bl))) (gss_nil)))))
    (gss_one (gs_ret (ge_bl)))
end K9
end
section
namespace K9
open PySem L2 RV
def ad (K : PySem.W.Frag) : Ad := ⟨He.ga K "Pipe", He.ga K "Meter"⟩
def d_is_name : He5.DefA := ⟨fun K => He.ga K "is_name", "is_name", "is_name", defArgs s_is_name, defBody s_is_name, defScope s_is_name, [], []⟩
def d_check_name : He5.DefA := ⟨fun K => He.ga K "check_name", "check_name", "check_name", defArgs s_check_name, defBody s_check_name, defScope s_check_name, [], []⟩
def d_Pipe_init : He5.DefA := ⟨fun K => He.ma K (He.ga K "Pipe") "__init__", "__init__", "Pipe.__init__", defArgs s_Pipe_init, defBody s_Pipe_init, defScope s_Pipe_init, [], []⟩
def d_Pipe_name : He5.DefA := ⟨fun K => He5.wf K (He.ga K "Pipe") "property" "name", "name", "Pipe.name", defArgs s_Pipe_name, defBody s_Pipe_name, defScope s_Pipe_name, [], []⟩
def d_Pipe_start : He5.DefA := ⟨fun K => He5.wf K (He.ga K "Pipe") "property" "start", "start", "Pipe.start", defArgs s_Pipe_start, defBody s_Pipe_start, defScope s_Pipe_start, [], []⟩
def d_Pipe_end : He5.DefA := ⟨fun K => He5.wf K (He.ga K "Pipe") "property" "end", "end", "Pipe.end", defArgs s_Pipe_end, defBody s_Pipe_end, defScope s_Pipe_end, [], []⟩
def d_Pipe_eq : He5.DefA := ⟨fun K => He.ma K (He.ga K "Pipe") "__eq__", "__eq__", "Pipe.__eq__", defArgs s_Pipe_eq, defBody s_Pipe_eq, defScope s_Pipe_eq, [], []⟩
def d_Meter_init : He5.DefA := ⟨fun K => He.ma K (He.ga K "Meter") "__init__", "__init__", "Meter.__init__", defArgs s_Meter_init, defBody s_Meter_init, defScope s_Meter_init, [], [("sealed", .bl false)]⟩
def d_Meter_name : He5.DefA := ⟨fun K => He5.wf K (He.ga K "Meter") "property" "name", "name", "Meter.name", defArgs s_Meter_name, defBody s_Meter_name, defScope s_Meter_name, [], []⟩
def d_Meter_at : He5.DefA := ⟨fun K => He5.wf K (He.ga K "Meter") "property" "at", "at", "Meter.at", defArgs s_Meter_at, defBody s_Meter_at, defScope s_Meter_at, [], []⟩
def d_Meter_sealed : He5.DefA := ⟨fun K => He5.wf K (He.ga K "Meter") "property" "sealed", "sealed", "Meter.sealed", defArgs s_Meter_sealed, defBody s_Meter_sealed, defScope s_Meter_sealed, [], []⟩
def d_Meter_eq : He5.DefA := ⟨fun K => He.ma K (He.ga K "Meter") "__eq__", "__eq__", "Meter.__eq__", defArgs s_Meter_eq, defBody s_Meter_eq, defScope s_Meter_eq, [], []⟩
def d_law_well : He5.DefA := ⟨fun K => He.ga K "_law_well", "_law_well", "_law_well", defArgs s_law_well, defBody s_law_well, defScope s_law_well, [], []⟩
def d_law_dip : He5.DefA := ⟨fun K => He.ga K "_law_dip", "_law_dip", "_law_dip", defArgs s_law_dip, defBody s_law_dip, defScope s_law_dip, [], []⟩
def d_law_name : He5.DefA := ⟨fun K => He.ga K "_law_name", "_law_name", "_law_name", defArgs s_law_name, defBody s_law_name, defScope s_law_name, [], []⟩
def d_law_fresh : He5.DefA := ⟨fun K => He.ga K "_law_fresh", "_law_fresh", "_law_fresh", defArgs s_law_fresh, defBody s_law_fresh, defScope s_law_fresh, [], []⟩
def d_law_pipe_right : He5.DefA := ⟨fun K => He.ga K "_law_pipe_right", "_law_pipe_right", "_law_pipe_right", defArgs s_law_pipe_right, defBody s_law_pipe_right, defScope s_law_pipe_right, [], []⟩
def d_law_meter_right : He5.DefA := ⟨fun K => He.ga K "_law_meter_right", "_law_meter_right", "_law_meter_right", defArgs s_law_meter_right, defBody s_law_meter_right, defScope s_law_meter_right, [], []⟩
def d_law : He5.DefA := ⟨fun K => He.ga K "law", "law", "law", defArgs s_law, defBody s_law, defScope s_law, [], []⟩
def fn : List He5.DefA := [d_is_name, d_check_name, d_Pipe_init, d_Pipe_name, d_Pipe_start, d_Pipe_end, d_Pipe_eq, d_Meter_init, d_Meter_name, d_Meter_at, d_Meter_sealed, d_Meter_eq, d_law_well, d_law_dip, d_law_name, d_law_fresh, d_law_pipe_right, d_law_meter_right, d_law]
def fa : List He.Fa := [.glo "is_name", .glo "check_name", .glo "_law_well", .glo "_law_dip", .glo "_law_name", .glo "_law_fresh", .glo "_law_pipe_right", .glo "_law_meter_right", .glo "law", .glo "Pipe", .cls "Pipe", .mkr "Pipe", .glo "Meter", .cls "Meter", .mkr "Meter", .noat "Meter" "kept", .noat "Pipe" "kept", .free "abs", .free "all", .free "any", .free "bool", .free "divmod", .free "int", .free "isinstance", .free "len", .free "max", .free "min", .free "range", .free "repr", .free "str", .str "DIGITS" "0123456789", .str "LETTERS" "abcdefghijklmnopqrstuvwxyz", .int "LONGEST_NAME" 8]
def exs : List (PySem.W.Frag → Bool) := [fun K => kindB K (He.ga K "Pipe"), fun K => bareB K (He.ga K "Pipe"), fun K => eqB K (He.ga K "Pipe"), fun K => nfB K (He.ga K "Pipe") (kinds (ad K)), fun K => propB K (He.ga K "Pipe") "name", fun K => propB K (He.ga K "Pipe") "start", fun K => propB K (He.ga K "Pipe") "end", fun K => kindB K (He.ga K "Meter"), fun K => bareB K (He.ga K "Meter"), fun K => eqB K (He.ga K "Meter"), fun K => nfB K (He.ga K "Meter") (kinds (ad K)), fun K => propB K (He.ga K "Meter") "name", fun K => propB K (He.ga K "Meter") "at", fun K => propB K (He.ga K "Meter") "sealed", fun K => decide (([He.ga K "Pipe", He.ga K "Meter"] : List Addr).Nodup), fun K => tabB K (kinds (ad K)) (clss (ad K)) (sub (ad K))]
def exA (K : PySem.W.Frag) : Bool := exs.all fun f => f K
theorem exA_at {K : PySem.W.Frag} (h : exA K = true) (i : Nat) {f : PySem.W.Frag → Bool} (e : exs[i]? = some f) : f K = true := List.all_eq_true.mp h f (List.mem_of_getElem? e)
theorem ad_ok {K : PySem.W.Frag} (h : exA K = true) : AdOk (ad K) := of_decide_eq_true (p := (([He.ga K "Pipe", He.ga K "Meter"] : List Addr).Nodup)) (exA_at h 14 rfl)
abbrev R : PySem.W.OpenRow := PySem.W.OpenLaw.row PySem.Challenge.rw_ringvotes_k09_pipes_and_meters
abbrev hk : PySem.W.Hook := hookB 5 fa fn exA
def ob (s : PySem.W.SharedT) : He.AlD × Bool := obB 5 fa fn exA (HandSHeadRun.getT s)
theorem ob_eq (s : PySem.W.SharedT) : ob s = hk.obs s.abs := obB_eq (HandSHeadRun.getT_eq s)
theorem run (w : World) : HandSHeadRun.RunEq R (PySem.W.view R.prog [21]) hk ob 3000 ["BadValue", "InvalidName", "InvalidEnd", "InvalidFlag", "LETTERS", "DIGITS", "LONGEST_NAME", "is_name", "check_name", "Pipe", "Meter", "_law_well", "_law_dip", "_law_name", "_law_fresh", "_law_pipe_right", "_law_meter_right"] w := by
  intro os
  kernel_rfl
theorem facts {P : Program} {w : World} {K : PySem.W.Frag} {h : Heap} {mg : Str → Option Value} {f : Addr} (X : K.In h) (G : h.Ns mainGlobals mg) (hfa : mg ("law" : Str) = some (.ref f)) (c : He5.SaysA fa fn K) (cx : exA K = true) :
    ∃ fd : FuncData, (∀ (s : Shared) (v : Value), BindsTo s fd ⟨[v], []⟩ [("_law_cells", v)]) ∧ ∀ base : Heap, K.In base → base.Ns mainGlobals mg → FnGd P w K mg base 6 f fd ["_law_cells"] (spG K 1 (G_law (ad K))) := by
  have T : Txt K mg (ad K) :=
    { n_abs := He.free_ok X G (c.fact 17 (f := .free "abs") rfl)
      n_all := He.free_ok X G (c.fact 18 (f := .free "all") rfl)
      n_any := He.free_ok X G (c.fact 19 (f := .free "any") rfl)
      n_bool := He.free_ok X G (c.fact 20 (f := .free "bool") rfl)
      n_divmod := He.free_ok X G (c.fact 21 (f := .free "divmod") rfl)
      n_int := He.free_ok X G (c.fact 22 (f := .free "int") rfl)
      n_isinstance := He.free_ok X G (c.fact 23 (f := .free "isinstance") rfl)
      n_len := He.free_ok X G (c.fact 24 (f := .free "len") rfl)
      n_max := He.free_ok X G (c.fact 25 (f := .free "max") rfl)
      n_min := He.free_ok X G (c.fact 26 (f := .free "min") rfl)
      n_range := He.free_ok X G (c.fact 27 (f := .free "range") rfl)
      n_repr := He.free_ok X G (c.fact 28 (f := .free "repr") rfl)
      n_str := He.free_ok X G (c.fact 29 (f := .free "str") rfl)
      g_DIGITS := He.str_ok X G (c.fact 30 (f := .str "DIGITS" "0123456789") rfl)
      g_LETTERS := He.str_ok X G (c.fact 31 (f := .str "LETTERS" "abcdefghijklmnopqrstuvwxyz") rfl)
      g_LONGEST_NAME := He.int_ok X G (c.fact 32 (f := .int "LONGEST_NAME" 8) rfl)
      m_Pipe := He.glo_ok X G (c.fact 9 (f := .glo "Pipe") rfl)
      m_Meter := He.glo_ok X G (c.fact 12 (f := .glo "Meter") rfl)
      k_Pipe := kindB_ok (He.cls_ok (c.fact 10 (f := .cls "Pipe") rfl)) (exA_at cx 0 rfl)
      k_Meter := kindB_ok (He.cls_ok (c.fact 13 (f := .cls "Meter") rfl)) (exA_at cx 7 rfl)
      no_Meter_kept := He.noat_ok (c.fact 15 (f := .noat "Meter" "kept") rfl)
      no_Pipe_kept := He.noat_ok (c.fact 16 (f := .noat "Pipe" "kept") rfl)
      tb_Pipe := (bareB_ok (exA_at cx 1 rfl)).1
      tl_Pipe := (bareB_ok (exA_at cx 1 rfl)).2
      tb_Meter := (bareB_ok (exA_at cx 8 rfl)).1
      tl_Meter := (bareB_ok (exA_at cx 8 rfl)).2
      kit := tabB_ok (exA_at cx 15 rfl)
      nf_Pipe := nfB_ok (exA_at cx 3 rfl)
      nf_Meter := nfB_ok (exA_at cx 10 rfl) }
  obtain ⟨fd_is_name, F0_is_name⟩ := c.def_ 0 (d := d_is_name) rfl
  have F_is_name : FunD K "is_name" "is_name" (defArgs s_is_name) (defBody s_is_name) (defScope s_is_name) [] [] (d_is_name.at_ K) fd_is_name := F0_is_name
  have b_is_name : Binds K fd_is_name ["value"] [] := F_is_name.bindsN fun _ _ _ _ _ _ us hl => match us, hl with | [_], _ => rfl
  obtain ⟨fd_check_name, F0_check_name⟩ := c.def_ 1 (d := d_check_name) rfl
  have F_check_name : FunD K "check_name" "check_name" (defArgs s_check_name) (defBody s_check_name) (defScope s_check_name) [] [] (d_check_name.at_ K) fd_check_name := F0_check_name
  have b_check_name : Binds K fd_check_name ["value"] [] := F_check_name.bindsN fun _ _ _ _ _ _ us hl => match us, hl with | [_], _ => rfl
  obtain ⟨fd_Pipe_init, F0_Pipe_init⟩ := c.def_ 2 (d := d_Pipe_init) rfl
  have F_Pipe_init : FunD K "__init__" "Pipe.__init__" (defArgs s_Pipe_init) (defBody s_Pipe_init) (defScope s_Pipe_init) [] [] (d_Pipe_init.at_ K) fd_Pipe_init := F0_Pipe_init
  have b_Pipe_init : Binds K fd_Pipe_init ["self", "name", "start", "end"] [] := F_Pipe_init.bindsN fun _ _ _ _ _ _ us hl => match us, hl with | [_, _, _, _], _ => rfl
  obtain ⟨fd_Pipe_name, F0_Pipe_name⟩ := c.def_ 3 (d := d_Pipe_name) rfl
  have F_Pipe_name : FunD K "name" "Pipe.name" (defArgs s_Pipe_name) (defBody s_Pipe_name) (defScope s_Pipe_name) [] [] (d_Pipe_name.at_ K) fd_Pipe_name := F0_Pipe_name
  have b_Pipe_name : Binds K fd_Pipe_name ["self"] [] := F_Pipe_name.bindsN fun _ _ _ _ _ _ us hl => match us, hl with | [_], _ => rfl
  obtain ⟨fd_Pipe_start, F0_Pipe_start⟩ := c.def_ 4 (d := d_Pipe_start) rfl
  have F_Pipe_start : FunD K "start" "Pipe.start" (defArgs s_Pipe_start) (defBody s_Pipe_start) (defScope s_Pipe_start) [] [] (d_Pipe_start.at_ K) fd_Pipe_start := F0_Pipe_start
  have b_Pipe_start : Binds K fd_Pipe_start ["self"] [] := F_Pipe_start.bindsN fun _ _ _ _ _ _ us hl => match us, hl with | [_], _ => rfl
  obtain ⟨fd_Pipe_end, F0_Pipe_end⟩ := c.def_ 5 (d := d_Pipe_end) rfl
  have F_Pipe_end : FunD K "end" "Pipe.end" (defArgs s_Pipe_end) (defBody s_Pipe_end) (defScope s_Pipe_end) [] [] (d_Pipe_end.at_ K) fd_Pipe_end := F0_Pipe_end
  have b_Pipe_end : Binds K fd_Pipe_end ["self"] [] := F_Pipe_end.bindsN fun _ _ _ _ _ _ us hl => match us, hl with | [_], _ => rfl
  obtain ⟨fd_Pipe_eq, F0_Pipe_eq⟩ := c.def_ 6 (d := d_Pipe_eq) rfl
  have F_Pipe_eq : FunD K "__eq__" "Pipe.__eq__" (defArgs s_Pipe_eq) (defBody s_Pipe_eq) (defScope s_Pipe_eq) [] [] (d_Pipe_eq.at_ K) fd_Pipe_eq := F0_Pipe_eq
  have b_Pipe_eq : Binds K fd_Pipe_eq ["self", "other"] [] := F_Pipe_eq.bindsN fun _ _ _ _ _ _ us hl => match us, hl with | [_, _], _ => rfl
  obtain ⟨fd_Meter_init, F0_Meter_init⟩ := c.def_ 7 (d := d_Meter_init) rfl
  have F_Meter_init : FunD K "__init__" "Meter.__init__" (defArgs s_Meter_init) (defBody s_Meter_init) (defScope s_Meter_init) [] [("sealed", .bl false)] (d_Meter_init.at_ K) fd_Meter_init := F0_Meter_init
  obtain ⟨fd_Meter_name, F0_Meter_name⟩ := c.def_ 8 (d := d_Meter_name) rfl
  have F_Meter_name : FunD K "name" "Meter.name" (defArgs s_Meter_name) (defBody s_Meter_name) (defScope s_Meter_name) [] [] (d_Meter_name.at_ K) fd_Meter_name := F0_Meter_name
  have b_Meter_name : Binds K fd_Meter_name ["self"] [] := F_Meter_name.bindsN fun _ _ _ _ _ _ us hl => match us, hl with | [_], _ => rfl
  obtain ⟨fd_Meter_at, F0_Meter_at⟩ := c.def_ 9 (d := d_Meter_at) rfl
  have F_Meter_at : FunD K "at" "Meter.at" (defArgs s_Meter_at) (defBody s_Meter_at) (defScope s_Meter_at) [] [] (d_Meter_at.at_ K) fd_Meter_at := F0_Meter_at
  have b_Meter_at : Binds K fd_Meter_at ["self"] [] := F_Meter_at.bindsN fun _ _ _ _ _ _ us hl => match us, hl with | [_], _ => rfl
  obtain ⟨fd_Meter_sealed, F0_Meter_sealed⟩ := c.def_ 10 (d := d_Meter_sealed) rfl
  have F_Meter_sealed : FunD K "sealed" "Meter.sealed" (defArgs s_Meter_sealed) (defBody s_Meter_sealed) (defScope s_Meter_sealed) [] [] (d_Meter_sealed.at_ K) fd_Meter_sealed := F0_Meter_sealed
  have b_Meter_sealed : Binds K fd_Meter_sealed ["self"] [] := F_Meter_sealed.bindsN fun _ _ _ _ _ _ us hl => match us, hl with | [_], _ => rfl
  obtain ⟨fd_Meter_eq, F0_Meter_eq⟩ := c.def_ 11 (d := d_Meter_eq) rfl
  have F_Meter_eq : FunD K "__eq__" "Meter.__eq__" (defArgs s_Meter_eq) (defBody s_Meter_eq) (defScope s_Meter_eq) [] [] (d_Meter_eq.at_ K) fd_Meter_eq := F0_Meter_eq
  have b_Meter_eq : Binds K fd_Meter_eq ["self", "other"] [] := F_Meter_eq.bindsN fun _ _ _ _ _ _ us hl => match us, hl with | [_, _], _ => rfl
  obtain ⟨fd_law_well, F0_law_well⟩ := c.def_ 12 (d := d_law_well) rfl
  have F_law_well : FunD K "_law_well" "_law_well" (defArgs s_law_well) (defBody s_law_well) (defScope s_law_well) [] [] (d_law_well.at_ K) fd_law_well := F0_law_well
  have b_law_well : Binds K fd_law_well ["_law_cells", "_law_k"] [] := F_law_well.bindsN fun _ _ _ _ _ _ us hl => match us, hl with | [_, _], _ => rfl
  obtain ⟨fd_law_dip, F0_law_dip⟩ := c.def_ 13 (d := d_law_dip) rfl
  have F_law_dip : FunD K "_law_dip" "_law_dip" (defArgs s_law_dip) (defBody s_law_dip) (defScope s_law_dip) [] [] (d_law_dip.at_ K) fd_law_dip := F0_law_dip
  have b_law_dip : Binds K fd_law_dip ["_law_well_here", "_law_many"] [] := F_law_dip.bindsN fun _ _ _ _ _ _ us hl => match us, hl with | [_, _], _ => rfl
  obtain ⟨fd_law_name, F0_law_name⟩ := c.def_ 14 (d := d_law_name) rfl
  have F_law_name : FunD K "_law_name" "_law_name" (defArgs s_law_name) (defBody s_law_name) (defScope s_law_name) [] [] (d_law_name.at_ K) fd_law_name := F0_law_name
  have b_law_name : Binds K fd_law_name ["_law_well_here"] [] := F_law_name.bindsN fun _ _ _ _ _ _ us hl => match us, hl with | [_], _ => rfl
  obtain ⟨fd_law_fresh, F0_law_fresh⟩ := c.def_ 15 (d := d_law_fresh) rfl
  have F_law_fresh : FunD K "_law_fresh" "_law_fresh" (defArgs s_law_fresh) (defBody s_law_fresh) (defScope s_law_fresh) [] [] (d_law_fresh.at_ K) fd_law_fresh := F0_law_fresh
  have b_law_fresh : Binds K fd_law_fresh ["_law_well_here", "_law_taken"] [] := F_law_fresh.bindsN fun _ _ _ _ _ _ us hl => match us, hl with | [_, _], _ => rfl
  obtain ⟨fd_law_pipe_right, F0_law_pipe_right⟩ := c.def_ 16 (d := d_law_pipe_right) rfl
  have F_law_pipe_right : FunD K "_law_pipe_right" "_law_pipe_right" (defArgs s_law_pipe_right) (defBody s_law_pipe_right) (defScope s_law_pipe_right) [] [] (d_law_pipe_right.at_ K) fd_law_pipe_right := F0_law_pipe_right
  have b_law_pipe_right : Binds K fd_law_pipe_right ["_law_well_here"] [] := F_law_pipe_right.bindsN fun _ _ _ _ _ _ us hl => match us, hl with | [_], _ => rfl
  obtain ⟨fd_law_meter_right, F0_law_meter_right⟩ := c.def_ 17 (d := d_law_meter_right) rfl
  have F_law_meter_right : FunD K "_law_meter_right" "_law_meter_right" (defArgs s_law_meter_right) (defBody s_law_meter_right) (defScope s_law_meter_right) [] [] (d_law_meter_right.at_ K) fd_law_meter_right := F0_law_meter_right
  have b_law_meter_right : Binds K fd_law_meter_right ["_law_well_here"] [] := F_law_meter_right.bindsN fun _ _ _ _ _ _ us hl => match us, hl with | [_], _ => rfl
  obtain ⟨fd_law, F0_law⟩ := c.def_ 18 (d := d_law) rfl
  have F_law : FunD K "law" "law" (defArgs s_law) (defBody s_law) (defScope s_law) [] [] (d_law.at_ K) fd_law := F0_law
  have b_law : Binds K fd_law ["_law_cells"] [] := F_law.bindsN fun _ _ _ _ _ _ us hl => match us, hl with | [_], _ => rfl
  have e := hfa.symm.trans (He.glo_ok X G (c.fact 8 (f := .glo "law") rfl))
  cases e
  have bA := FunD.bindsA (ps := ["_law_cells"]) F_law fun _ _ _ _ _ _ us hl => match us, hl with | [_], _ => rfl
  refine ⟨fd_law, fun s v => bA s [v] rfl, fun base _ _ => ?_⟩
  have ok0_is_name := ok_is_name (P := P) (w := w) (base := base) T F_is_name 
  have c_is_name : Fc P w K mg base "is_name" 1 1 (G_is_name (ad K)) := ⟨_, fd_is_name, ["value"], ok0_is_name, b_is_name, F_is_name.kp, He.glo_ok X G (c.fact 0 (f := .glo "is_name") rfl)⟩
  have ok0_check_name := ok_check_name (P := P) (w := w) (base := base) T F_check_name c_is_name
  have c_check_name : Fc P w K mg base "check_name" 2 1 (G_check_name (ad K)) := ⟨_, fd_check_name, ["value"], ok0_check_name, b_check_name, F_check_name.kp, He.glo_ok X G (c.fact 1 (f := .glo "check_name") rfl)⟩
  have ok0_Pipe_init := ok_Pipe_init (P := P) (w := w) (base := base) T F_Pipe_init c_check_name
  have mk_Pipe_0_end_start_name : Mk_ P w K mg base "Pipe" (ad K).Pipe 3 4 0 ["end", "start", "name"] (G_Pipe_init (ad K)) (g_mk_Pipe_0_end_start_name) := mkK_of 0 ["end", "start", "name"] [2, 1, 0] F_Pipe_init (He.mkr_ok (c.fact 11 (f := .mkr "Pipe") rfl)) ok0_Pipe_init T.m_Pipe fun _ _ _ _ _ _ us ws hu hw => match us, hu, ws, hw with | [_], _, [_, _, _], _ => rfl
  have mk_Pipe_3 : Mc P w K mg base "Pipe" (ad K).Pipe 3 4 (G_Pipe_init (ad K)) [] := ⟨_, fd_Pipe_init, ["self", "name", "start", "end"], [], [], He.mkr_ok (c.fact 11 (f := .mkr "Pipe") rfl), ok0_Pipe_init, b_Pipe_init, .nil, fun _ _ => .nil, T.m_Pipe⟩
  have ok0_Pipe_name := ok_Pipe_name (P := P) (w := w) (base := base) T F_Pipe_name 
  have c_Pipe_name : Pc P w K mg base (ad K).Pipe "name" 1 (G_Pipe_name (ad K)) := ⟨_, _, fd_Pipe_name, ["self"], T.k_Pipe.cl, propB_ok (exA_at cx 4 rfl), ok0_Pipe_name, b_Pipe_name⟩
  have ok0_Pipe_start := ok_Pipe_start (P := P) (w := w) (base := base) T F_Pipe_start 
  have c_Pipe_start : Pc P w K mg base (ad K).Pipe "start" 1 (G_Pipe_start (ad K)) := ⟨_, _, fd_Pipe_start, ["self"], T.k_Pipe.cl, propB_ok (exA_at cx 5 rfl), ok0_Pipe_start, b_Pipe_start⟩
  have ok0_Pipe_end := ok_Pipe_end (P := P) (w := w) (base := base) T F_Pipe_end 
  have c_Pipe_end : Pc P w K mg base (ad K).Pipe "end" 1 (G_Pipe_end (ad K)) := ⟨_, _, fd_Pipe_end, ["self"], T.k_Pipe.cl, propB_ok (exA_at cx 6 rfl), ok0_Pipe_end, b_Pipe_end⟩
  have ok0_Pipe_eq := ok_Pipe_eq (P := P) (w := w) (base := base) T F_Pipe_eq 
  have c_Pipe_eq : Ec P w K mg base (ad K).Pipe 1 (G_Pipe_eq (ad K)) := ec_of (exA_at cx 2 rfl) ok0_Pipe_eq b_Pipe_eq
  have ok0_Meter_init := ok_Meter_init (P := P) (w := w) (base := base) T F_Meter_init c_check_name
  have mk_Meter_0_at_sealed_name : Mk_ P w K mg base "Meter" (ad K).Meter 3 4 0 ["at", "sealed", "name"] (G_Meter_init (ad K)) (g_mk_Meter_0_at_sealed_name) := mkK_of 0 ["at", "sealed", "name"] [2, 0, 1] F_Meter_init (He.mkr_ok (c.fact 14 (f := .mkr "Meter") rfl)) ok0_Meter_init T.m_Meter fun _ _ _ _ _ _ us ws hu hw => match us, hu, ws, hw with | [_], _, [_, _, _], _ => rfl
  obtain ⟨ds_mk_Meter_2, hv_mk_Meter_2, hb_mk_Meter_2⟩ := F_Meter_init.binds0 (ps := ["self", "name", "at", "sealed"]) 3 (by decide) rfl fun _ _ _ _ _ _ us ks hu hk => match us, hu, ks, hk with | [_, _, _], _, [_], _ => ⟨_, _, _, _, _, _, rfl, rfl, rfl⟩
  have mk_Meter_2 : Mc P w K mg base "Meter" (ad K).Meter 3 4 (G_Meter_init (ad K)) [.bl false] := ⟨_, fd_Meter_init, ["self", "name", "at", "sealed"], _, ds_mk_Meter_2, He.mkr_ok (c.fact 14 (f := .mkr "Meter") rfl), ok0_Meter_init, hb_mk_Meter_2, hv_mk_Meter_2, fun _ _ => .cons (.bl false) (.nil), T.m_Meter⟩
  have mk_Meter_2_sealed : Mk_ P w K mg base "Meter" (ad K).Meter 3 4 2 ["sealed"] (G_Meter_init (ad K)) (g_mk_Meter_2_sealed) := mkK_of 2 ["sealed"] [0] F_Meter_init (He.mkr_ok (c.fact 14 (f := .mkr "Meter") rfl)) ok0_Meter_init T.m_Meter fun _ _ _ _ _ _ us ws hu hw => match us, hu, ws, hw with | [_, _, _], _, [_], _ => rfl
  have ok0_Meter_name := ok_Meter_name (P := P) (w := w) (base := base) T F_Meter_name 
  have c_Meter_name : Pc P w K mg base (ad K).Meter "name" 1 (G_Meter_name (ad K)) := ⟨_, _, fd_Meter_name, ["self"], T.k_Meter.cl, propB_ok (exA_at cx 11 rfl), ok0_Meter_name, b_Meter_name⟩
  have ok0_Meter_at := ok_Meter_at (P := P) (w := w) (base := base) T F_Meter_at 
  have c_Meter_at : Pc P w K mg base (ad K).Meter "at" 1 (G_Meter_at (ad K)) := ⟨_, _, fd_Meter_at, ["self"], T.k_Meter.cl, propB_ok (exA_at cx 12 rfl), ok0_Meter_at, b_Meter_at⟩
  have ok0_Meter_sealed := ok_Meter_sealed (P := P) (w := w) (base := base) T F_Meter_sealed 
  have c_Meter_sealed : Pc P w K mg base (ad K).Meter "sealed" 1 (G_Meter_sealed (ad K)) := ⟨_, _, fd_Meter_sealed, ["self"], T.k_Meter.cl, propB_ok (exA_at cx 13 rfl), ok0_Meter_sealed, b_Meter_sealed⟩
  have ok0_Meter_eq := ok_Meter_eq (P := P) (w := w) (base := base) T F_Meter_eq 
  have c_Meter_eq : Ec P w K mg base (ad K).Meter 1 (G_Meter_eq (ad K)) := ec_of (exA_at cx 9 rfl) ok0_Meter_eq b_Meter_eq
  have ok0_law_well := ok_law_well (P := P) (w := w) (base := base) T F_law_well 
  have c_law_well : Fn_ P w K mg base "_law_well" 1 2 (G_law_well (ad K)) := ⟨_, fd_law_well, ["_law_cells", "_law_k"], ok0_law_well, b_law_well, F_law_well.kp, He.glo_ok X G (c.fact 2 (f := .glo "_law_well") rfl)⟩
  have ok0_law_dip := ok_law_dip (P := P) (w := w) (base := base) T F_law_dip 
  have c_law_dip : Fc P w K mg base "_law_dip" 1 2 (G_law_dip (ad K)) := ⟨_, fd_law_dip, ["_law_well_here", "_law_many"], ok0_law_dip, b_law_dip, F_law_dip.kp, He.glo_ok X G (c.fact 3 (f := .glo "_law_dip") rfl)⟩
  have ok0_law_name := ok_law_name (P := P) (w := w) (base := base) T F_law_name c_law_dip
  have c_law_name : Fc P w K mg base "_law_name" 2 1 (G_law_name (ad K)) := ⟨_, fd_law_name, ["_law_well_here"], ok0_law_name, b_law_name, F_law_name.kp, He.glo_ok X G (c.fact 4 (f := .glo "_law_name") rfl)⟩
  have ok0_law_fresh := ok_law_fresh (P := P) (w := w) (base := base) T F_law_fresh c_law_dip c_law_name
  have c_law_fresh : Fc P w K mg base "_law_fresh" 3 2 (G_law_fresh (ad K)) := ⟨_, fd_law_fresh, ["_law_well_here", "_law_taken"], ok0_law_fresh, b_law_fresh, F_law_fresh.kp, He.glo_ok X G (c.fact 5 (f := .glo "_law_fresh") rfl)⟩
  have ok0_law_pipe_right := ok_law_pipe_right (P := P) (w := w) (base := base) T F_law_pipe_right c_Pipe_name c_Pipe_start c_Pipe_end c_Pipe_eq c_law_name c_law_fresh mk_Meter_2 mk_Pipe_0_end_start_name mk_Pipe_3
  have c_law_pipe_right : Fg P w K mg base "_law_pipe_right" 5 1 (G_law_pipe_right (ad K)) := ⟨_, fd_law_pipe_right, ["_law_well_here"], ok0_law_pipe_right, b_law_pipe_right, F_law_pipe_right.kp, He.glo_ok X G (c.fact 6 (f := .glo "_law_pipe_right") rfl)⟩
  have ok0_law_meter_right := ok_law_meter_right (P := P) (w := w) (base := base) T F_law_meter_right c_Meter_name c_Meter_at c_Meter_sealed c_Meter_eq c_law_dip c_law_name c_law_fresh mk_Meter_0_at_sealed_name mk_Meter_2 mk_Meter_2_sealed mk_Pipe_3
  have c_law_meter_right : Fg P w K mg base "_law_meter_right" 5 1 (G_law_meter_right (ad K)) := ⟨_, fd_law_meter_right, ["_law_well_here"], ok0_law_meter_right, b_law_meter_right, F_law_meter_right.kp, He.glo_ok X G (c.fact 7 (f := .glo "_law_meter_right") rfl)⟩
  exact ok_law T F_law c_law_well c_law_pipe_right c_law_meter_right
end K9
end
section
namespace K9
open PySem L2 RV
theorem dip_is (A : Ad) : G_law_dip A = dipD := rfl
theorem well_is (A : Ad) : G_law_well A = wellD := rfl
theorem name_is (A : Ad) : G_law_name A = nameD := rfl
theorem fresh_is (A : Ad) : G_law_fresh A = freshD := rfl
theorem allD_true {S : WS} {n : Nat} : allD S [.lst (List.replicate n (.bl true))] = some (.bl true) := by
  have : boolsD (List.replicate n (.bl true)) = some (List.replicate n true) := by
    induction n with
    | zero => rfl
    | succ n ih => simp [List.replicate_succ, boolsD, ih]
  simp [allD, this]
/-! ### names are taken -/
theorem kind_mem {A : Ad} : Value.type "str" ∈ kinds A ∧ Value.type "bool" ∈ kinds A ∧ Value.ref A.Pipe ∈ kinds A ∧ Value.ref A.Meter ∈ kinds A ∧ Value.type "tuple" ∈ kinds A ∧ Value.type "NoneType" ∈ kinds A := by
  simp [kinds]
theorem cls_mem {A : Ad} : Value.type "str" ∈ clss A ∧ Value.type "bool" ∈ clss A ∧ Value.ref A.Pipe ∈ clss A ∧ Value.ref A.Meter ∈ clss A := by
  simp [clss]
theorem isi_of {A : Ad} {S : WS} {x c : D} {t u : Value} (h1 : kindD (own A) x = some t) (h2 : clsD c = some u) (h3 : t ∈ kinds A) (h4 : u ∈ clss A) : isiD (own A) (tab A) S [x, c] = some (.bl (decide (t = u))) := by
  simp only [isiD, h1, h2, Option.bind_some, tab, tabD, h3, h4, and_self, if_true, Option.map_some, sub]
theorem isName_ok {A : Ad} {S : WS} {s : Str} (h : Nm s) : G_is_name A [.str s] S = some (.bl true, S) := by
  have hl := nm_len h
  have hs := nm_small h
  have i1 : isiD (own A) (tab A) S [.str s, .ty "str"] = some (.bl true) := by
    rw [isi_of (t := .type "str") (u := .type "str") rfl rfl kind_mem.1 cls_mem.1]
    simp
  have hall := nm_all h
  have h' := h
  unfold Nm nmL at h'
  split at h'
  · cases h'
  · rename_i c r e
    simp only [Bool.and_eq_true, decide_eq_true_eq, List.all_eq_true] at h'
    have hc : c ∈ ("abcdefghijklmnopqrstuvwxyz" : Str).cps.toList := of_decide_eq_true h'.1
    have a0 : atI s.cps.toList 0 = some c := by
      rw [e]
      unfold atI ixN
      simp
    have l1 : (1 : Int) ≤ (s.length : Nat) := by omega
    have l2 : ((s.length : Nat) : Int) ≤ 8 := by omega
    have lc : lcD (tName 1) bYes (eOr (eOp (inSD false) (eVar 1) (eC (.str "abcdefghijklmnopqrstuvwxyz"))) (eOp (inSD false) (eVar 1) (eC (.str "0123456789")))) (wipeE [some (.str s), none] [1]) (s.cps.toList.map fun c => D.str ⟨#[c]⟩) S = some (List.replicate s.cps.toList.length (.bl true), S) := by
      rw [lc_pure (p := fun _ => true) (g := fun _ => .bl true)]
      · rw [List.filter_eq_self.mpr (fun _ _ => rfl), List.map_map]
        congr 2
        rw [List.eq_replicate_iff]
        simp
      · intro x hx
        obtain ⟨q, hq, rfl⟩ := List.mem_map.mp hx
        refine ⟨_, rfl, rfl, fun _ => ?_⟩
        have hq2 := hall q hq
        by_cases hL : q ∈ ("abcdefghijklmnopqrstuvwxyz" : Str).cps.toList
        · simp only [wipeE, List.set, eOr, bBl, eOp, eVar, List.getElem?_cons_zero, List.getElem?_cons_succ, Option.bind_some, eC, inSD, hL, decide_true, Option.map_some, if_true, Bool.false_eq_true, if_false]
        · have hD : q ∈ ("0123456789" : Str).cps.toList := by
            simp only [Bool.or_eq_true, isLt, isDg, decide_eq_true_eq] at hq2
            rcases hq2 with z | z
            · exact absurd z hL
            · exact z
          simp only [wipeE, List.set, eOr, bBl, eOp, eVar, List.getElem?_cons_zero, List.getElem?_cons_succ, Option.bind_some, eC, inSD, hL, hD, decide_true, decide_false, Option.map_some, if_true, Bool.false_eq_true, if_false]
    have hsm : small (s.cps.toList.map fun c => D.str ⟨#[c]⟩).length = true := by
      rw [List.length_map, ← len_cps]
      exact hs
    have st : startE 2 [D.str s] = [some (.str s), none] := rfl
    simp only [G_is_name, fnD, st, B_is_name, sSeq, sIf, bOr, bNot, bTru, eCall, aCons, eVar, List.getElem?_cons_zero, List.getElem?_cons_succ, Option.bind_some, eC, aNil, Option.map_some, i1, truD, Bool.not_true, Bool.false_eq_true, if_false, bChain, lenD, hs, if_true, leD_int, l1, l2, decide_true, bBl, eOp, ixD, a0, inSD, hc, sNil, sRet, eLc, iStrD, hsm, lc, allD_true]
    exact fin_same rfl
theorem check_ok {A : Ad} {S : WS} {s : Str} (h : Nm s) : G_check_name A [.str s] S = some (.non, S) := by
  have st : startE 1 [D.str s] = [some (.str s)] := rfl
  simp only [G_check_name, fnD, st, B_check_name, sIf, bNot, bTru, eFn, aCons, aNil, eVar, List.getElem?_cons_zero, Option.bind_some, Option.map_some, List.append_nil, List.length_cons, List.length_nil, Nat.zero_add, if_true, isName_ok h, truD, Bool.not_true, Bool.false_eq_true, if_false, sNil]
  exact fin_same rfl
/-! ### pipes and meters -/
def pipeV (A : Ad) (a b c : Str) : D := .obj A.Pipe [("kept", .tup [.str a, .str b, .str c])]
def meterV (A : Ad) (a b : Str) (f : Bool) : D := .obj A.Meter [("kept", .tup [.str a, .str b, .bl f])]
theorem last_at {S : WS} {c : Cell} : (S ++ [c])[S.length]? = some c := by simp
theorem last_set {S : WS} {c d : Cell} : (S ++ [c]).set S.length d = S ++ [d] := by simp
theorem last_take {S : WS} {c : Cell} : (S ++ [c]).take S.length = S := by simp
theorem mk_pipe {A : Ad} {S : WS} {a b c : Str} (ha : Nm a) (hb : Nm b) (hc : Nm c) (h : c ≠ b) : makeD A.Pipe 4 (G_Pipe_init A) [.str a, .str b, .str c] S = some (pipeV A a b c, S) := by
  have st : startE 4 [D.cell S.length, .str a, .str b, .str c] = [some (.cell S.length), some (.str a), some (.str b), some (.str c)] := rfl
  have ck : ∀ x, Nm x → ∀ S, G_check_name A [.str x] S = some (.non, S) := fun x hx S => check_ok hx
  have cl : ∀ x y z : Str, D.clean 0 (.tup [.str x, .str y, .str z]) = true := fun _ _ _ => rfl
  have s3 : small ([D.str a, .str b, .str c].length) = true := rfl
  have b : G_Pipe_init A [.cell S.length, .str a, .str b, .str c] (S ++ [.ob A.Pipe []]) = some (.non, S ++ [.ob A.Pipe [("kept", .tup [.str a, .str b, .str c])]]) := by
    simp only [G_Pipe_init, fnD, st, B_Pipe_init, sSeq, sDrop, eFn, aCons, aNil, eVar, List.getElem?_cons_zero, List.getElem?_cons_succ, Option.bind_some, Option.map_some, List.append_nil, List.length_cons, List.length_nil, Nat.zero_add, if_true, ck a ha, ck b hb, ck c hc, sIf, bBl, eOp, eqD_str, h, decide_false, Bool.false_eq_true, if_false, sNil, sFldD, eSeq, show small (0 + 1 + 1 + 1) = true from rfl, last_at, last_set, cl, true_and, show (0 : Nat) < 1000 from by decide, putD, and_self, show small (1 + 1 + 1) = true from rfl]
    exact fin_same (by simp)
  simp only [makeD, List.length_cons, List.length_nil, Nat.zero_add, show (1 + 1 + 1 + 1 = 4) from rfl, if_true, b, List.length_append, last_at, last_take, pipeV]
theorem mk_meter {A : Ad} {S : WS} {a b : Str} {f : Bool} (ha : Nm a) (hb : Nm b) : makeD A.Meter 4 (G_Meter_init A) [.str a, .str b, .bl f] S = some (meterV A a b f, S) := by
  have st : startE 4 [D.cell S.length, .str a, .str b, .bl f] = [some (.cell S.length), some (.str a), some (.str b), some (.bl f)] := rfl
  have ck : ∀ x, Nm x → ∀ S, G_check_name A [.str x] S = some (.non, S) := fun x hx S => check_ok hx
  have cl : D.clean 0 (.tup [.str a, .str b, .bl f]) = true := rfl
  have i1 : ∀ S, isiD (own A) (tab A) S [.bl f, .ty "bool"] = some (.bl true) := fun S => by
    rw [isi_of (t := .type "bool") (u := .type "bool") rfl rfl kind_mem.2.1 cls_mem.2.1]
    simp
  have b : G_Meter_init A [.cell S.length, .str a, .str b, .bl f] (S ++ [.ob A.Meter []]) = some (.non, S ++ [.ob A.Meter [("kept", .tup [.str a, .str b, .bl f])]]) := by
    simp only [G_Meter_init, fnD, st, B_Meter_init, sSeq, sDrop, eFn, aCons, aNil, eVar, List.getElem?_cons_zero, List.getElem?_cons_succ, Option.bind_some, Option.map_some, List.append_nil, List.length_cons, List.length_nil, Nat.zero_add, if_true, ck a ha, ck b hb, sIf, bNot, bTru, eCall, eC, i1, truD, Bool.not_true, Bool.false_eq_true, if_false, sNil, sFldD, eSeq, show small (0 + 1 + 1 + 1) = true from rfl, last_at, last_set, cl, true_and, show (0 : Nat) < 1000 from by decide, putD, and_self, show small (1 + 1 + 1) = true from rfl]
    exact fin_same (by simp)
  simp only [makeD, List.length_cons, List.length_nil, Nat.zero_add, show (1 + 1 + 1 + 1 = 4) from rfl, if_true, b, List.length_append, last_at, last_take, meterV]

theorem st1 {x : D} : startE 1 [x] = [some x] := rfl
theorem st2 {x y : D} : startE 2 [x, y] = [some x, some y] := rfl
theorem own_pipe {A : Ad} : own A A.Pipe = true := by simp [own]
theorem own_meter {A : Ad} : own A A.Meter = true := by simp [own]
theorem kept_at {d : D} : List.lookup ("kept" : Str) [(("kept" : Str), d)] = some d := by simp [List.lookup]
theorem p_name {A : Ad} {S : WS} {a b c : Str} : G_Pipe_name A [pipeV A a b c] S = some (.str a, S) := by
  simp only [G_Pipe_name, fnD, st1, B_Pipe_name, sRet, eOp, eUn, eVar, List.getElem?_cons_zero, Option.bind_some, pipeV, fldD, if_true, kept_at, Option.map_some, eC, ixD, atI0]
  exact fin_same rfl
theorem p_start {A : Ad} {S : WS} {a b c : Str} : G_Pipe_start A [pipeV A a b c] S = some (.str b, S) := by
  simp only [G_Pipe_start, fnD, st1, B_Pipe_start, sRet, eOp, eUn, eVar, List.getElem?_cons_zero, Option.bind_some, pipeV, fldD, if_true, kept_at, Option.map_some, eC, ixD, atI1]
  exact fin_same rfl
theorem p_end {A : Ad} {S : WS} {a b c : Str} : G_Pipe_end A [pipeV A a b c] S = some (.str c, S) := by
  simp only [G_Pipe_end, fnD, st1, B_Pipe_end, sRet, eOp, eUn, eVar, List.getElem?_cons_zero, Option.bind_some, pipeV, fldD, if_true, kept_at, Option.map_some, eC, ixD, atI2]
  exact fin_same rfl
theorem m_name {A : Ad} {S : WS} {a b : Str} {c : Bool} : G_Meter_name A [meterV A a b c] S = some (.str a, S) := by
  simp only [G_Meter_name, fnD, st1, B_Meter_name, sRet, eOp, eUn, eVar, List.getElem?_cons_zero, Option.bind_some, meterV, fldD, if_true, kept_at, Option.map_some, eC, ixD, atI0]
  exact fin_same rfl
theorem m_at {A : Ad} {S : WS} {a b : Str} {c : Bool} : G_Meter_at A [meterV A a b c] S = some (.str b, S) := by
  simp only [G_Meter_at, fnD, st1, B_Meter_at, sRet, eOp, eUn, eVar, List.getElem?_cons_zero, Option.bind_some, meterV, fldD, if_true, kept_at, Option.map_some, eC, ixD, atI1]
  exact fin_same rfl
theorem m_sealed {A : Ad} {S : WS} {a b : Str} {c : Bool} : G_Meter_sealed A [meterV A a b c] S = some (.bl c, S) := by
  simp only [G_Meter_sealed, fnD, st1, B_Meter_sealed, sRet, eOp, eUn, eVar, List.getElem?_cons_zero, Option.bind_some, meterV, fldD, if_true, kept_at, Option.map_some, eC, ixD, atI2]
  exact fin_same rfl
/-! ### equal -/
theorem lay3 {a b c : Str} (ha : Nm a) (hb : Nm b) (hc : Nm c) : SeqAt.shaped (.tuple [.str a, .str b, .str c]) = true := by
  simp [SeqAt.shaped, PyData.canLay0, PyData.canLayAll0, nm_strOk ha, nm_strOk hb, nm_strOk hc, PyData.depth, PyData.depthAll]
theorem lay2 {a b : Str} {c : Bool} (ha : Nm a) (hb : Nm b) : SeqAt.shaped (.tuple [.str a, .str b, .bool c]) = true := by
  simp [SeqAt.shaped, PyData.canLay0, PyData.canLayAll0, nm_strOk ha, nm_strOk hb, PyData.depth, PyData.depthAll]
theorem eq3 {S : WS} {a b c a' b' c' : Str} (ha : Nm a) (hb : Nm b) (hc : Nm c) (ha' : Nm a') (hb' : Nm b') (hc' : Nm c') : eqD S (.tup [.str a, .str b, .str c]) (.tup [.str a', .str b', .str c']) = some (.bl (decide (a = a' ∧ b = b' ∧ c = c'))) := by
  have p : ∀ x y z : Str, D.py (.tup [.str x, .str y, .str z]) = some (.tuple [.str x, .str y, .str z]) := fun _ _ _ => rfl
  have e : PyData.eqv (.tuple [.str a, .str b, .str c]) (.tuple [.str a', .str b', .str c']) = decide (a = a' ∧ b = b' ∧ c = c') := by
    rw [Bool.eq_iff_iff]
    simp [PyData.eqv, PyData.eqvAll]
  simp only [eqD, eqAny, eqScal, eqPy, p, Option.bind_some, lay3 ha hb hc, lay3 ha' hb' hc', and_self, if_true, e, Option.orElse, Option.map_some]
theorem eq2 {S : WS} {a b a' b' : Str} {c c' : Bool} (ha : Nm a) (hb : Nm b) (ha' : Nm a') (hb' : Nm b') : eqD S (.tup [.str a, .str b, .bl c]) (.tup [.str a', .str b', .bl c']) = some (.bl (decide (a = a' ∧ b = b' ∧ c = c'))) := by
  have p : ∀ (x y : Str) (z : Bool), D.py (.tup [.str x, .str y, .bl z]) = some (.tuple [.str x, .str y, .bool z]) := fun _ _ _ => rfl
  have e : PyData.eqv (.tuple [.str a, .str b, .bool c]) (.tuple [.str a', .str b', .bool c']) = decide (a = a' ∧ b = b' ∧ c = c') := by
    rw [Bool.eq_iff_iff]
    simp [PyData.eqv, PyData.eqvAll]
  simp only [eqD, eqAny, eqScal, eqPy, p, Option.bind_some, lay2 ha hb, lay2 ha' hb', and_self, if_true, e, Option.orElse, Option.map_some]
theorem peq_no {A : Ad} {S : WS} {x y : D} {t : Value} (h1 : kindD (own A) y = some t) (h2 : t ∈ kinds A) (h3 : t ≠ .ref A.Pipe) : G_Pipe_eq A [x, y] S = some (.bl false, S) := by
  simp only [G_Pipe_eq, fnD, show startE 2 [x, y] = [some x, some y] from rfl, B_Pipe_eq, sRet, eAnd, bBl, eCall, aCons, aNil, eVar, List.getElem?_cons_zero, List.getElem?_cons_succ, Option.bind_some, Option.map_some, eC, isi_of (c := .adr A.Pipe) h1 rfl h2 cls_mem.2.2.1, h3, decide_false, Bool.false_eq_true, if_false]
  exact fin_same rfl
theorem meq_no {A : Ad} {S : WS} {x y : D} {t : Value} (h1 : kindD (own A) y = some t) (h2 : t ∈ kinds A) (h3 : t ≠ .ref A.Meter) : G_Meter_eq A [x, y] S = some (.bl false, S) := by
  simp only [G_Meter_eq, fnD, show startE 2 [x, y] = [some x, some y] from rfl, B_Meter_eq, sRet, eAnd, bBl, eCall, aCons, aNil, eVar, List.getElem?_cons_zero, List.getElem?_cons_succ, Option.bind_some, Option.map_some, eC, isi_of (c := .adr A.Meter) h1 rfl h2 cls_mem.2.2.2, h3, decide_false, Bool.false_eq_true, if_false]
  exact fin_same rfl
theorem kind_pipe {A : Ad} {a b c : Str} : kindD (own A) (pipeV A a b c) = some (.ref A.Pipe) := by simp only [pipeV, kindD, own_pipe, if_true]
theorem kind_meter {A : Ad} {a b : Str} {c : Bool} : kindD (own A) (meterV A a b c) = some (.ref A.Meter) := by simp only [meterV, kindD, own_meter, if_true]
theorem peq_yes {A : Ad} {S : WS} {a b c a' b' c' : Str} (ha : Nm a) (hb : Nm b) (hc : Nm c) (ha' : Nm a') (hb' : Nm b') (hc' : Nm c') : G_Pipe_eq A [pipeV A a b c, pipeV A a' b' c'] S = some (.bl (decide (a = a' ∧ b = b' ∧ c = c')), S) := by
  have i := isi_of (A := A) (S := S) (c := .adr A.Pipe) (kind_pipe (A := A) (a := a') (b := b') (c := c')) rfl kind_mem.2.2.1 cls_mem.2.2.1
  rw [show decide (Value.ref A.Pipe = Value.ref A.Pipe) = true from decide_eq_true rfl] at i
  simp only [G_Pipe_eq, fnD, st2, B_Pipe_eq, sRet, eAnd, bBl, eCall, aCons, aNil, eVar, List.getElem?_cons_zero, List.getElem?_cons_succ, Option.bind_some, Option.map_some, eC, i, if_true, eOp, eUn]
  simp only [pipeV, fldD, if_true, kept_at, Option.map_some, Option.bind_some, eq3 ha hb hc ha' hb' hc']
  exact fin_same rfl
theorem meq_yes {A : Ad} {S : WS} {a b a' b' : Str} {c c' : Bool} (ha : Nm a) (hb : Nm b) (ha' : Nm a') (hb' : Nm b') : G_Meter_eq A [meterV A a b c, meterV A a' b' c'] S = some (.bl (decide (a = a' ∧ b = b' ∧ c = c')), S) := by
  have i := isi_of (A := A) (S := S) (c := .adr A.Meter) (kind_meter (A := A) (a := a') (b := b') (c := c')) rfl kind_mem.2.2.2.1 cls_mem.2.2.2
  rw [show decide (Value.ref A.Meter = Value.ref A.Meter) = true from decide_eq_true rfl] at i
  simp only [G_Meter_eq, fnD, st2, B_Meter_eq, sRet, eAnd, bBl, eCall, aCons, aNil, eVar, List.getElem?_cons_zero, List.getElem?_cons_succ, Option.bind_some, Option.map_some, eC, i, if_true, eOp, eUn]
  simp only [meterV, fldD, if_true, kept_at, Option.map_some, Option.bind_some, eq2 ha hb ha' hb']
  exact fin_same rfl
theorem pcmp {A : Ad} {S : WS} {a b c : Str} {y : D} {t : Value} {neg v : Bool} (h1 : kindD (own A) y = some t) (h2 : t ∈ kinds A) (h3 : G_Pipe_eq A [pipeV A a b c, y] S = some (.bl v, S)) : eqOwnD A.Pipe (own A) (own A) (G_Pipe_eq A) neg (nf A) (pipeV A a b c) y S = some (.bl (if neg then !v else v), S) := by
  have n : nf A t = true := decide_eq_true h2
  have h3' : G_Pipe_eq A [.obj A.Pipe [("kept", .tup [.str a, .str b, .str c])], y] S = some (.bl v, S) := h3
  simp only [eqOwnD, pipeV, if_true, h1, n, h3']
theorem mcmp {A : Ad} {S : WS} {a b : Str} {c : Bool} {y : D} {t : Value} {neg v : Bool} (h1 : kindD (own A) y = some t) (h2 : t ∈ kinds A) (h3 : G_Meter_eq A [meterV A a b c, y] S = some (.bl v, S)) : eqOwnD A.Meter (own A) (own A) (G_Meter_eq A) neg (nf A) (meterV A a b c) y S = some (.bl (if neg then !v else v), S) := by
  have n : nf A t = true := decide_eq_true h2
  have h3' : G_Meter_eq A [.obj A.Meter [("kept", .tup [.str a, .str b, .bl c])], y] S = some (.bl v, S) := h3
  simp only [eqOwnD, meterV, if_true, h1, n, h3']
/-! ### shown -/
def shown3 (a b c : Str) : Str := PyData.shown (.list [.str a, .str b, .str c])
def shown2 (a b : Str) (c : Bool) : Str := PyData.shown (.list [.str a, .str b, .bool c])
theorem repr3 {S : WS} {a b c : Str} (ha : Nm a) (hb : Nm b) (hc : Nm c) : reprD S [.lst [.str a, .str b, .str c]] = some (.str (shown3 a b c)) := by
  have p : D.py (.lst [.str a, .str b, .str c]) = some (.list [.str a, .str b, .str c]) := rfl
  have l : PyData.layable0 (.list [.str a, .str b, .str c]) = true := by
    have h1 := (nm_len ha).2
    have h2 := (nm_len hb).2
    have h3 := (nm_len hc).2
    have w : PyData.weight (.list [.str a, .str b, .str c]) ≤ 2 ^ 20 := by
      show a.length + 1 + (b.length + 1 + (c.length + 1 + 0)) ≤ 2 ^ 20
      omega
    simp [PyData.layable0, PyData.canLay0, PyData.canLayAll0, nm_strOk ha, nm_strOk hb, nm_strOk hc, PyData.depth, PyData.depthAll]
    simpa using w
  have f := PyData.shown_fits_of_layable0 (B := 8) (by decide) (by decide) l rfl
  have c1 : PyData.showable (.list [.str a, .str b, .str c]) = true := rfl
  have c2 : PyData.hasDict (.list [.str a, .str b, .str c]) = false := rfl
  have c3 : PyData.depth (.list [.str a, .str b, .str c]) ≤ 64 := by simp [PyData.depth, PyData.depthAll]
  simp only [reprD, p, Option.bind_some, isSeqD, c1, c2, c3, f, and_self, if_true, shown3]
theorem repr2 {S : WS} {a b : Str} {c : Bool} (ha : Nm a) (hb : Nm b) : reprD S [.lst [.str a, .str b, .bl c]] = some (.str (shown2 a b c)) := by
  have p : D.py (.lst [.str a, .str b, .bl c]) = some (.list [.str a, .str b, .bool c]) := rfl
  have l : PyData.layable0 (.list [.str a, .str b, .bool c]) = true := by
    have h1 := (nm_len ha).2
    have h2 := (nm_len hb).2
    have w : PyData.weight (.list [.str a, .str b, .bool c]) ≤ 2 ^ 20 := by
      show a.length + 1 + (b.length + 1 + (0 + 1 + 0)) ≤ 2 ^ 20
      omega
    simp [PyData.layable0, PyData.canLay0, PyData.canLayAll0, nm_strOk ha, nm_strOk hb, PyData.depth, PyData.depthAll]
    simpa using w
  have f := PyData.shown_fits_of_layable0 (B := 8) (by decide) (by decide) l rfl
  have c1 : PyData.showable (.list [.str a, .str b, .bool c]) = true := rfl
  have c2 : PyData.hasDict (.list [.str a, .str b, .bool c]) = false := rfl
  have c3 : PyData.depth (.list [.str a, .str b, .bool c]) ≤ 64 := by simp [PyData.depth, PyData.depthAll]
  simp only [reprD, p, Option.bind_some, isSeqD, c1, c2, c3, f, and_self, if_true, shown2]

theorem pF {A : Ad} {S : WS} {a b c : Str} {y : D} {t : Value} (neg : Bool) (h1 : kindD (own A) y = some t) (h2 : t ∈ kinds A) (h3 : G_Pipe_eq A [pipeV A a b c, y] S = some (.bl false, S)) : eqOwnD A.Pipe (own A) (own A) (G_Pipe_eq A) neg (nf A) (pipeV A a b c) y S = some (.bl neg, S) := by
  rw [pcmp h1 h2 h3]
  cases neg <;> rfl
theorem pT {A : Ad} {S : WS} {a b c : Str} {y : D} {t : Value} (neg : Bool) (h1 : kindD (own A) y = some t) (h2 : t ∈ kinds A) (h3 : G_Pipe_eq A [pipeV A a b c, y] S = some (.bl true, S)) : eqOwnD A.Pipe (own A) (own A) (G_Pipe_eq A) neg (nf A) (pipeV A a b c) y S = some (.bl (!neg), S) := by
  rw [pcmp h1 h2 h3]
  cases neg <;> rfl
theorem mF {A : Ad} {S : WS} {a b : Str} {c : Bool} {y : D} {t : Value} (neg : Bool) (h1 : kindD (own A) y = some t) (h2 : t ∈ kinds A) (h3 : G_Meter_eq A [meterV A a b c, y] S = some (.bl false, S)) : eqOwnD A.Meter (own A) (own A) (G_Meter_eq A) neg (nf A) (meterV A a b c) y S = some (.bl neg, S) := by
  rw [mcmp h1 h2 h3]
  cases neg <;> rfl
theorem mT {A : Ad} {S : WS} {a b : Str} {c : Bool} {y : D} {t : Value} (neg : Bool) (h1 : kindD (own A) y = some t) (h2 : t ∈ kinds A) (h3 : G_Meter_eq A [meterV A a b c, y] S = some (.bl true, S)) : eqOwnD A.Meter (own A) (own A) (G_Meter_eq A) neg (nf A) (meterV A a b c) y S = some (.bl (!neg), S) := by
  rw [mcmp h1 h2 h3]
  cases neg <;> rfl
theorem prop_p {A : Ad} {S : WS} {ρ : RV.Env} {i : Nat} {G : List D → M} {a b c : Str} {r : D} (h : ρ[i]? = some (some (pipeV A a b c))) (hG : G [pipeV A a b c] S = some (r, S)) : eProp A.Pipe G (eVar i) ρ S = some (r, S) := by
  have hG' : G [.obj A.Pipe [("kept", .tup [.str a, .str b, .str c])]] S = some (r, S) := hG
  simp only [eProp, eVar, h, Option.bind_some, pipeV, if_true, hG']
theorem prop_m {A : Ad} {S : WS} {ρ : RV.Env} {i : Nat} {G : List D → M} {a b : Str} {c : Bool} {r : D} (h : ρ[i]? = some (some (meterV A a b c))) (hG : G [meterV A a b c] S = some (r, S)) : eProp A.Meter G (eVar i) ρ S = some (r, S) := by
  have hG' : G [.obj A.Meter [("kept", .tup [.str a, .str b, .bl c])]] S = some (r, S) := hG
  simp only [eProp, eVar, h, Option.bind_some, meterV, if_true, hG']
theorem tru_p {A : Ad} {S : WS} {a b c : Str} : truObj A.Pipe S (pipeV A a b c) = some true := by simp only [truObj, pipeV, if_true]
theorem tru_m {A : Ad} {S : WS} {a b : Str} {c : Bool} : truObj A.Meter S (meterV A a b c) = some true := by simp only [truObj, meterV, if_true]
theorem seq_nx {m1 m2 : RV.Env → MS} {ρ ρ' : RV.Env} {S S' : WS} (h : m1 ρ S = some (.nx ρ', S')) : sSeq m1 m2 ρ S = m2 ρ' S' := by simp only [sSeq, h, Option.bind_some]
theorem neD_same {S : WS} {a : Str} : neD S (.str a) (.str a) = some (.bl false) := by rw [neD_str]; simp
theorem lst_add {S : WS} {a b : List D} (h : small (a.length + b.length) = true) : addD S (.lst a) (.lst b) = some (.lst (a ++ b)) := if_pos h
theorem pipe_right_ok {A : Ad} (hA : AdOk A) {S : WS} {k : Nat} {n : Int} {w : W} (hk : k < S.length) (g : Good n w) (hn : n < 1000000000000000) : ∃ w', G_law_pipe_right A [.cell k] (put S k w) = some (.bl true, put S k w') ∧ Good (n + 100) w' := by
  obtain ⟨one, w1, e1, n1, g1⟩ := name_ok hk g (by omega)
  obtain ⟨two, w2, e2, n2, g2⟩ := name_ok hk g1 (by omega)
  obtain ⟨thr, w3, e3, n3, d3, g3⟩ := fresh_ok (ts := [two]) hk g2 (by omega) (by simpa using n2) (by simp)
  obtain ⟨m0, w4, e4, n4, d4, g4⟩ := fresh_ok (ts := [one]) hk g3 (by omega) (by simpa using n1) (by simp)
  obtain ⟨m1, w5, e5, n5, d5, g5⟩ := fresh_ok (ts := [two, thr]) hk g4 (by omega) (by simpa using ⟨n2, n3⟩) (by simp)
  simp only [List.map_cons, List.map_nil] at e3 e4 e5
  simp only [List.mem_cons, List.not_mem_nil, or_false, not_or] at d3 d4 d5
  refine ⟨w5, ?_, g5.mono (by omega)⟩
  have hne : (Value.ref A.Meter) ≠ Value.ref A.Pipe := by
    intro z
    have z' : A.Meter = A.Pipe := by simpa using z
    simp [AdOk] at hA
    exact hA z'.symm
  have p0 : ∀ S, makeD A.Pipe 4 (G_Pipe_init A) [.str one, .str two, .str thr] S = some (pipeV A one two thr, S) := fun S => mk_pipe n1 n2 n3 d3
  have p1 : ∀ S, makeD A.Pipe 4 (G_Pipe_init A) [.str m0, .str two, .str thr] S = some (pipeV A m0 two thr, S) := fun S => mk_pipe n4 n2 n3 d3
  have p2 : ∀ S, makeD A.Pipe 4 (G_Pipe_init A) [.str one, .str m1, .str thr] S = some (pipeV A one m1 thr, S) := fun S => mk_pipe n1 n5 n3 (Ne.symm d5.2)
  have p3 : ∀ S, makeD A.Pipe 4 (G_Pipe_init A) [.str one, .str two, .str m1] S = some (pipeV A one two m1, S) := fun S => mk_pipe n1 n2 n5 d5.1
  have p4 : ∀ S, makeD A.Pipe 4 (G_Pipe_init A) [.str one, .str thr, .str two] S = some (pipeV A one thr two, S) := fun S => mk_pipe n1 n3 n2 (Ne.symm d3)
  have p5 : ∀ S, makeD A.Meter 4 (G_Meter_init A) [.str one, .str two, .bl false] S = some (meterV A one two false, S) := fun S => mk_meter n1 n2
  have gk : g_mk_Pipe_0_end_start_name [] [.str thr, .str two, .str one] = [.str one, .str two, .str thr] := rfl
  have pn : ∀ (i : Nat) (ρ : RV.Env) S, ρ[i]? = some (some (pipeV A one two thr)) → eProp A.Pipe (G_Pipe_name A) (eVar i) ρ S = some (.str one, S) := fun i ρ S h => prop_p h p_name
  have ps : ∀ (i : Nat) (ρ : RV.Env) S, ρ[i]? = some (some (pipeV A one two thr)) → eProp A.Pipe (G_Pipe_start A) (eVar i) ρ S = some (.str two, S) := fun i ρ S h => prop_p h p_start
  have pe : ∀ (i : Nat) (ρ : RV.Env) S, ρ[i]? = some (some (pipeV A one two thr)) → eProp A.Pipe (G_Pipe_end A) (eVar i) ρ S = some (.str thr, S) := fun i ρ S h => prop_p h p_end
  have rp : ∀ S, reprD S [.lst [.str one, .str two, .str thr]] = some (.str (shown3 one two thr)) := fun S => repr3 n1 n2 n3
  have c0 : ∀ neg S, eqOwnD A.Pipe (own A) (own A) (G_Pipe_eq A) neg (nf A) (pipeV A one two thr) (pipeV A one two thr) S = some (.bl (!neg), S) := fun neg S => pT neg kind_pipe kind_mem.2.2.1 (by rw [peq_yes n1 n2 n3 n1 n2 n3]; simp)
  have c1 : ∀ neg S, eqOwnD A.Pipe (own A) (own A) (G_Pipe_eq A) neg (nf A) (pipeV A one two thr) (pipeV A m0 two thr) S = some (.bl neg, S) := fun neg S => pF neg kind_pipe kind_mem.2.2.1 (by rw [peq_yes n1 n2 n3 n4 n2 n3]; simp [Ne.symm d4])
  have c2 : ∀ neg S, eqOwnD A.Pipe (own A) (own A) (G_Pipe_eq A) neg (nf A) (pipeV A one two thr) (pipeV A one m1 thr) S = some (.bl neg, S) := fun neg S => pF neg kind_pipe kind_mem.2.2.1 (by rw [peq_yes n1 n2 n3 n1 n5 n3]; simp [Ne.symm d5.1])
  have c3 : ∀ neg S, eqOwnD A.Pipe (own A) (own A) (G_Pipe_eq A) neg (nf A) (pipeV A one two thr) (pipeV A one two m1) S = some (.bl neg, S) := fun neg S => pF neg kind_pipe kind_mem.2.2.1 (by rw [peq_yes n1 n2 n3 n1 n2 n5]; simp [Ne.symm d5.2])
  have c4 : ∀ neg S, eqOwnD A.Pipe (own A) (own A) (G_Pipe_eq A) neg (nf A) (pipeV A one two thr) (pipeV A one thr two) S = some (.bl neg, S) := fun neg S => pF neg kind_pipe kind_mem.2.2.1 (by rw [peq_yes n1 n2 n3 n1 n3 n2]; simp [d3])
  have c5 : ∀ neg S, eqOwnD A.Pipe (own A) (own A) (G_Pipe_eq A) neg (nf A) (pipeV A one two thr) (.tup [.str one, .str two, .str thr]) S = some (.bl neg, S) := fun neg S => pF neg rfl kind_mem.2.2.2.2.1 (peq_no rfl kind_mem.2.2.2.2.1 (by simp))
  have c6 : ∀ neg S, eqOwnD A.Pipe (own A) (own A) (G_Pipe_eq A) neg (nf A) (pipeV A one two thr) (meterV A one two false) S = some (.bl neg, S) := fun neg S => pF neg kind_meter kind_mem.2.2.2.1 (peq_no kind_meter kind_mem.2.2.2.1 hne)
  have c7 : ∀ neg (x : Str) S, eqOwnD A.Pipe (own A) (own A) (G_Pipe_eq A) neg (nf A) (pipeV A one two thr) (.str x) S = some (.bl neg, S) := fun neg x S => pF neg rfl kind_mem.1 (peq_no rfl kind_mem.1 (by simp))
  have c8 : ∀ neg S, eqOwnD A.Pipe (own A) (own A) (G_Pipe_eq A) neg (nf A) (pipeV A one two thr) .non S = some (.bl neg, S) := fun neg S => pF neg rfl kind_mem.2.2.2.2.2 (peq_no rfl kind_mem.2.2.2.2.2 (by simp))
  have l1 := (nm_len n1).2
  have l2 := (nm_len n2).2
  have l3 := (nm_len n3).2
  have lp : Str.length "pipe " = 5 := rfl
  have lb : Str.length " " = 1 := rfl
  have a1 : small (Str.length "pipe " + one.length) = true := decide_eq_true (by omega)
  have a2 : small (Str.length ("pipe " ++ one) + Str.length " ") = true := decide_eq_true (by rw [strLen_append]; omega)
  have a3 : small (Str.length ("pipe " ++ one ++ " ") + two.length) = true := decide_eq_true (by rw [strLen_append, strLen_append]; omega)
  have a4 : small (Str.length ("pipe " ++ one ++ " " ++ two) + Str.length " ") = true := decide_eq_true (by rw [strLen_append, strLen_append, strLen_append]; omega)
  have a5 : small (Str.length ("pipe " ++ one ++ " " ++ two ++ " ") + thr.length) = true := decide_eq_true (by rw [strLen_append, strLen_append, strLen_append, strLen_append]; omega)
  have i0 : ∀ x y : D, atI [x, y] 0 = some x := fun _ _ => rfl
  have i1 : ∀ x y : D, atI [x, y] 1 = some y := fun _ _ => rfl
  have st : startE 9 [D.cell k] = [some (.cell k), none, none, none, none, none, none, none, none] := rfl
  simp only [G_law_pipe_right, fnD, st, B_law_pipe_right, name_is, fresh_is]
  rw [seq_nx (ρ' := [some (.cell k), some (.str one), some (.str two), none, none, none, none, none, none]) (S' := put S k w2) (by simp only [sPar2, aCons, aNil, eFn, eVar, List.getElem?_cons_zero, List.getElem?_cons_succ, Option.bind_some, Option.map_some, List.append_nil, List.length_cons, List.length_nil, Nat.zero_add, if_true, e1, e2, List.set])]
  rw [seq_nx (ρ' := [some (.cell k), some (.str one), some (.str two), some (.str thr), none, none, none, none, none]) (S' := put S k w3) (by simp only [sAsg, eSeq, aCons, aNil, eFn, eVar, List.getElem?_cons_zero, List.getElem?_cons_succ, Option.bind_some, Option.map_some, List.append_nil, List.length_cons, List.length_nil, Nat.zero_add, if_true, show small 1 = true from rfl, e3, List.set])]
  rw [seq_nx (ρ' := [some (.cell k), some (.str one), some (.str two), some (.str thr), some (pipeV A one two thr), some (pipeV A one two thr), none, none, none]) (S' := put S k w3) (by simp only [sAsgG, tTupD, tsCons, tsNil, tName, eSeq, eMake, eMakeK, aCons, aNil, eVar, List.getElem?_cons_zero, List.getElem?_cons_succ, Option.bind_some, Option.map_some, List.append_nil, List.length_cons, List.length_nil, Nat.zero_add, Nat.reduceAdd, and_self, if_true, show small 2 = true from rfl, p0, gk, List.set])]
  rw [seq_nx (ρ' := [some (.cell k), some (.str one), some (.str two), some (.str thr), some (pipeV A one two thr), some (pipeV A one two thr), none, none, none]) (S' := put S k w3) (by simp only [sIf, bOr, bBl, bNot, bTru, eOp, eCall, eSeq, pn, ps, pe, aCons, aNil, eVar, List.getElem?_cons_zero, List.getElem?_cons_succ, Option.bind_some, Option.map_some, List.length_cons, List.length_nil, Nat.zero_add, Nat.reduceAdd, if_true, show small 3 = true from rfl, rp, neD_same, Bool.false_eq_true, if_false, tru_p, Bool.not_true, sNil])]
  rw [seq_nx (ρ' := [some (.cell k), some (.str one), some (.str two), some (.str thr), some (pipeV A one two thr), some (pipeV A one two thr), none, none, none]) (S' := put S k w3) (by simp only [sIf, bOr, bBl, bNot, bTru, eOp, eOpM, eCall, eSeq, pn, ps, pe, aCons, aNil, eVar, List.getElem?_cons_zero, List.getElem?_cons_succ, Option.bind_some, Option.map_some, List.length_cons, List.length_nil, Nat.zero_add, Nat.reduceAdd, if_true, show small 3 = true from rfl, rp, neD_same, Bool.false_eq_true, if_false, c0, Bool.not_true, Bool.not_false, sNil])]
  rw [seq_nx (ρ' := [some (.cell k), some (.str one), some (.str two), some (.str thr), some (pipeV A one two thr), some (pipeV A one two thr), some (.lst [.str m0, .str m1]), none, none]) (S' := put S k w5) (by simp only [sAsg, eSeq, eFn, aCons, aNil, eVar, List.getElem?_cons_zero, List.getElem?_cons_succ, Option.bind_some, Option.map_some, List.append_nil, List.length_cons, List.length_nil, Nat.zero_add, Nat.reduceAdd, if_true, show small 1 = true from rfl, show small 2 = true from rfl, e4, e5, List.set])]
  rw [seq_nx (ρ' := [some (.cell k), some (.str one), some (.str two), some (.str thr), some (pipeV A one two thr), some (pipeV A one two thr), some (.lst [.str m0, .str m1]), some (.lst [pipeV A m0 two thr, pipeV A one m1 thr, pipeV A one two m1, pipeV A one thr two]), none]) (S' := put S k w5) (by simp only [sAsg, eSeq, eMake, eOp, eC, ixD, i0, i1, aCons, aNil, eVar, List.getElem?_cons_zero, List.getElem?_cons_succ, Option.bind_some, Option.map_some, List.append_nil, List.length_cons, List.length_nil, Nat.zero_add, Nat.reduceAdd, if_true, show small 4 = true from rfl, p1, p2, p3, p4, List.set])]
  rw [seq_nx (ρ' := [some (.cell k), some (.str one), some (.str two), some (.str thr), some (pipeV A one two thr), some (pipeV A one two thr), some (.lst [.str m0, .str m1]), some (.lst [pipeV A m0 two thr, pipeV A one m1 thr, pipeV A one two m1, pipeV A one thr two, .tup [.str one, .str two, .str thr], meterV A one two false, .str ("pipe " ++ one ++ " " ++ two ++ " " ++ thr), .non]), none]) (S' := put S k w5) (by simp only [sAsg, eSeq, eMake, eOp, eC, aCons, aNil, eVar, List.getElem?_cons_zero, List.getElem?_cons_succ, Option.bind_some, Option.map_some, List.cons_append, List.nil_append, List.append_nil, List.length_cons, List.length_nil, Nat.zero_add, Nat.reduceAdd, if_true, show small 3 = true from rfl, show small 4 = true from rfl, p5, addD_str a1, addD_str a2, addD_str a3, addD_str a4, addD_str a5, lst_add, show small 8 = true from rfl, List.set])]
  simp only [sRet, eAnd, eNotT, bBl, bTru, eCall, eLc, iSeq, lcD, tName, bYes, eOpM, wipeE, aCons, aNil, eVar, List.set, List.getElem?_cons_zero, List.getElem?_cons_succ, Option.bind_some, Option.map_some, List.length_cons, List.length_nil, Nat.zero_add, Nat.reduceAdd, if_true, show small 8 = true from rfl, c1, c2, c3, c4, c5, c6, c7, c8, anyD, allD, boolsD, List.any_cons, List.any_nil, List.all_cons, List.all_nil, id, Bool.or_false, Bool.and_true, truD, Bool.not_false]
  exact fin_same (by rw [put_len, put_len])

theorem meter_right_ok {A : Ad} (hA : AdOk A) {S : WS} {k : Nat} {n : Int} {w : W} (hk : k < S.length) (g : Good n w) (hn : n < 1000000000000000) : ∃ w', G_law_meter_right A [.cell k] (put S k w) = some (.bl true, put S k w') ∧ Good (n + 100) w' := by
  obtain ⟨one, w1, e1, n1, g1⟩ := name_ok hk g (by omega)
  obtain ⟨two, w2, e2, n2, g2⟩ := name_ok hk g1 (by omega)
  obtain ⟨r, w3, e3, r0, r1, g3⟩ := dip_ok hk g2 (by omega) (m := 2) (by omega) (by omega)
  obtain ⟨m0, w4, e4, n4, d4, g4⟩ := fresh_ok (ts := [one]) hk g3 (by omega) (by simpa using n1) (by simp)
  obtain ⟨m1, w5, e5, n5, d5, g5⟩ := fresh_ok (ts := [two]) hk g4 (by omega) (by simpa using n2) (by simp)
  obtain ⟨m2, w6, e6, n6, d6, g6⟩ := fresh_ok (ts := [two]) hk g5 (by omega) (by simpa using n2) (by simp)
  simp only [List.map_cons, List.map_nil] at e4 e5 e6
  simp only [List.mem_cons, List.not_mem_nil, or_false, not_or] at d4 d5 d6
  refine ⟨w6, ?_, g6.mono (by omega)⟩
  have hne : (Value.ref A.Pipe) ≠ Value.ref A.Meter := by
    intro z
    have z' : A.Pipe = A.Meter := by simpa using z
    simp [AdOk] at hA
    exact hA z'
  generalize hs : decide (r = 0) = sh
  have p0 : ∀ (f : Bool) S, makeD A.Meter 4 (G_Meter_init A) [.str one, .str two, .bl f] S = some (meterV A one two f, S) := fun f S => mk_meter n1 n2
  have p1 : ∀ (f : Bool) S, makeD A.Meter 4 (G_Meter_init A) [.str m0, .str two, .bl f] S = some (meterV A m0 two f, S) := fun f S => mk_meter n4 n2
  have p2 : ∀ (f : Bool) S, makeD A.Meter 4 (G_Meter_init A) [.str one, .str m1, .bl f] S = some (meterV A one m1 f, S) := fun f S => mk_meter n1 n5
  have p3 : ∀ S, makeD A.Pipe 4 (G_Pipe_init A) [.str one, .str two, .str m2] S = some (pipeV A one two m2, S) := fun S => mk_pipe n1 n2 n6 d6
  have gk : ∀ x y z : D, g_mk_Meter_2_sealed [x, y] [z] = [x, y, z] := fun _ _ _ => rfl
  have gk2 : ∀ x y z : D, g_mk_Meter_0_at_sealed_name [] [y, z, x] = [x, y, z] := fun _ _ _ => rfl
  have pn : ∀ (f : Bool) (i : Nat) (ρ : RV.Env) S, ρ[i]? = some (some (meterV A one two f)) → eProp A.Meter (G_Meter_name A) (eVar i) ρ S = some (.str one, S) := fun f i ρ S h => prop_m h m_name
  have ps : ∀ (f : Bool) (i : Nat) (ρ : RV.Env) S, ρ[i]? = some (some (meterV A one two f)) → eProp A.Meter (G_Meter_at A) (eVar i) ρ S = some (.str two, S) := fun f i ρ S h => prop_m h m_at
  have pe : ∀ (f : Bool) (i : Nat) (ρ : RV.Env) S, ρ[i]? = some (some (meterV A one two f)) → eProp A.Meter (G_Meter_sealed A) (eVar i) ρ S = some (.bl f, S) := fun f i ρ S h => prop_m h m_sealed
  have rp : ∀ (f : Bool) S, reprD S [.lst [.str one, .str two, .bl f]] = some (.str (shown2 one two f)) := fun f S => repr2 n1 n2
  have c0 : ∀ neg S, eqOwnD A.Meter (own A) (own A) (G_Meter_eq A) neg (nf A) (meterV A one two sh) (meterV A one two sh) S = some (.bl (!neg), S) := fun neg S => mT neg kind_meter kind_mem.2.2.2.1 (by rw [meq_yes n1 n2 n1 n2]; simp)
  have cp : ∀ S, eqOwnD A.Meter (own A) (own A) (G_Meter_eq A) false (nf A) (meterV A one two false) (meterV A one two sh) S = some (.bl (!sh), S) := fun S => by
    rw [mcmp kind_meter kind_mem.2.2.2.1 (meq_yes n1 n2 n1 n2)]
    cases sh <;> simp
  have c1 : ∀ neg S, eqOwnD A.Meter (own A) (own A) (G_Meter_eq A) neg (nf A) (meterV A one two sh) (meterV A m0 two sh) S = some (.bl neg, S) := fun neg S => mF neg kind_meter kind_mem.2.2.2.1 (by rw [meq_yes n1 n2 n4 n2]; simp [Ne.symm d4])
  have c2 : ∀ neg S, eqOwnD A.Meter (own A) (own A) (G_Meter_eq A) neg (nf A) (meterV A one two sh) (meterV A one m1 sh) S = some (.bl neg, S) := fun neg S => mF neg kind_meter kind_mem.2.2.2.1 (by rw [meq_yes n1 n2 n1 n5]; simp [Ne.symm d5])
  have c3 : ∀ neg S, eqOwnD A.Meter (own A) (own A) (G_Meter_eq A) neg (nf A) (meterV A one two sh) (meterV A one two !sh) S = some (.bl neg, S) := fun neg S => mF neg kind_meter kind_mem.2.2.2.1 (by rw [meq_yes n1 n2 n1 n2]; cases sh <;> simp)
  have c4 : ∀ neg S, eqOwnD A.Meter (own A) (own A) (G_Meter_eq A) neg (nf A) (meterV A one two sh) (.tup [.str one, .str two, .bl sh]) S = some (.bl neg, S) := fun neg S => mF neg rfl kind_mem.2.2.2.2.1 (meq_no rfl kind_mem.2.2.2.2.1 (by simp))
  have c5 : ∀ neg S, eqOwnD A.Meter (own A) (own A) (G_Meter_eq A) neg (nf A) (meterV A one two sh) (pipeV A one two m2) S = some (.bl neg, S) := fun neg S => mF neg kind_pipe kind_mem.2.2.1 (meq_no kind_pipe kind_mem.2.2.1 hne)
  have c6 : ∀ neg S, eqOwnD A.Meter (own A) (own A) (G_Meter_eq A) neg (nf A) (meterV A one two sh) (.str one) S = some (.bl neg, S) := fun neg S => mF neg rfl kind_mem.1 (meq_no rfl kind_mem.1 (by simp))
  have st : startE 10 [D.cell k] = [some (.cell k), none, none, none, none, none, none, none, none, none] := rfl
  have loop : ∀ (x : Option D) S, sIf (bOr (bBl (eOp neD (eCall reprD (aCons (eSeq .lst (aCons (eProp A.Meter (G_Meter_name A) (eVar 6)) (aCons (eProp A.Meter (G_Meter_at A) (eVar 6)) (aCons (eProp A.Meter (G_Meter_sealed A) (eVar 6)) (aNil))))) (aNil))) (eCall reprD (aCons (eSeq .lst (aCons (eVar 1) (aCons (eVar 2) (aCons (eVar 3) (aNil))))) (aNil))))) (bNot (bTru (truObj A.Meter) (eVar 6)))) (sRet (eC (.bl false))) (sNil) [some (.cell k), some (.str one), some (.str two), some (.bl sh), some (meterV A one two sh), some (meterV A one two sh), some (meterV A one two sh), none, none, none] S = some (.nx [some (.cell k), some (.str one), some (.str two), some (.bl sh), some (meterV A one two sh), some (meterV A one two sh), some (meterV A one two sh), none, none, none], S) := fun x S => by
    simp only [sIf, bOr, bBl, bNot, bTru, eOp, eCall, eSeq, pn sh, ps sh, pe sh, aCons, aNil, eVar, List.getElem?_cons_zero, List.getElem?_cons_succ, Option.bind_some, Option.map_some, List.length_cons, List.length_nil, Nat.zero_add, Nat.reduceAdd, if_true, show small 3 = true from rfl, rp, neD_same, Bool.false_eq_true, if_false, tru_m, Bool.not_true, sNil]
  simp only [G_law_meter_right, fnD, st, B_law_meter_right, name_is, fresh_is, dip_is]
  rw [seq_nx (ρ' := [some (.cell k), some (.str one), some (.str two), some (.bl sh), none, none, none, none, none, none]) (S' := put S k w3) (by simp only [sPar3, eOp, eC, aCons, aNil, eFn, eVar, List.getElem?_cons_zero, List.getElem?_cons_succ, Option.bind_some, Option.map_some, List.append_nil, List.length_cons, List.length_nil, Nat.zero_add, Nat.reduceAdd, if_true, e1, e2, e3, eqD_int, hs, List.set])]
  rw [seq_nx (ρ' := [some (.cell k), some (.str one), some (.str two), some (.bl sh), some (meterV A one two sh), some (meterV A one two sh), none, none, none, none]) (S' := put S k w3) (by simp only [sAsgG, tTupD, tsCons, tsNil, tName, eSeq, eMakeK, aCons, aNil, eVar, List.getElem?_cons_zero, List.getElem?_cons_succ, Option.bind_some, Option.map_some, List.append_nil, List.length_cons, List.length_nil, Nat.zero_add, Nat.reduceAdd, and_self, if_true, show small 2 = true from rfl, p0, gk, gk2, List.set])]
  rw [seq_nx (ρ' := [some (.cell k), some (.str one), some (.str two), some (.bl sh), some (meterV A one two sh), some (meterV A one two sh), some (meterV A one two sh), none, none, none]) (S' := put S k w3) (by simp only [sFor, iSeq, eSeq, aCons, aNil, eVar, List.getElem?_cons_zero, List.getElem?_cons_succ, Option.bind_some, Option.map_some, List.length_cons, List.length_nil, Nat.zero_add, Nat.reduceAdd, if_true, show small 2 = true from rfl, forD, tName, List.set, loop none])]
  rw [seq_nx (ρ' := [some (.cell k), some (.str one), some (.str two), some (.bl sh), some (meterV A one two sh), some (meterV A one two sh), some (meterV A one two sh), some (meterV A one two false), none, none]) (S' := put S k w3) (by simp only [sAsg, eMake, aCons, aNil, eVar, List.getElem?_cons_zero, List.getElem?_cons_succ, Option.bind_some, Option.map_some, List.cons_append, List.nil_append, p0, List.set])]
  rw [seq_nx (ρ' := [some (.cell k), some (.str one), some (.str two), some (.bl sh), some (meterV A one two sh), some (meterV A one two sh), some (meterV A one two sh), some (meterV A one two false), none, none]) (S' := put S k w3) (by
    have eb : ∀ S, eqD S (.bl (!sh)) (.bl sh) = some (.bl false) := fun S => by cases sh <;> rfl
    simp only [sIf, bOr, bBl, bNot, bTru, eOp, eOpM, eCall, eSeq, eC, pn false, ps false, pe false, aCons, aNil, eVar, List.getElem?_cons_zero, List.getElem?_cons_succ, Option.bind_some, Option.map_some, List.length_cons, List.length_nil, Nat.zero_add, Nat.reduceAdd, if_true, show small 3 = true from rfl, rp, neD_same, Bool.false_eq_true, if_false, cp, eb, sNil])]
  rw [seq_nx (ρ' := [some (.cell k), some (.str one), some (.str two), some (.bl sh), some (meterV A one two sh), some (meterV A one two sh), some (meterV A one two sh), some (meterV A one two false), some (.lst [meterV A m0 two sh, meterV A one m1 sh]), none]) (S' := put S k w5) (by simp only [sAsg, eSeq, eMakeK, eFn, aCons, aNil, eVar, List.getElem?_cons_zero, List.getElem?_cons_succ, Option.bind_some, Option.map_some, List.append_nil, List.length_cons, List.length_nil, Nat.zero_add, Nat.reduceAdd, and_self, if_true, show small 1 = true from rfl, show small 2 = true from rfl, e4, e5, gk, p1, p2, List.set])]
  rw [seq_nx (ρ' := [some (.cell k), some (.str one), some (.str two), some (.bl sh), some (meterV A one two sh), some (meterV A one two sh), some (meterV A one two sh), some (meterV A one two false), some (.lst [meterV A m0 two sh, meterV A one m1 sh, meterV A one two !sh, .tup [.str one, .str two, .bl sh], pipeV A one two m2, .str one]), none]) (S' := put S k w6) (by simp only [sAsg, eOp, eSeq, eMake, eMakeK, eNotT, bTru, truD, eFn, aCons, aNil, eVar, List.getElem?_cons_zero, List.getElem?_cons_succ, Option.bind_some, Option.map_some, List.cons_append, List.nil_append, List.append_nil, List.length_cons, List.length_nil, Nat.zero_add, Nat.reduceAdd, and_self, if_true, show small 1 = true from rfl, show small 3 = true from rfl, show small 4 = true from rfl, e6, gk, p0, p3, lst_add, show small 6 = true from rfl, List.set])]
  rw [seq_nx (ρ' := [some (.cell k), some (.str one), some (.str two), some (.bl sh), some (meterV A one two sh), some (meterV A one two sh), some (meterV A one two sh), some (meterV A one two false), some (.lst [meterV A m0 two sh, meterV A one m1 sh, meterV A one two !sh, .tup [.str one, .str two, .bl sh], pipeV A one two m2, .str one]), none]) (S' := put S k w6) (by simp only [sIf, bOr, bNot, bTru, eCall, eLc, iSeq, lcD, tName, bYes, eOpM, wipeE, aCons, aNil, eVar, List.set, List.getElem?_cons_zero, List.getElem?_cons_succ, Option.bind_some, Option.map_some, List.length_cons, List.length_nil, Nat.zero_add, Nat.reduceAdd, if_true, show small 6 = true from rfl, c1, c2, c3, c4, c5, c6, anyD, allD, boolsD, List.any_cons, List.any_nil, List.all_cons, List.all_nil, id, Bool.or_false, Bool.and_true, truD, Bool.not_true, Bool.false_eq_true, if_false, sNil])]
  simp only [sRet, eAnd, eNotT, bBl, bTru, eOpM, eVar, List.getElem?_cons_zero, List.getElem?_cons_succ, Option.bind_some, Option.map_some, c0, Bool.not_false, Bool.not_true, if_true, truD]
  exact fin_same (by rw [put_len, put_len])
theorem law_turns {A : Ad} (hA : AdOk A) {S : WS} {k : Nat} (hk : k < S.length) {ρ : RV.Env} (hl : ρ.length = 4) (h2 : ρ[2]? = some (some (.cell k))) : ∀ (xs : List D) (n : Int) (w : W), Good n w → n + 200 * xs.length < 1000000000000 → ∃ w',
    lcD (tName 3) bYes (eAnd (eFn 1 (G_law_pipe_right A) [] (aCons (eVar 2) (aNil))) (eFn 1 (G_law_meter_right A) [] (aCons (eVar 2) (aNil)))) ρ xs (put S k w) = some (List.replicate xs.length (.bl true), put S k w') ∧ Good (n + 200 * xs.length) w'
  | [], n, w, g, _ => ⟨w, rfl, g.mono (by simp)⟩
  | x :: xs, n, w, g, hn => by
    simp only [List.length_cons] at hn
    obtain ⟨w1, e1, g1⟩ := pipe_right_ok hA hk g (by omega)
    obtain ⟨w2, e2, g2⟩ := meter_right_ok hA hk g1 (by omega)
    obtain ⟨w', e3, g3⟩ := law_turns hA hk hl h2 xs (n + 100 + 100) w2 g2 (by omega)
    refine ⟨w', ?_, g3.mono (by simp only [List.length_cons]; omega)⟩
    have h2' : (ρ.set 3 (some x))[2]? = some (some (.cell k)) := by rw [List.getElem?_set_ne (by decide)]; exact h2
    simp only [lcD, tName, bYes, Option.bind_some, if_true, eAnd, bBl, eFn, aCons, aNil, eVar, h2', Option.map_some, List.append_nil, List.length_cons, List.length_nil, Nat.zero_add, e1, e2, e3, List.replicate_succ]
def loopB (A : Ad) : RV.Env → MS := sSeq (sAsgN 2 (nFn 2 (G_law_well A) (aCons (eVar 0) (aCons (eVar 1) (aNil))))) (sIf (bNot (bTru truD (eCall allD (aCons (eLc (iRange1 (aCons (eC (.int 8)) (aNil))) (tName 3) (bYes) (eAnd (eFn 1 (G_law_pipe_right A) [] (aCons (eVar 2) (aNil))) (eFn 1 (G_law_meter_right A) [] (aCons (eVar 2) (aNil)))) [3]) (aNil))))) (sRet (eC (.bl false))) (sNil))
theorem law_loop {A : Ad} (hA : AdOk A) {ns : List Int} : ∀ (xs : List Nat), (∀ x ∈ xs, x < 1000) → ∀ (S : WS) (o1 o2 : Option D), ∃ o1' o2' S', forD (tName 1) (loopB A) (xs.map fun (i : Nat) => D.int (0 + (i : Int))) [some (.scr ns), o1, o2, none] S = some (.nx [some (.scr ns), o1', o2', none], S')
  | [], _, S, o1, o2 => ⟨o1, o2, S, rfl⟩
  | x :: xs, hx, S, o1, o2 => by
    have x1 := hx x (List.mem_cons_self ..)
    obtain ⟨w, e, g⟩ := well_ok (S := S) (ns := ns) (k := 0 + (x : Int)) (by omega) (by omega)
    have hk : S.length < (S ++ [w.d]).length := by simp
    have hp : S ++ [.lst [.int w.a, .int w.b, .int w.c]] = put (S ++ [w.d]) S.length w := by simp [put, W.d]
    obtain ⟨w', e2, _⟩ := law_turns hA hk (ρ := [some (.scr ns), some (.int (0 + (x : Int))), some (.cell S.length), none]) rfl rfl ((List.range 8).map fun (i : Nat) => D.int (0 + (i : Int))) 0 w g (by simp)
    obtain ⟨o1', o2', S', e3⟩ := law_loop hA xs (fun y hy => hx y (List.mem_cons_of_mem _ hy)) (put (S ++ [w.d]) S.length w') (some (.int (0 + (x : Int)))) (some (.cell S.length))
    refine ⟨o1', o2', S', ?_⟩
    have h8 : -(2 ^ 62) ≤ (8 : Int) ∧ (8 : Int) < 2 ^ 62 := by decide
    have h8' : ((List.range (8 : Int).toNat).map fun (i : Nat) => D.int (0 + (i : Int))) = (List.range 8).map fun (i : Nat) => D.int (0 + (i : Int)) := rfl
    have s8 : small ((List.range 8).map fun (i : Nat) => D.int (0 + (i : Int))).length = true := rfl
    have st : loopB A [some (.scr ns), some (.int (0 + (x : Int))), o2, none] S = some (.nx [some (.scr ns), some (.int (0 + (x : Int))), some (.cell S.length), none], put (S ++ [w.d]) S.length w') := by
      unfold loopB
      rw [seq_nx (ρ' := [some (.scr ns), some (.int (0 + (x : Int))), some (.cell S.length), none]) (S' := put (S ++ [w.d]) S.length w) (by simp only [sAsgN, nFn, well_is, aCons, aNil, eVar, List.getElem?_cons_zero, List.getElem?_cons_succ, Option.bind_some, Option.map_some, List.length_cons, List.length_nil, Nat.zero_add, Nat.reduceAdd, if_true, e, List.set, hp])]
      simp only [sIf, bNot, bTru, eCall, aCons, aNil, eLc, iRange1, eC, Option.bind_some, Option.map_some, h8, and_self, if_true, h8', s8, wipeE, List.set, e2, allD_true, truD, Bool.not_true, Bool.false_eq_true, if_false, sNil]
    simp only [List.map_cons, forD, tName, List.set, Option.bind_some, st]
    exact e3
theorem law_true (A : Ad) (hA : AdOk A) (ns : List Int) (hl : ns.length ≤ 63) : G_law A [.scr ns] [] = some (.bl true, []) := by
  have hm : ∃ m : Int, max2D [] [.int 2, .int (if (5 : Int) < (ns.length : Int) then 5 else (ns.length : Int))] = some (.int m) ∧ 0 ≤ m ∧ m ≤ 100 := by
    refine ⟨_, rfl, ?_, ?_⟩ <;> split <;> (try split) <;> omega
  obtain ⟨m, hm, m0, m1⟩ := hm
  obtain ⟨o1, o2, S', e⟩ := law_loop hA (ns := ns) (List.range m.toNat) (fun x hx => by have := List.mem_range.mp hx; omega) [] none none
  have st : startE 4 [D.scr ns] = [some (.scr ns), none, none, none] := rfl
  have hr : -(2 ^ 62) ≤ m ∧ m < 2 ^ 62 := ⟨by omega, by omega⟩
  have ln : lenD [] [.scr ns] = some (.int (ns.length : Int)) := by simp [lenD, itemsD]
  have mn : min2D [] [.int (ns.length : Int), .int 5] = some (.int (if (5 : Int) < (ns.length : Int) then 5 else (ns.length : Int))) := rfl
  have b : G_law A = fnD 4 (sSeq (sFor (iRange1 (aCons (eCall max2D (aCons (eC (.int 2)) (aCons (eCall min2D (aCons (eCall lenD (aCons (eVar 0) (aNil))) (aCons (eC (.int 5)) (aNil)))) (aNil)))) (aNil))) (tName 1) (loopB A)) (sRet (eC (.bl true)))) := rfl
  rw [b]
  simp only [fnD, st]
  rw [seq_nx (ρ' := [some (.scr ns), o1, o2, none]) (S' := S') (by simp only [sFor, iRange1, eCall, aCons, aNil, eC, eVar, List.getElem?_cons_zero, Option.bind_some, Option.map_some, ln, mn, hm, hr, and_self, if_true, e])]
  simp only [sRet, eC, Option.map_some, Option.bind_some, fin, List.length_nil, D.clean, if_true, List.take_zero]
  split
  · rename_i h
    rw [List.length_eq_zero_iff.mp h]
  · rfl
end K9
end
section
open PySem PySem.W PySem.Calls PyProof.Rows
theorem PySem.Challenge.cw_ringvotes_k09_pipes_and_meters_holds : PySem.Challenge.rw_ringvotes_k09_pipes_and_meters.Holds := by
  w_on; o_law
  refine HandSHeadRun.head_any (r := OpenLaw.row PySem.Challenge.rw_ringvotes_k09_pipes_and_meters) (q := view (OpenLaw.row PySem.Challenge.rw_ringvotes_k09_pipes_and_meters).prog [21]) (H := K9.hk) (ob := K9.ob) (M := 3000) (loose := ["BadValue", "InvalidName", "InvalidEnd", "InvalidFlag", "LETTERS", "DIGITS", "LONGEST_NAME", "is_name", "check_name", "Pipe", "Meter", "_law_well", "_law_dip", "_law_name", "_law_fresh", "_law_pipe_right", "_law_meter_right"]) (d := HandSHeadRun.topDef (OpenLaw.row PySem.Challenge.rw_ringvotes_k09_pipes_and_meters).prog 21) (kwd := []) K9.ob_eq
    (by kernel_rfl) (fun s => by kernel_rfl) K9.run (by kernel_rfl) (by kernel_rfl) (by kernel_rfl) (by rfl) (by first | assumption | decide +kernel) (by decide +kernel) ⟨rfl, rfl, rfl, rfl, rfl, by decide +kernel⟩ ?hw ?hc
  case hw => w_witness2
  case hc =>
    refine RV.walk_G (l := PySem.Challenge.rw_ringvotes_k09_pipes_and_meters) (n := 63) (k := 6) (x := "_law_cells") rfl (by decide) (by kernel_rfl) ⟨rfl, by decide, by decide⟩ ?F
    intro w mg fa h Y G hmg0
    obtain ⟨K, KX, c, cx⟩ := Y
    have hmg : mg ("law" : PySem.Str) = some (.ref fa) := by
      have e : (HandSHeadRun.topDef (OpenLaw.row PySem.Challenge.rw_ringvotes_k09_pipes_and_meters).prog 21).name = ("law" : PySem.Str) := by kernel_rfl
      rw [← e]
      exact hmg0
    obtain ⟨fd, hb, hF⟩ := K9.facts (P := (PySem.Challenge.rw_ringvotes_k09_pipes_and_meters).prog) (w := w) KX G hmg c cx
    exact ⟨K, fd, K9.G_law (K9.ad K), KX, hb, fun ns hl => K9.law_true (K9.ad K) (K9.ad_ok cx) ns hl, hF⟩
end
