import PyProof.Rows.All
import Wide.All
import OpenK.AllK
import Wide.FinOn
import HandS.ForMost
import HandS.ForExc
import HandS.Property
import HandS.MakeKw
import HandS.MakeKwOnly
import HandS.WideBits
import HandS.IsInst
import HandS.OwnEq
import HandS.Flow
import HandS.ExcCtx
import HandS.ExcInit
import HandS.HotCalls
import HandS.SuiteRaise
import HandS.RaiseFrom
import HandS.ExcInitHot
import HandS.Style
import HandS.Head0
import HandS.Head1
import HandS.Head2
import HandS.HeadEnd
import HandS.HeadHook1
import HandS.HeadHook2
import HandS.HeadHook3
import HandS.HeadHook4
import KE.KStateDown
import HandS.HeadNt
import HandS.ClsMeth
import HandS.Star
import HandS.FStr
import HandS.CallLocal
import HandS.RaiseMore
import HandS.Iter
import KE.GoesEnum
import KE.KCallOwn
import PySem.Challenge.RW_ringvotes_k12_whole_texts_of_nets
set_option Elab.async false
set_option linter.all false
set_option maxRecDepth 100000
set_option maxHeartbeats 0
section
/-! Data without a heap (D), how it lies in a heap (Rp), and what a piece of the text computes over it. -/
namespace RV
open PySem L2
inductive D where
  | non
  | bl (b : Bool)
  | int (i : Int)
  | str (s : Str)
  | ty (n : String)
  | adr (a : Addr)
  | cell (k : Nat)
  | scr (ns : List Int)
  | tup (ds : List D)
  | lst (ds : List D)
  | obj (C : Addr) (fs : List (Str × D))
  | dic (kvs : List (Key × D))
  | exc (C : Addr) (fs : List (Str × D))

mutual
inductive Rp (K : PySem.W.Frag) (as : List Addr) (F : Hp) : D → V → Prop where
  | non : Rp K as F .non .non
  | bl (b : Bool) : Rp K as F (.bl b) (.bl b)
  | int (i : Int) : Rp K as F (.int i) (.int i)
  | str (s : Str) : Rp K as F (.str s) (.str s)
  | ty (n : String) : Rp K as F (.ty n) (.ty n)
  | adr (a : Addr) : Rp K as F (.adr a) (.ref a)
  | cell {k : Nat} {a : Addr} : as[k]? = some a → Rp K as F (.cell k) (.ref a)
  | scr {a : Addr} {ns : List Int} : SqL K F a (ns.map V.int) → Rp K as F (.scr ns) (.ref a)
  | tup {a : Addr} {xs : List V} {ds : List D} : SqT K F a xs → RpL K as F ds xs → Rp K as F (.tup ds) (.ref a)
  | lst {a : Addr} {xs : List V} {ds : List D} : F a = some (.lst xs) → RpL K as F ds xs → Rp K as F (.lst ds) (.ref a)
  | obj {a C dx : Addr} {fs : List (Str × D)} {vfs : List (Str × V)} : F a = some (.ins C dx vfs) → RpF K as F fs vfs → Rp K as F (.obj C fs) (.ref a)
  | dic {a : Addr} {kvs : List (Key × D)} {vkv : List (Key × V)} : F a = some (.dK vkv) → RpK K as F kvs vkv → Rp K as F (.dic kvs) (.ref a)
inductive RpL (K : PySem.W.Frag) (as : List Addr) (F : Hp) : List D → List V → Prop where
  | nil : RpL K as F [] []
  | cons {d : D} {v : V} {ds : List D} {vs : List V} : Rp K as F d v → RpL K as F ds vs → RpL K as F (d :: ds) (v :: vs)
inductive RpF (K : PySem.W.Frag) (as : List Addr) (F : Hp) : List (Str × D) → List (Str × V) → Prop where
  | nil : RpF K as F [] []
  | cons {n : Str} {d : D} {v : V} {fs : List (Str × D)} {vfs : List (Str × V)} : Rp K as F d v → RpF K as F fs vfs → RpF K as F ((n, d) :: fs) ((n, v) :: vfs)
inductive RpK (K : PySem.W.Frag) (as : List Addr) (F : Hp) : List (Key × D) → List (Key × V) → Prop where
  | nil : RpK K as F [] []
  | cons {n : Key} {d : D} {v : V} {fs : List (Key × D)} {vfs : List (Key × V)} : Rp K as F d v → RpK K as F fs vfs → RpK K as F ((n, d) :: fs) ((n, v) :: vfs)
end

/-- what F knows, H knows -/
def Ex (F H : Hp) : Prop := ∀ a o, F a = some o → H a = some o
theorem Ex.refl (F : Hp) : Ex F F := fun _ _ h => h
theorem Ex.trans {F G H : Hp} (a : Ex F G) (b : Ex G H) : Ex F H := fun x o h => b x o (a x o h)
theorem Ex.sqT {K : PySem.W.Frag} {F H : Hp} {a : Addr} {xs : List V} (e : Ex F H) (h : SqT K F a xs) : SqT K H a xs := by
  rcases h with h | h
  · rcases h with h | ⟨o, h⟩
    · exact .inl (.inl (e a _ h))
    · exact .inl (.inr ⟨o, e a _ h⟩)
  · exact .inr h
theorem Ex.sqL {K : PySem.W.Frag} {F H : Hp} {a : Addr} {xs : List V} (e : Ex F H) (h : SqL K F a xs) : SqL K H a xs := by
  rcases h with h | h
  · rcases h with h | ⟨o, h⟩
    · exact .inl (.inl (e a _ h))
    · exact .inl (.inr ⟨o, e a _ h⟩)
  · exact .inr h
theorem Ex.new {F : Hp} {p : Addr} {o : HO} (h : F p = none) : Ex F (upd F p o) := fun a u q => by
  rw [upd_ne (ne_of_none q h)]
  exact q
theorem Ex.both {F H : Hp} {p : Addr} {o : HO} (e : Ex F H) : Ex (upd F p o) (upd H p o) := fun a u q => by
  by_cases h : a = p
  · subst h
    rw [upd_same] at q ⊢
    exact q
  · rw [upd_ne h] at q ⊢
    exact e a u q

def Pre (as bs : List Addr) : Prop := ∀ (i : Nat) (a : Addr), as[i]? = some a → bs[i]? = some a
theorem Pre.refl (as : List Addr) : Pre as as := fun _ _ h => h
theorem Pre.trans {as bs cs : List Addr} (a : Pre as bs) (b : Pre bs cs) : Pre as cs := fun i x h => b i x (a i x h)

section
variable {K : PySem.W.Frag} {as bs : List Addr} {F G : Hp}
mutual
theorem Rp.mono (e : Ex F G) (p : Pre as bs) : ∀ {d : D} {v : V}, Rp K as F d v → Rp K bs G d v
  | _, _, .non => .non
  | _, _, .bl b => .bl b
  | _, _, .int i => .int i
  | _, _, .str s => .str s
  | _, _, .ty n => .ty n
  | _, _, .adr a => .adr a
  | _, _, .cell h => .cell (p _ _ h)
  | _, _, .scr h => .scr (e.sqL h)
  | _, _, .tup h r => .tup (e.sqT h) (RpL.mono e p r)
  | _, _, .lst h r => .lst (e _ _ h) (RpL.mono e p r)
  | _, _, .obj h r => .obj (e _ _ h) (RpF.mono e p r)
  | _, _, .dic h r => .dic (e _ _ h) (RpK.mono e p r)
theorem RpL.mono (e : Ex F G) (p : Pre as bs) : ∀ {ds : List D} {vs : List V}, RpL K as F ds vs → RpL K bs G ds vs
  | _, _, .nil => .nil
  | _, _, .cons h r => .cons (Rp.mono e p h) (RpL.mono e p r)
theorem RpF.mono (e : Ex F G) (p : Pre as bs) : ∀ {fs : List (Str × D)} {vfs : List (Str × V)}, RpF K as F fs vfs → RpF K bs G fs vfs
  | _, _, .nil => .nil
  | _, _, .cons h r => .cons (Rp.mono e p h) (RpF.mono e p r)
theorem RpK.mono (e : Ex F G) (p : Pre as bs) : ∀ {fs : List (Key × D)} {vfs : List (Key × V)}, RpK K as F fs vfs → RpK K bs G fs vfs
  | _, _, .nil => .nil
  | _, _, .cons h r => .cons (Rp.mono e p h) (RpK.mono e p r)
end
theorem RpL.length : ∀ {ds : List D} {vs : List V}, RpL K as F ds vs → ds.length = vs.length
  | _, _, .nil => rfl
  | _, _, .cons _ r => congrArg (· + 1) r.length
theorem RpL.append : ∀ {ds es : List D} {vs ws : List V}, RpL K as F ds vs → RpL K as F es ws → RpL K as F (ds ++ es) (vs ++ ws)
  | _, _, _, _, .nil, s => s
  | _, _, _, _, .cons h r, s => .cons h (r.append s)
theorem RpL.get : ∀ {ds : List D} {vs : List V}, RpL K as F ds vs → ∀ {i : Nat} {d : D}, ds[i]? = some d → ∃ v, vs[i]? = some v ∧ Rp K as F d v
  | _, _, .nil, i, d, h => by simp at h
  | _, _, .cons h r, 0, d, e => by
    simp only [List.getElem?_cons_zero, Option.some.injEq] at e
    subst e
    exact ⟨_, rfl, h⟩
  | _, _, .cons h r, i + 1, d, e => by
    obtain ⟨v, q, z⟩ := r.get (i := i) (d := d) (by simpa using e)
    exact ⟨v, by simpa using q, z⟩
theorem RpL.get' : ∀ {ds : List D} {vs : List V}, RpL K as F ds vs → ∀ {i : Nat} {v : V}, vs[i]? = some v → ∃ d, ds[i]? = some d ∧ Rp K as F d v
  | _, _, .nil, i, d, h => by simp at h
  | _, _, .cons h r, 0, d, e => by
    simp only [List.getElem?_cons_zero, Option.some.injEq] at e
    subst e
    exact ⟨_, rfl, h⟩
  | _, _, .cons h r, i + 1, d, e => by
    obtain ⟨v, q, z⟩ := r.get' (i := i) (v := d) (by simpa using e)
    exact ⟨v, by simpa using q, z⟩
theorem RpL.set {d : D} {v : V} (h : Rp K as F d v) : ∀ {ds : List D} {vs : List V} (i : Nat), RpL K as F ds vs → RpL K as F (ds.set i d) (vs.set i v)
  | _, _, _, .nil => .nil
  | _, _, 0, .cons _ r => .cons h r
  | _, _, i + 1, .cons q r => .cons q (RpL.set h i r)
theorem RpL.drop : ∀ {ds : List D} {vs : List V} (n : Nat), RpL K as F ds vs → RpL K as F (ds.drop n) (vs.drop n)
  | _, _, 0, r => r
  | _, _, _ + 1, .nil => .nil
  | _, _, n + 1, .cons _ r => RpL.drop n r
theorem RpL.take : ∀ {ds : List D} {vs : List V} (n : Nat), RpL K as F ds vs → RpL K as F (ds.take n) (vs.take n)
  | _, _, 0, _ => .nil
  | _, _, _ + 1, .nil => .nil
  | _, _, n + 1, .cons h r => .cons h (RpL.take n r)
theorem RpF.look {f : Str} : ∀ {fs : List (Str × D)} {vfs : List (Str × V)} {d : D}, RpF K as F fs vfs → fs.lookup f = some d → ∃ v, vfs.lookup f = some v ∧ Rp K as F d v
  | _, _, d, .nil, e => by simp at e
  | _, _, d, .cons (n := n) h r, e => by
    by_cases q : (f == n) = true
    · simp only [List.lookup, q] at e ⊢
      cases e
      exact ⟨_, rfl, h⟩
    · have q' : (f == n) = false := by simpa using q
      simp only [List.lookup, q'] at e ⊢
      exact r.look e
theorem RpF.look0 {f : Str} : ∀ {fs : List (Str × D)} {vfs : List (Str × V)}, RpF K as F fs vfs → fs.lookup f = none → vfs.lookup f = none
  | _, _, .nil, e => rfl
  | _, _, .cons (n := n) h r, e => by
    by_cases q : (f == n) = true
    · simp only [List.lookup, q] at e
      cases e
    · have q' : (f == n) = false := by simpa using q
      simp only [List.lookup, q'] at e ⊢
      exact r.look0 e
theorem RpL.unsn {ds : List D} {d : D} {vs : List V} (r : RpL K as F (d :: ds) vs) : ∃ v ws, vs = v :: ws ∧ Rp K as F d v ∧ RpL K as F ds ws := by
  cases r with
  | cons h r => exact ⟨_, _, rfl, h, r⟩
theorem RpL.unnil {vs : List V} (r : RpL K as F [] vs) : vs = [] := by
  cases r
  rfl
end

/-! ### cells: lists, dicts, objects that change; what they hold names no cell -/
inductive Cell where
  | lst (ds : List D)
  | dic (kvs : List (Key × D))
  | ob (C : Addr) (fs : List (Str × D))
  | hid
def Cell.isHid : Cell → Bool
  | .hid => true
  | _ => false
abbrev WS := List Cell
def CellOf (K : PySem.W.Frag) (F : Hp) : Cell → HO → Prop
  | .lst ds, .lst xs => RpL K [] F ds xs
  | .dic kvs, .dK vkv => RpK K [] F kvs vkv
  | .ob C fs, .ins C' _ vfs => C' = C ∧ RpF K [] F fs vfs
  | .hid, _ => True
  | _, _ => False
theorem CellOf.mono {K : PySem.W.Frag} {F G : Hp} (e : Ex F G) : ∀ {c : Cell} {o : HO}, CellOf K F c o → CellOf K G c o := by
  intro c o h
  cases c with
  | hid => trivial
  | lst ds =>
    cases o with
    | lst xs => exact RpL.mono e (Pre.refl _) h
    | _ => exact h.elim
  | dic ds =>
    cases o with
    | dK xs => exact RpK.mono e (Pre.refl _) h
    | _ => exact h.elim
  | ob C fs =>
    cases o with
    | ins C' dx vfs => exact ⟨h.1, RpF.mono e (Pre.refl _) h.2⟩
    | _ => exact h.elim
structure CellAt (K : PySem.W.Frag) (F H : Hp) (p : Addr) (c : Cell) : Prop where
  out : c.isHid = false → F p = none
  at_ : ∃ o, H p = some o ∧ CellOf K F c o
theorem CellAt.there {K : PySem.W.Frag} {F H : Hp} {p : Addr} {c : Cell} (h : CellAt K F H p c) : H p ≠ none := by
  obtain ⟨o, e, _⟩ := h.at_
  rw [e]
  simp
/-- F: what stands still; H: the heap; as, S: the cells -/
structure Sit (K : PySem.W.Frag) (as : List Addr) (F H : Hp) (S : WS) : Prop where
  len : as.length = S.length
  ex : Ex F H
  nd : as.Nodup
  cell : ∀ (i : Nat) (p : Addr) (c : Cell), as[i]? = some p → S[i]? = some c → CellAt K F H p c
theorem Sit.at_ {K : PySem.W.Frag} {as : List Addr} {F H : Hp} {S : WS} (I : Sit K as F H S) {i : Nat} {c : Cell} (h : S[i]? = some c) : ∃ p, as[i]? = some p ∧ CellAt K F H p c := by
  have hl : i < as.length := by
    rw [I.len]
    exact (List.getElem?_eq_some_iff.mp h).1
  exact ⟨as[i], List.getElem?_eq_getElem hl, I.cell i _ c (List.getElem?_eq_getElem hl) h⟩
theorem Sit.there {K : PySem.W.Frag} {as : List Addr} {F H : Hp} {S : WS} (I : Sit K as F H S) {p : Addr} (h : p ∈ as) : H p ≠ none := by
  obtain ⟨i, hi⟩ := List.getElem?_of_mem h
  have hl : i < S.length := by
    rw [← I.len]
    exact (List.getElem?_eq_some_iff.mp hi).1
  exact (I.cell i p S[i] hi (List.getElem?_eq_getElem hl)).there
structure Grow (K : PySem.W.Frag) (as : List Addr) (F H : Hp) (bs : List Addr) (F' H' : Hp) (S' : WS) : Prop where
  sit : Sit K bs F' H' S'
  pre : Pre as bs
  ex : Ex F F'
  new : ∀ a, F' a ≠ none → F a ≠ none ∨ H a = none
  newc : ∀ p ∈ bs, p ∈ as ∨ H p = none
  old : ∀ a o, a ∉ as → H a = some o → H' a = some o
  there : ∀ a, H a ≠ none → H' a ≠ none
section
variable {K : PySem.W.Frag} {as bs cs : List Addr} {F H F1 H1 F2 H2 : Hp} {S S1 S2 : WS}
theorem Grow.refl (I : Sit K as F H S) : Grow K as F H as F H S :=
  ⟨I, Pre.refl _, Ex.refl _, fun _ h => .inl h, fun _ h => .inl h, fun _ _ _ h => h, fun _ h => h⟩
theorem none_back {a : Addr} (t : H a ≠ none → H1 a ≠ none) (h : H1 a = none) : H a = none := by
  cases q : H a with
  | none => rfl
  | some o => exact absurd h (t (by rw [q]; simp))
theorem Grow.trans (a : Grow K as F H bs F1 H1 S1) (b : Grow K bs F1 H1 cs F2 H2 S2) : Grow K as F H cs F2 H2 S2 where
  sit := b.sit
  pre := a.pre.trans b.pre
  ex := a.ex.trans b.ex
  new := fun x h => by
    rcases b.new x h with h | h
    · exact a.new x h
    · exact .inr (none_back (a.there x) h)
  newc := fun p h => by
    rcases b.newc p h with h | h
    · exact a.newc p h
    · exact .inr (none_back (a.there p) h)
  old := fun x o h q => by
    have q1 := a.old x o h q
    refine b.old x o (fun hx => ?_) q1
    rcases a.newc x hx with z | z
    · exact h z
    · rw [z] at q
      cases q
  there := fun x h => b.there x (a.there x h)
theorem RpE_aux {d : D} {v : V} (g : Grow K as F H bs F1 H1 S1) (r : Rp K as F d v) : Rp K bs F1 d v := r.mono g.ex g.pre
theorem Sit.out {p : Addr} (I : Sit K as F H S) (hp : H p = none) : F p = none := by
  cases q : F p with
  | none => rfl
  | some u =>
    have z := I.ex p u q
    rw [hp] at z
    cases z
theorem upd_there {p a : Addr} {o : HO} (h : H a ≠ none) : upd H p o a ≠ none := by
  by_cases e : a = p
  · subst e
    rw [upd_same]
    simp
  · rw [upd_ne e]
    exact h
/-- a new thing that stands still -/
theorem Sit.grow {p : Addr} {o : HO} (I : Sit K as F H S) (hp : H p = none) : Grow K as F H as (upd F p o) (upd H p o) S := by
  have fp : F p = none := I.out hp
  have np : ∀ q ∈ as, q ≠ p := fun q hq e => I.there (e ▸ hq) hp
  refine ⟨⟨I.len, I.ex.both, I.nd, fun i q c h1 h2 => ?_⟩, Pre.refl _, Ex.new fp, fun a h => ?_, fun _ h => .inl h, fun a u _ h => ?_, fun a h => upd_there h⟩
  · obtain ⟨z1, ob, z2, z3⟩ := I.cell i q c h1 h2
    have nq : q ≠ p := np q (List.mem_of_getElem? h1)
    exact ⟨fun h => by rw [upd_ne nq]; exact z1 h, ob, by rw [upd_ne nq]; exact z2, z3.mono (Ex.new fp)⟩
  · by_cases e : a = p
    · subst e
      exact .inr hp
    · rw [upd_ne e] at h
      exact .inl h
  · rw [upd_ne (ne_of_none h hp)]
    exact h
/-- a thing that neither stands still nor is a cell changes -/
theorem Sit.other {p : Addr} {o : HO} (I : Sit K as F H S) (hf : F p = none) (ha : p ∉ as) : Sit K as F (upd H p o) S := by
  refine ⟨I.len, fun a u h => ?_, I.nd, fun i q c h1 h2 => ?_⟩
  · have np : a ≠ p := fun z => by rw [z, hf] at h; cases h
    rw [upd_ne np]
    exact I.ex a u h
  · obtain ⟨z1, ob, z2, z3⟩ := I.cell i q c h1 h2
    have nq : q ≠ p := fun z => ha (z ▸ List.mem_of_getElem? h1)
    exact ⟨z1, ob, by rw [upd_ne nq]; exact z2, z3⟩
/-- a thing that is no cell stands still from here on -/
theorem Sit.freeze {p : Addr} {o : HO} (I : Sit K as F H S) (hf : F p = none) (ha : p ∉ as) (hp : H p = some o) : Sit K as (upd F p o) H S := by
  refine ⟨I.len, fun a u h => ?_, I.nd, fun i q c h1 h2 => ?_⟩
  · by_cases e2 : a = p
    · subst e2
      rw [upd_same] at h
      cases h
      exact hp
    · rw [upd_ne e2] at h
      exact I.ex a u h
  · obtain ⟨z1, ob, z2, z3⟩ := I.cell i q c h1 h2
    have nq : q ≠ p := fun z => ha (z ▸ List.mem_of_getElem? h1)
    exact ⟨fun h => by rw [upd_ne nq]; exact z1 h, ob, z2, z3.mono (Ex.new hf)⟩
end

/-! ### what is computed -/
abbrev Env := List (Option D)
abbrev Xq := D → WS → Prop
abbrev M := WS → (D → WS → Prop) → Xq → Prop
abbrev MB := WS → (Bool → WS → Prop) → Xq → Prop
abbrev ML := WS → (List D → WS → Prop) → Xq → Prop
/-- where a statement may go on -/
structure Kt where
  nx : Env → WS → Prop
  rt : D → WS → Prop
  bk : Env → WS → Prop
  ct : Env → WS → Prop
  ex : D → Env → WS → Prop
abbrev MS := WS → Kt → Prop
/-- the slots -/
structure RpE (K : PySem.W.Frag) (as : List Addr) (F : Hp) (ρ : Env) (σ : L2.St) : Prop where
  len : ρ.length = σ.length
  at_ : ∀ (i : Nat) (d : D), ρ[i]? = some (some d) → ∃ v, σ[i]? = some (some v) ∧ Rp K as F d v
theorem RpE.mono {K : PySem.W.Frag} {as bs : List Addr} {F G : Hp} {ρ : Env} {σ : L2.St} (r : RpE K as F ρ σ) (e : Ex F G) (p : Pre as bs) : RpE K bs G ρ σ :=
  ⟨r.len, fun i d h => let ⟨v, h1, h2⟩ := r.at_ i d h; ⟨v, h1, h2.mono e p⟩⟩
theorem RpE.grow {K : PySem.W.Frag} {as bs : List Addr} {F H F1 H1 : Hp} {S1 : WS} {ρ : Env} {σ : L2.St} (r : RpE K as F ρ σ) (g : Grow K as F H bs F1 H1 S1) : RpE K bs F1 ρ σ := r.mono g.ex g.pre
theorem RpE.set {K : PySem.W.Frag} {as : List Addr} {F : Hp} {ρ : Env} {σ : L2.St} {i : Nat} {d : D} {v : V} (r : RpE K as F ρ σ) (h : Rp K as F d v) : RpE K as F (ρ.set i (some d)) (σ.set i (some v)) := by
  refine ⟨by rw [List.length_set, List.length_set]; exact r.len, fun j e q => ?_⟩
  by_cases hj : i = j
  · subst hj
    have hl : i < ρ.length := by
      have := (List.getElem?_eq_some_iff.mp q).1
      rwa [List.length_set] at this
    rw [List.getElem?_set_self hl] at q
    cases q
    exact ⟨v, List.getElem?_set_self (by rw [← r.len]; exact hl), h⟩
  · rw [List.getElem?_set_ne hj] at q ⊢
    exact r.at_ j e q
/-- an error in flight -/
def RxD (K : PySem.W.Frag) (as : List Addr) (F : Hp) (e : D) (cls : Value) (dd : Option Addr) : Prop := ∃ (C d : Addr) (fs : List (Str × D)) (vfs : List (Str × V)), e = .exc C fs ∧ cls = .ref C ∧ dd = some d ∧ F d = some (.xd vfs) ∧ RpF K as F fs vfs
theorem RxD.mono {K : PySem.W.Frag} {as bs : List Addr} {F G : Hp} {e : D} {cls : Value} {dd : Option Addr} (x : Ex F G) (p : Pre as bs) (r : RxD K as F e cls dd) : RxD K bs G e cls dd := by
  obtain ⟨C, d, fs, vfs, e1, e2, e3, e4, e5⟩ := r
  exact ⟨C, d, fs, vfs, e1, e2, e3, x _ _ e4, e5.mono x p⟩
/-- the value's end -/
def NQ (K : PySem.W.Frag) (as : List Addr) (F H : Hp) (q : D → WS → Prop) (Q : VK) : Prop := ∀ d S' bs F' H' v, q d S' → Grow K as F H bs F' H' S' → Rp K bs F' d v → Q v H'
/-- the error's end -/
def XQ (K : PySem.W.Frag) (as : List Addr) (F H : Hp) (x : Xq) (E : XK) : Prop := ∀ e S' bs F' H' cls dd, x e S' → Grow K as F H bs F' H' S' → RxD K bs F' e cls dd → E cls dd H'
section
variable {K : PySem.W.Frag} {as bs : List Addr} {F H F1 H1 : Hp} {S1 : WS} {q : D → WS → Prop} {Q : VK} {x : Xq} {E : XK}
theorem NQ.step (h : NQ K as F H q Q) (g : Grow K as F H bs F1 H1 S1) : NQ K bs F1 H1 q Q := fun d S' cs F' H' v a b c => h d S' cs F' H' v a (g.trans b) c
theorem XQ.step (h : XQ K as F H x E) (g : Grow K as F H bs F1 H1 S1) : XQ K bs F1 H1 x E := fun d S' cs F' H' v w a b c => h d S' cs F' H' v w a (g.trans b) c
theorem XQ.no : XQ K as F H (fun _ _ => False) E := fun _ _ _ _ _ _ _ h => h.elim
end
/-- the value of an expression's reading, by the data -/
def ME (K : PySem.W.Frag) (W : WX) (te : TE) (m : Env → M) : Prop := ∀ (as : List Addr) (F H : Hp) (S : WS) (ρ : Env) (σ : L2.St), Sit K as F H S → RpE K as F ρ σ → ∀ q x, m ρ S q x →
  ∀ Q : VK, NQ K as F H q Q → XQ K as F H x (WE W σ) → te σ H Q
def MTt (K : PySem.W.Frag) (W : WX) (te : TT) (m : Env → MB) : Prop := ∀ (as : List Addr) (F H : Hp) (S : WS) (ρ : Env) (σ : L2.St), Sit K as F H S → RpE K as F ρ σ → ∀ q x, m ρ S q x →
  ∀ Q : Bool → Hp → Prop, (∀ b S' bs F' H', q b S' → Grow K as F H bs F' H' S' → Q b H') → XQ K as F H x (WE W σ) → te σ H Q
def MA (K : PySem.W.Frag) (W : WX) (te : TA) (m : Env → ML) : Prop := ∀ (as : List Addr) (F H : Hp) (S : WS) (ρ : Env) (σ : L2.St), Sit K as F H S → RpE K as F ρ σ → ∀ q x, m ρ S q x →
  ∀ Q : List V → Hp → Prop, (∀ ds S' bs F' H' vs, q ds S' → Grow K as F H bs F' H' S' → RpL K bs F' ds vs → Q vs H') → XQ K as F H x (WE W σ) → te σ H Q
structure SQ (K : PySem.W.Frag) (W : WX) (as : List Addr) (F H : Hp) (k : Kt) (E : Ends) : Prop where
  nx : ∀ ρ' S' bs F' H' σ', k.nx ρ' S' → Grow K as F H bs F' H' S' → RpE K bs F' ρ' σ' → E.nx σ' H'
  rt : ∀ d S' bs F' H' v, k.rt d S' → Grow K as F H bs F' H' S' → Rp K bs F' d v → E.rt v H'
  bk : ∀ ρ' S' bs F' H' σ', k.bk ρ' S' → Grow K as F H bs F' H' S' → RpE K bs F' ρ' σ' → E.bk σ' H'
  ct : ∀ ρ' S' bs F' H' σ', k.ct ρ' S' → Grow K as F H bs F' H' S' → RpE K bs F' ρ' σ' → E.ct σ' H'
  ex : ∀ e ρ' S' bs F' H' σ' cls dd, k.ex e ρ' S' → Grow K as F H bs F' H' S' → RpE K bs F' ρ' σ' → RxD K bs F' e cls dd → W cls dd σ' H'
theorem SQ.step {K : PySem.W.Frag} {W : WX} {as bs : List Addr} {F H F1 H1 : Hp} {S1 : WS} {k : Kt} {E : Ends} (h : SQ K W as F H k E) (g : Grow K as F H bs F1 H1 S1) : SQ K W bs F1 H1 k E :=
  ⟨fun a b c d e f x y => h.nx a b c d e f x (g.trans y), fun a b c d e f x y => h.rt a b c d e f x (g.trans y), fun a b c d e f x y => h.bk a b c d e f x (g.trans y), fun a b c d e f x y => h.ct a b c d e f x (g.trans y), fun a b c d e f i j l x y => h.ex a b c d e f i j l x (g.trans y)⟩
/-- an expression's error within a statement -/
theorem SQ.xq {K : PySem.W.Frag} {W : WX} {as : List Addr} {F H : Hp} {k : Kt} {E : Ends} {ρ : Env} {σ : L2.St} (h : SQ K W as F H k E) (R : RpE K as F ρ σ) : XQ K as F H (fun e S' => k.ex e ρ S') (WE W σ) := fun e S' bs F' H' cls dd a g r => h.ex e ρ S' bs F' H' σ cls dd a g (R.grow g) r
def MSt (K : PySem.W.Frag) (W : WX) (ts : TS) (m : Env → MS) : Prop := ∀ (as : List Addr) (F H : Hp) (S : WS) (ρ : Env) (σ : L2.St), Sit K as F H S → RpE K as F ρ σ → ∀ k, m ρ S k →
  ∀ E : Ends, SQ K W as F H k E → ts E σ H

structure GE (X : Cx) (W : WX) (e : Expr) (m : Env → M) : Prop where
  ex : ∃ te, PE X e te ∧ ME X.K W te m
structure GT (X : Cx) (W : WX) (e : Expr) (m : Env → MB) : Prop where
  ex : ∃ te, PT X e te ∧ MTt X.K W te m
structure GW (X : Cx) (W : WX) (e : Expr) (m : Env → MB) : Prop where
  ex : ∃ te, PW X e te ∧ MTt X.K W te m
structure GA (X : Cx) (W : WX) (es : List Expr) (m : Env → ML) : Prop where
  ex : ∃ te, PA X es te ∧ MA X.K W te m
structure GS (X : Cx) (W : WX) (st : Stmt) (m : Env → MS) : Prop where
  ex : ∃ ts, PS X st ts ∧ MSt X.K W ts m
structure GSs (X : Cx) (W : WX) (sts : List Stmt) (m : Env → MS) : Prop where
  ex : ∃ ts, PSs X sts ts ∧ MSt X.K W ts m
end RV
end
section
/-! Expressions: what each construct computes, and that its reading keeps to it. -/
namespace RV
open PySem L2
section
variable {X : Cx} {W : WX} {a b c e : Expr} {pos : Pos} {ea eb ec ee : Env → M}

def onS {α : Type} (o : Option α) (k : α → Prop) : Prop := match o with
  | some a => k a
  | none => False
theorem onS_ok {α : Type} {o : Option α} {k : α → Prop} (h : onS o k) : ∃ a, o = some a ∧ k a := by
  cases o with
  | none => exact h.elim
  | some a => exact ⟨a, rfl, h⟩
def look : Env → Nat → Option D
  | [], _ => none
  | d :: _, 0 => d
  | _ :: r, n + 1 => look r n
theorem look_at : ∀ {ρ : Env} {i : Nat} {d : D}, look ρ i = some d → ρ[i]? = some (some d)
  | [], _, _, h => by cases h
  | _ :: _, 0, _, h => by
    unfold look at h
    rw [h]
    rfl
  | _ :: _, n + 1, _, h => by
    unfold look at h
    simpa using look_at h
def eVar (i : Nat) : Env → M := fun ρ S q _ => onS (look ρ i) fun d => q d S
def eC (d : D) : Env → M := fun _ S q _ => q d S
theorem ge_var (i : Nat) {x : Str} (hN : X.N[i]? = some x := by rfl) (hv : Vis X.env.scope x := by first | exact Or.inl rfl | exact Or.inr (Or.inl rfl) | exact Or.inr (Or.inr rfl))
    (hd : (x == ("__debug__" : Str)) = false := by decide) (hcd : (x == ("__classdict__" : Str)) = false := by decide) : GE X W (.Name x pos) (eVar i) := by
  refine ⟨tVar i, pe_var hN hv hd hcd, fun as F H S ρ σ I R q x h Q hq _ => ?_⟩
  obtain ⟨d, h1, h2⟩ := onS_ok h
  obtain ⟨v, h3, h4⟩ := R.at_ i _ (look_at h1)
  exact ⟨v, h3, hq d S as F H v h2 (Grow.refl I) h4⟩
theorem me_c {K : PySem.W.Frag} {v : V} {d : D} (h : ∀ as F, Rp K as F d v) : ME K W (tC v) (eC d) := fun as F H S ρ σ I R q x e Q hq _ => hq d S as F H v e (Grow.refl I) (h as F)
theorem ge_int {i : Int} {j : Nat} : GE X W (.Constant (.int i) j pos) (eC (.int i)) := ⟨_, pe_int, me_c fun _ _ => .int i⟩
theorem ge_bl {i : Bool} {j : Nat} : GE X W (.Constant (.bool i) j pos) (eC (.bl i)) := ⟨_, pe_bl, me_c fun _ _ => .bl i⟩
theorem ge_str {i : Str} {j : Nat} : GE X W (.Constant (.str i) j pos) (eC (.str i)) := ⟨_, pe_str, me_c fun _ _ => .str i⟩
theorem ge_non {j : Nat} : GE X W (.Constant .none j pos) (eC .non) := ⟨_, pe_non, me_c fun _ _ => .non⟩
/-- a module's text, number, class -/
theorem ge_gstr {x z : Str} (hm : ∃ t, X.mg x = some (.str z t)) (hg : Gl X x := by rfl) (hd : (x == ("__debug__" : Str)) = false := by decide) : GE X W (.Name x pos) (eC (.str z)) := by
  obtain ⟨t, hm⟩ := hm
  exact ⟨_, pe_glob (v := .str z) hg hm ⟨t, rfl⟩ hd, me_c fun _ _ => .str z⟩
theorem ge_gint {x : Str} {i : Int} (hm : ∃ t, X.mg x = some (.int i t)) (hg : Gl X x := by rfl) (hd : (x == ("__debug__" : Str)) = false := by decide) : GE X W (.Name x pos) (eC (.int i)) := by
  obtain ⟨t, hm⟩ := hm
  exact ⟨_, pe_glob (v := .int i) hg hm ⟨t, rfl⟩ hd, me_c fun _ _ => .int i⟩
theorem ge_gref {x : Str} {a : Addr} (hm : X.mg x = some (.ref a)) (hg : Gl X x := by rfl) (hd : (x == ("__debug__" : Str)) = false := by decide) : GE X W (.Name x pos) (eC (.adr a)) :=
  ⟨_, pe_glob (v := .ref a) hg hm rfl hd, me_c fun _ _ => .adr a⟩
theorem ge_ty {x : Str} {n : String} (hm : X.mg x = none) (hv : bootBuiltins x = some (.type n)) (hg : Gl X x := by rfl) (hn : x ≠ "__name__" := by decide) (hd : (x == ("__debug__" : Str)) = false := by decide) : GE X W (.Name x pos) (eC (.ty n)) :=
  ⟨_, pe_bltn (v := .ty n) hg hm hv rfl hn hd, me_c fun _ _ => .ty n⟩

/-! ### operations -/
/-- an operation on values by one on data; nothing but new things comes -/
def RO (K : PySem.W.Frag) (r : R2) (f : WS → D → D → Option D) : Prop := ∀ (as : List Addr) (F H : Hp) (S : WS) (x y d : D) (vx vy : V), Sit K as F H S → Rp K as F x vx → Rp K as F y vy → f S x y = some d →
  ∀ Q : VK, (∀ F' H' v, Grow K as F H as F' H' S → Rp K as F' d v → Q v H') → r vx vy H Q
def eOp (f : WS → D → D → Option D) (ea eb : Env → M) : Env → M := fun ρ S q x => ea ρ S (fun u S1 => eb ρ S1 (fun v S2 => onS (f S2 u v) fun d => q d S2) x) x
theorem me_op {K : PySem.W.Frag} {r : R2} {f : WS → D → D → Option D} {ta tb : TE} (hr : RO K r f) (ha : ME K W ta ea) (hb : ME K W tb eb) : ME K W (tOp r ta tb) (eOp f ea eb) := fun as F H S ρ σ I R q x h Q hq hx => by
  refine ha as F H S ρ σ I R _ x h _ (fun u S1 bs F1 H1 v1 h1 g1 r1 => ?_) hx
  refine hb bs F1 H1 S1 ρ σ g1.sit (R.grow g1) _ x h1 _ (fun w S2 cs F2 H2 v2 h2 g2 r2 => ?_) (hx.step g1)
  obtain ⟨d, h3, h4⟩ := onS_ok h2
  exact hr cs F2 H2 S2 u w d v1 v2 g2.sit (RpE_aux g2 r1) r2 h3 Q fun F3 H3 v3 g3 r3 => hq d S2 cs F3 H3 v3 h4 ((g1.trans g2).trans g3) r3
theorem ge_op {op : Operator} {r : R2} {f : WS → D → D → Option D} (ho : OpR X (binaryOp op) r) (hr : RO X.K r f) (ha : GE X W a ea) (hb : GE X W b eb) : GE X W (.BinOp a op b pos) (eOp f ea eb) := by
  obtain ⟨ta, pa, ma⟩ := ha
  obtain ⟨tb, pb, mb⟩ := hb
  exact ⟨_, pe_op ho pa pb, me_op hr ma mb⟩
theorem ge_cmp {op : CmpOp} {r : R2} {f : WS → D → D → Option D} (ho : OpR X (compareOp op) r) (hr : RO X.K r f) (ha : GE X W a ea) (hb : GE X W b eb) (hm : behindInMarks op b = false) : GE X W (.Compare a [op] [b] pos) (eOp f ea eb) := by
  obtain ⟨ta, pa, ma⟩ := ha
  obtain ⟨tb, pb, mb⟩ := hb
  exact ⟨_, pe_cmpR ho pa pb hm, me_op hr ma mb⟩
theorem ge_ix {r : R2} {f : WS → D → D → Option D} (ho : IxR X r) (hr : RO X.K r f) (ha : GE X W a ea) (hb : GE X W b eb) (hs : PlainIx b := by exact fun _ _ => rfl) : GE X W (.Subscript a b pos) (eOp f ea eb) := by
  obtain ⟨ta, pa, ma⟩ := ha
  obtain ⟨tb, pb, mb⟩ := hb
  exact ⟨_, pe_ix ho pa pb hs, me_op hr ma mb⟩
def RU (K : PySem.W.Frag) (r : V → Hp → VK → Prop) (f : WS → D → Option D) : Prop := ∀ (as : List Addr) (F H : Hp) (S : WS) (x d : D) (vx : V), Sit K as F H S → Rp K as F x vx → f S x = some d →
  ∀ Q : VK, (∀ F' H' v, Grow K as F H as F' H' S → Rp K as F' d v → Q v H') → r vx H Q
def eUn (f : WS → D → Option D) (ea : Env → M) : Env → M := fun ρ S q x => ea ρ S (fun u S1 => onS (f S1 u) fun d => q d S1) x
theorem me_un {K : PySem.W.Frag} {r : V → Hp → VK → Prop} {f : WS → D → Option D} {ta : TE} (hr : RU K r f) (ha : ME K W ta ea) : ME K W (tUn r ta) (eUn f ea) := fun as F H S ρ σ I R q x h Q hq hx => by
  refine ha as F H S ρ σ I R _ x h _ (fun u S1 bs F1 H1 v1 h1 g1 r1 => ?_) hx
  obtain ⟨d, h3, h4⟩ := onS_ok h1
  exact hr bs F1 H1 S1 u d v1 g1.sit r1 h3 Q fun F3 H3 v3 g3 r3 => hq d S1 bs F3 H3 v3 h4 (g1.trans g3) r3
theorem ge_un {op : UnaryOp} {r : V → Hp → VK → Prop} {f : WS → D → Option D} (ho : UnR X (unaryOp op) r) (hr : RU X.K r f) (ha : GE X W a ea) : GE X W (.UnaryOp op a pos) (eUn f ea) := by
  obtain ⟨ta, pa, ma⟩ := ha
  exact ⟨_, pe_un ho pa, me_un hr ma⟩

/-! ### arguments -/
def aNil : Env → ML := fun _ S q _ => q [] S
def aCons (ea : Env → M) (er : Env → ML) : Env → ML := fun ρ S q x => ea ρ S (fun u S1 => er ρ S1 (fun ds S2 => q (u :: ds) S2) x) x
theorem ma_nil {K : PySem.W.Frag} : MA K W tNil aNil := fun as F H S ρ σ I R q x h Q hq _ => hq [] S as F H [] h (Grow.refl I) .nil
theorem ma_cons {K : PySem.W.Frag} {ta : TE} {tr : TA} {er : Env → ML} (ha : ME K W ta ea) (hr : MA K W tr er) : MA K W (tCons ta tr) (aCons ea er) := fun as F H S ρ σ I R q x h Q hq hx => by
  refine ha as F H S ρ σ I R _ x h _ (fun u S1 bs F1 H1 v1 h1 g1 r1 => ?_) hx
  refine hr bs F1 H1 S1 ρ σ g1.sit (R.grow g1) _ x h1 _ (fun ds S2 cs F2 H2 vs h2 g2 r2 => ?_) (hx.step g1)
  exact hq (u :: ds) S2 cs F2 H2 (v1 :: vs) h2 (g1.trans g2) (.cons (RpE_aux g2 r1) r2)
theorem ga_nil : GA X W [] aNil := ⟨_, pa_nil, ma_nil⟩
theorem ga_cons {es : List Expr} {er : Env → ML} (ha : GE X W e ea) (hr : GA X W es er) (hs : starEach (e :: es) X.env = (false, eval e X.env) :: starEach es X.env := by rfl) : GA X W (e :: es) (aCons ea er) := by
  obtain ⟨ta, pa, ma⟩ := ha
  obtain ⟨tr, pr, mr⟩ := hr
  exact ⟨_, pa_cons pa pr hs, ma_cons ma mr⟩
structure GK (X : Cx) (W : WX) (kws : List Keyword) (m : Env → ML) : Prop where
  ex : ∃ te, PK X kws te ∧ MA X.K W te m
theorem gk_nil : GK X W [] aNil := ⟨_, pk_nil, ma_nil⟩
theorem gk_cons {nm : Option Str} {kpos : Pos} {kws : List Keyword} {er : Env → ML} (ha : GE X W e ea) (hr : GK X W kws er) : GK X W (⟨nm, e, kpos⟩ :: kws) (aCons ea er) := by
  obtain ⟨ta, pa, ma⟩ := ha
  obtain ⟨tr, pr, mr⟩ := hr
  exact ⟨_, pk_cons pa pr, ma_cons ma mr⟩

/-! ### displays -/
def small (n : Nat) : Bool := decide (n ≤ 100000)
theorem small_le {n : Nat} (h : small n = true) : n ≤ sizeLine := Nat.le_trans (of_decide_eq_true h) (by decide)
def eSeq (mk : List D → D) (er : Env → ML) : Env → M := fun ρ S q x => er ρ S (fun ds S1 => small ds.length = true ∧ q (mk ds) S1) x
theorem me_tup {K : PySem.W.Frag} {t : TA} {er : Env → ML} (h : MA K W t er) : ME K W (tTup t) (eSeq .tup er) := fun as F H S ρ σ I R q x e Q hq hx => by
  refine h as F H S ρ σ I R _ x e _ (fun ds S1 bs F1 H1 vs h1 g1 r1 => ⟨?_, fun a ha => ?_⟩) hx
  · rw [← r1.length]
    exact small_le h1.1
  · have g2 := g1.sit.grow (o := .tup vs) ha
    exact hq _ S1 bs _ _ _ h1.2 (g1.trans g2) (.tup (SqT.of upd_same) (r1.mono g2.ex g2.pre))
theorem me_lst {K : PySem.W.Frag} {t : TA} {er : Env → ML} (h : MA K W t er) : ME K W (tLst t) (eSeq .lst er) := fun as F H S ρ σ I R q x e Q hq hx => by
  refine h as F H S ρ σ I R _ x e _ (fun ds S1 bs F1 H1 vs h1 g1 r1 => ⟨?_, fun a ha => ?_⟩) hx
  · rw [← r1.length]
    exact small_le h1.1
  · have g2 := g1.sit.grow (o := .lst vs) ha
    exact hq _ S1 bs _ _ _ h1.2 (g1.trans g2) (.lst upd_same (r1.mono g2.ex g2.pre))
theorem ge_tup {es : List Expr} {er : Env → ML} {x1} (h : GA X W es er) : GE X W (.Tuple es x1 pos) (eSeq .tup er) := by
  obtain ⟨t, p, m⟩ := h
  exact ⟨_, pe_tup p, me_tup m⟩
theorem ge_lst {es : List Expr} {er : Env → ML} (h : GA X W es er) : GE X W (.List es pos) (eSeq .lst er) := by
  obtain ⟨t, p, m⟩ := h
  exact ⟨_, pe_lst p, me_lst m⟩

/-! ### calls of built-ins -/
def RC (K : PySem.W.Frag) (r : List V → Hp → VK → Prop) (f : WS → List D → Option D) : Prop := ∀ (as : List Addr) (F H : Hp) (S : WS) (ds : List D) (d : D) (vs : List V), Sit K as F H S → RpL K as F ds vs → f S ds = some d →
  ∀ Q : VK, (∀ F' H' v, Grow K as F H as F' H' S → Rp K as F' d v → Q v H') → r vs H Q
def eCall (f : WS → List D → Option D) (er : Env → ML) : Env → M := fun ρ S q x => er ρ S (fun ds S1 => onS (f S1 ds) fun d => q d S1) x
theorem me_cb {K : PySem.W.Frag} {r : List V → Hp → VK → Prop} {f : WS → List D → Option D} {t : TA} {er : Env → ML} (hr : RC K r f) (h : MA K W t er) : ME K W (tCB r t) (eCall f er) := fun as F H S ρ σ I R q x e Q hq hx => by
  refine h as F H S ρ σ I R _ x e _ (fun ds S1 bs F1 H1 vs h1 g1 r1 => ?_) hx
  obtain ⟨d, h3, h4⟩ := onS_ok h1
  exact hr bs F1 H1 S1 ds d vs g1.sit r1 h3 Q fun F3 H3 v3 g3 r3 => hq d S1 bs F3 H3 v3 h4 (g1.trans g3) r3
theorem ge_callB {x : Str} {id : String} {r : List V → Hp → VK → Prop} {f : WS → List D → Option D} {p : Pos} {es : List Expr} {er : Env → ML} (hc : CallR X (.builtin id) r) (hr : RC X.K r f) (hm : X.mg x = none) (hv : bootBuiltins x = some (.builtin id)) (ha : GA X W (e :: es) er)
    (hg : Gl X x := by rfl) (hn : x ≠ "__name__" := by decide) (hdb : (x == ("__debug__" : Str)) = false := by decide) (h1 : starEach (e :: es) X.env = (false, eval e X.env) :: starEach es X.env := by rfl) (h2 : (backTo pos (starEach es X.env)).any (·.1) = false := by rfl) :
    GE X W (.Call (.Name x p) (e :: es) [] pos) (eCall f er) := by
  obtain ⟨t, p, m⟩ := ha
  exact ⟨_, pe_callB hc hg hm hv p hn hdb h1 h2, me_cb hr m⟩
theorem ge_callTy {x : Str} {T : String} {r : List V → Hp → VK → Prop} {f : WS → List D → Option D} {p : Pos} {es : List Expr} {er : Env → ML} (hc : CallR X (.type T) r) (hr : RC X.K r f) (hm : X.mg x = none) (hv : bootBuiltins x = some (.type T)) (ha : GA X W (e :: es) er)
    (hg : Gl X x := by rfl) (hn : x ≠ "__name__" := by decide) (hdb : (x == ("__debug__" : Str)) = false := by decide) (h1 : starEach (e :: es) X.env = (false, eval e X.env) :: starEach es X.env := by rfl) (h2 : (backTo pos (starEach es X.env)).any (·.1) = false := by rfl) :
    GE X W (.Call (.Name x p) (e :: es) [] pos) (eCall f er) := by
  obtain ⟨t, p, m⟩ := ha
  exact ⟨_, pe_callTy hc hg hm hv p hn hdb h1 h2, me_cb hr m⟩

/-! ### calls of defs -/
/-- the promise of a def: it goes on as G says -/
def spG (K : PySem.W.Frag) (n : Nat) (G : List D → M) : Sp := fun vs H Q E => ∃ (as : List Addr) (F : Hp) (S : WS) (ds : List D) (q : D → WS → Prop) (x : Xq), Sit K as F H S ∧ RpL K as F ds vs ∧ ds.length = n ∧ G ds S q x ∧ NQ K as F H q Q ∧ XQ K as F H x E
/-- what is let out of a def -/
abbrev CXn (X : Cx) : CXT := L2N.CX X.prog X.w
def eFn (n : Nat) (G : List D → M) (dvs : List D) (er : Env → ML) : Env → M := fun ρ S q x => er ρ S (fun ds S1 => (ds ++ dvs).length = n ∧ G (ds ++ dvs) S1 q x) x
/-- arguments, then a promise -/
def tFn (sp : Sp) (dv : List V) (E : L2.St → XK) (t : TA) : TE := fun σ H Q => t σ H fun vs H1 => sp (vs ++ dv) H1 Q (E σ)
theorem me_fn {K : PySem.W.Frag} {n : Nat} {G : List D → M} {dvs : List D} {dv : List V} {t : TA} {er : Env → ML} (hd : ∀ as F, RpL K as F dvs dv) (h : MA K W t er) : ME K W (tFn (spG K n G) dv (WE W) t) (eFn n G dvs er) := fun as F H S ρ σ I R q x e Q hq hx => by
  refine h as F H S ρ σ I R _ x e _ (fun ds S1 bs F1 H1 vs h1 g1 r1 => ?_) hx
  exact ⟨bs, F1, S1, ds ++ dvs, q, x, g1.sit, r1.append (hd bs F1), h1.1, h1.2, hq.step g1, hx.step g1⟩
/-- a def of the program runs; gd: it is asked only where no text of a thing is being made -/
structure FnX (gd : Bool) (P : Program) (w : World) (K : PySem.W.Frag) (mg : Str → Option Value) (base : Heap) (k : Nat) (f : Addr) (fd : FuncData) (ps : List Str) (sp : Sp) : Prop where
  len : ∀ vs H Q E, sp vs H Q E → vs.length = ps.length
  run : ∀ (A : Around) (outer : List PySem.Env) (s : Shared) (H : Hp) (args : Args) (us : List Value) (vs : List V) (Q : VK) (E : XK), (gd = true → A.guards = some []) → Room k A → Env0 P w K mg base A outer s H → BindsTo s fd args (ps.zip us) → Vals vs us → sp vs H Q E →
    codeAny (model P w) A (.call (.ref f) args) (CR (L2N.CX P w) outer P w H s Q E) s
section
variable {k j n : Nat} {f C : Addr} {fd : FuncData} {ps : List Str} {sp : Sp} {gd : Bool}
theorem FnX.ok {P : Program} {w : World} {K : PySem.W.Frag} {mg : Str → Option Value} {base : Heap} (F : FnX false P w K mg base k f fd ps sp) : FnOk P w K mg base (L2N.CX P w) k f fd ps sp :=
  ⟨F.len, fun A outer s H args us vs Q E => F.run A outer s H args us vs Q E (fun h => nomatch h)⟩
theorem FnX.of {P : Program} {w : World} {K : PySem.W.Frag} {mg : Str → Option Value} {base : Heap} (F : FnOk P w K mg base (L2N.CX P w) k f fd ps sp) : FnX gd P w K mg base k f fd ps sp :=
  ⟨F.len, fun A outer s H args us vs Q E _ => F.run A outer s H args us vs Q E⟩
theorem run_X {pins : List (Addr × Obj)} {σ : L2.St} {H : Hp} {s : Shared} {Q : VK} {us : List Value} {vs dv : List V} {ds : List Value} (F : FnX gd X.prog X.w X.K X.mg X.base k f fd ps sp) (hgd : gd = true → X.A.guards = some []) (hr : Room k X.A) (hb : Binds X.K fd ps ds) (hd : Vals dv ds) (tk : L2N.Takes X W)
    (I : Inv X pins σ H s) (r : Vals vs us) (h : sp (vs ++ dv) H Q (WE W σ)) : wpAny (model X.prog X.w) X.A (PySem.call (.ref f) us) (EP X pins σ Q) X.xe s := by
  have r2 : Vals (vs ++ dv) (us ++ ds) := r.append hd
  have hl : (us ++ ds).length = ps.length := r2.length.symm.trans (F.len _ _ _ _ h)
  refine wpAny_call (codeAny_mono (F.run X.A X.stack s H ⟨us, []⟩ _ (vs ++ dv) Q (WE W σ) hgd hr I.env0 (hb s us I.kIn hl) r2 h) fun r s' hq => ?_)
  cases r with
  | error er => exact L2N.passAt tk σ pins H s er s' I hq
  | ok fl =>
    cases fl with
    | ret u => exact I.after hq
    | next => exact hq.elim
    | brk => exact hq.elim
    | cont => exact hq.elim
theorem ge_call {G : List D → M} {dvs : List D} {dv : List V} {ds : List Value} {x : Str} {p : Pos} {es : List Expr} {er : Env → ML} (tk : L2N.Takes X W)
    (F : FnX gd X.prog X.w X.K X.mg X.base k f fd ps (spG X.K n G)) (hgd : gd = true → X.A.guards = some []) (hr : Room j X.A) (hj : k ≤ j) (hm : X.mg x = some (.ref f)) (hk : PySem.W.keepIn X.K (.ref f) = true) (hb : Binds X.K fd ps ds) (hd : Vals dv ds)
    (hdv : ∀ as F, RpL X.K as F dvs dv) (ha : GA X W (e :: es) er) (hg : Gl X x := by rfl) (hdb : (x == ("__debug__" : Str)) = false := by decide) (h1 : starEach (e :: es) X.env = (false, eval e X.env) :: starEach es X.env := by rfl) (h2 : (backTo pos (starEach es X.env)).any (·.1) = false := by rfl) :
    GE X W (.Call (.Name x p) (e :: es) [] pos) (eFn n G dvs er) := by
  obtain ⟨t, pa, m⟩ := ha
  refine ⟨tFn (spG X.K n G) dv (WE W) t, ⟨fun pins s σ H Q I h => ?_⟩, me_fn hdv m⟩
  refine wpAny_Call_Name_kw (ld_glob I hg hm ?_ hdb)
  refine PySem.W.callWith_K (h₀ := X.base) I.ok.mod.kin hk (thn (pa.run pos pins s σ H _ I h) fun us s1 hh => ?_) h1 h2
  obtain ⟨vs, H1, I1, r1, q1⟩ := hh
  exact ⟨I1.kIn, run_X F hgd (hr.mono hj) hb hd tk I1 r1 q1⟩
/-- f() -/
theorem ge_call0 {G : List D → M} {dvs : List D} {dv : List V} {ds : List Value} {x : Str} {p : Pos} (tk : L2N.Takes X W)
    (F : FnX gd X.prog X.w X.K X.mg X.base k f fd ps (spG X.K n G)) (hgd : gd = true → X.A.guards = some []) (hr : Room j X.A) (hj : k ≤ j) (hm : X.mg x = some (.ref f)) (hk : PySem.W.keepIn X.K (.ref f) = true) (hb : Binds X.K fd ps ds) (hd : Vals dv ds)
    (hdv : ∀ as F, RpL X.K as F dvs dv) (hg : Gl X x := by rfl) (hdb : (x == ("__debug__" : Str)) = false := by decide) :
    GE X W (.Call (.Name x p) [] [] pos) (eFn n G dvs aNil) := by
  refine ⟨tFn (spG X.K n G) dv (WE W) tNil, ⟨fun pins s σ H Q I h => ?_⟩, me_fn hdv ma_nil⟩
  refine wpAny_Call_Name_kw (ld_glob I hg hm ?_ hdb)
  exact PySem.W.callWith_K0 I.kIn hk (run_X (us := []) F hgd (hr.mono hj) hb hd tk I .nil h)
end
end
end RV
end
section
/-! Tests and statements. -/
namespace RV
open PySem L2
section
variable {X : Cx} {W : WX} {a b c e : Expr} {pos : Pos} {ea eb ec ee : Env → M} {ma mb : Env → MB}
def iteB (b : Bool) (p q : Prop) : Prop := match b with
  | true => p
  | false => q
def onB (d : D) (k : Bool → Prop) : Prop := match d with
  | .bl b => k b
  | _ => False
def onI (d : D) (k : Int → Prop) : Prop := match d with
  | .int i => k i
  | _ => False
def onT (d : D) (k : Str → Prop) : Prop := match d with
  | .str s => k s
  | _ => False
def onTu (d : D) (k : List D → Prop) : Prop := match d with
  | .tup ds => k ds
  | _ => False
def onCe (d : D) (k : Nat → Prop) : Prop := match d with
  | .cell i => k i
  | _ => False
def on1 (ds : List D) (k : D → Prop) : Prop := match ds with
  | [x] => k x
  | _ => False
def on2 (ds : List D) (k : D → D → Prop) : Prop := match ds with
  | [x, y] => k x y
  | _ => False
def on3 (ds : List D) (k : D → D → D → Prop) : Prop := match ds with
  | [x, y, z] => k x y z
  | _ => False
def onLst (c : Cell) (k : List D → Prop) : Prop := match c with
  | .lst ds => k ds
  | _ => False
def onOb (c : Cell) (k : Addr → List (Str × D) → Prop) : Prop := match c with
  | .ob C fs => k C fs
  | _ => False
theorem onI_ok {d : D} {k : Int → Prop} (h : onI d k) : ∃ i, d = .int i ∧ k i := by
  cases d with
  | int i => exact ⟨i, rfl, h⟩
  | _ => exact h.elim
theorem onT_ok {d : D} {k : Str → Prop} (h : onT d k) : ∃ i, d = .str i ∧ k i := by
  cases d with
  | str i => exact ⟨i, rfl, h⟩
  | _ => exact h.elim
theorem onTu_ok {d : D} {k : List D → Prop} (h : onTu d k) : ∃ i, d = .tup i ∧ k i := by
  cases d with
  | tup i => exact ⟨i, rfl, h⟩
  | _ => exact h.elim
theorem onCe_ok {d : D} {k : Nat → Prop} (h : onCe d k) : ∃ i, d = .cell i ∧ k i := by
  cases d with
  | cell i => exact ⟨i, rfl, h⟩
  | _ => exact h.elim
theorem on1_ok {ds : List D} {k : D → Prop} (h : on1 ds k) : ∃ x, ds = [x] ∧ k x := by
  unfold on1 at h
  split at h
  · exact ⟨_, rfl, h⟩
  · exact h.elim
theorem on2_ok {ds : List D} {k : D → D → Prop} (h : on2 ds k) : ∃ x y, ds = [x, y] ∧ k x y := by
  unfold on2 at h
  split at h
  · exact ⟨_, _, rfl, h⟩
  · exact h.elim
theorem on3_ok {ds : List D} {k : D → D → D → Prop} (h : on3 ds k) : ∃ x y z, ds = [x, y, z] ∧ k x y z := by
  unfold on3 at h
  split at h
  · exact ⟨_, _, _, rfl, h⟩
  · exact h.elim
theorem onLst_ok {c : Cell} {k : List D → Prop} (h : onLst c k) : ∃ ds, c = .lst ds ∧ k ds := by
  cases c with
  | lst ds => exact ⟨ds, rfl, h⟩
  | _ => exact h.elim
theorem onOb_ok {c : Cell} {k : Addr → List (Str × D) → Prop} (h : onOb c k) : ∃ C fs, c = .ob C fs ∧ k C fs := by
  cases c with
  | ob C fs => exact ⟨C, fs, rfl, h⟩
  | _ => exact h.elim
def bBl (m : Env → M) : Env → MB := fun ρ S q x => m ρ S (fun d S1 => onB d fun b => q b S1) x
theorem mt_test {K : PySem.W.Frag} {t : TE} (h : ME K W t ea) : MTt K W (tTest t) (bBl ea) := fun as F H S ρ σ I R q x e Q hq hx => by
  refine h as F H S ρ σ I R _ x e _ (fun d S1 bs F1 H1 v h1 g r => ?_) hx
  cases r with
  | bl b => exact ⟨b, rfl, hq b S1 bs F1 H1 h1 g⟩
  | _ => exact h1.elim
theorem mt_B {K : PySem.W.Frag} {t : TE} (h : ME K W t ea) : MTt K W (tB t) (bBl ea) := mt_test h
theorem gt_cmp {op : CmpOp} {r : R2} {f : WS → D → D → Option D} (ho : OpR X (compareOp op) r) (hr : RO X.K r f) (ha : GE X W a ea) (hb : GE X W b eb) (hm : behindInMarks op b = false) : GT X W (.Compare a [op] [b] pos) (bBl (eOp f ea eb)) := by
  obtain ⟨ta, pa, ma⟩ := ha
  obtain ⟨tb, pb, mb⟩ := hb
  exact ⟨_, pt_cmpR ho pa pb hm, mt_test (me_op hr ma mb)⟩
/-- an expression that gives a bool -/
theorem gt_val (ha : GE X W a ea) (he : ∀ whole, isTrue a X.env whole = (do let v ← whole; standAt a.pos; holding [v] (truthy v)) := by intro _; rfl) : GT X W a (bBl ea) := by
  obtain ⟨ta, pa, ma⟩ := ha
  exact ⟨_, pt_val pa he, mt_B ma⟩
/-- by truth -/
def RT (K : PySem.W.Frag) (r : V → Hp → (Bool → Hp → Prop) → Prop) (f : WS → D → Option Bool) : Prop := ∀ (as : List Addr) (F H : Hp) (S : WS) (x : D) (b : Bool) (vx : V), Sit K as F H S → Rp K as F x vx → f S x = some b →
  ∀ Q : Bool → Hp → Prop, (∀ F' H', Grow K as F H as F' H' S → Q b H') → r vx H Q
def bTru (f : WS → D → Option Bool) (ea : Env → M) : Env → MB := fun ρ S q x => ea ρ S (fun u S1 => onS (f S1 u) fun b => q b S1) x
theorem mt_tru {K : PySem.W.Frag} {r : V → Hp → (Bool → Hp → Prop) → Prop} {f : WS → D → Option Bool} {ta : TE} (hr : RT K r f) (ha : ME K W ta ea) : MTt K W (fun σ H Q => ta σ H fun x H' => r x H' Q) (bTru f ea) := fun as F H S ρ σ I R q x e Q hq hx => by
  refine ha as F H S ρ σ I R _ x e _ (fun u S1 bs F1 H1 v1 h1 g1 r1 => ?_) hx
  obtain ⟨b, h3, h4⟩ := onS_ok h1
  exact hr bs F1 H1 S1 u b v1 g1.sit r1 h3 Q fun F3 H3 g3 => hq b S1 bs F3 H3 h4 (g1.trans g3)
theorem pt_truthR {ta : TE} {r : V → Hp → (Bool → Hp → Prop) → Prop} (ht : TruR X r) (ha : PE X a ta) (he : ∀ whole, isTrue a X.env whole = (do let v ← whole; standAt a.pos; holding [v] (truthy v))) :
    PT X a (fun σ H Q => ta σ H fun x H' => r x H' Q) :=
  ⟨fun pins s σ H Q I h => PyProof.Rows.isTrue_plain (thn (ha.run pins s σ H _ I h) fun v s1 ⟨x, H1, I1, r1, q1⟩ => ht pins s1 σ H1 x v Q I1 r1 q1) (he _)⟩
theorem gt_tru {r : V → Hp → (Bool → Hp → Prop) → Prop} {f : WS → D → Option Bool} (ht : TruR X r) (hr : RT X.K r f) (ha : GE X W a ea) (he : ∀ whole, isTrue a X.env whole = (do let v ← whole; standAt a.pos; holding [v] (truthy v)) := by intro _; rfl) : GT X W a (bTru f ea) := by
  obtain ⟨ta, pa, ma⟩ := ha
  exact ⟨_, pt_truthR ht pa he, mt_tru hr ma⟩
def eNotT (m : Env → MB) : Env → M := fun ρ S q x => m ρ S (fun b S1 => q (.bl (!b)) S1) x
/-- not a, as a value -/
theorem ge_notT {r : V → Hp → (Bool → Hp → Prop) → Prop} {f : WS → D → Option Bool} (ht : TruR X r) (hr : RT X.K r f) (ha : GE X W a ea) : GE X W (.UnaryOp .Not a pos) (eNotT (bTru f ea)) := by
  obtain ⟨ta, pa, ma⟩ := ha
  have mt := mt_tru hr ma
  refine ⟨fun σ H Q => ta σ H fun x H1 => r x H1 fun c H2 => Q (.bl (!c)) H2, ⟨fun pins s σ H Q I h => ?_⟩, fun as F H S ρ σ I R q x e Q hq hx => ?_⟩
  · refine PyProof.Rows.UnaryOp_ (thn (pa.run pins s σ H _ I h) fun v s1 ⟨x, H1, I1, r1, q1⟩ => ?_)
    exact PyProof.Rows.not_of (thn (ht pins s1 σ H1 x v _ I1 r1 q1) fun c s2 ⟨H2, I2, q2⟩ => ⟨.bl (!c), H2, I2, rfl, q2⟩)
  · exact mt as F H S ρ σ I R _ x e (fun c H2 => Q (.bl (!c)) H2) (fun b S' bs F' H' h g => hq _ S' bs F' H' _ h g (.bl _)) hx
def bAnd (ma mb : Env → MB) : Env → MB := fun ρ S q x => ma ρ S (fun b S1 => iteB b (mb ρ S1 q x) (q false S1)) x
def bOr (ma mb : Env → MB) : Env → MB := fun ρ S q x => ma ρ S (fun b S1 => iteB b (q true S1) (mb ρ S1 q x)) x
def bNot (ma : Env → MB) : Env → MB := fun ρ S q x => ma ρ S (fun b S1 => q (!b) S1) x
theorem mt_and {K : PySem.W.Frag} {t u : TT} (h1 : MTt K W t ma) (h2 : MTt K W u mb) : MTt K W (tAnd t u) (bAnd ma mb) := fun as F H S ρ σ I R q x e Q hq hx => by
  refine h1 as F H S ρ σ I R _ x e _ (fun b S1 bs F1 H1 h g1 => ?_) hx
  cases b with
  | true => exact h2 bs F1 H1 S1 ρ σ g1.sit (R.grow g1) q x h Q (fun b S' cs F' H' h g => hq b S' cs F' H' h (g1.trans g)) (hx.step g1)
  | false => exact hq false S1 bs F1 H1 h g1
theorem mt_or {K : PySem.W.Frag} {t u : TT} (h1 : MTt K W t ma) (h2 : MTt K W u mb) : MTt K W (tOr t u) (bOr ma mb) := fun as F H S ρ σ I R q x e Q hq hx => by
  refine h1 as F H S ρ σ I R _ x e _ (fun b S1 bs F1 H1 h g1 => ?_) hx
  cases b with
  | false => exact h2 bs F1 H1 S1 ρ σ g1.sit (R.grow g1) q x h Q (fun b S' cs F' H' h g => hq b S' cs F' H' h (g1.trans g)) (hx.step g1)
  | true => exact hq true S1 bs F1 H1 h g1
theorem mt_not {K : PySem.W.Frag} {t : TT} (h1 : MTt K W t ma) : MTt K W (tNot t) (bNot ma) := fun as F H S ρ σ I R q x e Q hq hx =>
  h1 as F H S ρ σ I R _ x e _ (fun b S1 bs F1 H1 h g1 => hq _ S1 bs F1 H1 h g1) hx
theorem GW.gt (h : GW X W e ma) : GT X W e ma := by
  obtain ⟨t, p, m⟩ := h
  exact ⟨_, p.pt, m⟩
theorem gw_and1 (ha : GT X W a ma) : GW X W (.BoolOp .And [a] pos) ma := by
  obtain ⟨t, p, m⟩ := ha
  exact ⟨_, pw_and1 p, m⟩
theorem gw_or1 (ha : GT X W a ma) : GW X W (.BoolOp .Or [a] pos) ma := by
  obtain ⟨t, p, m⟩ := ha
  exact ⟨_, pw_or1 p, m⟩
theorem gw_and {rest : List Expr} (ha : GT X W a ma) (hb : GW X W (.BoolOp .And (b :: rest) pos) mb) : GW X W (.BoolOp .And (a :: b :: rest) pos) (bAnd ma mb) := by
  obtain ⟨t, p, m⟩ := ha
  obtain ⟨u, p', m'⟩ := hb
  exact ⟨_, pw_and p p', mt_and m m'⟩
theorem gw_or {rest : List Expr} (ha : GT X W a ma) (hb : GW X W (.BoolOp .Or (b :: rest) pos) mb) : GW X W (.BoolOp .Or (a :: b :: rest) pos) (bOr ma mb) := by
  obtain ⟨t, p, m⟩ := ha
  obtain ⟨u, p', m'⟩ := hb
  exact ⟨_, pw_or p p', mt_or m m'⟩
theorem gt_not (ha : GT X W a ma) : GT X W (.UnaryOp .Not a pos) (bNot ma) := by
  obtain ⟨t, p, m⟩ := ha
  exact ⟨_, pt_not p, mt_not m⟩
/-! bools as values -/
def eAnd (ea eb : Env → M) : Env → M := fun ρ S q x => bBl ea ρ S (fun b S1 => iteB b (eb ρ S1 q x) (q (.bl false) S1)) x
def eOr (ea eb : Env → M) : Env → M := fun ρ S q x => bBl ea ρ S (fun b S1 => iteB b (q (.bl true) S1) (eb ρ S1 q x)) x
theorem ge_one {op : BoolOp} (ha : GE X W a ea) : GE X W (.BoolOp op [a] pos) ea := by
  obtain ⟨t, p, m⟩ := ha
  exact ⟨_, pe_one p, m⟩
theorem ge_and {rest : List Expr} (ha : GE X W a ea) (hb : GE X W (.BoolOp .And (b :: rest) pos) eb) : GE X W (.BoolOp .And (a :: b :: rest) pos) (eAnd ea eb) := by
  obtain ⟨t, p, m⟩ := ha
  obtain ⟨u, p', m'⟩ := hb
  refine ⟨_, pe_and p p', fun as F H S ρ σ I R q x e Q hq hx => ?_⟩
  refine m as F H S ρ σ I R _ x e _ (fun d S1 bs F1 H1 v h g1 r1 => ?_) hx
  cases r1 with
  | bl c =>
    refine ⟨c, rfl, ?_⟩
    cases c with
    | true => exact m' bs F1 H1 S1 ρ σ g1.sit (R.grow g1) q x h Q (hq.step g1) (hx.step g1)
    | false => exact hq _ S1 bs F1 H1 _ h g1 (.bl _)
  | _ => exact h.elim
theorem ge_or {rest : List Expr} (ha : GE X W a ea) (hb : GE X W (.BoolOp .Or (b :: rest) pos) eb) : GE X W (.BoolOp .Or (a :: b :: rest) pos) (eOr ea eb) := by
  obtain ⟨t, p, m⟩ := ha
  obtain ⟨u, p', m'⟩ := hb
  refine ⟨_, pe_or p p', fun as F H S ρ σ I R q x e Q hq hx => ?_⟩
  refine m as F H S ρ σ I R _ x e _ (fun d S1 bs F1 H1 v h g1 r1 => ?_) hx
  cases r1 with
  | bl c =>
    refine ⟨c, rfl, ?_⟩
    cases c with
    | false => exact m' bs F1 H1 S1 ρ σ g1.sit (R.grow g1) q x h Q (hq.step g1) (hx.step g1)
    | true => exact hq _ S1 bs F1 H1 _ h g1 (.bl _)
  | _ => exact h.elim
def eIf (mc : Env → MB) (ea eb : Env → M) : Env → M := fun ρ S q x => mc ρ S (fun b S1 => iteB b (ea ρ S1 q x) (eb ρ S1 q x)) x
theorem ge_ifExp (hc : GT X W c ma) (ha : GE X W a ea) (hb : GE X W b eb) : GE X W (.IfExp c a b pos) (eIf ma ea eb) := by
  obtain ⟨tc, pc, mc⟩ := hc
  obtain ⟨t, p, m⟩ := ha
  obtain ⟨u, p', m'⟩ := hb
  refine ⟨_, pe_ifExp pc p p', fun as F H S ρ σ I R q x e Q hq hx => ?_⟩
  refine mc as F H S ρ σ I R _ x e _ (fun d S1 bs F1 H1 h g1 => ?_) hx
  cases d with
  | true => exact m bs F1 H1 S1 ρ σ g1.sit (R.grow g1) q x h Q (hq.step g1) (hx.step g1)
  | false => exact m' bs F1 H1 S1 ρ σ g1.sit (R.grow g1) q x h Q (hq.step g1) (hx.step g1)
def bChain (f g : WS → D → D → Option D) (ea eb ec : Env → M) : Env → MB := fun ρ S q x => ea ρ S (fun u S1 => eb ρ S1 (fun v S2 => onS (f S2 u v) fun d => onB d fun b => iteB b (ec ρ S2 (fun w S3 => onS (g S3 v w) fun d => onB d fun b => q b S3) x) (q false S2)) x) x
end
section
variable {X : Cx} {W : WX} {a b c e : Expr} {pos : Pos} {ea eb ec ee : Env → M} {ma mb : Env → MB}
/-! ### statements -/
variable {st : Stmt} {sts rest : List Stmt} {m1 m2 : Env → MS}
def sNil : Env → MS := fun ρ S k => k.nx ρ S
def sSeq (m1 m2 : Env → MS) : Env → MS := fun ρ S k => m1 ρ S ⟨fun ρ' S' => m2 ρ' S' k, k.rt, k.bk, k.ct, k.ex⟩
theorem ms_nil {K : PySem.W.Frag} : MSt K W tNext sNil := fun as F H S ρ σ I R k e E q => q.nx ρ S as F H σ e (Grow.refl I) R
theorem ms_seq {K : PySem.W.Frag} {t u : TS} (h1 : MSt K W t m1) (h2 : MSt K W u m2) : MSt K W (tSeq t u) (sSeq m1 m2) := fun as F H S ρ σ I R k e E q =>
  h1 as F H S ρ σ I R _ e _ ⟨fun ρ' S' bs F' H' σ' h g R' => h2 bs F' H' S' ρ' σ' g.sit R' k h E (q.step g), q.rt, q.bk, q.ct, q.ex⟩
theorem gss_nil : GSs X W [] sNil := ⟨_, pss_nil, ms_nil⟩
theorem gss_cons (h1 : GS X W st m1) (h2 : GSs X W rest m2) : GSs X W (st :: rest) (sSeq m1 m2) := by
  obtain ⟨t, p, m⟩ := h1
  obtain ⟨u, p', m'⟩ := h2
  exact ⟨_, pss_cons p p', ms_seq m m'⟩
theorem gss_one (h1 : GS X W st m1) : GSs X W [st] m1 := by
  obtain ⟨t, p, m⟩ := h1
  exact ⟨_, pss_one p, m⟩
def sNever : Env → MS := fun _ _ _ => False
theorem gs_never : GS X W st sNever := ⟨_, ps_never, fun as F H S ρ σ I R k e => e.elim⟩
def sRet (ea : Env → M) : Env → MS := fun ρ S k => ea ρ S k.rt fun e S' => k.ex e ρ S'
theorem gs_ret (h : GE X W e ea) : GS X W (.Return (some e) pos) (sRet ea) := by
  obtain ⟨t, p, m⟩ := h
  exact ⟨_, ps_ret p, fun as F H S ρ σ I R k h E q => m as F H S ρ σ I R _ _ h _ (fun d S' bs F' H' v a g r => q.rt d S' bs F' H' v a g r) (q.xq R)⟩
def sDrop (ea : Env → M) : Env → MS := fun ρ S k => ea ρ S (fun _ S' => k.nx ρ S') fun e S' => k.ex e ρ S'
theorem gs_expr (h : GE X W e ea) (hs : swapsWith e none pos.line X.env = pure false := by rfl) : GS X W (.Expr e pos) (sDrop ea) := by
  obtain ⟨t, p, m⟩ := h
  exact ⟨_, ps_expr p hs, fun as F H S ρ σ I R k h E q => m as F H S ρ σ I R _ _ h _ (fun d S' bs F' H' v a g r => q.nx ρ S' bs F' H' σ a g (R.grow g)) (q.xq R)⟩
def sAsg (i : Nat) (ea : Env → M) : Env → MS := fun ρ S k => ea ρ S (fun d S' => k.nx (ρ.set i (some d)) S') fun e S' => k.ex e ρ S'
theorem ms_asg {K : PySem.W.Frag} {i : Nat} {t : TE} (m : ME K W t ea) : MSt K W (tAsg t (gName i)) (sAsg i ea) := fun as F H S ρ σ I R k h E q =>
  m as F H S ρ σ I R _ _ h _ (fun d S' bs F' H' v a g r => q.nx _ S' bs F' H' _ a g ((R.grow g).set r)) (q.xq R)
theorem gs_set (i : Nat) {x : Str} {pos' : Pos} (hN : X.N.Nodup) (h : GE X W e ea) (hi : X.N[i]? = some x := by rfl) (hx : Loc X.env.scope x := by first | exact Or.inl rfl | exact Or.inr rfl) (hs : swapsWith e (some (.Name x pos')) pos.line X.env = pure false := by rfl)
    (hf : X.fn x = true ∨ X.env.scope.names.lookup x = some .local := by first | exact .inl rfl | exact .inr rfl | assumption) : GS X W (.Assign [.Name x pos'] e pos) (sAsg i ea) := by
  obtain ⟨t, p, m⟩ := h
  exact ⟨_, ps_set (i := i) hN hi hx p hs hf, ms_asg m⟩
def sIf (mc : Env → MB) (m1 m2 : Env → MS) : Env → MS := fun ρ S k => mc ρ S (fun b S' => iteB b (m1 ρ S' k) (m2 ρ S' k)) fun e S' => k.ex e ρ S'
theorem gs_if {as bs : List Stmt} (hc : GT X W c ma) (ha : GSs X W as m1) (hb : GSs X W bs m2) : GS X W (.If c as bs pos) (sIf ma m1 m2) := by
  obtain ⟨tc, pc, mc⟩ := hc
  obtain ⟨t, p, m⟩ := ha
  obtain ⟨u, p', m'⟩ := hb
  refine ⟨_, ps_if pc p p', fun as F H S ρ σ I R k h E q => ?_⟩
  refine mc as F H S ρ σ I R _ _ h _ (fun d S1 bs F1 H1 h g1 => ?_) (q.xq R)
  cases d with
  | true => exact m bs F1 H1 S1 ρ σ g1.sit (R.grow g1) k h E (q.step g1)
  | false => exact m' bs F1 H1 S1 ρ σ g1.sit (R.grow g1) k h E (q.step g1)
theorem gs_pass : GS X W (.Pass pos) sNil := ⟨_, ps_pass, ms_nil⟩
def sBreak : Env → MS := fun ρ S k => k.bk ρ S
def sCont : Env → MS := fun ρ S k => k.ct ρ S
theorem gs_break : GS X W (.Break pos) sBreak := ⟨_, ps_break, fun as F H S ρ σ I R k e E q => q.bk ρ S as F H σ e (Grow.refl I) R⟩
theorem gs_continue : GS X W (.Continue pos) sCont := ⟨_, ps_continue, fun as F H S ρ σ I R k e E q => q.ct ρ S as F H σ e (Grow.refl I) R⟩
end
end RV
end
section
/-! Targets, walks, for. -/
namespace RV
open PySem L2
section
variable {X : Cx} {W : WX} {a b c e tg iter : Expr} {pos : Pos} {ea eb ec ee : Env → M} {ma mb : Env → MB} {m1 m2 mbody : Env → MS}
/-! ### targets: vs the slots that are touched -/
def Agr (vs : List Nat) (σ σ' : L2.St) : Prop := σ'.length = σ.length ∧ ∀ j, j ∉ vs → σ'[j]? = σ[j]?
theorem Agr.refl {vs : List Nat} {σ : L2.St} : Agr vs σ σ := ⟨rfl, fun _ _ => rfl⟩
theorem Agr.app {vs ws : List Nat} {σ σ1 σ2 : L2.St} (a : Agr vs σ σ1) (b : Agr ws σ1 σ2) : Agr (vs ++ ws) σ σ2 :=
  ⟨b.1.trans a.1, fun j h => (b.2 j fun z => h (List.mem_append_right _ z)).trans (a.2 j fun z => h (List.mem_append_left _ z))⟩
theorem Agr.set {i : Nat} {σ : L2.St} {v : Option V} : Agr [i] σ (σ.set i v) := ⟨List.length_set, fun j h => List.getElem?_set_ne (fun z => h (by rw [z]; exact List.mem_singleton.mpr rfl))⟩
def MG (K : PySem.W.Frag) (g : TG) (vs : List Nat) (f : D → Env → Option Env) : Prop := ∀ (as : List Addr) (F H : Hp) (S : WS) (ρ : Env) (σ : L2.St) (x : D) (v : V) (ρ' : Env), Sit K as F H S → RpE K as F ρ σ → Rp K as F x v → f x ρ = some ρ' →
  ∀ Q : L2.St → Hp → Prop, (∀ σ', Agr vs σ σ' → RpE K as F ρ' σ' → Q σ' H) → g v σ H Q
structure GG (X : Cx) (tg : Expr) (vs : List Nat) (f : D → Env → Option Env) : Prop where
  ex : ∃ g, PG X tg g ∧ MG X.K g vs f
def MGs (K : PySem.W.Frag) (g : TGs) (vs : List Nat) (f : List D → Env → Option Env) : Prop := ∀ (as : List Addr) (F H : Hp) (S : WS) (ρ : Env) (σ : L2.St) (xs : List D) (us : List V) (ρ' : Env), Sit K as F H S → RpE K as F ρ σ → RpL K as F xs us → f xs ρ = some ρ' →
  ∀ Q : L2.St → Hp → Prop, (∀ σ', Agr vs σ σ' → RpE K as F ρ' σ' → Q σ' H) → g us σ H Q
structure GGs (X : Cx) (ts : List Expr) (n : Nat) (vs : List Nat) (f : List D → Env → Option Env) : Prop where
  ex : ts.length = n ∧ ∃ g, PGs X ts g ∧ MGs X.K g vs f
def tName (i : Nat) : D → Env → Option Env := fun d ρ => some (ρ.set i (some d))
theorem gg_name (i : Nat) {x : Str} (hN : X.N.Nodup) (hi : X.N[i]? = some x := by rfl) (hx : Loc X.env.scope x := by first | exact Or.inl rfl | exact Or.inr rfl) (hf : X.fn x = true ∨ X.env.scope.names.lookup x = some .local := by first | exact .inl rfl | exact .inr rfl | assumption) :
    GG X (.Name x pos) [i] (tName i) := by
  refine ⟨_, pg_name (i := i) hN hi hx hf, fun as F H S ρ σ x v ρ' I R r e Q q => ?_⟩
  cases e
  exact q _ Agr.set (R.set r)
def tsNil : List D → Env → Option Env := fun ds ρ => match ds with
  | [] => some ρ
  | _ => none
def tsCons (f : D → Env → Option Env) (g : List D → Env → Option Env) : List D → Env → Option Env := fun ds ρ => match ds with
  | [] => none
  | d :: r => (f d ρ).bind fun ρ' => g r ρ'
theorem ggs_nil : GGs X [] 0 [] tsNil := by
  refine ⟨rfl, _, pgs_nil, fun as F H S ρ σ xs us ρ' I R r e Q q => ?_⟩
  unfold tsNil at e
  cases r with
  | nil =>
    cases e
    exact ⟨rfl, q σ Agr.refl R⟩
  | cons _ _ => cases e
theorem ggs_cons {n : Nat} {vs ws : List Nat} {es : List Expr} {f : D → Env → Option Env} {g : List D → Env → Option Env} (h1 : GG X e vs f) (h2 : GGs X es n ws g) (hs : (assignEach (e :: es) X.env).map (·.2) = assign e X.env :: (assignEach es X.env).map (·.2) := by rfl) :
    GGs X (e :: es) (n + 1) (vs ++ ws) (tsCons f g) := by
  obtain ⟨t, p, m⟩ := h1
  obtain ⟨hn, u, p', m'⟩ := h2
  refine ⟨by rw [List.length_cons, hn], _, pgs_cons p p' hs, fun as F H S ρ σ xs us ρ' I R r e Q q => ?_⟩
  cases r with
  | nil => cases e
  | cons h r =>
    rename_i d v ds ws
    unfold tsCons at e
    cases h1 : f d ρ with
    | none => simp [h1] at e
    | some ρ1 =>
      simp only [h1, Option.bind_some] at e
      exact ⟨v, ws, rfl, m as F H S ρ σ d v ρ1 I R h h1 _ fun σ1 A1 R1 => m' as F H S ρ1 σ1 ds ws ρ' I R1 r e Q fun σ2 A2 R2 => q σ2 (A1.app A2) R2⟩
def tTupD (n : Nat) (g : List D → Env → Option Env) : D → Env → Option Env := fun d ρ => match d with
  | .tup ds => if ds.length = n then g ds ρ else none
  | _ => none
theorem gg_tup {es : List Expr} {k n : Nat} {vs : List Nat} {g : List D → Env → Option Env} (hc : X.calm = true) (h : GGs X es n vs g) (hn : (assignEach es X.env).length = n := by rfl) (hst : (assignEach es X.env).findIdx? (·.1) = none := by rfl) : GG X (.Tuple es k pos) vs (tTupD n g) := by
  obtain ⟨hl, t, p, m⟩ := h
  refine ⟨_, pg_tup hc p hn hst, fun as F H S ρ σ x v ρ' I R r e Q q => ?_⟩
  cases r with
  | tup hq rl =>
    unfold tTupD at e
    simp only at e
    split at e
    · rename_i hz
      exact ⟨_, _, rfl, I.ex.sqT hq, by rw [← rl.length]; exact hz, m as F H S ρ σ _ _ ρ' I R rl e Q q⟩
    · cases e
  | _ => cases e

/-! ### walks: N is what must stay so that the walk goes on -/
structure Walks (K : PySem.W.Frag) (J : It) (as : List Addr) (F : Hp) (ds : List D) (N : WS → Prop) : Prop where
  stop : ∀ bs F2 H2 S2, Sit K bs F2 H2 S2 → Ex F F2 → Pre as bs → N S2 → J.stop ds.length H2
  go : ∀ i, i < ds.length → ∀ bs F2 H2 S2, Sit K bs F2 H2 S2 → Ex F F2 → Pre as bs → N S2 → J.go i H2
  yld : ∀ (i : Nat) (d : D), ds[i]? = some d → ∀ bs F2 H2 S2, Sit K bs F2 H2 S2 → Ex F F2 → Pre as bs → N S2 → ∀ x H', J.yld i H2 x H' → ∃ F', Grow K bs F2 H2 bs F' H' S2 ∧ Rp K bs F' d x
abbrev MW := WS → (List D → (WS → Prop) → WS → Prop) → Xq → Prop
def any_ : WS → Prop := fun _ => True
def MI (K : PySem.W.Frag) (W : WX) (wi : TI) (m : Env → MW) : Prop := ∀ (as : List Addr) (F H : Hp) (S : WS) (ρ : Env) (σ : L2.St), Sit K as F H S → RpE K as F ρ σ → ∀ q x, m ρ S q x →
  ∀ R : It → Hp → Prop, (∀ ds N S' bs F' H' J, q ds N S' → Grow K as F H bs F' H' S' → Walks K J bs F' ds N → R J H') → XQ K as F H x (WE W σ) → wi σ H R
structure GI (X : Cx) (W : WX) (tg iter : Expr) (m : Env → MW) : Prop where
  ex : ∃ wi, PI X tg iter wi ∧ MI X.K W wi m
theorem walks_range {K : PySem.W.Frag} {as : List Addr} {F : Hp} {lo : Int} {n : Nat} {N : WS → Prop} : Walks K (Itr lo n) as F ((List.range n).map fun (i : Nat) => D.int (lo + (i : Int))) N := by
  refine ⟨fun bs F2 H2 S2 I _ _ _ => ?_, fun i h bs F2 H2 S2 I _ _ _ => ?_, fun i d h bs F2 H2 S2 I _ _ _ x H' y => ?_⟩
  · show n ≤ ((List.range n).map fun (i : Nat) => D.int (lo + (i : Int))).length
    simp
  · have h2 : i < n := by simpa using h
    exact h2
  · obtain ⟨rfl, rfl⟩ := y
    simp only [List.getElem?_map, Option.map_eq_some_iff] at h
    obtain ⟨j, hj, rfl⟩ := h
    have hji : j = i := by
      have := List.getElem?_eq_some_iff.mp hj
      obtain ⟨q, w⟩ := this
      simpa using w.symm
    subst hji
    exact ⟨F2, Grow.refl I, .int _⟩
/-- 0, 1, .. -/
def upto (j : Int) : List D := (List.range j.toNat).map fun (i : Nat) => D.int (0 + (i : Int))
def iRange1 (er : Env → ML) : Env → MW := fun ρ S q x => er ρ S (fun ds S1 => on1 ds fun d => onI d fun j => (-(2 ^ 62) ≤ j ∧ j < 2 ^ 62) ∧ q (upto j) any_ S1) x
theorem gi_range1 {er : Env → ML} {p : Pos} (hm : X.mg "range" = none) (ha : GA X W [a] er) (hg : Gl X "range" := by rfl) (hs : starEach [a] X.env = [(false, eval a X.env)] := by rfl) : GI X W tg (.Call (.Name "range" p) [a] [] pos) (iRange1 er) := by
  obtain ⟨t, p, m⟩ := ha
  refine ⟨_, pi_range1 hg hm p hs, fun as F H S ρ σ I R q x e Q hq hx => ?_⟩
  refine m as F H S ρ σ I R _ x e _ (fun ds S1 bs F1 H1 vs h1 g r => ?_) hx
  obtain ⟨y, rfl, h1⟩ := on1_ok h1
  obtain ⟨j, rfl, h1⟩ := onI_ok h1
  obtain ⟨v, ws, rfl, rv, rn⟩ := r.unsn
  obtain rfl := rn.unnil
  cases rv
  exact ⟨_, rfl, h1.1.1, h1.1.2, hq _ _ S1 bs F1 H1 _ h1.2 g walks_range⟩
/-- the cell k holds the list ds -/
def Holds (k : Nat) (ds : List D) (S : WS) : Prop := S[k]? = some (.lst ds)
theorem walks_list {K : PySem.W.Frag} {as : List Addr} {F : Hp} {p : Addr} {xs : List V} {ds : List D} {N : WS → Prop} (h : SqL K F p xs) (r : RpL K as F ds xs) : Walks K (Itl K p) as F ds N := by
  refine ⟨fun bs F2 H2 S2 I e _ _ => ?_, fun i hi bs F2 H2 S2 I e _ _ => ?_, fun i d hd bs F2 H2 S2 I e pr _ x H' y => ?_⟩
  · have hq : SqL K H2 p xs := I.ex.sqL (e.sqL h)
    refine ⟨xs, hq, ?_⟩
    rw [← r.length]
    exact Nat.le_refl _
  · have hq : SqL K H2 p xs := I.ex.sqL (e.sqL h)
    have hl : i < xs.length := by
      rw [← r.length]
      exact hi
    exact ⟨xs, xs[i], hq, List.getElem?_eq_getElem hl⟩
  · have hq : SqL K H2 p xs := I.ex.sqL (e.sqL h)
    obtain ⟨rfl, y⟩ := y
    have y1 := y xs hq
    obtain ⟨v, hv, rv⟩ := r.get hd
    rw [hv] at y1
    cases y1
    exact ⟨F2, Grow.refl I, rv.mono e pr⟩
theorem pre_nil {as : List Addr} : Pre [] as := fun i a h => by simp at h
theorem walks_cell {K : PySem.W.Frag} {as : List Addr} {F : Hp} {a : Addr} {k : Nat} {ds : List D} (ha : as[k]? = some a) : Walks K (Itl K a) as F ds (Holds k ds) := by
  have at_ : ∀ bs F2 H2 S2, Sit K bs F2 H2 S2 → Ex F F2 → Pre as bs → Holds k ds S2 → ∃ ys, H2 a = some (.lst ys) ∧ RpL K [] F2 ds ys := fun bs F2 H2 S2 I2 _ p2 hN => by
    obtain ⟨_, o2, y2, y3⟩ := I2.cell k a _ (p2 k a ha) hN
    cases o2 with
    | lst ys => exact ⟨ys, y2, y3⟩
    | _ => exact y3.elim
  refine ⟨fun bs F2 H2 S2 I2 x2 p2 hN => ?_, fun i hi bs F2 H2 S2 I2 x2 p2 hN => ?_, fun i d hd bs F2 H2 S2 I2 x2 p2 hN x H' y => ?_⟩
  · obtain ⟨ys, y2, y3⟩ := at_ bs F2 H2 S2 I2 x2 p2 hN
    exact ⟨ys, SqL.of y2, by rw [RpL.length y3]; exact Nat.le_refl _⟩
  · obtain ⟨ys, y2, y3⟩ := at_ bs F2 H2 S2 I2 x2 p2 hN
    have hl : i < ys.length := by rw [← RpL.length y3]; exact hi
    exact ⟨ys, ys[i], SqL.of y2, List.getElem?_eq_getElem hl⟩
  · obtain ⟨ys, y2, y3⟩ := at_ bs F2 H2 S2 I2 x2 p2 hN
    obtain ⟨rfl, hx⟩ := y
    obtain ⟨v, hv, rv⟩ := y3.get hd
    have := hx ys (SqL.of y2)
    rw [this] at hv
    cases hv
    exact ⟨F2, Grow.refl I2, rv.mono (Ex.refl _) pre_nil⟩
theorem rpl_ints {K : PySem.W.Frag} {as : List Addr} {F : Hp} : ∀ ns : List Int, RpL K as F (ns.map D.int) (ns.map V.int)
  | [] => .nil
  | n :: ns => .cons (.int n) (rpl_ints ns)
theorem walks_tup {K : PySem.W.Frag} {as : List Addr} {F : Hp} {p : Addr} {xs : List V} {ds : List D} {N : WS → Prop} (h : SqT K F p xs) (r : RpL K as F ds xs) : Walks K (Itt K p) as F ds N := by
  refine ⟨fun bs F2 H2 S2 I e _ _ => ?_, fun i hi bs F2 H2 S2 I e _ _ => ?_, fun i d hd bs F2 H2 S2 I e pr _ x H' y => ?_⟩
  · have hq : SqT K H2 p xs := I.ex.sqT (e.sqT h)
    refine ⟨xs, hq, ?_⟩
    rw [← r.length]
    exact Nat.le_refl _
  · have hq : SqT K H2 p xs := I.ex.sqT (e.sqT h)
    have hl : i < xs.length := by
      rw [← r.length]
      exact hi
    exact ⟨xs, xs[i], hq, List.getElem?_eq_getElem hl⟩
  · have hq : SqT K H2 p xs := I.ex.sqT (e.sqT h)
    obtain ⟨rfl, y⟩ := y
    have y1 := y xs hq
    obtain ⟨v, hv, rv⟩ := r.get hd
    rw [hv] at y1
    cases y1
    exact ⟨F2, Grow.refl I, rv.mono e pr⟩
theorem walks_str {K : PySem.W.Frag} {as : List Addr} {F : Hp} {x : Str} {N : WS → Prop} : Walks K (Its x) as F (x.cps.toList.map fun c => D.str ⟨#[c]⟩) N := by
  refine ⟨fun bs F2 H2 S2 I _ _ _ => ?_, fun i h bs F2 H2 S2 I _ _ _ => ?_, fun i d h bs F2 H2 S2 I _ _ _ y H' z => ?_⟩
  · show x.length ≤ (x.cps.toList.map fun c => D.str ⟨#[c]⟩).length
    simp [Str.length]
  · show i < x.length
    simpa [Str.length] using h
  · obtain ⟨rfl, z⟩ := z
    simp only [List.getElem?_map, Option.map_eq_some_iff] at h
    obtain ⟨j, hj, rfl⟩ := h
    have z2 : ∃ c, x.cps.toList[i]? = some c ∧ y = V.str ⟨#[c]⟩ := by
      first
        | exact z
        | simpa using z
    obtain ⟨c, hc, rfl⟩ := z2
    rw [hj] at hc
    cases hc
    exact ⟨F2, Grow.refl I, .str _⟩
/-- over a list, a tuple, a text -/
def onSeq (d : D) (S : WS) (q : List D → (WS → Prop) → WS → Prop) : Prop := match d with
  | .lst ds => q ds any_ S
  | .scr ns => q (ns.map D.int) any_ S
  | .cell k => onS S[k]? fun c => onLst c fun ds => q ds (Holds k ds) S
  | _ => False
def iSeq (ea : Env → M) : Env → MW := fun ρ S q x => ea ρ S (fun d S1 => onSeq d S1 q) x
def iTupD (ea : Env → M) : Env → MW := fun ρ S q x => ea ρ S (fun d S1 => onTu d fun ds => q ds any_ S1) x
def iStrD (ea : Env → M) : Env → MW := fun ρ S q x => ea ρ S (fun d S1 => onT d fun z => q (z.cps.toList.map fun c => D.str ⟨#[c]⟩) any_ S1) x
theorem gi_list (ha : GE X W a ea) : GI X W tg a (iSeq ea) := by
  obtain ⟨t, p, m⟩ := ha
  refine ⟨_, pi_list p, fun as F H S ρ σ I R q x e Q hq hx => ?_⟩
  refine m as F H S ρ σ I R _ x e _ (fun d S1 bs F1 H1 v h1 g r => ?_) hx
  cases r with
  | lst hp rl => exact ⟨_, rfl, ⟨_, SqL.of (g.sit.ex _ _ hp)⟩, hq _ _ S1 bs F1 H1 _ h1 g (walks_list (SqL.of hp) rl)⟩
  | scr hp => exact ⟨_, rfl, ⟨_, g.sit.ex.sqL hp⟩, hq _ _ S1 bs F1 H1 _ h1 g (walks_list hp (rpl_ints _))⟩
  | cell ha =>
    obtain ⟨c, hS, h2⟩ := onS_ok h1
    cases c with
    | lst ds =>
      obtain ⟨_, o, z2, z3⟩ := g.sit.cell _ _ _ ha hS
      cases o with
      | lst xs => exact ⟨_, rfl, ⟨xs, SqL.of z2⟩, hq _ _ S1 bs F1 H1 _ h2 g (walks_cell ha)⟩
      | _ => exact z3.elim
    | _ => exact h2.elim
  | _ => exact h1.elim
theorem gi_tup (ha : GE X W a ea) : GI X W tg a (iTupD ea) := by
  obtain ⟨t, p, m⟩ := ha
  refine ⟨_, pi_tup p, fun as F H S ρ σ I R q x e Q hq hx => ?_⟩
  refine m as F H S ρ σ I R _ x e _ (fun d S1 bs F1 H1 v h1 g r => ?_) hx
  cases r with
  | tup hp rl => exact ⟨_, rfl, ⟨_, g.sit.ex.sqT hp⟩, hq _ _ S1 bs F1 H1 _ h1 g (walks_tup hp rl)⟩
  | _ => exact h1.elim
theorem gi_str (ha : GE X W a ea) : GI X W tg a (iStrD ea) := by
  obtain ⟨t, p, m⟩ := ha
  refine ⟨_, pi_str p, fun as F H S ρ σ I R q x e Q hq hx => ?_⟩
  refine m as F H S ρ σ I R _ x e _ (fun d S1 bs F1 H1 v h1 g r => ?_) hx
  cases r with
  | str z => exact ⟨_, rfl, hq _ _ S1 bs F1 H1 _ h1 g walks_str⟩
  | _ => exact h1.elim

/-! ### for -/
def forD (N : WS → Prop) (f : D → Env → Option Env) (mb : Env → MS) : List D → Env → MS
  | [], ρ, S, k => N S ∧ k.nx ρ S
  | d :: ds, ρ, S, k => N S ∧ onS (f d ρ) fun ρ1 => mb ρ1 S ⟨fun ρ2 S2 => forD N f mb ds ρ2 S2 k, k.rt, k.nx, fun ρ2 S2 => forD N f mb ds ρ2 S2 k, k.ex⟩
theorem forD_N {N : WS → Prop} {f : D → Env → Option Env} {mb : Env → MS} {ds : List D} {ρ : Env} {S : WS} {k : Kt} (h : forD N f mb ds ρ S k) : N S := by
  cases ds with
  | nil => exact h.1
  | cons d ds => exact h.1
def sFor (mi : Env → MW) (f : D → Env → Option Env) (mb : Env → MS) : Env → MS := fun ρ S k => mi ρ S (fun ds N S1 => forD N f mb ds ρ S1 k) fun e S' => k.ex e ρ S'
theorem ms_for {K : PySem.W.Frag} {wi : TI} {g : TG} {tb : TS} {mi : Env → MW} {f : D → Env → Option Env} {vs : List Nat} (hi : MI K W wi mi) (hg : MG K g vs f) (hb : MSt K W tb mbody) : MSt K W (tFor wi g tb) (sFor mi f mbody) := fun as F H S ρ σ I R k e E q => by
  refine hi as F H S ρ σ I R _ _ e _ (fun ds N S0 as F0 H0 J h0 g0 wk => ?_) (q.xq R)
  have q0 := q.step g0
  refine ⟨fun i m σ H => m = ds.length - i ∧ i ≤ ds.length ∧ ∃ bs F1 S1 ρ1, Grow K as F0 H0 bs F1 H S1 ∧ RpE K bs F1 ρ1 σ ∧ forD N f mbody (ds.drop i) ρ1 S1 k, ⟨ds.length, by simp, Nat.zero_le _, as, F0, S0, ρ, Grow.refl g0.sit, R.grow g0, by simpa using h0⟩, ?_⟩
  rintro i m σ1 H1 ⟨rfl, hle, bs, F1, S1, ρ1, g1, R1, e1⟩
  have hN := forD_N e1
  by_cases hlt : i < ds.length
  · right
    refine ⟨wk.go i hlt bs F1 H1 S1 g1.sit g1.ex g1.pre hN, fun σ' H' => ∃ m', m' < ds.length - i ∧ m' = ds.length - (i + 1) ∧ i + 1 ≤ ds.length ∧ ∃ bs F1 S1 ρ1, Grow K as F0 H0 bs F1 H' S1 ∧ RpE K bs F1 ρ1 σ' ∧ forD N f mbody (ds.drop (i + 1)) ρ1 S1 k, fun σ' H' n => ?_, fun x H' y => ?_⟩
    · obtain ⟨m', h1, h2, h3, h4⟩ := n
      exact ⟨m', h1, h2, h3, h4⟩
    · have hd : ds[i]? = some ds[i] := List.getElem?_eq_getElem hlt
      obtain ⟨F2, g2, rx⟩ := wk.yld i ds[i] hd bs F1 H1 S1 g1.sit g1.ex g1.pre hN x H' y
      rw [List.drop_eq_getElem_cons hlt] at e1
      obtain ⟨ρ2, hf, hm⟩ := onS_ok e1.2
      refine hg bs F2 H' S1 ρ1 σ1 ds[i] x ρ2 g2.sit (R1.grow g2) rx hf _ fun σ2 _ R2 => ?_
      have g12 := g1.trans g2
      refine hb bs F2 H' S1 ρ2 σ2 g2.sit R2 _ hm _ ⟨fun ρ3 S2 cs F3 H3 σ3 h3 g3 R3 => ?_, fun d S' cs F3 H3 v h3 g3 => q0.rt d S' cs F3 H3 v h3 (g12.trans g3), fun ρ3 S2 cs F3 H3 σ3 h3 g3 => q0.nx ρ3 S2 cs F3 H3 σ3 h3 (g12.trans g3), fun ρ3 S2 cs F3 H3 σ3 h3 g3 R3 => ?_, fun e ρ' S' cs F3 H3 σ3 cls dd h3 g3 => q0.ex e ρ' S' cs F3 H3 σ3 cls dd h3 (g12.trans g3)⟩
      · exact ⟨_, by omega, rfl, hlt, cs, F3, S2, ρ3, g12.trans g3, R3, h3⟩
      · exact ⟨_, by omega, rfl, hlt, cs, F3, S2, ρ3, g12.trans g3, R3, h3⟩
  · left
    have hi2 : i = ds.length := by omega
    subst hi2
    refine ⟨wk.stop bs F1 H1 S1 g1.sit g1.ex g1.pre hN, ?_⟩
    rw [List.drop_length] at e1
    exact q0.nx ρ1 S1 bs F1 H1 σ1 e1.2 g1 R1
theorem gs_for {body : List Stmt} {mi : Env → MW} {vs : List Nat} {f : D → Env → Option Env} (hp : PassesOwn (model X.prog X.w) X.A X.env X.xe) (hc : X.calm = true) (hi : GI X W tg iter mi) (hg : GG X tg vs f) (hb : GSs X W body mbody)
    (hs : ∀ (x : Value), foldedSetIterable iter X.env x = pure x := by intro _; rfl) : GS X W (.For tg iter body [] pos) (sFor mi f mbody) := by
  obtain ⟨wi, pi, mi'⟩ := hi
  obtain ⟨g, pg, mg⟩ := hg
  obtain ⟨t, pt, mt⟩ := hb
  exact ⟨_, ps_for hp hc pi pg pt hs, ms_for mi' mg mt⟩
end
end RV
end
section
/-! Comprehensions. -/
namespace RV
open PySem L2
abbrev WF : WX := fun _ _ _ _ => False
abbrev noX : Xq := fun _ _ => False
section
variable {X : Cx} {W : WX} {a b c e tg iter elt : Expr} {pos : Pos} {ea eb ec ee : Env → M} {ma mb mc : Env → MB} {m1 m2 mbody : Env → MS}
/-! ### the reading that says just what m says; nothing is raised -/
def rdE (K : PySem.W.Frag) (m : Env → M) : TE := fun σ H Q => ∃ (as : List Addr) (F : Hp) (S : WS) (ρ : Env) (q : D → WS → Prop), Sit K as F H S ∧ RpE K as F ρ σ ∧ m ρ S q noX ∧ NQ K as F H q Q
theorem GE.canon (h : GE X WF e ea) : PE X e (rdE X.K ea) := by
  obtain ⟨t, p, m⟩ := h
  refine ⟨fun pins s σ H Q I h => ?_⟩
  obtain ⟨as, F, S, ρ, q, I', R, hm, hq⟩ := h
  exact p.run pins s σ H Q I (m as F H S ρ σ I' R q noX hm Q hq XQ.no)
def rdT (K : PySem.W.Frag) (m : Env → MB) : TT := fun σ H Q => ∃ (as : List Addr) (F : Hp) (S : WS) (ρ : Env) (q : Bool → WS → Prop), Sit K as F H S ∧ RpE K as F ρ σ ∧ m ρ S q noX ∧ ∀ b S' bs F' H', q b S' → Grow K as F H bs F' H' S' → Q b H'
theorem GT.canon (h : GT X WF e ma) : PT X e (rdT X.K ma) := by
  obtain ⟨t, p, m⟩ := h
  refine ⟨fun pins s σ H Q I h => ?_⟩
  obtain ⟨as, F, S, ρ, q, I', R, hm, hq⟩ := h
  exact p.run pins s σ H Q I (m as F H S ρ σ I' R q noX hm Q hq XQ.no)
def rdG (K : PySem.W.Frag) (vs : List Nat) (f : D → Env → Option Env) : TG := fun v σ H Q => ∃ (as : List Addr) (F : Hp) (S : WS) (ρ : Env) (x : D) (ρ' : Env), Sit K as F H S ∧ RpE K as F ρ σ ∧ Rp K as F x v ∧ f x ρ = some ρ' ∧ ∀ σ', Agr vs σ σ' → RpE K as F ρ' σ' → Q σ' H
theorem GG.canon {vs : List Nat} {f : D → Env → Option Env} (h : GG X tg vs f) : PG X tg (rdG X.K vs f) := by
  obtain ⟨t, p, m⟩ := h
  refine ⟨fun pins s σ H v u Q I r h => ?_⟩
  obtain ⟨as, F, S, ρ, x, ρ', I', R, rx, hm, q⟩ := h
  exact p.run pins s σ H v u Q I r (m as F H S ρ σ x v ρ' I' R rx hm Q q)
/-- tests of a comprehension: none or one -/
structure GTs (X : Cx) (ifs : List Expr) (m : Env → MB) : Prop where
  ex : PTs X ifs (rdT X.K m)
def bYes : Env → MB := fun _ S q _ => q true S
theorem gts_nil : GTs X [] bYes := by
  refine ⟨⟨fun pins s σ H Q I h => ?_⟩⟩
  obtain ⟨as, F, S, ρ, q, I', R, hm, hq⟩ := h
  exact pts_nil.run pins s σ H Q I (hq _ S as F H hm (Grow.refl I'))
theorem gts_one (h : GT X WF c mc) : GTs X [c] mc := ⟨pts_one h.canon⟩

/-! ### comprehensions -/
def wipeE (ρ : Env) : List Nat → Env
  | [] => ρ
  | v :: vs => (wipeE ρ vs).set v none
theorem set_none {K : PySem.W.Frag} {as : List Addr} {F : Hp} {ρ : Env} {σ : L2.St} {i : Nat} (r : RpE K as F ρ σ) : RpE K as F (ρ.set i none) (σ.set i none) := by
  refine ⟨by rw [List.length_set, List.length_set]; exact r.len, fun j d q => ?_⟩
  by_cases hj : i = j
  · subst hj
    by_cases hl : i < ρ.length
    · rw [List.getElem?_set_self hl] at q
      cases q
    · rw [List.getElem?_eq_none (by rw [List.length_set]; omega)] at q
      cases q
  · rw [List.getElem?_set_ne hj] at q ⊢
    exact r.at_ j d q
theorem RpE.wipe {K : PySem.W.Frag} {as : List Addr} {F : Hp} {ρ : Env} {σ : L2.St} (r : RpE K as F ρ σ) : ∀ vs : List Nat, RpE K as F (wipeE ρ vs) (L2.wipe σ vs)
  | [] => r
  | v :: vs => set_none (r.wipe vs)
theorem wipe_at (σ : L2.St) (j : Nat) : ∀ vs : List Nat, (L2.wipe σ vs)[j]? = if j ∈ vs then (if j < σ.length then some none else none) else σ[j]?
  | [] => by simp [L2.wipe]
  | v :: vs => by
    unfold L2.wipe
    by_cases h : v = j
    · subst h
      by_cases hl : v < σ.length
      · rw [List.getElem?_set_self (by rw [wipe_length]; exact hl)]
        simp [hl]
      · rw [List.getElem?_eq_none (by rw [List.length_set, wipe_length]; omega)]
        simp [hl]
    · rw [List.getElem?_set_ne h, wipe_at σ j vs]
      have : j ≠ v := fun z => h z.symm
      simp [this]
theorem wipe_agr {σ σ2 : L2.St} {us vs : List Nat} (h : Agr us (L2.wipe σ vs) σ2) (hs : ∀ x ∈ us, x ∈ vs) : L2.wipe σ2 vs = L2.wipe σ vs := by
  have hl : σ2.length = σ.length := h.1.trans (wipe_length σ vs)
  refine List.ext_getElem? fun j => ?_
  rw [wipe_at, wipe_at, hl]
  by_cases hj : j ∈ vs
  · simp [hj]
  · rw [if_neg hj, if_neg hj, h.2 j fun z => hj (hs j z), wipe_at, if_neg hj]
def lcD (N : WS → Prop) (f : D → Env → Option Env) (mc : Env → MB) (me : Env → M) (ρ : Env) : List D → List D → WS → (List D → WS → Prop) → Prop
  | [], acc, S, q => N S ∧ q acc S
  | d :: ds, acc, S, q => N S ∧ onS (f d ρ) fun ρ1 => mc ρ1 S (fun b S1 => iteB b (me ρ1 S1 (fun y S2 => lcD N f mc me ρ ds (acc ++ [y]) S2 q) noX) (lcD N f mc me ρ ds acc S1 q)) noX
theorem lcD_N {N : WS → Prop} {f : D → Env → Option Env} {mc : Env → MB} {me : Env → M} {ρ : Env} {ds acc : List D} {S : WS} {q : List D → WS → Prop} (h : lcD N f mc me ρ ds acc S q) : N S := by
  cases ds with
  | nil => exact h.1
  | cons d ds => exact h.1
/-- what becomes of a new list: it stands still, or it is a new cell -/
inductive Lk where
  | still
  | new
mutual
/-- data that names no cell from n on -/
def D.clean (n : Nat) : D → Bool
  | .cell k => decide (k < n)
  | .tup ds => D.cleanL n ds
  | .lst ds => D.cleanL n ds
  | .obj _ fs => D.cleanF n fs
  | .exc _ fs => D.cleanF n fs
  | .dic fs => D.cleanK n fs
  | .non | .bl _ | .int _ | .str _ | .ty _ | .adr _ | .scr _ => true
def D.cleanL (n : Nat) : List D → Bool
  | [] => true
  | d :: ds => D.clean n d && D.cleanL n ds
def D.cleanF (n : Nat) : List (Str × D) → Bool
  | [] => true
  | (_, d) :: ds => D.clean n d && D.cleanF n ds
def D.cleanK (n : Nat) : List (Key × D) → Bool
  | [] => true
  | (_, d) :: ds => D.clean n d && D.cleanK n ds
end
section
variable {K : PySem.W.Frag} {as bs : List Addr} {F : Hp} {n : Nat}
mutual
theorem Rp.back (p : ∀ k a, k < n → bs[k]? = some a → as[k]? = some a) : ∀ {d : D} {v : V}, Rp K bs F d v → D.clean n d = true → Rp K as F d v
  | _, _, .non, _ => .non
  | _, _, .bl b, _ => .bl b
  | _, _, .int i, _ => .int i
  | _, _, .str s, _ => .str s
  | _, _, .ty n, _ => .ty n
  | _, _, .adr a, _ => .adr a
  | _, _, .scr h, _ => .scr h
  | _, _, .cell h, c => .cell (p _ _ (by unfold D.clean at c; exact of_decide_eq_true c) h)
  | _, _, .tup h r, c => .tup h (RpL.back p r (by unfold D.clean at c; exact c))
  | _, _, .lst h r, c => .lst h (RpL.back p r (by unfold D.clean at c; exact c))
  | _, _, .obj h r, c => .obj h (RpF.back p r (by unfold D.clean at c; exact c))
  | _, _, .dic h r, c => .dic h (RpK.back p r (by unfold D.clean at c; exact c))
theorem RpL.back (p : ∀ k a, k < n → bs[k]? = some a → as[k]? = some a) : ∀ {ds : List D} {vs : List V}, RpL K bs F ds vs → D.cleanL n ds = true → RpL K as F ds vs
  | _, _, .nil, _ => .nil
  | _, _, .cons h r, c => by
    unfold D.cleanL at c
    obtain ⟨c1, c2⟩ := Bool.and_eq_true_iff.mp c
    exact .cons (Rp.back p h c1) (RpL.back p r c2)
theorem RpF.back (p : ∀ k a, k < n → bs[k]? = some a → as[k]? = some a) : ∀ {fs : List (Str × D)} {vfs : List (Str × V)}, RpF K bs F fs vfs → D.cleanF n fs = true → RpF K as F fs vfs
  | _, _, .nil, _ => .nil
  | _, _, .cons h r, c => by
    unfold D.cleanF at c
    obtain ⟨c1, c2⟩ := Bool.and_eq_true_iff.mp c
    exact .cons (Rp.back p h c1) (RpF.back p r c2)
theorem RpK.back (p : ∀ k a, k < n → bs[k]? = some a → as[k]? = some a) : ∀ {fs : List (Key × D)} {vfs : List (Key × V)}, RpK K bs F fs vfs → D.cleanK n fs = true → RpK K as F fs vfs
  | _, _, .nil, _ => .nil
  | _, _, .cons h r, c => by
    unfold D.cleanK at c
    obtain ⟨c1, c2⟩ := Bool.and_eq_true_iff.mp c
    exact .cons (Rp.back p h c1) (RpK.back p r c2)
end
theorem rpl_clean0 {ds : List D} {vs : List V} (r : RpL K as F ds vs) (h : D.cleanL 0 ds = true) : RpL K [] F ds vs := r.back (n := 0) (fun k a hk => absurd hk (by omega)) h
end
/-- a new list hands on -/
def lkD (l : Lk) (ds : List D) (S : WS) (q : D → WS → Prop) : Prop := match l with
  | .still => q (.lst ds) S
  | .new => D.cleanL 0 ds = true ∧ q (.cell S.length) (S ++ [.lst ds])
theorem sit_cell {K : PySem.W.Frag} {as : List Addr} {F H : Hp} {S : WS} {x : Addr} {c : Cell} {o : HO} {H' : Hp} (I : Sit K as F H S) (nx : x ∉ as) (fx : F x = none) (hH : ∀ a u, a ∈ as ∨ F a ≠ none → H a = some u → H' a = some u) (hx' : H' x = some o) (hc : c.isHid = false) (ho : CellOf K F c o) : Sit K (as ++ [x]) F H' (S ++ [c]) := by
  refine ⟨by simp [I.len], fun a u h => hH _ _ (.inr (by rw [h]; simp)) (I.ex a u h), ?_, fun i q c2 h1 h2 => ?_⟩
  · rw [List.nodup_append]
    refine ⟨I.nd, by simp, fun a ha b hb e => ?_⟩
    rw [List.mem_singleton] at hb
    subst hb
    exact nx (e ▸ ha)
  · by_cases hi : i < as.length
    · rw [List.getElem?_append_left hi] at h1
      rw [List.getElem?_append_left (by rw [← I.len]; exact hi)] at h2
      obtain ⟨z1, ob, z2, z3⟩ := I.cell i q c2 h1 h2
      exact ⟨z1, ob, hH _ _ (.inl (List.mem_of_getElem? h1)) z2, z3⟩
    · have hi2 : i = as.length := by
        have := (List.getElem?_eq_some_iff.mp h1).1
        simp at this
        omega
      subst hi2
      rw [List.getElem?_append_right (Nat.le_refl _)] at h1
      rw [List.getElem?_append_right (by rw [I.len]; exact Nat.le_refl _)] at h2
      simp at h1
      simp [I.len] at h2
      subst h1
      subst h2
      exact ⟨fun _ => fx, o, hx', ho⟩
theorem pre_app {as bs : List Addr} : Pre as (as ++ bs) := fun i a h => by
  rw [List.getElem?_append_left (List.getElem?_eq_some_iff.mp h).1]
  exact h
/-- the list at p, which is neither still nor a cell, is handed on -/
theorem lk_ok {K : PySem.W.Frag} {as bs : List Addr} {F H F1 H1 : Hp} {S1 : WS} {p : Addr} {ds : List D} {vs : List V} {l : Lk} {q : D → WS → Prop} {Q : VK} (hq : NQ K as F H q Q) (g : Grow K as F H bs F1 H1 S1) (hp : H p = none) (fp : F1 p = none) (bp : p ∉ bs) (hl : H1 p = some (.lst vs)) (r : RpL K bs F1 ds vs) (h : lkD l ds S1 q) : Q (.ref p) H1 := by
  cases l with
  | still =>
    have ex : Ex F1 (upd F1 p (.lst vs)) := Ex.new fp
    refine hq _ S1 bs (upd F1 p (.lst vs)) H1 _ h ⟨g.sit.freeze fp bp hl, g.pre, g.ex.trans ex, fun a ha => ?_, g.newc, g.old, g.there⟩ (.lst upd_same (r.mono ex (Pre.refl _)))
    by_cases e2 : a = p
    · subst e2
      exact .inr hp
    · rw [upd_ne e2] at ha
      exact g.new a ha
  | new =>
    have s2 : Sit K (bs ++ [p]) F1 H1 (S1 ++ [.lst ds]) := sit_cell g.sit bp fp (fun _ _ _ h => h) hl rfl (rpl_clean0 r h.1)
    refine hq _ _ (bs ++ [p]) F1 H1 _ h.2 ⟨s2, g.pre.trans pre_app, g.ex, g.new, fun a ha => ?_, g.old, g.there⟩ (.cell (by rw [← g.sit.len]; simp))
    rcases List.mem_append.mp ha with z | z
    · exact g.newc a z
    · rw [List.mem_singleton] at z
      subst z
      exact .inr hp
def eLc (l : Lk) (mi : Env → MW) (f : D → Env → Option Env) (mc : Env → MB) (me : Env → M) (vs : List Nat) : Env → M := fun ρ S q x => mi ρ S (fun ds N S1 => small ds.length = true ∧ lcD N f mc me (wipeE ρ vs) ds [] S1 fun es S2 => lkD l es S2 q) x
/-- a list that is being made: neither still nor a cell -/
theorem grow_free {K : PySem.W.Frag} {as bs : List Addr} {F H F1 H1 : Hp} {S1 : WS} {p : Addr} {o o' : HO} (g : Grow K as F H bs F1 H1 S1) (hp : H p = some o) (fp : F p = none) (ap : p ∉ as) : F1 p = none ∧ p ∉ bs ∧ H1 p = some o := by
  refine ⟨?_, fun z => ?_, g.old p o ap hp⟩
  · cases q3 : F1 p with
    | none => rfl
    | some u =>
      rcases g.new p (by rw [q3]; simp) with z | z
      · exact absurd fp z
      · rw [hp] at z
        cases z
  · rcases g.newc p z with z | z
    · exact ap z
    · rw [hp] at z
      cases z
theorem me_lc {K : PySem.W.Frag} {wi : TI} {l : Lk} {mi : Env → MW} {us vs : List Nat} {f : D → Env → Option Env} (hi : MI K W wi mi) (hs : ∀ x ∈ us, x ∈ vs) : ME K W (tLc wi (rdG K us f) (rdT K mc) (rdE K ee) vs) (eLc l mi f mc ee vs) := fun as F H S ρ σ I R q x e Q hq hx => by
  refine hi as F H S ρ σ I R _ _ e _ (fun ds N S0 as F0 H0 J h0 g0 wk D0 hD => ?_) hx
  obtain ⟨hsm, h2⟩ := h0
  have fD : F0 D0 = none := g0.sit.out hD
  have aD : D0 ∉ as := fun z => g0.sit.there z hD
  have RW : RpE K as F0 (wipeE ρ vs) (L2.wipe σ vs) := (R.grow g0).wipe vs
  have q0 := hq.step g0
  refine ⟨fun i m H1 => m = ds.length - i ∧ i ≤ ds.length ∧ ∃ bs F1 S1 acc done, Grow K as F0 H0 bs F1 H1 S1 ∧ F1 D0 = none ∧ D0 ∉ bs ∧ H1 D0 = some (.lst acc) ∧ RpL K bs F1 done acc ∧ done.length ≤ i ∧ lcD N f mc ee (wipeE ρ vs) (ds.drop i) done S1 (fun es S2 => lkD l es S2 q), ⟨ds.length, by simp, Nat.zero_le _, as, F0, S0, [], [], ?_, fD, aD, upd_same, .nil, Nat.le_refl _, by simpa using h2⟩, ?_⟩
  · exact ⟨g0.sit.other fD aD, Pre.refl _, Ex.refl _, fun _ h => .inl h, fun _ h => .inl h, fun a o _ h => by rw [upd_ne (ne_of_none h hD)]; exact h, fun a h => upd_there h⟩
  rintro i m H1 ⟨rfl, hle, bs, F1, S1, acc, done, g1, f1, b1, hD1, ra, hdl, e1⟩
  have hN := lcD_N e1
  have hacc : acc.length < sizeLine := by
    rw [← ra.length]
    have h5 : ds.length ≤ 100000 := of_decide_eq_true hsm
    have h6 : (100000 : Nat) < sizeLine := by decide
    omega
  by_cases hlt : i < ds.length
  · right
    refine ⟨wk.go i hlt bs F1 H1 S1 g1.sit g1.ex g1.pre hN, fun H' => ∃ m', m' < ds.length - i ∧ m' = ds.length - (i + 1) ∧ i + 1 ≤ ds.length ∧ ∃ bs F1 S1 acc done, Grow K as F0 H0 bs F1 H' S1 ∧ F1 D0 = none ∧ D0 ∉ bs ∧ H' D0 = some (.lst acc) ∧ RpL K bs F1 done acc ∧ done.length ≤ i + 1 ∧ lcD N f mc ee (wipeE ρ vs) (ds.drop (i + 1)) done S1 (fun es S2 => lkD l es S2 q), fun H' n => ?_, fun x H' y => ?_⟩
    · obtain ⟨m', n1, n2, n3, n4⟩ := n
      exact ⟨m', n1, n2, n3, n4⟩
    · have hd : ds[i]? = some ds[i] := List.getElem?_eq_getElem hlt
      obtain ⟨F2, g2, rx⟩ := wk.yld i ds[i] hd bs F1 H1 S1 g1.sit g1.ex g1.pre hN x H' y
      rw [List.drop_eq_getElem_cons hlt] at e1
      obtain ⟨ρ2, hf, hm⟩ := onS_ok e1.2
      have g12 := g1.trans g2
      refine ⟨bs, F2, S1, wipeE ρ vs, ds[i], ρ2, g2.sit, RW.mono g12.ex g12.pre, rx, hf, fun σ2 A2 R2 => ⟨wipe_agr A2 hs, ?_⟩⟩
      refine ⟨bs, F2, S1, ρ2, _, g2.sit, R2, hm, fun pb S2 cs F3 H3 h3 g3 => ?_⟩
      have g23 := g2.trans g3
      cases pb with
      | true =>
        refine ⟨cs, F3, S2, ρ2, _, g3.sit, R2.grow g3, h3, fun d S4 ls F4 H4 v h4 g4 r4 => ?_⟩
        have g24 := g23.trans g4
        have g5 := g1.trans g24
        obtain ⟨f4, b4, hD4⟩ := grow_free (o' := .lst []) g24 hD1 f1 b1
        refine ⟨acc, hD4, hacc, _, by omega, rfl, hlt, ls, F4, S4, acc ++ [v], done ++ [d], ?_, f4, b4, upd_same, (ra.mono g24.ex g24.pre).append (.cons r4 .nil), ?_, h4⟩
        · exact ⟨g5.sit.other f4 b4, g5.pre, g5.ex, g5.new, g5.newc, fun a o ha h => by
            rw [upd_ne (ne_of_none h hD)]
            exact g5.old a o ha h, fun a h => upd_there (g5.there a h)⟩
        · rw [List.length_append]
          show done.length + 1 ≤ i + 1
          omega
      | false =>
        obtain ⟨f4, b4, hD4⟩ := grow_free (o' := .lst []) g23 hD1 f1 b1
        exact ⟨_, by omega, rfl, hlt, cs, F3, S2, acc, done, g1.trans g23, f4, b4, hD4, ra.mono g23.ex g23.pre, by omega, h3⟩
  · left
    have hi2 : i = ds.length := by omega
    subst hi2
    refine ⟨wk.stop bs F1 H1 S1 g1.sit g1.ex g1.pre hN, ?_⟩
    rw [List.drop_length] at e1
    exact lk_ok q0 g1 hD f1 b1 hD1 ra e1.2
theorem ge_lc {l : Lk} {scope : Scope} {own : List (Str × Nat)} {ifs : List Expr} {mi : Env → MW} {us : List Nat} {f : D → Env → Option Env} (hc : X.calm = true) (hN : X.N.Nodup) (hi : GI X W tg iter mi) (ok : BlkOk X.N X.env.scope scope own)
    (hg : ∀ (s : Shared) (H : Hp) (C : Addr) (cl : List (Str × Addr)) (fp : List Addr), GG (X.blk s H scope (compEnvC scope cl C X.env) fp) tg us f)
    (ht : ∀ (s : Shared) (H : Hp) (C : Addr) (cl : List (Str × Addr)) (fp : List Addr), GTs (X.blk s H scope (compEnvC scope cl C X.env) fp) ifs mc)
    (he : ∀ (s : Shared) (H : Hp) (C : Addr) (cl : List (Str × Addr)) (fp : List Addr), GE (X.blk s H scope (compEnvC scope cl C X.env) fp) WF elt ee)
    (hu : ∀ x ∈ us, x ∈ own.map (·.2) := by decide) (hs : ∀ (x : Value), foldedSetIterable iter X.env x = pure x := by intro _; rfl) :
    GE X W (.ListComp elt [⟨tg, iter, ifs, 0⟩] scope pos) (eLc l mi f mc ee (own.map (·.2))) := by
  obtain ⟨wi, pi, mi'⟩ := hi
  exact ⟨_, pe_lc (own := own) hc hN pi ok (fun s H C cl fp => (hg s H C cl fp).canon) (fun s H C cl fp => (ht s H C cl fp).ex) (fun s H C cl fp => (he s H C cl fp).canon) hs, me_lc mi' hu⟩
/-- a display as a new cell -/
def eNew (er : Env → ML) : Env → M := fun ρ S q x => er ρ S (fun ds S1 => small ds.length = true ∧ lkD .new ds S1 q) x
theorem ge_new {es : List Expr} {er : Env → ML} (h : GA X W es er) : GE X W (.List es pos) (eNew er) := by
  obtain ⟨t, p, m⟩ := h
  refine ⟨_, pe_lst p, fun as F H S ρ σ I R q x e Q hq hx => ?_⟩
  refine m as F H S ρ σ I R _ x e _ (fun ds S1 bs F1 H1 vs h1 g1 r1 => ⟨?_, fun a ha => ?_⟩) hx
  · rw [← r1.length]
    exact small_le h1.1
  · have f1 := g1.sit.out ha
    have b1 : a ∉ bs := fun z => g1.sit.there z ha
    have g2 : Grow X.K bs F1 H1 bs F1 (upd H1 a (.lst vs)) S1 := ⟨g1.sit.other f1 b1, Pre.refl _, Ex.refl _, fun _ h => .inl h, fun _ h => .inl h, fun c o _ h => by rw [upd_ne (ne_of_none h ha)]; exact h, fun c h => upd_there h⟩
    exact lk_ok (hq.step g1) g2 ha f1 b1 upd_same r1 h1.2
end
end RV
end
section
/-! A def by its body; instances. -/
namespace RV
open PySem L2
def startE (n : Nat) (ds : List D) : Env := ds.map some ++ List.replicate (n - ds.length) none
theorem startE_ok {K : PySem.W.Frag} {as : List Addr} {F : Hp} {N : List Str} {ds : List D} {vs : List V} (r : RpL K as F ds vs) : RpE K as F (startE N.length ds) (L2.start N vs) := by
  have hl := r.length
  refine ⟨by simp [startE, L2.start, hl], fun i d h => ?_⟩
  unfold startE at h
  unfold L2.start
  by_cases hi : i < ds.length
  · rw [List.getElem?_append_left (by simpa using hi)] at h
    rw [List.getElem?_append_left (by simpa [← hl] using hi)]
    simp only [List.getElem?_map, Option.map_eq_some_iff] at h
    obtain ⟨d', h1, h2⟩ := h
    cases h2
    obtain ⟨v, hv, rv⟩ := r.get h1
    exact ⟨v, by simp [hv], rv⟩
  · rw [List.getElem?_append_right (by simpa using hi)] at h
    simp [List.getElem?_replicate] at h
/-- what a body hands back: a list of the def's own stands still from here on -/
def fin (n : Nat) (d : D) (S : WS) (q : D → WS → Prop) : Prop := if S.length = n then q d S else match d with
  | .cell k => if k < n then q d (S.take n) else onS S[k]? fun c => onLst c fun ds => q (.lst ds) (S.take n)
  | d => D.clean n d = true ∧ q d (S.take n)
/-- .. or it is a new cell -/
def finN (n : Nat) (d : D) (S : WS) (q : D → WS → Prop) : Prop := match d with
  | .cell k => n ≤ k ∧ onS S[k]? fun c => q (.cell n) (S.take n ++ [c])
  | _ => False
def finX (n : Nat) (e : D) (S : WS) (x : Xq) : Prop := if S.length = n then x e S else D.clean n e = true ∧ x e (S.take n)
def fnD (n : Nat) (m : Env → MS) : List D → M := fun ds S q x => m (startE n ds) S ⟨fun _ S' => fin S.length .non S' q, fun d S' => fin S.length d S' q, fun _ _ => False, fun _ _ => False, fun e _ S' => finX S.length e S' x⟩
def fnN (n : Nat) (m : Env → MS) : List D → M := fun ds S q x => m (startE n ds) S ⟨fun _ _ => False, fun d S' => finN S.length d S' q, fun _ _ => False, fun _ _ => False, fun e _ S' => finX S.length e S' x⟩
theorem Sit.take {K : PySem.W.Frag} {as bs : List Addr} {F H : Hp} {S : WS} (I : Sit K bs F H S) (p : Pre as bs) (hl : as.length ≤ bs.length) (hn : as.Nodup) : Sit K as F H (S.take as.length) := by
  refine ⟨by rw [List.length_take, ← I.len]; omega, I.ex, hn, fun i q c h1 h2 => ?_⟩
  have hi := (List.getElem?_eq_some_iff.mp h1).1
  rw [List.getElem?_take_of_lt hi] at h2
  exact I.cell i q c (p i q h1) h2
theorem pre_len {as bs : List Addr} (p : Pre as bs) : as.length ≤ bs.length := by
  by_cases h : as.length = 0
  · omega
  · have hl : as.length - 1 < as.length := by omega
    have := p (as.length - 1) _ (List.getElem?_eq_getElem hl)
    have := (List.getElem?_eq_some_iff.mp this).1
    omega
theorem pre_back {as bs : List Addr} (p : Pre as bs) : ∀ k a, k < as.length → bs[k]? = some a → as[k]? = some a := fun k a hk h => by
  have := p k _ (List.getElem?_eq_getElem hk)
  rw [h] at this
  cases this
  exact List.getElem?_eq_getElem hk
theorem pre_eq {as bs : List Addr} (p : Pre as bs) (h : bs.length = as.length) : bs = as := by
  refine List.ext_getElem? fun i => ?_
  by_cases hi : i < as.length
  · have := p i _ (List.getElem?_eq_getElem hi)
    rw [this, List.getElem?_eq_getElem hi]
  · rw [List.getElem?_eq_none (by omega), List.getElem?_eq_none (by omega)]
/-- what was a cell of the def's own is out of sight -/
theorem Grow.drop {K : PySem.W.Frag} {as bs : List Addr} {F H F' H' : Hp} {S' : WS} (g : Grow K as F H bs F' H' S') (hn : as.Nodup) : Grow K as F H as F' H' (S'.take as.length) :=
  ⟨g.sit.take g.pre (pre_len g.pre) hn, Pre.refl _, g.ex, g.new, fun _ h => .inl h, g.old, g.there⟩
theorem cell_out {as bs : List Addr} {k : Nat} {a : Addr} (p : Pre as bs) (nd : bs.Nodup) (hk : as.length ≤ k) (ha : bs[k]? = some a) : a ∉ as := fun z => by
  obtain ⟨i, hi⟩ := List.getElem?_of_mem z
  have h1 := p i a hi
  have hib : i < bs.length := (List.getElem?_eq_some_iff.mp h1).1
  have h2 : i = k := (List.getElem?_inj hib nd).mp (h1.trans ha.symm)
  have := (List.getElem?_eq_some_iff.mp hi).1
  omega
theorem fin_ok {K : PySem.W.Frag} {as bs : List Addr} {F H F' H' : Hp} {S S1 : WS} {d : D} {v : V} {q : D → WS → Prop} {Q : VK} (I : Sit K as F H S) (hq : NQ K as F H q Q) (g : Grow K as F H bs F' H' S1) (r : Rp K bs F' d v) (h : fin S.length d S1 q) : Q v H' := by
  have hl : bs.length = S1.length := g.sit.len
  have hn : as.length = S.length := I.len
  unfold fin at h
  split at h
  · rename_i e
    exact hq d S1 bs F' H' v h g r
  · have gd := g.drop I.nd
    rw [hn] at gd
    have other : ∀ x : D, D.clean S.length x = true → Rp K bs F' x v → Rp K as F' x v := fun x hx rx => rx.back (fun k a hk => pre_back g.pre k a (by omega)) hx
    split at h
    · rename_i k
      split at h
      · rename_i hk
        exact hq _ _ as F' H' v h gd (other _ (by unfold D.clean; exact decide_eq_true hk) r)
      · rename_i hk
        obtain ⟨c, hS, h⟩ := onS_ok h
        cases c with
        | lst ds =>
          cases r with
          | cell ha =>
            rename_i a
            obtain ⟨z1, o, z2, z3⟩ := g.sit.cell k a _ ha hS
            cases o with
            | lst xs =>
              have fa : F' a = none := z1 rfl
              have na : a ∉ as := cell_out g.pre g.sit.nd (by omega) ha
              refine hq _ _ as (upd F' a (.lst xs)) H' _ h ⟨gd.sit.freeze fa na z2, Pre.refl _, gd.ex.trans (Ex.new fa), fun b hb => ?_, fun _ h => .inl h, gd.old, gd.there⟩ (.lst upd_same (RpL.mono (Ex.new fa) pre_nil z3))
              by_cases e2 : b = a
              · subst e2
                rcases g.newc b (List.mem_of_getElem? ha) with z | z
                · exact absurd z na
                · exact .inr z
              · rw [upd_ne e2] at hb
                exact gd.new b hb
            | _ => exact z3.elim
        | _ => exact h.elim
    · exact hq _ _ as F' H' v h.2 gd (other _ h.1 r)
theorem Grow.only {K : PySem.W.Frag} {as bs : List Addr} {F H F' H' : Hp} {S1 : WS} {k : Nat} {a : Addr} {c : Cell} (g : Grow K as F H bs F' H' S1) (hn : as.Nodup) (hk : as.length ≤ k) (ha : bs[k]? = some a) (hS : S1[k]? = some c) : Grow K as F H (as ++ [a]) F' H' (S1.take as.length ++ [c]) := by
  have gd := g.drop hn
  have na : a ∉ as := cell_out g.pre g.sit.nd hk ha
  have hl : (S1.take as.length).length = as.length := gd.sit.len.symm
  refine ⟨⟨by rw [List.length_append, List.length_append, ← gd.sit.len]; rfl, gd.sit.ex, ?_, fun i q c2 h1 h2 => ?_⟩, fun i p hi => by rw [List.getElem?_append_left (List.getElem?_eq_some_iff.mp hi).1]; exact hi, g.ex, g.new, fun p hp => ?_, g.old, g.there⟩
  · rw [List.nodup_append]
    refine ⟨hn, by simp, fun x hx b hb e => ?_⟩
    rw [List.mem_singleton] at hb
    subst hb
    exact na (e ▸ hx)
  · by_cases hi : i < as.length
    · rw [List.getElem?_append_left hi] at h1
      rw [List.getElem?_append_left (by rw [hl]; exact hi)] at h2
      exact gd.sit.cell i q c2 h1 h2
    · have hi2 : i = as.length := by
        have := (List.getElem?_eq_some_iff.mp h1).1
        simp at this
        omega
      subst hi2
      rw [List.getElem?_append_right (Nat.le_refl _)] at h1
      rw [List.getElem?_append_right (by omega), hl] at h2
      simp at h1 h2
      subst h1 h2
      exact g.sit.cell k a c ha hS
  · rcases List.mem_append.mp hp with z | z
    · exact .inl z
    · rw [List.mem_singleton] at z
      subst z
      exact g.newc p (List.mem_of_getElem? ha)
theorem finN_ok {K : PySem.W.Frag} {as bs : List Addr} {F H F' H' : Hp} {S S1 : WS} {d : D} {v : V} {q : D → WS → Prop} {Q : VK} (I : Sit K as F H S) (hq : NQ K as F H q Q) (g : Grow K as F H bs F' H' S1) (r : Rp K bs F' d v) (h : finN S.length d S1 q) : Q v H' := by
  unfold finN at h
  split at h
  · rename_i k
    obtain ⟨hk, h⟩ := h
    obtain ⟨c, hS, h⟩ := onS_ok h
    cases r with
    | cell ha =>
      have g2 := g.only I.nd (by rw [I.len]; exact hk) ha hS
      rw [I.len] at g2
      refine hq _ _ _ F' H' _ h g2 (.cell ?_)
      rw [← I.len]
      simp
  · exact h.elim
theorem finX_ok {K : PySem.W.Frag} {as bs : List Addr} {F H F' H' : Hp} {S S1 : WS} {e : D} {cls : Value} {dd : Option Addr} {x : Xq} {E : XK} (I : Sit K as F H S) (hx : XQ K as F H x E) (g : Grow K as F H bs F' H' S1) (r : RxD K bs F' e cls dd) (h : finX S.length e S1 x) : E cls dd H' := by
  unfold finX at h
  have hn : as.length = S.length := I.len
  split at h
  · exact hx e S1 bs F' H' cls dd h g r
  · have gd := g.drop I.nd
    rw [hn] at gd
    obtain ⟨C, d, fs, vfs, e1, e2, e3, e4, e5⟩ := r
    subst e1
    have hc := h.1
    unfold D.clean at hc
    exact hx _ _ as F' H' cls dd h.2 gd ⟨C, d, fs, vfs, rfl, e2, e3, e4, e5.back (fun k a hk => pre_back g.pre k a (by omega)) hc⟩
abbrev WofE (E : XK) : WX := fun cls d _ H => E cls d H
theorem fnD_run {K : PySem.W.Frag} {N : List Str} {m : Env → MS} {ts : TS} {n : Nat} {vs : List V} {H : Hp} {Q : VK} {E : XK} (hm : MSt K (WofE E) ts m) (h : spG K n (fnD N.length m) vs H Q E) :
    ts { nx := fun _ H' => Q .non H', rt := Q } (L2.start N vs) H := by
  obtain ⟨as, F, S, ds, q, x, I, r, hl, e, hq, hx⟩ := h
  exact hm as F H S _ _ I (startE_ok r) _ e _ ⟨fun ρ' S' bs F' H' σ' h g R => fin_ok I hq g .non h, fun d S' bs F' H' v h g r => fin_ok I hq g r h, fun _ _ _ _ _ _ h => h.elim, fun _ _ _ _ _ _ h => h.elim, fun e ρ' S' bs F' H' σ' cls dd h g R r => finX_ok I hx g r h⟩
theorem fnN_run {K : PySem.W.Frag} {N : List Str} {m : Env → MS} {ts : TS} {n : Nat} {vs : List V} {H : Hp} {Q : VK} {E : XK} (hm : MSt K (WofE E) ts m) (h : spG K n (fnN N.length m) vs H Q E) :
    ts { nx := fun _ H' => Q .non H', rt := Q } (L2.start N vs) H := by
  obtain ⟨as, F, S, ds, q, x, I, r, hl, e, hq, hx⟩ := h
  exact hm as F H S _ _ I (startE_ok r) _ e _ ⟨fun _ _ _ _ _ _ h => h.elim, fun d S' bs F' H' v h g r => finN_ok I hq g r h, fun _ _ _ _ _ _ h => h.elim, fun _ _ _ _ _ _ h => h.elim, fun e ρ' S' bs F' H' σ' cls dd h g R r => finX_ok I hx g r h⟩
theorem tkF {X : Cx} : L2N.Takes X WF := fun u s' x => by
  obtain ⟨a, B, sI, pins, σ, H, cls, d, e, I, nb, up, sky, na, os, ag, w⟩ := x
  exact w.elim
section
variable {P : Program} {w : World} {K : PySem.W.Frag} {mg : Str → Option Value} {base : Heap}
/-- the context of a def's body -/
abbrev cxG (P : Program) (w : World) (K : PySem.W.Frag) (mg : Str → Option Value) (base : Heap) (N : List Str) (qual : Str) (scope : Scope) (f : Addr) (cdv : Value) (A : Around) (outer : List PySem.Env) (s : Shared) (H : Hp) (E : XK) : Cx := cxOf (L2N.CX P w) P w K mg base N qual scope f cdv A outer s H E
theorem fnX_of {gd : Bool} {f : Addr} {name qual : Str} {params : Arguments} {body : List Stmt} {scope : Scope} {dvs : List V} {kws : List (Str × V)} {fd : FuncData} {N ps : List Str} {sp : Sp} {k : Nat} (F : FunD K name qual params body scope dvs kws f fd) (S : FnScope N ps scope)
    (len : ∀ vs H Q E, sp vs H Q E → vs.length = ps.length)
    (hbody : ∀ (cdv : Value) (A : Around) (outer : List PySem.Env) (s : Shared) (H : Hp) (vs : List V) (Q : VK) (E : XK), (gd = true → A.guards = some []) → Room k (A.deeper (PyProof.Rows.envOfC qual scope s.heap.objs.size f cdv)) → sp vs H Q E →
      ∃ t, PSs (cxG P w K mg base N qual scope f cdv A outer s H E) body t ∧ t { nx := fun _ H' => Q .non H', rt := Q } (L2.start N vs) H) :
    FnX gd P w K mg base (k + 1) f fd ps sp := by
  obtain ⟨oc, od, dV, kV, doc, pm, an, cdv, ct, osl, rfl, lk, hcd, _, _⟩ := F.ex
  refine ⟨len, fun A outer s H args us vs Q E hg hr e0 hb r hsp => ?_⟩
  have still : ∀ b o, base.get? b = some o → s.heap.get? b = some o := fun b o e => (e0.bs b o e).1
  have KX : K.In s.heap := e0.mod.kin.keeps still
  have bound : ∀ y ∈ ps.zip us, scope.names.lookup y.1 = some .local ∨ (scope.names.lookup y.1 = some .cell ∧ ((cellsFrom (s.heap.objs.size + 1) scope.names []).lookup y.1).isSome = true) := by
    rintro ⟨n, v⟩ hy
    rcases S.par n (List.of_mem_zip hy).1 with q | q
    · exact Or.inl q
    · exact Or.inr ⟨q, PySem.W.cellsFrom_some _ _ _ (.inl q)⟩
  refine codeAny_call_function hr.depth (KX _ _ lk) rfl S.co S.gen rfl (PySem.W.codeRec_of KX hcd) (hb _ _ _ _ ?_)
  refine wpAny_newFunctionEnv_cells S.kind bound fun env he s1 x => ?_
  subst he
  refine ⟨(e0.mod.nolimit.keeps still).keeps x.toInCall.keep, codeAny_func ?_⟩
  obtain ⟨t, ht, hq⟩ := hbody cdv A outer s H vs Q E hg (hr.deeper _) hsp
  have I := inv_start (CX := L2N.CX P w) (E := E) (f := f) (cd := cdv) (qual := qual) S hr.hd e0 (len _ _ _ _ hsp) r x
  refine wpAny_mono (ht.run [] s1 (L2.start N vs) H _ I hq) (fun fl s' hs => ?_) fun e s' hs => hs
  cases fl with
  | ret u =>
    obtain ⟨v, σ', H', J, rv, q⟩ := hs
    exact ⟨v, H', J.os, J.bare, J.base, J.hok, rv, q⟩
  | next =>
    obtain ⟨σ', H', J, q⟩ := hs
    exact ⟨V.non, H', J.os, J.bare, J.base, J.hok, rfl, q⟩
  | brk =>
    obtain ⟨_, _, _, q⟩ := hs
    exact q.elim
  | cont =>
    obtain ⟨_, _, _, q⟩ := hs
    exact q.elim
theorem spG_len {n : Nat} {G : List D → M} : ∀ vs H Q E, spG K n G vs H Q E → vs.length = n := fun vs H Q E h => by
  obtain ⟨as, F, S, ds, q, x, I, r, hl, e, hq, hx⟩ := h
  rw [← r.length]
  exact hl
/-- a body's facts: what is raised goes out -/
abbrev BodyOk (gd : Bool) (P : Program) (w : World) (K : PySem.W.Frag) (mg : Str → Option Value) (base : Heap) (N : List Str) (qual : Str) (scope : Scope) (f : Addr) (k : Nat) (body : List Stmt) (m : Env → MS) : Prop :=
  ∀ (cdv : Value) (A : Around) (outer : List PySem.Env) (s : Shared) (H : Hp) (E : XK), (gd = true → (cxG P w K mg base N qual scope f cdv A outer s H E).A.guards = some []) → Room k (A.deeper (PyProof.Rows.envOfC qual scope s.heap.objs.size f cdv)) →
    L2N.Takes (cxG P w K mg base N qual scope f cdv A outer s H E) (WofE E) → PassesOwn (model P w) (cxG P w K mg base N qual scope f cdv A outer s H E).A (cxG P w K mg base N qual scope f cdv A outer s H E).env (cxG P w K mg base N qual scope f cdv A outer s H E).xe →
    GSs (cxG P w K mg base N qual scope f cdv A outer s H E) (WofE E) body m
theorem fn_G {gd : Bool} {x qual : Str} {params : Arguments} {body : List Stmt} {scope : Scope} {dvs : List V} {kws : List (Str × V)} {f : Addr} {fd : FuncData} {N ps : List Str} {k : Nat} {m : Env → MS} (F : FunD K x qual params body scope dvs kws f fd) (S : FnScope N ps scope)
    (hb : BodyOk gd P w K mg base N qual scope f k body m) : FnX gd P w K mg base (k + 1) f fd ps (spG K ps.length (fnD N.length m)) := by
  refine fnX_of F S spG_len (fun cdv A outer s H vs Q E hg hr h => ?_)
  obtain ⟨ts, p, hm⟩ := hb cdv A outer s H E hg hr (L2N.takes_of rfl rfl rfl rfl) (passes_of rfl)
  exact ⟨ts, p, fnD_run hm h⟩
theorem fn_N {gd : Bool} {x qual : Str} {params : Arguments} {body : List Stmt} {scope : Scope} {dvs : List V} {kws : List (Str × V)} {f : Addr} {fd : FuncData} {N ps : List Str} {k : Nat} {m : Env → MS} (F : FunD K x qual params body scope dvs kws f fd) (S : FnScope N ps scope)
    (hb : BodyOk gd P w K mg base N qual scope f k body m) : FnX gd P w K mg base (k + 1) f fd ps (spG K ps.length (fnN N.length m)) := by
  refine fnX_of F S spG_len (fun cdv A outer s H vs Q E hg hr h => ?_)
  obtain ⟨ts, p, hm⟩ := hb cdv A outer s H E hg hr (L2N.takes_of rfl rfl rfl rfl) (passes_of rfl)
  exact ⟨ts, p, fnN_run hm h⟩
end
end RV
end
section
/-! Instances: made, their fields read and set, properties. -/
namespace RV
open PySem L2
section
variable {X : Cx} {W : WX} {e o : Expr} {es : List Expr} {pos p apos : Pos} {er ek : Env → ML} {ea eb : Env → M} {C : Addr} {f : Str}
/-- o.f of an instance of the class at C: one that stands still, or a cell -/
def fldD (C : Addr) (f : Str) (S : WS) : D → Option D
  | .obj C' fs => if C' = C then fs.lookup f else none
  | .cell k => match S[k]? with
    | some (.ob C' fs) => if C' = C then fs.lookup f else none
    | _ => none
  | _ => none
theorem fld_at {K : PySem.W.Frag} {as : List Addr} {F H : Hp} {S : WS} {x d : D} {v : V} (I : Sit K as F H S) (r : Rp K as F x v) (h : fldD C f S x = some d) : ∃ a dx vfs u, v = .ref a ∧ H a = some (.ins C dx vfs) ∧ vfs.lookup f = some u ∧ Rp K as F d u := by
  cases x with
  | obj C' fs =>
    unfold fldD at h
    simp only at h
    split at h
    · rename_i e
      subst e
      cases r with
      | obj ha rf =>
        obtain ⟨u, h1, h2⟩ := rf.look h
        exact ⟨_, _, _, u, rfl, I.ex _ _ ha, h1, h2⟩
    · cases h
  | cell k =>
    unfold fldD at h
    cases hS : S[k]? with
    | none => simp [hS] at h
    | some c =>
      cases c with
      | ob C' fs =>
        simp only [hS] at h
        split at h
        · rename_i e
          subst e
          cases r with
          | cell ha =>
            obtain ⟨z1, ob, z2, z3⟩ := I.cell k _ _ ha hS
            cases ob with
            | ins C2 dx vfs =>
              obtain ⟨e2, z3⟩ := z3
              subst e2
              obtain ⟨u, h1, h2⟩ := z3.look h
              exact ⟨_, dx, vfs, u, rfl, z2, h1, h2.mono (Ex.refl _) pre_nil⟩
            | _ => exact z3.elim
        · cases h
      | _ => simp [hS] at h
  | _ => cases h
theorem ge_fld (cl : Cls X.K C) (no : NoAttr X.K C f) (ha : GE X W e ea) (hb : attributeBase e f X.env (eval e X.env) = eval e X.env := by rfl) : GE X W (.Attribute e f pos) (eUn (fldD C f) ea) := by
  obtain ⟨t, pa, m⟩ := ha
  refine ⟨_, pe_fld pa hb, fun as F H S ρ σ I R q x h Q hq hx => ?_⟩
  refine m as F H S ρ σ I R _ x h _ (fun z S1 bs F1 H1 v h1 g r => ?_) hx
  obtain ⟨d, h3, h4⟩ := onS_ok h1
  obtain ⟨a, dx, vfs, u, rfl, ha, hl, ru⟩ := fld_at g.sit r h3
  exact ⟨a, C, dx, vfs, u, rfl, ha, cl, no, hl, hq d S1 bs F1 H1 u h4 g ru⟩
/-- is it an instance of the class at C -/
def isOb (C : Addr) (S : WS) : D → Prop
  | .obj C' _ => C' = C
  | .cell k => onS S[k]? fun c => onOb c fun C' _ => C' = C
  | _ => False
theorem isOb_at {K : PySem.W.Frag} {as : List Addr} {F H : Hp} {S : WS} {x : D} {v : V} (I : Sit K as F H S) (r : Rp K as F x v) (h : isOb C S x) : ∃ a dx vfs, v = .ref a ∧ H a = some (.ins C dx vfs) := by
  cases r with
  | obj ha rf =>
    have h : _ = C := h
    subst h
    exact ⟨_, _, _, rfl, I.ex _ _ ha⟩
  | cell ha =>
    obtain ⟨c, hS, h⟩ := onS_ok h
    cases c with
    | ob C' fs =>
      have h : C' = C := h
      subst h
      obtain ⟨z1, ob, z2, z3⟩ := I.cell _ _ _ ha hS
      cases ob with
      | ins C2 dx vfs =>
        obtain ⟨e2, z3⟩ := z3
        subst e2
        exact ⟨_, _, _, rfl, z2⟩
      | _ => exact z3.elim
    | _ => exact h.elim
  | _ => exact h.elim
/-- o.f, a property of the class at C, which raises nothing -/
def eProp (C : Addr) (G : List D → M) (ea : Env → M) : Env → M := fun ρ S q x => ea ρ S (fun d S1 => isOb C S1 d ∧ G [d] S1 q noX) x
theorem ge_prop {k j : Nat} {pr g : Addr} {fd : FuncData} {ps : List Str} {G : List D → M} (cl : Cls X.K C) (hp : PropOf X.K C f pr g) (Fn : FnX false X.prog X.w X.K X.mg X.base k g fd ps (spG X.K 1 G)) (hr : Room j X.A) (hj : k + 1 ≤ j) (hb : Binds X.K fd ps []) (ha : GE X W e ea)
    (hab : attributeBase e f X.env (eval e X.env) = eval e X.env := by rfl) : GE X W (.Attribute e f pos) (eProp C G ea) := by
  obtain ⟨t, pa, m⟩ := ha
  refine ⟨_, pe_prop (CX := L2N.CX X.prog X.w) (dvs := []) (E := fun _ _ _ => False) pa cl hp Fn.ok (hr.mono hj) hb .nil (fun pins σ H s e s' I c => ?_) hab, fun as F H S ρ σ I R q x h Q hq hx => ?_⟩
  · obtain ⟨a, B, H', cls, d, c⟩ := c
    exact c.2.2.2.2.2.2.2.elim
  · refine m as F H S ρ σ I R _ x h _ (fun z S1 bs F1 H1 v h1 g r => ?_) hx
    obtain ⟨a, dx, vfs, rfl, ha⟩ := isOb_at g.sit r h1.1
    exact ⟨a, dx, vfs, rfl, ha, bs, F1, S1, [z], q, noX, g.sit, .cons r .nil, rfl, h1.2, hq.step g, XQ.no⟩

/-! ### a cell's content changes -/
theorem Sit.put {K : PySem.W.Frag} {as : List Addr} {F H : Hp} {S : WS} {k : Nat} {p : Addr} {c c' : Cell} {o : HO} (I : Sit K as F H S) (ha : as[k]? = some p) (hS : S[k]? = some c) (hc : c.isHid = false) (hc' : c'.isHid = false) (ho : CellOf K F c' o) :
    Grow K as F H as F (upd H p o) (S.set k c') := by
  have z := I.cell k p c ha hS
  have fp : F p = none := z.out hc
  have hk : k < S.length := (List.getElem?_eq_some_iff.mp hS).1
  refine ⟨⟨by rw [List.length_set]; exact I.len, fun a u h => ?_, I.nd, fun i q c2 h1 h2 => ?_⟩, Pre.refl _, Ex.refl _, fun _ h => .inl h, fun _ h => .inl h, fun a u na h => ?_, fun a h => upd_there h⟩
  · have np : a ≠ p := fun z => by rw [z, fp] at h; cases h
    rw [upd_ne np]
    exact I.ex a u h
  · by_cases e : k = i
    · subst e
      rw [ha] at h1
      cases h1
      rw [List.getElem?_set_self hk] at h2
      cases h2
      exact ⟨fun _ => fp, o, upd_same, ho⟩
    · rw [List.getElem?_set_ne e] at h2
      have nq : q ≠ p := fun z => by
        subst z
        have hia : k < as.length := (List.getElem?_eq_some_iff.mp ha).1
        exact e ((List.getElem?_inj hia I.nd).mp (ha.trans h1.symm))
      obtain ⟨z1, ob, z2, z3⟩ := I.cell i q c2 h1 h2
      exact ⟨z1, ob, by rw [upd_ne nq]; exact z2, z3⟩
  · have np : a ≠ p := fun z => na (z ▸ List.mem_of_getElem? ha)
    rw [upd_ne np]
    exact h
def putD (f : Str) (d : D) : List (Str × D) → List (Str × D)
  | [] => [(f, d)]
  | (g, x) :: r => if g = f then (g, d) :: r else (g, x) :: putD f d r
theorem RpF.put {K : PySem.W.Frag} {as : List Addr} {F : Hp} {d : D} {v : V} (h : Rp K as F d v) : ∀ {fs : List (Str × D)} {vfs : List (Str × V)}, RpF K as F fs vfs → RpF K as F (putD f d fs) (putF f v vfs)
  | _, _, .nil => .cons h .nil
  | _, _, .cons (n := n) hd r => by
    unfold putD putF
    by_cases e : n = f
    · rw [if_pos e, if_pos e]
      exact .cons h r
    · rw [if_neg e, if_neg e]
      exact .cons hd (RpF.put h r)
theorem RpF.length {K : PySem.W.Frag} {as : List Addr} {F : Hp} : ∀ {fs : List (Str × D)} {vfs : List (Str × V)}, RpF K as F fs vfs → fs.length = vfs.length
  | _, _, .nil => rfl
  | _, _, .cons _ r => congrArg (· + 1) r.length
/-- o.f = e, o an instance that is a cell -/
def setFD (C : Addr) (f : Str) (d o : D) (S : WS) (q : WS → Prop) : Prop := onCe o fun k => onS S[k]? fun c => onOb c fun C' fs => (C' = C ∧ D.clean 0 d = true ∧ fs.length < 1000) ∧ q (S.set k (.ob C (putD f d fs)))
def sFldD (C : Addr) (f : Str) (eo ee : Env → M) : Env → MS := fun ρ S k => ee ρ S (fun d S1 => eo ρ S1 (fun o S2 => setFD C f d o S2 fun S3 => k.nx ρ S3) fun e S' => k.ex e ρ S') fun e S' => k.ex e ρ S'
theorem gs_fld {ppos : Pos} (cl : Cls X.K C) (no : NoAttr X.K C f) (ho : GE X W o ea) (he : GE X W e eb) (hs : swapsWith e (some (.Attribute o f ppos)) pos.line X.env = pure false := by rfl) : GS X W (.Assign [.Attribute o f ppos] e pos) (sFldD C f ea eb) := by
  obtain ⟨t, pt, mt⟩ := ho
  obtain ⟨u, pu, mu⟩ := he
  refine ⟨_, ps_fld pt pu hs, fun as F H S ρ σ I R k h E q => ?_⟩
  refine mu as F H S ρ σ I R _ _ h _ (fun y S1 bs F1 H1 v1 h1 g1 r1 => ?_) (q.xq R)
  refine mt bs F1 H1 S1 ρ σ g1.sit (R.grow g1) _ _ h1 _ (fun z S2 cs F2 H2 v2 h2 g2 r2 => ?_) ((q.step g1).xq (R.grow g1))
  cases r2 with
  | cell h0 =>
    obtain ⟨c, hS, h3⟩ := onS_ok h2
    cases c with
    | ob C' fs =>
      obtain ⟨⟨e1, hcl, hlen⟩, h3⟩ := h3
      subst e1
      obtain ⟨z1, ob, z2, z3⟩ := g2.sit.cell _ _ _ h0 hS
      cases ob with
      | ins C2 dx vfs =>
        obtain ⟨e2, z3⟩ := z3
        subst e2
        have r1' : Rp X.K [] F2 y v1 := (RpE_aux g2 r1).back (n := 0) (fun k a hk => absurd hk (by omega)) hcl
        have g3 := g2.sit.put (c' := .ob C2 (putD f y fs)) (o := .ins C2 dx (putF f v1 vfs)) h0 hS rfl rfl ⟨rfl, z3.put r1'⟩
        refine ⟨_, _, dx, vfs, rfl, z2, cl, no, by rw [← z3.length]; exact hlen, ?_⟩
        have g4 := (g1.trans g2).trans g3
        exact q.nx ρ _ cs _ _ σ h3 g4 (R.grow g4)
      | _ => exact z3.elim
    | _ => exact h3.elim
  | _ => exact h2.elim

/-! ### an instance made -/
def lkO (l : Lk) (C : Addr) (fs : List (Str × D)) (n : Nat) (S : WS) (q : D → WS → Prop) : Prop := match l with
  | .still => q (.obj C fs) (S.take n)
  | .new => q (.cell n) (S.take n ++ [.ob C fs])
/-- behind the __init__: the instance stands still, or is a cell -/
def finO (l : Lk) (C : Addr) (n : Nat) (d : D) (S : WS) (q : D → WS → Prop) : Prop := d = .non ∧ onS S[n]? fun c => onOb c fun C' fs => C' = C ∧ lkO l C fs n S q
def makeD (l : Lk) (C : Addr) (n : Nat) (G : List D → M) (ds : List D) (S : WS) (q : D → WS → Prop) (x : Xq) : Prop := ds.length + 1 = n ∧ G (.cell S.length :: ds) (S ++ [.ob C []]) (fun d S2 => finO l C S.length d S2 q) fun e S2 => finX S.length e S2 x
theorem make_ok {K : PySem.W.Frag} {as : List Addr} {F H : Hp} {S : WS} {n : Nat} {l : Lk} {G : List D → M} {ds : List D} {vs : List V} {q : D → WS → Prop} {x : Xq} {E : XK} {Q : VK} (I : Sit K as F H S) (r : RpL K as F ds vs) (h : makeD l C n G ds S q x)
    (hq : NQ K as F H q Q) (hx : XQ K as F H x E) (p dx : Addr) (hp : H p = none) (hdx : H dx = none) (ne : dx ≠ p) :
    spG K n G (.ref p :: vs) (upd (upd H dx (.own p)) p (.ins C dx [])) (fun v H2 => v = .non ∧ Q (.ref p) H2) E := by
  obtain ⟨hn, h⟩ := h
  have hH : ∀ a u, H a = some u → upd (upd H dx (.own p)) p (.ins C dx []) a = some u := fun a u e => by
    rw [upd_ne (ne_of_none e hp), upd_ne (ne_of_none e hdx)]
    exact e
  have np : p ∉ as := fun z => I.there z hp
  have I2 : Sit K (as ++ [p]) F (upd (upd H dx (.own p)) p (.ins C dx [])) (S ++ [.ob C []]) := sit_cell I np (I.out hp) (fun a u _ => hH a u) upd_same rfl ⟨rfl, .nil⟩
  have up : ∀ {bs : List Addr} {F1 H1 : Hp} {S2 : WS}, Grow K (as ++ [p]) F (upd (upd H dx (.own p)) p (.ins C dx [])) bs F1 H1 S2 → Grow K as F H bs F1 H1 S2 := fun {bs F1 H1 S2} g => by
    refine ⟨g.sit, pre_app.trans g.pre, g.ex, fun a ha => ?_, fun a ha => ?_, fun a u na e => ?_, fun a e => g.there a (upd_there (upd_there e))⟩
    · rcases g.new a ha with z | z
      · exact .inl z
      · by_cases e3 : a = p
        · subst e3
          exact .inr hp
        · rw [upd_ne e3] at z
          exact .inr (none_back (H1 := upd H dx (.own p)) (fun h => upd_there h) z)
    · rcases g.newc a ha with z | z
      · rcases List.mem_append.mp z with z | z
        · exact .inl z
        · rw [List.mem_singleton] at z
          subst z
          exact .inr hp
      · by_cases e3 : a = p
        · subst e3
          exact .inr hp
        · rw [upd_ne e3] at z
          exact .inr (none_back (H1 := upd H dx (.own p)) (fun h => upd_there h) z)
    · refine g.old a u (fun z => ?_) (hH a u e)
      rcases List.mem_append.mp z with z | z
      · exact na z
      · rw [List.mem_singleton] at z
        subst z
        rw [hp] at e
        cases e
  refine ⟨as ++ [p], F, S ++ [.ob C []], .cell S.length :: ds, _, _, I2, .cons (.cell (by rw [← I.len]; simp)) (r.mono (Ex.refl _) pre_app), by rw [List.length_cons]; exact hn, h, fun d S2 bs F1 H1 v hd g rv => ?_, fun e S2 bs F1 H1 cls dd he g rx => finX_ok I hx (up g) rx he⟩
  obtain ⟨e1, h2⟩ := hd
  subst e1
  cases rv
  refine ⟨rfl, ?_⟩
  obtain ⟨c, hS, h3⟩ := onS_ok h2
  cases c with
  | ob C' fs =>
    obtain ⟨e2, h3⟩ := h3
    subst e2
    have ha : bs[S.length]? = some p := g.pre _ _ (by rw [← I.len]; simp)
    have gu := up g
    cases l with
    | still =>
      obtain ⟨z1, ob, z2, z3⟩ := g.sit.cell S.length p _ ha hS
      cases ob with
      | ins C2 dx2 vfs =>
        obtain ⟨e2, z3⟩ := z3
        subst e2
        have fx : F1 p = none := z1 rfl
        have gd := gu.drop I.nd
        rw [I.len] at gd
        refine hq _ _ as (upd F1 p (.ins C2 dx2 vfs)) H1 (.ref p) h3 ⟨gd.sit.freeze fx np z2, Pre.refl _, gd.ex.trans (Ex.new fx), fun a ha => ?_, fun _ h => .inl h, gd.old, gd.there⟩ (.obj upd_same (RpF.mono (Ex.new fx) pre_nil z3))
        by_cases e3 : a = p
        · subst e3
          exact .inr hp
        · rw [upd_ne e3] at ha
          exact gd.new a ha
      | _ => exact z3.elim
    | new =>
      have g2 := gu.only I.nd (by rw [I.len]; exact Nat.le_refl _) ha hS
      rw [I.len] at g2
      refine hq _ _ _ F1 H1 _ h3 g2 (.cell ?_)
      rw [← I.len]
      simp
  | _ => exact h3.elim
section
variable {k j n : Nat} {fI : Addr} {fd : FuncData} {ps ks : List Str} {l : Lk} {G : List D → M} {dvs : List D} {dv : List V} {ds : List Value} {x : Str}
theorem run_makeX {sp : Sp} {pins : List (Addr × Obj)} {σ : L2.St} {H : Hp} {s : Shared} {Q : VK} {us : List Value} {vs : List V} (M : Mk X.K C fI) (Fn : FnX false X.prog X.w X.K X.mg X.base k fI fd ps sp) (hr : Room (k + 1) X.A) (hb : Binds X.K fd ps ds) (hd : Vals dv ds) (tk : L2N.Takes X W) (I : Inv X pins σ H s) (r : Vals vs us)
    (h : ∀ z dx, H z = none → H dx = none → dx ≠ z → sp (.ref z :: (vs ++ dv)) (upd (upd H dx (.own z)) z (.ins C dx [])) (fun v H2 => v = .non ∧ Q (.ref z) H2) (WE W σ)) :
    wpAny (model X.prog X.w) X.A (PySem.call (.ref C) us) (EP X pins σ Q) X.xe s := by
  have hq := h (s.heap.objs.size + 1) s.heap.objs.size (I.hok.fresh (Nat.le_succ _)) (I.hok.fresh (Nat.le_refl _)) (Nat.ne_of_lt (Nat.lt_succ_self _))
  have J := Inv.made (C := C) I
  have r2 : Vals (V.ref (s.heap.objs.size + 1) :: (vs ++ dv)) (Value.ref (s.heap.objs.size + 1) :: (us ++ ds)) := .cons rfl (r.append hd)
  have hl : (Value.ref (s.heap.objs.size + 1) :: us ++ ds).length = ps.length := r2.length.symm.trans (Fn.len _ _ _ _ hq)
  refine wpAny_call (make_map (f := fI) I.kIn M.makes M.init (beq_iff_eq.mp M.fn) ?_)
  refine codeAny_mono (Fn.ok.run _ X.stack _ _ _ _ _ _ (WE W σ) (hr.make C us []) (J.env0.make C us []) (hb _ _ J.kIn hl) r2 hq) fun r s' hz => ?_
  cases r with
  | error er => exact L2N.passAt tk σ pins _ _ er s' J hz
  | ok fl =>
    cases fl with
    | ret u =>
      obtain ⟨v, H', J3, rv, ev, q3⟩ := J.after hz
      subst ev
      exact ⟨rv, ⟨.ref _, H', J3, rfl, q3⟩⟩
    | next => exact hz.elim
    | brk => exact hz.elim
    | cont => exact hz.elim
def tMakeX (C : Addr) (sp : Sp) (dv : List V) (E : L2.St → XK) (t : TA) : TE := fun σ H Q => t σ H fun vs H1 => ∀ z dx, H1 z = none → H1 dx = none → dx ≠ z → sp (.ref z :: (vs ++ dv)) (upd (upd H1 dx (.own z)) z (.ins C dx [])) (fun v H2 => v = .non ∧ Q (.ref z) H2) (E σ)
def eMake (l : Lk) (C : Addr) (n : Nat) (G : List D → M) (dvs : List D) (er : Env → ML) : Env → M := fun ρ S q x => er ρ S (fun ds S1 => makeD l C n G (ds ++ dvs) S1 q x) x
theorem me_make {K : PySem.W.Frag} {t : TA} (hdv : ∀ as F, RpL K as F dvs dv) (m : MA K W t er) : ME K W (tMakeX C (spG K n G) dv (WE W) t) (eMake l C n G dvs er) := fun as F H S ρ σ I R q x h Q hq hx => by
  refine m as F H S ρ σ I R _ x h _ (fun ds S1 bs F1 H1 vs h1 g r => ?_) hx
  intro z dx hz hdx ne
  exact make_ok g.sit (r.append (hdv bs F1)) h1 (hq.step g) (hx.step g) z dx hz hdx ne
theorem ge_make (tk : L2N.Takes X W) (Mm : Mk X.K C fI) (Fn : FnX false X.prog X.w X.K X.mg X.base k fI fd ps (spG X.K n G)) (hr : Room j X.A) (hj : k + 1 ≤ j)
    (hm : X.mg x = some (.ref C)) (hb : Binds X.K fd ps ds) (hd : Vals dv ds) (hdv : ∀ as F, RpL X.K as F dvs dv) (ha : GA X W (e :: es) er) (hg : Gl X x := by rfl) (hdb : (x == ("__debug__" : Str)) = false := by decide)
    (h1 : starEach (e :: es) X.env = (false, eval e X.env) :: starEach es X.env := by rfl) (h2 : (backTo pos (starEach es X.env)).any (·.1) = false := by rfl) : GE X W (.Call (.Name x p) (e :: es) [] pos) (eMake l C n G dvs er) := by
  obtain ⟨t, pa, m⟩ := ha
  refine ⟨tMakeX C (spG X.K n G) dv (WE W) t, ⟨fun pins s σ H Q I h => ?_⟩, me_make hdv m⟩
  refine wpAny_Call_Name_kw (ld_glob I hg hm ?_ hdb)
  refine PySem.W.callWith_K (h₀ := X.base) I.ok.mod.kin Mm.kp (thn (pa.run pos pins s σ H _ I h) fun us s1 hh => ?_) h1 h2
  obtain ⟨vs, H1, I1, r1, q1⟩ := hh
  exact ⟨I1.kIn, run_makeX Mm Fn (hr.mono hj) hb hd tk I1 r1 q1⟩
/-- C() -/
theorem ge_make0 (tk : L2N.Takes X W) (Mm : Mk X.K C fI) (Fn : FnX false X.prog X.w X.K X.mg X.base k fI fd ps (spG X.K n G)) (hr : Room j X.A) (hj : k + 1 ≤ j)
    (hm : X.mg x = some (.ref C)) (hb : Binds X.K fd ps ds) (hd : Vals dv ds) (hdv : ∀ as F, RpL X.K as F dvs dv) (hg : Gl X x := by rfl) (hdb : (x == ("__debug__" : Str)) = false := by decide) : GE X W (.Call (.Name x p) [] [] pos) (eMake l C n G dvs aNil) := by
  refine ⟨tMakeX C (spG X.K n G) dv (WE W) tNil, ⟨fun pins s σ H Q I h => ?_⟩, me_make hdv ma_nil⟩
  refine wpAny_Call_Name_kw (ld_glob I hg hm ?_ hdb)
  exact PySem.W.callWith_K0 I.kIn Mm.kp (run_makeX (us := []) Mm Fn (hr.mono hj) hb hd tk I .nil h)
/-- C(e, .., k = v, ..): gD puts the values and the keywords' values in the parameters' order (without self) -/
def eMakeK (l : Lk) (C : Addr) (n m1 m2 : Nat) (G : List D → M) (gD : List D → List D → List D) (er ek : Env → ML) : Env → M := fun ρ S q x => er ρ S (fun ds S1 => ek ρ S1 (fun zs S2 => (ds.length = m1 ∧ zs.length = m2) ∧ makeD l C n G (gD ds zs) S2 q x) x) x
def tMakeKX (C : Addr) (m1 m2 : Nat) (sp : Sp) (gV : List V → List V → List V) (E : L2.St → XK) (t u : TA) : TE := fun σ H Q => t σ H fun vs H1 => u σ H1 fun ws H2 => (vs.length = m1 ∧ ws.length = m2) ∧ ∀ z dx, H2 z = none → H2 dx = none → dx ≠ z → sp (gV (.ref z :: vs) ws) (upd (upd H2 dx (.own z)) z (.ins C dx [])) (fun v H3 => v = .non ∧ Q (.ref z) H3) (E σ)
theorem run_makeKX {sp : Sp} {m1 : Nat} {g : List Value → List Value → List Value} {gV : List V → List V → List V} {pins : List (Addr × Obj)} {σ : L2.St} {H : Hp} {s : Shared} {Q : VK} {us ws : List Value} {vs zs : List V} (M : Mk X.K C fI) (Fn : FnX false X.prog X.w X.K X.mg X.base k fI fd ps sp) (hr : Room (k + 1) X.A) (hb : KBn X.K fd ps (m1 + 1) ks g gV) (tk : L2N.Takes X W) (I : Inv X pins σ H s) (r : Vals vs us) (rz : Vals zs ws) (l1 : vs.length = m1) (l2 : zs.length = ks.length)
    (h : ∀ z dx, H z = none → H dx = none → dx ≠ z → sp (gV (.ref z :: vs) zs) (upd (upd H dx (.own z)) z (.ins C dx [])) (fun v H2 => v = .non ∧ Q (.ref z) H2) (WE W σ)) :
    wpAny (model X.prog X.w) X.A (PySem.call (.ref C) us (ks.zip ws)) (EP X pins σ Q) X.xe s := by
  have hq := h (s.heap.objs.size + 1) s.heap.objs.size (I.hok.fresh (Nat.le_succ _)) (I.hok.fresh (Nat.le_refl _)) (Nat.ne_of_lt (Nat.lt_succ_self _))
  have J := Inv.made (C := C) I
  have r1 : Vals (V.ref (s.heap.objs.size + 1) :: vs) (Value.ref (s.heap.objs.size + 1) :: us) := .cons rfl r
  have e1 : (Value.ref (s.heap.objs.size + 1) :: us).length = m1 + 1 := by rw [← r1.length, List.length_cons, l1]
  have e2 : ws.length = ks.length := by rw [← rz.length, l2]
  refine wpAny_call (make_map (f := fI) I.kIn M.makes M.init (beq_iff_eq.mp M.fn) ?_)
  refine codeAny_mono (Fn.ok.run _ X.stack _ _ _ _ _ _ (WE W σ) (hr.make C us _) (J.env0.make C us _) (hb.to _ _ ws J.kIn e1 e2) (hb.rel r1 rz) hq) fun r s' hz => ?_
  cases r with
  | error er => exact L2N.passAt tk σ pins _ _ er s' J hz
  | ok fl =>
    cases fl with
    | ret u =>
      obtain ⟨v, H', J3, rv, ev, q3⟩ := J.after hz
      subst ev
      exact ⟨rv, ⟨.ref _, H', J3, rfl, q3⟩⟩
    | next => exact hz.elim
    | brk => exact hz.elim
    | cont => exact hz.elim
theorem me_makeK {K : PySem.W.Frag} {m1 m2 : Nat} {gV : List V → List V → List V} {gD : List D → List D → List D} {t u : TA} (hgD : ∀ as F (ds zs : List D) (vs ws : List V) (s : V), RpL K as F ds vs → RpL K as F zs ws → ds.length = m1 → zs.length = m2 → ∃ us, gV (s :: vs) ws = s :: us ∧ RpL K as F (gD ds zs) us)
    (m : MA K W t er) (mk : MA K W u ek) : ME K W (tMakeKX C m1 m2 (spG K n G) gV (WE W) t u) (eMakeK l C n m1 m2 G gD er ek) := fun as F H S ρ σ I R q x h Q hq hx => by
  refine m as F H S ρ σ I R _ x h _ (fun ds S1 bs F1 H1 vs h1 g1 r1 => ?_) hx
  refine mk bs F1 H1 S1 ρ σ g1.sit (R.grow g1) _ x h1 _ (fun zs S2 cs F2 H2 ws h2 g2 r2 => ?_) (hx.step g1)
  refine ⟨⟨r1.length.symm.trans h2.1.1, r2.length.symm.trans h2.1.2⟩, fun z dx hz hdx ne => ?_⟩
  obtain ⟨us, e1, r3⟩ := hgD cs F2 ds zs vs ws (.ref z) (r1.mono g2.ex g2.pre) r2 h2.1.1 h2.1.2
  rw [e1]
  exact make_ok g2.sit r3 h2.2 ((hq.step g1).step g2) ((hx.step g1).step g2) z dx hz hdx ne
theorem ge_makeK {m1 : Nat} {g : List Value → List Value → List Value} {gV : List V → List V → List V} {gD : List D → List D → List D} {kws : List Keyword} (tk : L2N.Takes X W) (Mm : Mk X.K C fI) (Fn : FnX false X.prog X.w X.K X.mg X.base k fI fd ps (spG X.K n G)) (hr : Room j X.A) (hj : k + 1 ≤ j)
    (hm : X.mg x = some (.ref C)) (hb : KBn X.K fd ps (m1 + 1) ks g gV) (hgD : ∀ as F (ds zs : List D) (vs ws : List V) (s : V), RpL X.K as F ds vs → RpL X.K as F zs ws → ds.length = m1 → zs.length = ks.length → ∃ us, gV (s :: vs) ws = s :: us ∧ RpL X.K as F (gD ds zs) us) (ha : GA X W (e :: es) er) (hk : GK X W kws ek) (hg : Gl X x := by rfl)
    (hall : (backToKw pos (keywordEach kws X.env)).all (·.1.isSome) = true := by rfl) (hks : (backToKw pos (keywordEach kws X.env)).filterMap (·.1) = ks := by rfl) (hdb : (x == ("__debug__" : Str)) = false := by decide)
    (he : starEach (e :: es) X.env = (false, eval e X.env) :: starEach es X.env := by rfl) (hpl : ((backTo pos (starEach (e :: es) X.env)).any (·.1) || (backToKw pos (keywordEach kws X.env)).any (·.1.isNone)) = false := by rfl) :
    GE X W (.Call (.Name x p) (e :: es) kws pos) (eMakeK l C n m1 ks.length G gD er ek) := by
  obtain ⟨t, pa, m⟩ := ha
  obtain ⟨u, pk, mk⟩ := hk
  refine ⟨tMakeKX C m1 ks.length (spG X.K n G) gV (WE W) t u, ⟨fun pins s σ H Q I h => ?_⟩, me_makeK hgD m mk⟩
  refine wpAny_Call_Name_kw (ld_glob I hg hm ?_ hdb)
  refine PySem.W.callWith_KW (h₀ := X.base) I.ok.mod.kin Mm.kp hall (thn (pa.run pos pins s σ H _ I h) fun us s1 hh => ?_) hpl he
  obtain ⟨vs, H1, I1, r, q1⟩ := hh
  refine thn (pk.run pos pins s1 σ H1 _ I1 q1) fun ws s2 hh2 => ?_
  obtain ⟨zs, H2, I2, rz, ll, q2⟩ := hh2
  refine ⟨I2.kIn, ?_⟩
  rw [hks]
  exact run_makeKX Mm Fn (hr.mono hj) hb tk I2 r rz ll.1 ll.2 q2
theorem ge_makeK0 {g : List Value → List Value → List Value} {gV : List V → List V → List V} {gD : List D → List D → List D} {kws : List Keyword} (tk : L2N.Takes X W) (Mm : Mk X.K C fI) (Fn : FnX false X.prog X.w X.K X.mg X.base k fI fd ps (spG X.K n G)) (hr : Room j X.A) (hj : k + 1 ≤ j)
    (hm : X.mg x = some (.ref C)) (hb : KBn X.K fd ps 1 ks g gV) (hgD : ∀ as F (ds zs : List D) (vs ws : List V) (s : V), RpL X.K as F ds vs → RpL X.K as F zs ws → ds.length = 0 → zs.length = ks.length → ∃ us, gV (s :: vs) ws = s :: us ∧ RpL X.K as F (gD ds zs) us) (hk : GK X W kws ek) (hg : Gl X x := by rfl)
    (hall : (backToKw pos (keywordEach kws X.env)).all (·.1.isSome) = true := by rfl) (hks : (backToKw pos (keywordEach kws X.env)).filterMap (·.1) = ks := by rfl) (hdb : (x == ("__debug__" : Str)) = false := by decide)
    (hpl : ((backTo pos (starEach [] X.env)).any (·.1) || (backToKw pos (keywordEach kws X.env)).any (·.1.isNone)) = false := by rfl) :
    GE X W (.Call (.Name x p) [] kws pos) (eMakeK l C n 0 ks.length G gD aNil ek) := by
  obtain ⟨u, pk, mk⟩ := hk
  refine ⟨tMakeKX C 0 ks.length (spG X.K n G) gV (WE W) tNil u, ⟨fun pins s σ H Q I h => ?_⟩, me_makeK hgD ma_nil mk⟩
  refine wpAny_Call_Name_kw (ld_glob I hg hm ?_ hdb)
  refine PySem.W.callWith_KW0 (h₀ := X.base) I.ok.mod.kin Mm.kp hall (thn (pk.run pos pins s σ H _ I h) fun ws s2 hh2 => ?_) hpl
  obtain ⟨zs, H2, I2, rz, ll, q2⟩ := hh2
  refine ⟨I2.kIn, ?_⟩
  rw [hks]
  exact run_makeKX (us := []) (vs := []) Mm Fn (hr.mono hj) hb tk I2 .nil rz ll.1 ll.2 q2
end
end
end RV
end
section
/-! Operations on data. -/
namespace RV
open PySem L2
section
variable {K : PySem.W.Frag} {as : List Addr} {F H : Hp} {S : WS}
/-- nothing new comes: the value itself -/
theorem keep {S : WS} {Q : VK} {d : D} {v : V} (I : Sit K as F H S) (q : ∀ F' H' v, Grow K as F H as F' H' S → Rp K as F' d v → Q v H') (r : Rp K as F d v) : Q v H := q F H v (Grow.refl I) r
theorem fresh {Q : VK} {o : HO} {d : D} (I : Sit K as F H S) (q : ∀ F' H' v, Grow K as F H as F' H' S → Rp K as F' d v → Q v H') (r : ∀ p, Rp K as (upd F p o) d (.ref p)) : ∀ p, H p = none → Q (.ref p) (upd H p o) := fun p hp => q _ _ _ (I.grow hp) (r p)
/-! ### numbers -/
def intD (f : Int → Int → Int) : WS → D → D → Option D := fun _ x y => match x, y with
  | .int i, .int j => some (.int (f i j))
  | _, _ => none
def cmpD (f : Int → Int → Bool) : WS → D → D → Option D := fun _ x y => match x, y with
  | .int i, .int j => some (.bl (f i j))
  | _, _ => none
theorem ro_int {f : Int → Int → Int} : RO K (rI0 fun i j => .int (f i j)) (intD f) := fun as F H S x y d vx vy I rx ry h Q q => by
  unfold intD at h
  split at h
  · cases h
    cases rx
    cases ry
    exact ⟨_, _, rfl, rfl, keep I q (.int _)⟩
  · cases h
theorem ro_cmp {f : Int → Int → Bool} : RO K (rI0 fun i j => .bl (f i j)) (cmpD f) := fun as F H S x y d vx vy I rx ry h Q q => by
  unfold cmpD at h
  split at h
  · cases h
    cases rx
    cases ry
    exact ⟨_, _, rfl, rfl, keep I q (.bl _)⟩
  · cases h
/-- under a condition that can be told -/
def intCD (c : Int → Int → Bool) (f : Int → Int → Int) : WS → D → D → Option D := fun _ x y => match x, y with
  | .int i, .int j => if c i j = true then some (.int (f i j)) else none
  | _, _ => none
theorem ro_intC {C : Int → Int → Prop} {c : Int → Int → Bool} {f : Int → Int → Int} (hc : ∀ i j, c i j = true → C i j) : RO K (rI C fun i j => .int (f i j)) (intCD c f) := fun as F H S x y d vx vy I rx ry h Q q => by
  unfold intCD at h
  split at h
  · split at h
    · rename_i hh
      cases h
      cases rx
      cases ry
      exact ⟨_, _, rfl, rfl, hc _ _ hh, keep I q (.int _)⟩
    · cases h
  · cases h
theorem RO.or {r r' : R2} {f g : WS → D → D → Option D} (h : RO K r f) (h' : RO K r' g) : RO K (fun x y H Q => r x y H Q ∨ r' x y H Q) (fun S x y => (f S x y).orElse fun _ => g S x y) := fun as F H S x y d vx vy I rx ry e Q q => by
  replace e : ((f S x y).orElse fun _ => g S x y) = some d := e
  cases h1 : f S x y with
  | some z =>
    rw [h1] at e
    have e' : z = d := by simpa using e
    subst e'
    exact .inl (h as F H S x y z vx vy I rx ry h1 Q q)
  | none =>
    rw [h1] at e
    exact .inr (h' as F H S x y d vx vy I rx ry (by simpa using e) Q q)
def mulOk (i j : Int) : Bool := decide ((-(2 ^ 64) < i ∧ i < 2 ^ 64) ∨ (-(2 ^ 64) < j ∧ j < 2 ^ 64))
def powOk (i j : Int) : Bool := decide (0 ≤ j ∧ j ≤ 1000000 ∧ i.natAbs < 2 ^ 64)
theorem mulOk_c {i j : Int} (h : mulOk i j = true) : CMul i j := by
  unfold mulOk at h
  simp only [decide_eq_true_eq] at h
  exact h
theorem powOk_c {i j : Int} (h : powOk i j = true) : CPow i j := by
  unfold powOk at h
  simp only [decide_eq_true_eq] at h
  exact h
def posR (_ j : Int) : Bool := decide (0 < j)
def divOk (_ j : Int) : Bool := decide (0 < j ∧ j < 1073741824)
/-! ### texts -/
def catS : WS → D → D → Option D := fun _ x y => match x, y with
  | .str a, .str b => if small (a.length + b.length) = true then some (.str (a ++ b)) else none
  | _, _ => none
theorem ro_catS : RO K (fun x y H Q => ∃ i j, x = .str i ∧ y = .str j ∧ i.length + j.length ≤ sizeLine ∧ Q (.str (i ++ j)) H) catS := fun as F H S x y d vx vy I rx ry h Q q => by
  unfold catS at h
  split at h
  · split at h
    · rename_i hh
      cases h
      cases rx
      cases ry
      exact ⟨_, _, rfl, rfl, small_le hh, keep I q (.str _)⟩
    · cases h
  · cases h
/-- lists together -/
def catL : WS → D → D → Option D := fun _ x y => match x, y with
  | .lst a, .lst b => if small (a.length + b.length) = true then some (.lst (a ++ b)) else none
  | _, _ => none
theorem ro_catL : RO K rCat catL := fun as F H S x y d vx vy I rx ry h Q q => by
  unfold catL at h
  split at h
  · split at h
    · rename_i hh
      cases h
      cases rx with
      | lst h1 r1 =>
        cases ry with
        | lst h2 r2 =>
          refine ⟨_, _, _, _, rfl, rfl, I.ex _ _ h1, I.ex _ _ h2, by rw [← r1.length, ← r2.length]; exact small_le hh, fun p hp => ?_⟩
          refine q _ _ _ (I.grow hp) (.lst upd_same ((r1.append r2).mono (Ex.new (I.out hp)) (Pre.refl _)))
    · cases h
  · cases h
/-! ### an item -/
def ixD : WS → D → D → Option D := fun S x y => match x, y with
  | .lst ds, .int i => atI ds i
  | .tup ds, .int i => atI ds i
  | .str s, .int i => if small s.length = true then (atI s.cps.toList i).map fun c => .str ⟨#[c]⟩ else none
  | .cell k, .int i => match S[k]? with
    | some (.lst ds) => atI ds i
    | _ => none
  | .scr ns, .int i => (atI ns i).map D.int
  | _, _ => none
theorem atI_map {ns : List Int} {i n : Int} (h : L2.atI ns i = some n) : L2.atI (ns.map V.int) i = some (V.int n) := by
  unfold L2.atI at h ⊢
  rw [List.length_map]
  cases h1 : ixN ns.length i with
  | none => rw [h1] at h; cases h
  | some j =>
    rw [h1] at h
    simp only [Option.bind_some] at h ⊢
    rw [List.getElem?_map, h]
    rfl
theorem RpL.atI {ds : List D} {vs : List V} (r : RpL K as F ds vs) {i : Int} {d : D} (h : L2.atI ds i = some d) : ∃ v, L2.atI vs i = some v ∧ Rp K as F d v := by
  unfold L2.atI at h ⊢
  rw [← r.length]
  cases h1 : ixN ds.length i with
  | none => rw [h1] at h; cases h
  | some j =>
    rw [h1] at h
    simp only [Option.bind_some] at h ⊢
    exact r.get h
theorem ro_ix : RO K (rIx K) ixD := fun as F H S x y d vx vy I rx ry h Q q => by
  unfold ixD at h
  split at h
  · cases ry
    cases rx with
    | lst h1 r1 =>
      obtain ⟨v, e, rv⟩ := r1.atI h
      exact .inl ⟨_, _, _, v, rfl, rfl, SqL.of (I.ex _ _ h1), e, keep I q rv⟩
  · cases ry
    cases rx with
    | tup h1 r1 =>
      obtain ⟨v, e, rv⟩ := r1.atI h
      exact .inr (.inl ⟨_, _, _, v, rfl, rfl, I.ex.sqT h1, e, keep I q rv⟩)
  · split at h
    · rename_i hh
      cases ry
      cases rx
      rename_i s i
      cases h1 : atI s.cps.toList i with
      | none => rw [h1] at h; cases h
      | some c =>
        rw [h1] at h
        cases h
        exact .inr (.inr ⟨_, _, c, rfl, rfl, small_le hh, h1, keep I q (.str _)⟩)
    · cases h
  · rename_i k i
    split at h
    · rename_i ds hS
      cases ry
      cases rx with
      | cell ha =>
        obtain ⟨z1, ob, z2, z3⟩ := I.cell k _ _ ha hS
        cases ob with
        | lst xs =>
          obtain ⟨v, e, rv⟩ := RpL.atI (K := K) (as := []) (F := F) z3 h
          exact .inl ⟨_, _, _, v, rfl, rfl, SqL.of z2, e, keep I q (rv.mono (Ex.refl _) pre_nil)⟩
        | _ => exact z3.elim
    · cases h
  · simp only [Option.map_eq_some_iff] at h
    obtain ⟨n, h1, rfl⟩ := h
    cases ry
    cases rx with
    | scr hs => exact .inl ⟨_, _, _, _, rfl, rfl, I.ex.sqL hs, atI_map h1, keep I q (.int n)⟩
  · cases h
/-! ### in -/
def flatD : D → Bool
  | .non => true
  | .bl _ => true
  | .int _ => true
  | .str _ => true
  | _ => false
def eqFl : D → D → Bool
  | .non, .non => true
  | .bl a, .bl b => a == b
  | .bl a, .int b => (if a then 1 else 0) == b
  | .int a, .bl b => a == (if b then 1 else 0)
  | .int a, .int b => a == b
  | .str a, .str b => a == b
  | _, _ => false
theorem flat_v {d : D} {v : V} (r : Rp K as F d v) (h : flatD d = true) : flatV v = true := by
  cases r <;> first | rfl | cases h
theorem flat_all : ∀ {ds : List D} {vs : List V}, RpL K as F ds vs → ds.all flatD = true → vs.all flatV = true
  | _, _, .nil, _ => rfl
  | _, _, .cons h r, e => by
    simp only [List.all_cons, Bool.and_eq_true] at e ⊢
    exact ⟨flat_v h e.1, flat_all r e.2⟩
theorem eqFl_v {d e : D} {v u : V} (r : Rp K as F d v) (s : Rp K as F e u) (hd : flatD d = true) (he : flatD e = true) : eqV v u = eqFl d e := by
  cases r <;> first | (cases hd; done) | (cases s <;> first | rfl | (cases he; done))
theorem any_v {x : D} {vx : V} (rx : Rp K as F x vx) (hx : flatD x = true) : ∀ {ds : List D} {vs : List V}, RpL K as F ds vs → ds.all flatD = true → inV vx vs = ds.any fun y => eqFl y x
  | _, _, .nil, _ => rfl
  | _, _, .cons h r, e => by
    simp only [List.all_cons, Bool.and_eq_true] at e
    have ih := any_v rx hx r e.2
    unfold inV at ih ⊢
    simp only [List.any_cons, ih, eqFl_v h rx e.1 hx]
def itemsD (S : WS) : D → Option (List D)
  | .lst ds => some ds
  | .tup ds => some ds
  | .scr ns => some (ns.map D.int)
  | .cell k => match S[k]? with
    | some (.lst ds) => some ds
    | _ => none
  | _ => none
theorem items_v {x : D} {v : V} {ds : List D} (I : Sit K as F H S) (r : Rp K as F x v) (h : itemsD S x = some ds) : ∃ a xs, v = .ref a ∧ (SqL K H a xs ∨ SqT K H a xs) ∧ RpL K as F ds xs := by
  cases x with
  | lst ds' =>
    cases h
    cases r with
    | lst h1 r1 => exact ⟨_, _, rfl, .inl (SqL.of (I.ex _ _ h1)), r1⟩
  | tup ds' =>
    cases h
    cases r with
    | tup h1 r1 => exact ⟨_, _, rfl, .inr (I.ex.sqT h1), r1⟩
  | scr ns =>
    cases h
    cases r with
    | scr h1 => exact ⟨_, _, rfl, .inl (I.ex.sqL h1), rpl_ints ns⟩
  | cell k =>
    unfold itemsD at h
    cases hS : S[k]? with
    | none => simp [hS] at h
    | some c =>
      cases c with
      | lst es =>
        simp only [hS] at h
        cases h
        cases r with
        | cell ha =>
          obtain ⟨z1, ob, z2, z3⟩ := I.cell k _ _ ha hS
          cases ob with
          | lst xs => exact ⟨_, _, rfl, .inl (SqL.of z2), RpL.mono (Ex.refl _) pre_nil z3⟩
          | _ => exact z3.elim
      | _ => simp [hS] at h
  | _ => cases h
def inD (neg : Bool) : WS → D → D → Option D := fun S x y => (itemsD S y).bind fun ds => if flatD x = true ∧ ds.all flatD = true then some (.bl (if neg then !ds.any (fun y => eqFl y x) else ds.any fun y => eqFl y x)) else none
theorem ro_in {neg : Bool} : RO K (rIn K neg) (inD neg) := fun as F H S x y d vx vy I rx ry h Q q => by
  unfold inD at h
  cases h1 : itemsD S y with
  | none => rw [h1] at h; cases h
  | some ds =>
    simp only [h1, Option.bind_some] at h
    split at h
    · rename_i hh
      cases h
      obtain ⟨a, xs, rfl, hs, r⟩ := items_v I ry h1
      refine ⟨a, xs, rfl, hs, flat_v rx hh.1, flat_all r hh.2, ?_⟩
      rw [any_v rx hh.1 r hh.2]
      exact keep I q (.bl _)
    · cases h
/-- one sign in a text -/
def inSD (neg : Bool) : WS → D → D → Option D := fun _ x y => match x, y with
  | .str s, .str z => match s.cps.toList with
    | [c] => some (.bl (if neg then !decide (c ∈ z.cps.toList) else decide (c ∈ z.cps.toList)))
    | _ => none
  | _, _ => none
theorem one_sign {s : Str} {c : Nat} (h : s.cps.toList = [c]) : s = ⟨#[c]⟩ := by
  obtain ⟨a⟩ := s
  have : a = #[c] := by
    apply Array.ext'
    simpa using h
  rw [this]
theorem ro_inS : RO K (fun x y H Q => ∃ (c : Nat) (z : Str), x = .str ⟨#[c]⟩ ∧ y = .str z ∧ Q (.bl (decide (c ∈ z.cps.toList))) H) (inSD false) := fun as F H S x y d vx vy I rx ry h Q q => by
  unfold inSD at h
  split at h
  · split at h
    · rename_i hc
      cases h
      cases rx
      cases ry
      rw [one_sign hc]
      exact ⟨_, _, rfl, rfl, keep I q (.bl _)⟩
    · cases h
  · cases h
theorem ro_notInS : RO K (fun x y H Q => ∃ (c : Nat) (z : Str), x = .str ⟨#[c]⟩ ∧ y = .str z ∧ Q (.bl (!decide (c ∈ z.cps.toList))) H) (inSD true) := fun as F H S x y d vx vy I rx ry h Q q => by
  unfold inSD at h
  split at h
  · split at h
    · rename_i hc
      cases h
      cases rx
      cases ry
      rw [one_sign hc]
      exact ⟨_, _, rfl, rfl, keep I q (.bl _)⟩
    · cases h
  · cases h
/-! ### == of data -/
mutual
def D.py : D → Option PyData
  | .non => some .none
  | .bl b => some (.bool b)
  | .int i => some (.int i)
  | .str s => some (.str s)
  | .tup ds => (D.pyL ds).map PyData.tuple
  | .lst ds => (D.pyL ds).map PyData.list
  | .ty _ | .adr _ | .cell _ | .scr _ | .obj _ _ | .dic _ | .exc _ _ => none
def D.pyL : List D → Option (List PyData)
  | [] => some []
  | d :: ds => (D.py d).bind fun a => (D.pyL ds).map fun b => a :: b
end
mutual
theorem Rp.dp (I : Ex F H) : ∀ {d : D} {v : V} {p : PyData}, Rp K as F d v → D.py d = some p → Dp K H v p
  | _, _, _, .non, h => by
    unfold D.py at h
    cases h
    exact .non
  | _, _, _, .bl b, h => by
    unfold D.py at h
    cases h
    exact .bl b
  | _, _, _, .int i, h => by
    unfold D.py at h
    cases h
    exact .int i
  | _, _, _, .str s, h => by
    unfold D.py at h
    cases h
    exact .str s
  | _, _, _, .ty n, h => by unfold D.py at h; cases h
  | _, _, _, .adr a, h => by unfold D.py at h; cases h
  | _, _, _, .cell _, h => by unfold D.py at h; cases h
  | _, _, _, .scr _, h => by unfold D.py at h; cases h
  | _, _, _, .obj _ _, h => by unfold D.py at h; cases h
  | _, _, _, .dic _ _, h => by unfold D.py at h; cases h
  | _, _, _, .tup h1 r, h => by
    unfold D.py at h
    simp only [Option.map_eq_some_iff] at h
    obtain ⟨ps, h2, rfl⟩ := h
    exact .tup (I.sqT h1) (RpL.dp I r h2)
  | _, _, _, .lst h1 r, h => by
    unfold D.py at h
    simp only [Option.map_eq_some_iff] at h
    obtain ⟨ps, h2, rfl⟩ := h
    exact .lst (SqL.of (I _ _ h1)) (RpL.dp I r h2)
theorem RpL.dp (I : Ex F H) : ∀ {ds : List D} {vs : List V} {ps : List PyData}, RpL K as F ds vs → D.pyL ds = some ps → DpAll K H vs ps
  | _, _, _, .nil, h => by
    unfold D.pyL at h
    cases h
    exact .nil
  | _, _, _, .cons hd r, h => by
    unfold D.pyL at h
    simp only [Option.bind_eq_some_iff, Option.map_eq_some_iff] at h
    obtain ⟨a, h1, b, h2, rfl⟩ := h
    exact .cons (Rp.dp I hd h1) (RpL.dp I r h2)
end
def eqPy (x y : D) : Option Bool := (D.py x).bind fun a => (D.py y).bind fun b => if SeqAt.shaped a = true ∧ SeqAt.shaped b = true then some (PyData.eqv a b) else none
theorem ro_eqD : RO K (rEqD K) (fun _ x y => (eqPy x y).map D.bl) := fun as F H S x y d vx vy I rx ry h Q q => by
  unfold eqPy at h
  simp only [Option.map_eq_some_iff, Option.bind_eq_some_iff] at h
  obtain ⟨c, ⟨a, h1, b, h2, h3⟩, rfl⟩ := h
  split at h3
  · rename_i hs
    cases h3
    exact ⟨a, b, rx.dp I.ex h1, ry.dp I.ex h2, hs.1, hs.2, keep I q (.bl _)⟩
  · cases h3
theorem ro_neD : RO K (rNeD K) (fun _ x y => (eqPy x y).map fun c => D.bl (!c)) := fun as F H S x y d vx vy I rx ry h Q q => by
  unfold eqPy at h
  simp only [Option.map_eq_some_iff, Option.bind_eq_some_iff] at h
  obtain ⟨c, ⟨a, h1, b, h2, h3⟩, rfl⟩ := h
  split at h3
  · rename_i hs
    cases h3
    exact ⟨a, b, rx.dp I.ex h1, ry.dp I.ex h2, hs.1, hs.2, keep I q (.bl _)⟩
  · cases h3
/-- two texts, two numbers, two bools -/
def eqScal : D → D → Option Bool
  | .str a, .str b => some (decide (a = b))
  | .int a, .int b => some (decide (a = b))
  | .bl a, .bl b => some (decide (a = b))
  | _, _ => none
theorem dec_of {α β : Type} [DecidableEq α] [DecidableEq β] {a b : α} {f : α → β} (hf : ∀ x y, f x = f y → x = y) : decide (f a = f b) = decide (a = b) := by
  by_cases h : a = b
  · subst h
    simp
  · rw [decide_eq_false h, decide_eq_false fun z => h (hf _ _ z)]
theorem ro_eqS : RO K rEq (fun _ x y => (eqScal x y).map D.bl) := fun as F H S x y d vx vy I rx ry h Q q => by
  replace h : (eqScal x y).map D.bl = some d := h
  unfold eqScal at h
  split at h
  · cases h
    cases rx
    cases ry
    refine ⟨rfl, ?_⟩
    rw [dec_of (f := V.str) fun x y e => by cases e; rfl]
    exact keep I q (.bl _)
  · cases h
    cases rx
    cases ry
    refine ⟨rfl, ?_⟩
    rw [dec_of (f := V.int) fun x y e => by cases e; rfl]
    exact keep I q (.bl _)
  · cases h
    cases rx
    cases ry
    refine ⟨rfl, ?_⟩
    rw [dec_of (f := V.bl) fun x y e => by cases e; rfl]
    exact keep I q (.bl _)
  · cases h
theorem ro_neS : RO K rNe (fun _ x y => (eqScal x y).map fun c => D.bl (!c)) := fun as F H S x y d vx vy I rx ry h Q q => by
  replace h : ((eqScal x y).map fun c => D.bl (!c)) = some d := h
  unfold eqScal at h
  split at h
  · cases h
    cases rx
    cases ry
    refine ⟨rfl, ?_⟩
    rw [dec_of (f := V.str) fun x y e => by cases e; rfl]
    exact keep I q (.bl _)
  · cases h
    cases rx
    cases ry
    refine ⟨rfl, ?_⟩
    rw [dec_of (f := V.int) fun x y e => by cases e; rfl]
    exact keep I q (.bl _)
  · cases h
    cases rx
    cases ry
    refine ⟨rfl, ?_⟩
    rw [dec_of (f := V.bl) fun x y e => by cases e; rfl]
    exact keep I q (.bl _)
  · cases h
/-! ### built-ins -/
def lenD : WS → List D → Option D := fun S xs => match xs with
  | [.str s] => if small s.length = true then some (.int (s.length : Nat)) else none
  | [x] => (itemsD S x).map fun ds => .int (ds.length : Nat)
  | _ => none
theorem rc_len : RC K (fun xs H Q => ∃ x n, xs = [x] ∧ LenV K x H n ∧ Q (.int n) H) lenD := fun as F H S ds d vs I r h Q q => by
  unfold lenD at h
  split at h
  · split at h
    · rename_i hh
      cases h
      obtain ⟨v, ws, rfl, rv, rn⟩ := r.unsn
      obtain rfl := rn.unnil
      cases rv
      exact ⟨_, _, rfl, ⟨small_le hh, rfl⟩, keep I q (.int _)⟩
    · cases h
  · simp only [Option.map_eq_some_iff] at h
    obtain ⟨es, h1, rfl⟩ := h
    obtain ⟨v, ws, rfl, rv, rn⟩ := r.unsn
    obtain rfl := rn.unnil
    obtain ⟨a, xs, rfl, hs, rl⟩ := items_v I rv h1
    refine ⟨_, es.length, rfl, ?_, keep I q (.int _)⟩
    rcases hs with hs | hs
    · exact .inl ⟨_, hs, rl.length⟩
    · exact .inr ⟨_, hs, rl.length⟩
  · cases h
def boolsD : List D → Option (List Bool)
  | [] => some []
  | .bl b :: r => (boolsD r).map fun t => b :: t
  | _ => none
theorem bools_v : ∀ {ds : List D} {vs : List V} {bs : List Bool}, RpL K as F ds vs → boolsD ds = some bs → vs = bs.map V.bl
  | _, _, bs, .nil, h => by
    unfold boolsD at h
    cases h
    rfl
  | _, _, bs, .cons (d := d) hd r, h => by
    cases hd with
    | bl b =>
      unfold boolsD at h
      simp only [Option.map_eq_some_iff] at h
      obtain ⟨t, h1, rfl⟩ := h
      rw [bools_v r h1]
      rfl
    | _ => cases h
def allD : WS → List D → Option D := fun _ xs => match xs with
  | [.lst ds] => (boolsD ds).map fun bs => .bl (bs.all id)
  | _ => none
def anyD : WS → List D → Option D := fun _ xs => match xs with
  | [.lst ds] => (boolsD ds).map fun bs => .bl (bs.any id)
  | _ => none
theorem rc_all : RC K (rAll K) allD := fun as F H S ds d vs I r h Q q => by
  unfold allD at h
  split at h
  · simp only [Option.map_eq_some_iff] at h
    obtain ⟨bs, h1, rfl⟩ := h
    obtain ⟨v, ws, rfl, rv, rn⟩ := r.unsn
    obtain rfl := rn.unnil
    cases rv with
    | lst h2 rl =>
      have e := bools_v rl h1
      subst e
      exact ⟨_, bs, rfl, SqL.of (I.ex _ _ h2), keep I q (.bl _)⟩
  · cases h
theorem rc_any : RC K (rAny K) anyD := fun as F H S ds d vs I r h Q q => by
  unfold anyD at h
  split at h
  · simp only [Option.map_eq_some_iff] at h
    obtain ⟨bs, h1, rfl⟩ := h
    obtain ⟨v, ws, rfl, rv, rn⟩ := r.unsn
    obtain rfl := rn.unnil
    cases rv with
    | lst h2 rl =>
      have e := bools_v rl h1
      subst e
      exact ⟨_, bs, rfl, SqL.of (I.ex _ _ h2), keep I q (.bl _)⟩
  · cases h
/-! ### slices -/
def RSl (K : PySem.W.Frag) (r : V → Option Int → Option Int → Hp → VK → Prop) (f : WS → D → Option Int → Option Int → Option D) : Prop := ∀ (as : List Addr) (F H : Hp) (S : WS) (x d : D) (vx : V) (lo hi : Option Int), Sit K as F H S → Rp K as F x vx → f S x lo hi = some d →
  ∀ Q : VK, (∀ F' H' v, Grow K as F H as F' H' S → Rp K as F' d v → Q v H') → r vx lo hi H Q
def slS : WS → D → Option Int → Option Int → Option D := fun _ x lo hi => match x with
  | .str z => if small z.length = true then some (.str (cutS z lo hi)) else none
  | _ => none
theorem rsl_str : RSl K rSlS slS := fun as F H S x d vx lo hi I rx h Q q => by
  unfold slS at h
  split at h
  · split at h
    · rename_i hh
      cases h
      cases rx
      exact ⟨_, rfl, small_le hh, keep I q (.str _)⟩
    · cases h
  · cases h
def cutD (ds : List D) (lo hi : Option Int) : List D := (ds.drop (HT.sIx ds.length 0 lo)).take (HT.sIx ds.length ds.length hi - HT.sIx ds.length 0 lo)
def slL : WS → D → Option Int → Option Int → Option D := fun S x lo hi => match x with
  | .lst ds => some (.lst (cutD ds lo hi))
  | _ => none
theorem rsl_lst : RSl K (rSlL K) slL := fun as F H S x d vx lo hi I rx h Q q => by
  unfold slL at h
  split at h
  · cases h
    cases rx with
    | lst h1 r1 =>
      refine ⟨_, _, rfl, SqL.of (I.ex _ _ h1), fun p hp => ?_⟩
      refine q _ _ _ (I.grow hp) (.lst upd_same ?_)
      unfold cutD cutV
      rw [r1.length]
      exact ((r1.drop _).take _).mono (Ex.new (I.out hp)) (Pre.refl _)
  · cases h
end
section
variable {X : Cx} {W : WX} {e : Expr} {pos : Pos} {ea : Env → M}
abbrev MO := WS → (Option Int → WS → Prop) → Xq → Prop
structure GO (X : Cx) (W : WX) (e : Option Expr) (m : Env → MO) : Prop where
  ex : ∃ t : TO, PO X e t ∧ ∀ (as : List Addr) (F H : Hp) (S : WS) (ρ : Env) (σ : L2.St), Sit X.K as F H S → RpE X.K as F ρ σ → ∀ q x, m ρ S q x →
    ∀ Q : Option Int → Hp → Prop, (∀ o S' bs F' H', q o S' → Grow X.K as F H bs F' H' S' → Q o H') → XQ X.K as F H x (WE W σ) → t σ H Q
def oNone : Env → MO := fun _ S q _ => q none S
def oSome (ea : Env → M) : Env → MO := fun ρ S q x => ea ρ S (fun d S1 => onI d fun i => q (some i) S1) x
theorem go_none : GO X W none oNone := ⟨_, po_none, fun as F H S ρ σ I R q x h Q hq _ => hq none S as F H h (Grow.refl I)⟩
theorem go_some (h : GE X W e ea) : GO X W (some e) (oSome ea) := by
  obtain ⟨t, p, m⟩ := h
  refine ⟨_, po_some p, fun as F H S ρ σ I R q x h Q hq hx => ?_⟩
  refine m as F H S ρ σ I R _ x h _ (fun d S1 bs F1 H1 v h1 g r => ?_) hx
  cases r with
  | int i => exact ⟨i, rfl, hq _ S1 bs F1 H1 h1 g⟩
  | _ => exact h1.elim
def eSl (f : WS → D → Option Int → Option Int → Option D) (ea : Env → M) (lo hi : Env → MO) : Env → M := fun ρ S q x => ea ρ S (fun u S1 => lo ρ S1 (fun l S2 => hi ρ S2 (fun h S3 => onS (f S3 u l h) fun d => q d S3) x) x) x
theorem ge_slice {lo hi : Option Expr} {p2 : Pos} {r : V → Option Int → Option Int → Hp → VK → Prop} {f : WS → D → Option Int → Option Int → Option D} {ml mh : Env → MO} (hr : SlR X r) (hf : RSl X.K r f) (he : GE X W e ea) (hl : GO X W lo ml) (hh : GO X W hi mh) : GE X W (.Subscript e (.Slice lo hi none p2) pos) (eSl f ea ml mh) := by
  obtain ⟨t, p, m⟩ := he
  obtain ⟨tl, pl, m1⟩ := hl
  obtain ⟨tu, pu, m2⟩ := hh
  refine ⟨_, pe_slice hr p pl pu, fun as F H S ρ σ I R q x h Q hq hx => ?_⟩
  refine m as F H S ρ σ I R _ x h _ (fun u S1 bs F1 H1 v h1 g1 r1 => ?_) hx
  refine m1 bs F1 H1 S1 ρ σ g1.sit (R.grow g1) _ x h1 _ (fun l S2 cs F2 H2 h2 g2 => ?_) (hx.step g1)
  have g12 := g1.trans g2
  refine m2 cs F2 H2 S2 ρ σ g2.sit (R.grow g12) _ x h2 _ (fun k S3 ls F3 H3 h3 g3 => ?_) (hx.step g12)
  obtain ⟨d, h4, h5⟩ := onS_ok h3
  exact hf ls F3 H3 S3 u d v l k g3.sit (RpE_aux (g2.trans g3) r1) h4 Q fun F4 H4 y g4 r4 => hq d S3 ls F4 H4 y h5 ((g12.trans g3).trans g4) r4
end
end RV
end
section
/-! Kinds (isinstance), truth, the texts of things (repr), own == and !=. -/
namespace RV
open PySem L2
section
variable {K : PySem.W.Frag} {as : List Addr} {F H : Hp} {S : WS}
/-- what is asked of an own class so that its instances' kind is known -/
structure KindC (K : PySem.W.Frag) (C : Addr) : Prop where
  cl : Cls K C
  ha : PySem.W.findIn K (.ref C) "__class__" = some (some (.builtin "object.__class__"))
  hn : PySem.W.specialIn K (.builtin "object.__class__") "__get__" = some (some (.builtin "getset_descriptor.__get__"))
  tk : PySem.W.takesIn K (.builtin "object.__class__") = some true
  mro : PySem.W.mroIn K C (.type "object") = some true
/-- the kind of data -/
def kindD (own : Addr → Bool) : D → Option Value
  | .non => some (.type "NoneType")
  | .bl _ => some (.type "bool")
  | .int _ => some (.type "int")
  | .str _ => some (.type "str")
  | .tup _ => some (.type "tuple")
  | .lst _ => some (.type "list")
  | .obj C _ => if own C = true then some (.ref C) else none
  | _ => none
theorem tyx_of {own : Addr → Bool} {d : D} {v : V} {t : Value} (ho : ∀ C, own C = true → KindC K C) (e : Ex F H) (r : Rp K as F d v) (h : kindD own d = some t) : TyX K H v t := by
  cases r with
  | non =>
    cases h
    exact .base .non
  | bl b =>
    cases h
    exact .base (.bl b)
  | int i =>
    cases h
    exact .base (.int i)
  | str s =>
    cases h
    exact .base (.str s)
  | tup h1 _ =>
    cases h
    rcases h1 with h1 | ⟨o, its, n, h1, h2, _⟩
    · rcases h1 with h1 | ⟨o, h1⟩
      · exact .base (.tup (e _ _ h1))
      · exact .fTuple (e _ _ h1)
    · exact .kTuple h1 h2
  | lst h1 _ =>
    cases h
    exact .base (.lst (e _ _ h1))
  | obj h1 _ =>
    unfold kindD at h
    simp only at h
    split at h
    · rename_i hc
      cases h
      have k := ho _ hc
      exact .base (.ins (e _ _ h1) k.cl k.ha k.hn k.tk k.mro)
    · cases h
  | _ => cases h
def clsD : D → Option Value
  | .ty n => some (.type n)
  | .adr a => some (.ref a)
  | _ => none
def isiD (own : Addr → Bool) (tab : Value → Value → Option Bool) : WS → List D → Option D := fun _ xs => match xs with
  | [x, c] => (kindD own x).bind fun t => (clsD c).bind fun u => (tab t u).map D.bl
  | _ => none
theorem rc_isi {own : Addr → Bool} {tab : Value → Value → Option Bool} (ho : ∀ C, own C = true → KindC K C) (ht : ∀ t u b, tab t u = some b → PySem.W.kitOne K t u = some b) : RC K (rIsi K) (isiD own tab) := fun as F H S ds d vs I r h Q q => by
  unfold isiD at h
  split at h
  · simp only [Option.bind_eq_some_iff, Option.map_eq_some_iff] at h
    obtain ⟨t, h1, u, h2, b, h3, rfl⟩ := h
    obtain ⟨v, ws, rfl, rv, rn⟩ := r.unsn
    obtain ⟨w, zs, rfl, rw', rn⟩ := rn.unsn
    obtain rfl := rn.unnil
    refine ⟨v, w, t, u, b, rfl, ?_, tyx_of ho I.ex rv h1, ht t u b h3, keep I q (.bl _)⟩
    cases rw' with
    | ty n =>
      cases h2
      exact .ty n
    | adr a =>
      cases h2
      exact .own a
    | _ => cases h2
  · cases h
/-! ### truth -/
def truD : WS → D → Option Bool := fun S x => match x with
  | .non => some false
  | .bl b => some b
  | .int i => some (i != 0)
  | .str s => if small s.length = true then some ((s.length : Int) != 0) else none
  | x => (itemsD S x).map fun ds => !ds.isEmpty
theorem rt_tru : RT K (fun x H Q => ∃ k, TruV K x H k ∧ Q k H) truD := fun as F H S x b vx I r h Q q => by
  have go : ∀ {ds : List D}, itemsD S x = some ds → (!ds.isEmpty) = b → ∃ k, TruV K vx H k ∧ Q k H := fun {ds} h1 e => by
    obtain ⟨a, xs, rfl, hs, rl⟩ := items_v I r h1
    refine ⟨b, ?_, q F H (Grow.refl I)⟩
    have e2 : (!xs.isEmpty) = b := by
      rw [← e]
      cases rl <;> rfl
    rcases hs with hs | hs
    · exact .inl ⟨_, hs, e2.symm⟩
    · exact .inr (.inl ⟨_, hs, e2.symm⟩)
  unfold truD at h
  split at h
  · cases h
    cases r
    exact ⟨false, rfl, q F H (Grow.refl I)⟩
  · cases h
    cases r
    exact ⟨b, rfl, q F H (Grow.refl I)⟩
  · cases h
    cases r
    exact ⟨_, rfl, q F H (Grow.refl I)⟩
  · split at h
    · rename_i hs
      cases h
      cases r
      exact ⟨_, ⟨small_le hs, rfl⟩, q F H (Grow.refl I)⟩
    · cases h
  · simp only [Option.map_eq_some_iff] at h
    obtain ⟨ds, h1, h2⟩ := h
    exact go h1 h2
theorem RT.or {r r' : V → Hp → (Bool → Hp → Prop) → Prop} {f g : WS → D → Option Bool} (h : RT K r f) (h' : RT K r' g) : RT K (fun x H Q => r x H Q ∨ r' x H Q) (fun S x => (f S x).orElse fun _ => g S x) := fun as F H S x b vx I rx e Q q => by
  replace e : ((f S x).orElse fun _ => g S x) = some b := e
  cases h1 : f S x with
  | some z =>
    rw [h1] at e
    have e' : z = b := by simpa using e
    subst e'
    exact .inl (h as F H S x z vx I rx h1 Q q)
  | none =>
    rw [h1] at e
    exact .inr (h' as F H S x b vx I rx (by simpa using e) Q q)
end
section
variable {X : Cx} {W : WX}
theorem truR_or {r r' : V → Hp → (Bool → Hp → Prop) → Prop} (h : TruR X r) (h' : TruR X r') : TruR X (fun x H Q => r x H Q ∨ r' x H Q) := fun pins s σ H x v Q I rx q => by
  rcases q with q | q
  · exact h pins s σ H x v Q I rx q
  · exact h' pins s σ H x v Q I rx q
/-- an instance of a class without __bool__ and __len__ -/
theorem tru_obj0 {C : Addr} (hb : PySem.W.findIn X.K (.ref C) "__bool__" = some none) (hl : PySem.W.findIn X.K (.ref C) "__len__" = some none) : TruR X (fun x H Q => ∃ a dx fs, x = .ref a ∧ H a = some (.ins C dx fs) ∧ Q true H) := fun pins s σ H x v Q I rx q => by
  obtain ⟨a, dx, fs, rfl, ha, q⟩ := q
  cases rx
  obtain ⟨mA, J, _⟩ := ins_get I.hok ha
  obtain ⟨od, J, _⟩ := J.look
  obtain ⟨m, hF⟩ := I.fr
  exact PySem.W.truthy_K0 hF I.ok.mod.kin J hb hl ⟨H, I, q⟩
def truObj (C : Addr) : WS → D → Option Bool := fun _ x => match x with
  | .obj C' _ => if C' = C then some true else none
  | _ => none
theorem rt_obj0 {K : PySem.W.Frag} {C : Addr} : RT K (fun x H Q => ∃ a dx fs, x = .ref a ∧ H a = some (.ins C dx fs) ∧ Q true H) (truObj C) := fun as F H S x b vx I rx e Q q => by
  unfold truObj at e
  split at e
  · split at e
    · rename_i hc
      cases e
      subst hc
      cases rx with
      | obj h1 _ => exact ⟨_, _, _, rfl, I.ex _ _ h1, q F H (Grow.refl I)⟩
    · cases e
  · cases e

/-! ### repr of a list or tuple of plain data -/
def rRepr (K : PySem.W.Frag) : List V → Hp → VK → Prop := fun xs H Q => ∃ x d, xs = [x] ∧ Dp K H x d ∧ d.showable = true ∧ d.hasDict = false ∧ d.depth ≤ 64 ∧ d.shown.length ≤ sizeLine ∧ Q (.str d.shown) H
theorem call_repr {k : Nat} (hg : X.A.guards = some []) (hr : Room k X.A) : CallR X (.builtin "repr") (rRepr X.K) := fun pins s σ H xs us Q I rv h => by
  obtain ⟨x, d, rfl, hd, hs, hnd, hde, hz, q⟩ := h
  obtain ⟨u, rfl, ru⟩ := vals1 rv
  have heap : ∀ p, x = .ref p → wpAny (model X.prog X.w) X.A (call (.builtin "repr") [u]) (EP X pins σ Q) X.xe s := fun p ex => by
    subst ex
    cases ru
    obtain ⟨as, rd⟩ := hd.reads I d _ _ rfl
    refine PySem.repr_of_reads' rd hs (fun z => by rw [hnd] at z; cases z) hg (by have := hr.un; omega) (fun b o e => e) (fun h' u tk hk => ?_) hz
    exact ⟨.str d.shown, H, I.kept hk, ⟨u, rfl⟩, q⟩
  cases hd with
  | lst _ _ => exact heap _ rfl
  | tup _ _ => exact heap _ rfl
  | non =>
    cases ru
    exact PySem.P.repr_of_none ⟨.str _, H, I.tok _, ⟨_, rfl⟩, q⟩
  | bl b =>
    cases ru
    exact PySem.P.repr_of_bool ⟨.str _, H, I.tok _, ⟨_, rfl⟩, q⟩
  | int i =>
    obtain ⟨t, rfl⟩ := ru
    exact PySem.P.repr_of_int (of_decide_eq_true (by simpa [PyData.showable] using hs)) ⟨.str _, H, I.tok _, ⟨_, rfl⟩, q⟩
  | str z =>
    obtain ⟨t, rfl⟩ := ru
    exact PySem.P.repr_of_str ⟨.str _, H, I.tok _, ⟨_, rfl⟩, q⟩ hz
def reprD : WS → List D → Option D := fun _ xs => match xs with
  | [x] => (D.py x).bind fun p => if p.showable = true ∧ p.hasDict = false ∧ p.depth ≤ 64 ∧ p.shown.length ≤ sizeLine then some (.str p.shown) else none
  | _ => none
theorem rc_repr {K : PySem.W.Frag} : RC K (rRepr K) reprD := fun as F H S ds d vs I r h Q q => by
  unfold reprD at h
  split at h
  · simp only [Option.bind_eq_some_iff] at h
    obtain ⟨p, h1, h2⟩ := h
    split at h2
    · rename_i hh
      cases h2
      obtain ⟨v, ws, rfl, rv, rn⟩ := r.unsn
      obtain rfl := rn.unnil
      exact ⟨_, p, rfl, rv.dp I.ex h1, hh.1, hh.2.1, hh.2.2.1, hh.2.2.2, keep I q (.str _)⟩
    · cases h2
  · cases h

/-! ### an operation that runs a def of the text's own -/
def ROM (K : PySem.W.Frag) (E : XK) (r : R2) (f : D → D → M) : Prop := ∀ (as : List Addr) (F H : Hp) (S : WS) (x y : D) (vx vy : V), Sit K as F H S → Rp K as F x vx → Rp K as F y vy → ∀ q z, f x y S q z →
  ∀ Q : VK, NQ K as F H q Q → XQ K as F H z E → r vx vy H Q
def eOpM (f : D → D → M) (ea eb : Env → M) : Env → M := fun ρ S q x => ea ρ S (fun u S1 => eb ρ S1 (fun v S2 => f u v S2 q x) x) x
/-- an operation whose reading knows the slots -/
def tOpS (r : L2.St → R2) (ta tb : TE) : TE := fun σ H Q => ta σ H fun x H1 => tb σ H1 fun y H2 => r σ x y H2 Q
theorem me_opM {K : PySem.W.Frag} {r : L2.St → R2} {f : D → D → M} {ta tb : TE} {ea eb : Env → M} (hr : ∀ σ, ROM K (WE W σ) (r σ) f) (ha : ME K W ta ea) (hb : ME K W tb eb) : ME K W (tOpS r ta tb) (eOpM f ea eb) := fun as F H S ρ σ I R q x h Q hq hx => by
  refine ha as F H S ρ σ I R _ x h _ (fun u S1 bs F1 H1 v1 h1 g1 r1 => ?_) hx
  refine hb bs F1 H1 S1 ρ σ g1.sit (R.grow g1) _ x h1 _ (fun w S2 cs F2 H2 v2 h2 g2 r2 => ?_) (hx.step g1)
  have g12 := g1.trans g2
  exact hr σ cs F2 H2 S2 u w v1 v2 g2.sit (RpE_aux g2 r1) r2 q x h2 Q (hq.step g12) (hx.step g12)
variable {a b : Expr} {pos : Pos} {ea eb : Env → M}
theorem ge_cmpM {op : CmpOp} {r : R2} {f : D → D → M} (ho : OpR X (compareOp op) r) (hr : ∀ σ, ROM X.K (WE W σ) r f) (ha : GE X W a ea) (hb : GE X W b eb) (hm : behindInMarks op b = false) : GE X W (.Compare a [op] [b] pos) (eOpM f ea eb) := by
  obtain ⟨ta, pa, ma⟩ := ha
  obtain ⟨tb, pb, mb⟩ := hb
  exact ⟨_, pe_cmpR ho pa pb hm, me_opM (r := fun _ => r) hr ma mb⟩
theorem gt_cmpM {op : CmpOp} {r : R2} {f : D → D → M} (ho : OpR X (compareOp op) r) (hr : ∀ σ, ROM X.K (WE W σ) r f) (ha : GE X W a ea) (hb : GE X W b eb) (hm : behindInMarks op b = false) : GT X W (.Compare a [op] [b] pos) (bBl (eOpM f ea eb)) := by
  obtain ⟨ta, pa, ma⟩ := ha
  obtain ⟨tb, pb, mb⟩ := hb
  exact ⟨_, pt_cmpR ho pa pb hm, mt_test (me_opM (r := fun _ => r) hr ma mb)⟩
/-! ### own == -/
def rEqOwn (K : PySem.W.Frag) (C : Addr) (sp : Sp) (neg : Bool) : R2 := fun x y H Q => ∃ a dx fs t, x = .ref a ∧ H a = some (.ins C dx fs) ∧ TyX K H y t ∧ PySem.W.notFirst K C t = true ∧ sp [x, y] H (fun v H' => ∃ c, v = .bl c ∧ Q (.bl (if neg then !c else c)) H') E0
theorem run_eqOwn {f : Addr} {fd : FuncData} {ps : List Str} {sp : Sp} {k : Nat} {A : Around} {pins : List (Addr × Obj)} {s : Shared} {σ : L2.St} {H : Hp} {y : V} {u : Value} {p : Addr} {R : VK} (Fn : FnX false X.prog X.w X.K X.mg X.base k f fd ps sp) (hr : Room k A) (hfr : A.frames = X.A.frames) (hb : Binds X.K fd ps []) (I : Inv X pins σ H s) (ry : RelV y u)
    (h : sp [.ref p, y] H R E0) : wpAny (model X.prog X.w) A (call (.ref f) [.ref p, u]) (EP X pins σ R) X.xe s := by
  have e0 : Env0 X.prog X.w X.K X.mg X.base A X.stack s H := by
    have e := I.env0
    exact ⟨by rw [hfr]; exact e.frames, e.mod, e.bs, e.bsz, e.funs, e.frf, e.hok, e.bare⟩
  have r2 : Vals [V.ref p, y] [Value.ref p, u] := .cons rfl (.cons ry .nil)
  have hl : [Value.ref p, u].length = ps.length := r2.length.symm.trans (Fn.len _ _ _ _ h)
  refine wpAny_call (codeAny_mono (Fn.ok.run A X.stack s H ⟨[.ref p, u], []⟩ [.ref p, u] [.ref p, y] R E0 hr e0 (by
    have := hb s [.ref p, u] I.kIn (by simpa using hl)
    simpa using this) r2 h) fun r s' hq => ?_)
  cases r with
  | error e =>
    obtain ⟨a, B, H', cls, d, c⟩ := hq
    exact c.2.2.2.2.2.2.2.elim
  | ok fl =>
    cases fl with
    | ret w => exact I.after hq
    | next => exact hq.elim
    | brk => exact hq.elim
    | cont => exact hq.elim
theorem op_eqOwn {C f : Addr} {fd : FuncData} {ps : List Str} {sp : Sp} {k j : Nat} (Fn : FnX false X.prog X.w X.K X.mg X.base k f fd ps sp) (hr : Room j X.A) (hj : k ≤ j) (hs : PySem.W.findIn X.K (.ref C) "__eq__" = some (some (.ref f))) (hf : PySem.W.isFn X.K (.ref f) = true) (hb : Binds X.K fd ps []) :
    OpR X (compareOp .Eq) (rEqOwn X.K C sp false) := fun pins s σ H x y v u Q I rx ry q => by
  obtain ⟨p, dx, fs, t, rfl, ha, ty, hn, q⟩ := q
  cases rx
  obtain ⟨mA, J, _⟩ := ins_get I.hok ha
  obtain ⟨od, J, _⟩ := J.look
  obtain ⟨m, hF⟩ := I.fr
  obtain ⟨Pk, kx, hP, _⟩ := kit_of I ry ty
  show wpAny (model X.prog X.w) X.A (richCompare .Eq (.ref p) u) (EP X pins σ Q) X.xe s
  refine PySem.W.cmp_K (op := .Eq) hr.units0 hF I.ok.mod.kin J (kx.ty _ _ I.kIn hP) hn hs hf ?_
  refine thn (run_eqOwn Fn (hr.mono hj) rfl hb I ry q) fun w s' hw => ?_
  obtain ⟨z, H', I', rz, c, rfl, qc⟩ := hw
  cases rz
  exact ⟨.bl c, H', I', rfl, qc⟩
theorem ne_inst {prog : Program} {w : World} {A : Around} {E : Value → Shared → Prop} {s : Shared} {K : PySem.W.Frag} {x C L f : Addr} {h0 : Heap} {m : Str → Option Value} {ox : Obj} {od : Option Obj} {b tb : Value} {Q : Value → Shared → Prop} (hu : A.units + 1 < cLine)
    (F : PyProof.Rows.Fr h0 L s.heap m) (X0 : K.In h0) (I : PySem.W.InstAt s.heap x ox C od) (hb : PySem.W.Looks (model prog w) s.heap (typeOf b) tb) (hn : PySem.W.notFirst K C tb = true) (hne : PySem.W.findIn K (.ref C) "__ne__" = some (some (.builtin "object.__ne__")))
    (hs : PySem.W.findIn K (.ref C) "__eq__" = some (some (.ref f))) (hf : PySem.W.isFn K (.ref f) = true) (hm : PySem.W.mroIn K C (.type "object") = some true)
    (h : wpAny (model prog w) A.in1 (call (.ref f) [.ref x, b]) (fun v s' => ∃ r, v = .bool r ∧ Q (.bool (!r)) s') E s) : wpAny (model prog w) A (richCompare .NotEq (.ref x) b) Q E s := by
  have KX := X0.keeps F.keep
  -- object.__ne__ asks __eq__ and turns the answer round
  have body : wpAny (model prog w) A.in1 (Builtin.«object.__ne__» ⟨[.ref x, b], []⟩) (fun fin s' => ∃ r, fin = .done (.ret (.bool r)) ∧ Q (.bool r) s') E s := by
    unfold Builtin.«object.__ne__»
    refine wpAny_bind (m := slotArgs "__ne__" 1 _) (wpAny_pure ?_)
    refine wpAny_bind (wpAny_cRoomFor (by show A.units + 1 < cLine; exact hu) ?_)
    refine wpAny_bind (PySem.W.ifBound_K KX I hs hf (wpAny_mono h (fun v s' hv => ?_) fun _ _ e => e))
    obtain ⟨r, rfl, hq⟩ := hv
    refine wpAny_bind (m := truthy (.bool r)) (wpAny_pure ?_)
    exact wpAny_pure ⟨_, rfl, hq⟩
  have chk : ∀ {A' : Around} {E' : Value → Shared → Prop} {Q' : Unit → Shared → Prop}, Q' () s → wpAny (model prog w) A' (checkBuiltinCall "object.__ne__" ⟨[.ref x, b], []⟩) Q' E' s := fun {A' E' Q'} hq => by
    simp only [checkBuiltinCall, PySem.F.cmpKind_ne, PySem.F.cmpSplit_ne]
    refine wpAny_bind (wpAny_bind (I.type.here ((PySem.W.looks_mroIn KX hm).here ?_)))
    simp only [Bool.not_true, Bool.false_eq_true, if_false]
    have ha := PySem.F.cmpArgs_ne (.ref x) b
    cases hsig : Manifest.signature? "object.__ne__" with
    | none => exact wpAny_pure hq
    | some sig =>
      simp only [argsOk, hsig] at ha
      have h2 : Bind.checkArgs "object.__ne__" sig ⟨[.ref x, b], []⟩ = pure () := ha
      show wpAny (model prog w) A' (Bind.checkArgs "object.__ne__" sig ⟨[.ref x, b], []⟩) Q' E' s
      rw [h2]
      exact wpAny_pure hq
  have one : wpAny (model prog w) A (tryCompare (.ref x) "__ne__" b) (fun r s' => ∃ v, r = some v ∧ Q v s') E s := by
    unfold tryCompare
    refine wpAny_bind ?_
    simp only [callSpecialIfBound?, bindSpecialIfBound?]
    refine wpAny_holding (wpAny_bind (wpAny_bind (wpAny_bind (I.type.here ((PySem.W.looks_findIn KX hne).here ?_)))))
    refine wpAny_bind (wpAny_askSetting (wpAny_ite ?_))
    have fin : wpAny (model prog w) A (call (.builtin "object.__ne__") ([.ref x] ++ [b]) >>= fun v => pure (some v)) (fun r s' => wpAny (model prog w) A (match r with | some .notImplemented | none => pure none | some v => pure (some v)) (fun r s' => ∃ v, r = some v ∧ Q v s') E s') E s := by
      refine wpAny_bind (wpAny_call (codeAny_call_builtin PySem.F.cmp_object.ne.plain PySem.F.cmpEntry_ne (chk ?_)))
      refine wpAny_mono body (fun fin s' hf => ?_) fun _ _ e => e
      obtain ⟨r, rfl, hq⟩ := hf
      exact wpAny_pure (wpAny_pure ⟨_, rfl, hq⟩)
    simp only [PySem.F.cmp_object.ne.bind]
    split
    · exact wpAny_bind (wpAny_pure (wpAny_pure fin))
    · exact wpAny_tryCatch (wpAny_bind (wpAny_pure (wpAny_pure fin)))
  unfold richCompare
  simp only [PySem.oneThing_ref]
  refine wpAny_holding (wpAny_bind (wpAny_cRoomFor (by omega) ?_))
  refine wpAny_bind (I.type.here (wpAny_bind (hb.here ?_)))
  have done : wpAny (model prog w) A (tryCompare (.ref x) "__ne__" b) (fun r s' => ∃ v, r = some v ∧ Q v s') E s := one
  split
  · rename_i q
    have e : PySem.W.subIn K tb (.ref C) = some false := by
      rcases Bool.or_eq_true_iff.mp hn with e | e
      · rw [beq_iff_eq.mp e] at q
        simp at q
      · exact beq_iff_eq.mp e
    refine wpAny_bind ((PySem.W.looks_subIn KX e).here ?_)
    simp only [Bool.false_eq_true, if_false]
    refine wpAny_bind (wpAny_mono done (fun r s' z => ?_) fun _ _ e => e)
    obtain ⟨v, rfl, hq⟩ := z
    exact wpAny_pure hq
  · refine wpAny_bind (wpAny_pure ?_)
    simp only [Bool.false_eq_true, if_false]
    refine wpAny_bind (wpAny_mono done (fun r s' z => ?_) fun _ _ e => e)
    obtain ⟨v, rfl, hq⟩ := z
    exact wpAny_pure hq
theorem op_neOwn {C f : Addr} {fd : FuncData} {ps : List Str} {sp : Sp} {k j : Nat} (Fn : FnX false X.prog X.w X.K X.mg X.base k f fd ps sp) (hr : Room j X.A) (hj : k + 1 ≤ j) (hs : PySem.W.findIn X.K (.ref C) "__eq__" = some (some (.ref f))) (hf : PySem.W.isFn X.K (.ref f) = true) (hb : Binds X.K fd ps [])
    (hne : PySem.W.findIn X.K (.ref C) "__ne__" = some (some (.builtin "object.__ne__"))) (hm : PySem.W.mroIn X.K C (.type "object") = some true) :
    OpR X (compareOp .NotEq) (rEqOwn X.K C sp true) := fun pins s σ H x y v u Q I rx ry q => by
  obtain ⟨p, dx, fs, t, rfl, ha, ty, hn, q⟩ := q
  cases rx
  obtain ⟨mA, J, _⟩ := ins_get I.hok ha
  obtain ⟨od, J, _⟩ := J.look
  obtain ⟨m, hF⟩ := I.fr
  obtain ⟨Pk, kx, hP, _⟩ := kit_of I ry ty
  show wpAny (model X.prog X.w) X.A (richCompare .NotEq (.ref p) u) (EP X pins σ Q) X.xe s
  refine ne_inst (by have := hr.un; omega) hF I.ok.mod.kin J (kx.ty _ _ I.kIn hP) hn hne hs hf hm ?_
  refine thn (run_eqOwn Fn (hr.mono hj).in1 rfl hb I ry q) fun w s' hw => ?_
  obtain ⟨z, H', I', rz, c, rfl, qc⟩ := hw
  cases rz
  exact ⟨c, rfl, .bl (!c), H', I', rfl, qc⟩
/-- x == y, x != y by the == of x's own class -/
def eqOwnD (C : Addr) (own : Addr → Bool) (G : List D → M) (neg : Bool) (nfK : Value → Bool) : D → D → M := fun x y S q _ => isOb C S x ∧ onS (kindD own y) fun t => nfK t = true ∧ G [x, y] S (fun d S' => onB d fun c => q (.bl (if neg then !c else c)) S') noX
theorem rom_eqOwn {K : PySem.W.Frag} {E : XK} {C : Addr} {own : Addr → Bool} {G : List D → M} {neg : Bool} {nfK : Value → Bool} (ho : ∀ C, own C = true → KindC K C) (hn : ∀ t, nfK t = true → PySem.W.notFirst K C t = true) : ROM K E (rEqOwn K C (spG K 2 G) neg) (eqOwnD C own G neg nfK) := fun as F H S x y vx vy I rx ry q z h Q hq _ => by
  obtain ⟨h1, h2⟩ := h
  obtain ⟨t, ht, hnf, hG⟩ := onS_ok h2
  obtain ⟨a, dx, vfs, rfl, ha⟩ := isOb_at I rx h1
  refine ⟨a, dx, vfs, t, rfl, ha, tyx_of ho I.ex ry ht, hn t hnf, as, F, S, [x, y], _, noX, I, .cons rx (.cons ry .nil), rfl, hG, fun d S' bs F' H' v h3 g r => ?_, XQ.no⟩
  cases r with
  | bl c => exact ⟨c, rfl, hq _ S' bs F' H' _ h3 g (.bl _)⟩
  | _ => exact h3.elim
end
end RV
end
section
/-! Stores; a chain of comparisons; numbers. -/
namespace RV
open PySem L2
section
variable {X : Cx} {W : WX} {a b c e o tg iter elt : Expr} {pos : Pos} {ea eb ec ee eo ei : Env → M} {er : Env → ML} {mc : Env → MB}
/-! ### several names at once -/
def sAsgG (f : D → Env → Option Env) (ea : Env → M) : Env → MS := fun ρ S k => ea ρ S (fun d S1 => onS (f d ρ) fun ρ' => k.nx ρ' S1) fun e S' => k.ex e ρ S'
theorem gs_asg {vs : List Nat} {f : D → Env → Option Env} (he : GE X W e ea) (hg : GG X tg vs f) (hs : swapsWithSole [tg] e pos.line X.env = pure false := by rfl) (hw : swappedStores [tg] e X.env = pure none := by rfl) (h1 : (assignEach [tg] X.env).map (·.2) = [assign tg X.env] := by rfl) : GS X W (.Assign [tg] e pos) (sAsgG f ea) := by
  obtain ⟨t, p, m⟩ := he
  obtain ⟨g, pg, mg⟩ := hg
  refine ⟨_, ps_asg p pg hs hw h1, fun as F H S ρ σ I R k h E q => ?_⟩
  refine m as F H S ρ σ I R _ _ h _ (fun d S1 bs F1 H1 v h1 g r => ?_) (q.xq R)
  obtain ⟨ρ', h2, h3⟩ := onS_ok h1
  exact mg bs F1 H1 S1 ρ σ d v ρ' g.sit (R.grow g) r h2 _ fun σ' _ R' => q.nx ρ' S1 bs F1 H1 σ' h3 g R'
def sPar2 (i j : Nat) (er : Env → ML) : Env → MS := fun ρ S k => er ρ S (fun ds S1 => on2 ds fun x y => k.nx ((ρ.set i (some x)).set j (some y)) S1) fun e S' => k.ex e ρ S'
theorem gs_par2 (i j : Nat) {x y : Str} {px py pt pt2 : Pos} {kt k2 : Nat} (hc : X.calm = true) (hN : X.N.Nodup) (ha : GA X W [a, b] er) (hi : X.N[i]? = some x := by rfl) (hj : X.N[j]? = some y := by rfl) (hij : i ≠ j := by decide)
    (hx : X.env.scope.names.lookup x = some .local := by rfl) (hy : X.env.scope.names.lookup y = some .local := by rfl)
    (hw : swappedStores [.Tuple [.Name x px, .Name y py] kt pt] (.Tuple [a, b] k2 pt2) X.env = pure (some [x, y]) := by rfl)
    (hs : swapsWithSole [.Tuple [.Name x px, .Name y py] kt pt] (.Tuple [a, b] k2 pt2) pos.line X.env = pure false := by rfl) :
    GS X W (.Assign [.Tuple [.Name x px, .Name y py] kt pt] (.Tuple [a, b] k2 pt2) pos) (sPar2 i j er) := by
  obtain ⟨t, p, m⟩ := ha
  refine ⟨_, ps_par hc hN hi hj hij hx hy p hw hs, fun as F H S ρ σ I R k h E q => ?_⟩
  refine m as F H S ρ σ I R _ _ h _ (fun ds S1 bs F1 H1 vs h1 g r => ?_) (q.xq R)
  obtain ⟨d1, d2, rfl, h1⟩ := on2_ok h1
  obtain ⟨v, ws, rfl, r1, rn⟩ := r.unsn
  obtain ⟨w, zs, rfl, r2, rn⟩ := rn.unsn
  obtain rfl := rn.unnil
  exact ⟨v, w, rfl, q.nx _ S1 bs F1 H1 _ h1 g (((R.grow g).set r1).set r2)⟩
def sPar3 (i j l : Nat) (er : Env → ML) : Env → MS := fun ρ S k => er ρ S (fun ds S1 => on3 ds fun x y z => k.nx (((ρ.set i (some x)).set j (some y)).set l (some z)) S1) fun e S' => k.ex e ρ S'
theorem gs_par3 (i j l : Nat) {x y z : Str} {px py pz pt pt2 : Pos} {kt k2 : Nat} (hc : X.calm = true) (hN : X.N.Nodup) (ha : GA X W [a, b, c] er) (hi : X.N[i]? = some x := by rfl) (hj : X.N[j]? = some y := by rfl) (hl : X.N[l]? = some z := by rfl) (hij : i ≠ j := by decide) (hil : i ≠ l := by decide) (hjl : j ≠ l := by decide)
    (hx : X.env.scope.names.lookup x = some .local := by rfl) (hy : X.env.scope.names.lookup y = some .local := by rfl) (hz : X.env.scope.names.lookup z = some .local := by rfl)
    (hw : swappedStores [.Tuple [.Name x px, .Name y py, .Name z pz] kt pt] (.Tuple [a, b, c] k2 pt2) X.env = pure (some [x, y, z]) := by rfl)
    (hs : swapsWithSole [.Tuple [.Name x px, .Name y py, .Name z pz] kt pt] (.Tuple [a, b, c] k2 pt2) pos.line X.env = pure false := by rfl) :
    GS X W (.Assign [.Tuple [.Name x px, .Name y py, .Name z pz] kt pt] (.Tuple [a, b, c] k2 pt2) pos) (sPar3 i j l er) := by
  obtain ⟨t, p, m⟩ := ha
  refine ⟨_, ps_par3 hc hN hi hj hl hij hil hjl hx hy hz p hw hs, fun as F H S ρ σ I R k h E q => ?_⟩
  refine m as F H S ρ σ I R _ _ h _ (fun ds S1 bs F1 H1 vs h1 g r => ?_) (q.xq R)
  obtain ⟨d1, d2, d3, rfl, h1⟩ := on3_ok h1
  obtain ⟨v, ws, rfl, r1, rn⟩ := r.unsn
  obtain ⟨w, zs, rfl, r2, rn⟩ := rn.unsn
  obtain ⟨w3, zs, rfl, r3, rn⟩ := rn.unsn
  obtain rfl := rn.unnil
  exact ⟨v, w, w3, rfl, q.nx _ S1 bs F1 H1 _ h1 g ((((R.grow g).set r1).set r2).set r3)⟩
/-- y = [e for ..] -/
theorem gs_setLc (i : Nat) {y : Str} {py spos : Pos} {scope : Scope} {own : List (Str × Nat)} {ifs : List Expr} {l : Lk} {mi : Env → MW} {us : List Nat} {f : D → Env → Option Env} (hc : X.calm = true) (hN : X.N.Nodup) (hi : GI X W tg iter mi) (ok : BlkOk X.N X.env.scope scope own)
    (hg : ∀ (s : Shared) (H : Hp) (C : Addr) (cl : List (Str × Addr)) (fp : List Addr), GG (X.blk s H scope (compEnvC scope cl C X.env) fp) tg us f)
    (ht : ∀ (s : Shared) (H : Hp) (C : Addr) (cl : List (Str × Addr)) (fp : List Addr), GTs (X.blk s H scope (compEnvC scope cl C X.env) fp) ifs mc)
    (he : ∀ (s : Shared) (H : Hp) (C : Addr) (cl : List (Str × Addr)) (fp : List Addr), GE (X.blk s H scope (compEnvC scope cl C X.env) fp) WF elt ee)
    (hsw : swapsWith (.ListComp elt [⟨tg, iter, ifs, 0⟩] scope pos) (some (.Name y py)) spos.line X.env = pure true)
    (hy : X.N[i]? = some y := by rfl) (hyl : X.env.scope.names.lookup y = some .local := by rfl)
    (hu : ∀ x ∈ us, x ∈ own.map (·.2) := by decide) (hs : ∀ (x : Value), foldedSetIterable iter X.env x = pure x := by intro _; rfl) :
    GS X W (.Assign [.Name y py] (.ListComp elt [⟨tg, iter, ifs, 0⟩] scope pos) spos) (sAsg i (eLc l mi f mc ee (own.map (·.2)))) := by
  obtain ⟨wi, pi, mi'⟩ := hi
  exact ⟨_, ps_setLc (own := own) hc hN hy hyl hsw pi ok (fun s H C cl fp => (hg s H C cl fp).canon) (fun s H C cl fp => (ht s H C cl fp).ex) (fun s H C cl fp => (he s H C cl fp).canon) hs, ms_asg (me_lc mi' hu)⟩
/-! ### o[i] = e, o a list that is a cell -/
def setIxD (o i d : D) (S : WS) : Option WS := match o, i with
  | .cell k, .int n => match S[k]? with
    | some (.lst ds) => if D.clean 0 d = true then (ixN ds.length n).map fun j => S.set k (.lst (ds.set j d)) else none
    | _ => none
  | _, _ => none
theorem setIx_ok {K : PySem.W.Frag} {as : List Addr} {F H : Hp} {S S' : WS} {o i d : D} {vo vi v : V} {Q : Hp → Prop} (I : Sit K as F H S) (ro : Rp K as F o vo) (ri : Rp K as F i vi) (rv : Rp K as F d v) (h : setIxD o i d S = some S') (q : ∀ H', Grow K as F H as F H' S' → Q H') : rSetL vo vi v H Q := by
  unfold setIxD at h
  split at h
  · rename_i k n
    split at h
    · rename_i ds hS
      split at h
      · rename_i hcl
        simp only [Option.map_eq_some_iff] at h
        obtain ⟨j, hj, rfl⟩ := h
        cases ri
        cases ro with
        | cell h0 =>
          obtain ⟨z1, ob, z2, z3⟩ := I.cell k _ _ h0 hS
          cases ob with
          | lst xs =>
            have z3' : RpL K [] F ds xs := z3
            have r1' : Rp K [] F d v := rv.back (n := 0) (fun k a hk => absurd hk (by omega)) hcl
            have g3 := I.put (c' := .lst (ds.set j d)) (o := .lst (xs.set j v)) h0 hS rfl rfl (RpL.set r1' j z3')
            exact ⟨_, xs, n, j, rfl, rfl, z2, by rw [← z3'.length]; exact hj, q _ g3⟩
          | _ => exact z3.elim
      · cases h
    · cases h
  · cases h
def sSetIx (eo ei ee : Env → M) : Env → MS := fun ρ S k => ee ρ S (fun d S1 => eo ρ S1 (fun o S2 => ei ρ S2 (fun i S3 => onS (setIxD o i d S3) fun S' => k.nx ρ S') fun e S' => k.ex e ρ S') fun e S' => k.ex e ρ S') fun e S' => k.ex e ρ S'
theorem gs_setIx {i : Expr} {tpos : Pos} (he : GE X W e ee) (ho : GE X W o eo) (hi : GE X W i ei) (hs : swapsWithSole [.Subscript o i tpos] e pos.line X.env = pure false := by rfl) (hw : swappedStores [.Subscript o i tpos] e X.env = pure none := by rfl) (h1 : (assignEach [.Subscript o i tpos] X.env).map (·.2) = [assign (.Subscript o i tpos) X.env] := by rfl)
    (ha : ∀ (v : Value), assign (.Subscript o i tpos) X.env v = (do
      let ov ← holding [v] (eval o X.env)
      let iv ← holding [v, ov] (eval i X.env)
      standAt tpos
      holding [v, ov, iv] (setItem ov iv v)
      release [v, ov, iv] []) := by intro _; rfl) : GS X W (.Assign [.Subscript o i tpos] e pos) (sSetIx eo ei ee) := by
  obtain ⟨t, p, m⟩ := he
  obtain ⟨to, po, mo⟩ := ho
  obtain ⟨ti, pi, mi⟩ := hi
  refine ⟨_, ps_asg p (pg_sub po pi set_list ha) hs hw h1, fun as F H S ρ σ I R k h E q => ?_⟩
  refine m as F H S ρ σ I R _ _ h _ (fun d S1 bs F1 H1 v1 h1 g1 r1 => ?_) (q.xq R)
  refine mo bs F1 H1 S1 ρ σ g1.sit (R.grow g1) _ _ h1 _ (fun o S2 cs F2 H2 v2 h2 g2 r2 => ?_) ((q.step g1).xq (R.grow g1))
  have g12 := g1.trans g2
  refine mi cs F2 H2 S2 ρ σ g2.sit (R.grow g12) _ _ h2 _ (fun i S3 ls F3 H3 v3 h3 g3 r3 => ?_) ((q.step g12).xq (R.grow g12))
  obtain ⟨S4, h4, h5⟩ := onS_ok h3
  refine setIx_ok g3.sit (RpE_aux g3 r2) r3 (RpE_aux g3 (RpE_aux g2 r1)) h4 fun H' g4 => ?_
  have g := (g12.trans g3).trans g4
  exact q.nx ρ S4 ls F3 H' σ h5 g (R.grow g)
/-- o[i], x = e, e a pair -/
def sPairSet (j : Nat) (eo ei ee : Env → M) : Env → MS := fun ρ S k => ee ρ S (fun d S1 => onTu d fun ds => on2 ds fun d1 d2 => eo ρ S1 (fun o S2 => ei ρ S2 (fun i S3 => onS (setIxD o i d1 S3) fun S' => k.nx (ρ.set j (some d2)) S') fun e S' => k.ex e ρ S') fun e S' => k.ex e ρ S') fun e S' => k.ex e ρ S'
theorem gs_pairSet (j : Nat) {i : Expr} {x : Str} {tpos px pt : Pos} {kt : Nat} (hc : X.calm = true) (hN : X.N.Nodup) (he : GE X W e ee) (ho : GE X W o eo) (hi : GE X W i ei) (hj : X.N[j]? = some x := by rfl) (hx : Loc X.env.scope x := by first | exact Or.inl rfl | exact Or.inr rfl) (hf : X.fn x = true ∨ X.env.scope.names.lookup x = some .local := by first | exact .inl rfl | exact .inr rfl | assumption)
    (hs : swapsWithSole [.Tuple [.Subscript o i tpos, .Name x px] kt pt] e pos.line X.env = pure false := by rfl) (hw : swappedStores [.Tuple [.Subscript o i tpos, .Name x px] kt pt] e X.env = pure none := by rfl)
    (h1 : (assignEach [.Tuple [.Subscript o i tpos, .Name x px] kt pt] X.env).map (·.2) = [assign (.Tuple [.Subscript o i tpos, .Name x px] kt pt) X.env] := by rfl)
    (ha : ∀ (v : Value), assign (.Subscript o i tpos) X.env v = (do
      let ov ← holding [v] (eval o X.env)
      let iv ← holding [v, ov] (eval i X.env)
      standAt tpos
      holding [v, ov, iv] (setItem ov iv v)
      release [v, ov, iv] []) := by intro _; rfl)
    (e1 : (assignEach [.Subscript o i tpos, .Name x px] X.env).map (·.2) = assign (.Subscript o i tpos) X.env :: (assignEach [.Name x px] X.env).map (·.2) := by rfl)
    (e2 : (assignEach [.Name x px] X.env).map (·.2) = assign (.Name x px) X.env :: (assignEach [] X.env).map (·.2) := by rfl)
    (e3 : (assignEach [.Subscript o i tpos, .Name x px] X.env).length = 2 := by rfl) (e4 : (assignEach [.Subscript o i tpos, .Name x px] X.env).findIdx? (·.1) = none := by rfl) :
    GS X W (.Assign [.Tuple [.Subscript o i tpos, .Name x px] kt pt] e pos) (sPairSet j eo ei ee) := by
  obtain ⟨t, p, m⟩ := he
  obtain ⟨to, po, mo⟩ := ho
  obtain ⟨ti, pi, mi⟩ := hi
  refine ⟨_, ps_asg p (pg_tup hc (pgs_cons (pg_sub po pi set_list ha) (pgs_cons (pg_name (i := j) hN hj hx hf) pgs_nil e2) e1) e3 e4) hs hw h1, fun as F H S ρ σ I R k h E q => ?_⟩
  refine m as F H S ρ σ I R _ _ h _ (fun d S1 bs F1 H1 v1 h1 g1 r1 => ?_) (q.xq R)
  obtain ⟨ds, rfl, h1⟩ := onTu_ok h1
  obtain ⟨d1, d2, rfl, h1⟩ := on2_ok h1
  · cases r1 with
    | tup hq rl =>
      obtain ⟨u1, ws, rfl, ru1, rn⟩ := rl.unsn
      obtain ⟨u2, zs, rfl, ru2, rn⟩ := rn.unsn
      obtain rfl := rn.unnil
      refine ⟨_, _, rfl, g1.sit.ex.sqT hq, rfl, u1, [u2], rfl, ?_⟩
      refine mo bs F1 H1 S1 ρ σ g1.sit (R.grow g1) _ _ h1 _ (fun o S2 cs F2 H2 v2 h2 g2 r2 => ?_) ((q.step g1).xq (R.grow g1))
      have g12 := g1.trans g2
      refine mi cs F2 H2 S2 ρ σ g2.sit (R.grow g12) _ _ h2 _ (fun i S3 ls F3 H3 v3 h3 g3 r3 => ?_) ((q.step g12).xq (R.grow g12))
      obtain ⟨S4, h4, h5⟩ := onS_ok h3
      refine setIx_ok g3.sit (RpE_aux g3 r2) r3 (RpE_aux g3 (RpE_aux g2 ru1)) h4 fun H' g4 => ?_
      have g := (g12.trans g3).trans g4
      exact ⟨u2, [], rfl, rfl, q.nx _ S4 ls F3 H' _ h5 g ((R.grow g).set (RpE_aux g3 (RpE_aux g2 ru2)))⟩
/-! ### a chain of two comparisons -/
theorem gt_chain {op op' : CmpOp} {r r' : R2} {f g : WS → D → D → Option D} (ho : OpR X (compareOp op) r) (ho' : OpR X (compareOp op') r') (hr : RO X.K r f) (hr' : RO X.K r' g) (ha : GE X W a ea) (hb : GE X W b eb) (hc : GE X W c ec) (hm : lastMarks [op, op'] [b, c] = false := by with_unfolding_all rfl) :
    GT X W (.Compare a [op, op'] [b, c] pos) (bChain f g ea eb ec) := by
  obtain ⟨ta, pa, ma⟩ := ha
  obtain ⟨tb, pb, mb⟩ := hb
  obtain ⟨tc, pc, mc⟩ := hc
  refine ⟨_, pt_chain ho ho' pa pb pc hm, fun as F H S ρ σ I R q x h Q hq hx => ?_⟩
  refine ma as F H S ρ σ I R _ x h _ (fun u S1 bs F1 H1 v1 h1 g1 r1 => ?_) hx
  refine mb bs F1 H1 S1 ρ σ g1.sit (R.grow g1) _ x h1 _ (fun w S2 cs F2 H2 v2 h2 g2 r2 => ?_) (hx.step g1)
  obtain ⟨d, hf, h3⟩ := onS_ok h2
  have g12 := g1.trans g2
  refine hr cs F2 H2 S2 u w d v1 v2 g2.sit (RpE_aux g2 r1) r2 hf _ fun F3 H3 v3 g3 r3 => ?_
  have g13 := g12.trans g3
  cases r3 with
  | bl c =>
    refine ⟨c, rfl, ?_⟩
    cases c with
    | true =>
      refine mc cs F3 H3 S2 ρ σ g3.sit (R.grow g13) _ x h3 _ (fun y S4 ls F4 H4 v4 h4 g4 r4 => ?_) (hx.step g13)
      obtain ⟨d', hg, h5⟩ := onS_ok h4
      refine hr' ls F4 H4 S4 w y d' v2 v4 g4.sit (RpE_aux g4 (RpE_aux g3 r2)) r4 hg _ fun F5 H5 v5 g5 r5 => ?_
      cases r5 with
      | bl c' => exact ⟨c', rfl, hq _ S4 ls F5 H5 h5 ((g13.trans g4).trans g5)⟩
      | _ => exact h5.elim
    | false => exact ⟨false, rfl, hq false S2 cs F3 H3 h3 g13⟩
  | _ => exact h3.elim
end
section
variable {K : PySem.W.Frag}
/-! ### built-ins on numbers -/
def absD : WS → List D → Option D := fun _ xs => match xs with
  | [.int i] => some (.int (if i < 0 then -i else i))
  | _ => none
theorem rc_abs : RC K (fun xs H Q => ∃ i, xs = [.int i] ∧ Q (.int (if i < 0 then -i else i)) H) absD := fun as F H S ds d vs I r h Q q => by
  unfold absD at h
  split at h
  · cases h
    obtain ⟨v, ws, rfl, rv, rn⟩ := r.unsn
    obtain rfl := rn.unnil
    cases rv
    exact ⟨_, rfl, keep I q (.int _)⟩
  · cases h
def intOfD : WS → List D → Option D := fun _ xs => match xs with
  | [.int i] => some (.int i)
  | _ => none
theorem rc_int1 : RC K (fun xs H Q => (∃ i, xs = [.int i] ∧ Q (.int i) H) ∨ ∃ k, xs = [.bl k] ∧ Q (.int (if k then 1 else 0)) H) intOfD := fun as F H S ds d vs I r h Q q => by
  unfold intOfD at h
  split at h
  · cases h
    obtain ⟨v, ws, rfl, rv, rn⟩ := r.unsn
    obtain rfl := rn.unnil
    cases rv
    exact .inl ⟨_, rfl, keep I q (.int _)⟩
  · cases h
def max2D : WS → List D → Option D := fun _ xs => match xs with
  | [.int i, .int j] => some (.int (if j > i then j else i))
  | _ => none
def min2D : WS → List D → Option D := fun _ xs => match xs with
  | [.int i, .int j] => some (.int (if j < i then j else i))
  | _ => none
theorem rc_max2 : RC K (fun xs H Q => ∃ i j, xs = [.int i, .int j] ∧ Q (.int (if j > i then j else i)) H) max2D := fun as F H S ds d vs I r h Q q => by
  unfold max2D at h
  split at h
  · cases h
    obtain ⟨v, ws, rfl, rv, rn⟩ := r.unsn
    obtain ⟨v2, ws, rfl, rv2, rn⟩ := rn.unsn
    obtain rfl := rn.unnil
    cases rv
    cases rv2
    exact ⟨_, _, rfl, keep I q (.int _)⟩
  · cases h
theorem rc_min2 : RC K (fun xs H Q => ∃ i j, xs = [.int i, .int j] ∧ Q (.int (if j < i then j else i)) H) min2D := fun as F H S ds d vs I r h Q q => by
  unfold min2D at h
  split at h
  · cases h
    obtain ⟨v, ws, rfl, rv, rn⟩ := r.unsn
    obtain ⟨v2, ws, rfl, rv2, rn⟩ := rn.unsn
    obtain rfl := rn.unnil
    cases rv
    cases rv2
    exact ⟨_, _, rfl, keep I q (.int _)⟩
  · cases h
def dmOk (j : Int) : Bool := decide (0 < j ∧ j.natAbs < 2 ^ 1000)
theorem dmOk_c {i j : Int} (h : dmOk j = true) : CDivP i j := by
  unfold dmOk at h
  simp only [decide_eq_true_eq] at h
  refine ⟨h.1, PyProof.noPylong_of_log2 ?_⟩
  have h2 : j.natAbs ≠ 0 := by omega
  have h3 : j.natAbs.log2 < 1000 := (Nat.log2_lt h2).mpr h.2
  omega
def divmodD : WS → List D → Option D := fun _ xs => match xs with
  | [.int i, .int j] => if dmOk j = true then some (.tup [.int (i / j), .int (i % j)]) else none
  | _ => none
theorem rc_divmod : RC K (fun xs H Q => ∃ i j, xs = [.int i, .int j] ∧ CDivP i j ∧ ∀ p, H p = none → Q (.ref p) (upd H p (.tup [.int (i / j), .int (i % j)]))) divmodD := fun as F H S ds d vs I r h Q q => by
  unfold divmodD at h
  split at h
  · split at h
    · rename_i hh
      cases h
      obtain ⟨v, ws, rfl, rv, rn⟩ := r.unsn
      obtain ⟨v2, ws, rfl, rv2, rn⟩ := rn.unsn
      obtain rfl := rn.unnil
      cases rv
      cases rv2
      exact ⟨_, _, rfl, dmOk_c hh, fun p hp => q _ _ _ (I.grow hp) (.tup (SqT.of upd_same) (.cons (.int _) (.cons (.int _) .nil)))⟩
    · cases h
  · cases h
end
end RV
end
section
/-! The law's own end. -/
namespace RV
open PySem L2
/-- the law's def, called with the script -/
theorem script_run {P : Program} {w : World} {K : PySem.W.Frag} {mg mb : Str → Option Value} {k : Nat} {fa a : Addr} {fd : FuncData} {x : Str} {sp : Sp} {s1 : Shared} {vs : List Value} {ns : List Int}
    (KX : K.In s1.heap) (hns : s1.heap.Ns mainGlobals mg) (hb : s1.heap.Ns builtinsNs mb) (hbb : ∀ x : Str, x ≠ "__name__" → mb x = bootBuiltins x) (hlim : s1.heap.NoLimit) (hg : s1.gens = #[])
    (ha : s1.heap.get? a = some { cls := .type "list", data := .seq vs.toArray }) (hi : PyProof.Rows.IntsAre vs ns) (hl : ns.length ≤ sizeLine) (hr : Room k callerA)
    (F : ∀ base : Heap, K.In base → base.Ns mainGlobals mg → FnX true P w K mg base k fa fd [x] sp) (hbind : ∀ (s : Shared) (u : Value), BindsTo s fd ⟨[u], []⟩ [(x, u)])
    (hsp : ∀ H : Hp, SqL K H a (ns.map V.int) → sp [.ref a] H (fun v _ => v = .bl true) fun _ _ _ => False) :
    codeAny (model P w) callerA (.call (.ref fa) ⟨[.ref a], []⟩) (fun r s' => r = .ok (.ret (.bool true)) ∧ OldK s1.heap s'.heap ∧ s'.os = s1.os ∧ PyProof.Rows.AllBare s'.gens) s1 := by
  have rv := vals_ints hi
  -- H tracks the script alone (or nothing), the script locked
  have core : ∀ H : Hp, (∀ c, H c = none ∨ ∃ o xs, H c = some (.frz o (.lst xs))) → SqL K H a (ns.map V.int) → HOk P w H s1.heap → (∀ c, H c ≠ none → c = a) → (H a ≠ none → K.lookup a = none) →
      codeAny (model P w) callerA (.call (.ref fa) ⟨[.ref a], []⟩) (fun r s' => r = .ok (.ret (.bool true)) ∧ OldK s1.heap s'.heap ∧ s'.os = s1.os ∧ PyProof.Rows.AllBare s'.gens) s1 := by
    intro H only hS hok alone hK
    have dictOut : ∀ {c : Addr} {o : Obj} {es : Array DictEntry} {ep : Nat}, s1.heap.get? c = some o → o.data = .dict es ep → H c = none := by
      intro c o es ep e d
      cases q : H c with
      | none => rfl
      | some u =>
        have e' : c = a := alone c (by rw [q]; simp)
        subst e'
        rw [ha] at e
        cases e
        exact absurd d (by intro z; cases z)
    have ns' : ∀ {c : Addr} {m : Str → Option Value}, s1.heap.Ns c m → (hidT s1.heap H).Ns c m := fun {c m} ⟨o, es, ep, e, d, r⟩ => ⟨o, es, ep, hidT_get e (dictOut e d), d, r⟩
    have KB : K.In (hidT s1.heap H) := by
      intro c o e
      refine hidT_get (KX c o e) ?_
      cases q : H c with
      | none => rfl
      | some u =>
        have e' : c = a := alone c (by rw [q]; simp)
        subst e'
        rw [hK (by rw [q]; simp)] at e
        cases e
    have md : Mod K mg (hidT s1.heap H) := by
      obtain ⟨mc, l1, l2⟩ := hlim
      exact ⟨KB, ns' hns, ⟨mb, ns' hb, hbb⟩, ⟨mc, ns' l1, l2⟩⟩
    have e0 : Env0 P w K mg (hidT s1.heap H) callerA [] s1 H := by
      refine ⟨rfl, md, fun c o e => of_hidT e, Nat.le_of_eq (hidT_size _ _), trivial, fun c hc => ?_, hok, .of_eq hg⟩
      exact absurd hc (by simp [frs])
    refine codeAny_mono ((F _ KB (ns' hns)).run callerA [] s1 H ⟨[.ref a], []⟩ [.ref a] [.ref a] _ _ (fun _ => rfl) hr e0 (hbind s1 (.ref a)) (.cons rfl .nil) (hsp H hS)) fun r s' h => ?_
    cases r with
    | error e =>
      obtain ⟨a, B, H', cls, d, c⟩ := h
      exact c.2.2.2.2.2.2.2.elim
    | ok fl =>
      cases fl with
      | next => exact h.elim
      | brk => exact h.elim
      | cont => exact h.elim
      | ret u =>
        obtain ⟨v, H', os, bare, un, hok', r', q⟩ := h
        have q' : v = .bl true := q
        subst q'
        obtain rfl : u = Value.bool true := r'
        refine ⟨rfl, OldK.of_keep fun c o e => ?_, os, bare⟩
        rcases only c with z | ⟨ob, xs, z⟩
        · exact un.keep c o e z (by simp [frs]) (by simp)
        · obtain ⟨e1, _⟩ := hok c _ z
          obtain ⟨e2, _⟩ := hok' c _ (un.frzs c ob _ z)
          rw [e] at e1
          cases e1
          exact e2
  cases hk : K.lookup a with
  | some o =>
    have e := KX a o hk
    rw [ha] at e
    cases e
    refine core (fun _ => none) (fun _ => .inl rfl) ?_ (fun c u z => by cases z) (fun c z => absurd rfl z) fun z => absurd rfl z
    refine .inr ⟨_, vs.toArray, _, hk, rfl, rfl, rfl, ?_, by simpa using rv⟩
    rw [List.size_toArray, hi.length]
    exact hl
  | none =>
    let lock : HO := .frz { cls := .type "list", data := .seq vs.toArray } (.lst (ns.map V.int))
    have at1 : (fun c => if c = a then some lock else none : Hp) a = some lock := if_pos rfl
    refine core (fun c => if c = a then some lock else none) (fun c => ?_) (.inl (.inr ⟨_, at1⟩)) (fun c u z => ?_) (fun c z => ?_) fun _ => hk
    · by_cases hc : c = a
      · exact .inr ⟨_, _, if_pos hc⟩
      · exact .inl (if_neg hc)
    · by_cases hc : c = a
      · have z' : some lock = some u := (if_pos hc).symm.trans z
        cases z'
        subst hc
        exact ⟨ha, by rw [List.length_map]; exact hl, vs, _, rv, ha⟩
      · have z' : none = some u := (if_neg hc).symm.trans z
        cases z'
    · by_cases hc : c = a
      · exact hc
      · exact absurd (if_neg hc) z
/-- F gives the written part, the function object, what the law computes, over every base -/
theorem walk_G {l : PySem.W.OpenLaw} {n k : Nat} {q : Program} {loose : List Str} {XP : (Str → Option Value) → Heap → Prop} {YP : World → Heap → Prop} {d : DefRec} {x : Str}
    (hn : l.most = some n) (hn2 : n ≤ sizeLine) (hdf : d.params.defaults = []) (hr : Room k callerA)
    (F : ∀ (w : World) (mg : Str → Option Value) (fa : Addr) (h : Heap), YP w h → h.Ns mainGlobals mg → mg d.name = some (.ref fa) →
      ∃ (K : PySem.W.Frag) (fd : FuncData) (G : List D → M), K.In h ∧ (∀ (s : Shared) (u : Value), BindsTo s fd ⟨[u], []⟩ [(x, u)]) ∧
        (∀ (ns : List Int) (q : D → WS → Prop) (x : Xq), ns.length ≤ n → q (.bl true) [] → G [.scr ns] [] q x) ∧
        ∀ base : Heap, K.In base → base.Ns mainGlobals mg → FnX true l.prog w K mg base k fa fd [x] (spG K 1 G)) :
    PySem.W.WalkO q loose XP YP l.row.toRowW d [] (fun f vs => PySem.call f vs) := by
  refine Att.attach_call hn hdf fun w s0 s1 mg mb fa o pm cd doc a vs ns Gr Y ho hd hcd hmg hobj hints hlen hg => ?_
  obtain ⟨K, fd, G, KX, hb, hG, hF⟩ := F w mg fa _ Y Gr.T.g hmg
  refine script_run KX Gr.T.g Gr.T.b Gr.T.builtins Gr.T.nolimit hg hobj hints (Nat.le_trans hlen hn2) hr hF hb fun H hS => ?_
  refine ⟨[], H, [], [.scr ns], fun d _ => d = .bl true, noX, ⟨rfl, Ex.refl _, List.nodup_nil, fun i p c h => by simp at h⟩, .cons (.scr hS) .nil, rfl, hG ns _ _ hlen rfl, fun d S' bs F' H' v e _ r => ?_, XQ.no⟩
  have e : d = .bl true := e
  subst e
  cases r
  rfl
end RV
end
section
/-! What a caller wants of a def, a class, a property; operations for all kinds at once. -/
namespace RV
open PySem L2
section
variable (P : Program) (w : World) (K : PySem.W.Frag) (mg : Str → Option Value) (base : Heap)
/-- the module's name x is a def that computes G -/
def Fc (gd : Bool) (x : Str) (k n : Nat) (G : List D → M) : Prop := ∃ (f : Addr) (fd : FuncData) (ps : List Str), FnX gd P w K mg base k f fd ps (spG K n G) ∧ Binds K fd ps [] ∧ PySem.W.keepIn K (.ref f) = true ∧ mg x = some (.ref f)
/-- the module's name x is the class at C; its __init__ computes G; dvs: the defaults that fill up -/
def Mc (x : Str) (C : Addr) (k n : Nat) (G : List D → M) (dvs : List D) : Prop := ∃ (f : Addr) (fd : FuncData) (ps : List Str) (dv : List V) (ds : List Value), Mk K C f ∧ FnX false P w K mg base k f fd ps (spG K n G) ∧ Binds K fd ps ds ∧ Vals dv ds ∧ (∀ as F, RpL K as F dvs dv) ∧ mg x = some (.ref C)
/-- .. called with m1 values and keywords ks -/
def Mk_ (x : Str) (C : Addr) (k n m1 : Nat) (ks : List Str) (G : List D → M) (gD : List D → List D → List D) : Prop := ∃ (f : Addr) (fd : FuncData) (ps : List Str) (g : List Value → List Value → List Value) (gV : List V → List V → List V), Mk K C f ∧ FnX false P w K mg base k f fd ps (spG K n G) ∧ KBn K fd ps (m1 + 1) ks g gV ∧
  (∀ as F (ds zs : List D) (vs ws : List V) (s : V), RpL K as F ds vs → RpL K as F zs ws → ds.length = m1 → zs.length = ks.length → ∃ us, gV (s :: vs) ws = s :: us ∧ RpL K as F (gD ds zs) us) ∧ mg x = some (.ref C)
/-- f is a property of the class at C that computes G -/
def Pc (C : Addr) (f : Str) (k : Nat) (G : List D → M) : Prop := ∃ (pr g : Addr) (fd : FuncData) (ps : List Str), Cls K C ∧ PropOf K C f pr g ∧ FnX false P w K mg base k g fd ps (spG K 1 G) ∧ Binds K fd ps []
/-- the class at C has an own == that computes G -/
def Ec (C : Addr) (k : Nat) (G : List D → M) : Prop := ∃ (f : Addr) (fd : FuncData) (ps : List Str), FnX false P w K mg base k f fd ps (spG K 2 G) ∧ Binds K fd ps [] ∧ PySem.W.findIn K (.ref C) "__eq__" = some (some (.ref f)) ∧ PySem.W.isFn K (.ref f) = true ∧ PySem.W.findIn K (.ref C) "__ne__" = some (some (.builtin "object.__ne__")) ∧ PySem.W.mroIn K C (.type "object") = some true
end
section
variable {X : Cx} {W : WX} {e o a b : Expr} {es : List Expr} {pos p : Pos} {er ek : Env → ML} {ea eb : Env → M} {x f : Str} {k j n : Nat} {G : List D → M} {C : Addr} {dvs : List D} {l : Lk} {gd : Bool}
theorem ge_callF (tk : L2N.Takes X W) (c : Fc X.prog X.w X.K X.mg X.base gd x k n G) (hgd : gd = true → X.A.guards = some []) (hr : Room j X.A) (ha : GA X W (e :: es) er) (hj : k ≤ j := by decide) (hg : Gl X x := by rfl) (hdb : (x == ("__debug__" : Str)) = false := by decide) (h1 : starEach (e :: es) X.env = (false, eval e X.env) :: starEach es X.env := by rfl) (h2 : (backTo pos (starEach es X.env)).any (·.1) = false := by rfl) :
    GE X W (.Call (.Name x p) (e :: es) [] pos) (eFn n G [] er) := by
  obtain ⟨f, fd, ps, F, hb, hk, hm⟩ := c
  exact ge_call (dv := []) tk F hgd hr hj hm hk hb .nil (fun _ _ => .nil) ha hg hdb h1 h2
theorem ge_callF0 (tk : L2N.Takes X W) (c : Fc X.prog X.w X.K X.mg X.base gd x k n G) (hgd : gd = true → X.A.guards = some []) (hr : Room j X.A) (hj : k ≤ j := by decide) (hg : Gl X x := by rfl) (hdb : (x == ("__debug__" : Str)) = false := by decide) :
    GE X W (.Call (.Name x p) [] [] pos) (eFn n G [] aNil) := by
  obtain ⟨f, fd, ps, F, hb, hk, hm⟩ := c
  exact ge_call0 (dv := []) tk F hgd hr hj hm hk hb .nil (fun _ _ => .nil) hg hdb
theorem ge_makeF (tk : L2N.Takes X W) (c : Mc X.prog X.w X.K X.mg X.base x C k n G dvs) (hr : Room j X.A) (ha : GA X W (e :: es) er) (hj : k + 1 ≤ j := by decide) (hg : Gl X x := by rfl) (hdb : (x == ("__debug__" : Str)) = false := by decide) (h1 : starEach (e :: es) X.env = (false, eval e X.env) :: starEach es X.env := by rfl) (h2 : (backTo pos (starEach es X.env)).any (·.1) = false := by rfl) :
    GE X W (.Call (.Name x p) (e :: es) [] pos) (eMake l C n G dvs er) := by
  obtain ⟨f, fd, ps, dv, ds, M, F, hb, hd, hdv, hm⟩ := c
  exact ge_make tk M F hr hj hm hb hd hdv ha hg hdb h1 h2
theorem ge_makeF0 (tk : L2N.Takes X W) (c : Mc X.prog X.w X.K X.mg X.base x C k n G dvs) (hr : Room j X.A) (hj : k + 1 ≤ j := by decide) (hg : Gl X x := by rfl) (hdb : (x == ("__debug__" : Str)) = false := by decide) :
    GE X W (.Call (.Name x p) [] [] pos) (eMake l C n G dvs aNil) := by
  obtain ⟨f, fd, ps, dv, ds, M, F, hb, hd, hdv, hm⟩ := c
  exact ge_make0 tk M F hr hj hm hb hd hdv hg hdb
theorem ge_makeKF {m1 : Nat} {ks : List Str} {gD : List D → List D → List D} {kws : List Keyword} (tk : L2N.Takes X W) (c : Mk_ X.prog X.w X.K X.mg X.base x C k n m1 ks G gD) (hr : Room j X.A) (ha : GA X W (e :: es) er) (hk : GK X W kws ek) (hj : k + 1 ≤ j := by decide) (hg : Gl X x := by rfl)
    (hall : (backToKw pos (keywordEach kws X.env)).all (·.1.isSome) = true := by rfl) (hks : (backToKw pos (keywordEach kws X.env)).filterMap (·.1) = ks := by rfl) (hdb : (x == ("__debug__" : Str)) = false := by decide)
    (he : starEach (e :: es) X.env = (false, eval e X.env) :: starEach es X.env := by rfl) (hpl : ((backTo pos (starEach (e :: es) X.env)).any (·.1) || (backToKw pos (keywordEach kws X.env)).any (·.1.isNone)) = false := by rfl) :
    GE X W (.Call (.Name x p) (e :: es) kws pos) (eMakeK l C n m1 ks.length G gD er ek) := by
  obtain ⟨f, fd, ps, g, gV, M, F, hb, hgD, hm⟩ := c
  exact ge_makeK tk M F hr hj hm hb hgD ha hk hg hall hks hdb he hpl
theorem ge_makeKF0 {ks : List Str} {gD : List D → List D → List D} {kws : List Keyword} (tk : L2N.Takes X W) (c : Mk_ X.prog X.w X.K X.mg X.base x C k n 0 ks G gD) (hr : Room j X.A) (hk : GK X W kws ek) (hj : k + 1 ≤ j := by decide) (hg : Gl X x := by rfl)
    (hall : (backToKw pos (keywordEach kws X.env)).all (·.1.isSome) = true := by rfl) (hks : (backToKw pos (keywordEach kws X.env)).filterMap (·.1) = ks := by rfl) (hdb : (x == ("__debug__" : Str)) = false := by decide)
    (hpl : ((backTo pos (starEach [] X.env)).any (·.1) || (backToKw pos (keywordEach kws X.env)).any (·.1.isNone)) = false := by rfl) :
    GE X W (.Call (.Name x p) [] kws pos) (eMakeK l C n 0 ks.length G gD aNil ek) := by
  obtain ⟨f, fd, ps, g, gV, M, F, hb, hgD, hm⟩ := c
  exact ge_makeK0 tk M F hr hj hm hb hgD hk hg hall hks hdb hpl
theorem ge_propF (c : Pc X.prog X.w X.K X.mg X.base C f k G) (hr : Room j X.A) (ha : GE X W e ea) (hj : k + 1 ≤ j := by decide) (hab : attributeBase e f X.env (eval e X.env) = eval e X.env := by rfl) : GE X W (.Attribute e f pos) (eProp C G ea) := by
  obtain ⟨pr, g, fd, ps, cl, hp, F, hb⟩ := c
  exact ge_prop cl hp F hr hj hb ha hab
theorem op_eqF (c : Ec X.prog X.w X.K X.mg X.base C k G) (hr : Room j X.A) (hj : k ≤ j := by decide) : OpR X (compareOp .Eq) (rEqOwn X.K C (spG X.K 2 G) false) := by
  obtain ⟨f, fd, ps, F, hb, hs, hf, _, _⟩ := c
  exact op_eqOwn F hr hj hs hf hb
theorem op_neF (c : Ec X.prog X.w X.K X.mg X.base C k G) (hr : Room j X.A) (hj : k + 1 ≤ j := by decide) : OpR X (compareOp .NotEq) (rEqOwn X.K C (spG X.K 2 G) true) := by
  obtain ⟨f, fd, ps, F, hb, hs, hf, hne, hm⟩ := c
  exact op_neOwn F hr hj hs hf hb hne hm
end
/-! ### all kinds at once -/
section
variable {K : PySem.W.Frag} {X : Cx}
theorem RO.eq {r : R2} {f g : WS → D → D → Option D} (h : RO K r f) (e : ∀ S x y d, g S x y = some d → f S x y = some d) : RO K r g := fun as F H S x y d vx vy I rx ry hd => h as F H S x y d vx vy I rx ry (e S x y d hd)
def addD : WS → D → D → Option D := fun _ x y => match x, y with
  | .int i, .int j => some (.int (i + j))
  | .str a, .str b => if small (a.length + b.length) = true then some (.str (a ++ b)) else none
  | .lst a, .lst b => if small (a.length + b.length) = true then some (.lst (a ++ b)) else none
  | _, _ => none
def rAddS_ : R2 := fun x y H Q => ∃ i j, x = .str i ∧ y = .str j ∧ i.length + j.length ≤ sizeLine ∧ Q (.str (i ++ j)) H
def rAddA : R2 := fun x y H Q => (rI0 fun i j => .int (i + j)) x y H Q ∨ (rAddS_ x y H Q ∨ rCat x y H Q)
theorem op_addA : OpR X (binaryOp .Add) rAddA := OpR.or op_add (OpR.or op_add_str op_cat)
theorem ro_addA : RO K rAddA addD := RO.eq (RO.or (ro_int (f := fun i j => i + j)) (RO.or (r := rAddS_) ro_catS ro_catL)) fun S x y d h => by
  unfold addD at h
  split at h
  · simpa [intD] using h
  · simp only [intD, catS, Option.orElse] at h ⊢
    rw [h]
  · simpa [intD, catS, catL] using h
  · cases h
def mulD : WS → D → D → Option D := intCD mulOk fun i j => i * j
def powD : WS → D → D → Option D := intCD powOk fun i j => i ^ j.toNat
def modD : WS → D → D → Option D := intCD posR fun i j => i % j
def fdivD : WS → D → D → Option D := intCD divOk fun i j => i / j
def subD : WS → D → D → Option D := intD fun i j => i - j
theorem ro_mul : RO K (rI CMul fun i j => .int (i * j)) mulD := ro_intC fun _ _ h => mulOk_c h
theorem ro_pow : RO K (rI CPow fun i j => .int (i ^ j.toNat)) powD := ro_intC fun _ _ h => powOk_c h
theorem ro_mod : RO K (rI (fun _ j => 0 < j) fun i j => .int (i % j)) modD := ro_intC fun _ _ h => of_decide_eq_true h
theorem ro_fdiv : RO K (rI CDiv fun i j => .int (i / j)) fdivD := ro_intC fun i j h => by
  have h2 : 0 < j ∧ j < 1073741824 := of_decide_eq_true h
  exact h2
theorem ro_sub : RO K (rI0 fun i j => .int (i - j)) subD := ro_int
def ltD : WS → D → D → Option D := cmpD fun i j => decide (i < j)
def leD : WS → D → D → Option D := cmpD fun i j => decide (i ≤ j)
def gtD : WS → D → D → Option D := cmpD fun i j => decide (j < i)
def geD : WS → D → D → Option D := cmpD fun i j => decide (j ≤ i)
theorem ro_lt : RO K (rI0 fun i j => .bl (decide (i < j))) ltD := ro_cmp
theorem ro_le : RO K (rI0 fun i j => .bl (decide (i ≤ j))) leD := ro_cmp
theorem ro_gt : RO K (rI0 fun i j => .bl (decide (j < i))) gtD := ro_cmp
theorem ro_ge : RO K (rI0 fun i j => .bl (decide (j ≤ i))) geD := ro_cmp
def negD : WS → D → Option D := fun _ x => match x with
  | .int i => some (.int (-i))
  | _ => none
theorem ru_neg : RU K (rU fun i => .int (-i)) negD := fun as F H S x d vx I rx h Q q => by
  unfold negD at h
  split at h
  · cases h
    cases rx
    exact ⟨_, rfl, keep I q (.int _)⟩
  · cases h
/-- plain data; a cell that is a list counts as the list that it is now -/
def pyS (S : WS) : D → Option PyData
  | .cell k => match S[k]? with
    | some (.lst ds) => (D.pyL ds).map PyData.list
    | _ => none
  | d => D.py d
theorem pyS_dp {as : List Addr} {F H : Hp} {S : WS} {d : D} {v : V} {p : PyData} (I : Sit K as F H S) (r : Rp K as F d v) (h : pyS S d = some p) : Dp K H v p := by
  cases r with
  | cell ha =>
    rename_i k a
    unfold pyS at h
    split at h
    · rename_i k' e
      cases e
      split at h
      · rename_i ds hS
        simp only [Option.map_eq_some_iff] at h
        obtain ⟨ps, h2, rfl⟩ := h
        obtain ⟨_, o, z2, z3⟩ := I.cell _ _ _ ha hS
        cases o with
        | lst xs => exact .lst (SqL.of z2) (RpL.dp I.ex z3 h2)
        | _ => exact z3.elim
      · cases h
    · rename_i hne
      exact absurd rfl (hne _)
  | non => exact Rp.dp (as := as) I.ex .non h
  | bl b => exact Rp.dp (as := as) I.ex (.bl b) h
  | int i => exact Rp.dp (as := as) I.ex (.int i) h
  | str x => exact Rp.dp (as := as) I.ex (.str x) h
  | ty n => exact Rp.dp (as := as) I.ex (.ty n) h
  | adr a => exact Rp.dp (as := as) I.ex (.adr a) h
  | scr z => exact Rp.dp (as := as) I.ex (.scr z) h
  | tup z1 z2 => exact Rp.dp I.ex (.tup z1 z2) h
  | lst z1 z2 => exact Rp.dp I.ex (.lst z1 z2) h
  | obj z1 z2 => exact Rp.dp I.ex (.obj z1 z2) h
  | dic z1 z2 => exact Rp.dp I.ex (.dic z1 z2) h
def eqPyS (S : WS) (x y : D) : Option Bool := (pyS S x).bind fun a => (pyS S y).bind fun b => if SeqAt.shaped a = true ∧ SeqAt.shaped b = true then some (PyData.eqv a b) else none
theorem ro_eqPyS : RO K (rEqD K) (fun S x y => (eqPyS S x y).map D.bl) := fun as F H S x y d vx vy I rx ry h Q q => by
  unfold eqPyS at h
  simp only [Option.map_eq_some_iff, Option.bind_eq_some_iff] at h
  obtain ⟨c, ⟨a, h1, b, h2, h3⟩, rfl⟩ := h
  split at h3
  · rename_i hs
    cases h3
    exact ⟨a, b, pyS_dp I rx h1, pyS_dp I ry h2, hs.1, hs.2, keep I q (.bl _)⟩
  · cases h3
theorem ro_nePyS : RO K (rNeD K) (fun S x y => (eqPyS S x y).map fun c => D.bl (!c)) := fun as F H S x y d vx vy I rx ry h Q q => by
  unfold eqPyS at h
  simp only [Option.map_eq_some_iff, Option.bind_eq_some_iff] at h
  obtain ⟨c, ⟨a, h1, b, h2, h3⟩, rfl⟩ := h
  split at h3
  · rename_i hs
    cases h3
    exact ⟨a, b, pyS_dp I rx h1, pyS_dp I ry h2, hs.1, hs.2, keep I q (.bl _)⟩
  · cases h3
/-- texts, numbers, bools; else plain data -/
def eqAny (S : WS) (x y : D) : Option Bool := (eqScal x y).orElse fun _ => eqPyS S x y
def eqD : WS → D → D → Option D := fun S x y => (eqAny S x y).map D.bl
def neD : WS → D → D → Option D := fun S x y => (eqAny S x y).map fun c => D.bl (!c)
def rEqA (K : PySem.W.Frag) : R2 := fun x y H Q => rEq x y H Q ∨ rEqD K x y H Q
def rNeA (K : PySem.W.Frag) : R2 := fun x y H Q => rNe x y H Q ∨ rNeD K x y H Q
theorem ro_eqA : RO K (rEqA K) eqD := RO.eq (RO.or ro_eqS ro_eqPyS) fun S x y d h => by
  unfold eqD eqAny at h
  cases h1 : eqScal x y with
  | none =>
    rw [h1] at h
    simpa using h
  | some c =>
    rw [h1] at h
    simpa using h
theorem ro_neA : RO K (rNeA K) neD := RO.eq (RO.or ro_neS ro_nePyS) fun S x y d h => by
  unfold neD eqAny at h
  cases h1 : eqScal x y with
  | none =>
    rw [h1] at h
    simpa using h
  | some c =>
    rw [h1] at h
    simpa using h
theorem op_eqA {j : Nat} (hr : Room j X.A) : OpR X (compareOp .Eq) (rEqA X.K) := OpR.or op_eq (op_eqD hr.units)
theorem op_neA {j : Nat} (hr : Room j X.A) : OpR X (compareOp .NotEq) (rNeA X.K) := OpR.or op_ne (op_neD hr.units)
theorem RSl.or {r r' : V → Option Int → Option Int → Hp → VK → Prop} {f g : WS → D → Option Int → Option Int → Option D} (h : RSl K r f) (h' : RSl K r' g) : RSl K (fun x lo hi H Q => r x lo hi H Q ∨ r' x lo hi H Q) (fun S x lo hi => (f S x lo hi).orElse fun _ => g S x lo hi) := fun as F H S x d vx lo hi I rx e Q q => by
  replace e : ((f S x lo hi).orElse fun _ => g S x lo hi) = some d := e
  cases h1 : f S x lo hi with
  | some z =>
    rw [h1] at e
    have e' : z = d := by simpa using e
    subst e'
    exact .inl (h as F H S x z vx lo hi I rx h1 Q q)
  | none =>
    rw [h1] at e
    exact .inr (h' as F H S x d vx lo hi I rx (by simpa using e) Q q)
def slD : WS → D → Option Int → Option Int → Option D := fun _ x lo hi => match x with
  | .str z => if small z.length = true then some (.str (cutS z lo hi)) else none
  | .lst ds => some (.lst (cutD ds lo hi))
  | _ => none
def rSlA (K : PySem.W.Frag) : V → Option Int → Option Int → Hp → VK → Prop := fun x lo hi H Q => rSlS x lo hi H Q ∨ rSlL K x lo hi H Q
theorem sl_A : SlR X (rSlA X.K) := SlR.or sl_str sl_list
theorem rsl_A : RSl K (rSlA K) slD := fun as F H S x d vx lo hi I rx h => (RSl.or rsl_str rsl_lst) as F H S x d vx lo hi I rx (by
  unfold slD at h
  split at h
  · simp only [slS, Option.orElse] at h ⊢
    rw [h]
  · simpa [slS, slL] using h
  · cases h)
end
end RV
end
section
/-! append, tuple(..), list(..), enumerate. -/
namespace RV
open PySem L2
section
variable {K : PySem.W.Frag} {X : Cx} {W : WX} {o e : Expr} {pos apos cpos : Pos} {eo ee ea : Env → M}
/-- what is never come to -/
def eNever : Env → M := fun _ _ _ _ => False
theorem ge_never {e : Expr} : GE X W e eNever := ⟨fun _ _ _ => False, ⟨fun _ _ _ _ _ _ h => h.elim⟩, fun _ _ _ _ _ _ _ _ _ _ e => e.elim⟩
def tupleD : WS → List D → Option D := fun S xs => match xs with
  | [.tup ds] => some (.tup ds)
  | [x] => (itemsD S x).map D.tup
  | _ => none
theorem items_l {as : List Addr} {F H : Hp} {S : WS} {x : D} {v : V} {ds : List D} (I : Sit K as F H S) (r : Rp K as F x v) (h : itemsD S x = some ds) (hn : ∀ ys, x ≠ .tup ys) : ∃ a xs, v = .ref a ∧ SqL K H a xs ∧ RpL K as F ds xs := by
  cases x with
  | lst ds' =>
    cases h
    cases r with
    | lst h1 r1 => exact ⟨_, _, rfl, SqL.of (I.ex _ _ h1), r1⟩
  | tup ds' => exact absurd rfl (hn _)
  | scr ns =>
    cases h
    cases r with
    | scr h1 => exact ⟨_, _, rfl, I.ex.sqL h1, rpl_ints ns⟩
  | cell k =>
    unfold itemsD at h
    cases hS : S[k]? with
    | none => simp [hS] at h
    | some c =>
      cases c with
      | lst es =>
        simp only [hS] at h
        cases h
        cases r with
        | cell ha =>
          obtain ⟨z1, ob, z2, z3⟩ := I.cell k _ _ ha hS
          cases ob with
          | lst xs => exact ⟨_, _, rfl, SqL.of z2, RpL.mono (Ex.refl _) pre_nil z3⟩
          | _ => exact z3.elim
      | _ => simp [hS] at h
  | _ => cases h
/-- a kept list of a cell's items, a tuple of a list's -/
theorem rc_tuple : RC K (fun xs H Q => ∃ p ys, xs = [.ref p] ∧ ((SqL K H p ys ∧ ∀ l, H l = none → Q (.ref l) (upd H l (.tup ys))) ∨ (SqT K H p ys ∧ Q (.ref p) H))) tupleD := fun as F H S ds d vs I r h Q q => by
  unfold tupleD at h
  split at h
  · cases h
    obtain ⟨v, ws, rfl, rv, rn⟩ := r.unsn
    obtain rfl := rn.unnil
    cases rv with
    | tup h1 r1 => exact ⟨_, _, rfl, .inr ⟨I.ex.sqT h1, q F H _ (Grow.refl I) (.tup h1 r1)⟩⟩
  · rename_i x hx
    obtain ⟨v, ws, rfl, rv, rn⟩ := r.unsn
    obtain rfl := rn.unnil
    simp only [Option.map_eq_some_iff] at h
    obtain ⟨es, h1, rfl⟩ := h
    obtain ⟨a, xs, rfl, sq, re⟩ := items_l I rv h1 fun ys e => hx ys e
    refine ⟨a, xs, rfl, .inl ⟨sq, fun l hl => ?_⟩⟩
    have g := I.grow (o := .tup xs) hl
    exact q _ _ _ g (.tup (SqT.of upd_same) (re.mono g.ex g.pre))
  · cases h
def listD : WS → List D → Option D := fun S xs => match xs with
  | [x] => (itemsD S x).map D.lst
  | _ => none
theorem rc_list : RC K (fun xs H Q => ∃ p ys, xs = [.ref p] ∧ (SqL K H p ys ∨ SqT K H p ys) ∧ ∀ l, H l = none → Q (.ref l) (upd H l (.lst ys))) listD := fun as F H S ds d vs I r h Q q => by
  unfold listD at h
  split at h
  · rename_i x
    obtain ⟨v, ws, rfl, rv, rn⟩ := r.unsn
    obtain rfl := rn.unnil
    simp only [Option.map_eq_some_iff] at h
    obtain ⟨es, h1, rfl⟩ := h
    obtain ⟨a, xs, rfl, sq, re⟩ := items_v I rv h1
    refine ⟨a, xs, rfl, sq, fun l hl => ?_⟩
    have g := I.grow (o := .lst xs) hl
    exact q _ _ _ g (.lst upd_same (re.mono g.ex g.pre))
  · cases h
/-! ### append -/
/-- the cell's list -/
def onL (S : WS) (k : Nat) (f : List D → Prop) : Prop := onS S[k]? fun c => onLst c f
theorem onL_ok {S : WS} {k : Nat} {f : List D → Prop} (h : onL S k f) : ∃ ds, S[k]? = some (.lst ds) ∧ f ds := by
  obtain ⟨c, h1, h2⟩ := onS_ok h
  obtain ⟨ds, rfl, h2⟩ := onLst_ok h2
  exact ⟨ds, h1, h2⟩
def sAppend (eo ee : Env → M) : Env → MS := fun ρ S k => eo ρ S (fun o S1 => onCe o fun i => onL S1 i fun _ => ee ρ S1 (fun d S2 => onL S2 i fun ds => (D.clean 0 d = true ∧ small ds.length = true) ∧ k.nx ρ (S2.set i (.lst (ds ++ [d])))) fun e S' => k.ex e ρ S') fun e S' => k.ex e ρ S'
theorem tyV_lst {H : Hp} {p : Addr} {xs : List V} (h : H p = some (.lst xs)) : tyV K "list" (.ref p) H := .inl ⟨rfl, xs, SqL.of h⟩
theorem gs_append (ho : GE X W o eo) (he : GE X W e ee) (hs0 : swapsWith (.Call (.Attribute o "append" apos) [e] [] cpos) none pos.line X.env = pure false := by rfl) (hbase : attributeBase o "append" X.env (eval o X.env) = eval o X.env := by rfl)
    (hfew : ((backTo cpos (starEach [e] X.env)).all (fun x => !x.1) && (backToKw cpos (keywordEach [] X.env)).all (fun x => x.1.isSome)
      && decide (([e] : List Expr).length + ([] : List Keyword).length + (if ([] : List Keyword).isEmpty then 0 else 1) < 30)) = true := by rfl)
    (hline : (apos.endLine == cpos.line) = true := by rfl) (hs : starEach [e] X.env = (false, eval e X.env) :: starEach [] X.env := by rfl) (hplain : (backTo cpos (starEach [] X.env)).any (·.1) = false := by rfl) :
    GS X W (.Expr (.Call (.Attribute o "append" apos) [e] [] cpos) pos) (sAppend eo ee) := by
  obtain ⟨to, po, mo⟩ := ho
  obtain ⟨te, pe, me⟩ := he
  refine ⟨_, ps_expr (pe_bm PySem.F.plainAttrs_list PySem.F.slot_list_append PySem.F.type_list_append mt_append po (pa_cons pe pa_nil hs) hbase hfew hline hs hplain) hs0, fun as F H S ρ σ I R k h E q => ?_⟩
  refine mo as F H S ρ σ I R _ _ h _ (fun d1 S1 bs F1 H1 v1 h1 g1 r1 => ?_) (q.xq R)
  cases r1 with
  | cell ha =>
    obtain ⟨ds0, hS0, h1⟩ := onL_ok h1
    obtain ⟨_, o0, z0, z1⟩ := g1.sit.cell _ _ _ ha hS0
    cases o0 with
    | lst xs0 =>
      refine ⟨tyV_lst z0, ?_⟩
      refine me bs F1 H1 S1 ρ σ g1.sit (R.grow g1) _ _ h1 _ (fun d2 S2 cs F2 H2 v2 h2 g2 r2 => ?_) ((q.step g1).xq (R.grow g1))
      obtain ⟨ds, hS, hc, h2⟩ := onL_ok h2
      have ha2 := g2.pre _ _ ha
      obtain ⟨_, o2, y0, y1⟩ := g2.sit.cell _ _ _ ha2 hS
      cases o2 with
      | lst xs =>
        have hl : xs.length < sizeLine := by
          have e1 : ds.length = xs.length := RpL.length y1
          have e2 : ds.length ≤ 100000 := of_decide_eq_true hc.2
          have e3 : (100000 : Nat) < sizeLine := by decide
          omega
        refine ⟨_, xs, v2, rfl, rfl, y0, hl, ?_⟩
        have r2' : Rp X.K [] F2 d2 v2 := r2.back (fun k a hk => by omega) hc.1
        have g3 := g2.sit.put (c' := .lst (ds ++ [d2])) (o := .lst (xs ++ [v2])) ha2 hS rfl rfl (RpL.append y1 (.cons r2' .nil))
        have g := (g1.trans g2).trans g3
        exact q.nx ρ _ cs F2 _ σ h2 g (R.grow g)
      | _ => exact y1.elim
    | _ => exact z1.elim
  | _ => exact h1.elim
end
theorem enum_new1 {z : Value} {ob : Obj} {HP : Heap → Prop} (bg : PySem.Begins z ob HP) :
    Meets (Builtin.«enumerate.__new__» ⟨[.type "enumerate", z], []⟩) (fun _ R st => HP st.heap ∧
      R (.ok (.ret (.ref (st.heap.push ob).objs.size))) { st with heap := (st.heap.push ob).push { cls := .type "enumerate", data := .fields #[.none, .bool false, .ref st.heap.objs.size, rawInt 0, .none, .none] } }) :=
  .of_wp fun prog w A R st hh => by
    obtain ⟨hp, gs, dr, tks, oss⟩ := st
    obtain ⟨hz, hh⟩ := hh
    have subE := sub_enumerate
    have itz : ∀ {A2 : Around} {E2 : Value → Shared → Prop} {Q2 : Value → Shared → Prop}, Q2 (.ref hp.objs.size) ⟨hp.push ob, gs, dr, tks, oss⟩ → wpAny (model prog w) A2 (pyIter z) Q2 E2 ⟨hp, gs, dr, tks, oss⟩ :=
      fun q => bg.iter prog w _ _ ⟨hp, gs, dr, tks, oss⟩ _ hz q
    wp_walk using itz
    refine wpAny_stack_any fun stk => wpAny_pure ?_
    split
    · rename_i cc _ _ _ _ _
      cases (cc == Value.type "enumerate")
      · wp_walk using itz
        exact ⟨_, rfl, hh⟩
      · wp_walk using itz
        exact ⟨_, rfl, hh⟩
    · wp_walk using itz
      exact ⟨_, rfl, hh⟩

theorem call_enumT {sh : Shared} {P : Program} {w : World} {A : Around} {E : Value → Shared → Prop} {t : Addr} {its : Array Value} {Q : Value → Shared → Prop} (ht : sh.heap.IsTuple t its)
    (k : ∀ h2, IsEnum h2 (sh.heap.objs.size + 1) sh.heap.objs.size 0 .none → h2.IsTupleIter sh.heap.objs.size t 0 → h2.objs.size = sh.heap.objs.size + 2 → (∀ b u, sh.heap.get? b = some u → h2.get? b = some u) → Q (.ref (sh.heap.objs.size + 1)) { sh with heap := h2 }) :
    wpAny (model P w) A (call (.type "enumerate") [.ref t]) Q E sh := by
  have bg := PySem.begins_tuple t its
  refine callType_new PySem.F.called_enumerate (by decide) (PySem.F.typeCall_enumerate_1 _) (PySem.F.newCall_enumerate_1 _) (fun ob => PySem.F.args_object_init_2 ob _) PySem.F.entry_enumerate_new (enum_new1 bg) ⟨ht, ?_⟩
  have sz : (sh.heap.push { cls := .type "tuple_iterator", data := .fields #[.ref t, .int 0 0] }).objs.size = sh.heap.objs.size + 1 := Heap.size_push ..
  show _ ∧ _
  rw [sz]
  have en : IsEnum ((sh.heap.push { cls := .type "tuple_iterator", data := .fields #[.ref t, .int 0 0] }).push
      { cls := .type "enumerate", data := .fields #[.none, .bool false, .ref sh.heap.objs.size, rawInt 0, .none, .none] }) (sh.heap.objs.size + 1) sh.heap.objs.size 0 .none := by
    have q := Heap.get?_push_size (sh.heap.push { cls := .type "tuple_iterator", data := .fields #[.ref t, .int 0 0] })
      (o := { cls := .type "enumerate", data := .fields #[.none, .bool false, .ref sh.heap.objs.size, rawInt 0, .none, .none] }) rfl
    rw [sz] at q
    exact q
  exact ⟨⟨_, en, rfl⟩, k _ en ⟨_, Heap.get?_push_of_some _ (Heap.get?_push_size _ rfl), rfl, rfl⟩ (by rw [Heap.size_push, sz]) fun b u q => Heap.get?_push_of_some _ (Heap.get?_push_of_some _ q)⟩
/-- the tuple at a, each item in a new pair -/
def IteT (K : PySem.W.Frag) (a : Addr) : It :=
  ⟨fun i H => ∃ (ys : List V) (y : V), SqT K H a ys ∧ ys[i]? = some y, fun i H v H2 => ∃ B y, v = .ref B ∧ H B = none ∧ H2 = upd H B (.tup [.int (i : Nat), y]) ∧ ∀ ys, SqT K H a ys → ys[i]? = some y, fun i H => ∃ ys : List V, SqT K H a ys ∧ ys.length ≤ i⟩
theorem turn_enumT {P : Program} {w : World} {K : PySem.W.Frag} {tgs : List Expr} {kt : Nat} {tp : Pos} (a en it : Addr) :
    Turn P w K (.Tuple tgs kt tp) (IteT K a) [en, it] en (fun i h => (∃ pv, IsEnum h en it ((i : Nat) : Int) pv) ∧ h.IsTupleIter it a i ∧ en ≠ it) where
  mem := by simp
  obj := fun i h st b hb => by
    obtain ⟨⟨pv, he⟩, ⟨ob, ho, hc, hd⟩, _⟩ := st
    have bb : b = en ∨ b = it := by simpa using hb
    rcases bb with z | z
    · subst z
      exact ⟨_, he, fun v q => nomatch q⟩
    · subst z
      exact ⟨ob, ho, fun v q => by rw [hd] at q; cases q⟩
  keep := fun i h h2 st kp => by
    obtain ⟨⟨pv, he⟩, hi, hne⟩ := st
    exact ⟨⟨pv, kp en (by simp) _ he⟩, hi.at fun ob q => kp it (by simp) ob q, hne⟩
  item := by
    intro X hP hw hK hc i pins s σ H E I hf st hg
    subst hP hw hK
    obtain ⟨⟨pv, he⟩, hit, hne⟩ := st
    obtain ⟨ys, y, hq, hy⟩ := hg
    obtain ⟨its, rv, tp', hz⟩ := I.tuple hq
    obtain ⟨u, hu, ru⟩ := rv.get hy
    have tup : s.heap.IsTuple a its.toArray := tp'
    have enl : en < s.heap.objs.size := Heap.lt_size he
    have itl : it < s.heap.objs.size := by
      obtain ⟨_, q, _⟩ := hit
      exact Heap.lt_size q
    have ne1 : a ≠ it := fun z => by
      obtain ⟨o1, q1, c1, _⟩ := hit
      obtain ⟨o2, q2, c2, _⟩ := tup
      rw [z, q1] at q2
      cases q2
      rw [c1] at c2
      simp at c2
    have ne2 : en ≠ a := fun z => by
      obtain ⟨o2, q2, c2, _⟩ := tup
      rw [← z] at q2
      rw [show s.heap.get? en = some _ from he] at q2
      cases q2
      simp at c2
    have dr := PySem.Draws.tuple (prog := X.prog) (w := X.w) (A := X.A.in1) (I.ok.hd hc) it a ne1 its.toArray
    have hlt : i < its.toArray.size := by
      have := (List.getElem?_eq_some_iff.mp hu).1
      simpa using this
    refine PySem.wpAny_pyNext_enum_itemD dr he ⟨hit, tup⟩ hlt hne (by simp; exact ⟨hne, ne2⟩) fun x h2 tk px ho st2 hT hsz hk => ?_
    have ex : x = u := by
      have e1 : its.toArray[i]? = some u := by simpa using hu
      rw [show its.toArray[i]? = some x from px] at e1
      exact Option.some.inj e1
    subst ex
    refine ⟨_, rfl, wpAny_letOwnedTupleGo_enum (s := { s with heap := h2, toks := tk + 1 }) ho fun h3 he3 sb => ?_⟩
    have hT3 : h3.get? s.heap.objs.size = some { cls := .type "tuple", data := .seq #[.int i tk, x] } := (sb.2 _ (Nat.ne_of_gt enl)).trans hT
    have nw : ObjOk X.prog X.w (upd H s.heap.objs.size (.tup [.int (i : Nat), y])) h3 s.heap.objs.size (.tup [.int (i : Nat), y]) :=
      ⟨by show 2 ≤ sizeLine; decide, [.int i tk, x], .cons ⟨_, rfl⟩ (.cons ru .nil), ⟨_, hT3, rfl, _, rfl⟩⟩
    have I2 : Inv X pins σ (upd H s.heap.objs.size (.tup [.int (i : Nat), y])) { s with heap := h3, toks := tk + 1 } :=
      I.turnedNew (ch := [en, it]) (fun b ob hb q => (sb.2 b (fun z => hb (by simp [z]))).trans (hk b ob (fun z => hb (by simp [z])) (fun z => hb (by simp [z])) q)) hf (Nat.le_refl _) nw
    refine ⟨.ref s.heap.objs.size, _, I2, rfl, ⟨_, y, rfl, I.hok.fresh (Nat.le_refl _), rfl, fun zs hz2 => by rw [I.tuple_inj hz2 hq]; exact hy⟩, ⟨⟨x, ?_⟩, st2.1.at fun ob q => (sb.2 it (Ne.symm hne)).trans q, hne⟩, fun b hb => ?_⟩
    · have e1 : ((i + 1 : Nat) : Int) = (i : Int) + 1 := by omega
      rw [e1]
      exact he3
    · have bb : b = en ∨ b = it := by simpa using hb
      have bl : b < s.heap.objs.size := by
        rcases bb with z | z
        · rw [z]; exact enl
        · rw [z]; exact itl
      rw [upd_ne (Nat.ne_of_lt bl)]
      exact (hf b hb).1
  done := by
    intro X hP hw hK hc i pins s σ H E I hf st hg
    subst hP hw hK
    obtain ⟨⟨pv, he⟩, hit, hne⟩ := st
    obtain ⟨ys, hq, hy⟩ := hg
    obtain ⟨its, rv, tp', hz⟩ := I.tuple hq
    have tup : s.heap.IsTuple a its.toArray := tp'
    have ne1 : a ≠ it := fun z => by
      obtain ⟨o1, q1, c1, _⟩ := hit
      obtain ⟨o2, q2, c2, _⟩ := tup
      rw [z, q1] at q2
      cases q2
      rw [c1] at c2
      simp at c2
    obtain ⟨f0, f1, f2, f3, f4, f5⟩ := hf it (by simp)
    have none_i : its.toArray[i]? = none := by
      have := rv.length
      simp
      omega
    have hd : X.A.in1.handled = none := I.ok.hd hc
    have dr : PySem.Draws X.prog X.w X.A.in1 it [it, a] i (fun _ _ => False) (fun j h => j = i ∧ h.IsTupleIter it a i ∧ h.IsTuple a its.toArray) :=
      { live := fun _ _ st2 => by
          obtain ⟨ob, q, _⟩ := st2.2.1
          exact ⟨ob, q⟩
        frame := fun _ _ _ st2 kp => ⟨st2.1, st2.2.1.at fun ob q => kp it (by simp) ob q, st2.2.2.at fun ob q => kp a (by simp) ob q⟩
        item := fun j s2 Q2 E2 hj st2 _ => by
          have := st2.1
          omega
        done := fun s2 Q2 E2 st2 kE => PySem.wpAny_nextOf_tuple_end hd st2.2.1 st2.2.2 none_i kE }
    exact PySem.wpAny_pyNext_enum_endD dr he ⟨rfl, hit, tup⟩ fun h2 eb => ⟨rfl, I.turned (t' := s.toks) (fun b ob hb q => eb b ob hb q) f0 f1 f3 f4 f5⟩
  self := fun A i s Q E st h => by
    obtain ⟨⟨_, he⟩, _⟩ := st
    exact wpAny_pyIter_enum he h
def iEnT (K : PySem.W.Frag) (ta : TA) : TI := fun σ H R => ta σ H fun vs H1 => ∃ a ys, vs = [.ref a] ∧ SqT K H1 a ys ∧ R (IteT K a) H1
section
variable {X : Cx} {W : WX} {e : Expr} {p pos tpos : Pos} {elts : List Expr} {kk : Nat}
theorem pi_enumT {ta : TA} (gl : Gl X "enumerate") (nm : X.mg "enumerate" = none) (ha : PA X [e] ta) (st : starEach [e] X.env = [(false, eval e X.env)] := by rfl) :
    PI X (.Tuple elts kk tpos) (.Call (.Name "enumerate" p) [e] [] pos) (iEnT X.K ta) := by
  refine ⟨fun pins s σ H R I h => ?_⟩
  refine PyProof.Rows.Call_ (ld_blt I gl nm PyProof.Rows.boot_enumerate (PyProof.Rows.callWith_type1 (thn (ha.run pos pins s σ H _ I h) fun us s1 ⟨vs, H1, I1, r1, q1⟩ => ?_) st rfl))
  obtain ⟨a, ys, rfl, hq, q⟩ := q1
  cases r1 with
  | cons r rr =>
    cases rr
    cases r
    obtain ⟨its, rv, tp, hz⟩ := I1.tuple hq
    refine call_enumT (show s1.heap.IsTuple a its.toArray from tp) fun h2 en itr hsz kp => wpAny_pyIter_enum en ?_
    have I2 : Inv X pins σ H1 { s1 with heap := h2 } := I1.kept (t' := s1.toks) kp
    refine ⟨s1.heap.objs.size + 1, [s1.heap.objs.size + 1, s1.heap.objs.size], _, _, H1, rfl, I2, turn_enumT a (s1.heap.objs.size + 1) s1.heap.objs.size, ⟨⟨.none, en⟩, itr, Nat.succ_ne_self _⟩, fun b hb => ?_, q⟩
    have bb : b = s1.heap.objs.size + 1 ∨ b = s1.heap.objs.size := by simpa using hb
    have ble : s1.heap.objs.size ≤ b := by
      rcases bb with z | z
      · rw [z]
        exact Nat.le_add_right _ _
      · rw [z]
        exact Nat.le_refl _
    exact I1.fpOk ble (I1.hok.fresh ble)
def enumL (i : Nat) : List D → List D
  | [] => []
  | d :: ds => .tup [.int (i : Int), d] :: enumL (i + 1) ds
theorem enumL_len : ∀ (ds : List D) (i : Nat), (enumL i ds).length = ds.length
  | [], _ => rfl
  | _ :: ds, i => congrArg Nat.succ (enumL_len ds (i + 1))
theorem enumL_at : ∀ (ds : List D) (i j : Nat), (enumL i ds)[j]? = (ds[j]?).map fun d => D.tup [.int ((i + j : Nat) : Int), d]
  | [], _, _ => by simp [enumL]
  | d :: ds, i, 0 => by simp [enumL]
  | d :: ds, i, j + 1 => by
    simp only [enumL, List.getElem?_cons_succ]
    rw [enumL_at ds (i + 1) j]
    have : i + 1 + j = i + (j + 1) := by omega
    rw [this]
def iEnumT (er : Env → ML) : Env → MW := fun ρ S q x => er ρ S (fun ds S1 => on1 ds fun d => onTu d fun ds => q (enumL 0 ds) any_ S1) x
theorem gi_enumT {er : Env → ML} (nm : X.mg "enumerate" = none) (ha : GA X W [e] er) (gl : Gl X "enumerate" := by rfl) (st : starEach [e] X.env = [(false, eval e X.env)] := by rfl) :
    GI X W (.Tuple elts kk tpos) (.Call (.Name "enumerate" p) [e] [] pos) (iEnumT er) := by
  obtain ⟨t, p, m⟩ := ha
  refine ⟨_, pi_enumT gl nm p st, fun as F H S ρ σ I R q x e Q hq hx => ?_⟩
  refine m as F H S ρ σ I R _ x e _ (fun ds S1 bs F1 H1 vs h1 g r => ?_) hx
  obtain ⟨y, rfl, h1⟩ := on1_ok h1
  obtain ⟨ds', rfl, h1⟩ := onTu_ok h1
  · obtain ⟨v, ws, rfl, rv, rn⟩ := r.unsn
    obtain rfl := rn.unnil
    cases rv with
    | tup hp rl =>
      rename_i a xs
      refine ⟨a, xs, rfl, g.sit.ex.sqT hp, hq _ _ S1 bs F1 H1 _ h1 g ⟨fun bs F2 H2 S2 I2 x2 p2 _ => ?_, fun i hi bs F2 H2 S2 I2 x2 p2 _ => ?_, fun i d hd bs F2 H2 S2 I2 x2 p2 _ x H' y => ?_⟩⟩
      · have hq : SqT X.K H2 a xs := I2.ex.sqT (x2.sqT hp)
        refine ⟨xs, hq, ?_⟩
        rw [enumL_len, rl.length]
        exact Nat.le_refl _
      · have hq : SqT X.K H2 a xs := I2.ex.sqT (x2.sqT hp)
        rw [enumL_len, rl.length] at hi
        exact ⟨xs, xs[i], hq, List.getElem?_eq_getElem hi⟩
      · have hq : SqT X.K H2 a xs := I2.ex.sqT (x2.sqT hp)
        obtain ⟨B, yv, rfl, hB, rfl, hy⟩ := y
        rw [enumL_at] at hd
        simp only [Option.map_eq_some_iff] at hd
        obtain ⟨d', hd', rfl⟩ := hd
        obtain ⟨v, hv, rv⟩ := rl.get hd'
        have := hy xs hq
        rw [hv] at this
        cases this
        have g2 := I2.grow (o := .tup [.int (i : Nat), yv]) hB
        refine ⟨_, g2, .tup (SqT.of upd_same) (.cons ?_ (.cons ((rv.mono x2 p2).mono g2.ex g2.pre) .nil))⟩
        rw [Nat.zero_add]
        exact .int _
end
end RV
end
section
/-! Methods of texts, f-strings, starred arguments. -/
namespace RV
open PySem L2
section
variable {K : PySem.W.Frag} {X : Cx} {W : WX} {o e a b : Expr} {es : List Expr} {pos apos : Pos} {eo ee ea eb : Env → M} {er : Env → ML}
/-! ### o.m(e), o a text -/
def RM (K : PySem.W.Frag) (r : V → List V → Hp → VK → Prop) (f : WS → D → D → Option D) : Prop := ∀ (as : List Addr) (F H : Hp) (S : WS) (x : Str) (y d : D) (vy : V), Sit K as F H S → Rp K as F y vy → f S (.str x) y = some d →
  ∀ Q : VK, (∀ F' H' v, Grow K as F H as F' H' S → Rp K as F' d v → Q v H') → r (.str x) [vy] H Q
def onStr (f : WS → Str → D → Option D) : WS → D → D → Option D := fun S x y => match x with
  | .str z => f S z y
  | _ => none
/-- o.m(e), o a text: looked at first -/
def eOpT (f : WS → D → D → Option D) (ea eb : Env → M) : Env → M := fun ρ S q x => ea ρ S (fun u S1 => onT u fun z => eb ρ S1 (fun v S2 => onS (f S2 (.str z) v) fun d => q d S2) x) x
theorem me_m1 {r : V → List V → Hp → VK → Prop} {f : WS → Str → D → Option D} {to te : TE} (hr : RM K r (onStr f)) (ho : ME K W to eo) (he : ME K W te ee) : ME K W (tM1 r to te) (eOpT (onStr f) eo ee) := fun as F H S ρ σ I R q x h Q hq hx => by
  refine ho as F H S ρ σ I R _ x h _ (fun u S1 bs F1 H1 v h1 g r1 => ?_) hx
  cases r1 with
  | str z =>
    refine ⟨⟨z, rfl⟩, ?_⟩
    refine he bs F1 H1 S1 ρ σ g.sit (R.grow g) _ x h1 _ (fun y S2 cs F2 H2 w h2 g2 r2 => ?_) (hx.step g)
    obtain ⟨d, h3, h4⟩ := onS_ok h2
    exact hr cs F2 H2 S2 z y d w g2.sit r2 h3 Q fun F3 H3 u g3 r3 => hq d S2 cs F3 H3 u h4 ((g.trans g2).trans g3) r3
  | _ => exact h1.elim
def splitD : WS → D → D → Option D := onStr fun _ z y => match y with
  | .str s => if s.length ≠ 0 ∧ small z.length = true then some (.lst ((Txt.split z s).map D.str)) else none
  | _ => none
theorem rpl_strs {as : List Addr} {F : Hp} : ∀ ys : List Str, RpL K as F (ys.map D.str) (ys.map V.str)
  | [] => .nil
  | y :: ys => .cons (.str y) (rpl_strs ys)
theorem small_two {n : Nat} (h : small n = true) : n + 2 ≤ sizeLine := by
  have h1 : n ≤ 100000 := of_decide_eq_true h
  have h2 : (100002 : Nat) ≤ sizeLine := by decide
  omega
theorem ge_split (ho : GE X W o eo) (he : GE X W e ee) (hs : starEach [e] X.env = [(false, eval e X.env)] := by rfl) (hbase : attributeBase o "split" X.env (eval o X.env) = eval o X.env := by rfl) (hline : (apos.endLine == pos.line) = true := by rfl) :
    GE X W (.Call (.Attribute o "split" apos) [e] [] pos) (eOpT splitD eo ee) := by
  obtain ⟨to, po, mo⟩ := ho
  obtain ⟨te, pe, me⟩ := he
  refine ⟨_, pe_split po pe hs hbase hline, me_m1 (fun as F H S x y d vy I r h Q q => ?_) mo me⟩
  simp only [onStr] at h
  split at h
  · rename_i s
    split at h
    · rename_i hc
      cases h
      cases r
      refine ⟨x, s, rfl, rfl, by simpa using hc.1, small_two hc.2, fun p hp => ?_⟩
      have g := I.grow (o := .lst ((Txt.split x s).map V.str)) hp
      exact q _ _ _ g (.lst upd_same (rpl_strs _))
    · cases h
  · cases h
def partitionD : WS → D → D → Option D := onStr fun _ z y => match y with
  | .str s => if s.length ≠ 0 ∧ small z.length = true then some (.tup [.str (Txt.partition z s).1, .str (Txt.partition z s).2.1, .str (Txt.partition z s).2.2]) else none
  | _ => none
theorem ge_partition (ho : GE X W o eo) (he : GE X W e ee) (hs : starEach [e] X.env = [(false, eval e X.env)] := by rfl) (hbase : attributeBase o "partition" X.env (eval o X.env) = eval o X.env := by rfl) (hline : (apos.endLine == pos.line) = true := by rfl) :
    GE X W (.Call (.Attribute o "partition" apos) [e] [] pos) (eOpT partitionD eo ee) := by
  obtain ⟨to, po, mo⟩ := ho
  obtain ⟨te, pe, me⟩ := he
  refine ⟨_, pe_partition po pe hs hbase hline, me_m1 (fun as F H S x y d vy I r h Q q => ?_) mo me⟩
  simp only [onStr] at h
  split at h
  · rename_i s
    split at h
    · rename_i hc
      cases h
      cases r
      refine ⟨x, s, rfl, rfl, by simpa using hc.1, small_le hc.2, fun p hp => ?_⟩
      have g := I.grow (o := .tup [.str (Txt.partition x s).1, .str (Txt.partition x s).2.1, .str (Txt.partition x s).2.2]) hp
      exact q _ _ _ g (.tup (SqT.of upd_same) (.cons (.str _) (.cons (.str _) (.cons (.str _) .nil))))
    · cases h
  · cases h
def strsD : List D → Option (List Str)
  | [] => some []
  | .str s :: r => (strsD r).map fun t => s :: t
  | _ => none
theorem strsD_ok : ∀ {ds : List D} {ys : List Str}, strsD ds = some ys → ds = ys.map D.str
  | [], ys, h => by
    cases h
    rfl
  | .str s :: r, ys, h => by
    simp only [strsD, Option.map_eq_some_iff] at h
    obtain ⟨t, h1, rfl⟩ := h
    rw [strsD_ok h1]
    rfl
  | .non :: r, ys, h => by cases h
  | .bl _ :: r, ys, h => by cases h
  | .int _ :: r, ys, h => by cases h
  | .ty _ :: r, ys, h => by cases h
  | .adr _ :: r, ys, h => by cases h
  | .cell _ :: r, ys, h => by cases h
  | .scr _ :: r, ys, h => by cases h
  | .tup _ :: r, ys, h => by cases h
  | .lst _ :: r, ys, h => by cases h
  | .obj _ _ :: r, ys, h => by cases h
  | .dic _ :: r, ys, h => by cases h
  | .exc _ _ :: r, ys, h => by cases h
theorem rpl_strs_v {as : List Addr} {F : Hp} : ∀ {ys : List Str} {xs : List V}, RpL K as F (ys.map D.str) xs → xs = ys.map V.str
  | [], _, .nil => rfl
  | y :: ys, _, .cons r t => by
    cases r
    rw [rpl_strs_v t]
    rfl
def joinD : WS → D → D → Option D := onStr fun S z y => (itemsD S y).bind fun ds => (strsD ds).bind fun ys => if (ys.map (·.length)).sum + ys.length * z.length ≤ 100000 then some (.str (Txt.join z ys)) else none
theorem ge_join (ho : GE X W o eo) (he : GE X W e ee) (hs : starEach [e] X.env = [(false, eval e X.env)] := by rfl) (hbase : attributeBase o "join" X.env (eval o X.env) = eval o X.env := by rfl) (hline : (apos.endLine == pos.line) = true := by rfl) :
    GE X W (.Call (.Attribute o "join" apos) [e] [] pos) (eOpT joinD eo ee) := by
  obtain ⟨to, po, mo⟩ := ho
  obtain ⟨te, pe, me⟩ := he
  refine ⟨_, pe_join po pe hs hbase hline, me_m1 (fun as F H S x y d vy I r h Q q => ?_) mo me⟩
  simp only [onStr, Option.bind_eq_some_iff] at h
  obtain ⟨ds, h1, ys, h2, h3⟩ := h
  split at h3
  · rename_i hc
    cases h3
    obtain ⟨p, xs, rfl, sq, rl⟩ := items_v I r h1
    rw [strsD_ok h2] at rl
    have ex := rpl_strs_v rl
    subst ex
    exact ⟨x, p, ys, rfl, rfl, sq, by omega, keep I q (.str _)⟩
  · cases h3
/-! ### f-strings -/
def fmtD : WS → D → Option D := fun _ x => match x with
  | .str y => if small y.length = true then some (.str y) else none
  | .int i => if i.natAbs.log2 < 1920 then some (.str (toString i)) else none
  | _ => none
theorem ge_fmt (h : GE X W e ea) : GE X W (.FormattedValue e (-1) none pos) (eUn fmtD ea) := by
  obtain ⟨t, p, m⟩ := h
  refine ⟨_, pe_fmt p, fun as F H S ρ σ I R q x h Q hq hx => ?_⟩
  refine m as F H S ρ σ I R _ x h _ (fun u S1 bs F1 H1 v h1 g r => ?_) hx
  obtain ⟨d, h2, h3⟩ := onS_ok h1
  unfold fmtD at h2
  split at h2
  · split at h2
    · rename_i y hs
      cases h2
      cases r
      exact .inl ⟨y, rfl, small_le hs, hq _ S1 bs F1 H1 _ h3 g (.str y)⟩
    · cases h2
  · split at h2
    · rename_i i hs
      cases h2
      cases r
      exact .inr ⟨i, rfl, hs, hq _ S1 bs F1 H1 _ h3 g (.str _)⟩
    · cases h2
  · cases h2
abbrev MJ := Env → Str → WS → (Str → WS → Prop) → Xq → Prop
structure GJ (X : Cx) (W : WX) (es : List Expr) (m : MJ) : Prop where
  ex : ∃ ts, PJ X es ts ∧ ∀ (as : List Addr) (F H : Hp) (S : WS) (ρ : Env) (σ : L2.St) (acc : Str), Sit X.K as F H S → RpE X.K as F ρ σ → ∀ q x, m ρ acc S q x →
    ∀ Q : Str → Hp → Prop, (∀ out S' bs F' H', q out S' → Grow X.K as F H bs F' H' S' → Q out H') → XQ X.K as F H x (WE W σ) → tJs ts acc σ H Q
def jNil : MJ := fun _ acc S q _ => q acc S
def jCons (ea : Env → M) (jr : MJ) : MJ := fun ρ acc S q x => ea ρ S (fun d S1 => onT d fun y => small (acc.length + y.length) = true ∧ jr ρ (acc ++ y) S1 q x) x
theorem gj_nil : GJ X W [] jNil := ⟨[], .nil, fun as F H S ρ σ acc I R q x h Q hq _ => hq acc S as F H h (Grow.refl I)⟩
theorem gj_cons {jr : MJ} (h : GE X W e ea) (r : GJ X W es jr) : GJ X W (e :: es) (jCons ea jr) := by
  obtain ⟨t, p, m⟩ := h
  obtain ⟨ts, ps, ms⟩ := r
  refine ⟨t :: ts, .cons p ps, fun as F H S ρ σ acc I R q x h Q hq hx => ?_⟩
  refine m as F H S ρ σ I R _ x h _ (fun u S1 bs F1 H1 v h1 g r => ?_) hx
  cases r with
  | str y => exact ⟨y, rfl, by rw [strLen_append]; exact small_le h1.1, ms bs F1 H1 S1 ρ σ _ g.sit (R.grow g) q x h1.2 Q (fun out S' cs F' H' a g2 => hq out S' cs F' H' a (g.trans g2)) (hx.step g)⟩
  | _ => exact h1.elim
def eJoin (m : MJ) : Env → M := fun ρ S q x => m ρ Str.empty S (fun t S1 => q (.str t) S1) x
theorem ge_joined {v1 v2 : Expr} {rest : List Expr} {m : MJ} (h : GJ X W (v1 :: v2 :: rest) m) : GE X W (.JoinedStr (v1 :: v2 :: rest) pos) (eJoin m) := by
  obtain ⟨ts, ps, ms⟩ := h
  exact ⟨_, pe_joined ps, fun as F H S ρ σ I R q x h Q hq hx => ms as F H S ρ σ Str.empty I R _ x h _ (fun out S' bs F' H' a g => hq _ S' bs F' H' _ a g (.str _)) hx⟩
theorem ge_joined1 (h : GE X W e ea) : GE X W (.JoinedStr [e] pos) ea := by
  obtain ⟨t, p, m⟩ := h
  exact ⟨_, pe_joined1 p, m⟩
/-! ### starred arguments -/
def aStar (ea : Env → M) (er : Env → ML) : Env → ML := fun ρ S q x => ea ρ S (fun u S1 => onS (itemsD S1 u) fun ds => er ρ S1 (fun es S2 => q (ds ++ es) S2) x) x
theorem ga_star {p : Pos} (h : GE X W e ea) (r : GA X W es er) (hs : starEach (.Starred e p :: es) X.env = (true, eval e X.env) :: starEach es X.env := by rfl) : GA X W (.Starred e p :: es) (aStar ea er) := by
  obtain ⟨t, p, m⟩ := h
  obtain ⟨t2, p2, m2⟩ := r
  refine ⟨_, StX.pa_star p p2 hs, fun as F H S ρ σ I R q x h Q hq hx => ?_⟩
  refine m as F H S ρ σ I R _ x h _ (fun u S1 bs F1 H1 v h1 g r => ?_) hx
  obtain ⟨xs, h2, h3⟩ := onS_ok h1
  obtain ⟨a, ys, rfl, sq, rl⟩ := items_v g.sit r h2
  refine ⟨a, ys, rfl, sq.symm, ?_⟩
  refine m2 bs F1 H1 S1 ρ σ g.sit (R.grow g) _ x h3 _ (fun es S2 cs F2 H2 vs h4 g2 r2 => ?_) (hx.step g)
  exact hq _ S2 cs F2 H2 _ h4 (g.trans g2) ((rl.mono g2.ex g2.pre).append r2)
end
end RV
end
section
/-! Own __len__, __str__; classmethods; cls(..); x is None. -/
namespace RV
open PySem L2
section
variable {K : PySem.W.Frag} {X : Cx} {W : WX} {o e a b : Expr} {es : List Expr} {pos apos p : Pos} {eo ee ea eb : Env → M} {er ek : Env → ML}
/-! ### calls that run a def of the text's own, which raises nothing -/
def RCM (K : PySem.W.Frag) (r : List V → Hp → VK → Prop) (f : List D → M) : Prop := ∀ (as : List Addr) (F H : Hp) (S : WS) (ds : List D) (vs : List V), Sit K as F H S → RpL K as F ds vs → ∀ q x, f ds S q x →
  ∀ Q : VK, NQ K as F H q Q → r vs H Q
def eCallM (f : List D → M) (er : Env → ML) : Env → M := fun ρ S q x => er ρ S (fun ds S1 => f ds S1 q x) x
theorem me_cbM {r : List V → Hp → VK → Prop} {f : List D → M} {t : TA} (hr : RCM K r f) (h : MA K W t er) : ME K W (tCB r t) (eCallM f er) := fun as F H S ρ σ I R q x e Q hq hx =>
  h as F H S ρ σ I R _ x e _ (fun ds S1 bs F1 H1 vs h1 g1 r1 => hr bs F1 H1 S1 ds vs g1.sit r1 q x h1 Q (hq.step g1)) hx
theorem ge_callBM {x : Str} {id : String} {r : List V → Hp → VK → Prop} {f : List D → M} (hc : CallR X (.builtin id) r) (hr : RCM X.K r f) (hm : X.mg x = none) (hv : bootBuiltins x = some (.builtin id)) (ha : GA X W (e :: es) er)
    (hg : Gl X x := by rfl) (hn : x ≠ "__name__" := by decide) (hdb : (x == ("__debug__" : Str)) = false := by decide) (h1 : starEach (e :: es) X.env = (false, eval e X.env) :: starEach es X.env := by rfl) (h2 : (backTo pos (starEach es X.env)).any (·.1) = false := by rfl) :
    GE X W (.Call (.Name x p) (e :: es) [] pos) (eCallM f er) := by
  obtain ⟨t, p, m⟩ := ha
  exact ⟨_, pe_callB hc hg hm hv p hn hdb h1 h2, me_cbM hr m⟩
theorem ge_callTyM {x : Str} {T : String} {r : List V → Hp → VK → Prop} {f : List D → M} (hc : CallR X (.type T) r) (hr : RCM X.K r f) (hm : X.mg x = none) (hv : bootBuiltins x = some (.type T)) (ha : GA X W (e :: es) er)
    (hg : Gl X x := by rfl) (hn : x ≠ "__name__" := by decide) (hdb : (x == ("__debug__" : Str)) = false := by decide) (h1 : starEach (e :: es) X.env = (false, eval e X.env) :: starEach es X.env := by rfl) (h2 : (backTo pos (starEach es X.env)).any (·.1) = false := by rfl) :
    GE X W (.Call (.Name x p) (e :: es) [] pos) (eCallM f er) := by
  obtain ⟨t, p, m⟩ := ha
  exact ⟨_, pe_callTy hc hg hm hv p hn hdb h1 h2, me_cbM hr m⟩
/-! ### own methods that Python calls -/
theorem run_own {f : Addr} {fd : FuncData} {ps : List Str} {sp : Sp} {k : Nat} {A : Around} {pins : List (Addr × Obj)} {s : Shared} {σ : L2.St} {H : Hp} {vs : List V} {us : List Value} {R : VK} (Fn : FnX false X.prog X.w X.K X.mg X.base k f fd ps sp) (hr : Room k A) (hfr : A.frames = X.A.frames) (hb : Binds X.K fd ps []) (I : Inv X pins σ H s) (rv : Vals vs us)
    (h : sp vs H R E0) : wpAny (model X.prog X.w) A (call (.ref f) us) (EP X pins σ R) X.xe s := by
  have e0 : Env0 X.prog X.w X.K X.mg X.base A X.stack s H := by
    have z := I.env0
    exact ⟨by rw [hfr]; exact z.frames, z.mod, z.bs, z.bsz, z.funs, z.frf, z.hok, z.bare⟩
  have hl : us.length = ps.length := rv.length.symm.trans (Fn.len _ _ _ _ h)
  refine wpAny_call (codeAny_mono (Fn.ok.run A X.stack s H ⟨us, []⟩ us vs R E0 hr e0 (by
    have z := hb s us I.kIn (by simpa using hl)
    simpa using z) rv h) fun r s' hq => ?_)
  cases r with
  | error e =>
    obtain ⟨a, B, H', cls, d, c⟩ := hq
    exact c.2.2.2.2.2.2.2.elim
  | ok fl =>
    cases fl with
    | ret w => exact I.after hq
    | next => exact hq.elim
    | brk => exact hq.elim
    | cont => exact hq.elim
def rLenOwn (C : Addr) (sp : Sp) : List V → Hp → VK → Prop := fun xs H Q => ∃ a dx fs, xs = [.ref a] ∧ H a = some (.ins C dx fs) ∧ sp xs H (fun v H' => ∃ n : Int, v = .int n ∧ 0 ≤ n ∧ n < 2 ^ 62 ∧ Q (.int n) H') E0
theorem call_lenOwn {C f : Addr} {fd : FuncData} {ps : List Str} {sp : Sp} {k j : Nat} (Fn : FnX false X.prog X.w X.K X.mg X.base k f fd ps sp) (hr : Room j X.A) (hj : k + 1 ≤ j) (hs : PySem.W.findIn X.K (.ref C) "__len__" = some (some (.ref f))) (hf : PySem.W.isFn X.K (.ref f) = true) (hb : Binds X.K fd ps []) :
    CallR X (.builtin "len") (rLenOwn C sp) := fun pins s σ H xs us Q I rv q => by
  obtain ⟨a, dx, fs, rfl, ha, q⟩ := q
  obtain ⟨u, rfl, ru⟩ := rv.one
  cases ru
  obtain ⟨mA, J, _⟩ := ins_get I.hok ha
  obtain ⟨od, J, _⟩ := J.look
  obtain ⟨m, hF⟩ := I.fr
  refine PySem.W.len_K hF I.ok.mod.kin J hs hf ?_
  refine thn (run_own Fn (hr.mono hj).in1 rfl hb I (vs := [.ref a]) (.cons rfl .nil) q) fun w s' hw => ?_
  obtain ⟨z, H', I', rz, n, rfl, h0, h1, qn⟩ := hw
  obtain ⟨t, rfl⟩ := rz
  refine ⟨⟨h0, by omega⟩, .int n, H', I'.tok _, ⟨_, rfl⟩, qn⟩
def rStrOwn (C : Addr) (sp : Sp) : List V → Hp → VK → Prop := fun xs H Q => ∃ a dx fs, xs = [.ref a] ∧ H a = some (.ins C dx fs) ∧ sp xs H (fun v H' => ∃ t : Str, v = .str t ∧ Q (.str t) H') E0
theorem call_strOwn {C f : Addr} {fd : FuncData} {ps : List Str} {sp : Sp} {k j : Nat} (Fn : FnX false X.prog X.w X.K X.mg X.base k f fd ps sp) (hr : Room j X.A) (hj : k + 2 ≤ j) (hs : PySem.W.findIn X.K (.ref C) "__str__" = some (some (.ref f))) (hf : PySem.W.isFn X.K (.ref f) = true) (hb : Binds X.K fd ps []) :
    CallR X (.type "str") (rStrOwn C sp) := fun pins s σ H xs us Q I rv q => by
  obtain ⟨a, dx, fs, rfl, ha, q⟩ := q
  obtain ⟨u, rfl, ru⟩ := rv.one
  cases ru
  obtain ⟨mA, J, _⟩ := ins_get I.hok ha
  obtain ⟨od, J, _⟩ := J.look
  have hr2 := (hr.mono hj).in1.in1
  refine PySem.W.kso_call hr2.units0 I.kIn J hs hf ?_
  refine thn (run_own Fn hr2 rfl hb I (vs := [.ref a]) (.cons rfl .nil) q) fun w s' hw => ?_
  obtain ⟨z, H', I', rz, t, rfl, qn⟩ := hw
  obtain ⟨tk, rfl⟩ := rz
  exact ⟨.str t, H', I', ⟨_, rfl⟩, qn⟩
def lenOwnD (C : Addr) (G : List D → M) : List D → M := fun ds S q _ => on1 ds fun d => isOb C S d ∧ G [d] S (fun r S' => onI r fun n => (0 ≤ n ∧ n < 2 ^ 62) ∧ q (.int n) S') noX
theorem rcm_len {C : Addr} {G : List D → M} : RCM K (rLenOwn C (spG K 1 G)) (lenOwnD C G) := fun as F H S ds vs I r q x h Q hq => by
  obtain ⟨d0, rfl, h⟩ := on1_ok h
  · obtain ⟨v, ws, rfl, rv, rn⟩ := r.unsn
    obtain rfl := rn.unnil
    obtain ⟨a, dx, vfs, rfl, ha⟩ := isOb_at I rv h.1
    refine ⟨a, dx, vfs, rfl, ha, as, F, S, _, _, noX, I, .cons rv .nil, rfl, h.2, fun d S' bs F' H' v h3 g r2 => ?_, XQ.no⟩
    cases r2 with
    | int n => exact ⟨n, rfl, h3.1.1, h3.1.2, hq _ S' bs F' H' _ h3.2 g (.int n)⟩
    | _ => exact h3.elim
def strOwnD (C : Addr) (G : List D → M) : List D → M := fun ds S q _ => on1 ds fun d => isOb C S d ∧ G [d] S (fun r S' => onT r fun t => q (.str t) S') noX
theorem rcm_str {C : Addr} {G : List D → M} : RCM K (rStrOwn C (spG K 1 G)) (strOwnD C G) := fun as F H S ds vs I r q x h Q hq => by
  obtain ⟨d0, rfl, h⟩ := on1_ok h
  · obtain ⟨v, ws, rfl, rv, rn⟩ := r.unsn
    obtain rfl := rn.unnil
    obtain ⟨a, dx, vfs, rfl, ha⟩ := isOb_at I rv h.1
    refine ⟨a, dx, vfs, rfl, ha, as, F, S, _, _, noX, I, .cons rv .nil, rfl, h.2, fun d S' bs F' H' v h3 g r2 => ?_, XQ.no⟩
    cases r2 with
    | str t => exact ⟨t, rfl, hq _ S' bs F' H' _ h3 g (.str t)⟩
    | _ => exact h3.elim
/-! ### x is None -/
def isND (neg : Bool) : WS → D → D → Option D := fun _ x y => match y with
  | .non => (match x with
    | .non => some (.bl (!neg))
    | _ => some (.bl neg))
  | _ => none
theorem rp_non {as : List Addr} {F : Hp} {x : D} {v : V} (r : Rp K as F x v) : (v = .non ↔ x = .non) := by
  cases r <;> simp
theorem ro_isN : RO K (fun x y H Q => y = .non ∧ Q (.bl (decide (x = .non))) H) (isND false) := fun as F H S x y d vx vy I rx ry h Q q => by
  unfold isND at h
  split at h
  · cases ry
    refine ⟨rfl, ?_⟩
    split at h
    · cases h
      cases rx
      exact keep I q (.bl true)
    · rename_i hn
      cases h
      have : decide (vx = V.non) = false := decide_eq_false fun z => hn ((rp_non rx).mp z)
      rw [this]
      exact keep I q (.bl false)
  · cases h
theorem ro_notN : RO K (fun x y H Q => y = .non ∧ Q (.bl (!decide (x = .non))) H) (isND true) := fun as F H S x y d vx vy I rx ry h Q q => by
  unfold isND at h
  split at h
  · cases ry
    refine ⟨rfl, ?_⟩
    split at h
    · cases h
      cases rx
      exact keep I q (.bl false)
    · rename_i hn
      cases h
      have : decide (vx = V.non) = false := decide_eq_false fun z => hn ((rp_non rx).mp z)
      rw [this]
      exact keep I q (.bl true)
  · cases h
end
/-! ### facts about a class's own methods -/
section
variable (P : Program) (w : World) (K : PySem.W.Frag) (mg : Str → Option Value) (base : Heap)
/-- the class at C has the special method m that computes G (n values) -/
def Sc (C : Addr) (m : Str) (k n : Nat) (G : List D → M) : Prop := ∃ (f : Addr) (fd : FuncData) (ps : List Str), FnX false P w K mg base k f fd ps (spG K n G) ∧ Binds K fd ps [] ∧ PySem.W.findIn K (.ref C) m = some (some (.ref f)) ∧ PySem.W.isFn K (.ref f) = true
/-- m is a classmethod of the class at C that computes G (n values: the class, the arguments) -/
def Cm (C : Addr) (m : Str) (k n : Nat) (G : List D → M) : Prop := ∃ (q g : Addr) (fd : FuncData) (ps : List Str), ClX.CRead K C (.type "type") ∧ ClX.CMet K C (.type "type") m q g ∧ FnX false P w K mg base k g fd ps (spG K n G) ∧ Binds K fd ps []
/-- .. called with keywords ks alone -/
def CmK (C : Addr) (m : Str) (k n : Nat) (ks : List Str) (G : List D → M) (gD : List D → List D → List D) : Prop := ∃ (q g : Addr) (fd : FuncData) (ps : List Str) (gg : List Value → List Value → List Value) (gV : List V → List V → List V), ClX.CRead K C (.type "type") ∧ ClX.CMet K C (.type "type") m q g ∧ FnX false P w K mg base k g fd ps (spG K n G) ∧ KBn K fd ps 1 ks gg gV ∧
  ∀ as F (zs : List D) (ws : List V), RpL K as F zs ws → zs.length = ks.length → ∃ us, gV [.ref C] ws = .ref C :: us ∧ RpL K as F (gD [] zs) us
end
section
variable {X : Cx} {W : WX} {o e : Expr} {es : List Expr} {pos apos p : Pos} {ea : Env → M} {er ek : Env → ML} {C : Addr} {m x : Str} {k j n : Nat} {G : List D → M} {pl : Sem Bool} {dvs : List D}
theorem call_lenF (c : Sc X.prog X.w X.K X.mg X.base C "__len__" k 1 G) (hr : Room j X.A) (hj : k + 1 ≤ j := by decide) : CallR X (.builtin "len") (rLenOwn C (spG X.K 1 G)) := by
  obtain ⟨f, fd, ps, F, hb, hs, hf⟩ := c
  exact call_lenOwn F hr hj hs hf hb
theorem call_strF (c : Sc X.prog X.w X.K X.mg X.base C "__str__" k 1 G) (hr : Room j X.A) (hj : k + 2 ≤ j := by decide) : CallR X (.type "str") (rStrOwn C (spG X.K 1 G)) := by
  obtain ⟨f, fd, ps, F, hb, hs, hf⟩ := c
  exact call_strOwn F hr hj hs hf hb
/-- C.m(e, ..) -/
def eCm (C : Addr) (n : Nat) (G : List D → M) (ea : Env → M) (er : Env → ML) : Env → M := fun ρ S q x => ea ρ S (fun u S1 => u = .adr C ∧ er ρ S1 (fun ds S2 => ds.length + 1 = n ∧ G (.adr C :: ds) S2 q x) x) x
def tCmX (C : Addr) (sp : Sp) (E : L2.St → XK) (ta : TE) (t : TA) : TE := fun σ H Q => ta σ H fun z H1 => z = .ref C ∧ t σ H1 fun vs H2 => sp (.ref C :: vs) H2 Q (E σ)
/-- the call of the bound classmethod -/
theorem run_cm {q0 g : Addr} {fd : FuncData} {ps : List Str} {sp : Sp} {Q : VK} {pins : List (Addr × Obj)} {σ : L2.St} {H : Hp} {s : Shared} {pa : Addr} {args : Args} {us : List Value} {vs : List V} (tk : L2N.Takes X W) (Fn : FnX false X.prog X.w X.K X.mg X.base k g fd ps sp) (hr : Room k X.A)
    (I : Inv X ((pa, PySem.W.methodObj (.ref g) (.ref C)) :: pins) σ H s) (hb : BindsTo s fd ⟨.ref C :: args.pos, args.kw⟩ (ps.zip us)) (r : Vals vs us) (h : sp vs H Q (WE W σ)) :
    wpAny (model X.prog X.w) X.A (PySem.call (.ref pa) args.pos args.kw) (EP X ((pa, PySem.W.methodObj (.ref g) (.ref C)) :: pins) σ Q) X.xe s := by
  refine wpAny_call (PySem.W.method_call (ClX.pin_at I) (codeAny_mono (Fn.ok.run X.A X.stack s H _ us vs Q (WE W σ) hr I.env0 hb r h) fun r s' hq => ?_))
  cases r with
  | error e => exact L2N.passAt tk σ _ H s e s' I hq
  | ok fl =>
    cases fl with
    | ret w => exact I.after hq
    | next => exact hq.elim
    | brk => exact hq.elim
    | cont => exact hq.elim
theorem ge_cmeth (tk : L2N.Takes X W) (c : Cm X.prog X.w X.K X.mg X.base C m k n G) (hr : Room j X.A) (ho : GE X W o ea) (ha : GA X W (e :: es) er) (hj : k ≤ j := by decide)
    (hst : starEach (e :: es) X.env = (false, eval e X.env) :: starEach es X.env := by rfl) (hpl : (backTo pos (starEach es X.env)).any (·.1) = false := by rfl)
    (ht : eval (.Call (.Attribute o m apos) (e :: es) [] pos) X.env = (do
      let ov ← eval o X.env
      standAt apos.atName
      let (f, first) ← holding [ov] (getMethod ov m pl)
      callWith pos f first (backTo pos (starEach (e :: es) X.env)) (backToKw pos (keywordEach [] X.env))) := by rfl) :
    GE X W (.Call (.Attribute o m apos) (e :: es) [] pos) (eCm C n G ea er) := by
  obtain ⟨q, g, fd, ps, rd, cm, F, hb⟩ := c
  obtain ⟨to, po, mo⟩ := ho
  obtain ⟨t, pa, ma⟩ := ha
  refine ⟨tCmX C (spG X.K n G) (WE W) to t, ⟨fun pins s σ H Q I h => ?_⟩, fun as F H S ρ σ I R q x h Q hq hx => ?_⟩
  · refine PySem.W.methodCall_KW (pl := pl) (thn (po.run pins s σ H _ I h) fun u s1 hh => ?_) ht
    obtain ⟨z, H1, I1, rx, ex, q1⟩ := hh
    subst ex
    obtain rfl : u = Value.ref C := rx
    refine ClX.getmethcm_ok I1 rd cm fun s2 I2 => ?_
    refine ClX.callwith_cm I2 (ClX.base_none I1 (Nat.le_refl _)) cm.fi (thn (pa.run pos _ s2 σ H1 _ I2 q1) fun us s3 hh => ?_) hst hpl
    obtain ⟨vs, H2, I3, rv, q2⟩ := hh
    refine ⟨⟨ClX.pin_at I3, I3.kIn⟩, ?_⟩
    have r2 : Vals (V.ref C :: vs) (Value.ref C :: us) := .cons rfl rv
    have hl : (Value.ref C :: us).length = ps.length := r2.length.symm.trans (F.len _ _ _ _ q2)
    have bb := hb s3 (Value.ref C :: us) I3.kIn (by simpa using hl)
    rw [List.append_nil] at bb
    exact thn (run_cm (q0 := q) (args := ⟨us, []⟩) tk F (hr.mono hj) I3 bb r2 q2) fun _ _ y => ClX.unpinE y
  · refine mo as F H S ρ σ I R _ x h _ (fun u S1 bs F1 H1 v h1 g1 r1 => ?_) hx
    obtain ⟨e1, h1⟩ := h1
    subst e1
    cases r1
    refine ⟨rfl, ?_⟩
    refine ma bs F1 H1 S1 ρ σ g1.sit (R.grow g1) _ x h1 _ (fun ds S2 cs F2 H2 vs h2 g2 r2 => ?_) (hx.step g1)
    have g12 := g1.trans g2
    exact ⟨cs, F2, S2, _, q, x, g2.sit, .cons (.adr _) r2, by simpa using h2.1, h2.2, hq.step g12, hx.step g12⟩
/-- C.m(k = v, ..) -/
def eCmK (C : Addr) (n nk : Nat) (G : List D → M) (gD : List D → List D → List D) (ea : Env → M) (ek : Env → ML) : Env → M := fun ρ S q x => ea ρ S (fun u S1 => u = .adr C ∧ ek ρ S1 (fun zs S2 => (zs.length = nk ∧ (gD [] zs).length + 1 = n) ∧ G (.adr C :: gD [] zs) S2 q x) x) x
def tCmKX (C : Addr) (nk : Nat) (sp : Sp) (gV : List V → List V → List V) (E : L2.St → XK) (ta : TE) (t : TA) : TE := fun σ H Q => ta σ H fun x H1 => x = .ref C ∧ t σ H1 fun zs H2 => zs.length = nk ∧ sp (gV [.ref C] zs) H2 Q (E σ)
theorem ge_cmethK {ks : List Str} {gD : List D → List D → List D} {kws : List Keyword} (tk : L2N.Takes X W) (c : CmK X.prog X.w X.K X.mg X.base C m k n ks G gD) (hr : Room j X.A) (ho : GE X W o ea) (hk : GK X W kws ek) (hj : k ≤ j := by decide)
    (hall : (backToKw pos (keywordEach kws X.env)).all (·.1.isSome) = true := by rfl) (hks : (backToKw pos (keywordEach kws X.env)).filterMap (·.1) = ks := by rfl) (hpl : ((backTo pos (starEach [] X.env)).any (·.1) || (backToKw pos (keywordEach kws X.env)).any (·.1.isNone)) = false := by rfl)
    (ht : eval (.Call (.Attribute o m apos) [] kws pos) X.env = (do
      let ov ← eval o X.env
      standAt apos.atName
      let (f, first) ← holding [ov] (getMethod ov m pl)
      callWith pos f first (backTo pos (starEach [] X.env)) (backToKw pos (keywordEach kws X.env))) := by rfl) :
    GE X W (.Call (.Attribute o m apos) [] kws pos) (eCmK C n ks.length G gD ea ek) := by
  obtain ⟨q, g, fd, ps, gg, gV, rd, cm, F, kb, hg⟩ := c
  obtain ⟨to, po, mo⟩ := ho
  obtain ⟨t, pk, mk⟩ := hk
  refine ⟨tCmKX C ks.length (spG X.K n G) gV (WE W) to t, ⟨fun pins s σ H Q I h => ?_⟩, fun as F H S ρ σ I R q x h Q hq hx => ?_⟩
  · refine PySem.W.methodCall_KW (pl := pl) (thn (po.run pins s σ H _ I h) fun u s1 hh => ?_) ht
    obtain ⟨z, H1, I1, rx, ex, q1⟩ := hh
    subst ex
    obtain rfl : u = Value.ref C := rx
    refine ClX.getmethcm_ok I1 rd cm fun s2 I2 => ?_
    have hq0 : X.base.get? s1.heap.objs.size = none := ClX.base_none I1 (Nat.le_refl _)
    refine PySem.W.callWith_of (P := PySem.W.MethP X.K s1.heap.objs.size g (.ref C)) hpl (PySem.W.keeps_M cm.fi) (PyProof.Rows.evalArgs_kw2_nil hall ?_)
    refine thn (pk.run pos _ s2 σ H1 _ I2 q1) fun ws s3 hh => ?_
    obtain ⟨zs, H2, I3, rz, l2, q2⟩ := hh
    refine ⟨⟨ClX.pin_at I3, I3.kIn⟩, ?_⟩
    rw [hks]
    have hl : ws.length = ks.length := rz.length.symm.trans l2
    have z := run_cm (X := X) (q0 := q) (args := ⟨[], ks.zip ws⟩) tk F (hr.mono hj) I3 (kb.to s3 [.ref C] ws I3.kIn rfl hl) (kb.rel (vs := [.ref C]) (.cons rfl .nil) rz) q2
    exact thn z fun _ _ y => ClX.unpinE y
  · refine mo as F H S ρ σ I R _ x h _ (fun u S1 bs F1 H1 v h1 g1 r1 => ?_) hx
    obtain ⟨e1, h1⟩ := h1
    subst e1
    cases r1
    refine ⟨rfl, ?_⟩
    refine mk bs F1 H1 S1 ρ σ g1.sit (R.grow g1) _ x h1 _ (fun zs S2 cs F2 H2 vs h2 g2 r2 => ?_) (hx.step g1)
    have g12 := g1.trans g2
    obtain ⟨us, eu, ru⟩ := hg cs F2 zs vs r2 h2.1.1
    refine ⟨r2.length.symm.trans h2.1.1, ?_⟩
    rw [eu]
    exact ⟨cs, F2, S2, _, q, x, g2.sit, .cons (.adr _) ru, by simpa using h2.1.2, h2.2, hq.step g12, hx.step g12⟩
/-! ### cls(e, ..), the class held by a slot -/
def eMakeL (i : Nat) (l : Lk) (C : Addr) (n : Nat) (G : List D → M) (dvs : List D) (er : Env → ML) : Env → M := fun ρ S q x => look ρ i = some (.adr C) ∧ eMake l C n G dvs er ρ S q x
theorem ge_makeLF (i : Nat) {l : Lk} {y : Str} (tk : L2N.Takes X W) (c : Mc X.prog X.w X.K X.mg X.base y C k n G dvs) (hr : Room j X.A) (ha : GA X W (e :: es) er) (hj : k + 1 ≤ j := by decide) (hN : X.N[i]? = some x := by rfl) (hv : Vis X.env.scope x := by first | exact .inl rfl | exact .inr (.inl rfl) | exact .inr (.inr rfl) | exact .inr rfl)
    (hdb : (x == ("__debug__" : Str)) = false := by decide) (hcd : (x == ("__classdict__" : Str)) = false := by decide) (h1 : starEach (e :: es) X.env = (false, eval e X.env) :: starEach es X.env := by rfl) (h2 : (backTo pos (starEach es X.env)).any (·.1) = false := by rfl) :
    GE X W (.Call (.Name x p) (e :: es) [] pos) (eMakeL i l C n G dvs er) := by
  obtain ⟨f, fd, ps, dv, ds, Mm, Fn, hb, hd, hdv, hm⟩ := c
  obtain ⟨t, pa, ma⟩ := ha
  refine ⟨fun σ H Q => σ[i]? = some (some (.ref C)) ∧ tMakeX C (spG X.K n G) dv (WE W) t σ H Q, ⟨fun pins s σ H Q I h => ?_⟩, fun as F H S ρ σ I R q x h Q hq hx => ?_⟩
  · obtain ⟨hs, ht⟩ := h
    refine wpAny_Call_Name_kw (thn ((pe_var (pos := p) hN hv hdb hcd).run pins s σ H (fun v H1 => v = .ref C ∧ H1 = H) I ⟨.ref C, hs, rfl, rfl⟩) fun u s1 hh => ?_)
    obtain ⟨v, H1, I1, r1, q1⟩ := hh
    obtain ⟨rfl, rfl⟩ := q1
    cases r1
    refine PySem.W.callWith_K (h₀ := X.base) I.ok.mod.kin Mm.kp (thn (pa.run pos pins s1 σ _ _ I1 ht) fun us s2 hh => ?_) h1 h2
    obtain ⟨vs, H2, I2, r, q2⟩ := hh
    exact ⟨I2.kIn, run_makeX Mm Fn (hr.mono hj) hb hd tk I2 r q2⟩
  · obtain ⟨v, hv2, rv⟩ := R.at_ i _ (look_at h.1)
    cases rv
    exact ⟨hv2, me_make hdv ma as F H S ρ σ I R q x h.2 Q hq hx⟩
end
end RV
end
section
/-! The head's facts: classes, properties, own ==, tables; keywords without defaults. -/
namespace RV
open PySem L2
open He (eqO eqO_ok ba ga ma)
def hookB (n : Nat) (fa : List He.Fa) (fn : List He5.DefA) (ex : PySem.W.Frag → Bool) : PySem.W.Hook where
  α := He.AlD × Bool
  obs := fun s => (He5.obsAG n fa fn s.heap.get?, ex (He.frG s.heap.get? (He5.asA s.heap.get? n)))
  val := fun _ => (He5.valA fn, true)
  says := fun _ h => ∃ K : PySem.W.Frag, K.In h ∧ He5.SaysA fa fn K ∧ ex K = true
  of := fun _ _ e => ⟨_, He.frG_in, congrArg Prod.fst e, congrArg Prod.snd e⟩
  keeps := fun _ _ _ ⟨K, hK, c⟩ k => ⟨K, PySem.W.Frag.In.keeps hK k, c⟩
def obB (n : Nat) (fa : List He.Fa) (fn : List He5.DefA) (ex : PySem.W.Frag → Bool) (g : Addr → Option Obj) : He.AlD × Bool := (He5.obsAG n fa fn g, ex (He.frG g (He5.asA g n)))
theorem obB_eq {n : Nat} {fa : List He.Fa} {fn : List He5.DefA} {ex : PySem.W.Frag → Bool} {g : Addr → Option Obj} {s : Shared} (h : ∀ a, g a = s.heap.get? a) : obB n fa fn ex g = (hookB n fa fn ex).obs s := by
  have e : g = s.heap.get? := funext h
  rw [e] <;> rfl
section
variable {K : PySem.W.Frag}
def kindB (K : PySem.W.Frag) (C : Addr) : Bool := eqO (PySem.W.findIn K (.ref C) "__class__") (some (some (.builtin "object.__class__"))) && (eqO (PySem.W.specialIn K (.builtin "object.__class__") "__get__") (some (some (.builtin "getset_descriptor.__get__"))) &&
  (decide (PySem.W.takesIn K (.builtin "object.__class__") = some true) && decide (PySem.W.mroIn K C (.type "object") = some true)))
theorem kindB_ok {C : Addr} (cl : Cls K C) (h : kindB K C = true) : KindC K C := by
  obtain ⟨h1, h⟩ := ba h
  obtain ⟨h2, h⟩ := ba h
  obtain ⟨h3, h4⟩ := ba h
  exact ⟨cl, eqO_ok h1, eqO_ok h2, of_decide_eq_true h3, of_decide_eq_true h4⟩
def propB (K : PySem.W.Frag) (C : Addr) (f : Str) : Bool := eqO (PySem.W.findIn K (.ref C) f) (some (some (.ref (ma K C f)))) && (eqO (PySem.W.specialIn K (.ref (ma K C f)) "__get__") (some (some (.builtin "property.__get__"))) &&
  (decide (PySem.W.takesIn K (.ref (ma K C f)) = some true) && (match PySem.W.recIn K (ma K C f) "property" with
    | some (.ref g :: _) => decide (g = He5.wf K C "property" f)
    | _ => false)))
theorem propB_ok {C : Addr} {f : Str} (h : propB K C f = true) : PropOf K C f (ma K C f) (He5.wf K C "property" f) := by
  obtain ⟨h1, h⟩ := ba h
  obtain ⟨h2, h⟩ := ba h
  obtain ⟨h3, h4⟩ := ba h
  refine ⟨eqO_ok h1, eqO_ok h2, of_decide_eq_true h3, ?_⟩
  split at h4
  · rename_i g r e
    have := of_decide_eq_true h4
    subst this
    exact ⟨r, e⟩
  · cases h4
def eqB (K : PySem.W.Frag) (C : Addr) : Bool := eqO (PySem.W.findIn K (.ref C) "__eq__") (some (some (.ref (ma K C "__eq__")))) && (PySem.W.isFn K (.ref (ma K C "__eq__")) && (eqO (PySem.W.findIn K (.ref C) "__ne__") (some (some (.builtin "object.__ne__"))) && decide (PySem.W.mroIn K C (.type "object") = some true)))
theorem ec_of {P : Program} {w : World} {mg : Str → Option Value} {base : Heap} {C : Addr} {k : Nat} {G : List D → M} {fd : FuncData} {ps : List Str} (h : eqB K C = true) (F : FnX false P w K mg base k (ma K C "__eq__") fd ps (spG K 2 G)) (b : Binds K fd ps []) : Ec P w K mg base C k G := by
  obtain ⟨h1, h⟩ := ba h
  obtain ⟨h2, h⟩ := ba h
  obtain ⟨h3, h4⟩ := ba h
  exact ⟨_, fd, ps, F, b, eqO_ok h1, h2, eqO_ok h3, of_decide_eq_true h4⟩
def bareB (K : PySem.W.Frag) (C : Addr) : Bool := eqO (PySem.W.findIn K (.ref C) "__bool__") (some none) && eqO (PySem.W.findIn K (.ref C) "__len__") (some none)
theorem bareB_ok {C : Addr} (h : bareB K C = true) : PySem.W.findIn K (.ref C) "__bool__" = some none ∧ PySem.W.findIn K (.ref C) "__len__" = some none := ⟨eqO_ok (ba h).1, eqO_ok (ba h).2⟩
/-- isinstance among ts (kinds) and us (classes): sub tells -/
def tabD (ts us : List Value) (sub : Value → Value → Bool) (t u : Value) : Option Bool := if t ∈ ts ∧ u ∈ us then some (sub t u) else none
def tabB (K : PySem.W.Frag) (ts us : List Value) (sub : Value → Value → Bool) : Bool := ts.all fun t => us.all fun u => decide (PySem.W.kitOne K t u = some (sub t u))
theorem tabB_ok {ts us : List Value} {sub : Value → Value → Bool} (h : tabB K ts us sub = true) (t u : Value) (b : Bool) (e : tabD ts us sub t u = some b) : PySem.W.kitOne K t u = some b := by
  unfold tabD at e
  split at e
  · rename_i hm
    cases e
    exact of_decide_eq_true (List.all_eq_true.mp (List.all_eq_true.mp h t hm.1) u hm.2)
  · cases e
def nfB (K : PySem.W.Frag) (C : Addr) (ts : List Value) : Bool := ts.all fun t => PySem.W.notFirst K C t
def nfD (ts : List Value) (t : Value) : Bool := decide (t ∈ ts)
theorem nfB_ok {C : Addr} {ts : List Value} (h : nfB K C ts = true) (t : Value) (e : nfD ts t = true) : PySem.W.notFirst K C t = true := List.all_eq_true.mp h t (of_decide_eq_true e)
theorem kbn0 {x qual : Str} {params : Arguments} {body : List Stmt} {scope : Scope} {kws : List (Str × V)} {f : Addr} {fd : FuncData} {ps : List Str} (F : FunD K x qual params body scope [] kws f fd) (n : Nat) (ks : List Str) (g : {α : Type} → List α → List α → List α)
    (hrel : ∀ {vs zs : List V} {us ws : List Value}, Vals vs us → Vals zs ws → Vals (g vs zs) (g us ws))
    (h : ∀ (kV doc pm : Value) (an : Option Addr) (cdv ct : Value) (us ws : List Value), us.length = n → ws.length = ks.length → bindArgs (PySem.W.fnOf x qual params body scope .none kV doc pm an cdv ct) ⟨us, ks.zip ws⟩ = pure (ps.zip (g us ws))) : KBn K fd ps n ks g g := by
  obtain ⟨oc, od, dV, kV, doc, pm, an, cdv, ct, osl, rfl, lk, hcd, hD, hK⟩ := F.ex
  rcases hD with ⟨_, rfl⟩ | ⟨e, _⟩
  · exact ⟨fun s us ws X l1 l2 => BindsTo.of_eq (h kV doc pm an cdv ct us ws l1 l2), fun r1 r2 => hrel r1 r2⟩
  · exact absurd rfl e
end
end RV
namespace RV
open PySem L2
open He (eqO eqO_ok ba ga ma)
/-- keywords' values into the parameters' order -/
def perm {α : Type} (m : List Nat) (us ws : List α) : List α := us ++ m.flatMap fun i => (ws.drop i).take 1
theorem vals_take1 {vs : List V} {us : List Value} (h : Vals vs us) : Vals (vs.take 1) (us.take 1) := by
  cases h with
  | nil => exact .nil
  | cons a _ => exact .cons a .nil
theorem vals_perm {m : List Nat} {vs zs : List V} {us ws : List Value} (r1 : Vals vs us) (r2 : Vals zs ws) : Vals (perm m vs zs) (perm m us ws) := by
  refine r1.append ?_
  induction m with
  | nil => exact .nil
  | cons i m ih =>
    rw [List.flatMap_cons, List.flatMap_cons]
    exact (vals_take1 (r2.drop i)).append ih
theorem rpl_drop {K : PySem.W.Frag} {as : List Addr} {F : Hp} : ∀ (n : Nat) {ds : List D} {vs : List V}, RpL K as F ds vs → RpL K as F (ds.drop n) (vs.drop n)
  | 0, _, _, h => h
  | _ + 1, _, _, .nil => .nil
  | n + 1, _, _, .cons _ r => rpl_drop n r
theorem rpl_take1 {K : PySem.W.Frag} {as : List Addr} {F : Hp} {ds : List D} {vs : List V} (h : RpL K as F ds vs) : RpL K as F (ds.take 1) (vs.take 1) := by
  cases h with
  | nil => exact .nil
  | cons a _ => exact .cons a .nil
theorem rpl_perm {K : PySem.W.Frag} {as : List Addr} {F : Hp} {m : List Nat} {ds zs : List D} {vs ws : List V} (r1 : RpL K as F ds vs) (r2 : RpL K as F zs ws) : RpL K as F (perm m ds zs) (perm m vs ws) := by
  refine r1.append ?_
  induction m with
  | nil => exact .nil
  | cons i m ih =>
    rw [List.flatMap_cons, List.flatMap_cons]
    exact (rpl_take1 (rpl_drop i r2)).append ih
theorem mkK_of {P : Program} {w : World} {K : PySem.W.Frag} {mg : Str → Option Value} {base : Heap} {x y qual : Str} {params : Arguments} {body : List Stmt} {scope : Scope} {kws : List (Str × V)} {f C : Addr} {fd : FuncData} {ps : List Str} {k n : Nat} {G : List D → M} (m1 : Nat) (ks : List Str) (m : List Nat) (F : FunD K x qual params body scope [] kws f fd) (M : Mk K C f) (ok : FnX false P w K mg base k f fd ps (spG K n G)) (hm : mg y = some (.ref C))
    (h : ∀ (kV doc pm : Value) (an : Option Addr) (cdv ct : Value) (us ws : List Value), us.length = m1 + 1 → ws.length = ks.length → bindArgs (PySem.W.fnOf x qual params body scope .none kV doc pm an cdv ct) ⟨us, ks.zip ws⟩ = pure (ps.zip (perm m us ws))) :
    Mk_ P w K mg base y C k n m1 ks G (perm m) :=
  ⟨f, fd, ps, perm m, perm m, M, ok, kbn0 F (m1 + 1) ks (perm m) vals_perm h, fun as F ds zs vs ws s r1 r2 _ _ => ⟨perm m vs ws, rfl, rpl_perm r1 r2⟩, hm⟩
end RV
namespace RV
open PySem L2
/-! ### the head -/
section
open He (eqO eqO_ok ba ga ma)
variable {P : Program} {w : World} {K : PySem.W.Frag} {mg : Str → Option Value} {base : Heap} {C : Addr} {k n : Nat} {G : List D → M} {fd : FuncData} {ps : List Str}
def specB (K : PySem.W.Frag) (C : Addr) (m : Str) : Bool := eqO (PySem.W.findIn K (.ref C) m) (some (some (.ref (ma K C m)))) && PySem.W.isFn K (.ref (ma K C m))
theorem sc_of {m : Str} (h : specB K C m = true) (F : FnX false P w K mg base k (ma K C m) fd ps (spG K n G)) (b : Binds K fd ps []) : Sc P w K mg base C m k n G :=
  ⟨_, fd, ps, F, b, eqO_ok (ba h).1, (ba h).2⟩
def readB (K : PySem.W.Frag) (C : Addr) : Bool := PySem.W.readsIn K C (.type "type") && eqO (PySem.W.specialIn K (.ref C) "__getattribute__") (some (some (.builtin "type.__getattribute__")))
def cmetB (K : PySem.W.Frag) (C : Addr) (m : Str) : Bool := He5.wrapB K C "classmethod" "classmethod.__get__" m && PySem.W.fnIn K (He5.wf K C "classmethod" m)
theorem cm_of {m : Str} (h0 : readB K C = true) (h : cmetB K C m = true) (F : FnX false P w K mg base k (He5.wf K C "classmethod" m) fd ps (spG K n G)) (b : Binds K fd ps []) : Cm P w K mg base C m k n G :=
  ⟨_, _, fd, ps, ⟨(ba h0).1, eqO_ok (ba h0).2⟩, He5.cmet_of (ba h).1 (ba h).2, F, b⟩
theorem cmK_of {m x qual : Str} {params : Arguments} {body : List Stmt} {scope : Scope} {kws : List (Str × V)} (ks : List Str) (pm : List Nat) (h0 : readB K C = true) (h : cmetB K C m = true) (Fd : FunD K x qual params body scope [] kws (He5.wf K C "classmethod" m) fd) (F : FnX false P w K mg base k (He5.wf K C "classmethod" m) fd ps (spG K n G))
    (hb : ∀ (kV doc pm_ : Value) (an : Option Addr) (cdv ct : Value) (us ws : List Value), us.length = 1 → ws.length = ks.length → bindArgs (PySem.W.fnOf x qual params body scope .none kV doc pm_ an cdv ct) ⟨us, ks.zip ws⟩ = pure (ps.zip (perm pm us ws))) : CmK P w K mg base C m k n ks G (perm pm) :=
  ⟨_, _, fd, ps, perm pm, perm pm, ⟨(ba h0).1, eqO_ok (ba h0).2⟩, He5.cmet_of (ba h).1 (ba h).2, F, kbn0 Fd 1 ks (perm pm) vals_perm hb, fun as F zs ws r _ => ⟨perm pm [] ws, rfl, rpl_perm .nil r⟩⟩
/-- the empty tuple that is a default -/
def tup0B (K : PySem.W.Frag) (a : Addr) : Bool := match K.lookup a with
  | some ⟨.type T, none, .seq its _, _⟩ => decide (T = "tuple") && its.isEmpty
  | _ => false
end
end RV
end
section
/-! The own classes of a text; small things for the printed proofs. -/
namespace RV
open PySem L2
/-- where the own classes stand; those that are there -/
structure Ad where
  c : String → Addr
  here : List String
structure AdOk (A : Ad) (cs : List String) : Prop where
  here : A.here = cs
  nd : (cs.map A.c).Nodup
def own (A : Ad) (C : Addr) : Bool := A.here.any fun n => A.c n == C
def kinds (A : Ad) : List Value := [.type "NoneType", .type "bool", .type "int", .type "str", .type "tuple", .type "list"] ++ A.here.map fun n => .ref (A.c n)
def clss (A : Ad) : List Value := [.type "bool", .type "int", .type "str", .type "tuple", .type "list"] ++ A.here.map fun n => .ref (A.c n)
def sub (_ : Ad) (t u : Value) : Bool := decide (t = u) || (decide (t = .type "bool") && decide (u = .type "int"))
def tab (A : Ad) : Value → Value → Option Bool := tabD (kinds A) (clss A) (sub A)
def nf (A : Ad) : Value → Bool := nfD (kinds A)
theorem own_of {K : PySem.W.Frag} {A : Ad} (h : ∀ n ∈ A.here, KindC K (A.c n)) (C : Addr) (e : own A C = true) : KindC K C := by
  unfold own at e
  obtain ⟨n, hn, e⟩ := List.any_eq_true.mp e
  rw [← beq_iff_eq.mp e]
  exact h n hn
theorem nogd {p : Prop} : false = true → p := fun h => nomatch h
theorem FnX.up {P : Program} {w : World} {K : PySem.W.Frag} {mg : Str → Option Value} {base : Heap} {k : Nat} {f : Addr} {fd : FuncData} {ps : List Str} {sp : Sp} (F : FnX false P w K mg base k f fd ps sp) : FnX true P w K mg base k f fd ps sp :=
  ⟨F.len, fun A outer s H args us vs Q E _ => F.run A outer s H args us vs Q E nogd⟩
section
variable {X : Cx} {W : WX} {pos : Pos}
/-- a try whose body raises nothing -/
def sCalm (m : Env → MS) : Env → MS := fun ρ S k => m ρ S ⟨k.nx, k.rt, k.bk, k.ct, fun _ _ _ => False⟩
theorem gs_tryThru {body : List Stmt} {h0 : ExceptHandler} {hs : List ExceptHandler} {m : Env → MS} (h : GSs X.nox WF body m) : GS X W (.Try body (h0 :: hs) [] [] pos) (sCalm m) := by
  obtain ⟨t, p, m⟩ := h
  exact ⟨_, ps_try_thru0 p, fun as F H S ρ σ I R k h E q => m as F H S ρ σ I R _ h E ⟨q.nx, q.rt, q.bk, q.ct, fun _ _ _ _ _ _ _ _ _ h => h.elim⟩⟩
end
end RV
end
section
/-! Words for running the readings: one statement at a time; states with a well. -/
namespace RV
open PySem L2
theorem onS_some {α : Type} {a : α} {k : α → Prop} : onS (some a) k = k a := rfl
theorem onB_bl {b : Bool} {k : Bool → Prop} : onB (.bl b) k = k b := rfl
theorem iteB_t {p q : Prop} : iteB true p q = p := rfl
theorem iteB_f {p q : Prop} : iteB false p q = q := rfl
theorem iteB_by {b : Bool} {p q : Prop} (h1 : b = true → p) (h2 : b = false → q) : iteB b p q := by
  cases b
  · exact h2 rfl
  · exact h1 rfl
theorem iteB_dec {c : Prop} [Decidable c] {p q : Prop} (h1 : c → p) (h2 : ¬ c → q) : iteB (decide c) p q := iteB_by (fun h => h1 (of_decide_eq_true h)) (fun h => h2 (of_decide_eq_false h))
theorem look0 {d : Option D} {r : Env} : look (d :: r) 0 = d := rfl
theorem look1 {a0 a1 : Option D} {r : Env} : look (a0 :: a1 :: r) 1 = a1 := rfl
theorem look2 {a0 a1 a2 : Option D} {r : Env} : look (a0 :: a1 :: a2 :: r) 2 = a2 := rfl
theorem look3 {a0 a1 a2 a3 : Option D} {r : Env} : look (a0 :: a1 :: a2 :: a3 :: r) 3 = a3 := rfl
theorem look4 {a0 a1 a2 a3 a4 : Option D} {r : Env} : look (a0 :: a1 :: a2 :: a3 :: a4 :: r) 4 = a4 := rfl
theorem look5 {a0 a1 a2 a3 a4 a5 : Option D} {r : Env} : look (a0 :: a1 :: a2 :: a3 :: a4 :: a5 :: r) 5 = a5 := rfl
theorem look6 {a0 a1 a2 a3 a4 a5 a6 : Option D} {r : Env} : look (a0 :: a1 :: a2 :: a3 :: a4 :: a5 :: a6 :: r) 6 = a6 := rfl
theorem look7 {a0 a1 a2 a3 a4 a5 a6 a7 : Option D} {r : Env} : look (a0 :: a1 :: a2 :: a3 :: a4 :: a5 :: a6 :: a7 :: r) 7 = a7 := rfl
theorem look8 {a0 a1 a2 a3 a4 a5 a6 a7 a8 : Option D} {r : Env} : look (a0 :: a1 :: a2 :: a3 :: a4 :: a5 :: a6 :: a7 :: a8 :: r) 8 = a8 := rfl
theorem look9 {a0 a1 a2 a3 a4 a5 a6 a7 a8 a9 : Option D} {r : Env} : look (a0 :: a1 :: a2 :: a3 :: a4 :: a5 :: a6 :: a7 :: a8 :: a9 :: r) 9 = a9 := rfl
theorem look10 {a0 a1 a2 a3 a4 a5 a6 a7 a8 a9 a10 : Option D} {r : Env} : look (a0 :: a1 :: a2 :: a3 :: a4 :: a5 :: a6 :: a7 :: a8 :: a9 :: a10 :: r) 10 = a10 := rfl
theorem look11 {a0 a1 a2 a3 a4 a5 a6 a7 a8 a9 a10 a11 : Option D} {r : Env} : look (a0 :: a1 :: a2 :: a3 :: a4 :: a5 :: a6 :: a7 :: a8 :: a9 :: a10 :: a11 :: r) 11 = a11 := rfl
theorem look12 {a0 a1 a2 a3 a4 a5 a6 a7 a8 a9 a10 a11 a12 : Option D} {r : Env} : look (a0 :: a1 :: a2 :: a3 :: a4 :: a5 :: a6 :: a7 :: a8 :: a9 :: a10 :: a11 :: a12 :: r) 12 = a12 := rfl
theorem look13 {a0 a1 a2 a3 a4 a5 a6 a7 a8 a9 a10 a11 a12 a13 : Option D} {r : Env} : look (a0 :: a1 :: a2 :: a3 :: a4 :: a5 :: a6 :: a7 :: a8 :: a9 :: a10 :: a11 :: a12 :: a13 :: r) 13 = a13 := rfl
theorem look14 {a0 a1 a2 a3 a4 a5 a6 a7 a8 a9 a10 a11 a12 a13 a14 : Option D} {r : Env} : look (a0 :: a1 :: a2 :: a3 :: a4 :: a5 :: a6 :: a7 :: a8 :: a9 :: a10 :: a11 :: a12 :: a13 :: a14 :: r) 14 = a14 := rfl
theorem look15 {a0 a1 a2 a3 a4 a5 a6 a7 a8 a9 a10 a11 a12 a13 a14 a15 : Option D} {r : Env} : look (a0 :: a1 :: a2 :: a3 :: a4 :: a5 :: a6 :: a7 :: a8 :: a9 :: a10 :: a11 :: a12 :: a13 :: a14 :: a15 :: r) 15 = a15 := rfl
theorem seq_gen {m1 m2 : Env → MS} {ρ : Env} {S : WS} {k : Kt} (h : ∀ N : Env → WS → Prop, (N = fun ρ' S' => m2 ρ' S' k) → m1 ρ S ⟨N, k.rt, k.bk, k.ct, k.ex⟩) : sSeq m1 m2 ρ S k := h _ rfl
theorem onI_i {i : Int} {k : Int → Prop} : onI (.int i) k = k i := rfl
theorem onT_s {i : Str} {k : Str → Prop} : onT (.str i) k = k i := rfl
theorem onTu_t {i : List D} {k : List D → Prop} : onTu (.tup i) k = k i := rfl
theorem onCe_c {i : Nat} {k : Nat → Prop} : onCe (.cell i) k = k i := rfl
theorem on1_ {a : D} {k : D → Prop} : on1 [a] k = k a := rfl
theorem on2_ {a b : D} {k : D → D → Prop} : on2 [a, b] k = k a b := rfl
theorem on3_ {a b c : D} {k : D → D → D → Prop} : on3 [a, b, c] k = k a b c := rfl
theorem onLst_l {ds : List D} {k : List D → Prop} : onLst (.lst ds) k = k ds := rfl
theorem onOb_o {C : Addr} {fs : List (Str × D)} {k : Addr → List (Str × D) → Prop} : onOb (.ob C fs) k = k C fs := rfl
theorem onSeq_l {ds : List D} {S : WS} {q : List D → (WS → Prop) → WS → Prop} : onSeq (.lst ds) S q = q ds any_ S := rfl
theorem onSeq_r {ns : List Int} {S : WS} {q : List D → (WS → Prop) → WS → Prop} : onSeq (.scr ns) S q = q (ns.map D.int) any_ S := rfl
theorem onSeq_c {i : Nat} {S : WS} {q : List D → (WS → Prop) → WS → Prop} : onSeq (.cell i) S q = onS S[i]? fun c => onLst c fun ds => q ds (Holds i ds) S := rfl
theorem lkD_s {ds : List D} {S : WS} {q : D → WS → Prop} : lkD .still ds S q = q (.lst ds) S := rfl
theorem lkD_n {ds : List D} {S : WS} {q : D → WS → Prop} : lkD .new ds S q = (D.cleanL 0 ds = true ∧ q (.cell S.length) (S ++ [.lst ds])) := rfl
theorem lkO_s {C : Addr} {fs : List (Str × D)} {n : Nat} {S : WS} {q : D → WS → Prop} : lkO .still C fs n S q = q (.obj C fs) (S.take n) := rfl
theorem lkO_n {C : Addr} {fs : List (Str × D)} {n : Nat} {S : WS} {q : D → WS → Prop} : lkO .new C fs n S q = q (.cell n) (S.take n ++ [.ob C fs]) := rfl
theorem tTup_t {n : Nat} {g : List D → Env → Option Env} {ds : List D} {ρ : Env} : tTupD n g (.tup ds) ρ = if ds.length = n then g ds ρ else none := rfl
theorem tsCons_c {f : D → Env → Option Env} {g : List D → Env → Option Env} {d : D} {r : List D} {ρ : Env} : tsCons f g (d :: r) ρ = (f d ρ).bind fun ρ' => g r ρ' := rfl
theorem tsNil_n {ρ : Env} : tsNil [] ρ = some ρ := rfl
theorem any_t {S : WS} : any_ S = True := rfl
theorem eC_ {d : D} {ρ : Env} {S : WS} {q : D → WS → Prop} {x : Xq} : eC d ρ S q x = q d S := rfl
theorem isOb_obj {C C' : Addr} {S : WS} {fs : List (Str × D)} : isOb C S (.obj C' fs) = (C' = C) := rfl
theorem isN_non {neg : Bool} {S : WS} : isND neg S .non .non = some (.bl (!neg)) := rfl
theorem truD_bl {S : WS} {b : Bool} : truD S (.bl b) = some b := rfl
theorem small_0 : small 0 = true := rfl
theorem small_1 : small 1 = true := rfl
theorem small_2 : small 2 = true := rfl
theorem small_3 : small 3 = true := rfl
theorem small_4 : small 4 = true := rfl
theorem small_5 : small 5 = true := rfl
theorem small_6 : small 6 = true := rfl
theorem small_7 : small 7 = true := rfl
theorem small_8 : small 8 = true := rfl
theorem small_of {n : Nat} (h : n ≤ 100000) : small n = true := decide_eq_true h
theorem mulD_int {S : WS} {i j : Int} (h : mulOk i j = true) : mulD S (.int i) (.int j) = some (.int (i * j)) := if_pos h
theorem powD_int {S : WS} {i j : Int} (h : powOk i j = true) : powD S (.int i) (.int j) = some (.int (i ^ j.toNat)) := if_pos h
theorem modD_int {S : WS} {i j : Int} (h : 0 < j) : modD S (.int i) (.int j) = some (.int (i % j)) := if_pos (decide_eq_true h)
theorem fdivD_int {S : WS} {i j : Int} (h : divOk i j = true) : fdivD S (.int i) (.int j) = some (.int (i / j)) := if_pos h
theorem ltD_int {S : WS} {i j : Int} : ltD S (.int i) (.int j) = some (.bl (decide (i < j))) := rfl
theorem leD_int {S : WS} {i j : Int} : leD S (.int i) (.int j) = some (.bl (decide (i ≤ j))) := rfl
theorem gtD_int {S : WS} {i j : Int} : gtD S (.int i) (.int j) = some (.bl (decide (j < i))) := rfl
theorem geD_int {S : WS} {i j : Int} : geD S (.int i) (.int j) = some (.bl (decide (j ≤ i))) := rfl
theorem subD_int {S : WS} {i j : Int} : subD S (.int i) (.int j) = some (.int (i - j)) := rfl
theorem addD_int {S : WS} {i j : Int} : addD S (.int i) (.int j) = some (.int (i + j)) := rfl
theorem addD_str {S : WS} {a b : Str} (h : small (a.length + b.length) = true) : addD S (.str a) (.str b) = some (.str (a ++ b)) := if_pos h
theorem addD_lst {S : WS} {a b : List D} (h : small (a.length + b.length) = true) : addD S (.lst a) (.lst b) = some (.lst (a ++ b)) := if_pos h
theorem intOf_int {S : WS} {i : Int} : intOfD S [.int i] = some (.int i) := rfl
theorem absD_int {S : WS} {i : Int} : absD S [.int i] = some (.int (if i < 0 then -i else i)) := rfl
theorem eqD_int {S : WS} {i j : Int} : eqD S (.int i) (.int j) = some (.bl (decide (i = j))) := rfl
theorem neD_int {S : WS} {i j : Int} : neD S (.int i) (.int j) = some (.bl (!decide (i = j))) := rfl
theorem eqD_str {S : WS} {i j : Str} : eqD S (.str i) (.str j) = some (.bl (decide (i = j))) := rfl
theorem neD_str {S : WS} {i j : Str} : neD S (.str i) (.str j) = some (.bl (!decide (i = j))) := rfl
theorem eqD_bl {S : WS} {i j : Bool} : eqD S (.bl i) (.bl j) = some (.bl (decide (i = j))) := rfl
theorem neD_bl {S : WS} {i j : Bool} : neD S (.bl i) (.bl j) = some (.bl (!decide (i = j))) := rfl
theorem mulOk_l {i j : Int} (h : 0 ≤ i) (h1 : i < 18446744073709551616) : mulOk i j = true := decide_eq_true (.inl ⟨by omega, by simpa using h1⟩)
theorem mulOk_r {i j : Int} (h : 0 ≤ j) (h1 : j < 18446744073709551616) : mulOk i j = true := decide_eq_true (.inr ⟨by omega, by simpa using h1⟩)
theorem fin_self {S : WS} {d : D} {q : D → WS → Prop} : fin S.length d S q = q d S := if_pos rfl
theorem finX_self {S : WS} {d : D} {x : Xq} : finX S.length d S x = x d S := if_pos rfl
theorem atI_nat {α : Type} {xs : List α} {i : Int} (h0 : 0 ≤ i) (h1 : i < xs.length) : atI xs i = xs[i.toNat]? := by
  unfold atI ixN
  rw [if_pos h0, if_pos h1, Option.bind_some]
/-! ### a well -/
structure W where
  a : Int
  b : Int
  c : Int
def W.d (w : W) : Cell := .lst [.int w.a, .int w.b, .int w.c]
structure Good (n : Int) (w : W) : Prop where
  a0 : 0 ≤ w.a
  a1 : w.a < 2147483629
  b0 : 0 ≤ w.b
  c0 : 0 ≤ w.c
  c1 : w.c ≤ n
theorem Good.mono {n m : Int} {w : W} (h : Good n w) (e : n ≤ m) : Good m w := ⟨h.a0, h.a1, h.b0, h.c0, by have := h.c1; omega⟩
/-- the cells S with the well w at k, then T -/
def st (S : WS) (k : Nat) (w : W) (T : WS) : WS := S.set k w.d ++ T
section
variable {S T : WS} {k : Nat} {w w' : W} {c c' : Cell} {r : WS} {d : D} {q : D → WS → Prop}
theorem st_len : (st S k w T).length = S.length + T.length := by simp [st]
theorem st_app : st S k w T ++ r = st S k w (T ++ r) := by simp [st]
theorem st_at (hk : k < S.length) : (st S k w T)[k]? = some w.d := by
  unfold st
  rw [List.getElem?_append_left (by simpa using hk)]
  simp [hk]
theorem st_put (hk : k < S.length) {x y z : Int} : (st S k w T).set k (.lst [.int x, .int y, .int z]) = st S k ⟨x, y, z⟩ T := by
  unfold st W.d
  rw [List.set_append_left _ _ (by simpa using hk)]
  simp
theorem st_at0 : (st S k w (T ++ c :: r))[S.length + T.length]? = some c := by
  unfold st
  rw [← List.append_assoc, List.getElem?_append_right (by simp)]
  simp
theorem st_set0 : (st S k w (T ++ c :: r)).set (S.length + T.length) c' = st S k w (T ++ c' :: r) := by
  unfold st
  rw [← List.append_assoc, List.set_append_right _ _ (by simp)]
  simp
theorem st_at1 {b : Cell} : (st S k w (T ++ b :: c :: r))[S.length + T.length + 1]? = some c := by
  unfold st
  rw [← List.append_assoc, List.getElem?_append_right (by simp)]
  have : S.length + T.length + 1 - (List.set S k w.d ++ T).length = 1 := by simp
  rw [this]
  rfl
theorem st_set1 {b : Cell} : (st S k w (T ++ b :: c :: r)).set (S.length + T.length + 1) c' = st S k w (T ++ b :: c' :: r) := by
  unfold st
  rw [← List.append_assoc, List.set_append_right _ _ (by simp)]
  have : S.length + T.length + 1 - (List.set S k w.d ++ T).length = 1 := by simp
  rw [this]
  simp
theorem fin_st : fin (S.length + T.length) d (st S k w T) q = q d (st S k w T) := if_pos st_len
/-- a def's own cells are gone at its end -/
theorem fin_stT (h : D.clean (S.length + T.length) d = true) (hn : ∀ i, d ≠ .cell i) : fin (S.length + T.length) d (st S k w (T ++ c :: r)) q = q d (st S k w T) := by
  have hl : ¬ (st S k w (T ++ c :: r)).length = S.length + T.length := by
    rw [st_len]
    simp
  have ht : (st S k w (T ++ c :: r)).take (S.length + T.length) = st S k w T := by
    unfold st
    rw [← List.append_assoc, List.take_append_of_le_length (by simp), List.take_of_length_le (by simp)]
  unfold fin
  rw [if_neg hl]
  split
  · exact absurd rfl (hn _)
  · rw [ht, h]
    simp
/-- a list of its own is handed back -/
theorem fin_stL {ds : List D} : fin (S.length + T.length) (.cell (S.length + T.length)) (st S k w (T ++ .lst ds :: r)) q = q (.lst ds) (st S k w T) := by
  have hl : ¬ (st S k w (T ++ .lst ds :: r)).length = S.length + T.length := by
    rw [st_len]
    simp
  have ht : (st S k w (T ++ .lst ds :: r)).take (S.length + T.length) = st S k w T := by
    unfold st
    rw [← List.append_assoc, List.take_append_of_le_length (by simp), List.take_of_length_le (by simp)]
  unfold fin
  rw [if_neg hl]
  simp only [Nat.lt_irrefl, if_false, st_at0, onS_some, onLst_l, ht]
end
/-! the same for a state without a well -/
section
variable {S : WS} {c c' : Cell} {r : WS} {d : D} {q : D → WS → Prop}
theorem app_at0 : (S ++ c :: r)[S.length]? = some c := by simp
theorem app_set0 : (S ++ c :: r).set S.length c' = S ++ c' :: r := by simp
theorem app_at1 {b : Cell} : (S ++ b :: c :: r)[S.length + 1]? = some c := by simp
theorem app_set1 {b : Cell} : (S ++ b :: c :: r).set (S.length + 1) c' = S ++ b :: c' :: r := by
  rw [List.set_append_right _ _ (by omega)]
  simp
theorem fin_app (h : D.clean S.length d = true) (hn : ∀ i, d ≠ .cell i) : fin S.length d (S ++ c :: r) q = q d S := by
  have hl : ¬ (S ++ c :: r).length = S.length := by simp
  unfold fin
  rw [if_neg hl]
  split
  · exact absurd rfl (hn _)
  · rw [h]
    simp
theorem fin_appL {ds : List D} : fin S.length (.cell S.length) (S ++ .lst ds :: r) q = q (.lst ds) S := by
  have hl : ¬ (S ++ Cell.lst ds :: r).length = S.length := by simp
  unfold fin
  rw [if_neg hl]
  simp [onS, onLst]
end
theorem fin_appS {S : WS} {c c' : Cell} {d : D} {q : D → WS → Prop} : fin (S ++ [c']).length d (S ++ [c]) q = q d (S ++ [c]) := if_pos (by simp)
theorem atI_cons {α : Type} {a : α} {l : List α} : atI (a :: l) 0 = some a := by
  unfold atI ixN
  simp
theorem take_app {S r : WS} : (S ++ r).take S.length = S := by simp
/-! ### loops and comprehensions -/
section
variable {N : WS → Prop} {f : D → Env → Option Env} {mb : Env → MS} {mc : Env → MB} {me : Env → M} {ρ : Env} {S : WS} {k : Kt}
theorem for_nil : forD N f mb [] ρ S k = (N S ∧ k.nx ρ S) := rfl
theorem for_cons {d : D} {ds : List D} : forD N f mb (d :: ds) ρ S k = (N S ∧ onS (f d ρ) fun ρ1 => mb ρ1 S ⟨fun ρ2 S2 => forD N f mb ds ρ2 S2 k, k.rt, k.nx, fun ρ2 S2 => forD N f mb ds ρ2 S2 k, k.ex⟩) := rfl
/-- a comprehension whose parts leave the state alone -/
theorem lc_eq {α : Type} {inj : α → D} {p : α → Bool} {g : α → D} {q : List D → WS → Prop} : ∀ (xs : List α) (acc : List D), N S → (∀ a ∈ xs, ∃ ρ1, f (inj a) ρ = some ρ1 ∧ (∀ q x, mc ρ1 S q x = q (p a) S) ∧ (p a = true → ∀ q x, me ρ1 S q x = q (g a) S)) →
    lcD N f mc me ρ (xs.map inj) acc S q = q (acc ++ (xs.filter p).map g) S
  | [], acc, hN, _ => by simp [lcD, hN]
  | a :: xs, acc, hN, hs => by
    obtain ⟨ρ1, h1, h2, h3⟩ := hs a (List.mem_cons_self ..)
    have ih := fun acc => lc_eq (q := q) xs acc hN (fun b hb => hs b (List.mem_cons_of_mem _ hb))
    rw [List.map_cons]
    unfold lcD
    rw [h1, onS_some, h2]
    cases hp : p a with
    | true =>
      rw [iteB_t, h3 hp, ih]
      simp [hN, hp]
    | false =>
      rw [iteB_f, ih]
      simp [hN, hp]
theorem lc_pure {α : Type} {inj : α → D} {p : α → Bool} {g : α → D} {q : List D → WS → Prop} (xs : List α) (acc : List D) (hN : N S) (hs : ∀ a ∈ xs, ∃ ρ1, f (inj a) ρ = some ρ1 ∧ (∀ q x, mc ρ1 S q x = q (p a) S) ∧ (p a = true → ∀ q x, me ρ1 S q x = q (g a) S))
    (h : q (acc ++ (xs.filter p).map g) S) : lcD N f mc me ρ (xs.map inj) acc S q := by
  rw [lc_eq xs acc hN hs]
  exact h
theorem lc_mapEq {α : Type} {inj : α → D} {g : α → D} {q : List D → WS → Prop} (xs : List α) (hN : N S) (h : ∀ a ∈ xs, ∃ ρ1, f (inj a) ρ = some ρ1 ∧ ∀ q x, me ρ1 S q x = q (g a) S) : lcD N f bYes me ρ (xs.map inj) [] S q = q (xs.map g) S := by
  rw [lc_eq (p := fun _ => true) (g := g) xs [] hN (fun a ha => by
    obtain ⟨ρ1, h1, h2⟩ := h a ha
    exact ⟨ρ1, h1, fun _ _ => rfl, fun _ => h2⟩), List.nil_append, List.filter_eq_self.mpr fun _ _ => rfl]
/-- .. without a test -/
theorem lc_map {α : Type} {inj : α → D} {g : α → D} {q : List D → WS → Prop} (xs : List α) (hN : N S) (h : ∀ a ∈ xs, ∃ ρ1, f (inj a) ρ = some ρ1 ∧ ∀ q x, me ρ1 S q x = q (g a) S) (hq : q (xs.map g) S) : lcD N f bYes me ρ (xs.map inj) [] S q :=
  lc_pure (p := fun _ => true) xs [] hN (fun a ha => by
    obtain ⟨ρ1, h1, h2⟩ := h a ha
    exact ⟨ρ1, h1, fun _ _ => rfl, fun _ => h2⟩) (by rw [List.nil_append, List.filter_eq_self.mpr fun _ _ => rfl]; exact hq)
end
theorem allD_true {S : WS} {n : Nat} : allD S [.lst (List.replicate n (.bl true))] = some (.bl true) := by
  have : boolsD (List.replicate n (.bl true)) = some (List.replicate n true) := by
    induction n with
    | zero => rfl
    | succ n ih => simp [List.replicate_succ, boolsD, ih]
  simp [allD, this]
theorem bools_map {α : Type} {p : α → Bool} : ∀ xs : List α, boolsD (xs.map fun a => D.bl (p a)) = some (xs.map p)
  | [] => rfl
  | a :: xs => by simp [boolsD, bools_map xs]
theorem allD_map {α : Type} {S : WS} {p : α → Bool} {xs : List α} : allD S [.lst (xs.map fun a => D.bl (p a))] = some (.bl (xs.all p)) := by
  simp [allD, bools_map, Function.comp_def]
theorem anyD_map {α : Type} {S : WS} {p : α → Bool} {xs : List α} : anyD S [.lst (xs.map fun a => D.bl (p a))] = some (.bl (xs.any p)) := by
  simp [anyD, bools_map, Function.comp_def]
end RV
end
section
/-! Names, in plain Lean. -/
namespace RV
open PySem L2
def letters : Str := "abcdefghijklmnopqrstuvwxyz"
def digits : Str := "0123456789"
def signs : Str := "abcdefghijklmnopqrstuvwxyz0123456789"
def isLt (c : Nat) : Bool := decide (c ∈ letters.cps.toList)
def isDg (c : Nat) : Bool := decide (c ∈ digits.cps.toList)
def nmL : List Nat → Bool
  | [] => false
  | c :: r => isLt c && (decide (r.length ≤ 7) && r.all fun x => isLt x || isDg x)
def Nm (s : Str) : Prop := nmL s.cps.toList = true
theorem signs_at {i : Nat} (h : i < 36) : ∃ c, signs.cps.toList[i]? = some c ∧ (isLt c || isDg c) = true ∧ (i < 26 → isLt c = true) := by
  have : ∀ i : Fin 36, (match signs.cps.toList[i.val]? with
    | some c => (isLt c || isDg c) && (decide (26 ≤ i.val) || isLt c)
    | none => false) = true := by decide +kernel
  have t := this ⟨i, h⟩
  simp only at t
  split at t
  · rename_i c e
    simp only [Bool.and_eq_true, Bool.or_eq_true, decide_eq_true_eq] at t
    exact ⟨c, e, by simpa using t.1, fun hi => by rcases t.2 with z | z; omega; exact z⟩
  · cases t
theorem signs_atI {r : Int} (h0 : 0 ≤ r) (h : r < 36) : ∃ c, atI signs.cps.toList r = some c ∧ (isLt c || isDg c) = true ∧ (r < 26 → isLt c = true) := by
  obtain ⟨c, e, h1, h2⟩ := signs_at (i := r.toNat) (by omega)
  refine ⟨c, ?_, h1, fun z => h2 (by omega)⟩
  unfold atI ixN
  rw [if_pos h0, if_pos (show r < ((signs.cps.toList.length : Nat) : Int) from h), Option.bind_some]
  exact e
theorem cat_cps (a b : Str) : (a ++ b).cps.toList = a.cps.toList ++ b.cps.toList := by
  show (a.cps ++ b.cps).toList = _
  simp
theorem len_cps (a : Str) : a.length = a.cps.toList.length := by
  show a.cps.size = _
  simp
theorem nm_len {s : Str} (h : Nm s) : 1 ≤ s.length ∧ s.length ≤ 8 := by
  rw [len_cps]
  unfold Nm nmL at h
  split at h
  · cases h
  · rename_i c r e
    simp only [Bool.and_eq_true, decide_eq_true_eq] at h
    rw [e]
    simp
    omega
theorem nm_snoc {s : Str} {c : Nat} (h : Nm s) (hl : s.length ≤ 7) (hc : (isLt c || isDg c) = true) : Nm (s ++ ⟨#[c]⟩) := by
  rw [len_cps] at hl
  unfold Nm at h ⊢
  rw [cat_cps]
  unfold nmL at h
  split at h
  · cases h
  · rename_i a r e
    rw [e] at hl ⊢
    simp only [Bool.and_eq_true, decide_eq_true_eq] at h
    simp only [List.length_cons] at hl
    show (isLt a && (decide ((r ++ [c]).length ≤ 7) && (r ++ [c]).all fun x => isLt x || isDg x)) = true
    simp only [Bool.and_eq_true, decide_eq_true_eq, List.length_append, List.length_singleton, List.all_append]
    refine ⟨h.1, by omega, h.2.2, by simpa using hc⟩
theorem nm_take {l : List Nat} (m : Nat) (h : nmL l = true) (hm : 0 < m) : nmL (l.take m) = true := by
  cases l with
  | nil => cases h
  | cons a r =>
    obtain ⟨m, rfl⟩ : ∃ j, m = j + 1 := ⟨m - 1, by omega⟩
    rw [List.take_succ_cons]
    simp only [nmL, Bool.and_eq_true, decide_eq_true_eq, List.all_eq_true] at h ⊢
    refine ⟨h.1, ?_, fun x hx => h.2.2 x (List.mem_of_mem_take hx)⟩
    rw [List.length_take]
    omega
def words : List D := [.str "pipe", .str "meter", .str "sealed", .str "self", .str "net", .str "tell", .str "if", .str "a"]
theorem words_at {r : Int} (h0 : 0 ≤ r) (h : r < 8) : ∃ s, atI words r = some (.str s) ∧ Nm s := by
  have : r = 0 ∨ r = 1 ∨ r = 2 ∨ r = 3 ∨ r = 4 ∨ r = 5 ∨ r = 6 ∨ r = 7 := by omega
  rcases this with e | e | e | e | e | e | e | e <;> subst e <;> exact ⟨_, rfl, by unfold Nm; decide +kernel⟩
theorem nm_one {c : Nat} (h : isLt c = true) : Nm ⟨#[c]⟩ := by
  unfold Nm
  show (isLt c && (decide (([] : List Nat).length ≤ 7) && ([] : List Nat).all fun x => isLt x || isDg x)) = true
  rw [h]
  rfl
theorem isAl_lt {c : Nat} (h : (isLt c || isDg c) = true) : c < 128 := by
  simp only [Bool.or_eq_true, isLt, isDg, decide_eq_true_eq] at h
  have h1 : ∀ c ∈ letters.cps.toList, c < 128 := by decide +kernel
  have h2 : ∀ c ∈ digits.cps.toList, c < 128 := by decide +kernel
  rcases h with h | h
  · exact h1 c h
  · exact h2 c h
theorem nm_all {s : Str} (h : Nm s) : ∀ c ∈ s.cps.toList, (isLt c || isDg c) = true := by
  unfold Nm nmL at h
  split at h
  · cases h
  · rename_i a r e
    rw [e]
    simp only [Bool.and_eq_true, decide_eq_true_eq, List.all_eq_true] at h
    intro c hc
    rcases List.mem_cons.mp hc with z | z
    · subst z
      rw [h.1]
      rfl
    · exact h.2.2 c z
theorem nm_strOk {s : Str} (h : Nm s) : PyData.strOk s = true := by
  unfold PyData.strOk
  rw [← Array.all_toList, List.all_eq_true]
  intro c hc
  exact decide_eq_true (Nat.lt_trans (isAl_lt (nm_all h c hc)) (by decide))
theorem nm_small {s : Str} (h : Nm s) : small s.length = true := decide_eq_true (by have := (nm_len h).2; omega)
theorem pyL_str : ∀ ts : List Str, D.pyL (ts.map D.str) = some (ts.map PyData.str)
  | [] => rfl
  | t :: ts => by simp [D.pyL, D.py, pyL_str ts]
theorem lay_strs : ∀ ts : List Str, (∀ t ∈ ts, PyData.strOk t = true) → PyData.canLayAll0 (ts.map PyData.str) = true
  | [], _ => rfl
  | t :: ts, h => by simp [PyData.canLayAll0, PyData.canLay0, h t (List.mem_cons_self ..), lay_strs ts fun u hu => h u (List.mem_cons_of_mem _ hu)]
theorem depth_strs : ∀ ts : List Str, PyData.depthAll (ts.map PyData.str) = 0
  | [] => rfl
  | t :: ts => by simp [PyData.depthAll, PyData.depth, depth_strs ts]
theorem shaped_strs {ts : List Str} (h : ∀ t ∈ ts, PyData.strOk t = true) : SeqAt.shaped (.list (ts.map PyData.str)) = true := by
  simp [SeqAt.shaped, PyData.canLay0, lay_strs ts h, PyData.depth, depth_strs]
theorem ne_nil {S : WS} {ts : List Str} (h : ∀ t ∈ ts, PyData.strOk t = true) : neD S (.lst (ts.map D.str)) (.lst []) = some (.bl (!ts.isEmpty)) := by
  have h2 : SeqAt.shaped (.list []) = true := rfl
  unfold neD eqAny eqPyS
  simp only [eqScal, pyS, D.py, pyL_str, D.pyL, Option.map_some, Option.bind_some, shaped_strs h, h2, and_self, if_true, Option.orElse]
  cases ts <;> rfl
theorem notIn_strs {S : WS} {t : Str} {ts : List Str} : inD true S (.str t) (.lst (ts.map D.str)) = some (.bl (decide (t ∉ ts))) := by
  have h1 : (ts.map D.str).all flatD = true := by
    rw [List.all_eq_true]
    intro x hx
    obtain ⟨u, _, rfl⟩ := List.mem_map.mp hx
    rfl
  have h2 : ((ts.map D.str).any fun y => eqFl y (.str t)) = decide (t ∈ ts) := by
    rw [Bool.eq_iff_iff, List.any_eq_true, decide_eq_true_eq]
    constructor
    · rintro ⟨x, hx, e⟩
      obtain ⟨u, hu, rfl⟩ := List.mem_map.mp hx
      have : u = t := eq_of_beq (show (u == t) = true from e)
      exact this ▸ hu
    · exact fun h => ⟨.str t, List.mem_map.mpr ⟨t, h, rfl⟩, (beq_self_eq_true t : (t == t) = true)⟩
  simp only [inD, itemsD, Option.bind_some, flatD, h1, and_self, if_true, h2]
  simp
theorem cut_to {z : Str} {m : Nat} : (cutS z none (some (m : Int))).cps.toList = z.cps.toList.take m := by
  unfold cutS
  rw [HT.sIx_none, HT.sIx_nat]
  simp only [List.drop_zero, Nat.sub_zero, len_cps]
  rw [List.take_eq_take_iff]
  simp
theorem nm_cut {z : Str} {m : Nat} (h : nmL (z.cps.toList.take m) = true) : Nm (cutS z none (some (m : Int))) := by
  unfold Nm
  rw [cut_to]
  exact h
theorem nm_cat8 {s t : Str} (hs : Nm s) (ht : Nm t) : Nm (cutS (s ++ t) none (some (8 : Int))) := by
  refine nm_cut (m := 8) ?_
  rw [cat_cps]
  have ha := nm_all ht
  unfold Nm nmL at hs
  split at hs
  · cases hs
  · rename_i a r e
    rw [e]
    simp only [Bool.and_eq_true, decide_eq_true_eq, List.all_eq_true] at hs
    show nmL ((a :: (r ++ t.cps.toList)).take 8) = true
    rw [List.take_succ_cons]
    simp only [nmL, Bool.and_eq_true, decide_eq_true_eq, List.all_eq_true]
    refine ⟨hs.1, by rw [List.length_take]; omega, fun x hx => ?_⟩
    rcases List.mem_append.mp (List.mem_of_mem_take hx) with z | z
    · exact hs.2.2 x z
    · exact ha x z
theorem nodup_le {α : Type} [DecidableEq α] : ∀ (l ts : List α), l.Nodup → (∀ x ∈ l, x ∈ ts) → l.length ≤ ts.length
  | [], _, _, _ => Nat.zero_le _
  | x :: l, ts, hn, h => by
    have hx := h x (List.mem_cons_self ..)
    have hn2 := List.nodup_cons.mp hn
    have := nodup_le l (ts.erase x) hn2.2 fun y hy => (List.mem_erase_of_ne (fun e : y = x => hn2.1 (e ▸ hy))).mpr (h y (List.mem_cons_of_mem _ hy))
    rw [List.length_erase_of_mem hx] at this
    have : 0 < ts.length := List.length_pos_of_mem hx
    simp only [List.length_cons]
    omega
/-- title[:7] and a sign -/
def alt (t : Str) (c : Nat) : Str := cutS t none (some (7 : Int)) ++ ⟨#[c]⟩
theorem alt_inj {t : Str} {c d : Nat} (h : alt t c = alt t d) : c = d := by
  have e : (alt t c).cps.toList = (alt t d).cps.toList := by rw [h]
  unfold alt at e
  rw [cat_cps, cat_cps] at e
  have := List.append_cancel_left e
  simpa using this
theorem nm_alt {t : Str} {c : Nat} (h : Nm t) (hc : (isLt c || isDg c) = true) : Nm (alt t c) := by
  refine nm_snoc (nm_cut (m := 7) (nm_take 7 h (by decide))) ?_ hc
  rw [len_cps, show cutS t none (some (7 : Int)) = cutS t none (some ((7 : Nat) : Int)) from rfl, cut_to, List.length_take]
  omega
theorem signs_all : ∀ c ∈ signs.cps.toList, (isLt c || isDg c) = true := by decide +kernel
theorem signs_nodup : signs.cps.toList.Nodup := by decide +kernel
/-- the first of them that is not taken -/
theorem alt_first {t : Str} {ts : List Str} (ht : Nm t) (hl : ts.length < 36) : ∃ c l, (isLt c || isDg c) = true ∧ alt t c ∉ ts ∧ (signs.cps.toList.map (alt t)).filter (fun z => decide (z ∉ ts)) = alt t c :: l := by
  cases e : (signs.cps.toList.map (alt t)).filter (fun z => decide (z ∉ ts)) with
  | nil =>
    exfalso
    rw [List.filter_eq_nil_iff] at e
    have nd : (signs.cps.toList.map (alt t)).Nodup := List.Pairwise.map _ (fun a b h e => h (alt_inj e)) signs_nodup
    have := nodup_le _ ts nd fun x hx => by simpa using e x hx
    rw [List.length_map] at this
    have : signs.cps.toList.length = 36 := by decide +kernel
    omega
  | cons z l =>
    have hm : z ∈ (signs.cps.toList.map (alt t)).filter (fun z => decide (z ∉ ts)) := by rw [e]; exact List.mem_cons_self ..
    obtain ⟨hm, hz⟩ := List.mem_filter.mp hm
    obtain ⟨c, hc, rfl⟩ := List.mem_map.mp hm
    exact ⟨c, l, signs_all c hc, of_decide_eq_true hz, rfl⟩
theorem strs_at {ts : List Str} {r : Int} (h0 : 0 ≤ r) (h : r < ts.length) : ∃ t, atI (ts.map D.str) r = some (.str t) ∧ t ∈ ts := by
  refine ⟨ts[r.toNat]'(by omega), ?_, List.getElem_mem _⟩
  unfold atI ixN
  rw [if_pos h0, if_pos (by rw [List.length_map]; exact h), Option.bind_some, List.getElem?_map, List.getElem?_eq_getElem (by omega)]
  rfl
theorem str_ext {a b : Str} (h : a.cps.toList = b.cps.toList) : a = b := by
  obtain ⟨⟨x⟩⟩ := a
  obtain ⟨⟨y⟩⟩ := b
  have : x = y := h
  rw [this]
theorem in_strs {S : WS} {x : D} {neg : Bool} {t : Str} {ts : List Str} (h : itemsD S x = some (ts.map D.str)) : inD neg S (.str t) x = some (.bl (if neg then decide (t ∉ ts) else decide (t ∈ ts))) := by
  have h1 : (ts.map D.str).all flatD = true := by
    rw [List.all_eq_true]
    intro x hx
    obtain ⟨u, _, rfl⟩ := List.mem_map.mp hx
    rfl
  have h2 : ((ts.map D.str).any fun y => eqFl y (.str t)) = decide (t ∈ ts) := by
    rw [Bool.eq_iff_iff, List.any_eq_true, decide_eq_true_eq]
    constructor
    · rintro ⟨x, hx, e⟩
      obtain ⟨u, hu, rfl⟩ := List.mem_map.mp hx
      have : u = t := eq_of_beq (show (u == t) = true from e)
      exact this ▸ hu
    · exact fun h => ⟨.str t, List.mem_map.mpr ⟨t, h, rfl⟩, (beq_self_eq_true t : (t == t) = true)⟩
  simp only [inD, h, Option.bind_some, flatD, h1, and_self, if_true, h2]
  cases neg <;> simp
theorem snoc_len {s : Str} {c : Nat} : (s ++ ⟨#[c]⟩ : Str).length = s.length + 1 := by
  rw [len_cps, cat_cps, List.length_append, len_cps]
  rfl
theorem cat_len {s t : Str} : (s ++ t).length = s.length + t.length := by
  rw [len_cps, cat_cps, List.length_append, len_cps, len_cps]
theorem one_len {c : Nat} : Str.length ⟨#[c]⟩ = 1 := rfl
/-- x is the list of texts ts: one that stands still, or a cell -/
inductive TkOk (S : WS) : D → List Str → Prop where
  | lst {ts : List Str} : TkOk S (.lst (ts.map D.str)) ts
  | cell {j : Nat} {ts : List Str} : S[j]? = some (.lst (ts.map D.str)) → TkOk S (.cell j) ts
section
variable {S : WS} {x : D} {ts : List Str}
theorem TkOk.items (h : TkOk S x ts) : itemsD S x = some (ts.map D.str) := by
  cases h with
  | lst => rfl
  | cell h => simp only [itemsD, h]
theorem TkOk.ne (h : TkOk S x ts) (hs : ∀ t ∈ ts, Nm t) : neD S x (.lst []) = some (.bl (!ts.isEmpty)) := by
  have e := ne_nil (S := S) (ts := ts) fun t ht => nm_strOk (hs t ht)
  cases h with
  | lst => exact e
  | cell h =>
    unfold neD eqAny eqPyS at e ⊢
    simp only [eqScal, pyS, D.py, h] at e ⊢
    exact e
theorem TkOk.len (h : TkOk S x ts) : lenD S [x] = some (.int (ts.length : Nat)) := by
  cases h with
  | lst => simp [lenD, itemsD]
  | cell h => simp [lenD, itemsD, h]
theorem TkOk.ix (h : TkOk S x ts) {r : Int} {d : D} (hd : atI (ts.map D.str) r = some d) : ixD S x (.int r) = some d := by
  cases h with
  | lst => simp only [ixD, hd]
  | cell h => simp only [ixD, h, hd]
end
end RV
end
section
namespace RV
open PySem L2
/-! is_name -/
noncomputable def B_is_name (A : Ad) : RV.Env → MS := sSeq (sIf (bOr (bNot (bTru truD (eCall (isiD (own A) (tab A)) (aCons (eVar 0) (aCons (eC (.ty "str")) (aNil)))))) (bOr (bNot (bChain leD leD (eC (.int 1)) (eCall lenD (aCons (eVar 0) (aNil))) (eC (.int 8)))) (bBl (eOp (inSD true) (eOp ixD (eVar 0) (eC (.int 0))) (eC (.str "abcdefghijklmnopqrstuvwxyz")))))) (sRet (eC (.bl false))) (sNil)) (sRet (eCall allD (aCons (eLc .still (iStrD (eVar 0)) (tName 1) (bYes) (eOr (eOp (inSD false) (eVar 1) (eC (.str "abcdefghijklmnopqrstuvwxyz"))) (eOp (inSD false) (eVar 1) (eC (.str "0123456789")))) [1]) (aNil))))
theorem E_is_name (A : Ad) : ∃ g : List D → M, g = fnD 2 (B_is_name A) := ⟨_, rfl⟩
noncomputable def G_is_name (A : Ad) : List D → M := (E_is_name A).choose
theorem D_is_name (A : Ad) : G_is_name A = fnD 2 (B_is_name A) := (E_is_name A).choose_spec
/-! check_name -/
noncomputable def B_check_name (A : Ad) : RV.Env → MS := sIf (bNot (bTru truD (eFn 1 (G_is_name A) [] (aCons (eVar 0) (aNil))))) (sNever) (sNil)
theorem E_check_name (A : Ad) : ∃ g : List D → M, g = fnD 1 (B_check_name A) := ⟨_, rfl⟩
noncomputable def G_check_name (A : Ad) : List D → M := (E_check_name A).choose
theorem D_check_name (A : Ad) : G_check_name A = fnD 1 (B_check_name A) := (E_check_name A).choose_spec
/-! Pipe.__init__ -/
noncomputable def B_Pipe_init (A : Ad) : RV.Env → MS := sSeq (sDrop (eFn 1 (G_check_name A) [] (aCons (eVar 1) (aNil)))) (sSeq (sDrop (eFn 1 (G_check_name A) [] (aCons (eVar 2) (aNil)))) (sSeq (sDrop (eFn 1 (G_check_name A) [] (aCons (eVar 3) (aNil)))) (sSeq (sIf (bBl (eOp eqD (eVar 3) (eVar 2))) (sNever) (sNil)) (sFldD (A.c "Pipe") "kept" (eVar 0) (eSeq .tup (aCons (eVar 1) (aCons (eVar 2) (aCons (eVar 3) (aNil)))))))))
theorem E_Pipe_init (A : Ad) : ∃ g : List D → M, g = fnD 4 (B_Pipe_init A) := ⟨_, rfl⟩
noncomputable def G_Pipe_init (A : Ad) : List D → M := (E_Pipe_init A).choose
theorem D_Pipe_init (A : Ad) : G_Pipe_init A = fnD 4 (B_Pipe_init A) := (E_Pipe_init A).choose_spec
/-! Meter.__init__ -/
noncomputable def B_Meter_init (A : Ad) : RV.Env → MS := sSeq (sDrop (eFn 1 (G_check_name A) [] (aCons (eVar 1) (aNil)))) (sSeq (sDrop (eFn 1 (G_check_name A) [] (aCons (eVar 2) (aNil)))) (sSeq (sIf (bNot (bTru truD (eCall (isiD (own A) (tab A)) (aCons (eVar 3) (aCons (eC (.ty "bool")) (aNil)))))) (sNever) (sNil)) (sFldD (A.c "Meter") "kept" (eVar 0) (eSeq .tup (aCons (eVar 1) (aCons (eVar 2) (aCons (eVar 3) (aNil))))))))
theorem E_Meter_init (A : Ad) : ∃ g : List D → M, g = fnD 4 (B_Meter_init A) := ⟨_, rfl⟩
noncomputable def G_Meter_init (A : Ad) : List D → M := (E_Meter_init A).choose
theorem D_Meter_init (A : Ad) : G_Meter_init A = fnD 4 (B_Meter_init A) := (E_Meter_init A).choose_spec
/-! item_of -/
noncomputable def B_item_of (A : Ad) : RV.Env → MS := sSeq (sAsg 1 (eOpT splitD (eVar 0) (eC (.str " ")))) (sSeq (sCalm (sSeq (sIf (bAnd (bBl (eOp eqD (eCall lenD (aCons (eVar 1) (aNil))) (eC (.int 4)))) (bBl (eOp eqD (eOp ixD (eVar 1) (eC (.int 0))) (eC (.str "pipe"))))) (sRet (eMake .still (A.c "Pipe") 4 (G_Pipe_init A) [] (aCons (eOp ixD (eVar 1) (eC (.int 1))) (aCons (eOp ixD (eVar 1) (eC (.int 2))) (aCons (eOp ixD (eVar 1) (eC (.int 3))) (aNil)))))) (sNil)) (sIf (bAnd (bBl (eOp (inD false) (eCall lenD (aCons (eVar 1) (aNil))) (eSeq .tup (aCons (eC (.int 3)) (aCons (eC (.int 4)) (aNil)))))) (bBl (eOp eqD (eOp ixD (eVar 1) (eC (.int 0))) (eC (.str "meter"))))) (sRet (eMakeK .still (A.c "Meter") 4 2 1 (G_Meter_init A) (perm [0]) (aCons (eOp ixD (eVar 1) (eC (.int 1))) (aCons (eOp ixD (eVar 1) (eC (.int 2))) (aNil))) (aCons (eOp eqD (eCall lenD (aCons (eVar 1) (aNil))) (eC (.int 4))) (aNil)))) (sNil)))) (sRet (eC .non)))
theorem E_item_of (A : Ad) : ∃ g : List D → M, g = fnD 2 (B_item_of A) := ⟨_, rfl⟩
noncomputable def G_item_of (A : Ad) : List D → M := (E_item_of A).choose
theorem D_item_of (A : Ad) : G_item_of A = fnD 2 (B_item_of A) := (E_item_of A).choose_spec
/-! Pipe.name -/
noncomputable def B_Pipe_name (A : Ad) : RV.Env → MS := sRet (eOp ixD (eUn (fldD (A.c "Pipe") "kept") (eVar 0)) (eC (.int 0)))
theorem E_Pipe_name (A : Ad) : ∃ g : List D → M, g = fnD 1 (B_Pipe_name A) := ⟨_, rfl⟩
noncomputable def G_Pipe_name (A : Ad) : List D → M := (E_Pipe_name A).choose
theorem D_Pipe_name (A : Ad) : G_Pipe_name A = fnD 1 (B_Pipe_name A) := (E_Pipe_name A).choose_spec
/-! check_pipes -/
noncomputable def B_check_pipes (A : Ad) : RV.Env → MS := sSeq (sIf (bOr (bNot (bTru truD (eCall (isiD (own A) (tab A)) (aCons (eVar 0) (aCons (eC (.ty "tuple")) (aNil)))))) (bBl (eOp eqD (eCall lenD (aCons (eVar 0) (aNil))) (eC (.int 0))))) (sNever) (sNil)) (sSeq (sAsg 1 (eNew (aNil))) (sFor (iEnumT (aCons (eVar 0) (aNil))) (tTupD 2 (tsCons (tName 2) (tsCons (tName 3) (tsNil)))) (sSeq (sIf (bOr (bNot (bTru truD (eCall (isiD (own A) (tab A)) (aCons (eVar 3) (aCons (eC (.adr (A.c "Pipe"))) (aNil)))))) (bOr (bBl (eOp (inD false) (eProp (A.c "Pipe") (G_Pipe_name A) (eVar 3)) (eVar 1))) (bBl (eOp geD (eVar 2) (eC (.int 12)))))) (sNever) (sNil)) (sAppend (eVar 1) (eProp (A.c "Pipe") (G_Pipe_name A) (eVar 3))))))
theorem E_check_pipes (A : Ad) : ∃ g : List D → M, g = fnD 4 (B_check_pipes A) := ⟨_, rfl⟩
noncomputable def G_check_pipes (A : Ad) : List D → M := (E_check_pipes A).choose
theorem D_check_pipes (A : Ad) : G_check_pipes A = fnD 4 (B_check_pipes A) := (E_check_pipes A).choose_spec
/-! Meter.name -/
noncomputable def B_Meter_name (A : Ad) : RV.Env → MS := sRet (eOp ixD (eUn (fldD (A.c "Meter") "kept") (eVar 0)) (eC (.int 0)))
theorem E_Meter_name (A : Ad) : ∃ g : List D → M, g = fnD 1 (B_Meter_name A) := ⟨_, rfl⟩
noncomputable def G_Meter_name (A : Ad) : List D → M := (E_Meter_name A).choose
theorem D_Meter_name (A : Ad) : G_Meter_name A = fnD 1 (B_Meter_name A) := (E_Meter_name A).choose_spec
/-! Meter.at -/
noncomputable def B_Meter_at (A : Ad) : RV.Env → MS := sRet (eOp ixD (eUn (fldD (A.c "Meter") "kept") (eVar 0)) (eC (.int 1)))
theorem E_Meter_at (A : Ad) : ∃ g : List D → M, g = fnD 1 (B_Meter_at A) := ⟨_, rfl⟩
noncomputable def G_Meter_at (A : Ad) : List D → M := (E_Meter_at A).choose
theorem D_Meter_at (A : Ad) : G_Meter_at A = fnD 1 (B_Meter_at A) := (E_Meter_at A).choose_spec
/-! check_meters -/
noncomputable def B_check_meters (A : Ad) : RV.Env → MS := sSeq (sIf (bNot (bTru truD (eCall (isiD (own A) (tab A)) (aCons (eVar 0) (aCons (eC (.ty "tuple")) (aNil)))))) (sNever) (sNil)) (sSeq (sAsg 2 (eLc .still (iTupD (eVar 1)) (tName 6) (bYes) (eProp (A.c "Pipe") (G_Pipe_name A) (eVar 6)) [6])) (sSeq (sAsg 3 (eNew (aNil))) (sFor (iEnumT (aCons (eVar 0) (aNil))) (tTupD 2 (tsCons (tName 4) (tsCons (tName 5) (tsNil)))) (sSeq (sIf (bOr (bNot (bTru truD (eCall (isiD (own A) (tab A)) (aCons (eVar 5) (aCons (eC (.adr (A.c "Meter"))) (aNil)))))) (bOr (bBl (eOp (inD false) (eProp (A.c "Meter") (G_Meter_name A) (eVar 5)) (eVar 3))) (bOr (bBl (eOp (inD true) (eProp (A.c "Meter") (G_Meter_at A) (eVar 5)) (eVar 2))) (bBl (eOp geD (eVar 4) (eC (.int 12))))))) (sNever) (sNil)) (sAppend (eVar 3) (eProp (A.c "Meter") (G_Meter_name A) (eVar 5)))))))
theorem E_check_meters (A : Ad) : ∃ g : List D → M, g = fnD 7 (B_check_meters A) := ⟨_, rfl⟩
noncomputable def G_check_meters (A : Ad) : List D → M := (E_check_meters A).choose
theorem D_check_meters (A : Ad) : G_check_meters A = fnD 7 (B_check_meters A) := (E_check_meters A).choose_spec
/-! Net.__init__ -/
noncomputable def B_Net_init (A : Ad) : RV.Env → MS := sSeq (sDrop (eFn 1 (G_check_pipes A) [] (aCons (eVar 1) (aNil)))) (sSeq (sDrop (eFn 2 (G_check_meters A) [] (aCons (eVar 2) (aCons (eVar 1) (aNil))))) (sSeq (sFldD (A.c "Net") "joined" (eVar 0) (eVar 1)) (sFldD (A.c "Net") "fitted" (eVar 0) (eVar 2))))
theorem E_Net_init (A : Ad) : ∃ g : List D → M, g = fnD 3 (B_Net_init A) := ⟨_, rfl⟩
noncomputable def G_Net_init (A : Ad) : List D → M := (E_Net_init A).choose
theorem D_Net_init (A : Ad) : G_Net_init A = fnD 3 (B_Net_init A) := (E_Net_init A).choose_spec
/-! Pipe.start -/
noncomputable def B_Pipe_start (A : Ad) : RV.Env → MS := sRet (eOp ixD (eUn (fldD (A.c "Pipe") "kept") (eVar 0)) (eC (.int 1)))
theorem E_Pipe_start (A : Ad) : ∃ g : List D → M, g = fnD 1 (B_Pipe_start A) := ⟨_, rfl⟩
noncomputable def G_Pipe_start (A : Ad) : List D → M := (E_Pipe_start A).choose
theorem D_Pipe_start (A : Ad) : G_Pipe_start A = fnD 1 (B_Pipe_start A) := (E_Pipe_start A).choose_spec
/-! Pipe.end -/
noncomputable def B_Pipe_end (A : Ad) : RV.Env → MS := sRet (eOp ixD (eUn (fldD (A.c "Pipe") "kept") (eVar 0)) (eC (.int 2)))
theorem E_Pipe_end (A : Ad) : ∃ g : List D → M, g = fnD 1 (B_Pipe_end A) := ⟨_, rfl⟩
noncomputable def G_Pipe_end (A : Ad) : List D → M := (E_Pipe_end A).choose
theorem D_Pipe_end (A : Ad) : G_Pipe_end A = fnD 1 (B_Pipe_end A) := (E_Pipe_end A).choose_spec
/-! Meter.sealed -/
noncomputable def B_Meter_sealed (A : Ad) : RV.Env → MS := sRet (eOp ixD (eUn (fldD (A.c "Meter") "kept") (eVar 0)) (eC (.int 2)))
theorem E_Meter_sealed (A : Ad) : ∃ g : List D → M, g = fnD 1 (B_Meter_sealed A) := ⟨_, rfl⟩
noncomputable def G_Meter_sealed (A : Ad) : List D → M := (E_Meter_sealed A).choose
theorem D_Meter_sealed (A : Ad) : G_Meter_sealed A = fnD 1 (B_Meter_sealed A) := (E_Meter_sealed A).choose_spec
/-! line_of -/
noncomputable def B_line_of (A : Ad) : RV.Env → MS := sSeq (sIf (bTru truD (eCall (isiD (own A) (tab A)) (aCons (eVar 0) (aCons (eC (.adr (A.c "Pipe"))) (aNil))))) (sRet (eJoin (jCons (eC (.str "pipe ")) (jCons (eUn fmtD (eProp (A.c "Pipe") (G_Pipe_name A) (eVar 0))) (jCons (eC (.str " ")) (jCons (eUn fmtD (eProp (A.c "Pipe") (G_Pipe_start A) (eVar 0))) (jCons (eC (.str " ")) (jCons (eUn fmtD (eProp (A.c "Pipe") (G_Pipe_end A) (eVar 0))) (jNil))))))))) (sNil)) (sRet (eIf (bTru truD (eProp (A.c "Meter") (G_Meter_sealed A) (eVar 0))) (eJoin (jCons (eC (.str "meter ")) (jCons (eUn fmtD (eProp (A.c "Meter") (G_Meter_name A) (eVar 0))) (jCons (eC (.str " ")) (jCons (eUn fmtD (eProp (A.c "Meter") (G_Meter_at A) (eVar 0))) (jCons (eC (.str " sealed")) (jNil))))))) (eJoin (jCons (eC (.str "meter ")) (jCons (eUn fmtD (eProp (A.c "Meter") (G_Meter_name A) (eVar 0))) (jCons (eC (.str " ")) (jCons (eUn fmtD (eProp (A.c "Meter") (G_Meter_at A) (eVar 0))) (jNil))))))))
theorem E_line_of (A : Ad) : ∃ g : List D → M, g = fnD 1 (B_line_of A) := ⟨_, rfl⟩
noncomputable def G_line_of (A : Ad) : List D → M := (E_line_of A).choose
theorem D_line_of (A : Ad) : G_line_of A = fnD 1 (B_line_of A) := (E_line_of A).choose_spec
/-! Net.__str__ -/
noncomputable def B_Net_str (A : Ad) : RV.Env → MS := sRet (eOpT joinD (eC (.str "\n")) (eLc .still (iTupD (eSeq .tup (aStar (eUn (fldD (A.c "Net") "joined") (eVar 0)) (aStar (eUn (fldD (A.c "Net") "fitted") (eVar 0)) (aNil))))) (tName 1) (bYes) (eFn 1 (G_line_of A) [] (aCons (eVar 1) (aNil))) [1]))
theorem E_Net_str (A : Ad) : ∃ g : List D → M, g = fnD 2 (B_Net_str A) := ⟨_, rfl⟩
noncomputable def G_Net_str (A : Ad) : List D → M := (E_Net_str A).choose
theorem D_Net_str (A : Ad) : G_Net_str A = fnD 2 (B_Net_str A) := (E_Net_str A).choose_spec
/-! Net.read -/
noncomputable def B_Net_read (A : Ad) : RV.Env → MS := sSeq (sIf (bNot (bTru truD (eCall (isiD (own A) (tab A)) (aCons (eVar 1) (aCons (eC (.ty "str")) (aNil)))))) (sNever) (sNil)) (sSeq (sAsg 2 (eLc .still (iSeq (eOpT splitD (eVar 1) (eC (.str "\n")))) (tName 6) (bYes) (eFn 1 (G_item_of A) [] (aCons (eVar 6) (aNil))) [6])) (sSeq (sAsg 3 (eCall tupleD (aCons (eLc .still (iSeq (eVar 2)) (tName 7) (bTru truD (eCall (isiD (own A) (tab A)) (aCons (eVar 7) (aCons (eC (.adr (A.c "Pipe"))) (aNil))))) (eVar 7) [7]) (aNil)))) (sSeq (sAsg 4 (eCall tupleD (aCons (eLc .still (iSeq (eVar 2)) (tName 7) (bTru truD (eCall (isiD (own A) (tab A)) (aCons (eVar 7) (aCons (eC (.adr (A.c "Meter"))) (aNil))))) (eVar 7) [7]) (aNil)))) (sSeq (sCalm (sAsg 5 (eMakeL 0 .still (A.c "Net") 3 (G_Net_init A) [] (aCons (eVar 3) (aCons (eVar 4) (aNil)))))) (sSeq (sIf (bBl (eOp neD (eCallM (strOwnD (A.c "Net") (G_Net_str A)) (aCons (eVar 5) (aNil))) (eVar 1))) (sNever) (sNil)) (sRet (eVar 5)))))))
theorem E_Net_read (A : Ad) : ∃ g : List D → M, g = fnD 8 (B_Net_read A) := ⟨_, rfl⟩
noncomputable def G_Net_read (A : Ad) : List D → M := (E_Net_read A).choose
theorem D_Net_read (A : Ad) : G_Net_read A = fnD 8 (B_Net_read A) := (E_Net_read A).choose_spec
/-! Net.pipes -/
noncomputable def B_Net_pipes (A : Ad) : RV.Env → MS := sRet (eUn (fldD (A.c "Net") "joined") (eVar 0))
theorem E_Net_pipes (A : Ad) : ∃ g : List D → M, g = fnD 1 (B_Net_pipes A) := ⟨_, rfl⟩
noncomputable def G_Net_pipes (A : Ad) : List D → M := (E_Net_pipes A).choose
theorem D_Net_pipes (A : Ad) : G_Net_pipes A = fnD 1 (B_Net_pipes A) := (E_Net_pipes A).choose_spec
/-! Net.meters -/
noncomputable def B_Net_meters (A : Ad) : RV.Env → MS := sRet (eUn (fldD (A.c "Net") "fitted") (eVar 0))
theorem E_Net_meters (A : Ad) : ∃ g : List D → M, g = fnD 1 (B_Net_meters A) := ⟨_, rfl⟩
noncomputable def G_Net_meters (A : Ad) : List D → M := (E_Net_meters A).choose
theorem D_Net_meters (A : Ad) : G_Net_meters A = fnD 1 (B_Net_meters A) := (E_Net_meters A).choose_spec
/-! _law_net_text -/
noncomputable def B_net_text_k11 (A : Ad) : RV.Env → MS := sSeq (sAsg 2 (eLc .still (iSeq (eVar 0)) (tName 3) (bYes) (eOp addD (eC (.str "pipe ")) (eOpT joinD (eC (.str " ")) (eVar 3))) [3])) (sSeq (sAsg 2 (eOp addD (eVar 2) (eLc .still (iSeq (eVar 1)) (tName 3) (bYes) (eOp addD (eOp addD (eOp addD (eOp addD (eC (.str "meter ")) (eOp ixD (eVar 3) (eC (.int 0)))) (eC (.str " "))) (eOp ixD (eVar 3) (eC (.int 1)))) (eIf (bTru truD (eOp ixD (eVar 3) (eC (.int 2)))) (eC (.str " sealed")) (eC (.str "")))) [3]))) (sRet (eOpT joinD (eC (.str "\n")) (eVar 2))))
theorem E_net_text_k11 (A : Ad) : ∃ g : List D → M, g = fnD 4 (B_net_text_k11 A) := ⟨_, rfl⟩
noncomputable def G_net_text_k11 (A : Ad) : List D → M := (E_net_text_k11 A).choose
theorem D_net_text_k11 (A : Ad) : G_net_text_k11 A = fnD 4 (B_net_text_k11 A) := (E_net_text_k11 A).choose_spec
/-! Net.__len__ -/
noncomputable def B_Net_len (A : Ad) : RV.Env → MS := sRet (eCall lenD (aCons (eUn (fldD (A.c "Net") "joined") (eVar 0)) (aNil)))
theorem E_Net_len (A : Ad) : ∃ g : List D → M, g = fnD 1 (B_Net_len A) := ⟨_, rfl⟩
noncomputable def G_Net_len (A : Ad) : List D → M := (E_Net_len A).choose
theorem D_Net_len (A : Ad) : G_Net_len A = fnD 1 (B_Net_len A) := (E_Net_len A).choose_spec
/-! _law_is -/
noncomputable def B_is_k11 (A : Ad) : RV.Env → MS := sSeq (sIf (bOr (bNot (bTru truD (eCall (isiD (own A) (tab A)) (aCons (eVar 0) (aCons (eC (.adr (A.c "Net"))) (aNil)))))) (bOr (bNot (bTru truD (eCall (isiD (own A) (tab A)) (aCons (eProp (A.c "Net") (G_Net_pipes A) (eVar 0)) (aCons (eC (.ty "tuple")) (aNil)))))) (bNot (bTru truD (eCall (isiD (own A) (tab A)) (aCons (eProp (A.c "Net") (G_Net_meters A) (eVar 0)) (aCons (eC (.ty "tuple")) (aNil)))))))) (sRet (eC (.bl false))) (sNil)) (sSeq (sAsg 3 (eOp addD (eLc .still (iTupD (eProp (A.c "Net") (G_Net_pipes A) (eVar 0))) (tName 6) (bYes) (eCall (isiD (own A) (tab A)) (aCons (eVar 6) (aCons (eC (.adr (A.c "Pipe"))) (aNil)))) [6]) (eLc .still (iTupD (eProp (A.c "Net") (G_Net_meters A) (eVar 0))) (tName 6) (bYes) (eCall (isiD (own A) (tab A)) (aCons (eVar 6) (aCons (eC (.adr (A.c "Meter"))) (aNil)))) [6]))) (sSeq (sIf (bNot (bTru truD (eCall allD (aCons (eVar 3) (aNil))))) (sRet (eC (.bl false))) (sNil)) (sSeq (sAsg 4 (eLc .still (iTupD (eProp (A.c "Net") (G_Net_pipes A) (eVar 0))) (tName 6) (bYes) (eSeq .tup (aCons (eProp (A.c "Pipe") (G_Pipe_name A) (eVar 6)) (aCons (eProp (A.c "Pipe") (G_Pipe_start A) (eVar 6)) (aCons (eProp (A.c "Pipe") (G_Pipe_end A) (eVar 6)) (aNil))))) [6])) (sSeq (sAsg 5 (eLc .still (iTupD (eProp (A.c "Net") (G_Net_meters A) (eVar 0))) (tName 6) (bYes) (eSeq .tup (aCons (eProp (A.c "Meter") (G_Meter_name A) (eVar 6)) (aCons (eProp (A.c "Meter") (G_Meter_at A) (eVar 6)) (aCons (eProp (A.c "Meter") (G_Meter_sealed A) (eVar 6)) (aNil))))) [6])) (sRet (eAnd (eOp eqD (eCall reprD (aCons (eSeq .lst (aCons (eVar 4) (aCons (eVar 5) (aNil)))) (aNil))) (eCall reprD (aCons (eSeq .lst (aCons (eVar 1) (aCons (eVar 2) (aNil)))) (aNil)))) (eAnd (eOp eqD (eCallM (strOwnD (A.c "Net") (G_Net_str A)) (aCons (eVar 0) (aNil))) (eFn 2 (G_net_text_k11 A) [] (aCons (eVar 1) (aCons (eVar 2) (aNil))))) (eOp eqD (eCallM (lenOwnD (A.c "Net") (G_Net_len A)) (aCons (eVar 0) (aNil))) (eCall lenD (aCons (eVar 1) (aNil)))))))))))
theorem E_is_k11 (A : Ad) : ∃ g : List D → M, g = fnD 7 (B_is_k11 A) := ⟨_, rfl⟩
noncomputable def G_is_k11 (A : Ad) : List D → M := (E_is_k11 A).choose
theorem D_is_k11 (A : Ad) : G_is_k11 A = fnD 7 (B_is_k11 A) := (E_is_k11 A).choose_spec
/-! _law_well -/
noncomputable def B_well_k01 (A : Ad) : RV.Env → MS := sSeq (sAsg 2 (eIf (bBl (eOp ltD (eVar 1) (eCall lenD (aCons (eVar 0) (aNil))))) (eOp ixD (eVar 0) (eVar 1)) (eOp mulD (eOp mulD (eC (.int 90017)) (eOp addD (eVar 1) (eC (.int 3)))) (eOp addD (eVar 1) (eC (.int 5)))))) (sSeq (sIf (bBl (eOp geD (eVar 1) (eCall lenD (aCons (eVar 0) (aNil))))) (sFor (iSeq (eVar 0)) (tName 3) (sAsg 2 (eOp modD (eCall intOfD (aCons (eOp addD (eOp mulD (eVar 2) (eC (.int 52711))) (eVar 3)) (aNil))) (eC (.int 2147483629))))) (sNil)) (sRet (eNew (aCons (eOp modD (eCall intOfD (aCons (eVar 2) (aNil))) (eC (.int 2147483629))) (aCons (eIf (bBl (eOp geD (eCall absD (aCons (eVar 2) (aNil))) (eOp powD (eC (.int 10)) (eC (.int 18))))) (eCall absD (aCons (eVar 2) (aNil))) (eC (.int 0))) (aCons (eC (.int 0)) (aNil)))))))
theorem E_well_k01 (A : Ad) : ∃ g : List D → M, g = fnN 4 (B_well_k01 A) := ⟨_, rfl⟩
noncomputable def G_well_k01 (A : Ad) : List D → M := (E_well_k01 A).choose
theorem D_well_k01 (A : Ad) : G_well_k01 A = fnN 4 (B_well_k01 A) := (E_well_k01 A).choose_spec
/-! _law_dip -/
noncomputable def B_dip_k01 (A : Ad) : RV.Env → MS := sSeq (sSetIx (eVar 0) (eC (.int 2)) (eOp addD (eOp ixD (eVar 0) (eC (.int 2))) (eC (.int 1)))) (sSeq (sIf (bBl (eOp gtD (eOp ixD (eVar 0) (eC (.int 1))) (eC (.int 0)))) (sSeq (sPairSet 2 (eVar 0) (eC (.int 1)) (eCall divmodD (aCons (eOp ixD (eVar 0) (eC (.int 1))) (aCons (eVar 1) (aNil))))) (sRet (eVar 2))) (sNil)) (sSeq (sSetIx (eVar 0) (eC (.int 0)) (eOp modD (eCall intOfD (aCons (eOp addD (eOp addD (eOp mulD (eOp ixD (eVar 0) (eC (.int 0))) (eC (.int 69621))) (eOp mulD (eOp mulD (eC (.int 31)) (eOp ixD (eVar 0) (eC (.int 2)))) (eOp ixD (eVar 0) (eC (.int 2))))) (eC (.int 40503))) (aNil))) (eC (.int 2147483629)))) (sSeq (sAsg 3 (eOp modD (eCall intOfD (aCons (eOp mulD (eOp ixD (eVar 0) (eC (.int 0))) (eOp addD (eOp modD (eCall intOfD (aCons (eOp ixD (eVar 0) (eC (.int 0))) (aNil))) (eC (.int 30011))) (eC (.int 17)))) (aNil))) (eC (.int 2147483587)))) (sRet (eOp modD (eCall intOfD (aCons (eOp fdivD (eVar 3) (eC (.int 64))) (aNil))) (eVar 1))))))
theorem E_dip_k01 (A : Ad) : ∃ g : List D → M, g = fnD 4 (B_dip_k01 A) := ⟨_, rfl⟩
noncomputable def G_dip_k01 (A : Ad) : List D → M := (E_dip_k01 A).choose
theorem D_dip_k01 (A : Ad) : G_dip_k01 A = fnD 4 (B_dip_k01 A) := (E_dip_k01 A).choose_spec
/-! _law_name -/
noncomputable def B_name_k02 (A : Ad) : RV.Env → MS := sSeq (sIf (bBl (eOp eqD (eFn 2 (G_dip_k01 A) [] (aCons (eVar 0) (aCons (eC (.int 6)) (aNil)))) (eC (.int 0)))) (sRet (eOp ixD (eSeq .lst (aCons (eC (.str "pipe")) (aCons (eC (.str "meter")) (aCons (eC (.str "sealed")) (aCons (eC (.str "self")) (aCons (eC (.str "net")) (aCons (eC (.str "tell")) (aCons (eC (.str "if")) (aCons (eC (.str "a")) (aNil)))))))))) (eFn 2 (G_dip_k01 A) [] (aCons (eVar 0) (aCons (eC (.int 8)) (aNil)))))) (sNil)) (sSeq (sAsg 1 (eC (.str "abcdefghijklmnopqrstuvwxyz0123456789"))) (sSeq (sAsg 2 (eOp ixD (eVar 1) (eFn 2 (G_dip_k01 A) [] (aCons (eVar 0) (aCons (eC (.int 26)) (aNil)))))) (sSeq (sFor (iRange1 (aCons (eFn 2 (G_dip_k01 A) [] (aCons (eVar 0) (aCons (eC (.int 8)) (aNil)))) (aNil))) (tName 3) (sAsg 2 (eOp addD (eVar 2) (eOp ixD (eVar 1) (eFn 2 (G_dip_k01 A) [] (aCons (eVar 0) (aCons (eC (.int 36)) (aNil)))))))) (sRet (eVar 2)))))
theorem E_name_k02 (A : Ad) : ∃ g : List D → M, g = fnD 4 (B_name_k02 A) := ⟨_, rfl⟩
noncomputable def G_name_k02 (A : Ad) : List D → M := (E_name_k02 A).choose
theorem D_name_k02 (A : Ad) : G_name_k02 A = fnD 4 (B_name_k02 A) := (E_name_k02 A).choose_spec
/-! _law_fresh -/
noncomputable def B_fresh_k09 (A : Ad) : RV.Env → MS := sSeq (sAsgG (tTupD 2 (tsCons (tName 2) (tsCons (tName 3) (tsNil)))) (eSeq .tup (aCons (eFn 2 (G_dip_k01 A) [] (aCons (eVar 0) (aCons (eC (.int 4)) (aNil)))) (aCons (eFn 1 (G_name_k02 A) [] (aCons (eVar 0) (aNil))) (aNil))))) (sSeq (sIf (bAnd (bBl (eOp neD (eVar 1) (eSeq .lst (aNil)))) (bBl (eOp ltD (eVar 2) (eC (.int 2))))) (sSeq (sAsg 4 (eOp ixD (eVar 1) (eFn 2 (G_dip_k01 A) [] (aCons (eVar 0) (aCons (eCall lenD (aCons (eVar 1) (aNil))) (aNil)))))) (sAsg 3 (eIf (bBl (eOp eqD (eVar 2) (eC (.int 0)))) (eSl slD (eOp addD (eVar 4) (eVar 3)) (oNone) (oSome (eC (.int 8)))) (eSl slD (eVar 4) (oNone) (oSome (eOp addD (eC (.int 1)) (eFn 2 (G_dip_k01 A) [] (aCons (eVar 0) (aCons (eC (.int 7)) (aNil)))))))))) (sNil)) (sSeq (sIf (bBl (eOp (inD true) (eVar 3) (eVar 1))) (sRet (eVar 3)) (sNil)) (sSeq (sAsg 5 (eLc .still (iStrD (eC (.str "abcdefghijklmnopqrstuvwxyz0123456789"))) (tName 6) (bYes) (eOp addD (eSl slD (eVar 3) (oNone) (oSome (eC (.int 7)))) (eVar 6)) [6])) (sRet (eOp ixD (eLc .still (iSeq (eVar 5)) (tName 7) (bBl (eOp (inD true) (eVar 7) (eVar 1))) (eVar 7) [7]) (eC (.int 0)))))))
theorem E_fresh_k09 (A : Ad) : ∃ g : List D → M, g = fnD 8 (B_fresh_k09 A) := ⟨_, rfl⟩
noncomputable def G_fresh_k09 (A : Ad) : List D → M := (E_fresh_k09 A).choose
theorem D_fresh_k09 (A : Ad) : G_fresh_k09 A = fnD 8 (B_fresh_k09 A) := (E_fresh_k09 A).choose_spec
/-! _law_laid -/
noncomputable def B_laid_k12 (A : Ad) : RV.Env → MS := sSeq (sPar2 3 4 (aCons (eNew (aNil)) (aCons (eNew (aNil)) (aNil)))) (sSeq (sFor (iRange1 (aCons (eOp addD (eC (.int 2)) (eFn 2 (G_dip_k01 A) [] (aCons (eVar 0) (aCons (eC (.int 5)) (aNil))))) (aNil))) (tName 5) (sAppend (eVar 3) (eFn 2 (G_fresh_k09 A) [] (aCons (eVar 0) (aCons (eVar 3) (aNil)))))) (sSeq (sFor (iRange1 (aCons (eOp addD (eVar 1) (eFn 2 (G_dip_k01 A) [] (aCons (eVar 0) (aCons (eOp subD (eOp addD (eVar 2) (eC (.int 1))) (eVar 1)) (aNil))))) (aNil))) (tName 5) (sSeq (sPar2 6 7 (aCons (eFn 2 (G_dip_k01 A) [] (aCons (eVar 0) (aCons (eCall lenD (aCons (eVar 3) (aNil))) (aNil)))) (aCons (eOp addD (eC (.int 1)) (eFn 2 (G_dip_k01 A) [] (aCons (eVar 0) (aCons (eOp subD (eCall lenD (aCons (eVar 3) (aNil))) (eC (.int 1))) (aNil))))) (aNil)))) (sSeq (sAsg 8 (eFn 2 (G_fresh_k09 A) [] (aCons (eVar 0) (aCons (eLc .still (iSeq (eVar 4)) (tName 9) (bYes) (eOp ixD (eVar 9) (eC (.int 0))) [9]) (aNil))))) (sAppend (eVar 4) (eSeq .tup (aCons (eVar 8) (aCons (eOp ixD (eVar 3) (eVar 6)) (aCons (eOp ixD (eVar 3) (eOp modD (eCall intOfD (aCons (eOp addD (eVar 6) (eVar 7)) (aNil))) (eCall lenD (aCons (eVar 3) (aNil))))) (aNil))))))))) (sRet (eVar 4))))
theorem E_laid_k12 (A : Ad) : ∃ g : List D → M, g = fnD 10 (B_laid_k12 A) := ⟨_, rfl⟩
noncomputable def G_laid_k12 (A : Ad) : List D → M := (E_laid_k12 A).choose
theorem D_laid_k12 (A : Ad) : G_laid_k12 A = fnD 10 (B_laid_k12 A) := (E_laid_k12 A).choose_spec
/-! _law_fits -/
noncomputable def B_fits_k12 (A : Ad) : RV.Env → MS := sSeq (sAsg 3 (eNew (aNil))) (sSeq (sFor (iRange1 (aCons (eFn 2 (G_dip_k01 A) [] (aCons (eVar 0) (aCons (eOp addD (eVar 2) (eC (.int 1))) (aNil)))) (aNil))) (tName 4) (sSeq (sPar3 5 6 7 (aCons (eFn 2 (G_dip_k01 A) [] (aCons (eVar 0) (aCons (eCall lenD (aCons (eVar 1) (aNil))) (aNil)))) (aCons (eOp eqD (eFn 2 (G_dip_k01 A) [] (aCons (eVar 0) (aCons (eC (.int 4)) (aNil)))) (eC (.int 0))) (aCons (eOp eqD (eFn 2 (G_dip_k01 A) [] (aCons (eVar 0) (aCons (eC (.int 5)) (aNil)))) (eC (.int 0))) (aNil))))) (sSeq (sAsg 8 (eLc .still (iSeq (eVar 3)) (tName 10) (bYes) (eOp ixD (eVar 10) (eC (.int 0))) [10])) (sSeq (sAsg 9 (eIf (bAnd (bTru truD (eVar 7)) (bBl (eOp (inD true) (eOp ixD (eOp ixD (eVar 1) (eVar 5)) (eC (.int 0))) (eVar 8)))) (eOp ixD (eOp ixD (eVar 1) (eVar 5)) (eC (.int 0))) (eFn 2 (G_fresh_k09 A) [] (aCons (eVar 0) (aCons (eVar 8) (aNil)))))) (sAppend (eVar 3) (eSeq .tup (aCons (eVar 9) (aCons (eOp ixD (eOp ixD (eVar 1) (eVar 5)) (eC (.int 0))) (aCons (eVar 6) (aNil)))))))))) (sRet (eVar 3)))
theorem E_fits_k12 (A : Ad) : ∃ g : List D → M, g = fnD 11 (B_fits_k12 A) := ⟨_, rfl⟩
noncomputable def G_fits_k12 (A : Ad) : List D → M := (E_fits_k12 A).choose
theorem D_fits_k12 (A : Ad) : G_fits_k12 A = fnD 11 (B_fits_k12 A) := (E_fits_k12 A).choose_spec
/-! _law_net -/
noncomputable def B_net_k11 (A : Ad) : RV.Env → MS := sSeq (sAsg 2 (eLc .still (iSeq (eVar 0)) (tName 3) (bYes) (eMake .still (A.c "Pipe") 4 (G_Pipe_init A) [] (aCons (eOp ixD (eVar 3) (eC (.int 0))) (aCons (eOp ixD (eVar 3) (eC (.int 1))) (aCons (eOp ixD (eVar 3) (eC (.int 2))) (aNil))))) [3])) (sRet (eMake .still (A.c "Net") 3 (G_Net_init A) [] (aCons (eCall tupleD (aCons (eVar 2) (aNil))) (aCons (eCall tupleD (aCons (eLc .still (iSeq (eVar 1)) (tName 3) (bYes) (eMakeK .still (A.c "Meter") 4 2 1 (G_Meter_init A) (perm [0]) (aCons (eOp ixD (eVar 3) (eC (.int 0))) (aCons (eOp ixD (eVar 3) (eC (.int 1))) (aNil))) (aCons (eOp ixD (eVar 3) (eC (.int 2))) (aNil))) [3]) (aNil))) (aNil)))))
theorem E_net_k11 (A : Ad) : ∃ g : List D → M, g = fnD 4 (B_net_k11 A) := ⟨_, rfl⟩
noncomputable def G_net_k11 (A : Ad) : List D → M := (E_net_k11 A).choose
theorem D_net_k11 (A : Ad) : G_net_k11 A = fnD 4 (B_net_k11 A) := (E_net_k11 A).choose_spec
/-! Net.__eq__ -/
noncomputable def B_Net_eq (A : Ad) : RV.Env → MS := sRet (eAnd (eCall (isiD (own A) (tab A)) (aCons (eVar 1) (aCons (eC (.adr (A.c "Net"))) (aNil)))) (eOp eqD (eCallM (strOwnD (A.c "Net") (G_Net_str A)) (aCons (eVar 0) (aNil))) (eCallM (strOwnD (A.c "Net") (G_Net_str A)) (aCons (eVar 1) (aNil)))))
theorem E_Net_eq (A : Ad) : ∃ g : List D → M, g = fnD 2 (B_Net_eq A) := ⟨_, rfl⟩
noncomputable def G_Net_eq (A : Ad) : List D → M := (E_Net_eq A).choose
theorem D_Net_eq (A : Ad) : G_Net_eq A = fnD 2 (B_Net_eq A) := (E_Net_eq A).choose_spec
/-! _law_right -/
noncomputable def B_right_k12 (A : Ad) : RV.Env → MS := sSeq (sAsg 1 (eFn 3 (G_laid_k12 A) [] (aCons (eVar 0) (aCons (eC (.int 1)) (aCons (eC (.int 10)) (aNil)))))) (sSeq (sAsg 2 (eFn 3 (G_fits_k12 A) [] (aCons (eVar 0) (aCons (eVar 1) (aCons (eC (.int 8)) (aNil)))))) (sSeq (sPar2 3 4 (aCons (eFn 2 (G_net_text_k11 A) [] (aCons (eVar 1) (aCons (eVar 2) (aNil)))) (aCons (eFn 2 (G_net_k11 A) [] (aCons (eVar 1) (aCons (eVar 2) (aNil)))) (aNil)))) (sSeq (sIf (bBl (eOp neD (eCall reprD (aCons (eCallM (strOwnD (A.c "Net") (G_Net_str A)) (aCons (eVar 4) (aNil))) (aNil))) (eCall reprD (aCons (eVar 3) (aNil))))) (sRet (eC (.bl false))) (sNil)) (sSeq (sFor (iSeq (eSeq .lst (aCons (eCm (A.c "Net") 2 (G_Net_read A) (eC (.adr (A.c "Net"))) (aCons (eVar 3) (aNil))) (aCons (eCmK (A.c "Net") 2 1 (G_Net_read A) (perm [0]) (eC (.adr (A.c "Net"))) (aCons (eVar 3) (aNil))) (aCons (eCm (A.c "Net") 2 (G_Net_read A) (eC (.adr (A.c "Net"))) (aCons (eCallM (strOwnD (A.c "Net") (G_Net_str A)) (aCons (eVar 4) (aNil))) (aNil))) (aNil)))))) (tName 5) (sIf (bOr (bNot (bTru truD (eFn 3 (G_is_k11 A) [] (aCons (eVar 5) (aCons (eVar 1) (aCons (eVar 2) (aNil))))))) (bOr (bNot (bBl (eOpM (eqOwnD (A.c "Net") (own A) (G_Net_eq A) false (nf A)) (eVar 5) (eVar 4)))) (bBl (eOpM (eqOwnD (A.c "Net") (own A) (G_Net_eq A) true (nf A)) (eVar 4) (eVar 5))))) (sRet (eC (.bl false))) (sNil))) (sSeq (sAsg 6 (eCm (A.c "Net") 2 (G_Net_read A) (eC (.adr (A.c "Net"))) (aCons (eFn 2 (G_net_text_k11 A) [] (aCons (eVar 1) (aCons (eSeq .lst (aNil)) (aNil)))) (aNil)))) (sRet (eAnd (eFn 3 (G_is_k11 A) [] (aCons (eVar 6) (aCons (eVar 1) (aCons (eSeq .lst (aNil)) (aNil))))) (eOp eqD (eOpM (eqOwnD (A.c "Net") (own A) (G_Net_eq A) false (nf A)) (eVar 6) (eVar 4)) (eOp eqD (eVar 2) (eSeq .lst (aNil)))))))))))
theorem E_right_k12 (A : Ad) : ∃ g : List D → M, g = fnD 7 (B_right_k12 A) := ⟨_, rfl⟩
noncomputable def G_right_k12 (A : Ad) : List D → M := (E_right_k12 A).choose
theorem D_right_k12 (A : Ad) : G_right_k12 A = fnD 7 (B_right_k12 A) := (E_right_k12 A).choose_spec
/-! law -/
noncomputable def B_law_k12 (A : Ad) : RV.Env → MS := sSeq (sAsg 1 (eC (.str "pipe pipe meter sealed\npipe a sealed meter\nmeter sealed pipe sealed\nmeter meter a"))) (sSeq (sIf (bNot (bTru truD (eFn 3 (G_is_k11 A) [] (aCons (eCm (A.c "Net") 2 (G_Net_read A) (eC (.adr (A.c "Net"))) (aCons (eVar 1) (aNil))) (aCons (eSeq .lst (aCons (eSeq .tup (aCons (eC (.str "pipe")) (aCons (eC (.str "meter")) (aCons (eC (.str "sealed")) (aNil))))) (aCons (eSeq .tup (aCons (eC (.str "a")) (aCons (eC (.str "sealed")) (aCons (eC (.str "meter")) (aNil))))) (aNil)))) (aCons (eSeq .lst (aCons (eSeq .tup (aCons (eC (.str "sealed")) (aCons (eC (.str "pipe")) (aCons (eC (.bl true)) (aNil))))) (aCons (eSeq .tup (aCons (eC (.str "meter")) (aCons (eC (.str "a")) (aCons (eC (.bl false)) (aNil))))) (aNil)))) (aNil))))))) (sRet (eC (.bl false))) (sNil)) (sSeq (sFor (iRange1 (aCons (eCall max2D (aCons (eC (.int 2)) (aCons (eCall min2D (aCons (eCall lenD (aCons (eVar 0) (aNil))) (aCons (eC (.int 4)) (aNil)))) (aNil)))) (aNil))) (tName 2) (sSeq (sAsg 3 (eFn 2 (G_well_k01 A) [] (aCons (eVar 0) (aCons (eVar 2) (aNil))))) (sIf (bNot (bTru truD (eCall allD (aCons (eLc .still (iRange1 (aCons (eC (.int 3)) (aNil))) (tName 4) (bYes) (eFn 1 (G_right_k12 A) [] (aCons (eVar 3) (aNil))) [4]) (aNil))))) (sRet (eC (.bl false))) (sNil)))) (sRet (eC (.bl true)))))
theorem E_law_k12 (A : Ad) : ∃ g : List D → M, g = fnD 5 (B_law_k12 A) := ⟨_, rfl⟩
noncomputable def G_law_k12 (A : Ad) : List D → M := (E_law_k12 A).choose
theorem D_law_k12 (A : Ad) : G_law_k12 A = fnD 5 (B_law_k12 A) := (E_law_k12 A).choose_spec
end RV
end
section
/-! Draws. -/
namespace RV
open PySem L2
theorem ixD_cell {S : WS} {k : Nat} {ds : List D} {i : Int} (h : S[k]? = some (.lst ds)) : ixD S (.cell k) (.int i) = atI ds i := by simp only [ixD, h]
theorem setIx_cell {S : WS} {k : Nat} {ds : List D} {i : Int} {d : D} (h : S[k]? = some (.lst ds)) (hc : D.clean 0 d = true) : setIxD (.cell k) (.int i) d S = (ixN ds.length i).map fun j => S.set k (.lst (ds.set j d)) := by simp only [setIxD, h, hc, if_true]
section
variable {A : Ad} {S T : WS} {k : Nat} {n m : Int} {w : W} {q : D → WS → Prop} {x : Xq}
theorem dip_ok (hk : k < S.length) (g : Good n w) (hm : 0 < m) (hm2 : m < 1000000000000000000000000000000000000000000000000000000000000) (hn : n < 1000000000000000000) (h : ∀ d w', 0 ≤ d → d < m → Good (n + 1) w' → q (.int d) (st S k w' T)) : G_dip_k01 A [.cell k, .int m] (st S k w T) q x := by
  obtain ⟨a, b, c⟩ := w
  obtain ⟨a0, a1, b0, c0, c1⟩ := g
  simp only at a0 a1 b0 c0 c1
  have at_ : ∀ w : W, (st S k w T)[k]? = some (.lst [.int w.a, .int w.b, .int w.c]) := fun w => st_at hk
  have i0 : ∀ (w : W), ixD (st S k w T) (.cell k) (.int 0) = some (.int w.a) := fun w => by rw [ixD_cell (at_ w)]; rfl
  have i1 : ∀ (w : W), ixD (st S k w T) (.cell k) (.int 1) = some (.int w.b) := fun w => by rw [ixD_cell (at_ w)]; rfl
  have i2 : ∀ (w : W), ixD (st S k w T) (.cell k) (.int 2) = some (.int w.c) := fun w => by rw [ixD_cell (at_ w)]; rfl
  have s0 : ∀ (w : W) (v : Int), setIxD (.cell k) (.int 0) (.int v) (st S k w T) = some (st S k ⟨v, w.b, w.c⟩ T) := fun w v => by rw [setIx_cell (at_ w) rfl]; exact congrArg some (st_put hk)
  have s1 : ∀ (w : W) (v : Int), setIxD (.cell k) (.int 1) (.int v) (st S k w T) = some (st S k ⟨w.a, v, w.c⟩ T) := fun w v => by rw [setIx_cell (at_ w) rfl]; exact congrArg some (st_put hk)
  have s2 : ∀ (w : W) (v : Int), setIxD (.cell k) (.int 2) (.int v) (st S k w T) = some (st S k ⟨w.a, w.b, v⟩ T) := fun w v => by rw [setIx_cell (at_ w) rfl]; exact congrArg some (st_put hk)
  have hd : dmOk m = true := decide_eq_true ⟨hm, Nat.lt_of_lt_of_le (m := 1000000000000000000000000000000000000000000000000000000000000) (by omega) (by decide +kernel)⟩
  have dm : ∀ S (v : Int), divmodD S [.int v, .int m] = some (.tup [.int (v / m), .int (v % m)]) := fun S v => by simp only [divmodD, hd, if_true]
  rw [D_dip_k01]
  unfold fnD startE
  simp only [List.map_cons, List.map_nil, List.length_cons, List.length_nil, Nat.reduceAdd, Nat.reduceSub, List.replicate, List.cons_append, List.nil_append, List.append_nil, Nat.zero_add]
  unfold B_dip_k01
  refine seq_gen fun N_ hN_ => ?_
  try simp -implicitDefEqProofs only [eVar, eC, eOp, eUn, aNil, aCons, eSeq, eCall, eFn, bBl, onB_bl, bTru, eNotT, bAnd, bOr, bNot, eAnd, eOr, eIf, bChain, iteB_t, iteB_f, sNil, sSeq, sRet, sDrop, sAsg, sIf, sBreak, sCont, sAsgG, sPar2, sPar3, sSetIx, sPairSet, sAppend, onL, onI_i, onT_s, onTu_t, onCe_c, on1_, on2_, on3_, onLst_l, onOb_o, onSeq_l, onSeq_r, onSeq_c, lkD_s, lkD_n, lkO_s, lkO_n, finO, sFldD, setFD, eProp, isOb_obj, eMake, eMakeK, eMakeL, eLc, eNew, eSl, oNone, oSome, eOpM, eCallM, eCm, eCmK, eOpT, jNil, jCons, eJoin, aStar, sCalm, sFor, iRange1, iSeq, iTupD, iStrD, iEnumT, tName, tTup_t, tsCons_c, tsNil_n, any_t, onS_some, look0, look1, look2, look3, look4, look5, look6, look7, look8, look9, look10, look11, look12, look13, look14, look15, bYes, wipeE, List.set_cons_zero, List.set_cons_succ, List.length_cons, List.length_nil, List.append_nil, List.nil_append, List.cons_append, List.append_assoc, Nat.zero_add, Nat.reduceAdd, Nat.reduceSub, Nat.reduceEqDiff, Nat.reduceLT, Nat.reduceLeDiff, Int.reduceNeg, true_and, and_true, and_self, if_true, if_false, Bool.not_true, Bool.not_false, Bool.false_eq_true, reduceIte, reduceCtorEq, decide_true, decide_false, ltD_int, leD_int, gtD_int, geD_int, subD_int, addD_int, intOf_int, absD_int, eqD_int, eqD_str, neD_str, neD_int, isN_non, truD_bl, eqD_bl, neD_bl, Option.map_some, Option.bind_some, small_0, small_1, small_2, small_3, small_4, small_5, small_6, small_7, small_8, st_app, st_len, fin_st, fin_stT, fin_self, ite_self, i2, s2]
  subst hN_
  refine seq_gen fun N_ hN_ => ?_
  try simp -implicitDefEqProofs only [eVar, eC, eOp, eUn, aNil, aCons, eSeq, eCall, eFn, bBl, onB_bl, bTru, eNotT, bAnd, bOr, bNot, eAnd, eOr, eIf, bChain, iteB_t, iteB_f, sNil, sSeq, sRet, sDrop, sAsg, sIf, sBreak, sCont, sAsgG, sPar2, sPar3, sSetIx, sPairSet, sAppend, onL, onI_i, onT_s, onTu_t, onCe_c, on1_, on2_, on3_, onLst_l, onOb_o, onSeq_l, onSeq_r, onSeq_c, lkD_s, lkD_n, lkO_s, lkO_n, finO, sFldD, setFD, eProp, isOb_obj, eMake, eMakeK, eMakeL, eLc, eNew, eSl, oNone, oSome, eOpM, eCallM, eCm, eCmK, eOpT, jNil, jCons, eJoin, aStar, sCalm, sFor, iRange1, iSeq, iTupD, iStrD, iEnumT, tName, tTup_t, tsCons_c, tsNil_n, any_t, onS_some, look0, look1, look2, look3, look4, look5, look6, look7, look8, look9, look10, look11, look12, look13, look14, look15, bYes, wipeE, List.set_cons_zero, List.set_cons_succ, List.length_cons, List.length_nil, List.append_nil, List.nil_append, List.cons_append, List.append_assoc, Nat.zero_add, Nat.reduceAdd, Nat.reduceSub, Nat.reduceEqDiff, Nat.reduceLT, Nat.reduceLeDiff, Int.reduceNeg, true_and, and_true, and_self, if_true, if_false, Bool.not_true, Bool.not_false, Bool.false_eq_true, reduceIte, reduceCtorEq, decide_true, decide_false, ltD_int, leD_int, gtD_int, geD_int, subD_int, addD_int, intOf_int, absD_int, eqD_int, eqD_str, neD_str, neD_int, isN_non, truD_bl, eqD_bl, neD_bl, Option.map_some, Option.bind_some, small_0, small_1, small_2, small_3, small_4, small_5, small_6, small_7, small_8, st_app, st_len, fin_st, fin_stT, fin_self, ite_self, i1]
  refine iteB_dec (fun hb => ?_) (fun hb => ?_)
  · try simp -implicitDefEqProofs only [eVar, eC, eOp, eUn, aNil, aCons, eSeq, eCall, eFn, bBl, onB_bl, bTru, eNotT, bAnd, bOr, bNot, eAnd, eOr, eIf, bChain, iteB_t, iteB_f, sNil, sSeq, sRet, sDrop, sAsg, sIf, sBreak, sCont, sAsgG, sPar2, sPar3, sSetIx, sPairSet, sAppend, onL, onI_i, onT_s, onTu_t, onCe_c, on1_, on2_, on3_, onLst_l, onOb_o, onSeq_l, onSeq_r, onSeq_c, lkD_s, lkD_n, lkO_s, lkO_n, finO, sFldD, setFD, eProp, isOb_obj, eMake, eMakeK, eMakeL, eLc, eNew, eSl, oNone, oSome, eOpM, eCallM, eCm, eCmK, eOpT, jNil, jCons, eJoin, aStar, sCalm, sFor, iRange1, iSeq, iTupD, iStrD, iEnumT, tName, tTup_t, tsCons_c, tsNil_n, any_t, onS_some, look0, look1, look2, look3, look4, look5, look6, look7, look8, look9, look10, look11, look12, look13, look14, look15, bYes, wipeE, List.set_cons_zero, List.set_cons_succ, List.length_cons, List.length_nil, List.append_nil, List.nil_append, List.cons_append, List.append_assoc, Nat.zero_add, Nat.reduceAdd, Nat.reduceSub, Nat.reduceEqDiff, Nat.reduceLT, Nat.reduceLeDiff, Int.reduceNeg, true_and, and_true, and_self, if_true, if_false, Bool.not_true, Bool.not_false, Bool.false_eq_true, reduceIte, reduceCtorEq, decide_true, decide_false, ltD_int, leD_int, gtD_int, geD_int, subD_int, addD_int, intOf_int, absD_int, eqD_int, eqD_str, neD_str, neD_int, isN_non, truD_bl, eqD_bl, neD_bl, Option.map_some, Option.bind_some, small_0, small_1, small_2, small_3, small_4, small_5, small_6, small_7, small_8, st_app, st_len, fin_st, fin_stT, fin_self, ite_self, i1, dm, s1]
    exact h _ _ (Int.emod_nonneg _ (by omega)) (Int.emod_lt_of_pos _ hm) ⟨a0, a1, Int.ediv_nonneg b0 (by omega), by show 0 ≤ c + 1; omega, by show c + 1 ≤ n + 1; omega⟩
  · subst hN_
    refine seq_gen fun N_ hN_ => ?_
    have e1 : mulOk a 69621 = true := mulOk_l a0 (by omega)
    have e2 : mulOk 31 (c + 1) = true := mulOk_l (by omega) (by omega)
    have e3 : mulOk (31 * (c + 1)) (c + 1) = true := mulOk_r (by omega) (by omega)
    try simp -implicitDefEqProofs only [eVar, eC, eOp, eUn, aNil, aCons, eSeq, eCall, eFn, bBl, onB_bl, bTru, eNotT, bAnd, bOr, bNot, eAnd, eOr, eIf, bChain, iteB_t, iteB_f, sNil, sSeq, sRet, sDrop, sAsg, sIf, sBreak, sCont, sAsgG, sPar2, sPar3, sSetIx, sPairSet, sAppend, onL, onI_i, onT_s, onTu_t, onCe_c, on1_, on2_, on3_, onLst_l, onOb_o, onSeq_l, onSeq_r, onSeq_c, lkD_s, lkD_n, lkO_s, lkO_n, finO, sFldD, setFD, eProp, isOb_obj, eMake, eMakeK, eMakeL, eLc, eNew, eSl, oNone, oSome, eOpM, eCallM, eCm, eCmK, eOpT, jNil, jCons, eJoin, aStar, sCalm, sFor, iRange1, iSeq, iTupD, iStrD, iEnumT, tName, tTup_t, tsCons_c, tsNil_n, any_t, onS_some, look0, look1, look2, look3, look4, look5, look6, look7, look8, look9, look10, look11, look12, look13, look14, look15, bYes, wipeE, List.set_cons_zero, List.set_cons_succ, List.length_cons, List.length_nil, List.append_nil, List.nil_append, List.cons_append, List.append_assoc, Nat.zero_add, Nat.reduceAdd, Nat.reduceSub, Nat.reduceEqDiff, Nat.reduceLT, Nat.reduceLeDiff, Int.reduceNeg, true_and, and_true, and_self, if_true, if_false, Bool.not_true, Bool.not_false, Bool.false_eq_true, reduceIte, reduceCtorEq, decide_true, decide_false, ltD_int, leD_int, gtD_int, geD_int, subD_int, addD_int, intOf_int, absD_int, eqD_int, eqD_str, neD_str, neD_int, isN_non, truD_bl, eqD_bl, neD_bl, Option.map_some, Option.bind_some, small_0, small_1, small_2, small_3, small_4, small_5, small_6, small_7, small_8, st_app, st_len, fin_st, fin_stT, fin_self, ite_self, i0, i2, mulD_int e1, mulD_int e2, mulD_int e3, modD_int (show (0 : Int) < 2147483629 by decide), s0]
    subst hN_
    refine seq_gen fun N_ hN_ => ?_
    have y1 : 0 ≤ (a * 69621 + 31 * (c + 1) * (c + 1) + 40503) % 2147483629 := Int.emod_nonneg _ (by omega)
    have y2 : (a * 69621 + 31 * (c + 1) * (c + 1) + 40503) % 2147483629 < 2147483629 := Int.emod_lt_of_pos _ (by omega)
    generalize (a * 69621 + 31 * (c + 1) * (c + 1) + 40503) % 2147483629 = y at y1 y2
    have e4 : mulOk y (y % 30011 + 17) = true := mulOk_l y1 (by omega)
    try simp -implicitDefEqProofs only [eVar, eC, eOp, eUn, aNil, aCons, eSeq, eCall, eFn, bBl, onB_bl, bTru, eNotT, bAnd, bOr, bNot, eAnd, eOr, eIf, bChain, iteB_t, iteB_f, sNil, sSeq, sRet, sDrop, sAsg, sIf, sBreak, sCont, sAsgG, sPar2, sPar3, sSetIx, sPairSet, sAppend, onL, onI_i, onT_s, onTu_t, onCe_c, on1_, on2_, on3_, onLst_l, onOb_o, onSeq_l, onSeq_r, onSeq_c, lkD_s, lkD_n, lkO_s, lkO_n, finO, sFldD, setFD, eProp, isOb_obj, eMake, eMakeK, eMakeL, eLc, eNew, eSl, oNone, oSome, eOpM, eCallM, eCm, eCmK, eOpT, jNil, jCons, eJoin, aStar, sCalm, sFor, iRange1, iSeq, iTupD, iStrD, iEnumT, tName, tTup_t, tsCons_c, tsNil_n, any_t, onS_some, look0, look1, look2, look3, look4, look5, look6, look7, look8, look9, look10, look11, look12, look13, look14, look15, bYes, wipeE, List.set_cons_zero, List.set_cons_succ, List.length_cons, List.length_nil, List.append_nil, List.nil_append, List.cons_append, List.append_assoc, Nat.zero_add, Nat.reduceAdd, Nat.reduceSub, Nat.reduceEqDiff, Nat.reduceLT, Nat.reduceLeDiff, Int.reduceNeg, true_and, and_true, and_self, if_true, if_false, Bool.not_true, Bool.not_false, Bool.false_eq_true, reduceIte, reduceCtorEq, decide_true, decide_false, ltD_int, leD_int, gtD_int, geD_int, subD_int, addD_int, intOf_int, absD_int, eqD_int, eqD_str, neD_str, neD_int, isN_non, truD_bl, eqD_bl, neD_bl, Option.map_some, Option.bind_some, small_0, small_1, small_2, small_3, small_4, small_5, small_6, small_7, small_8, st_app, st_len, fin_st, fin_stT, fin_self, ite_self, i0, modD_int (show (0 : Int) < 30011 by decide), mulD_int e4, modD_int (show (0 : Int) < 2147483587 by decide)]
    subst hN_
    try simp -implicitDefEqProofs only [eVar, eC, eOp, eUn, aNil, aCons, eSeq, eCall, eFn, bBl, onB_bl, bTru, eNotT, bAnd, bOr, bNot, eAnd, eOr, eIf, bChain, iteB_t, iteB_f, sNil, sSeq, sRet, sDrop, sAsg, sIf, sBreak, sCont, sAsgG, sPar2, sPar3, sSetIx, sPairSet, sAppend, onL, onI_i, onT_s, onTu_t, onCe_c, on1_, on2_, on3_, onLst_l, onOb_o, onSeq_l, onSeq_r, onSeq_c, lkD_s, lkD_n, lkO_s, lkO_n, finO, sFldD, setFD, eProp, isOb_obj, eMake, eMakeK, eMakeL, eLc, eNew, eSl, oNone, oSome, eOpM, eCallM, eCm, eCmK, eOpT, jNil, jCons, eJoin, aStar, sCalm, sFor, iRange1, iSeq, iTupD, iStrD, iEnumT, tName, tTup_t, tsCons_c, tsNil_n, any_t, onS_some, look0, look1, look2, look3, look4, look5, look6, look7, look8, look9, look10, look11, look12, look13, look14, look15, bYes, wipeE, List.set_cons_zero, List.set_cons_succ, List.length_cons, List.length_nil, List.append_nil, List.nil_append, List.cons_append, List.append_assoc, Nat.zero_add, Nat.reduceAdd, Nat.reduceSub, Nat.reduceEqDiff, Nat.reduceLT, Nat.reduceLeDiff, Int.reduceNeg, true_and, and_true, and_self, if_true, if_false, Bool.not_true, Bool.not_false, Bool.false_eq_true, reduceIte, reduceCtorEq, decide_true, decide_false, ltD_int, leD_int, gtD_int, geD_int, subD_int, addD_int, intOf_int, absD_int, eqD_int, eqD_str, neD_str, neD_int, isN_non, truD_bl, eqD_bl, neD_bl, Option.map_some, Option.bind_some, small_0, small_1, small_2, small_3, small_4, small_5, small_6, small_7, small_8, st_app, st_len, fin_st, fin_stT, fin_self, ite_self, fdivD_int (show divOk ((y * (y % 30011 + 17)) % 2147483587) 64 = true from rfl), modD_int hm]
    exact h _ _ (Int.emod_nonneg _ (by omega)) (Int.emod_lt_of_pos _ hm) ⟨y1, y2, by show 0 ≤ b; omega, by show 0 ≤ c + 1; omega, by show c + 1 ≤ n + 1; omega⟩
/-- the well of a cell: a new one, behind all others -/
theorem well_ok {S : WS} {ns : List Int} {i : Int} (h0 : 0 ≤ i) (h1 : i < 1000000) (h : ∀ w : W, Good 0 w → q (.cell S.length) (S ++ [w.d])) : G_well_k01 A [.scr ns, .int i] S q x := by
  have hp : ∀ i : Int, posR i 2147483629 = true := fun _ => rfl
  have hpw : powOk 10 18 = true := by decide +kernel
  have he : ((10 : Int) ^ (18 : Int).toNat) = 1000000000000000000 := by decide +kernel
  have e1 : mulOk 90017 (i + 3) = true := mulOk_l (by omega) (by omega)
  have e2 : mulOk (90017 * (i + 3)) (i + 5) = true := mulOk_l (by omega) (by omega)
  have ln : lenD S [.scr ns] = some (.int (ns.length : Int)) := by simp [lenD, itemsD]
  rw [D_well_k01]
  unfold fnN startE
  simp only [List.map_cons, List.map_nil, List.length_cons, List.length_nil, Nat.reduceAdd, Nat.reduceSub, List.replicate, List.cons_append, List.nil_append]
  unfold B_well_k01
  have last : ∀ (v : Int) (o : Option D), (sRet (eNew (aCons (eOp modD (eCall intOfD (aCons (eVar 2) (aNil))) (eC (.int 2147483629))) (aCons (eIf (bBl (eOp geD (eCall absD (aCons (eVar 2) (aNil))) (eOp powD (eC (.int 10)) (eC (.int 18))))) (eCall absD (aCons (eVar 2) (aNil))) (eC (.int 0))) (aCons (eC (.int 0)) (aNil)))))) [some (.scr ns), some (.int i), some (.int v), o] S
      ⟨fun _ _ => False, fun d S' => finN S.length d S' q, fun _ _ => False, fun _ _ => False, fun e _ S' => finX S.length e S' x⟩ := fun v o => by
    have fn : ∀ c : Cell, finN S.length (.cell S.length) (S ++ [c]) q = q (.cell S.length) (S ++ [c]) := fun c => by simp [finN, onS]
    try simp -implicitDefEqProofs only [eVar, eC, eOp, eUn, aNil, aCons, eSeq, eCall, eFn, bBl, onB_bl, bTru, eNotT, bAnd, bOr, bNot, eAnd, eOr, eIf, bChain, iteB_t, iteB_f, sNil, sSeq, sRet, sDrop, sAsg, sIf, sBreak, sCont, sAsgG, sPar2, sPar3, sSetIx, sPairSet, sAppend, onL, onI_i, onT_s, onTu_t, onCe_c, on1_, on2_, on3_, onLst_l, onOb_o, onSeq_l, onSeq_r, onSeq_c, lkD_s, lkD_n, lkO_s, lkO_n, finO, sFldD, setFD, eProp, isOb_obj, eMake, eMakeK, eMakeL, eLc, eNew, eSl, oNone, oSome, eOpM, eCallM, eCm, eCmK, eOpT, jNil, jCons, eJoin, aStar, sCalm, sFor, iRange1, iSeq, iTupD, iStrD, iEnumT, tName, tTup_t, tsCons_c, tsNil_n, any_t, onS_some, look0, look1, look2, look3, look4, look5, look6, look7, look8, look9, look10, look11, look12, look13, look14, look15, bYes, wipeE, List.set_cons_zero, List.set_cons_succ, List.length_cons, List.length_nil, List.append_nil, List.nil_append, List.cons_append, List.append_assoc, Nat.zero_add, Nat.reduceAdd, Nat.reduceSub, Nat.reduceEqDiff, Nat.reduceLT, Nat.reduceLeDiff, Int.reduceNeg, true_and, and_true, and_self, if_true, if_false, Bool.not_true, Bool.not_false, Bool.false_eq_true, reduceIte, reduceCtorEq, decide_true, decide_false, ltD_int, leD_int, gtD_int, geD_int, subD_int, addD_int, intOf_int, absD_int, eqD_int, eqD_str, neD_str, neD_int, isN_non, truD_bl, eqD_bl, neD_bl, Option.map_some, Option.bind_some, small_0, small_1, small_2, small_3, small_4, small_5, small_6, small_7, small_8, st_app, st_len, fin_st, fin_stT, fin_self, ite_self, modD_int (show (0 : Int) < 2147483629 by decide), powD_int hpw, he]
    refine iteB_dec (fun hv => ?_) (fun hv => ?_)
    · try simp -implicitDefEqProofs only [eVar, eC, eOp, eUn, aNil, aCons, eSeq, eCall, eFn, bBl, onB_bl, bTru, eNotT, bAnd, bOr, bNot, eAnd, eOr, eIf, bChain, iteB_t, iteB_f, sNil, sSeq, sRet, sDrop, sAsg, sIf, sBreak, sCont, sAsgG, sPar2, sPar3, sSetIx, sPairSet, sAppend, onL, onI_i, onT_s, onTu_t, onCe_c, on1_, on2_, on3_, onLst_l, onOb_o, onSeq_l, onSeq_r, onSeq_c, lkD_s, lkD_n, lkO_s, lkO_n, finO, sFldD, setFD, eProp, isOb_obj, eMake, eMakeK, eMakeL, eLc, eNew, eSl, oNone, oSome, eOpM, eCallM, eCm, eCmK, eOpT, jNil, jCons, eJoin, aStar, sCalm, sFor, iRange1, iSeq, iTupD, iStrD, iEnumT, tName, tTup_t, tsCons_c, tsNil_n, any_t, onS_some, look0, look1, look2, look3, look4, look5, look6, look7, look8, look9, look10, look11, look12, look13, look14, look15, bYes, wipeE, List.set_cons_zero, List.set_cons_succ, List.length_cons, List.length_nil, List.append_nil, List.nil_append, List.cons_append, List.append_assoc, Nat.zero_add, Nat.reduceAdd, Nat.reduceSub, Nat.reduceEqDiff, Nat.reduceLT, Nat.reduceLeDiff, Int.reduceNeg, true_and, and_true, and_self, if_true, if_false, Bool.not_true, Bool.not_false, Bool.false_eq_true, reduceIte, reduceCtorEq, decide_true, decide_false, ltD_int, leD_int, gtD_int, geD_int, subD_int, addD_int, intOf_int, absD_int, eqD_int, eqD_str, neD_str, neD_int, isN_non, truD_bl, eqD_bl, neD_bl, Option.map_some, Option.bind_some, small_0, small_1, small_2, small_3, small_4, small_5, small_6, small_7, small_8, st_app, st_len, fin_st, fin_stT, fin_self, ite_self, fn, D.cleanL, D.clean, Bool.and_self]
      exact h ⟨v % 2147483629, if v < 0 then -v else v, 0⟩ ⟨Int.emod_nonneg _ (by omega), Int.emod_lt_of_pos _ (by omega), by show 0 ≤ (if v < 0 then -v else v); split <;> omega, Int.le_refl _, Int.le_refl _⟩
    · try simp -implicitDefEqProofs only [eVar, eC, eOp, eUn, aNil, aCons, eSeq, eCall, eFn, bBl, onB_bl, bTru, eNotT, bAnd, bOr, bNot, eAnd, eOr, eIf, bChain, iteB_t, iteB_f, sNil, sSeq, sRet, sDrop, sAsg, sIf, sBreak, sCont, sAsgG, sPar2, sPar3, sSetIx, sPairSet, sAppend, onL, onI_i, onT_s, onTu_t, onCe_c, on1_, on2_, on3_, onLst_l, onOb_o, onSeq_l, onSeq_r, onSeq_c, lkD_s, lkD_n, lkO_s, lkO_n, finO, sFldD, setFD, eProp, isOb_obj, eMake, eMakeK, eMakeL, eLc, eNew, eSl, oNone, oSome, eOpM, eCallM, eCm, eCmK, eOpT, jNil, jCons, eJoin, aStar, sCalm, sFor, iRange1, iSeq, iTupD, iStrD, iEnumT, tName, tTup_t, tsCons_c, tsNil_n, any_t, onS_some, look0, look1, look2, look3, look4, look5, look6, look7, look8, look9, look10, look11, look12, look13, look14, look15, bYes, wipeE, List.set_cons_zero, List.set_cons_succ, List.length_cons, List.length_nil, List.append_nil, List.nil_append, List.cons_append, List.append_assoc, Nat.zero_add, Nat.reduceAdd, Nat.reduceSub, Nat.reduceEqDiff, Nat.reduceLT, Nat.reduceLeDiff, Int.reduceNeg, true_and, and_true, and_self, if_true, if_false, Bool.not_true, Bool.not_false, Bool.false_eq_true, reduceIte, reduceCtorEq, decide_true, decide_false, ltD_int, leD_int, gtD_int, geD_int, subD_int, addD_int, intOf_int, absD_int, eqD_int, eqD_str, neD_str, neD_int, isN_non, truD_bl, eqD_bl, neD_bl, Option.map_some, Option.bind_some, small_0, small_1, small_2, small_3, small_4, small_5, small_6, small_7, small_8, st_app, st_len, fin_st, fin_stT, fin_self, ite_self, fn, D.cleanL, D.clean, Bool.and_self]
      exact h ⟨v % 2147483629, 0, 0⟩ ⟨Int.emod_nonneg _ (by omega), Int.emod_lt_of_pos _ (by omega), Int.le_refl _, Int.le_refl _, Int.le_refl _⟩
  refine seq_gen fun N_ hN_ => ?_
  try simp -implicitDefEqProofs only [eVar, eC, eOp, eUn, aNil, aCons, eSeq, eCall, eFn, bBl, onB_bl, bTru, eNotT, bAnd, bOr, bNot, eAnd, eOr, eIf, bChain, iteB_t, iteB_f, sNil, sSeq, sRet, sDrop, sAsg, sIf, sBreak, sCont, sAsgG, sPar2, sPar3, sSetIx, sPairSet, sAppend, onL, onI_i, onT_s, onTu_t, onCe_c, on1_, on2_, on3_, onLst_l, onOb_o, onSeq_l, onSeq_r, onSeq_c, lkD_s, lkD_n, lkO_s, lkO_n, finO, sFldD, setFD, eProp, isOb_obj, eMake, eMakeK, eMakeL, eLc, eNew, eSl, oNone, oSome, eOpM, eCallM, eCm, eCmK, eOpT, jNil, jCons, eJoin, aStar, sCalm, sFor, iRange1, iSeq, iTupD, iStrD, iEnumT, tName, tTup_t, tsCons_c, tsNil_n, any_t, onS_some, look0, look1, look2, look3, look4, look5, look6, look7, look8, look9, look10, look11, look12, look13, look14, look15, bYes, wipeE, List.set_cons_zero, List.set_cons_succ, List.length_cons, List.length_nil, List.append_nil, List.nil_append, List.cons_append, List.append_assoc, Nat.zero_add, Nat.reduceAdd, Nat.reduceSub, Nat.reduceEqDiff, Nat.reduceLT, Nat.reduceLeDiff, Int.reduceNeg, true_and, and_true, and_self, if_true, if_false, Bool.not_true, Bool.not_false, Bool.false_eq_true, reduceIte, reduceCtorEq, decide_true, decide_false, ltD_int, leD_int, gtD_int, geD_int, subD_int, addD_int, intOf_int, absD_int, eqD_int, eqD_str, neD_str, neD_int, isN_non, truD_bl, eqD_bl, neD_bl, Option.map_some, Option.bind_some, small_0, small_1, small_2, small_3, small_4, small_5, small_6, small_7, small_8, st_app, st_len, fin_st, fin_stT, fin_self, ite_self, ln]
  refine iteB_dec (fun hi => ?_) (fun hi => ?_)
  · have ha : atI ns i = some (ns[i.toNat]'(by omega)) := by
      rw [atI_nat h0 hi]
      exact List.getElem?_eq_getElem _
    have hx : ixD S (.scr ns) (.int i) = some (.int (ns[i.toNat]'(by omega))) := by simp only [ixD, ha, Option.map_some]
    try simp -implicitDefEqProofs only [eVar, eC, eOp, eUn, aNil, aCons, eSeq, eCall, eFn, bBl, onB_bl, bTru, eNotT, bAnd, bOr, bNot, eAnd, eOr, eIf, bChain, iteB_t, iteB_f, sNil, sSeq, sRet, sDrop, sAsg, sIf, sBreak, sCont, sAsgG, sPar2, sPar3, sSetIx, sPairSet, sAppend, onL, onI_i, onT_s, onTu_t, onCe_c, on1_, on2_, on3_, onLst_l, onOb_o, onSeq_l, onSeq_r, onSeq_c, lkD_s, lkD_n, lkO_s, lkO_n, finO, sFldD, setFD, eProp, isOb_obj, eMake, eMakeK, eMakeL, eLc, eNew, eSl, oNone, oSome, eOpM, eCallM, eCm, eCmK, eOpT, jNil, jCons, eJoin, aStar, sCalm, sFor, iRange1, iSeq, iTupD, iStrD, iEnumT, tName, tTup_t, tsCons_c, tsNil_n, any_t, onS_some, look0, look1, look2, look3, look4, look5, look6, look7, look8, look9, look10, look11, look12, look13, look14, look15, bYes, wipeE, List.set_cons_zero, List.set_cons_succ, List.length_cons, List.length_nil, List.append_nil, List.nil_append, List.cons_append, List.append_assoc, Nat.zero_add, Nat.reduceAdd, Nat.reduceSub, Nat.reduceEqDiff, Nat.reduceLT, Nat.reduceLeDiff, Int.reduceNeg, true_and, and_true, and_self, if_true, if_false, Bool.not_true, Bool.not_false, Bool.false_eq_true, reduceIte, reduceCtorEq, decide_true, decide_false, ltD_int, leD_int, gtD_int, geD_int, subD_int, addD_int, intOf_int, absD_int, eqD_int, eqD_str, neD_str, neD_int, isN_non, truD_bl, eqD_bl, neD_bl, Option.map_some, Option.bind_some, small_0, small_1, small_2, small_3, small_4, small_5, small_6, small_7, small_8, st_app, st_len, fin_st, fin_stT, fin_self, ite_self, hx]
    subst hN_
    refine seq_gen fun N_ hN_ => ?_
    try simp -implicitDefEqProofs only [eVar, eC, eOp, eUn, aNil, aCons, eSeq, eCall, eFn, bBl, onB_bl, bTru, eNotT, bAnd, bOr, bNot, eAnd, eOr, eIf, bChain, iteB_t, iteB_f, sNil, sSeq, sRet, sDrop, sAsg, sIf, sBreak, sCont, sAsgG, sPar2, sPar3, sSetIx, sPairSet, sAppend, onL, onI_i, onT_s, onTu_t, onCe_c, on1_, on2_, on3_, onLst_l, onOb_o, onSeq_l, onSeq_r, onSeq_c, lkD_s, lkD_n, lkO_s, lkO_n, finO, sFldD, setFD, eProp, isOb_obj, eMake, eMakeK, eMakeL, eLc, eNew, eSl, oNone, oSome, eOpM, eCallM, eCm, eCmK, eOpT, jNil, jCons, eJoin, aStar, sCalm, sFor, iRange1, iSeq, iTupD, iStrD, iEnumT, tName, tTup_t, tsCons_c, tsNil_n, any_t, onS_some, look0, look1, look2, look3, look4, look5, look6, look7, look8, look9, look10, look11, look12, look13, look14, look15, bYes, wipeE, List.set_cons_zero, List.set_cons_succ, List.length_cons, List.length_nil, List.append_nil, List.nil_append, List.cons_append, List.append_assoc, Nat.zero_add, Nat.reduceAdd, Nat.reduceSub, Nat.reduceEqDiff, Nat.reduceLT, Nat.reduceLeDiff, Int.reduceNeg, true_and, and_true, and_self, if_true, if_false, Bool.not_true, Bool.not_false, Bool.false_eq_true, reduceIte, reduceCtorEq, decide_true, decide_false, ltD_int, leD_int, gtD_int, geD_int, subD_int, addD_int, intOf_int, absD_int, eqD_int, eqD_str, neD_str, neD_int, isN_non, truD_bl, eqD_bl, neD_bl, Option.map_some, Option.bind_some, small_0, small_1, small_2, small_3, small_4, small_5, small_6, small_7, small_8, st_app, st_len, fin_st, fin_stT, fin_self, ite_self, ln, show decide ((ns.length : Int) ≤ i) = false from decide_eq_false (by omega)]
    subst hN_
    exact last _ _
  · try simp -implicitDefEqProofs only [eVar, eC, eOp, eUn, aNil, aCons, eSeq, eCall, eFn, bBl, onB_bl, bTru, eNotT, bAnd, bOr, bNot, eAnd, eOr, eIf, bChain, iteB_t, iteB_f, sNil, sSeq, sRet, sDrop, sAsg, sIf, sBreak, sCont, sAsgG, sPar2, sPar3, sSetIx, sPairSet, sAppend, onL, onI_i, onT_s, onTu_t, onCe_c, on1_, on2_, on3_, onLst_l, onOb_o, onSeq_l, onSeq_r, onSeq_c, lkD_s, lkD_n, lkO_s, lkO_n, finO, sFldD, setFD, eProp, isOb_obj, eMake, eMakeK, eMakeL, eLc, eNew, eSl, oNone, oSome, eOpM, eCallM, eCm, eCmK, eOpT, jNil, jCons, eJoin, aStar, sCalm, sFor, iRange1, iSeq, iTupD, iStrD, iEnumT, tName, tTup_t, tsCons_c, tsNil_n, any_t, onS_some, look0, look1, look2, look3, look4, look5, look6, look7, look8, look9, look10, look11, look12, look13, look14, look15, bYes, wipeE, List.set_cons_zero, List.set_cons_succ, List.length_cons, List.length_nil, List.append_nil, List.nil_append, List.cons_append, List.append_assoc, Nat.zero_add, Nat.reduceAdd, Nat.reduceSub, Nat.reduceEqDiff, Nat.reduceLT, Nat.reduceLeDiff, Int.reduceNeg, true_and, and_true, and_self, if_true, if_false, Bool.not_true, Bool.not_false, Bool.false_eq_true, reduceIte, reduceCtorEq, decide_true, decide_false, ltD_int, leD_int, gtD_int, geD_int, subD_int, addD_int, intOf_int, absD_int, eqD_int, eqD_str, neD_str, neD_int, isN_non, truD_bl, eqD_bl, neD_bl, Option.map_some, Option.bind_some, small_0, small_1, small_2, small_3, small_4, small_5, small_6, small_7, small_8, st_app, st_len, fin_st, fin_stT, fin_self, ite_self, mulD_int e1, mulD_int e2]
    subst hN_
    refine seq_gen fun N_ hN_ => ?_
    try simp -implicitDefEqProofs only [eVar, eC, eOp, eUn, aNil, aCons, eSeq, eCall, eFn, bBl, onB_bl, bTru, eNotT, bAnd, bOr, bNot, eAnd, eOr, eIf, bChain, iteB_t, iteB_f, sNil, sSeq, sRet, sDrop, sAsg, sIf, sBreak, sCont, sAsgG, sPar2, sPar3, sSetIx, sPairSet, sAppend, onL, onI_i, onT_s, onTu_t, onCe_c, on1_, on2_, on3_, onLst_l, onOb_o, onSeq_l, onSeq_r, onSeq_c, lkD_s, lkD_n, lkO_s, lkO_n, finO, sFldD, setFD, eProp, isOb_obj, eMake, eMakeK, eMakeL, eLc, eNew, eSl, oNone, oSome, eOpM, eCallM, eCm, eCmK, eOpT, jNil, jCons, eJoin, aStar, sCalm, sFor, iRange1, iSeq, iTupD, iStrD, iEnumT, tName, tTup_t, tsCons_c, tsNil_n, any_t, onS_some, look0, look1, look2, look3, look4, look5, look6, look7, look8, look9, look10, look11, look12, look13, look14, look15, bYes, wipeE, List.set_cons_zero, List.set_cons_succ, List.length_cons, List.length_nil, List.append_nil, List.nil_append, List.cons_append, List.append_assoc, Nat.zero_add, Nat.reduceAdd, Nat.reduceSub, Nat.reduceEqDiff, Nat.reduceLT, Nat.reduceLeDiff, Int.reduceNeg, true_and, and_true, and_self, if_true, if_false, Bool.not_true, Bool.not_false, Bool.false_eq_true, reduceIte, reduceCtorEq, decide_true, decide_false, ltD_int, leD_int, gtD_int, geD_int, subD_int, addD_int, intOf_int, absD_int, eqD_int, eqD_str, neD_str, neD_int, isN_non, truD_bl, eqD_bl, neD_bl, Option.map_some, Option.bind_some, small_0, small_1, small_2, small_3, small_4, small_5, small_6, small_7, small_8, st_app, st_len, fin_st, fin_stT, fin_self, ite_self, ln, show decide ((ns.length : Int) ≤ i) = true from decide_eq_true (by omega)]
    subst hN_
    generalize 90017 * (i + 3) * (i + 5) = v
    have go : ∀ (ms : List Int) (v : Int) (o : Option D) (Q : Env → WS → Prop) (k : Kt), (∀ v o, Q [some (.scr ns), some (.int i), some (.int v), o] S) → k.nx = Q →
        forD any_ (tName 3) (sAsg 2 (eOp modD (eCall intOfD (aCons (eOp addD (eOp mulD (eVar 2) (eC (.int 52711))) (eVar 3)) (aNil))) (eC (.int 2147483629)))) (ms.map D.int) [some (.scr ns), some (.int i), some (.int v), o] S k := fun ms => by
      induction ms with
      | nil =>
        intro v o Q k hQ hk
        refine ⟨trivial, ?_⟩
        rw [hk]
        exact hQ _ _
      | cons m ms ih =>
        intro v o Q k hQ hk
        have e3 : mulOk v 52711 = true := mulOk_r (by decide) (by decide)
        rw [List.map_cons, for_cons]
        try simp -implicitDefEqProofs only [eVar, eC, eOp, eUn, aNil, aCons, eSeq, eCall, eFn, bBl, onB_bl, bTru, eNotT, bAnd, bOr, bNot, eAnd, eOr, eIf, bChain, iteB_t, iteB_f, sNil, sSeq, sRet, sDrop, sAsg, sIf, sBreak, sCont, sAsgG, sPar2, sPar3, sSetIx, sPairSet, sAppend, onL, onI_i, onT_s, onTu_t, onCe_c, on1_, on2_, on3_, onLst_l, onOb_o, onSeq_l, onSeq_r, onSeq_c, lkD_s, lkD_n, lkO_s, lkO_n, finO, sFldD, setFD, eProp, isOb_obj, eMake, eMakeK, eMakeL, eLc, eNew, eSl, oNone, oSome, eOpM, eCallM, eCm, eCmK, eOpT, jNil, jCons, eJoin, aStar, sCalm, sFor, iRange1, iSeq, iTupD, iStrD, iEnumT, tName, tTup_t, tsCons_c, tsNil_n, any_t, onS_some, look0, look1, look2, look3, look4, look5, look6, look7, look8, look9, look10, look11, look12, look13, look14, look15, bYes, wipeE, List.set_cons_zero, List.set_cons_succ, List.length_cons, List.length_nil, List.append_nil, List.nil_append, List.cons_append, List.append_assoc, Nat.zero_add, Nat.reduceAdd, Nat.reduceSub, Nat.reduceEqDiff, Nat.reduceLT, Nat.reduceLeDiff, Int.reduceNeg, true_and, and_true, and_self, if_true, if_false, Bool.not_true, Bool.not_false, Bool.false_eq_true, reduceIte, reduceCtorEq, decide_true, decide_false, ltD_int, leD_int, gtD_int, geD_int, subD_int, addD_int, intOf_int, absD_int, eqD_int, eqD_str, neD_str, neD_int, isN_non, truD_bl, eqD_bl, neD_bl, Option.map_some, Option.bind_some, small_0, small_1, small_2, small_3, small_4, small_5, small_6, small_7, small_8, st_app, st_len, fin_st, fin_stT, fin_self, ite_self, mulD_int e3, modD_int (show (0 : Int) < 2147483629 by decide)]
        exact ih _ _ Q k hQ hk
    exact go ns v none _ _ (fun v o => last v o) rfl
theorem signs_ix {S : WS} {r : Int} (h0 : 0 ≤ r) (h : r < 36) : ∃ c, ixD S (.str "abcdefghijklmnopqrstuvwxyz0123456789") (.int r) = some (.str ⟨#[c]⟩) ∧ (isLt c || isDg c) = true ∧ (r < 26 → isLt c = true) := by
  obtain ⟨c, hc, h1, h2⟩ := signs_atI h0 h
  have sg : ("abcdefghijklmnopqrstuvwxyz0123456789" : Str) = signs := rfl
  have hss : small signs.length = true := by decide +kernel
  exact ⟨c, by simp only [ixD, sg, hss, if_true, hc, Option.map_some], h1, h2⟩
theorem name_ok (hk : k < S.length) (g : Good n w) (hn : n < 100000000000000000) (h : ∀ s w', Nm s → Good (n + 10) w' → q (.str s) (st S k w' T)) : G_name_k02 A [.cell k] (st S k w T) q x := by
  rw [D_name_k02]
  unfold fnD startE
  simp only [List.map_cons, List.map_nil, List.length_cons, List.length_nil, Nat.reduceAdd, Nat.reduceSub, List.replicate, List.cons_append, List.nil_append, List.append_nil, Nat.zero_add]
  unfold B_name_k02
  refine seq_gen fun N_ hN_ => ?_
  try simp -implicitDefEqProofs only [eVar, eC, eOp, eUn, aNil, aCons, eSeq, eCall, eFn, bBl, onB_bl, bTru, eNotT, bAnd, bOr, bNot, eAnd, eOr, eIf, bChain, iteB_t, iteB_f, sNil, sSeq, sRet, sDrop, sAsg, sIf, sBreak, sCont, sAsgG, sPar2, sPar3, sSetIx, sPairSet, sAppend, onL, onI_i, onT_s, onTu_t, onCe_c, on1_, on2_, on3_, onLst_l, onOb_o, onSeq_l, onSeq_r, onSeq_c, lkD_s, lkD_n, lkO_s, lkO_n, finO, sFldD, setFD, eProp, isOb_obj, eMake, eMakeK, eMakeL, eLc, eNew, eSl, oNone, oSome, eOpM, eCallM, eCm, eCmK, eOpT, jNil, jCons, eJoin, aStar, sCalm, sFor, iRange1, iSeq, iTupD, iStrD, iEnumT, tName, tTup_t, tsCons_c, tsNil_n, any_t, onS_some, look0, look1, look2, look3, look4, look5, look6, look7, look8, look9, look10, look11, look12, look13, look14, look15, bYes, wipeE, List.set_cons_zero, List.set_cons_succ, List.length_cons, List.length_nil, List.append_nil, List.nil_append, List.cons_append, List.append_assoc, Nat.zero_add, Nat.reduceAdd, Nat.reduceSub, Nat.reduceEqDiff, Nat.reduceLT, Nat.reduceLeDiff, Int.reduceNeg, true_and, and_true, and_self, if_true, if_false, Bool.not_true, Bool.not_false, Bool.false_eq_true, reduceIte, reduceCtorEq, decide_true, decide_false, ltD_int, leD_int, gtD_int, geD_int, subD_int, addD_int, intOf_int, absD_int, eqD_int, eqD_str, neD_str, neD_int, isN_non, truD_bl, eqD_bl, neD_bl, Option.map_some, Option.bind_some, small_0, small_1, small_2, small_3, small_4, small_5, small_6, small_7, small_8, st_app, st_len, fin_st, fin_stT, fin_self, ite_self]
  refine dip_ok hk g (by omega) (by omega) (by omega) fun d w1 d0 d1 g1 => ?_
  try simp -implicitDefEqProofs only [eVar, eC, eOp, eUn, aNil, aCons, eSeq, eCall, eFn, bBl, onB_bl, bTru, eNotT, bAnd, bOr, bNot, eAnd, eOr, eIf, bChain, iteB_t, iteB_f, sNil, sSeq, sRet, sDrop, sAsg, sIf, sBreak, sCont, sAsgG, sPar2, sPar3, sSetIx, sPairSet, sAppend, onL, onI_i, onT_s, onTu_t, onCe_c, on1_, on2_, on3_, onLst_l, onOb_o, onSeq_l, onSeq_r, onSeq_c, lkD_s, lkD_n, lkO_s, lkO_n, finO, sFldD, setFD, eProp, isOb_obj, eMake, eMakeK, eMakeL, eLc, eNew, eSl, oNone, oSome, eOpM, eCallM, eCm, eCmK, eOpT, jNil, jCons, eJoin, aStar, sCalm, sFor, iRange1, iSeq, iTupD, iStrD, iEnumT, tName, tTup_t, tsCons_c, tsNil_n, any_t, onS_some, look0, look1, look2, look3, look4, look5, look6, look7, look8, look9, look10, look11, look12, look13, look14, look15, bYes, wipeE, List.set_cons_zero, List.set_cons_succ, List.length_cons, List.length_nil, List.append_nil, List.nil_append, List.cons_append, List.append_assoc, Nat.zero_add, Nat.reduceAdd, Nat.reduceSub, Nat.reduceEqDiff, Nat.reduceLT, Nat.reduceLeDiff, Int.reduceNeg, true_and, and_true, and_self, if_true, if_false, Bool.not_true, Bool.not_false, Bool.false_eq_true, reduceIte, reduceCtorEq, decide_true, decide_false, ltD_int, leD_int, gtD_int, geD_int, subD_int, addD_int, intOf_int, absD_int, eqD_int, eqD_str, neD_str, neD_int, isN_non, truD_bl, eqD_bl, neD_bl, Option.map_some, Option.bind_some, small_0, small_1, small_2, small_3, small_4, small_5, small_6, small_7, small_8, st_app, st_len, fin_st, fin_stT, fin_self, ite_self]
  refine iteB_dec (fun hd => ?_) (fun hd => ?_)
  · refine dip_ok hk g1 (by omega) (by omega) (by omega) fun d w2 d0 d1 g2 => ?_
    obtain ⟨s, hs, ns⟩ := words_at d0 d1
    have hx : ixD (st S k w2 T) (.lst words) (.int d) = some (.str s) := by simp only [ixD, hs]
    unfold words at hx
    try simp -implicitDefEqProofs only [eVar, eC, eOp, eUn, aNil, aCons, eSeq, eCall, eFn, bBl, onB_bl, bTru, eNotT, bAnd, bOr, bNot, eAnd, eOr, eIf, bChain, iteB_t, iteB_f, sNil, sSeq, sRet, sDrop, sAsg, sIf, sBreak, sCont, sAsgG, sPar2, sPar3, sSetIx, sPairSet, sAppend, onL, onI_i, onT_s, onTu_t, onCe_c, on1_, on2_, on3_, onLst_l, onOb_o, onSeq_l, onSeq_r, onSeq_c, lkD_s, lkD_n, lkO_s, lkO_n, finO, sFldD, setFD, eProp, isOb_obj, eMake, eMakeK, eMakeL, eLc, eNew, eSl, oNone, oSome, eOpM, eCallM, eCm, eCmK, eOpT, jNil, jCons, eJoin, aStar, sCalm, sFor, iRange1, iSeq, iTupD, iStrD, iEnumT, tName, tTup_t, tsCons_c, tsNil_n, any_t, onS_some, look0, look1, look2, look3, look4, look5, look6, look7, look8, look9, look10, look11, look12, look13, look14, look15, bYes, wipeE, List.set_cons_zero, List.set_cons_succ, List.length_cons, List.length_nil, List.append_nil, List.nil_append, List.cons_append, List.append_assoc, Nat.zero_add, Nat.reduceAdd, Nat.reduceSub, Nat.reduceEqDiff, Nat.reduceLT, Nat.reduceLeDiff, Int.reduceNeg, true_and, and_true, and_self, if_true, if_false, Bool.not_true, Bool.not_false, Bool.false_eq_true, reduceIte, reduceCtorEq, decide_true, decide_false, ltD_int, leD_int, gtD_int, geD_int, subD_int, addD_int, intOf_int, absD_int, eqD_int, eqD_str, neD_str, neD_int, isN_non, truD_bl, eqD_bl, neD_bl, Option.map_some, Option.bind_some, small_0, small_1, small_2, small_3, small_4, small_5, small_6, small_7, small_8, st_app, st_len, fin_st, fin_stT, fin_self, ite_self, hx]
    exact h s w2 ns (g2.mono (by omega))
  · subst hN_
    refine seq_gen fun N_ hN_ => ?_
    try simp -implicitDefEqProofs only [eVar, eC, eOp, eUn, aNil, aCons, eSeq, eCall, eFn, bBl, onB_bl, bTru, eNotT, bAnd, bOr, bNot, eAnd, eOr, eIf, bChain, iteB_t, iteB_f, sNil, sSeq, sRet, sDrop, sAsg, sIf, sBreak, sCont, sAsgG, sPar2, sPar3, sSetIx, sPairSet, sAppend, onL, onI_i, onT_s, onTu_t, onCe_c, on1_, on2_, on3_, onLst_l, onOb_o, onSeq_l, onSeq_r, onSeq_c, lkD_s, lkD_n, lkO_s, lkO_n, finO, sFldD, setFD, eProp, isOb_obj, eMake, eMakeK, eMakeL, eLc, eNew, eSl, oNone, oSome, eOpM, eCallM, eCm, eCmK, eOpT, jNil, jCons, eJoin, aStar, sCalm, sFor, iRange1, iSeq, iTupD, iStrD, iEnumT, tName, tTup_t, tsCons_c, tsNil_n, any_t, onS_some, look0, look1, look2, look3, look4, look5, look6, look7, look8, look9, look10, look11, look12, look13, look14, look15, bYes, wipeE, List.set_cons_zero, List.set_cons_succ, List.length_cons, List.length_nil, List.append_nil, List.nil_append, List.cons_append, List.append_assoc, Nat.zero_add, Nat.reduceAdd, Nat.reduceSub, Nat.reduceEqDiff, Nat.reduceLT, Nat.reduceLeDiff, Int.reduceNeg, true_and, and_true, and_self, if_true, if_false, Bool.not_true, Bool.not_false, Bool.false_eq_true, reduceIte, reduceCtorEq, decide_true, decide_false, ltD_int, leD_int, gtD_int, geD_int, subD_int, addD_int, intOf_int, absD_int, eqD_int, eqD_str, neD_str, neD_int, isN_non, truD_bl, eqD_bl, neD_bl, Option.map_some, Option.bind_some, small_0, small_1, small_2, small_3, small_4, small_5, small_6, small_7, small_8, st_app, st_len, fin_st, fin_stT, fin_self, ite_self]
    subst hN_
    refine seq_gen fun N_ hN_ => ?_
    try simp -implicitDefEqProofs only [eVar, eC, eOp, eUn, aNil, aCons, eSeq, eCall, eFn, bBl, onB_bl, bTru, eNotT, bAnd, bOr, bNot, eAnd, eOr, eIf, bChain, iteB_t, iteB_f, sNil, sSeq, sRet, sDrop, sAsg, sIf, sBreak, sCont, sAsgG, sPar2, sPar3, sSetIx, sPairSet, sAppend, onL, onI_i, onT_s, onTu_t, onCe_c, on1_, on2_, on3_, onLst_l, onOb_o, onSeq_l, onSeq_r, onSeq_c, lkD_s, lkD_n, lkO_s, lkO_n, finO, sFldD, setFD, eProp, isOb_obj, eMake, eMakeK, eMakeL, eLc, eNew, eSl, oNone, oSome, eOpM, eCallM, eCm, eCmK, eOpT, jNil, jCons, eJoin, aStar, sCalm, sFor, iRange1, iSeq, iTupD, iStrD, iEnumT, tName, tTup_t, tsCons_c, tsNil_n, any_t, onS_some, look0, look1, look2, look3, look4, look5, look6, look7, look8, look9, look10, look11, look12, look13, look14, look15, bYes, wipeE, List.set_cons_zero, List.set_cons_succ, List.length_cons, List.length_nil, List.append_nil, List.nil_append, List.cons_append, List.append_assoc, Nat.zero_add, Nat.reduceAdd, Nat.reduceSub, Nat.reduceEqDiff, Nat.reduceLT, Nat.reduceLeDiff, Int.reduceNeg, true_and, and_true, and_self, if_true, if_false, Bool.not_true, Bool.not_false, Bool.false_eq_true, reduceIte, reduceCtorEq, decide_true, decide_false, ltD_int, leD_int, gtD_int, geD_int, subD_int, addD_int, intOf_int, absD_int, eqD_int, eqD_str, neD_str, neD_int, isN_non, truD_bl, eqD_bl, neD_bl, Option.map_some, Option.bind_some, small_0, small_1, small_2, small_3, small_4, small_5, small_6, small_7, small_8, st_app, st_len, fin_st, fin_stT, fin_self, ite_self]
    refine dip_ok hk g1 (by omega) (by omega) (by omega) fun d w2 d0 d1 g2 => ?_
    obtain ⟨c, hc, _, hl⟩ := signs_ix (S := st S k w2 T) d0 (by omega)
    try simp -implicitDefEqProofs only [eVar, eC, eOp, eUn, aNil, aCons, eSeq, eCall, eFn, bBl, onB_bl, bTru, eNotT, bAnd, bOr, bNot, eAnd, eOr, eIf, bChain, iteB_t, iteB_f, sNil, sSeq, sRet, sDrop, sAsg, sIf, sBreak, sCont, sAsgG, sPar2, sPar3, sSetIx, sPairSet, sAppend, onL, onI_i, onT_s, onTu_t, onCe_c, on1_, on2_, on3_, onLst_l, onOb_o, onSeq_l, onSeq_r, onSeq_c, lkD_s, lkD_n, lkO_s, lkO_n, finO, sFldD, setFD, eProp, isOb_obj, eMake, eMakeK, eMakeL, eLc, eNew, eSl, oNone, oSome, eOpM, eCallM, eCm, eCmK, eOpT, jNil, jCons, eJoin, aStar, sCalm, sFor, iRange1, iSeq, iTupD, iStrD, iEnumT, tName, tTup_t, tsCons_c, tsNil_n, any_t, onS_some, look0, look1, look2, look3, look4, look5, look6, look7, look8, look9, look10, look11, look12, look13, look14, look15, bYes, wipeE, List.set_cons_zero, List.set_cons_succ, List.length_cons, List.length_nil, List.append_nil, List.nil_append, List.cons_append, List.append_assoc, Nat.zero_add, Nat.reduceAdd, Nat.reduceSub, Nat.reduceEqDiff, Nat.reduceLT, Nat.reduceLeDiff, Int.reduceNeg, true_and, and_true, and_self, if_true, if_false, Bool.not_true, Bool.not_false, Bool.false_eq_true, reduceIte, reduceCtorEq, decide_true, decide_false, ltD_int, leD_int, gtD_int, geD_int, subD_int, addD_int, intOf_int, absD_int, eqD_int, eqD_str, neD_str, neD_int, isN_non, truD_bl, eqD_bl, neD_bl, Option.map_some, Option.bind_some, small_0, small_1, small_2, small_3, small_4, small_5, small_6, small_7, small_8, st_app, st_len, fin_st, fin_stT, fin_self, ite_self, hc]
    subst hN_
    refine seq_gen fun N_ hN_ => ?_
    try simp -implicitDefEqProofs only [eVar, eC, eOp, eUn, aNil, aCons, eSeq, eCall, eFn, bBl, onB_bl, bTru, eNotT, bAnd, bOr, bNot, eAnd, eOr, eIf, bChain, iteB_t, iteB_f, sNil, sSeq, sRet, sDrop, sAsg, sIf, sBreak, sCont, sAsgG, sPar2, sPar3, sSetIx, sPairSet, sAppend, onL, onI_i, onT_s, onTu_t, onCe_c, on1_, on2_, on3_, onLst_l, onOb_o, onSeq_l, onSeq_r, onSeq_c, lkD_s, lkD_n, lkO_s, lkO_n, finO, sFldD, setFD, eProp, isOb_obj, eMake, eMakeK, eMakeL, eLc, eNew, eSl, oNone, oSome, eOpM, eCallM, eCm, eCmK, eOpT, jNil, jCons, eJoin, aStar, sCalm, sFor, iRange1, iSeq, iTupD, iStrD, iEnumT, tName, tTup_t, tsCons_c, tsNil_n, any_t, onS_some, look0, look1, look2, look3, look4, look5, look6, look7, look8, look9, look10, look11, look12, look13, look14, look15, bYes, wipeE, List.set_cons_zero, List.set_cons_succ, List.length_cons, List.length_nil, List.append_nil, List.nil_append, List.cons_append, List.append_assoc, Nat.zero_add, Nat.reduceAdd, Nat.reduceSub, Nat.reduceEqDiff, Nat.reduceLT, Nat.reduceLeDiff, Int.reduceNeg, true_and, and_true, and_self, if_true, if_false, Bool.not_true, Bool.not_false, Bool.false_eq_true, reduceIte, reduceCtorEq, decide_true, decide_false, ltD_int, leD_int, gtD_int, geD_int, subD_int, addD_int, intOf_int, absD_int, eqD_int, eqD_str, neD_str, neD_int, isN_non, truD_bl, eqD_bl, neD_bl, Option.map_some, Option.bind_some, small_0, small_1, small_2, small_3, small_4, small_5, small_6, small_7, small_8, st_app, st_len, fin_st, fin_stT, fin_self, ite_self]
    refine dip_ok hk g2 (by omega) (by omega) (by omega) fun m w3 m0 m1 g3 => ?_
    try simp -implicitDefEqProofs only [eVar, eC, eOp, eUn, aNil, aCons, eSeq, eCall, eFn, bBl, onB_bl, bTru, eNotT, bAnd, bOr, bNot, eAnd, eOr, eIf, bChain, iteB_t, iteB_f, sNil, sSeq, sRet, sDrop, sAsg, sIf, sBreak, sCont, sAsgG, sPar2, sPar3, sSetIx, sPairSet, sAppend, onL, onI_i, onT_s, onTu_t, onCe_c, on1_, on2_, on3_, onLst_l, onOb_o, onSeq_l, onSeq_r, onSeq_c, lkD_s, lkD_n, lkO_s, lkO_n, finO, sFldD, setFD, eProp, isOb_obj, eMake, eMakeK, eMakeL, eLc, eNew, eSl, oNone, oSome, eOpM, eCallM, eCm, eCmK, eOpT, jNil, jCons, eJoin, aStar, sCalm, sFor, iRange1, iSeq, iTupD, iStrD, iEnumT, tName, tTup_t, tsCons_c, tsNil_n, any_t, onS_some, look0, look1, look2, look3, look4, look5, look6, look7, look8, look9, look10, look11, look12, look13, look14, look15, bYes, wipeE, List.set_cons_zero, List.set_cons_succ, List.length_cons, List.length_nil, List.append_nil, List.nil_append, List.cons_append, List.append_assoc, Nat.zero_add, Nat.reduceAdd, Nat.reduceSub, Nat.reduceEqDiff, Nat.reduceLT, Nat.reduceLeDiff, Int.reduceNeg, true_and, and_true, and_self, if_true, if_false, Bool.not_true, Bool.not_false, Bool.false_eq_true, reduceIte, reduceCtorEq, decide_true, decide_false, ltD_int, leD_int, gtD_int, geD_int, subD_int, addD_int, intOf_int, absD_int, eqD_int, eqD_str, neD_str, neD_int, isN_non, truD_bl, eqD_bl, neD_bl, Option.map_some, Option.bind_some, small_0, small_1, small_2, small_3, small_4, small_5, small_6, small_7, small_8, st_app, st_len, fin_st, fin_stT, fin_self, ite_self]
    refine ⟨⟨by omega, by omega⟩, ?_⟩
    have go : ∀ (js : List Nat) (s : Str) (o : Option D) (n : Int) (w : W) (kt : Kt), Nm s → s.length + js.length ≤ 8 → Good n w → n + js.length < 200000000000000000 → (∀ s o w', Nm s → Good (n + js.length) w' → kt.nx [some (.cell k), some (.str "abcdefghijklmnopqrstuvwxyz0123456789"), some (.str s), o] (st S k w' T)) →
        forD any_ (tName 3) (sAsg 2 (eOp addD (eVar 2) (eOp ixD (eVar 1) (eFn 2 (G_dip_k01 A) [] (aCons (eVar 0) (aCons (eC (.int 36)) (aNil))))))) (js.map fun (i : Nat) => D.int (0 + (i : Int))) [some (.cell k), some (.str "abcdefghijklmnopqrstuvwxyz0123456789"), some (.str s), o] (st S k w T) kt := fun js => by
      induction js with
      | nil =>
        intro s o n w kt hs hl g hn hq
        exact ⟨trivial, hq _ _ _ hs (g.mono (by simp))⟩
      | cons j js ih =>
        intro s o n w kt hs hl g hn hq
        simp only [List.length_cons] at hl hn
        rw [List.map_cons, for_cons]
        try simp -implicitDefEqProofs only [eVar, eC, eOp, eUn, aNil, aCons, eSeq, eCall, eFn, bBl, onB_bl, bTru, eNotT, bAnd, bOr, bNot, eAnd, eOr, eIf, bChain, iteB_t, iteB_f, sNil, sSeq, sRet, sDrop, sAsg, sIf, sBreak, sCont, sAsgG, sPar2, sPar3, sSetIx, sPairSet, sAppend, onL, onI_i, onT_s, onTu_t, onCe_c, on1_, on2_, on3_, onLst_l, onOb_o, onSeq_l, onSeq_r, onSeq_c, lkD_s, lkD_n, lkO_s, lkO_n, finO, sFldD, setFD, eProp, isOb_obj, eMake, eMakeK, eMakeL, eLc, eNew, eSl, oNone, oSome, eOpM, eCallM, eCm, eCmK, eOpT, jNil, jCons, eJoin, aStar, sCalm, sFor, iRange1, iSeq, iTupD, iStrD, iEnumT, tName, tTup_t, tsCons_c, tsNil_n, any_t, onS_some, look0, look1, look2, look3, look4, look5, look6, look7, look8, look9, look10, look11, look12, look13, look14, look15, bYes, wipeE, List.set_cons_zero, List.set_cons_succ, List.length_cons, List.length_nil, List.append_nil, List.nil_append, List.cons_append, List.append_assoc, Nat.zero_add, Nat.reduceAdd, Nat.reduceSub, Nat.reduceEqDiff, Nat.reduceLT, Nat.reduceLeDiff, Int.reduceNeg, true_and, and_true, and_self, if_true, if_false, Bool.not_true, Bool.not_false, Bool.false_eq_true, reduceIte, reduceCtorEq, decide_true, decide_false, ltD_int, leD_int, gtD_int, geD_int, subD_int, addD_int, intOf_int, absD_int, eqD_int, eqD_str, neD_str, neD_int, isN_non, truD_bl, eqD_bl, neD_bl, Option.map_some, Option.bind_some, small_0, small_1, small_2, small_3, small_4, small_5, small_6, small_7, small_8, st_app, st_len, fin_st, fin_stT, fin_self, ite_self]
        refine dip_ok hk g (by omega) (by omega) (by omega) fun d w2 d0 d1 g2 => ?_
        obtain ⟨c, hc, ha, _⟩ := signs_ix (S := st S k w2 T) d0 d1
        have hsm : small (s.length + Str.length ⟨#[c]⟩) = true := small_of (by
          rw [one_len]
          have := (nm_len hs).2
          omega)
        try simp -implicitDefEqProofs only [eVar, eC, eOp, eUn, aNil, aCons, eSeq, eCall, eFn, bBl, onB_bl, bTru, eNotT, bAnd, bOr, bNot, eAnd, eOr, eIf, bChain, iteB_t, iteB_f, sNil, sSeq, sRet, sDrop, sAsg, sIf, sBreak, sCont, sAsgG, sPar2, sPar3, sSetIx, sPairSet, sAppend, onL, onI_i, onT_s, onTu_t, onCe_c, on1_, on2_, on3_, onLst_l, onOb_o, onSeq_l, onSeq_r, onSeq_c, lkD_s, lkD_n, lkO_s, lkO_n, finO, sFldD, setFD, eProp, isOb_obj, eMake, eMakeK, eMakeL, eLc, eNew, eSl, oNone, oSome, eOpM, eCallM, eCm, eCmK, eOpT, jNil, jCons, eJoin, aStar, sCalm, sFor, iRange1, iSeq, iTupD, iStrD, iEnumT, tName, tTup_t, tsCons_c, tsNil_n, any_t, onS_some, look0, look1, look2, look3, look4, look5, look6, look7, look8, look9, look10, look11, look12, look13, look14, look15, bYes, wipeE, List.set_cons_zero, List.set_cons_succ, List.length_cons, List.length_nil, List.append_nil, List.nil_append, List.cons_append, List.append_assoc, Nat.zero_add, Nat.reduceAdd, Nat.reduceSub, Nat.reduceEqDiff, Nat.reduceLT, Nat.reduceLeDiff, Int.reduceNeg, true_and, and_true, and_self, if_true, if_false, Bool.not_true, Bool.not_false, Bool.false_eq_true, reduceIte, reduceCtorEq, decide_true, decide_false, ltD_int, leD_int, gtD_int, geD_int, subD_int, addD_int, intOf_int, absD_int, eqD_int, eqD_str, neD_str, neD_int, isN_non, truD_bl, eqD_bl, neD_bl, Option.map_some, Option.bind_some, small_0, small_1, small_2, small_3, small_4, small_5, small_6, small_7, small_8, st_app, st_len, fin_st, fin_stT, fin_self, ite_self, hc, addD_str hsm]
        refine ih _ _ (n + 1) w2 kt (nm_snoc hs (by omega) ha) ?_ g2 (by omega) fun s o w' hs g' => hq s o w' hs (g'.mono (by simp only [List.length_cons]; omega))
        rw [snoc_len]
        omega
    refine go (List.range m.toNat) ⟨#[c]⟩ none (n + 1 + 1 + 1) w3 _ (nm_one (hl d1)) ?_ g3 (by rw [List.length_range]; omega) fun s o w' hs g' => ?_
    · rw [List.length_range]
      show 1 + m.toNat ≤ 8
      omega
    · subst hN_
      try simp -implicitDefEqProofs only [eVar, eC, eOp, eUn, aNil, aCons, eSeq, eCall, eFn, bBl, onB_bl, bTru, eNotT, bAnd, bOr, bNot, eAnd, eOr, eIf, bChain, iteB_t, iteB_f, sNil, sSeq, sRet, sDrop, sAsg, sIf, sBreak, sCont, sAsgG, sPar2, sPar3, sSetIx, sPairSet, sAppend, onL, onI_i, onT_s, onTu_t, onCe_c, on1_, on2_, on3_, onLst_l, onOb_o, onSeq_l, onSeq_r, onSeq_c, lkD_s, lkD_n, lkO_s, lkO_n, finO, sFldD, setFD, eProp, isOb_obj, eMake, eMakeK, eMakeL, eLc, eNew, eSl, oNone, oSome, eOpM, eCallM, eCm, eCmK, eOpT, jNil, jCons, eJoin, aStar, sCalm, sFor, iRange1, iSeq, iTupD, iStrD, iEnumT, tName, tTup_t, tsCons_c, tsNil_n, any_t, onS_some, look0, look1, look2, look3, look4, look5, look6, look7, look8, look9, look10, look11, look12, look13, look14, look15, bYes, wipeE, List.set_cons_zero, List.set_cons_succ, List.length_cons, List.length_nil, List.append_nil, List.nil_append, List.cons_append, List.append_assoc, Nat.zero_add, Nat.reduceAdd, Nat.reduceSub, Nat.reduceEqDiff, Nat.reduceLT, Nat.reduceLeDiff, Int.reduceNeg, true_and, and_true, and_self, if_true, if_false, Bool.not_true, Bool.not_false, Bool.false_eq_true, reduceIte, reduceCtorEq, decide_true, decide_false, ltD_int, leD_int, gtD_int, geD_int, subD_int, addD_int, intOf_int, absD_int, eqD_int, eqD_str, neD_str, neD_int, isN_non, truD_bl, eqD_bl, neD_bl, Option.map_some, Option.bind_some, small_0, small_1, small_2, small_3, small_4, small_5, small_6, small_7, small_8, st_app, st_len, fin_st, fin_stT, fin_self, ite_self]
      exact h s w' hs (g'.mono (by rw [List.length_range]; omega))
end
end RV
end
section
/-! A drawn name that is none of some. -/
namespace RV
open PySem L2
theorem slD_str {S : WS} {z : Str} {a b : Option Int} (h : small z.length = true) : slD S (.str z) a b = some (.str (cutS z a b)) := by simp only [slD, h, if_true]
theorem ixD_lst0 {S : WS} {a : D} {l : List D} : ixD S (.lst (a :: l)) (.int 0) = some a := by simp only [ixD, atI_cons]
section
variable {A : Ad} {S T : WS} {k : Nat} {n m : Int} {w : W} {q : D → WS → Prop} {x : Xq}
theorem fresh_tail {c r o : Option D} {tk : D} {t : Str} {ts : List Str} {kt : Kt} (tko : TkOk S tk ts) (ht : Nm t) (hl : ts.length < 36) (h : ∀ s, Nm s → s ∉ ts → kt.rt (.str s) S) :
    (sSeq (sIf (bBl (eOp (inD true) (eVar 3) (eVar 1))) (sRet (eVar 3)) (sNil)) (sSeq (sAsg 5 (eLc .still (iStrD (eC (.str "abcdefghijklmnopqrstuvwxyz0123456789"))) (tName 6) (bYes) (eOp addD (eSl slD (eVar 3) (oNone) (oSome (eC (.int 7)))) (eVar 6)) [6])) (sRet (eOp ixD (eLc .still (iSeq (eVar 5)) (tName 7) (bBl (eOp (inD true) (eVar 7) (eVar 1))) (eVar 7) [7]) (eC (.int 0)))))) [c, some tk, r, some (.str t), o, none, none, none] S kt := by
  have no : ∀ u, inD true S (.str u) tk = some (.bl (decide (u ∉ ts))) := fun u => by rw [in_strs tko.items]; rfl
  refine seq_gen fun N_ hN_ => ?_
  try simp -implicitDefEqProofs only [eVar, eC, eOp, eUn, aNil, aCons, eSeq, eCall, eFn, bBl, onB_bl, bTru, eNotT, bAnd, bOr, bNot, eAnd, eOr, eIf, bChain, iteB_t, iteB_f, sNil, sSeq, sRet, sDrop, sAsg, sIf, sBreak, sCont, sAsgG, sPar2, sPar3, sSetIx, sPairSet, sAppend, onL, onI_i, onT_s, onTu_t, onCe_c, on1_, on2_, on3_, onLst_l, onOb_o, onSeq_l, onSeq_r, onSeq_c, lkD_s, lkD_n, lkO_s, lkO_n, finO, sFldD, setFD, eProp, isOb_obj, eMake, eMakeK, eMakeL, eLc, eNew, eSl, oNone, oSome, eOpM, eCallM, eCm, eCmK, eOpT, jNil, jCons, eJoin, aStar, sCalm, sFor, iRange1, iSeq, iTupD, iStrD, iEnumT, tName, tTup_t, tsCons_c, tsNil_n, any_t, onS_some, look0, look1, look2, look3, look4, look5, look6, look7, look8, look9, look10, look11, look12, look13, look14, look15, bYes, wipeE, List.set_cons_zero, List.set_cons_succ, List.length_cons, List.length_nil, List.append_nil, List.nil_append, List.cons_append, List.append_assoc, Nat.zero_add, Nat.reduceAdd, Nat.reduceSub, Nat.reduceEqDiff, Nat.reduceLT, Nat.reduceLeDiff, Int.reduceNeg, true_and, and_true, and_self, if_true, if_false, Bool.not_true, Bool.not_false, Bool.false_eq_true, reduceIte, reduceCtorEq, decide_true, decide_false, ltD_int, leD_int, gtD_int, geD_int, subD_int, addD_int, intOf_int, absD_int, eqD_int, eqD_str, neD_str, neD_int, isN_non, truD_bl, eqD_bl, neD_bl, Option.map_some, Option.bind_some, small_0, small_1, small_2, small_3, small_4, small_5, small_6, small_7, small_8, st_app, st_len, fin_st, fin_stT, fin_self, ite_self, no]
  refine iteB_dec (fun hin => ?_) (fun hin => ?_)
  · exact h t ht hin
  · subst hN_
    obtain ⟨z, l, hz, hn, e⟩ := alt_first ht hl
    have sg : ("abcdefghijklmnopqrstuvwxyz0123456789" : Str).cps.toList = signs.cps.toList := rfl
    have h36 : small (signs.cps.toList.map fun c => D.str ⟨#[c]⟩).length = true := by decide +kernel
    have hst : small t.length = true := nm_small ht
    refine seq_gen fun N_ hN_ => ?_
    try simp -implicitDefEqProofs only [eVar, eC, eOp, eUn, aNil, aCons, eSeq, eCall, eFn, bBl, onB_bl, bTru, eNotT, bAnd, bOr, bNot, eAnd, eOr, eIf, bChain, iteB_t, iteB_f, sNil, sSeq, sRet, sDrop, sAsg, sIf, sBreak, sCont, sAsgG, sPar2, sPar3, sSetIx, sPairSet, sAppend, onL, onI_i, onT_s, onTu_t, onCe_c, on1_, on2_, on3_, onLst_l, onOb_o, onSeq_l, onSeq_r, onSeq_c, lkD_s, lkD_n, lkO_s, lkO_n, finO, sFldD, setFD, eProp, isOb_obj, eMake, eMakeK, eMakeL, eLc, eNew, eSl, oNone, oSome, eOpM, eCallM, eCm, eCmK, eOpT, jNil, jCons, eJoin, aStar, sCalm, sFor, iRange1, iSeq, iTupD, iStrD, iEnumT, tName, tTup_t, tsCons_c, tsNil_n, any_t, onS_some, look0, look1, look2, look3, look4, look5, look6, look7, look8, look9, look10, look11, look12, look13, look14, look15, bYes, wipeE, List.set_cons_zero, List.set_cons_succ, List.length_cons, List.length_nil, List.append_nil, List.nil_append, List.cons_append, List.append_assoc, Nat.zero_add, Nat.reduceAdd, Nat.reduceSub, Nat.reduceEqDiff, Nat.reduceLT, Nat.reduceLeDiff, Int.reduceNeg, true_and, and_true, and_self, if_true, if_false, Bool.not_true, Bool.not_false, Bool.false_eq_true, reduceIte, reduceCtorEq, decide_true, decide_false, ltD_int, leD_int, gtD_int, geD_int, subD_int, addD_int, intOf_int, absD_int, eqD_int, eqD_str, neD_str, neD_int, isN_non, truD_bl, eqD_bl, neD_bl, Option.map_some, Option.bind_some, small_0, small_1, small_2, small_3, small_4, small_5, small_6, small_7, small_8, st_app, st_len, fin_st, fin_stT, fin_self, ite_self, sg, h36]
    refine lc_map (g := fun c => D.str (alt t c)) _ trivial (fun c hc => ⟨_, rfl, fun q x => ?_⟩) ?_
    · have hsm : small ((cutS t none (some 7)).length + Str.length ⟨#[c]⟩) = true := small_of (by
        rw [one_len]
        have h7 : (cutS t none (some (7 : Int))).length ≤ 7 := by
          rw [len_cps, show cutS t none (some (7 : Int)) = cutS t none (some ((7 : Nat) : Int)) from rfl, cut_to, List.length_take]
          omega
        omega)
      try simp -implicitDefEqProofs only [eVar, eC, eOp, eUn, aNil, aCons, eSeq, eCall, eFn, bBl, onB_bl, bTru, eNotT, bAnd, bOr, bNot, eAnd, eOr, eIf, bChain, iteB_t, iteB_f, sNil, sSeq, sRet, sDrop, sAsg, sIf, sBreak, sCont, sAsgG, sPar2, sPar3, sSetIx, sPairSet, sAppend, onL, onI_i, onT_s, onTu_t, onCe_c, on1_, on2_, on3_, onLst_l, onOb_o, onSeq_l, onSeq_r, onSeq_c, lkD_s, lkD_n, lkO_s, lkO_n, finO, sFldD, setFD, eProp, isOb_obj, eMake, eMakeK, eMakeL, eLc, eNew, eSl, oNone, oSome, eOpM, eCallM, eCm, eCmK, eOpT, jNil, jCons, eJoin, aStar, sCalm, sFor, iRange1, iSeq, iTupD, iStrD, iEnumT, tName, tTup_t, tsCons_c, tsNil_n, any_t, onS_some, look0, look1, look2, look3, look4, look5, look6, look7, look8, look9, look10, look11, look12, look13, look14, look15, bYes, wipeE, List.set_cons_zero, List.set_cons_succ, List.length_cons, List.length_nil, List.append_nil, List.nil_append, List.cons_append, List.append_assoc, Nat.zero_add, Nat.reduceAdd, Nat.reduceSub, Nat.reduceEqDiff, Nat.reduceLT, Nat.reduceLeDiff, Int.reduceNeg, true_and, and_true, and_self, if_true, if_false, Bool.not_true, Bool.not_false, Bool.false_eq_true, reduceIte, reduceCtorEq, decide_true, decide_false, ltD_int, leD_int, gtD_int, geD_int, subD_int, addD_int, intOf_int, absD_int, eqD_int, eqD_str, neD_str, neD_int, isN_non, truD_bl, eqD_bl, neD_bl, Option.map_some, Option.bind_some, small_0, small_1, small_2, small_3, small_4, small_5, small_6, small_7, small_8, st_app, st_len, fin_st, fin_stT, fin_self, ite_self, slD_str hst, addD_str hsm]
      rfl
    · subst hN_
      have e2 : (signs.cps.toList.map fun c => D.str (alt t c)) = (signs.cps.toList.map (alt t)).map D.str := by simp
      have hl2 : small ((signs.cps.toList.map (alt t)).map D.str).length = true := by
        rw [List.length_map, List.length_map]
        decide +kernel
      rw [e2]
      try simp -implicitDefEqProofs only [eVar, eC, eOp, eUn, aNil, aCons, eSeq, eCall, eFn, bBl, onB_bl, bTru, eNotT, bAnd, bOr, bNot, eAnd, eOr, eIf, bChain, iteB_t, iteB_f, sNil, sSeq, sRet, sDrop, sAsg, sIf, sBreak, sCont, sAsgG, sPar2, sPar3, sSetIx, sPairSet, sAppend, onL, onI_i, onT_s, onTu_t, onCe_c, on1_, on2_, on3_, onLst_l, onOb_o, onSeq_l, onSeq_r, onSeq_c, lkD_s, lkD_n, lkO_s, lkO_n, finO, sFldD, setFD, eProp, isOb_obj, eMake, eMakeK, eMakeL, eLc, eNew, eSl, oNone, oSome, eOpM, eCallM, eCm, eCmK, eOpT, jNil, jCons, eJoin, aStar, sCalm, sFor, iRange1, iSeq, iTupD, iStrD, iEnumT, tName, tTup_t, tsCons_c, tsNil_n, any_t, onS_some, look0, look1, look2, look3, look4, look5, look6, look7, look8, look9, look10, look11, look12, look13, look14, look15, bYes, wipeE, List.set_cons_zero, List.set_cons_succ, List.length_cons, List.length_nil, List.append_nil, List.nil_append, List.cons_append, List.append_assoc, Nat.zero_add, Nat.reduceAdd, Nat.reduceSub, Nat.reduceEqDiff, Nat.reduceLT, Nat.reduceLeDiff, Int.reduceNeg, true_and, and_true, and_self, if_true, if_false, Bool.not_true, Bool.not_false, Bool.false_eq_true, reduceIte, reduceCtorEq, decide_true, decide_false, ltD_int, leD_int, gtD_int, geD_int, subD_int, addD_int, intOf_int, absD_int, eqD_int, eqD_str, neD_str, neD_int, isN_non, truD_bl, eqD_bl, neD_bl, Option.map_some, Option.bind_some, small_0, small_1, small_2, small_3, small_4, small_5, small_6, small_7, small_8, st_app, st_len, fin_st, fin_stT, fin_self, ite_self, hl2]
      refine lc_pure (p := fun z => decide (z ∉ ts)) (g := D.str) _ [] trivial (fun z hz => ⟨_, rfl, fun q x => ?_, fun _ q x => ?_⟩) ?_
      · try simp -implicitDefEqProofs only [eVar, eC, eOp, eUn, aNil, aCons, eSeq, eCall, eFn, bBl, onB_bl, bTru, eNotT, bAnd, bOr, bNot, eAnd, eOr, eIf, bChain, iteB_t, iteB_f, sNil, sSeq, sRet, sDrop, sAsg, sIf, sBreak, sCont, sAsgG, sPar2, sPar3, sSetIx, sPairSet, sAppend, onL, onI_i, onT_s, onTu_t, onCe_c, on1_, on2_, on3_, onLst_l, onOb_o, onSeq_l, onSeq_r, onSeq_c, lkD_s, lkD_n, lkO_s, lkO_n, finO, sFldD, setFD, eProp, isOb_obj, eMake, eMakeK, eMakeL, eLc, eNew, eSl, oNone, oSome, eOpM, eCallM, eCm, eCmK, eOpT, jNil, jCons, eJoin, aStar, sCalm, sFor, iRange1, iSeq, iTupD, iStrD, iEnumT, tName, tTup_t, tsCons_c, tsNil_n, any_t, onS_some, look0, look1, look2, look3, look4, look5, look6, look7, look8, look9, look10, look11, look12, look13, look14, look15, bYes, wipeE, List.set_cons_zero, List.set_cons_succ, List.length_cons, List.length_nil, List.append_nil, List.nil_append, List.cons_append, List.append_assoc, Nat.zero_add, Nat.reduceAdd, Nat.reduceSub, Nat.reduceEqDiff, Nat.reduceLT, Nat.reduceLeDiff, Int.reduceNeg, true_and, and_true, and_self, if_true, if_false, Bool.not_true, Bool.not_false, Bool.false_eq_true, reduceIte, reduceCtorEq, decide_true, decide_false, ltD_int, leD_int, gtD_int, geD_int, subD_int, addD_int, intOf_int, absD_int, eqD_int, eqD_str, neD_str, neD_int, isN_non, truD_bl, eqD_bl, neD_bl, Option.map_some, Option.bind_some, small_0, small_1, small_2, small_3, small_4, small_5, small_6, small_7, small_8, st_app, st_len, fin_st, fin_stT, fin_self, ite_self, no]
      · try simp -implicitDefEqProofs only [eVar, eC, eOp, eUn, aNil, aCons, eSeq, eCall, eFn, bBl, onB_bl, bTru, eNotT, bAnd, bOr, bNot, eAnd, eOr, eIf, bChain, iteB_t, iteB_f, sNil, sSeq, sRet, sDrop, sAsg, sIf, sBreak, sCont, sAsgG, sPar2, sPar3, sSetIx, sPairSet, sAppend, onL, onI_i, onT_s, onTu_t, onCe_c, on1_, on2_, on3_, onLst_l, onOb_o, onSeq_l, onSeq_r, onSeq_c, lkD_s, lkD_n, lkO_s, lkO_n, finO, sFldD, setFD, eProp, isOb_obj, eMake, eMakeK, eMakeL, eLc, eNew, eSl, oNone, oSome, eOpM, eCallM, eCm, eCmK, eOpT, jNil, jCons, eJoin, aStar, sCalm, sFor, iRange1, iSeq, iTupD, iStrD, iEnumT, tName, tTup_t, tsCons_c, tsNil_n, any_t, onS_some, look0, look1, look2, look3, look4, look5, look6, look7, look8, look9, look10, look11, look12, look13, look14, look15, bYes, wipeE, List.set_cons_zero, List.set_cons_succ, List.length_cons, List.length_nil, List.append_nil, List.nil_append, List.cons_append, List.append_assoc, Nat.zero_add, Nat.reduceAdd, Nat.reduceSub, Nat.reduceEqDiff, Nat.reduceLT, Nat.reduceLeDiff, Int.reduceNeg, true_and, and_true, and_self, if_true, if_false, Bool.not_true, Bool.not_false, Bool.false_eq_true, reduceIte, reduceCtorEq, decide_true, decide_false, ltD_int, leD_int, gtD_int, geD_int, subD_int, addD_int, intOf_int, absD_int, eqD_int, eqD_str, neD_str, neD_int, isN_non, truD_bl, eqD_bl, neD_bl, Option.map_some, Option.bind_some, small_0, small_1, small_2, small_3, small_4, small_5, small_6, small_7, small_8, st_app, st_len, fin_st, fin_stT, fin_self, ite_self]
      · rw [e]
        try simp -implicitDefEqProofs only [eVar, eC, eOp, eUn, aNil, aCons, eSeq, eCall, eFn, bBl, onB_bl, bTru, eNotT, bAnd, bOr, bNot, eAnd, eOr, eIf, bChain, iteB_t, iteB_f, sNil, sSeq, sRet, sDrop, sAsg, sIf, sBreak, sCont, sAsgG, sPar2, sPar3, sSetIx, sPairSet, sAppend, onL, onI_i, onT_s, onTu_t, onCe_c, on1_, on2_, on3_, onLst_l, onOb_o, onSeq_l, onSeq_r, onSeq_c, lkD_s, lkD_n, lkO_s, lkO_n, finO, sFldD, setFD, eProp, isOb_obj, eMake, eMakeK, eMakeL, eLc, eNew, eSl, oNone, oSome, eOpM, eCallM, eCm, eCmK, eOpT, jNil, jCons, eJoin, aStar, sCalm, sFor, iRange1, iSeq, iTupD, iStrD, iEnumT, tName, tTup_t, tsCons_c, tsNil_n, any_t, onS_some, look0, look1, look2, look3, look4, look5, look6, look7, look8, look9, look10, look11, look12, look13, look14, look15, bYes, wipeE, List.set_cons_zero, List.set_cons_succ, List.length_cons, List.length_nil, List.append_nil, List.nil_append, List.cons_append, List.append_assoc, Nat.zero_add, Nat.reduceAdd, Nat.reduceSub, Nat.reduceEqDiff, Nat.reduceLT, Nat.reduceLeDiff, Int.reduceNeg, true_and, and_true, and_self, if_true, if_false, Bool.not_true, Bool.not_false, Bool.false_eq_true, reduceIte, reduceCtorEq, decide_true, decide_false, ltD_int, leD_int, gtD_int, geD_int, subD_int, addD_int, intOf_int, absD_int, eqD_int, eqD_str, neD_str, neD_int, isN_non, truD_bl, eqD_bl, neD_bl, Option.map_some, Option.bind_some, small_0, small_1, small_2, small_3, small_4, small_5, small_6, small_7, small_8, st_app, st_len, fin_st, fin_stT, fin_self, ite_self, List.map_cons, ixD_lst0]
        exact h _ (nm_alt ht hz) hn
theorem fresh_ok {tk : D} {ts : List Str} (hk : k < S.length) (g : Good n w) (hn : n < 10000000000000000) (tko : ∀ w, TkOk (st S k w T) tk ts) (hts : ∀ t ∈ ts, Nm t) (hl : ts.length < 36) (h : ∀ s w', Nm s → s ∉ ts → Good (n + 13) w' → q (.str s) (st S k w' T)) :
    G_fresh_k09 A [.cell k, tk] (st S k w T) q x := by
  rw [D_fresh_k09]
  unfold fnD startE
  simp only [List.map_cons, List.map_nil, List.length_cons, List.length_nil, Nat.reduceAdd, Nat.reduceSub, List.replicate, List.cons_append, List.nil_append, List.append_nil, Nat.zero_add]
  unfold B_fresh_k09
  refine seq_gen fun N_ hN_ => ?_
  try simp -implicitDefEqProofs only [eVar, eC, eOp, eUn, aNil, aCons, eSeq, eCall, eFn, bBl, onB_bl, bTru, eNotT, bAnd, bOr, bNot, eAnd, eOr, eIf, bChain, iteB_t, iteB_f, sNil, sSeq, sRet, sDrop, sAsg, sIf, sBreak, sCont, sAsgG, sPar2, sPar3, sSetIx, sPairSet, sAppend, onL, onI_i, onT_s, onTu_t, onCe_c, on1_, on2_, on3_, onLst_l, onOb_o, onSeq_l, onSeq_r, onSeq_c, lkD_s, lkD_n, lkO_s, lkO_n, finO, sFldD, setFD, eProp, isOb_obj, eMake, eMakeK, eMakeL, eLc, eNew, eSl, oNone, oSome, eOpM, eCallM, eCm, eCmK, eOpT, jNil, jCons, eJoin, aStar, sCalm, sFor, iRange1, iSeq, iTupD, iStrD, iEnumT, tName, tTup_t, tsCons_c, tsNil_n, any_t, onS_some, look0, look1, look2, look3, look4, look5, look6, look7, look8, look9, look10, look11, look12, look13, look14, look15, bYes, wipeE, List.set_cons_zero, List.set_cons_succ, List.length_cons, List.length_nil, List.append_nil, List.nil_append, List.cons_append, List.append_assoc, Nat.zero_add, Nat.reduceAdd, Nat.reduceSub, Nat.reduceEqDiff, Nat.reduceLT, Nat.reduceLeDiff, Int.reduceNeg, true_and, and_true, and_self, if_true, if_false, Bool.not_true, Bool.not_false, Bool.false_eq_true, reduceIte, reduceCtorEq, decide_true, decide_false, ltD_int, leD_int, gtD_int, geD_int, subD_int, addD_int, intOf_int, absD_int, eqD_int, eqD_str, neD_str, neD_int, isN_non, truD_bl, eqD_bl, neD_bl, Option.map_some, Option.bind_some, small_0, small_1, small_2, small_3, small_4, small_5, small_6, small_7, small_8, st_app, st_len, fin_st, fin_stT, fin_self, ite_self]
  refine dip_ok hk g (by omega) (by omega) (by omega) fun r w1 r0 r1 g1 => ?_
  try simp -implicitDefEqProofs only [eVar, eC, eOp, eUn, aNil, aCons, eSeq, eCall, eFn, bBl, onB_bl, bTru, eNotT, bAnd, bOr, bNot, eAnd, eOr, eIf, bChain, iteB_t, iteB_f, sNil, sSeq, sRet, sDrop, sAsg, sIf, sBreak, sCont, sAsgG, sPar2, sPar3, sSetIx, sPairSet, sAppend, onL, onI_i, onT_s, onTu_t, onCe_c, on1_, on2_, on3_, onLst_l, onOb_o, onSeq_l, onSeq_r, onSeq_c, lkD_s, lkD_n, lkO_s, lkO_n, finO, sFldD, setFD, eProp, isOb_obj, eMake, eMakeK, eMakeL, eLc, eNew, eSl, oNone, oSome, eOpM, eCallM, eCm, eCmK, eOpT, jNil, jCons, eJoin, aStar, sCalm, sFor, iRange1, iSeq, iTupD, iStrD, iEnumT, tName, tTup_t, tsCons_c, tsNil_n, any_t, onS_some, look0, look1, look2, look3, look4, look5, look6, look7, look8, look9, look10, look11, look12, look13, look14, look15, bYes, wipeE, List.set_cons_zero, List.set_cons_succ, List.length_cons, List.length_nil, List.append_nil, List.nil_append, List.cons_append, List.append_assoc, Nat.zero_add, Nat.reduceAdd, Nat.reduceSub, Nat.reduceEqDiff, Nat.reduceLT, Nat.reduceLeDiff, Int.reduceNeg, true_and, and_true, and_self, if_true, if_false, Bool.not_true, Bool.not_false, Bool.false_eq_true, reduceIte, reduceCtorEq, decide_true, decide_false, ltD_int, leD_int, gtD_int, geD_int, subD_int, addD_int, intOf_int, absD_int, eqD_int, eqD_str, neD_str, neD_int, isN_non, truD_bl, eqD_bl, neD_bl, Option.map_some, Option.bind_some, small_0, small_1, small_2, small_3, small_4, small_5, small_6, small_7, small_8, st_app, st_len, fin_st, fin_stT, fin_self, ite_self]
  refine name_ok hk g1 (by omega) fun t w2 ht g2 => ?_
  try simp -implicitDefEqProofs only [eVar, eC, eOp, eUn, aNil, aCons, eSeq, eCall, eFn, bBl, onB_bl, bTru, eNotT, bAnd, bOr, bNot, eAnd, eOr, eIf, bChain, iteB_t, iteB_f, sNil, sSeq, sRet, sDrop, sAsg, sIf, sBreak, sCont, sAsgG, sPar2, sPar3, sSetIx, sPairSet, sAppend, onL, onI_i, onT_s, onTu_t, onCe_c, on1_, on2_, on3_, onLst_l, onOb_o, onSeq_l, onSeq_r, onSeq_c, lkD_s, lkD_n, lkO_s, lkO_n, finO, sFldD, setFD, eProp, isOb_obj, eMake, eMakeK, eMakeL, eLc, eNew, eSl, oNone, oSome, eOpM, eCallM, eCm, eCmK, eOpT, jNil, jCons, eJoin, aStar, sCalm, sFor, iRange1, iSeq, iTupD, iStrD, iEnumT, tName, tTup_t, tsCons_c, tsNil_n, any_t, onS_some, look0, look1, look2, look3, look4, look5, look6, look7, look8, look9, look10, look11, look12, look13, look14, look15, bYes, wipeE, List.set_cons_zero, List.set_cons_succ, List.length_cons, List.length_nil, List.append_nil, List.nil_append, List.cons_append, List.append_assoc, Nat.zero_add, Nat.reduceAdd, Nat.reduceSub, Nat.reduceEqDiff, Nat.reduceLT, Nat.reduceLeDiff, Int.reduceNeg, true_and, and_true, and_self, if_true, if_false, Bool.not_true, Bool.not_false, Bool.false_eq_true, reduceIte, reduceCtorEq, decide_true, decide_false, ltD_int, leD_int, gtD_int, geD_int, subD_int, addD_int, intOf_int, absD_int, eqD_int, eqD_str, neD_str, neD_int, isN_non, truD_bl, eqD_bl, neD_bl, Option.map_some, Option.bind_some, small_0, small_1, small_2, small_3, small_4, small_5, small_6, small_7, small_8, st_app, st_len, fin_st, fin_stT, fin_self, ite_self]
  subst hN_
  refine seq_gen fun N_ hN_ => ?_
  try simp -implicitDefEqProofs only [eVar, eC, eOp, eUn, aNil, aCons, eSeq, eCall, eFn, bBl, onB_bl, bTru, eNotT, bAnd, bOr, bNot, eAnd, eOr, eIf, bChain, iteB_t, iteB_f, sNil, sSeq, sRet, sDrop, sAsg, sIf, sBreak, sCont, sAsgG, sPar2, sPar3, sSetIx, sPairSet, sAppend, onL, onI_i, onT_s, onTu_t, onCe_c, on1_, on2_, on3_, onLst_l, onOb_o, onSeq_l, onSeq_r, onSeq_c, lkD_s, lkD_n, lkO_s, lkO_n, finO, sFldD, setFD, eProp, isOb_obj, eMake, eMakeK, eMakeL, eLc, eNew, eSl, oNone, oSome, eOpM, eCallM, eCm, eCmK, eOpT, jNil, jCons, eJoin, aStar, sCalm, sFor, iRange1, iSeq, iTupD, iStrD, iEnumT, tName, tTup_t, tsCons_c, tsNil_n, any_t, onS_some, look0, look1, look2, look3, look4, look5, look6, look7, look8, look9, look10, look11, look12, look13, look14, look15, bYes, wipeE, List.set_cons_zero, List.set_cons_succ, List.length_cons, List.length_nil, List.append_nil, List.nil_append, List.cons_append, List.append_assoc, Nat.zero_add, Nat.reduceAdd, Nat.reduceSub, Nat.reduceEqDiff, Nat.reduceLT, Nat.reduceLeDiff, Int.reduceNeg, true_and, and_true, and_self, if_true, if_false, Bool.not_true, Bool.not_false, Bool.false_eq_true, reduceIte, reduceCtorEq, decide_true, decide_false, ltD_int, leD_int, gtD_int, geD_int, subD_int, addD_int, intOf_int, absD_int, eqD_int, eqD_str, neD_str, neD_int, isN_non, truD_bl, eqD_bl, neD_bl, Option.map_some, Option.bind_some, small_0, small_1, small_2, small_3, small_4, small_5, small_6, small_7, small_8, st_app, st_len, fin_st, fin_stT, fin_self, ite_self, (tko w2).ne hts, (tko w2).len]
  have fin_ : ∀ (o : Option D) (w' : W) (t : Str), Nm t → Good (n + 13) w' → N_ [some (.cell k), some tk, some (.int r), some (.str t), o, none, none, none] (st S k w' T) := fun o w' t ht g' => by
    subst hN_
    refine fresh_tail (tko w') ht hl fun s hs hn => ?_
    try simp -implicitDefEqProofs only [eVar, eC, eOp, eUn, aNil, aCons, eSeq, eCall, eFn, bBl, onB_bl, bTru, eNotT, bAnd, bOr, bNot, eAnd, eOr, eIf, bChain, iteB_t, iteB_f, sNil, sSeq, sRet, sDrop, sAsg, sIf, sBreak, sCont, sAsgG, sPar2, sPar3, sSetIx, sPairSet, sAppend, onL, onI_i, onT_s, onTu_t, onCe_c, on1_, on2_, on3_, onLst_l, onOb_o, onSeq_l, onSeq_r, onSeq_c, lkD_s, lkD_n, lkO_s, lkO_n, finO, sFldD, setFD, eProp, isOb_obj, eMake, eMakeK, eMakeL, eLc, eNew, eSl, oNone, oSome, eOpM, eCallM, eCm, eCmK, eOpT, jNil, jCons, eJoin, aStar, sCalm, sFor, iRange1, iSeq, iTupD, iStrD, iEnumT, tName, tTup_t, tsCons_c, tsNil_n, any_t, onS_some, look0, look1, look2, look3, look4, look5, look6, look7, look8, look9, look10, look11, look12, look13, look14, look15, bYes, wipeE, List.set_cons_zero, List.set_cons_succ, List.length_cons, List.length_nil, List.append_nil, List.nil_append, List.cons_append, List.append_assoc, Nat.zero_add, Nat.reduceAdd, Nat.reduceSub, Nat.reduceEqDiff, Nat.reduceLT, Nat.reduceLeDiff, Int.reduceNeg, true_and, and_true, and_self, if_true, if_false, Bool.not_true, Bool.not_false, Bool.false_eq_true, reduceIte, reduceCtorEq, decide_true, decide_false, ltD_int, leD_int, gtD_int, geD_int, subD_int, addD_int, intOf_int, absD_int, eqD_int, eqD_str, neD_str, neD_int, isN_non, truD_bl, eqD_bl, neD_bl, Option.map_some, Option.bind_some, small_0, small_1, small_2, small_3, small_4, small_5, small_6, small_7, small_8, st_app, st_len, fin_st, fin_stT, fin_self, ite_self]
    exact h s w' hs hn g'
  cases he : ts.isEmpty with
  | true =>
    try simp -implicitDefEqProofs only [eVar, eC, eOp, eUn, aNil, aCons, eSeq, eCall, eFn, bBl, onB_bl, bTru, eNotT, bAnd, bOr, bNot, eAnd, eOr, eIf, bChain, iteB_t, iteB_f, sNil, sSeq, sRet, sDrop, sAsg, sIf, sBreak, sCont, sAsgG, sPar2, sPar3, sSetIx, sPairSet, sAppend, onL, onI_i, onT_s, onTu_t, onCe_c, on1_, on2_, on3_, onLst_l, onOb_o, onSeq_l, onSeq_r, onSeq_c, lkD_s, lkD_n, lkO_s, lkO_n, finO, sFldD, setFD, eProp, isOb_obj, eMake, eMakeK, eMakeL, eLc, eNew, eSl, oNone, oSome, eOpM, eCallM, eCm, eCmK, eOpT, jNil, jCons, eJoin, aStar, sCalm, sFor, iRange1, iSeq, iTupD, iStrD, iEnumT, tName, tTup_t, tsCons_c, tsNil_n, any_t, onS_some, look0, look1, look2, look3, look4, look5, look6, look7, look8, look9, look10, look11, look12, look13, look14, look15, bYes, wipeE, List.set_cons_zero, List.set_cons_succ, List.length_cons, List.length_nil, List.append_nil, List.nil_append, List.cons_append, List.append_assoc, Nat.zero_add, Nat.reduceAdd, Nat.reduceSub, Nat.reduceEqDiff, Nat.reduceLT, Nat.reduceLeDiff, Int.reduceNeg, true_and, and_true, and_self, if_true, if_false, Bool.not_true, Bool.not_false, Bool.false_eq_true, reduceIte, reduceCtorEq, decide_true, decide_false, ltD_int, leD_int, gtD_int, geD_int, subD_int, addD_int, intOf_int, absD_int, eqD_int, eqD_str, neD_str, neD_int, isN_non, truD_bl, eqD_bl, neD_bl, Option.map_some, Option.bind_some, small_0, small_1, small_2, small_3, small_4, small_5, small_6, small_7, small_8, st_app, st_len, fin_st, fin_stT, fin_self, ite_self]
    exact fin_ _ _ _ ht (g2.mono (by omega))
  | false =>
    have hpos : 0 < ts.length := by
      cases ts with
      | nil => cases he
      | cons => simp
    try simp -implicitDefEqProofs only [eVar, eC, eOp, eUn, aNil, aCons, eSeq, eCall, eFn, bBl, onB_bl, bTru, eNotT, bAnd, bOr, bNot, eAnd, eOr, eIf, bChain, iteB_t, iteB_f, sNil, sSeq, sRet, sDrop, sAsg, sIf, sBreak, sCont, sAsgG, sPar2, sPar3, sSetIx, sPairSet, sAppend, onL, onI_i, onT_s, onTu_t, onCe_c, on1_, on2_, on3_, onLst_l, onOb_o, onSeq_l, onSeq_r, onSeq_c, lkD_s, lkD_n, lkO_s, lkO_n, finO, sFldD, setFD, eProp, isOb_obj, eMake, eMakeK, eMakeL, eLc, eNew, eSl, oNone, oSome, eOpM, eCallM, eCm, eCmK, eOpT, jNil, jCons, eJoin, aStar, sCalm, sFor, iRange1, iSeq, iTupD, iStrD, iEnumT, tName, tTup_t, tsCons_c, tsNil_n, any_t, onS_some, look0, look1, look2, look3, look4, look5, look6, look7, look8, look9, look10, look11, look12, look13, look14, look15, bYes, wipeE, List.set_cons_zero, List.set_cons_succ, List.length_cons, List.length_nil, List.append_nil, List.nil_append, List.cons_append, List.append_assoc, Nat.zero_add, Nat.reduceAdd, Nat.reduceSub, Nat.reduceEqDiff, Nat.reduceLT, Nat.reduceLeDiff, Int.reduceNeg, true_and, and_true, and_self, if_true, if_false, Bool.not_true, Bool.not_false, Bool.false_eq_true, reduceIte, reduceCtorEq, decide_true, decide_false, ltD_int, leD_int, gtD_int, geD_int, subD_int, addD_int, intOf_int, absD_int, eqD_int, eqD_str, neD_str, neD_int, isN_non, truD_bl, eqD_bl, neD_bl, Option.map_some, Option.bind_some, small_0, small_1, small_2, small_3, small_4, small_5, small_6, small_7, small_8, st_app, st_len, fin_st, fin_stT, fin_self, ite_self]
    refine iteB_dec (fun hr => ?_) (fun hr => ?_)
    · refine dip_ok hk g2 (by omega) (by omega) (by omega) fun i w3 i0 i1 g3 => ?_
      obtain ⟨u, hu, mu⟩ := strs_at i0 i1
      have nu := hts u mu
      try simp -implicitDefEqProofs only [eVar, eC, eOp, eUn, aNil, aCons, eSeq, eCall, eFn, bBl, onB_bl, bTru, eNotT, bAnd, bOr, bNot, eAnd, eOr, eIf, bChain, iteB_t, iteB_f, sNil, sSeq, sRet, sDrop, sAsg, sIf, sBreak, sCont, sAsgG, sPar2, sPar3, sSetIx, sPairSet, sAppend, onL, onI_i, onT_s, onTu_t, onCe_c, on1_, on2_, on3_, onLst_l, onOb_o, onSeq_l, onSeq_r, onSeq_c, lkD_s, lkD_n, lkO_s, lkO_n, finO, sFldD, setFD, eProp, isOb_obj, eMake, eMakeK, eMakeL, eLc, eNew, eSl, oNone, oSome, eOpM, eCallM, eCm, eCmK, eOpT, jNil, jCons, eJoin, aStar, sCalm, sFor, iRange1, iSeq, iTupD, iStrD, iEnumT, tName, tTup_t, tsCons_c, tsNil_n, any_t, onS_some, look0, look1, look2, look3, look4, look5, look6, look7, look8, look9, look10, look11, look12, look13, look14, look15, bYes, wipeE, List.set_cons_zero, List.set_cons_succ, List.length_cons, List.length_nil, List.append_nil, List.nil_append, List.cons_append, List.append_assoc, Nat.zero_add, Nat.reduceAdd, Nat.reduceSub, Nat.reduceEqDiff, Nat.reduceLT, Nat.reduceLeDiff, Int.reduceNeg, true_and, and_true, and_self, if_true, if_false, Bool.not_true, Bool.not_false, Bool.false_eq_true, reduceIte, reduceCtorEq, decide_true, decide_false, ltD_int, leD_int, gtD_int, geD_int, subD_int, addD_int, intOf_int, absD_int, eqD_int, eqD_str, neD_str, neD_int, isN_non, truD_bl, eqD_bl, neD_bl, Option.map_some, Option.bind_some, small_0, small_1, small_2, small_3, small_4, small_5, small_6, small_7, small_8, st_app, st_len, fin_st, fin_stT, fin_self, ite_self, (tko w3).ix hu]
      refine iteB_dec (fun hr => ?_) (fun hr => ?_)
      · have hsm : small (u.length + t.length) = true := small_of (by have := (nm_len nu).2; have := (nm_len ht).2; omega)
        have hsm2 : small (u ++ t).length = true := by rw [cat_len]; exact hsm
        try simp -implicitDefEqProofs only [eVar, eC, eOp, eUn, aNil, aCons, eSeq, eCall, eFn, bBl, onB_bl, bTru, eNotT, bAnd, bOr, bNot, eAnd, eOr, eIf, bChain, iteB_t, iteB_f, sNil, sSeq, sRet, sDrop, sAsg, sIf, sBreak, sCont, sAsgG, sPar2, sPar3, sSetIx, sPairSet, sAppend, onL, onI_i, onT_s, onTu_t, onCe_c, on1_, on2_, on3_, onLst_l, onOb_o, onSeq_l, onSeq_r, onSeq_c, lkD_s, lkD_n, lkO_s, lkO_n, finO, sFldD, setFD, eProp, isOb_obj, eMake, eMakeK, eMakeL, eLc, eNew, eSl, oNone, oSome, eOpM, eCallM, eCm, eCmK, eOpT, jNil, jCons, eJoin, aStar, sCalm, sFor, iRange1, iSeq, iTupD, iStrD, iEnumT, tName, tTup_t, tsCons_c, tsNil_n, any_t, onS_some, look0, look1, look2, look3, look4, look5, look6, look7, look8, look9, look10, look11, look12, look13, look14, look15, bYes, wipeE, List.set_cons_zero, List.set_cons_succ, List.length_cons, List.length_nil, List.append_nil, List.nil_append, List.cons_append, List.append_assoc, Nat.zero_add, Nat.reduceAdd, Nat.reduceSub, Nat.reduceEqDiff, Nat.reduceLT, Nat.reduceLeDiff, Int.reduceNeg, true_and, and_true, and_self, if_true, if_false, Bool.not_true, Bool.not_false, Bool.false_eq_true, reduceIte, reduceCtorEq, decide_true, decide_false, ltD_int, leD_int, gtD_int, geD_int, subD_int, addD_int, intOf_int, absD_int, eqD_int, eqD_str, neD_str, neD_int, isN_non, truD_bl, eqD_bl, neD_bl, Option.map_some, Option.bind_some, small_0, small_1, small_2, small_3, small_4, small_5, small_6, small_7, small_8, st_app, st_len, fin_st, fin_stT, fin_self, ite_self, addD_str hsm, slD_str hsm2]
        exact fin_ _ _ _ (nm_cat8 nu ht) (g3.mono (by omega))
      · refine dip_ok hk g3 (by omega) (by omega) (by omega) fun j w4 j0 j1 g4 => ?_
        try simp -implicitDefEqProofs only [eVar, eC, eOp, eUn, aNil, aCons, eSeq, eCall, eFn, bBl, onB_bl, bTru, eNotT, bAnd, bOr, bNot, eAnd, eOr, eIf, bChain, iteB_t, iteB_f, sNil, sSeq, sRet, sDrop, sAsg, sIf, sBreak, sCont, sAsgG, sPar2, sPar3, sSetIx, sPairSet, sAppend, onL, onI_i, onT_s, onTu_t, onCe_c, on1_, on2_, on3_, onLst_l, onOb_o, onSeq_l, onSeq_r, onSeq_c, lkD_s, lkD_n, lkO_s, lkO_n, finO, sFldD, setFD, eProp, isOb_obj, eMake, eMakeK, eMakeL, eLc, eNew, eSl, oNone, oSome, eOpM, eCallM, eCm, eCmK, eOpT, jNil, jCons, eJoin, aStar, sCalm, sFor, iRange1, iSeq, iTupD, iStrD, iEnumT, tName, tTup_t, tsCons_c, tsNil_n, any_t, onS_some, look0, look1, look2, look3, look4, look5, look6, look7, look8, look9, look10, look11, look12, look13, look14, look15, bYes, wipeE, List.set_cons_zero, List.set_cons_succ, List.length_cons, List.length_nil, List.append_nil, List.nil_append, List.cons_append, List.append_assoc, Nat.zero_add, Nat.reduceAdd, Nat.reduceSub, Nat.reduceEqDiff, Nat.reduceLT, Nat.reduceLeDiff, Int.reduceNeg, true_and, and_true, and_self, if_true, if_false, Bool.not_true, Bool.not_false, Bool.false_eq_true, reduceIte, reduceCtorEq, decide_true, decide_false, ltD_int, leD_int, gtD_int, geD_int, subD_int, addD_int, intOf_int, absD_int, eqD_int, eqD_str, neD_str, neD_int, isN_non, truD_bl, eqD_bl, neD_bl, Option.map_some, Option.bind_some, small_0, small_1, small_2, small_3, small_4, small_5, small_6, small_7, small_8, st_app, st_len, fin_st, fin_stT, fin_self, ite_self, slD_str (nm_small nu)]
        have hj : (1 + j) = (((1 + j).toNat : Nat) : Int) := by omega
        rw [hj]
        exact fin_ _ _ _ (nm_cut (nm_take _ nu (by omega))) (g4.mono (by omega))
    · exact fin_ _ _ _ ht (g2.mono (by omega))
end
end RV
end
section
/-! isinstance; names are judged; pipes and meters. -/
namespace RV
open PySem L2
section
variable {A : Ad} {S : WS} {x c : D} {t u : Value} {m n : String} {fs : List (Str × D)}
theorem isi_of (h1 : kindD (own A) x = some t) (h2 : clsD c = some u) (h3 : t ∈ kinds A) (h4 : u ∈ clss A) : isiD (own A) (tab A) S [x, c] = some (.bl (sub A t u)) := by
  simp only [isiD, h1, h2, Option.bind_some, tab, tabD, h3, h4, and_self, if_true, Option.map_some]
theorem own_here (h : m ∈ A.here) : own A (A.c m) = true := List.any_eq_true.mpr ⟨m, h, beq_self_eq_true _⟩
theorem kind_here (h : m ∈ A.here) : kindD (own A) (.obj (A.c m) fs) = some (.ref (A.c m)) := by simp only [kindD, own_here h, if_true]
theorem ref_kinds (h : m ∈ A.here) : Value.ref (A.c m) ∈ kinds A := List.mem_append_right _ (List.mem_map.mpr ⟨m, h, rfl⟩)
theorem ref_clss (h : m ∈ A.here) : Value.ref (A.c m) ∈ clss A := List.mem_append_right _ (List.mem_map.mpr ⟨m, h, rfl⟩)
theorem isi_own (h : m ∈ A.here) (h' : n ∈ A.here) : isiD (own A) (tab A) S [.obj (A.c m) fs, .adr (A.c n)] = some (.bl (decide (A.c m = A.c n))) := by
  rw [isi_of (kind_here h) rfl (ref_kinds h) (ref_clss h')]
  simp [sub]
theorem isi_str {s : Str} : isiD (own A) (tab A) S [.str s, .ty "str"] = some (.bl true) := by
  rw [isi_of (t := .type "str") (u := .type "str") rfl rfl (by simp [kinds]) (by simp [clss])]
  simp [sub]
theorem isi_tup {ds : List D} : isiD (own A) (tab A) S [.tup ds, .ty "tuple"] = some (.bl true) := by
  rw [isi_of (t := .type "tuple") (u := .type "tuple") rfl rfl (by simp [kinds]) (by simp [clss])]
  simp [sub]
theorem isi_bool {b : Bool} : isiD (own A) (tab A) S [.bl b, .ty "bool"] = some (.bl true) := by
  rw [isi_of (t := .type "bool") (u := .type "bool") rfl rfl (by simp [kinds]) (by simp [clss])]
  simp [sub]
end
/-- the classes of nets are there -/
structure NetsA (A : Ad) : Prop where
  p : "Pipe" ∈ A.here
  m : "Meter" ∈ A.here
  n : "Net" ∈ A.here
  pm : A.c "Pipe" ≠ A.c "Meter"
  pn : A.c "Pipe" ≠ A.c "Net"
  mn : A.c "Meter" ≠ A.c "Net"
section
variable {A : Ad} {S : WS} {q : D → WS → Prop} {x : Xq} {s a b c : Str} {f : Bool}
/-! ### names -/
def nmB (s : Str) : Bool := nmL s.cps.toList
theorem inS_letters {neg : Bool} {ch : Nat} : inSD neg S (.str ⟨#[ch]⟩) (.str "abcdefghijklmnopqrstuvwxyz") = some (.bl (if neg then !isLt ch else isLt ch)) := by
  cases neg <;> simp [inSD, isLt, letters]
theorem inS_digits {neg : Bool} {ch : Nat} : inSD neg S (.str ⟨#[ch]⟩) (.str "0123456789") = some (.bl (if neg then !isDg ch else isDg ch)) := by
  cases neg <;> simp [inSD, isDg, digits]
theorem isName_eq (hs : small s.length = true) : G_is_name A [.str s] S q x = q (.bl (nmB s)) S := by
  have hln : lenD S [.str s] = some (.int (s.length : Nat)) := by simp only [lenD, hs, if_true]
  have hlc : ∀ q : List D → WS → Prop, lcD any_ (tName 1) bYes (eOr (eOp (inSD false) (eVar 1) (eC (.str "abcdefghijklmnopqrstuvwxyz"))) (eOp (inSD false) (eVar 1) (eC (.str "0123456789")))) [some (.str s), none] (s.cps.toList.map fun c => D.str ⟨#[c]⟩) [] S q = q (s.cps.toList.map fun c => D.bl (isLt c || isDg c)) S := fun q => by
    refine lc_mapEq _ trivial fun c hc => ⟨_, rfl, fun q x => ?_⟩
    try simp -implicitDefEqProofs only [eVar, eC, eOp, eUn, aNil, aCons, eSeq, eCall, eFn, bBl, onB_bl, bTru, eNotT, bAnd, bOr, bNot, eAnd, eOr, eIf, bChain, iteB_t, iteB_f, sNil, sSeq, sRet, sDrop, sAsg, sIf, sBreak, sCont, sAsgG, sPar2, sPar3, sSetIx, sPairSet, sAppend, onL, onI_i, onT_s, onTu_t, onCe_c, on1_, on2_, on3_, onLst_l, onOb_o, onSeq_l, onSeq_r, onSeq_c, lkD_s, lkD_n, lkO_s, lkO_n, finO, sFldD, setFD, eProp, isOb_obj, eMake, eMakeK, eMakeL, eLc, eNew, eSl, oNone, oSome, eOpM, eCallM, eCm, eCmK, eOpT, jNil, jCons, eJoin, aStar, sCalm, sFor, iRange1, iSeq, iTupD, iStrD, iEnumT, tName, tTup_t, tsCons_c, tsNil_n, any_t, onS_some, look0, look1, look2, look3, look4, look5, look6, look7, look8, look9, look10, look11, look12, look13, look14, look15, bYes, wipeE, List.set_cons_zero, List.set_cons_succ, List.length_cons, List.length_nil, List.append_nil, List.nil_append, List.cons_append, List.append_assoc, Nat.zero_add, Nat.reduceAdd, Nat.reduceSub, Nat.reduceEqDiff, Nat.reduceLT, Nat.reduceLeDiff, Int.reduceNeg, true_and, and_true, and_self, if_true, if_false, Bool.not_true, Bool.not_false, Bool.false_eq_true, reduceIte, reduceCtorEq, decide_true, decide_false, ltD_int, leD_int, gtD_int, geD_int, subD_int, addD_int, intOf_int, absD_int, eqD_int, eqD_str, neD_str, neD_int, isN_non, truD_bl, eqD_bl, neD_bl, Option.map_some, Option.bind_some, small_0, small_1, small_2, small_3, small_4, small_5, small_6, small_7, small_8, st_app, st_len, fin_st, fin_stT, fin_self, ite_self, inS_letters, inS_digits]
    cases isLt c <;> rfl
  have hsm : small (s.cps.toList.map fun c => D.str ⟨#[c]⟩).length = true := by rw [List.length_map, ← len_cps]; exact hs
  rw [D_is_name]
  unfold fnD startE
  simp only [List.map_cons, List.map_nil, List.length_cons, List.length_nil, Nat.reduceAdd, Nat.reduceSub, List.replicate, List.cons_append, List.nil_append, List.append_nil, Nat.zero_add]
  unfold B_is_name
  try simp -implicitDefEqProofs only [eVar, eC, eOp, eUn, aNil, aCons, eSeq, eCall, eFn, bBl, onB_bl, bTru, eNotT, bAnd, bOr, bNot, eAnd, eOr, eIf, bChain, iteB_t, iteB_f, sNil, sSeq, sRet, sDrop, sAsg, sIf, sBreak, sCont, sAsgG, sPar2, sPar3, sSetIx, sPairSet, sAppend, onL, onI_i, onT_s, onTu_t, onCe_c, on1_, on2_, on3_, onLst_l, onOb_o, onSeq_l, onSeq_r, onSeq_c, lkD_s, lkD_n, lkO_s, lkO_n, finO, sFldD, setFD, eProp, isOb_obj, eMake, eMakeK, eMakeL, eLc, eNew, eSl, oNone, oSome, eOpM, eCallM, eCm, eCmK, eOpT, jNil, jCons, eJoin, aStar, sCalm, sFor, iRange1, iSeq, iTupD, iStrD, iEnumT, tName, tTup_t, tsCons_c, tsNil_n, any_t, onS_some, look0, look1, look2, look3, look4, look5, look6, look7, look8, look9, look10, look11, look12, look13, look14, look15, bYes, wipeE, List.set_cons_zero, List.set_cons_succ, List.length_cons, List.length_nil, List.append_nil, List.nil_append, List.cons_append, List.append_assoc, Nat.zero_add, Nat.reduceAdd, Nat.reduceSub, Nat.reduceEqDiff, Nat.reduceLT, Nat.reduceLeDiff, Int.reduceNeg, true_and, and_true, and_self, if_true, if_false, Bool.not_true, Bool.not_false, Bool.false_eq_true, reduceIte, reduceCtorEq, decide_true, decide_false, ltD_int, leD_int, gtD_int, geD_int, subD_int, addD_int, intOf_int, absD_int, eqD_int, eqD_str, neD_str, neD_int, isN_non, truD_bl, eqD_bl, neD_bl, Option.map_some, Option.bind_some, small_0, small_1, small_2, small_3, small_4, small_5, small_6, small_7, small_8, st_app, st_len, fin_st, fin_stT, fin_self, ite_self, isi_str, hln, hsm, hlc, allD_map]
  unfold nmB
  rcases hc : s.cps.toList with _ | ⟨ch, r⟩
  · have h0 : s.length = 0 := by rw [len_cps, hc]; rfl
    try simp -implicitDefEqProofs only [eVar, eC, eOp, eUn, aNil, aCons, eSeq, eCall, eFn, bBl, onB_bl, bTru, eNotT, bAnd, bOr, bNot, eAnd, eOr, eIf, bChain, iteB_t, iteB_f, sNil, sSeq, sRet, sDrop, sAsg, sIf, sBreak, sCont, sAsgG, sPar2, sPar3, sSetIx, sPairSet, sAppend, onL, onI_i, onT_s, onTu_t, onCe_c, on1_, on2_, on3_, onLst_l, onOb_o, onSeq_l, onSeq_r, onSeq_c, lkD_s, lkD_n, lkO_s, lkO_n, finO, sFldD, setFD, eProp, isOb_obj, eMake, eMakeK, eMakeL, eLc, eNew, eSl, oNone, oSome, eOpM, eCallM, eCm, eCmK, eOpT, jNil, jCons, eJoin, aStar, sCalm, sFor, iRange1, iSeq, iTupD, iStrD, iEnumT, tName, tTup_t, tsCons_c, tsNil_n, any_t, onS_some, look0, look1, look2, look3, look4, look5, look6, look7, look8, look9, look10, look11, look12, look13, look14, look15, bYes, wipeE, List.set_cons_zero, List.set_cons_succ, List.length_cons, List.length_nil, List.append_nil, List.nil_append, List.cons_append, List.append_assoc, Nat.zero_add, Nat.reduceAdd, Nat.reduceSub, Nat.reduceEqDiff, Nat.reduceLT, Nat.reduceLeDiff, Int.reduceNeg, true_and, and_true, and_self, if_true, if_false, Bool.not_true, Bool.not_false, Bool.false_eq_true, reduceIte, reduceCtorEq, decide_true, decide_false, ltD_int, leD_int, gtD_int, geD_int, subD_int, addD_int, intOf_int, absD_int, eqD_int, eqD_str, neD_str, neD_int, isN_non, truD_bl, eqD_bl, neD_bl, Option.map_some, Option.bind_some, small_0, small_1, small_2, small_3, small_4, small_5, small_6, small_7, small_8, st_app, st_len, fin_st, fin_stT, fin_self, ite_self, show decide ((1 : Int) ≤ ((s.length : Nat) : Int)) = false from decide_eq_false (by omega)]
    simp [nmL]
  · have h1 : s.length = r.length + 1 := by rw [len_cps, hc]; rfl
    have h0 : ixD S (.str s) (.int 0) = some (.str ⟨#[ch]⟩) := by
      simp only [ixD, hs, if_true, hc, atI_cons, Option.map_some]
    try simp -implicitDefEqProofs only [eVar, eC, eOp, eUn, aNil, aCons, eSeq, eCall, eFn, bBl, onB_bl, bTru, eNotT, bAnd, bOr, bNot, eAnd, eOr, eIf, bChain, iteB_t, iteB_f, sNil, sSeq, sRet, sDrop, sAsg, sIf, sBreak, sCont, sAsgG, sPar2, sPar3, sSetIx, sPairSet, sAppend, onL, onI_i, onT_s, onTu_t, onCe_c, on1_, on2_, on3_, onLst_l, onOb_o, onSeq_l, onSeq_r, onSeq_c, lkD_s, lkD_n, lkO_s, lkO_n, finO, sFldD, setFD, eProp, isOb_obj, eMake, eMakeK, eMakeL, eLc, eNew, eSl, oNone, oSome, eOpM, eCallM, eCm, eCmK, eOpT, jNil, jCons, eJoin, aStar, sCalm, sFor, iRange1, iSeq, iTupD, iStrD, iEnumT, tName, tTup_t, tsCons_c, tsNil_n, any_t, onS_some, look0, look1, look2, look3, look4, look5, look6, look7, look8, look9, look10, look11, look12, look13, look14, look15, bYes, wipeE, List.set_cons_zero, List.set_cons_succ, List.length_cons, List.length_nil, List.append_nil, List.nil_append, List.cons_append, List.append_assoc, Nat.zero_add, Nat.reduceAdd, Nat.reduceSub, Nat.reduceEqDiff, Nat.reduceLT, Nat.reduceLeDiff, Int.reduceNeg, true_and, and_true, and_self, if_true, if_false, Bool.not_true, Bool.not_false, Bool.false_eq_true, reduceIte, reduceCtorEq, decide_true, decide_false, ltD_int, leD_int, gtD_int, geD_int, subD_int, addD_int, intOf_int, absD_int, eqD_int, eqD_str, neD_str, neD_int, isN_non, truD_bl, eqD_bl, neD_bl, Option.map_some, Option.bind_some, small_0, small_1, small_2, small_3, small_4, small_5, small_6, small_7, small_8, st_app, st_len, fin_st, fin_stT, fin_self, ite_self, show decide ((1 : Int) ≤ ((s.length : Nat) : Int)) = true from decide_eq_true (by omega), h0, inS_letters]
    by_cases h8 : s.length ≤ 8
    · try simp -implicitDefEqProofs only [eVar, eC, eOp, eUn, aNil, aCons, eSeq, eCall, eFn, bBl, onB_bl, bTru, eNotT, bAnd, bOr, bNot, eAnd, eOr, eIf, bChain, iteB_t, iteB_f, sNil, sSeq, sRet, sDrop, sAsg, sIf, sBreak, sCont, sAsgG, sPar2, sPar3, sSetIx, sPairSet, sAppend, onL, onI_i, onT_s, onTu_t, onCe_c, on1_, on2_, on3_, onLst_l, onOb_o, onSeq_l, onSeq_r, onSeq_c, lkD_s, lkD_n, lkO_s, lkO_n, finO, sFldD, setFD, eProp, isOb_obj, eMake, eMakeK, eMakeL, eLc, eNew, eSl, oNone, oSome, eOpM, eCallM, eCm, eCmK, eOpT, jNil, jCons, eJoin, aStar, sCalm, sFor, iRange1, iSeq, iTupD, iStrD, iEnumT, tName, tTup_t, tsCons_c, tsNil_n, any_t, onS_some, look0, look1, look2, look3, look4, look5, look6, look7, look8, look9, look10, look11, look12, look13, look14, look15, bYes, wipeE, List.set_cons_zero, List.set_cons_succ, List.length_cons, List.length_nil, List.append_nil, List.nil_append, List.cons_append, List.append_assoc, Nat.zero_add, Nat.reduceAdd, Nat.reduceSub, Nat.reduceEqDiff, Nat.reduceLT, Nat.reduceLeDiff, Int.reduceNeg, true_and, and_true, and_self, if_true, if_false, Bool.not_true, Bool.not_false, Bool.false_eq_true, reduceIte, reduceCtorEq, decide_true, decide_false, ltD_int, leD_int, gtD_int, geD_int, subD_int, addD_int, intOf_int, absD_int, eqD_int, eqD_str, neD_str, neD_int, isN_non, truD_bl, eqD_bl, neD_bl, Option.map_some, Option.bind_some, small_0, small_1, small_2, small_3, small_4, small_5, small_6, small_7, small_8, st_app, st_len, fin_st, fin_stT, fin_self, ite_self, show decide (((s.length : Nat) : Int) ≤ 8) = true from decide_eq_true (by omega)]
      cases hl : isLt ch
      · try simp -implicitDefEqProofs only [eVar, eC, eOp, eUn, aNil, aCons, eSeq, eCall, eFn, bBl, onB_bl, bTru, eNotT, bAnd, bOr, bNot, eAnd, eOr, eIf, bChain, iteB_t, iteB_f, sNil, sSeq, sRet, sDrop, sAsg, sIf, sBreak, sCont, sAsgG, sPar2, sPar3, sSetIx, sPairSet, sAppend, onL, onI_i, onT_s, onTu_t, onCe_c, on1_, on2_, on3_, onLst_l, onOb_o, onSeq_l, onSeq_r, onSeq_c, lkD_s, lkD_n, lkO_s, lkO_n, finO, sFldD, setFD, eProp, isOb_obj, eMake, eMakeK, eMakeL, eLc, eNew, eSl, oNone, oSome, eOpM, eCallM, eCm, eCmK, eOpT, jNil, jCons, eJoin, aStar, sCalm, sFor, iRange1, iSeq, iTupD, iStrD, iEnumT, tName, tTup_t, tsCons_c, tsNil_n, any_t, onS_some, look0, look1, look2, look3, look4, look5, look6, look7, look8, look9, look10, look11, look12, look13, look14, look15, bYes, wipeE, List.set_cons_zero, List.set_cons_succ, List.length_cons, List.length_nil, List.append_nil, List.nil_append, List.cons_append, List.append_assoc, Nat.zero_add, Nat.reduceAdd, Nat.reduceSub, Nat.reduceEqDiff, Nat.reduceLT, Nat.reduceLeDiff, Int.reduceNeg, true_and, and_true, and_self, if_true, if_false, Bool.not_true, Bool.not_false, Bool.false_eq_true, reduceIte, reduceCtorEq, decide_true, decide_false, ltD_int, leD_int, gtD_int, geD_int, subD_int, addD_int, intOf_int, absD_int, eqD_int, eqD_str, neD_str, neD_int, isN_non, truD_bl, eqD_bl, neD_bl, Option.map_some, Option.bind_some, small_0, small_1, small_2, small_3, small_4, small_5, small_6, small_7, small_8, st_app, st_len, fin_st, fin_stT, fin_self, ite_self]
        simp [nmL, hl]
      · try simp -implicitDefEqProofs only [eVar, eC, eOp, eUn, aNil, aCons, eSeq, eCall, eFn, bBl, onB_bl, bTru, eNotT, bAnd, bOr, bNot, eAnd, eOr, eIf, bChain, iteB_t, iteB_f, sNil, sSeq, sRet, sDrop, sAsg, sIf, sBreak, sCont, sAsgG, sPar2, sPar3, sSetIx, sPairSet, sAppend, onL, onI_i, onT_s, onTu_t, onCe_c, on1_, on2_, on3_, onLst_l, onOb_o, onSeq_l, onSeq_r, onSeq_c, lkD_s, lkD_n, lkO_s, lkO_n, finO, sFldD, setFD, eProp, isOb_obj, eMake, eMakeK, eMakeL, eLc, eNew, eSl, oNone, oSome, eOpM, eCallM, eCm, eCmK, eOpT, jNil, jCons, eJoin, aStar, sCalm, sFor, iRange1, iSeq, iTupD, iStrD, iEnumT, tName, tTup_t, tsCons_c, tsNil_n, any_t, onS_some, look0, look1, look2, look3, look4, look5, look6, look7, look8, look9, look10, look11, look12, look13, look14, look15, bYes, wipeE, List.set_cons_zero, List.set_cons_succ, List.length_cons, List.length_nil, List.append_nil, List.nil_append, List.cons_append, List.append_assoc, Nat.zero_add, Nat.reduceAdd, Nat.reduceSub, Nat.reduceEqDiff, Nat.reduceLT, Nat.reduceLeDiff, Int.reduceNeg, true_and, and_true, and_self, if_true, if_false, Bool.not_true, Bool.not_false, Bool.false_eq_true, reduceIte, reduceCtorEq, decide_true, decide_false, ltD_int, leD_int, gtD_int, geD_int, subD_int, addD_int, intOf_int, absD_int, eqD_int, eqD_str, neD_str, neD_int, isN_non, truD_bl, eqD_bl, neD_bl, Option.map_some, Option.bind_some, small_0, small_1, small_2, small_3, small_4, small_5, small_6, small_7, small_8, st_app, st_len, fin_st, fin_stT, fin_self, ite_self]
        have : decide (r.length ≤ 7) = true := decide_eq_true (by omega)
        simp [nmL, hl, this]
    · try simp -implicitDefEqProofs only [eVar, eC, eOp, eUn, aNil, aCons, eSeq, eCall, eFn, bBl, onB_bl, bTru, eNotT, bAnd, bOr, bNot, eAnd, eOr, eIf, bChain, iteB_t, iteB_f, sNil, sSeq, sRet, sDrop, sAsg, sIf, sBreak, sCont, sAsgG, sPar2, sPar3, sSetIx, sPairSet, sAppend, onL, onI_i, onT_s, onTu_t, onCe_c, on1_, on2_, on3_, onLst_l, onOb_o, onSeq_l, onSeq_r, onSeq_c, lkD_s, lkD_n, lkO_s, lkO_n, finO, sFldD, setFD, eProp, isOb_obj, eMake, eMakeK, eMakeL, eLc, eNew, eSl, oNone, oSome, eOpM, eCallM, eCm, eCmK, eOpT, jNil, jCons, eJoin, aStar, sCalm, sFor, iRange1, iSeq, iTupD, iStrD, iEnumT, tName, tTup_t, tsCons_c, tsNil_n, any_t, onS_some, look0, look1, look2, look3, look4, look5, look6, look7, look8, look9, look10, look11, look12, look13, look14, look15, bYes, wipeE, List.set_cons_zero, List.set_cons_succ, List.length_cons, List.length_nil, List.append_nil, List.nil_append, List.cons_append, List.append_assoc, Nat.zero_add, Nat.reduceAdd, Nat.reduceSub, Nat.reduceEqDiff, Nat.reduceLT, Nat.reduceLeDiff, Int.reduceNeg, true_and, and_true, and_self, if_true, if_false, Bool.not_true, Bool.not_false, Bool.false_eq_true, reduceIte, reduceCtorEq, decide_true, decide_false, ltD_int, leD_int, gtD_int, geD_int, subD_int, addD_int, intOf_int, absD_int, eqD_int, eqD_str, neD_str, neD_int, isN_non, truD_bl, eqD_bl, neD_bl, Option.map_some, Option.bind_some, small_0, small_1, small_2, small_3, small_4, small_5, small_6, small_7, small_8, st_app, st_len, fin_st, fin_stT, fin_self, ite_self, show decide (((s.length : Nat) : Int) ≤ 8) = false from decide_eq_false (by omega)]
      have : decide (r.length ≤ 7) = false := decide_eq_false (by omega)
      simp [nmL, this]
theorem checkName_ok (h : Nm s) : G_check_name A [.str s] S q x = q .non S := by
  have e : nmB s = true := h
  rw [D_check_name]
  unfold fnD startE
  simp only [List.map_cons, List.map_nil, List.length_cons, List.length_nil, Nat.reduceAdd, Nat.reduceSub, List.replicate, List.cons_append, List.nil_append, List.append_nil, Nat.zero_add]
  unfold B_check_name
  try simp -implicitDefEqProofs only [eVar, eC, eOp, eUn, aNil, aCons, eSeq, eCall, eFn, bBl, onB_bl, bTru, eNotT, bAnd, bOr, bNot, eAnd, eOr, eIf, bChain, iteB_t, iteB_f, sNil, sSeq, sRet, sDrop, sAsg, sIf, sBreak, sCont, sAsgG, sPar2, sPar3, sSetIx, sPairSet, sAppend, onL, onI_i, onT_s, onTu_t, onCe_c, on1_, on2_, on3_, onLst_l, onOb_o, onSeq_l, onSeq_r, onSeq_c, lkD_s, lkD_n, lkO_s, lkO_n, finO, sFldD, setFD, eProp, isOb_obj, eMake, eMakeK, eMakeL, eLc, eNew, eSl, oNone, oSome, eOpM, eCallM, eCm, eCmK, eOpT, jNil, jCons, eJoin, aStar, sCalm, sFor, iRange1, iSeq, iTupD, iStrD, iEnumT, tName, tTup_t, tsCons_c, tsNil_n, any_t, onS_some, look0, look1, look2, look3, look4, look5, look6, look7, look8, look9, look10, look11, look12, look13, look14, look15, bYes, wipeE, List.set_cons_zero, List.set_cons_succ, List.length_cons, List.length_nil, List.append_nil, List.nil_append, List.cons_append, List.append_assoc, Nat.zero_add, Nat.reduceAdd, Nat.reduceSub, Nat.reduceEqDiff, Nat.reduceLT, Nat.reduceLeDiff, Int.reduceNeg, true_and, and_true, and_self, if_true, if_false, Bool.not_true, Bool.not_false, Bool.false_eq_true, reduceIte, reduceCtorEq, decide_true, decide_false, ltD_int, leD_int, gtD_int, geD_int, subD_int, addD_int, intOf_int, absD_int, eqD_int, eqD_str, neD_str, neD_int, isN_non, truD_bl, eqD_bl, neD_bl, Option.map_some, Option.bind_some, small_0, small_1, small_2, small_3, small_4, small_5, small_6, small_7, small_8, st_app, st_len, fin_st, fin_stT, fin_self, ite_self, isName_eq (nm_small h), e]
/-! ### pipes and meters -/
def pipeV (A : Ad) (a b c : Str) : D := .obj (A.c "Pipe") [("kept", .tup [.str a, .str b, .str c])]
def meterV (A : Ad) (a b : Str) (f : Bool) : D := .obj (A.c "Meter") [("kept", .tup [.str a, .str b, .bl f])]
theorem pipe_init_ok (ha : Nm a) (hb : Nm b) (hc : Nm c) (h : c ≠ b) : makeD .still (A.c "Pipe") 4 (G_Pipe_init A) [.str a, .str b, .str c] S q x = q (pipeV A a b c) S := by
  unfold makeD
  rw [D_Pipe_init]
  unfold fnD startE
  simp only [List.map_cons, List.map_nil, List.length_cons, List.length_nil, Nat.reduceAdd, Nat.reduceSub, List.replicate, List.cons_append, List.nil_append, List.append_nil, Nat.zero_add]
  unfold B_Pipe_init
  have cl : D.clean 0 (.tup [.str a, .str b, .str c]) = true := rfl
  have e : decide (c = b) = false := decide_eq_false h
  try simp -implicitDefEqProofs only [eVar, eC, eOp, eUn, aNil, aCons, eSeq, eCall, eFn, bBl, onB_bl, bTru, eNotT, bAnd, bOr, bNot, eAnd, eOr, eIf, bChain, iteB_t, iteB_f, sNil, sSeq, sRet, sDrop, sAsg, sIf, sBreak, sCont, sAsgG, sPar2, sPar3, sSetIx, sPairSet, sAppend, onL, onI_i, onT_s, onTu_t, onCe_c, on1_, on2_, on3_, onLst_l, onOb_o, onSeq_l, onSeq_r, onSeq_c, lkD_s, lkD_n, lkO_s, lkO_n, finO, sFldD, setFD, eProp, isOb_obj, eMake, eMakeK, eMakeL, eLc, eNew, eSl, oNone, oSome, eOpM, eCallM, eCm, eCmK, eOpT, jNil, jCons, eJoin, aStar, sCalm, sFor, iRange1, iSeq, iTupD, iStrD, iEnumT, tName, tTup_t, tsCons_c, tsNil_n, any_t, onS_some, look0, look1, look2, look3, look4, look5, look6, look7, look8, look9, look10, look11, look12, look13, look14, look15, bYes, wipeE, List.set_cons_zero, List.set_cons_succ, List.length_cons, List.length_nil, List.append_nil, List.nil_append, List.cons_append, List.append_assoc, Nat.zero_add, Nat.reduceAdd, Nat.reduceSub, Nat.reduceEqDiff, Nat.reduceLT, Nat.reduceLeDiff, Int.reduceNeg, true_and, and_true, and_self, if_true, if_false, Bool.not_true, Bool.not_false, Bool.false_eq_true, reduceIte, reduceCtorEq, decide_true, decide_false, ltD_int, leD_int, gtD_int, geD_int, subD_int, addD_int, intOf_int, absD_int, eqD_int, eqD_str, neD_str, neD_int, isN_non, truD_bl, eqD_bl, neD_bl, Option.map_some, Option.bind_some, small_0, small_1, small_2, small_3, small_4, small_5, small_6, small_7, small_8, st_app, st_len, fin_st, fin_stT, fin_self, ite_self, checkName_ok ha, checkName_ok hb, checkName_ok hc, e, app_at0, app_set0, cl, putD, fin_appS, take_app, Nat.lt_irrefl, show (0 : Nat) < 1000 from by decide]
  rfl
theorem meter_init_ok (ha : Nm a) (hb : Nm b) : makeD .still (A.c "Meter") 4 (G_Meter_init A) [.str a, .str b, .bl f] S q x = q (meterV A a b f) S := by
  unfold makeD
  rw [D_Meter_init]
  unfold fnD startE
  simp only [List.map_cons, List.map_nil, List.length_cons, List.length_nil, Nat.reduceAdd, Nat.reduceSub, List.replicate, List.cons_append, List.nil_append, List.append_nil, Nat.zero_add]
  unfold B_Meter_init
  have cl : D.clean 0 (.tup [.str a, .str b, .bl f]) = true := rfl
  try simp -implicitDefEqProofs only [eVar, eC, eOp, eUn, aNil, aCons, eSeq, eCall, eFn, bBl, onB_bl, bTru, eNotT, bAnd, bOr, bNot, eAnd, eOr, eIf, bChain, iteB_t, iteB_f, sNil, sSeq, sRet, sDrop, sAsg, sIf, sBreak, sCont, sAsgG, sPar2, sPar3, sSetIx, sPairSet, sAppend, onL, onI_i, onT_s, onTu_t, onCe_c, on1_, on2_, on3_, onLst_l, onOb_o, onSeq_l, onSeq_r, onSeq_c, lkD_s, lkD_n, lkO_s, lkO_n, finO, sFldD, setFD, eProp, isOb_obj, eMake, eMakeK, eMakeL, eLc, eNew, eSl, oNone, oSome, eOpM, eCallM, eCm, eCmK, eOpT, jNil, jCons, eJoin, aStar, sCalm, sFor, iRange1, iSeq, iTupD, iStrD, iEnumT, tName, tTup_t, tsCons_c, tsNil_n, any_t, onS_some, look0, look1, look2, look3, look4, look5, look6, look7, look8, look9, look10, look11, look12, look13, look14, look15, bYes, wipeE, List.set_cons_zero, List.set_cons_succ, List.length_cons, List.length_nil, List.append_nil, List.nil_append, List.cons_append, List.append_assoc, Nat.zero_add, Nat.reduceAdd, Nat.reduceSub, Nat.reduceEqDiff, Nat.reduceLT, Nat.reduceLeDiff, Int.reduceNeg, true_and, and_true, and_self, if_true, if_false, Bool.not_true, Bool.not_false, Bool.false_eq_true, reduceIte, reduceCtorEq, decide_true, decide_false, ltD_int, leD_int, gtD_int, geD_int, subD_int, addD_int, intOf_int, absD_int, eqD_int, eqD_str, neD_str, neD_int, isN_non, truD_bl, eqD_bl, neD_bl, Option.map_some, Option.bind_some, small_0, small_1, small_2, small_3, small_4, small_5, small_6, small_7, small_8, st_app, st_len, fin_st, fin_stT, fin_self, ite_self, checkName_ok ha, checkName_ok hb, isi_bool, app_at0, app_set0, cl, putD, fin_appS, take_app, show (0 : Nat) < 1000 from by decide]
  rfl
theorem kept_at {d : D} : List.lookup ("kept" : Str) [(("kept" : Str), d)] = some d := by simp [List.lookup]
theorem fld_pipe : fldD (A.c "Pipe") "kept" S (pipeV A a b c) = some (.tup [.str a, .str b, .str c]) := by simp only [fldD, pipeV, if_true, kept_at]
theorem fld_meter : fldD (A.c "Meter") "kept" S (meterV A a b f) = some (.tup [.str a, .str b, .bl f]) := by simp only [fldD, meterV, if_true, kept_at]
theorem ixT0 {a b c : D} : ixD S (.tup [a, b, c]) (.int 0) = some a := rfl
theorem ixT1 {a b c : D} : ixD S (.tup [a, b, c]) (.int 1) = some b := rfl
theorem ixT2 {a b c : D} : ixD S (.tup [a, b, c]) (.int 2) = some c := rfl
theorem p_name : G_Pipe_name A [pipeV A a b c] S q x = q (.str a) S := by
  rw [D_Pipe_name]
  unfold fnD startE
  simp only [List.map_cons, List.map_nil, List.length_cons, List.length_nil, Nat.reduceAdd, Nat.reduceSub, List.replicate, List.cons_append, List.nil_append, List.append_nil, Nat.zero_add]
  unfold B_Pipe_name
  try simp -implicitDefEqProofs only [eVar, eC, eOp, eUn, aNil, aCons, eSeq, eCall, eFn, bBl, onB_bl, bTru, eNotT, bAnd, bOr, bNot, eAnd, eOr, eIf, bChain, iteB_t, iteB_f, sNil, sSeq, sRet, sDrop, sAsg, sIf, sBreak, sCont, sAsgG, sPar2, sPar3, sSetIx, sPairSet, sAppend, onL, onI_i, onT_s, onTu_t, onCe_c, on1_, on2_, on3_, onLst_l, onOb_o, onSeq_l, onSeq_r, onSeq_c, lkD_s, lkD_n, lkO_s, lkO_n, finO, sFldD, setFD, eProp, isOb_obj, eMake, eMakeK, eMakeL, eLc, eNew, eSl, oNone, oSome, eOpM, eCallM, eCm, eCmK, eOpT, jNil, jCons, eJoin, aStar, sCalm, sFor, iRange1, iSeq, iTupD, iStrD, iEnumT, tName, tTup_t, tsCons_c, tsNil_n, any_t, onS_some, look0, look1, look2, look3, look4, look5, look6, look7, look8, look9, look10, look11, look12, look13, look14, look15, bYes, wipeE, List.set_cons_zero, List.set_cons_succ, List.length_cons, List.length_nil, List.append_nil, List.nil_append, List.cons_append, List.append_assoc, Nat.zero_add, Nat.reduceAdd, Nat.reduceSub, Nat.reduceEqDiff, Nat.reduceLT, Nat.reduceLeDiff, Int.reduceNeg, true_and, and_true, and_self, if_true, if_false, Bool.not_true, Bool.not_false, Bool.false_eq_true, reduceIte, reduceCtorEq, decide_true, decide_false, ltD_int, leD_int, gtD_int, geD_int, subD_int, addD_int, intOf_int, absD_int, eqD_int, eqD_str, neD_str, neD_int, isN_non, truD_bl, eqD_bl, neD_bl, Option.map_some, Option.bind_some, small_0, small_1, small_2, small_3, small_4, small_5, small_6, small_7, small_8, st_app, st_len, fin_st, fin_stT, fin_self, ite_self, fld_pipe, ixT0]
theorem p_start : G_Pipe_start A [pipeV A a b c] S q x = q (.str b) S := by
  rw [D_Pipe_start]
  unfold fnD startE
  simp only [List.map_cons, List.map_nil, List.length_cons, List.length_nil, Nat.reduceAdd, Nat.reduceSub, List.replicate, List.cons_append, List.nil_append, List.append_nil, Nat.zero_add]
  unfold B_Pipe_start
  try simp -implicitDefEqProofs only [eVar, eC, eOp, eUn, aNil, aCons, eSeq, eCall, eFn, bBl, onB_bl, bTru, eNotT, bAnd, bOr, bNot, eAnd, eOr, eIf, bChain, iteB_t, iteB_f, sNil, sSeq, sRet, sDrop, sAsg, sIf, sBreak, sCont, sAsgG, sPar2, sPar3, sSetIx, sPairSet, sAppend, onL, onI_i, onT_s, onTu_t, onCe_c, on1_, on2_, on3_, onLst_l, onOb_o, onSeq_l, onSeq_r, onSeq_c, lkD_s, lkD_n, lkO_s, lkO_n, finO, sFldD, setFD, eProp, isOb_obj, eMake, eMakeK, eMakeL, eLc, eNew, eSl, oNone, oSome, eOpM, eCallM, eCm, eCmK, eOpT, jNil, jCons, eJoin, aStar, sCalm, sFor, iRange1, iSeq, iTupD, iStrD, iEnumT, tName, tTup_t, tsCons_c, tsNil_n, any_t, onS_some, look0, look1, look2, look3, look4, look5, look6, look7, look8, look9, look10, look11, look12, look13, look14, look15, bYes, wipeE, List.set_cons_zero, List.set_cons_succ, List.length_cons, List.length_nil, List.append_nil, List.nil_append, List.cons_append, List.append_assoc, Nat.zero_add, Nat.reduceAdd, Nat.reduceSub, Nat.reduceEqDiff, Nat.reduceLT, Nat.reduceLeDiff, Int.reduceNeg, true_and, and_true, and_self, if_true, if_false, Bool.not_true, Bool.not_false, Bool.false_eq_true, reduceIte, reduceCtorEq, decide_true, decide_false, ltD_int, leD_int, gtD_int, geD_int, subD_int, addD_int, intOf_int, absD_int, eqD_int, eqD_str, neD_str, neD_int, isN_non, truD_bl, eqD_bl, neD_bl, Option.map_some, Option.bind_some, small_0, small_1, small_2, small_3, small_4, small_5, small_6, small_7, small_8, st_app, st_len, fin_st, fin_stT, fin_self, ite_self, fld_pipe, ixT1]
theorem p_end : G_Pipe_end A [pipeV A a b c] S q x = q (.str c) S := by
  rw [D_Pipe_end]
  unfold fnD startE
  simp only [List.map_cons, List.map_nil, List.length_cons, List.length_nil, Nat.reduceAdd, Nat.reduceSub, List.replicate, List.cons_append, List.nil_append, List.append_nil, Nat.zero_add]
  unfold B_Pipe_end
  try simp -implicitDefEqProofs only [eVar, eC, eOp, eUn, aNil, aCons, eSeq, eCall, eFn, bBl, onB_bl, bTru, eNotT, bAnd, bOr, bNot, eAnd, eOr, eIf, bChain, iteB_t, iteB_f, sNil, sSeq, sRet, sDrop, sAsg, sIf, sBreak, sCont, sAsgG, sPar2, sPar3, sSetIx, sPairSet, sAppend, onL, onI_i, onT_s, onTu_t, onCe_c, on1_, on2_, on3_, onLst_l, onOb_o, onSeq_l, onSeq_r, onSeq_c, lkD_s, lkD_n, lkO_s, lkO_n, finO, sFldD, setFD, eProp, isOb_obj, eMake, eMakeK, eMakeL, eLc, eNew, eSl, oNone, oSome, eOpM, eCallM, eCm, eCmK, eOpT, jNil, jCons, eJoin, aStar, sCalm, sFor, iRange1, iSeq, iTupD, iStrD, iEnumT, tName, tTup_t, tsCons_c, tsNil_n, any_t, onS_some, look0, look1, look2, look3, look4, look5, look6, look7, look8, look9, look10, look11, look12, look13, look14, look15, bYes, wipeE, List.set_cons_zero, List.set_cons_succ, List.length_cons, List.length_nil, List.append_nil, List.nil_append, List.cons_append, List.append_assoc, Nat.zero_add, Nat.reduceAdd, Nat.reduceSub, Nat.reduceEqDiff, Nat.reduceLT, Nat.reduceLeDiff, Int.reduceNeg, true_and, and_true, and_self, if_true, if_false, Bool.not_true, Bool.not_false, Bool.false_eq_true, reduceIte, reduceCtorEq, decide_true, decide_false, ltD_int, leD_int, gtD_int, geD_int, subD_int, addD_int, intOf_int, absD_int, eqD_int, eqD_str, neD_str, neD_int, isN_non, truD_bl, eqD_bl, neD_bl, Option.map_some, Option.bind_some, small_0, small_1, small_2, small_3, small_4, small_5, small_6, small_7, small_8, st_app, st_len, fin_st, fin_stT, fin_self, ite_self, fld_pipe, ixT2]
theorem m_name : G_Meter_name A [meterV A a b f] S q x = q (.str a) S := by
  rw [D_Meter_name]
  unfold fnD startE
  simp only [List.map_cons, List.map_nil, List.length_cons, List.length_nil, Nat.reduceAdd, Nat.reduceSub, List.replicate, List.cons_append, List.nil_append, List.append_nil, Nat.zero_add]
  unfold B_Meter_name
  try simp -implicitDefEqProofs only [eVar, eC, eOp, eUn, aNil, aCons, eSeq, eCall, eFn, bBl, onB_bl, bTru, eNotT, bAnd, bOr, bNot, eAnd, eOr, eIf, bChain, iteB_t, iteB_f, sNil, sSeq, sRet, sDrop, sAsg, sIf, sBreak, sCont, sAsgG, sPar2, sPar3, sSetIx, sPairSet, sAppend, onL, onI_i, onT_s, onTu_t, onCe_c, on1_, on2_, on3_, onLst_l, onOb_o, onSeq_l, onSeq_r, onSeq_c, lkD_s, lkD_n, lkO_s, lkO_n, finO, sFldD, setFD, eProp, isOb_obj, eMake, eMakeK, eMakeL, eLc, eNew, eSl, oNone, oSome, eOpM, eCallM, eCm, eCmK, eOpT, jNil, jCons, eJoin, aStar, sCalm, sFor, iRange1, iSeq, iTupD, iStrD, iEnumT, tName, tTup_t, tsCons_c, tsNil_n, any_t, onS_some, look0, look1, look2, look3, look4, look5, look6, look7, look8, look9, look10, look11, look12, look13, look14, look15, bYes, wipeE, List.set_cons_zero, List.set_cons_succ, List.length_cons, List.length_nil, List.append_nil, List.nil_append, List.cons_append, List.append_assoc, Nat.zero_add, Nat.reduceAdd, Nat.reduceSub, Nat.reduceEqDiff, Nat.reduceLT, Nat.reduceLeDiff, Int.reduceNeg, true_and, and_true, and_self, if_true, if_false, Bool.not_true, Bool.not_false, Bool.false_eq_true, reduceIte, reduceCtorEq, decide_true, decide_false, ltD_int, leD_int, gtD_int, geD_int, subD_int, addD_int, intOf_int, absD_int, eqD_int, eqD_str, neD_str, neD_int, isN_non, truD_bl, eqD_bl, neD_bl, Option.map_some, Option.bind_some, small_0, small_1, small_2, small_3, small_4, small_5, small_6, small_7, small_8, st_app, st_len, fin_st, fin_stT, fin_self, ite_self, fld_meter, ixT0]
theorem m_at : G_Meter_at A [meterV A a b f] S q x = q (.str b) S := by
  rw [D_Meter_at]
  unfold fnD startE
  simp only [List.map_cons, List.map_nil, List.length_cons, List.length_nil, Nat.reduceAdd, Nat.reduceSub, List.replicate, List.cons_append, List.nil_append, List.append_nil, Nat.zero_add]
  unfold B_Meter_at
  try simp -implicitDefEqProofs only [eVar, eC, eOp, eUn, aNil, aCons, eSeq, eCall, eFn, bBl, onB_bl, bTru, eNotT, bAnd, bOr, bNot, eAnd, eOr, eIf, bChain, iteB_t, iteB_f, sNil, sSeq, sRet, sDrop, sAsg, sIf, sBreak, sCont, sAsgG, sPar2, sPar3, sSetIx, sPairSet, sAppend, onL, onI_i, onT_s, onTu_t, onCe_c, on1_, on2_, on3_, onLst_l, onOb_o, onSeq_l, onSeq_r, onSeq_c, lkD_s, lkD_n, lkO_s, lkO_n, finO, sFldD, setFD, eProp, isOb_obj, eMake, eMakeK, eMakeL, eLc, eNew, eSl, oNone, oSome, eOpM, eCallM, eCm, eCmK, eOpT, jNil, jCons, eJoin, aStar, sCalm, sFor, iRange1, iSeq, iTupD, iStrD, iEnumT, tName, tTup_t, tsCons_c, tsNil_n, any_t, onS_some, look0, look1, look2, look3, look4, look5, look6, look7, look8, look9, look10, look11, look12, look13, look14, look15, bYes, wipeE, List.set_cons_zero, List.set_cons_succ, List.length_cons, List.length_nil, List.append_nil, List.nil_append, List.cons_append, List.append_assoc, Nat.zero_add, Nat.reduceAdd, Nat.reduceSub, Nat.reduceEqDiff, Nat.reduceLT, Nat.reduceLeDiff, Int.reduceNeg, true_and, and_true, and_self, if_true, if_false, Bool.not_true, Bool.not_false, Bool.false_eq_true, reduceIte, reduceCtorEq, decide_true, decide_false, ltD_int, leD_int, gtD_int, geD_int, subD_int, addD_int, intOf_int, absD_int, eqD_int, eqD_str, neD_str, neD_int, isN_non, truD_bl, eqD_bl, neD_bl, Option.map_some, Option.bind_some, small_0, small_1, small_2, small_3, small_4, small_5, small_6, small_7, small_8, st_app, st_len, fin_st, fin_stT, fin_self, ite_self, fld_meter, ixT1]
theorem m_sealed : G_Meter_sealed A [meterV A a b f] S q x = q (.bl f) S := by
  rw [D_Meter_sealed]
  unfold fnD startE
  simp only [List.map_cons, List.map_nil, List.length_cons, List.length_nil, Nat.reduceAdd, Nat.reduceSub, List.replicate, List.cons_append, List.nil_append, List.append_nil, Nat.zero_add]
  unfold B_Meter_sealed
  try simp -implicitDefEqProofs only [eVar, eC, eOp, eUn, aNil, aCons, eSeq, eCall, eFn, bBl, onB_bl, bTru, eNotT, bAnd, bOr, bNot, eAnd, eOr, eIf, bChain, iteB_t, iteB_f, sNil, sSeq, sRet, sDrop, sAsg, sIf, sBreak, sCont, sAsgG, sPar2, sPar3, sSetIx, sPairSet, sAppend, onL, onI_i, onT_s, onTu_t, onCe_c, on1_, on2_, on3_, onLst_l, onOb_o, onSeq_l, onSeq_r, onSeq_c, lkD_s, lkD_n, lkO_s, lkO_n, finO, sFldD, setFD, eProp, isOb_obj, eMake, eMakeK, eMakeL, eLc, eNew, eSl, oNone, oSome, eOpM, eCallM, eCm, eCmK, eOpT, jNil, jCons, eJoin, aStar, sCalm, sFor, iRange1, iSeq, iTupD, iStrD, iEnumT, tName, tTup_t, tsCons_c, tsNil_n, any_t, onS_some, look0, look1, look2, look3, look4, look5, look6, look7, look8, look9, look10, look11, look12, look13, look14, look15, bYes, wipeE, List.set_cons_zero, List.set_cons_succ, List.length_cons, List.length_nil, List.append_nil, List.nil_append, List.cons_append, List.append_assoc, Nat.zero_add, Nat.reduceAdd, Nat.reduceSub, Nat.reduceEqDiff, Nat.reduceLT, Nat.reduceLeDiff, Int.reduceNeg, true_and, and_true, and_self, if_true, if_false, Bool.not_true, Bool.not_false, Bool.false_eq_true, reduceIte, reduceCtorEq, decide_true, decide_false, ltD_int, leD_int, gtD_int, geD_int, subD_int, addD_int, intOf_int, absD_int, eqD_int, eqD_str, neD_str, neD_int, isN_non, truD_bl, eqD_bl, neD_bl, Option.map_some, Option.bind_some, small_0, small_1, small_2, small_3, small_4, small_5, small_6, small_7, small_8, st_app, st_len, fin_st, fin_stT, fin_self, ite_self, fld_meter, ixT2]
theorem isOb_p : isOb (A.c "Pipe") S (pipeV A a b c) = True := by simp [isOb, pipeV]
theorem isOb_m : isOb (A.c "Meter") S (meterV A a b f) = True := by simp [isOb, meterV]
end
end RV
end
section
/-! Nets: made, their texts, read. -/
namespace RV
open PySem L2
abbrev LR := Str × Str × Str
abbrev FR := Str × Str × Bool
def pv (A : Ad) (r : LR) : D := pipeV A r.1 r.2.1 r.2.2
def mv (A : Ad) (r : FR) : D := meterV A r.1 r.2.1 r.2.2
def netV (A : Ad) (rs : List LR) (fs : List FR) : D := .obj (A.c "Net") [("joined", .tup (rs.map (pv A))), ("fitted", .tup (fs.map (mv A)))]
structure RowOk (r : LR) : Prop where
  n : Nm r.1
  s : Nm r.2.1
  e : Nm r.2.2
  ne : r.2.2 ≠ r.2.1
structure LaidOk (rs : List LR) : Prop where
  rows : ∀ r ∈ rs, RowOk r
  nd : (rs.map (·.1)).Nodup
  lo : 1 ≤ rs.length
  hi : rs.length ≤ 12
structure FitsOk (rs : List LR) (fs : List FR) : Prop where
  n : ∀ f ∈ fs, Nm f.1
  at_ : ∀ f ∈ fs, f.2.1 ∈ rs.map (·.1)
  nd : (fs.map (·.1)).Nodup
  hi : fs.length ≤ 12
theorem FitsOk.nmAt {rs : List LR} {fs : List FR} (h : FitsOk rs fs) (l : LaidOk rs) {f : FR} (hf : f ∈ fs) : Nm f.2.1 := by
  obtain ⟨r, hr, e⟩ := List.mem_map.mp (h.at_ f hf)
  rw [← e]
  exact (l.rows r hr).n
section
variable {A : Ad} {S : WS} {q : D → WS → Prop} {x : Xq} {rs : List LR} {fs : List FR} {r : LR} {f : FR} {a b : D}
theorem isi_pp (hA : NetsA A) : isiD (own A) (tab A) S [pv A r, .adr (A.c "Pipe")] = some (.bl true) := by simp only [pv, pipeV, isi_own hA.p hA.p, decide_true]
theorem isi_pm (hA : NetsA A) : isiD (own A) (tab A) S [pv A r, .adr (A.c "Meter")] = some (.bl false) := by simp only [pv, pipeV, isi_own hA.p hA.m, decide_eq_false hA.pm]
theorem isi_mm (hA : NetsA A) : isiD (own A) (tab A) S [mv A f, .adr (A.c "Meter")] = some (.bl true) := by simp only [mv, meterV, isi_own hA.m hA.m, decide_true]
theorem isi_mp (hA : NetsA A) : isiD (own A) (tab A) S [mv A f, .adr (A.c "Pipe")] = some (.bl false) := by simp only [mv, meterV, isi_own hA.m hA.p, decide_eq_false hA.pm.symm]
theorem isi_nn (hA : NetsA A) : isiD (own A) (tab A) S [netV A rs fs, .adr (A.c "Net")] = some (.bl true) := by simp only [netV, isi_own hA.n hA.n, decide_true]
theorem ob_pv : isOb (A.c "Pipe") S (pv A r) = True := isOb_p
theorem ob_mv : isOb (A.c "Meter") S (mv A f) = True := isOb_m
theorem ob_nv : isOb (A.c "Net") S (netV A rs fs) = True := by simp [isOb, netV]
theorem pv_name : G_Pipe_name A [pv A r] S q x = q (.str r.1) S := p_name
theorem pv_start : G_Pipe_start A [pv A r] S q x = q (.str r.2.1) S := p_start
theorem pv_end : G_Pipe_end A [pv A r] S q x = q (.str r.2.2) S := p_end
theorem mv_name : G_Meter_name A [mv A f] S q x = q (.str f.1) S := m_name
theorem mv_at : G_Meter_at A [mv A f] S q x = q (.str f.2.1) S := m_at
theorem mv_sealed : G_Meter_sealed A [mv A f] S q x = q (.bl f.2.2) S := m_sealed
theorem lenD_tup {ds : List D} : lenD S [.tup ds] = some (.int (ds.length : Nat)) := rfl
/-! ### the checks -/
theorem check_pipes_ok (hA : NetsA A) (h : LaidOk rs) (hq : q .non S) : G_check_pipes A [.tup (rs.map (pv A))] S q x := by
  have hl : 1 ≤ (rs.map (pv A)).length := by rw [List.length_map]; exact h.lo
  rw [D_check_pipes]
  unfold fnD startE
  simp only [List.map_cons, List.map_nil, List.length_cons, List.length_nil, Nat.reduceAdd, Nat.reduceSub, List.replicate, List.cons_append, List.nil_append, List.append_nil, Nat.zero_add]
  unfold B_check_pipes
  refine seq_gen fun N_ hN_ => ?_
  try simp -implicitDefEqProofs only [eVar, eC, eOp, eUn, aNil, aCons, eSeq, eCall, eFn, bBl, onB_bl, bTru, eNotT, bAnd, bOr, bNot, eAnd, eOr, eIf, bChain, iteB_t, iteB_f, sNil, sSeq, sRet, sDrop, sAsg, sIf, sBreak, sCont, sAsgG, sPar2, sPar3, sSetIx, sPairSet, sAppend, onL, onI_i, onT_s, onTu_t, onCe_c, on1_, on2_, on3_, onLst_l, onOb_o, onSeq_l, onSeq_r, onSeq_c, lkD_s, lkD_n, lkO_s, lkO_n, finO, sFldD, setFD, eProp, isOb_obj, eMake, eMakeK, eMakeL, eLc, eNew, eSl, oNone, oSome, eOpM, eCallM, eCm, eCmK, eOpT, jNil, jCons, eJoin, aStar, sCalm, sFor, iRange1, iSeq, iTupD, iStrD, iEnumT, tName, tTup_t, tsCons_c, tsNil_n, any_t, onS_some, look0, look1, look2, look3, look4, look5, look6, look7, look8, look9, look10, look11, look12, look13, look14, look15, bYes, wipeE, List.set_cons_zero, List.set_cons_succ, List.length_cons, List.length_nil, List.append_nil, List.nil_append, List.cons_append, List.append_assoc, Nat.zero_add, Nat.reduceAdd, Nat.reduceSub, Nat.reduceEqDiff, Nat.reduceLT, Nat.reduceLeDiff, Int.reduceNeg, true_and, and_true, and_self, if_true, if_false, Bool.not_true, Bool.not_false, Bool.false_eq_true, reduceIte, reduceCtorEq, decide_true, decide_false, ltD_int, leD_int, gtD_int, geD_int, subD_int, addD_int, intOf_int, absD_int, eqD_int, eqD_str, neD_str, neD_int, isN_non, truD_bl, eqD_bl, neD_bl, Option.map_some, Option.bind_some, small_0, small_1, small_2, small_3, small_4, small_5, small_6, small_7, small_8, st_app, st_len, fin_st, fin_stT, fin_self, ite_self, isi_tup, lenD_tup, show decide ((((rs.map (pv A)).length : Nat) : Int) = 0) = false from decide_eq_false (by omega)]
  subst hN_
  refine seq_gen fun N_ hN_ => ?_
  try simp -implicitDefEqProofs only [eVar, eC, eOp, eUn, aNil, aCons, eSeq, eCall, eFn, bBl, onB_bl, bTru, eNotT, bAnd, bOr, bNot, eAnd, eOr, eIf, bChain, iteB_t, iteB_f, sNil, sSeq, sRet, sDrop, sAsg, sIf, sBreak, sCont, sAsgG, sPar2, sPar3, sSetIx, sPairSet, sAppend, onL, onI_i, onT_s, onTu_t, onCe_c, on1_, on2_, on3_, onLst_l, onOb_o, onSeq_l, onSeq_r, onSeq_c, lkD_s, lkD_n, lkO_s, lkO_n, finO, sFldD, setFD, eProp, isOb_obj, eMake, eMakeK, eMakeL, eLc, eNew, eSl, oNone, oSome, eOpM, eCallM, eCm, eCmK, eOpT, jNil, jCons, eJoin, aStar, sCalm, sFor, iRange1, iSeq, iTupD, iStrD, iEnumT, tName, tTup_t, tsCons_c, tsNil_n, any_t, onS_some, look0, look1, look2, look3, look4, look5, look6, look7, look8, look9, look10, look11, look12, look13, look14, look15, bYes, wipeE, List.set_cons_zero, List.set_cons_succ, List.length_cons, List.length_nil, List.append_nil, List.nil_append, List.cons_append, List.append_assoc, Nat.zero_add, Nat.reduceAdd, Nat.reduceSub, Nat.reduceEqDiff, Nat.reduceLT, Nat.reduceLeDiff, Int.reduceNeg, true_and, and_true, and_self, if_true, if_false, Bool.not_true, Bool.not_false, Bool.false_eq_true, reduceIte, reduceCtorEq, decide_true, decide_false, ltD_int, leD_int, gtD_int, geD_int, subD_int, addD_int, intOf_int, absD_int, eqD_int, eqD_str, neD_str, neD_int, isN_non, truD_bl, eqD_bl, neD_bl, Option.map_some, Option.bind_some, small_0, small_1, small_2, small_3, small_4, small_5, small_6, small_7, small_8, st_app, st_len, fin_st, fin_stT, fin_self, ite_self, D.cleanL]
  subst hN_
  try simp -implicitDefEqProofs only [eVar, eC, eOp, eUn, aNil, aCons, eSeq, eCall, eFn, bBl, onB_bl, bTru, eNotT, bAnd, bOr, bNot, eAnd, eOr, eIf, bChain, iteB_t, iteB_f, sNil, sSeq, sRet, sDrop, sAsg, sIf, sBreak, sCont, sAsgG, sPar2, sPar3, sSetIx, sPairSet, sAppend, onL, onI_i, onT_s, onTu_t, onCe_c, on1_, on2_, on3_, onLst_l, onOb_o, onSeq_l, onSeq_r, onSeq_c, lkD_s, lkD_n, lkO_s, lkO_n, finO, sFldD, setFD, eProp, isOb_obj, eMake, eMakeK, eMakeL, eLc, eNew, eSl, oNone, oSome, eOpM, eCallM, eCm, eCmK, eOpT, jNil, jCons, eJoin, aStar, sCalm, sFor, iRange1, iSeq, iTupD, iStrD, iEnumT, tName, tTup_t, tsCons_c, tsNil_n, any_t, onS_some, look0, look1, look2, look3, look4, look5, look6, look7, look8, look9, look10, look11, look12, look13, look14, look15, bYes, wipeE, List.set_cons_zero, List.set_cons_succ, List.length_cons, List.length_nil, List.append_nil, List.nil_append, List.cons_append, List.append_assoc, Nat.zero_add, Nat.reduceAdd, Nat.reduceSub, Nat.reduceEqDiff, Nat.reduceLT, Nat.reduceLeDiff, Int.reduceNeg, true_and, and_true, and_self, if_true, if_false, Bool.not_true, Bool.not_false, Bool.false_eq_true, reduceIte, reduceCtorEq, decide_true, decide_false, ltD_int, leD_int, gtD_int, geD_int, subD_int, addD_int, intOf_int, absD_int, eqD_int, eqD_str, neD_str, neD_int, isN_non, truD_bl, eqD_bl, neD_bl, Option.map_some, Option.bind_some, small_0, small_1, small_2, small_3, small_4, small_5, small_6, small_7, small_8, st_app, st_len, fin_st, fin_stT, fin_self, ite_self]
  have go : ∀ (rest : List LR) (done : List Str) (o2 o3 : Option D) (kt : Kt), (done ++ rest.map (·.1)).Nodup → done.length + rest.length ≤ 12 → (∀ o2 o3, kt.nx [some (.tup (rs.map (pv A))), some (.cell S.length), o2, o3] (S ++ [.lst ((done ++ rest.map (·.1)).map D.str)])) →
      forD any_ (tTupD 2 (tsCons (tName 2) (tsCons (tName 3) (tsNil)))) (sSeq (sIf (bOr (bNot (bTru truD (eCall (isiD (own A) (tab A)) (aCons (eVar 3) (aCons (eC (.adr (A.c "Pipe"))) (aNil)))))) (bOr (bBl (eOp (inD false) (eProp (A.c "Pipe") (G_Pipe_name A) (eVar 3)) (eVar 1))) (bBl (eOp geD (eVar 2) (eC (.int 12)))))) (sNever) (sNil)) (sAppend (eVar 1) (eProp (A.c "Pipe") (G_Pipe_name A) (eVar 3))))
        (enumL done.length (rest.map (pv A))) [some (.tup (rs.map (pv A))), some (.cell S.length), o2, o3] (S ++ [.lst (done.map D.str)]) kt := fun rest => by
    induction rest with
    | nil =>
      intro done o2 o3 kt nd hl hk
      have := hk o2 o3
      rw [List.map_nil, List.append_nil] at this
      exact ⟨trivial, this⟩
    | cons r rest ih =>
      intro done o2 o3 kt nd hl hk
      simp only [List.length_cons] at hl
      have hno : r.1 ∉ done := fun z => by
        rw [List.nodup_append] at nd
        exact nd.2.2 r.1 z r.1 (by simp) rfl
      have hin : inD false (S ++ [.lst (done.map D.str)]) (.str r.1) (.cell S.length) = some (.bl false) := by
        rw [in_strs (ts := done) (by simp [itemsD])]
        simp [hno]
      have hge : decide ((12 : Int) ≤ ((done.length : Nat) : Int)) = false := decide_eq_false (by omega)
      have hsm : small (done.map D.str).length = true := small_of (by simp; omega)
      have ih' := ih (done ++ [r.1]) (some (.int (done.length : Nat))) (some (pv A r)) kt (by simpa using nd) (by simp; omega) (fun o2 o3 => by simpa using hk o2 o3)
      rw [List.map_append, List.length_append] at ih'
      rw [List.map_cons, enumL, for_cons]
      try simp -implicitDefEqProofs only [eVar, eC, eOp, eUn, aNil, aCons, eSeq, eCall, eFn, bBl, onB_bl, bTru, eNotT, bAnd, bOr, bNot, eAnd, eOr, eIf, bChain, iteB_t, iteB_f, sNil, sSeq, sRet, sDrop, sAsg, sIf, sBreak, sCont, sAsgG, sPar2, sPar3, sSetIx, sPairSet, sAppend, onL, onI_i, onT_s, onTu_t, onCe_c, on1_, on2_, on3_, onLst_l, onOb_o, onSeq_l, onSeq_r, onSeq_c, lkD_s, lkD_n, lkO_s, lkO_n, finO, sFldD, setFD, eProp, isOb_obj, eMake, eMakeK, eMakeL, eLc, eNew, eSl, oNone, oSome, eOpM, eCallM, eCm, eCmK, eOpT, jNil, jCons, eJoin, aStar, sCalm, sFor, iRange1, iSeq, iTupD, iStrD, iEnumT, tName, tTup_t, tsCons_c, tsNil_n, any_t, onS_some, look0, look1, look2, look3, look4, look5, look6, look7, look8, look9, look10, look11, look12, look13, look14, look15, bYes, wipeE, List.set_cons_zero, List.set_cons_succ, List.length_cons, List.length_nil, List.append_nil, List.nil_append, List.cons_append, List.append_assoc, Nat.zero_add, Nat.reduceAdd, Nat.reduceSub, Nat.reduceEqDiff, Nat.reduceLT, Nat.reduceLeDiff, Int.reduceNeg, true_and, and_true, and_self, if_true, if_false, Bool.not_true, Bool.not_false, Bool.false_eq_true, reduceIte, reduceCtorEq, decide_true, decide_false, ltD_int, leD_int, gtD_int, geD_int, subD_int, addD_int, intOf_int, absD_int, eqD_int, eqD_str, neD_str, neD_int, isN_non, truD_bl, eqD_bl, neD_bl, Option.map_some, Option.bind_some, small_0, small_1, small_2, small_3, small_4, small_5, small_6, small_7, small_8, st_app, st_len, fin_st, fin_stT, fin_self, ite_self, isi_pp hA, ob_pv, pv_name, hin, hge, app_at0, app_set0, D.clean, hsm]
      exact ih'
  refine go rs [] none none _ (by simpa using h.nd) (by simpa using h.hi) fun o2 o3 => ?_
  try simp -implicitDefEqProofs only [eVar, eC, eOp, eUn, aNil, aCons, eSeq, eCall, eFn, bBl, onB_bl, bTru, eNotT, bAnd, bOr, bNot, eAnd, eOr, eIf, bChain, iteB_t, iteB_f, sNil, sSeq, sRet, sDrop, sAsg, sIf, sBreak, sCont, sAsgG, sPar2, sPar3, sSetIx, sPairSet, sAppend, onL, onI_i, onT_s, onTu_t, onCe_c, on1_, on2_, on3_, onLst_l, onOb_o, onSeq_l, onSeq_r, onSeq_c, lkD_s, lkD_n, lkO_s, lkO_n, finO, sFldD, setFD, eProp, isOb_obj, eMake, eMakeK, eMakeL, eLc, eNew, eSl, oNone, oSome, eOpM, eCallM, eCm, eCmK, eOpT, jNil, jCons, eJoin, aStar, sCalm, sFor, iRange1, iSeq, iTupD, iStrD, iEnumT, tName, tTup_t, tsCons_c, tsNil_n, any_t, onS_some, look0, look1, look2, look3, look4, look5, look6, look7, look8, look9, look10, look11, look12, look13, look14, look15, bYes, wipeE, List.set_cons_zero, List.set_cons_succ, List.length_cons, List.length_nil, List.append_nil, List.nil_append, List.cons_append, List.append_assoc, Nat.zero_add, Nat.reduceAdd, Nat.reduceSub, Nat.reduceEqDiff, Nat.reduceLT, Nat.reduceLeDiff, Int.reduceNeg, true_and, and_true, and_self, if_true, if_false, Bool.not_true, Bool.not_false, Bool.false_eq_true, reduceIte, reduceCtorEq, decide_true, decide_false, ltD_int, leD_int, gtD_int, geD_int, subD_int, addD_int, intOf_int, absD_int, eqD_int, eqD_str, neD_str, neD_int, isN_non, truD_bl, eqD_bl, neD_bl, Option.map_some, Option.bind_some, small_0, small_1, small_2, small_3, small_4, small_5, small_6, small_7, small_8, st_app, st_len, fin_st, fin_stT, fin_self, ite_self]
  rw [fin_app rfl (fun i h => by cases h)]
  exact hq
theorem check_meters_ok (hA : NetsA A) (hL : LaidOk rs) (h : FitsOk rs fs) (hq : q .non S) : G_check_meters A [.tup (fs.map (mv A)), .tup (rs.map (pv A))] S q x := by
  have hs : small (rs.map (pv A)).length = true := small_of (by rw [List.length_map]; have := hL.hi; omega)
  rw [D_check_meters]
  unfold fnD startE
  simp only [List.map_cons, List.map_nil, List.length_cons, List.length_nil, Nat.reduceAdd, Nat.reduceSub, List.replicate, List.cons_append, List.nil_append, List.append_nil, Nat.zero_add]
  unfold B_check_meters
  refine seq_gen fun N_ hN_ => ?_
  try simp -implicitDefEqProofs only [eVar, eC, eOp, eUn, aNil, aCons, eSeq, eCall, eFn, bBl, onB_bl, bTru, eNotT, bAnd, bOr, bNot, eAnd, eOr, eIf, bChain, iteB_t, iteB_f, sNil, sSeq, sRet, sDrop, sAsg, sIf, sBreak, sCont, sAsgG, sPar2, sPar3, sSetIx, sPairSet, sAppend, onL, onI_i, onT_s, onTu_t, onCe_c, on1_, on2_, on3_, onLst_l, onOb_o, onSeq_l, onSeq_r, onSeq_c, lkD_s, lkD_n, lkO_s, lkO_n, finO, sFldD, setFD, eProp, isOb_obj, eMake, eMakeK, eMakeL, eLc, eNew, eSl, oNone, oSome, eOpM, eCallM, eCm, eCmK, eOpT, jNil, jCons, eJoin, aStar, sCalm, sFor, iRange1, iSeq, iTupD, iStrD, iEnumT, tName, tTup_t, tsCons_c, tsNil_n, any_t, onS_some, look0, look1, look2, look3, look4, look5, look6, look7, look8, look9, look10, look11, look12, look13, look14, look15, bYes, wipeE, List.set_cons_zero, List.set_cons_succ, List.length_cons, List.length_nil, List.append_nil, List.nil_append, List.cons_append, List.append_assoc, Nat.zero_add, Nat.reduceAdd, Nat.reduceSub, Nat.reduceEqDiff, Nat.reduceLT, Nat.reduceLeDiff, Int.reduceNeg, true_and, and_true, and_self, if_true, if_false, Bool.not_true, Bool.not_false, Bool.false_eq_true, reduceIte, reduceCtorEq, decide_true, decide_false, ltD_int, leD_int, gtD_int, geD_int, subD_int, addD_int, intOf_int, absD_int, eqD_int, eqD_str, neD_str, neD_int, isN_non, truD_bl, eqD_bl, neD_bl, Option.map_some, Option.bind_some, small_0, small_1, small_2, small_3, small_4, small_5, small_6, small_7, small_8, st_app, st_len, fin_st, fin_stT, fin_self, ite_self, isi_tup]
  subst hN_
  refine seq_gen fun N_ hN_ => ?_
  try simp -implicitDefEqProofs only [eVar, eC, eOp, eUn, aNil, aCons, eSeq, eCall, eFn, bBl, onB_bl, bTru, eNotT, bAnd, bOr, bNot, eAnd, eOr, eIf, bChain, iteB_t, iteB_f, sNil, sSeq, sRet, sDrop, sAsg, sIf, sBreak, sCont, sAsgG, sPar2, sPar3, sSetIx, sPairSet, sAppend, onL, onI_i, onT_s, onTu_t, onCe_c, on1_, on2_, on3_, onLst_l, onOb_o, onSeq_l, onSeq_r, onSeq_c, lkD_s, lkD_n, lkO_s, lkO_n, finO, sFldD, setFD, eProp, isOb_obj, eMake, eMakeK, eMakeL, eLc, eNew, eSl, oNone, oSome, eOpM, eCallM, eCm, eCmK, eOpT, jNil, jCons, eJoin, aStar, sCalm, sFor, iRange1, iSeq, iTupD, iStrD, iEnumT, tName, tTup_t, tsCons_c, tsNil_n, any_t, onS_some, look0, look1, look2, look3, look4, look5, look6, look7, look8, look9, look10, look11, look12, look13, look14, look15, bYes, wipeE, List.set_cons_zero, List.set_cons_succ, List.length_cons, List.length_nil, List.append_nil, List.nil_append, List.cons_append, List.append_assoc, Nat.zero_add, Nat.reduceAdd, Nat.reduceSub, Nat.reduceEqDiff, Nat.reduceLT, Nat.reduceLeDiff, Int.reduceNeg, true_and, and_true, and_self, if_true, if_false, Bool.not_true, Bool.not_false, Bool.false_eq_true, reduceIte, reduceCtorEq, decide_true, decide_false, ltD_int, leD_int, gtD_int, geD_int, subD_int, addD_int, intOf_int, absD_int, eqD_int, eqD_str, neD_str, neD_int, isN_non, truD_bl, eqD_bl, neD_bl, Option.map_some, Option.bind_some, small_0, small_1, small_2, small_3, small_4, small_5, small_6, small_7, small_8, st_app, st_len, fin_st, fin_stT, fin_self, ite_self, hs]
  refine lc_map (g := fun r : LR => D.str r.1) _ trivial (fun r hr => ⟨_, rfl, fun q x => ?_⟩) ?_
  · try simp -implicitDefEqProofs only [eVar, eC, eOp, eUn, aNil, aCons, eSeq, eCall, eFn, bBl, onB_bl, bTru, eNotT, bAnd, bOr, bNot, eAnd, eOr, eIf, bChain, iteB_t, iteB_f, sNil, sSeq, sRet, sDrop, sAsg, sIf, sBreak, sCont, sAsgG, sPar2, sPar3, sSetIx, sPairSet, sAppend, onL, onI_i, onT_s, onTu_t, onCe_c, on1_, on2_, on3_, onLst_l, onOb_o, onSeq_l, onSeq_r, onSeq_c, lkD_s, lkD_n, lkO_s, lkO_n, finO, sFldD, setFD, eProp, isOb_obj, eMake, eMakeK, eMakeL, eLc, eNew, eSl, oNone, oSome, eOpM, eCallM, eCm, eCmK, eOpT, jNil, jCons, eJoin, aStar, sCalm, sFor, iRange1, iSeq, iTupD, iStrD, iEnumT, tName, tTup_t, tsCons_c, tsNil_n, any_t, onS_some, look0, look1, look2, look3, look4, look5, look6, look7, look8, look9, look10, look11, look12, look13, look14, look15, bYes, wipeE, List.set_cons_zero, List.set_cons_succ, List.length_cons, List.length_nil, List.append_nil, List.nil_append, List.cons_append, List.append_assoc, Nat.zero_add, Nat.reduceAdd, Nat.reduceSub, Nat.reduceEqDiff, Nat.reduceLT, Nat.reduceLeDiff, Int.reduceNeg, true_and, and_true, and_self, if_true, if_false, Bool.not_true, Bool.not_false, Bool.false_eq_true, reduceIte, reduceCtorEq, decide_true, decide_false, ltD_int, leD_int, gtD_int, geD_int, subD_int, addD_int, intOf_int, absD_int, eqD_int, eqD_str, neD_str, neD_int, isN_non, truD_bl, eqD_bl, neD_bl, Option.map_some, Option.bind_some, small_0, small_1, small_2, small_3, small_4, small_5, small_6, small_7, small_8, st_app, st_len, fin_st, fin_stT, fin_self, ite_self, ob_pv, pv_name]
  subst hN_
  refine seq_gen fun N_ hN_ => ?_
  try simp -implicitDefEqProofs only [eVar, eC, eOp, eUn, aNil, aCons, eSeq, eCall, eFn, bBl, onB_bl, bTru, eNotT, bAnd, bOr, bNot, eAnd, eOr, eIf, bChain, iteB_t, iteB_f, sNil, sSeq, sRet, sDrop, sAsg, sIf, sBreak, sCont, sAsgG, sPar2, sPar3, sSetIx, sPairSet, sAppend, onL, onI_i, onT_s, onTu_t, onCe_c, on1_, on2_, on3_, onLst_l, onOb_o, onSeq_l, onSeq_r, onSeq_c, lkD_s, lkD_n, lkO_s, lkO_n, finO, sFldD, setFD, eProp, isOb_obj, eMake, eMakeK, eMakeL, eLc, eNew, eSl, oNone, oSome, eOpM, eCallM, eCm, eCmK, eOpT, jNil, jCons, eJoin, aStar, sCalm, sFor, iRange1, iSeq, iTupD, iStrD, iEnumT, tName, tTup_t, tsCons_c, tsNil_n, any_t, onS_some, look0, look1, look2, look3, look4, look5, look6, look7, look8, look9, look10, look11, look12, look13, look14, look15, bYes, wipeE, List.set_cons_zero, List.set_cons_succ, List.length_cons, List.length_nil, List.append_nil, List.nil_append, List.cons_append, List.append_assoc, Nat.zero_add, Nat.reduceAdd, Nat.reduceSub, Nat.reduceEqDiff, Nat.reduceLT, Nat.reduceLeDiff, Int.reduceNeg, true_and, and_true, and_self, if_true, if_false, Bool.not_true, Bool.not_false, Bool.false_eq_true, reduceIte, reduceCtorEq, decide_true, decide_false, ltD_int, leD_int, gtD_int, geD_int, subD_int, addD_int, intOf_int, absD_int, eqD_int, eqD_str, neD_str, neD_int, isN_non, truD_bl, eqD_bl, neD_bl, Option.map_some, Option.bind_some, small_0, small_1, small_2, small_3, small_4, small_5, small_6, small_7, small_8, st_app, st_len, fin_st, fin_stT, fin_self, ite_self, D.cleanL]
  subst hN_
  try simp -implicitDefEqProofs only [eVar, eC, eOp, eUn, aNil, aCons, eSeq, eCall, eFn, bBl, onB_bl, bTru, eNotT, bAnd, bOr, bNot, eAnd, eOr, eIf, bChain, iteB_t, iteB_f, sNil, sSeq, sRet, sDrop, sAsg, sIf, sBreak, sCont, sAsgG, sPar2, sPar3, sSetIx, sPairSet, sAppend, onL, onI_i, onT_s, onTu_t, onCe_c, on1_, on2_, on3_, onLst_l, onOb_o, onSeq_l, onSeq_r, onSeq_c, lkD_s, lkD_n, lkO_s, lkO_n, finO, sFldD, setFD, eProp, isOb_obj, eMake, eMakeK, eMakeL, eLc, eNew, eSl, oNone, oSome, eOpM, eCallM, eCm, eCmK, eOpT, jNil, jCons, eJoin, aStar, sCalm, sFor, iRange1, iSeq, iTupD, iStrD, iEnumT, tName, tTup_t, tsCons_c, tsNil_n, any_t, onS_some, look0, look1, look2, look3, look4, look5, look6, look7, look8, look9, look10, look11, look12, look13, look14, look15, bYes, wipeE, List.set_cons_zero, List.set_cons_succ, List.length_cons, List.length_nil, List.append_nil, List.nil_append, List.cons_append, List.append_assoc, Nat.zero_add, Nat.reduceAdd, Nat.reduceSub, Nat.reduceEqDiff, Nat.reduceLT, Nat.reduceLeDiff, Int.reduceNeg, true_and, and_true, and_self, if_true, if_false, Bool.not_true, Bool.not_false, Bool.false_eq_true, reduceIte, reduceCtorEq, decide_true, decide_false, ltD_int, leD_int, gtD_int, geD_int, subD_int, addD_int, intOf_int, absD_int, eqD_int, eqD_str, neD_str, neD_int, isN_non, truD_bl, eqD_bl, neD_bl, Option.map_some, Option.bind_some, small_0, small_1, small_2, small_3, small_4, small_5, small_6, small_7, small_8, st_app, st_len, fin_st, fin_stT, fin_self, ite_self]
  have go : ∀ (rest : List FR) (done : List Str) (o2 o3 o6 : Option D) (kt : Kt), (∀ f ∈ rest, f.2.1 ∈ rs.map (·.1)) → (done ++ rest.map (·.1)).Nodup → done.length + rest.length ≤ 12 → (∀ o2 o3, kt.nx [some (.tup (fs.map (mv A))), some (.tup (rs.map (pv A))), some (.lst (rs.map fun r => D.str r.1)), some (.cell S.length), o2, o3, o6] (S ++ [.lst ((done ++ rest.map (·.1)).map D.str)])) →
      forD any_ (tTupD 2 (tsCons (tName 4) (tsCons (tName 5) (tsNil)))) (sSeq (sIf (bOr (bNot (bTru truD (eCall (isiD (own A) (tab A)) (aCons (eVar 5) (aCons (eC (.adr (A.c "Meter"))) (aNil)))))) (bOr (bBl (eOp (inD false) (eProp (A.c "Meter") (G_Meter_name A) (eVar 5)) (eVar 3))) (bOr (bBl (eOp (inD true) (eProp (A.c "Meter") (G_Meter_at A) (eVar 5)) (eVar 2))) (bBl (eOp geD (eVar 4) (eC (.int 12))))))) (sNever) (sNil)) (sAppend (eVar 3) (eProp (A.c "Meter") (G_Meter_name A) (eVar 5))))
        (enumL done.length (rest.map (mv A))) [some (.tup (fs.map (mv A))), some (.tup (rs.map (pv A))), some (.lst (rs.map fun r => D.str r.1)), some (.cell S.length), o2, o3, o6] (S ++ [.lst (done.map D.str)]) kt := fun rest => by
    induction rest with
    | nil =>
      intro done o2 o3 o6 kt ha nd hl hk
      have := hk o2 o3
      rw [List.map_nil, List.append_nil] at this
      exact ⟨trivial, this⟩
    | cons r rest ih =>
      intro done o2 o3 o6 kt ha nd hl hk
      simp only [List.length_cons] at hl
      have hno : r.1 ∉ done := fun z => by
        rw [List.nodup_append] at nd
        exact nd.2.2 r.1 z r.1 (by simp) rfl
      have hin : inD false (S ++ [.lst (done.map D.str)]) (.str r.1) (.cell S.length) = some (.bl false) := by
        rw [in_strs (ts := done) (by simp [itemsD])]
        simp [hno]
      have hat : inD true (S ++ [.lst (done.map D.str)]) (.str r.2.1) (.lst (rs.map fun r => D.str r.1)) = some (.bl false) := by
        rw [in_strs (ts := rs.map (·.1)) (by simp [itemsD])]
        have z := ha r (List.mem_cons_self ..)
        simp only [z, not_true, decide_false, if_true]
      have hge : decide ((12 : Int) ≤ ((done.length : Nat) : Int)) = false := decide_eq_false (by omega)
      have hsm : small (done.map D.str).length = true := small_of (by simp; omega)
      have ih' := ih (done ++ [r.1]) (some (.int (done.length : Nat))) (some (mv A r)) o6 kt (fun f hf => ha f (List.mem_cons_of_mem _ hf)) (by simpa using nd) (by simp; omega) (fun o2 o3 => by simpa using hk o2 o3)
      rw [List.map_append, List.length_append] at ih'
      rw [List.map_cons, enumL, for_cons]
      try simp -implicitDefEqProofs only [eVar, eC, eOp, eUn, aNil, aCons, eSeq, eCall, eFn, bBl, onB_bl, bTru, eNotT, bAnd, bOr, bNot, eAnd, eOr, eIf, bChain, iteB_t, iteB_f, sNil, sSeq, sRet, sDrop, sAsg, sIf, sBreak, sCont, sAsgG, sPar2, sPar3, sSetIx, sPairSet, sAppend, onL, onI_i, onT_s, onTu_t, onCe_c, on1_, on2_, on3_, onLst_l, onOb_o, onSeq_l, onSeq_r, onSeq_c, lkD_s, lkD_n, lkO_s, lkO_n, finO, sFldD, setFD, eProp, isOb_obj, eMake, eMakeK, eMakeL, eLc, eNew, eSl, oNone, oSome, eOpM, eCallM, eCm, eCmK, eOpT, jNil, jCons, eJoin, aStar, sCalm, sFor, iRange1, iSeq, iTupD, iStrD, iEnumT, tName, tTup_t, tsCons_c, tsNil_n, any_t, onS_some, look0, look1, look2, look3, look4, look5, look6, look7, look8, look9, look10, look11, look12, look13, look14, look15, bYes, wipeE, List.set_cons_zero, List.set_cons_succ, List.length_cons, List.length_nil, List.append_nil, List.nil_append, List.cons_append, List.append_assoc, Nat.zero_add, Nat.reduceAdd, Nat.reduceSub, Nat.reduceEqDiff, Nat.reduceLT, Nat.reduceLeDiff, Int.reduceNeg, true_and, and_true, and_self, if_true, if_false, Bool.not_true, Bool.not_false, Bool.false_eq_true, reduceIte, reduceCtorEq, decide_true, decide_false, ltD_int, leD_int, gtD_int, geD_int, subD_int, addD_int, intOf_int, absD_int, eqD_int, eqD_str, neD_str, neD_int, isN_non, truD_bl, eqD_bl, neD_bl, Option.map_some, Option.bind_some, small_0, small_1, small_2, small_3, small_4, small_5, small_6, small_7, small_8, st_app, st_len, fin_st, fin_stT, fin_self, ite_self, isi_mm hA, ob_mv, mv_name, mv_at, hin, hat, hge, app_at0, app_set0, D.clean, hsm]
      exact ih'
  refine go fs [] none none none _ h.at_ (by simpa using h.nd) (by simpa using h.hi) fun o2 o3 => ?_
  try simp -implicitDefEqProofs only [eVar, eC, eOp, eUn, aNil, aCons, eSeq, eCall, eFn, bBl, onB_bl, bTru, eNotT, bAnd, bOr, bNot, eAnd, eOr, eIf, bChain, iteB_t, iteB_f, sNil, sSeq, sRet, sDrop, sAsg, sIf, sBreak, sCont, sAsgG, sPar2, sPar3, sSetIx, sPairSet, sAppend, onL, onI_i, onT_s, onTu_t, onCe_c, on1_, on2_, on3_, onLst_l, onOb_o, onSeq_l, onSeq_r, onSeq_c, lkD_s, lkD_n, lkO_s, lkO_n, finO, sFldD, setFD, eProp, isOb_obj, eMake, eMakeK, eMakeL, eLc, eNew, eSl, oNone, oSome, eOpM, eCallM, eCm, eCmK, eOpT, jNil, jCons, eJoin, aStar, sCalm, sFor, iRange1, iSeq, iTupD, iStrD, iEnumT, tName, tTup_t, tsCons_c, tsNil_n, any_t, onS_some, look0, look1, look2, look3, look4, look5, look6, look7, look8, look9, look10, look11, look12, look13, look14, look15, bYes, wipeE, List.set_cons_zero, List.set_cons_succ, List.length_cons, List.length_nil, List.append_nil, List.nil_append, List.cons_append, List.append_assoc, Nat.zero_add, Nat.reduceAdd, Nat.reduceSub, Nat.reduceEqDiff, Nat.reduceLT, Nat.reduceLeDiff, Int.reduceNeg, true_and, and_true, and_self, if_true, if_false, Bool.not_true, Bool.not_false, Bool.false_eq_true, reduceIte, reduceCtorEq, decide_true, decide_false, ltD_int, leD_int, gtD_int, geD_int, subD_int, addD_int, intOf_int, absD_int, eqD_int, eqD_str, neD_str, neD_int, isN_non, truD_bl, eqD_bl, neD_bl, Option.map_some, Option.bind_some, small_0, small_1, small_2, small_3, small_4, small_5, small_6, small_7, small_8, st_app, st_len, fin_st, fin_stT, fin_self, ite_self]
  rw [fin_app rfl (fun i h => by cases h)]
  exact hq
theorem clean_pv {n : Nat} : D.clean n (pv A r) = true := rfl
theorem clean_mv {n : Nat} : D.clean n (mv A f) = true := rfl
theorem cleanL_map {α : Type} {g : α → D} {n : Nat} {xs : List α} (h : ∀ a ∈ xs, D.clean n (g a) = true) : D.cleanL n (xs.map g) = true := by
  induction xs with
  | nil => rfl
  | cons a xs ih => simp [D.cleanL, h a (List.mem_cons_self ..), ih fun b hb => h b (List.mem_cons_of_mem _ hb)]
theorem clean_tupP {n : Nat} : D.clean n (.tup (rs.map (pv A))) = true := by
  unfold D.clean
  exact cleanL_map fun _ _ => rfl
theorem clean_tupM {n : Nat} : D.clean n (.tup (fs.map (mv A))) = true := by
  unfold D.clean
  exact cleanL_map fun _ _ => rfl
theorem jf : ¬ (("joined" : Str) = "fitted") := by decide +kernel
theorem put_j {d : D} : putD "joined" d [] = [(("joined" : Str), d)] := rfl
theorem put_f {d e : D} : putD "fitted" e [(("joined" : Str), d)] = [(("joined" : Str), d), (("fitted" : Str), e)] := by
  unfold putD
  rw [if_neg jf]
  rfl
theorem net_ok (hA : NetsA A) (hL : LaidOk rs) (h : FitsOk rs fs) (hq : q (netV A rs fs) S) : makeD .still (A.c "Net") 3 (G_Net_init A) [.tup (rs.map (pv A)), .tup (fs.map (mv A))] S q x := by
  refine ⟨rfl, ?_⟩
  rw [D_Net_init]
  unfold fnD startE
  simp only [List.map_cons, List.map_nil, List.length_cons, List.length_nil, Nat.reduceAdd, Nat.reduceSub, List.replicate, List.cons_append, List.nil_append, List.append_nil, Nat.zero_add]
  unfold B_Net_init
  refine seq_gen fun N_ hN_ => ?_
  try simp -implicitDefEqProofs only [eVar, eC, eOp, eUn, aNil, aCons, eSeq, eCall, eFn, bBl, onB_bl, bTru, eNotT, bAnd, bOr, bNot, eAnd, eOr, eIf, bChain, iteB_t, iteB_f, sNil, sSeq, sRet, sDrop, sAsg, sIf, sBreak, sCont, sAsgG, sPar2, sPar3, sSetIx, sPairSet, sAppend, onL, onI_i, onT_s, onTu_t, onCe_c, on1_, on2_, on3_, onLst_l, onOb_o, onSeq_l, onSeq_r, onSeq_c, lkD_s, lkD_n, lkO_s, lkO_n, finO, sFldD, setFD, eProp, isOb_obj, eMake, eMakeK, eMakeL, eLc, eNew, eSl, oNone, oSome, eOpM, eCallM, eCm, eCmK, eOpT, jNil, jCons, eJoin, aStar, sCalm, sFor, iRange1, iSeq, iTupD, iStrD, iEnumT, tName, tTup_t, tsCons_c, tsNil_n, any_t, onS_some, look0, look1, look2, look3, look4, look5, look6, look7, look8, look9, look10, look11, look12, look13, look14, look15, bYes, wipeE, List.set_cons_zero, List.set_cons_succ, List.length_cons, List.length_nil, List.append_nil, List.nil_append, List.cons_append, List.append_assoc, Nat.zero_add, Nat.reduceAdd, Nat.reduceSub, Nat.reduceEqDiff, Nat.reduceLT, Nat.reduceLeDiff, Int.reduceNeg, true_and, and_true, and_self, if_true, if_false, Bool.not_true, Bool.not_false, Bool.false_eq_true, reduceIte, reduceCtorEq, decide_true, decide_false, ltD_int, leD_int, gtD_int, geD_int, subD_int, addD_int, intOf_int, absD_int, eqD_int, eqD_str, neD_str, neD_int, isN_non, truD_bl, eqD_bl, neD_bl, Option.map_some, Option.bind_some, small_0, small_1, small_2, small_3, small_4, small_5, small_6, small_7, small_8, st_app, st_len, fin_st, fin_stT, fin_self, ite_self]
  refine check_pipes_ok hA hL ?_
  subst hN_
  refine seq_gen fun N_ hN_ => ?_
  try simp -implicitDefEqProofs only [eVar, eC, eOp, eUn, aNil, aCons, eSeq, eCall, eFn, bBl, onB_bl, bTru, eNotT, bAnd, bOr, bNot, eAnd, eOr, eIf, bChain, iteB_t, iteB_f, sNil, sSeq, sRet, sDrop, sAsg, sIf, sBreak, sCont, sAsgG, sPar2, sPar3, sSetIx, sPairSet, sAppend, onL, onI_i, onT_s, onTu_t, onCe_c, on1_, on2_, on3_, onLst_l, onOb_o, onSeq_l, onSeq_r, onSeq_c, lkD_s, lkD_n, lkO_s, lkO_n, finO, sFldD, setFD, eProp, isOb_obj, eMake, eMakeK, eMakeL, eLc, eNew, eSl, oNone, oSome, eOpM, eCallM, eCm, eCmK, eOpT, jNil, jCons, eJoin, aStar, sCalm, sFor, iRange1, iSeq, iTupD, iStrD, iEnumT, tName, tTup_t, tsCons_c, tsNil_n, any_t, onS_some, look0, look1, look2, look3, look4, look5, look6, look7, look8, look9, look10, look11, look12, look13, look14, look15, bYes, wipeE, List.set_cons_zero, List.set_cons_succ, List.length_cons, List.length_nil, List.append_nil, List.nil_append, List.cons_append, List.append_assoc, Nat.zero_add, Nat.reduceAdd, Nat.reduceSub, Nat.reduceEqDiff, Nat.reduceLT, Nat.reduceLeDiff, Int.reduceNeg, true_and, and_true, and_self, if_true, if_false, Bool.not_true, Bool.not_false, Bool.false_eq_true, reduceIte, reduceCtorEq, decide_true, decide_false, ltD_int, leD_int, gtD_int, geD_int, subD_int, addD_int, intOf_int, absD_int, eqD_int, eqD_str, neD_str, neD_int, isN_non, truD_bl, eqD_bl, neD_bl, Option.map_some, Option.bind_some, small_0, small_1, small_2, small_3, small_4, small_5, small_6, small_7, small_8, st_app, st_len, fin_st, fin_stT, fin_self, ite_self]
  refine check_meters_ok hA hL h ?_
  subst hN_
  refine seq_gen fun N_ hN_ => ?_
  try simp -implicitDefEqProofs only [eVar, eC, eOp, eUn, aNil, aCons, eSeq, eCall, eFn, bBl, onB_bl, bTru, eNotT, bAnd, bOr, bNot, eAnd, eOr, eIf, bChain, iteB_t, iteB_f, sNil, sSeq, sRet, sDrop, sAsg, sIf, sBreak, sCont, sAsgG, sPar2, sPar3, sSetIx, sPairSet, sAppend, onL, onI_i, onT_s, onTu_t, onCe_c, on1_, on2_, on3_, onLst_l, onOb_o, onSeq_l, onSeq_r, onSeq_c, lkD_s, lkD_n, lkO_s, lkO_n, finO, sFldD, setFD, eProp, isOb_obj, eMake, eMakeK, eMakeL, eLc, eNew, eSl, oNone, oSome, eOpM, eCallM, eCm, eCmK, eOpT, jNil, jCons, eJoin, aStar, sCalm, sFor, iRange1, iSeq, iTupD, iStrD, iEnumT, tName, tTup_t, tsCons_c, tsNil_n, any_t, onS_some, look0, look1, look2, look3, look4, look5, look6, look7, look8, look9, look10, look11, look12, look13, look14, look15, bYes, wipeE, List.set_cons_zero, List.set_cons_succ, List.length_cons, List.length_nil, List.append_nil, List.nil_append, List.cons_append, List.append_assoc, Nat.zero_add, Nat.reduceAdd, Nat.reduceSub, Nat.reduceEqDiff, Nat.reduceLT, Nat.reduceLeDiff, Int.reduceNeg, true_and, and_true, and_self, if_true, if_false, Bool.not_true, Bool.not_false, Bool.false_eq_true, reduceIte, reduceCtorEq, decide_true, decide_false, ltD_int, leD_int, gtD_int, geD_int, subD_int, addD_int, intOf_int, absD_int, eqD_int, eqD_str, neD_str, neD_int, isN_non, truD_bl, eqD_bl, neD_bl, Option.map_some, Option.bind_some, small_0, small_1, small_2, small_3, small_4, small_5, small_6, small_7, small_8, st_app, st_len, fin_st, fin_stT, fin_self, ite_self, app_at0, app_set0, clean_tupP, put_j, show (0 : Nat) < 1000 from by decide]
  subst hN_
  try simp -implicitDefEqProofs only [eVar, eC, eOp, eUn, aNil, aCons, eSeq, eCall, eFn, bBl, onB_bl, bTru, eNotT, bAnd, bOr, bNot, eAnd, eOr, eIf, bChain, iteB_t, iteB_f, sNil, sSeq, sRet, sDrop, sAsg, sIf, sBreak, sCont, sAsgG, sPar2, sPar3, sSetIx, sPairSet, sAppend, onL, onI_i, onT_s, onTu_t, onCe_c, on1_, on2_, on3_, onLst_l, onOb_o, onSeq_l, onSeq_r, onSeq_c, lkD_s, lkD_n, lkO_s, lkO_n, finO, sFldD, setFD, eProp, isOb_obj, eMake, eMakeK, eMakeL, eLc, eNew, eSl, oNone, oSome, eOpM, eCallM, eCm, eCmK, eOpT, jNil, jCons, eJoin, aStar, sCalm, sFor, iRange1, iSeq, iTupD, iStrD, iEnumT, tName, tTup_t, tsCons_c, tsNil_n, any_t, onS_some, look0, look1, look2, look3, look4, look5, look6, look7, look8, look9, look10, look11, look12, look13, look14, look15, bYes, wipeE, List.set_cons_zero, List.set_cons_succ, List.length_cons, List.length_nil, List.append_nil, List.nil_append, List.cons_append, List.append_assoc, Nat.zero_add, Nat.reduceAdd, Nat.reduceSub, Nat.reduceEqDiff, Nat.reduceLT, Nat.reduceLeDiff, Int.reduceNeg, true_and, and_true, and_self, if_true, if_false, Bool.not_true, Bool.not_false, Bool.false_eq_true, reduceIte, reduceCtorEq, decide_true, decide_false, ltD_int, leD_int, gtD_int, geD_int, subD_int, addD_int, intOf_int, absD_int, eqD_int, eqD_str, neD_str, neD_int, isN_non, truD_bl, eqD_bl, neD_bl, Option.map_some, Option.bind_some, small_0, small_1, small_2, small_3, small_4, small_5, small_6, small_7, small_8, st_app, st_len, fin_st, fin_stT, fin_self, ite_self, app_at0, app_set0, clean_tupM, put_f, fin_appS, take_app, show (1 : Nat) < 1000 from by decide]
  exact hq
end
end RV
end
section
/-! The texts of nets. -/
namespace RV
open PySem L2
section
variable {A : Ad} {S : WS} {q : D → WS → Prop} {x : Xq} {rs : List LR} {fs : List FR} {r : LR} {f : FR} {a b : D}
/-! ### lines -/
def lineP (r : LR) : Str := Txt.join " " ["pipe", r.1, r.2.1, r.2.2]
def lineM (f : FR) : Str := Txt.join " " ([("meter" : Str), f.1, f.2.1] ++ if f.2.2 then [("sealed" : Str)] else [])
theorem lineP_eq : lineP r = "pipe " ++ r.1 ++ " " ++ r.2.1 ++ " " ++ r.2.2 := by
  unfold lineP
  rw [TL.join_eq]
  refine str_ext ?_
  show (("pipe" : Str) ++ (" " : Str) ++ (r.1 ++ (" " : Str) ++ (r.2.1 ++ (" " : Str) ++ r.2.2))).cps.toList = _
  simp only [cat_cps, show ("pipe " : Str).cps.toList = ("pipe" : Str).cps.toList ++ (" " : Str).cps.toList from rfl, List.append_assoc]
theorem lineM_eq : lineM f = "meter " ++ f.1 ++ " " ++ f.2.1 ++ (if f.2.2 then (" sealed" : Str) else "") := by
  unfold lineM
  rw [TL.join_eq]
  refine str_ext ?_
  cases f.2.2 with
  | true =>
    show (("meter" : Str) ++ (" " : Str) ++ (f.1 ++ (" " : Str) ++ (f.2.1 ++ (" " : Str) ++ ("sealed" : Str)))).cps.toList = _
    simp only [if_true, cat_cps, show ("meter " : Str).cps.toList = ("meter" : Str).cps.toList ++ (" " : Str).cps.toList from rfl, show (" sealed" : Str).cps.toList = (" " : Str).cps.toList ++ ("sealed" : Str).cps.toList from rfl, List.append_assoc]
  | false =>
    show (("meter" : Str) ++ (" " : Str) ++ (f.1 ++ (" " : Str) ++ f.2.1)).cps.toList = _
    simp only [Bool.false_eq_true, if_false, cat_cps, show ("meter " : Str).cps.toList = ("meter" : Str).cps.toList ++ (" " : Str).cps.toList from rfl, show ("" : Str).cps.toList = [] from rfl, List.append_assoc, List.append_nil]
theorem emp_app {s : Str} : Str.empty ++ s = s := str_ext (by rw [cat_cps]; rfl)
theorem app_emp {s : Str} : s ++ ("" : Str) = s := str_ext (by rw [cat_cps]; exact List.append_nil _)
theorem len_pipe : ("pipe " : Str).length = 5 := by decide +kernel
theorem len_meter : ("meter " : Str).length = 6 := by decide +kernel
theorem len_sp : (" " : Str).length = 1 := by decide +kernel
theorem len_sealed : (" sealed" : Str).length = 7 := by decide +kernel
theorem fmt_str {s : Str} (h : small s.length = true) : fmtD S (.str s) = some (.str s) := by simp only [fmtD, h, if_true]
theorem emp_len : Str.empty.length = 0 := rfl
theorem line_p (hA : NetsA A) (h : RowOk r) : G_line_of A [pv A r] S q x = q (.str (lineP r)) S := by
  have l1 := (nm_len h.n).2
  have l2 := (nm_len h.s).2
  have l3 := (nm_len h.e).2
  rw [D_line_of]
  unfold fnD startE
  simp only [List.map_cons, List.map_nil, List.length_cons, List.length_nil, Nat.reduceAdd, Nat.reduceSub, List.replicate, List.cons_append, List.nil_append, List.append_nil, Nat.zero_add]
  unfold B_line_of
  try simp -implicitDefEqProofs only [eVar, eC, eOp, eUn, aNil, aCons, eSeq, eCall, eFn, bBl, onB_bl, bTru, eNotT, bAnd, bOr, bNot, eAnd, eOr, eIf, bChain, iteB_t, iteB_f, sNil, sSeq, sRet, sDrop, sAsg, sIf, sBreak, sCont, sAsgG, sPar2, sPar3, sSetIx, sPairSet, sAppend, onL, onI_i, onT_s, onTu_t, onCe_c, on1_, on2_, on3_, onLst_l, onOb_o, onSeq_l, onSeq_r, onSeq_c, lkD_s, lkD_n, lkO_s, lkO_n, finO, sFldD, setFD, eProp, isOb_obj, eMake, eMakeK, eMakeL, eLc, eNew, eSl, oNone, oSome, eOpM, eCallM, eCm, eCmK, eOpT, jNil, jCons, eJoin, aStar, sCalm, sFor, iRange1, iSeq, iTupD, iStrD, iEnumT, tName, tTup_t, tsCons_c, tsNil_n, any_t, onS_some, look0, look1, look2, look3, look4, look5, look6, look7, look8, look9, look10, look11, look12, look13, look14, look15, bYes, wipeE, List.set_cons_zero, List.set_cons_succ, List.length_cons, List.length_nil, List.append_nil, List.nil_append, List.cons_append, List.append_assoc, Nat.zero_add, Nat.reduceAdd, Nat.reduceSub, Nat.reduceEqDiff, Nat.reduceLT, Nat.reduceLeDiff, Int.reduceNeg, true_and, and_true, and_self, if_true, if_false, Bool.not_true, Bool.not_false, Bool.false_eq_true, reduceIte, reduceCtorEq, decide_true, decide_false, ltD_int, leD_int, gtD_int, geD_int, subD_int, addD_int, intOf_int, absD_int, eqD_int, eqD_str, neD_str, neD_int, isN_non, truD_bl, eqD_bl, neD_bl, Option.map_some, Option.bind_some, small_0, small_1, small_2, small_3, small_4, small_5, small_6, small_7, small_8, st_app, st_len, fin_st, fin_stT, fin_self, ite_self, isi_pp hA, ob_pv, pv_name, pv_start, pv_end, fmt_str (nm_small h.n), fmt_str (nm_small h.s), fmt_str (nm_small h.e), emp_app, cat_len, len_pipe, len_sp, emp_len]
  rw [small_of (by omega), small_of (by omega), small_of (by omega), small_of (by omega), small_of (by omega), lineP_eq]
  simp only [true_and]
theorem line_m (hA : NetsA A) (h1 : Nm f.1) (h2 : Nm f.2.1) : G_line_of A [mv A f] S q x = q (.str (lineM f)) S := by
  have l1 := (nm_len h1).2
  have l2 := (nm_len h2).2
  rw [lineM_eq]
  rw [D_line_of]
  unfold fnD startE
  simp only [List.map_cons, List.map_nil, List.length_cons, List.length_nil, Nat.reduceAdd, Nat.reduceSub, List.replicate, List.cons_append, List.nil_append, List.append_nil, Nat.zero_add]
  unfold B_line_of
  try simp -implicitDefEqProofs only [eVar, eC, eOp, eUn, aNil, aCons, eSeq, eCall, eFn, bBl, onB_bl, bTru, eNotT, bAnd, bOr, bNot, eAnd, eOr, eIf, bChain, iteB_t, iteB_f, sNil, sSeq, sRet, sDrop, sAsg, sIf, sBreak, sCont, sAsgG, sPar2, sPar3, sSetIx, sPairSet, sAppend, onL, onI_i, onT_s, onTu_t, onCe_c, on1_, on2_, on3_, onLst_l, onOb_o, onSeq_l, onSeq_r, onSeq_c, lkD_s, lkD_n, lkO_s, lkO_n, finO, sFldD, setFD, eProp, isOb_obj, eMake, eMakeK, eMakeL, eLc, eNew, eSl, oNone, oSome, eOpM, eCallM, eCm, eCmK, eOpT, jNil, jCons, eJoin, aStar, sCalm, sFor, iRange1, iSeq, iTupD, iStrD, iEnumT, tName, tTup_t, tsCons_c, tsNil_n, any_t, onS_some, look0, look1, look2, look3, look4, look5, look6, look7, look8, look9, look10, look11, look12, look13, look14, look15, bYes, wipeE, List.set_cons_zero, List.set_cons_succ, List.length_cons, List.length_nil, List.append_nil, List.nil_append, List.cons_append, List.append_assoc, Nat.zero_add, Nat.reduceAdd, Nat.reduceSub, Nat.reduceEqDiff, Nat.reduceLT, Nat.reduceLeDiff, Int.reduceNeg, true_and, and_true, and_self, if_true, if_false, Bool.not_true, Bool.not_false, Bool.false_eq_true, reduceIte, reduceCtorEq, decide_true, decide_false, ltD_int, leD_int, gtD_int, geD_int, subD_int, addD_int, intOf_int, absD_int, eqD_int, eqD_str, neD_str, neD_int, isN_non, truD_bl, eqD_bl, neD_bl, Option.map_some, Option.bind_some, small_0, small_1, small_2, small_3, small_4, small_5, small_6, small_7, small_8, st_app, st_len, fin_st, fin_stT, fin_self, ite_self, isi_mp hA, ob_mv, mv_name, mv_at, mv_sealed, fmt_str (nm_small h1), fmt_str (nm_small h2), emp_app, cat_len, len_meter, len_sp, len_sealed, emp_len]
  cases f.2.2 with
  | true =>
    try simp -implicitDefEqProofs only [eVar, eC, eOp, eUn, aNil, aCons, eSeq, eCall, eFn, bBl, onB_bl, bTru, eNotT, bAnd, bOr, bNot, eAnd, eOr, eIf, bChain, iteB_t, iteB_f, sNil, sSeq, sRet, sDrop, sAsg, sIf, sBreak, sCont, sAsgG, sPar2, sPar3, sSetIx, sPairSet, sAppend, onL, onI_i, onT_s, onTu_t, onCe_c, on1_, on2_, on3_, onLst_l, onOb_o, onSeq_l, onSeq_r, onSeq_c, lkD_s, lkD_n, lkO_s, lkO_n, finO, sFldD, setFD, eProp, isOb_obj, eMake, eMakeK, eMakeL, eLc, eNew, eSl, oNone, oSome, eOpM, eCallM, eCm, eCmK, eOpT, jNil, jCons, eJoin, aStar, sCalm, sFor, iRange1, iSeq, iTupD, iStrD, iEnumT, tName, tTup_t, tsCons_c, tsNil_n, any_t, onS_some, look0, look1, look2, look3, look4, look5, look6, look7, look8, look9, look10, look11, look12, look13, look14, look15, bYes, wipeE, List.set_cons_zero, List.set_cons_succ, List.length_cons, List.length_nil, List.append_nil, List.nil_append, List.cons_append, List.append_assoc, Nat.zero_add, Nat.reduceAdd, Nat.reduceSub, Nat.reduceEqDiff, Nat.reduceLT, Nat.reduceLeDiff, Int.reduceNeg, true_and, and_true, and_self, if_true, if_false, Bool.not_true, Bool.not_false, Bool.false_eq_true, reduceIte, reduceCtorEq, decide_true, decide_false, ltD_int, leD_int, gtD_int, geD_int, subD_int, addD_int, intOf_int, absD_int, eqD_int, eqD_str, neD_str, neD_int, isN_non, truD_bl, eqD_bl, neD_bl, Option.map_some, Option.bind_some, small_0, small_1, small_2, small_3, small_4, small_5, small_6, small_7, small_8, st_app, st_len, fin_st, fin_stT, fin_self, ite_self]
    rw [small_of (by omega), small_of (by omega), small_of (by omega), small_of (by omega)]
    simp only [true_and]
  | false =>
    try simp -implicitDefEqProofs only [eVar, eC, eOp, eUn, aNil, aCons, eSeq, eCall, eFn, bBl, onB_bl, bTru, eNotT, bAnd, bOr, bNot, eAnd, eOr, eIf, bChain, iteB_t, iteB_f, sNil, sSeq, sRet, sDrop, sAsg, sIf, sBreak, sCont, sAsgG, sPar2, sPar3, sSetIx, sPairSet, sAppend, onL, onI_i, onT_s, onTu_t, onCe_c, on1_, on2_, on3_, onLst_l, onOb_o, onSeq_l, onSeq_r, onSeq_c, lkD_s, lkD_n, lkO_s, lkO_n, finO, sFldD, setFD, eProp, isOb_obj, eMake, eMakeK, eMakeL, eLc, eNew, eSl, oNone, oSome, eOpM, eCallM, eCm, eCmK, eOpT, jNil, jCons, eJoin, aStar, sCalm, sFor, iRange1, iSeq, iTupD, iStrD, iEnumT, tName, tTup_t, tsCons_c, tsNil_n, any_t, onS_some, look0, look1, look2, look3, look4, look5, look6, look7, look8, look9, look10, look11, look12, look13, look14, look15, bYes, wipeE, List.set_cons_zero, List.set_cons_succ, List.length_cons, List.length_nil, List.append_nil, List.nil_append, List.cons_append, List.append_assoc, Nat.zero_add, Nat.reduceAdd, Nat.reduceSub, Nat.reduceEqDiff, Nat.reduceLT, Nat.reduceLeDiff, Int.reduceNeg, true_and, and_true, and_self, if_true, if_false, Bool.not_true, Bool.not_false, Bool.false_eq_true, reduceIte, reduceCtorEq, decide_true, decide_false, ltD_int, leD_int, gtD_int, geD_int, subD_int, addD_int, intOf_int, absD_int, eqD_int, eqD_str, neD_str, neD_int, isN_non, truD_bl, eqD_bl, neD_bl, Option.map_some, Option.bind_some, small_0, small_1, small_2, small_3, small_4, small_5, small_6, small_7, small_8, st_app, st_len, fin_st, fin_stT, fin_self, ite_self, app_emp]
    rw [small_of (by omega), small_of (by omega), small_of (by omega)]
    simp only [true_and]
def netText (rs : List LR) (fs : List FR) : Str := Txt.join "\n" (rs.map lineP ++ fs.map lineM)
theorem lineP_len (h : RowOk r) : (lineP r).length ≤ 40 := by
  rw [lineP_eq]
  simp only [cat_len, len_pipe, len_sp]
  have l1 := (nm_len h.n).2
  have l2 := (nm_len h.s).2
  have l3 := (nm_len h.e).2
  omega
theorem lineM_len (h1 : Nm f.1) (h2 : Nm f.2.1) : (lineM f).length ≤ 40 := by
  rw [lineM_eq]
  have l1 := (nm_len h1).2
  have l2 := (nm_len h2).2
  cases f.2.2
  · simp only [cat_len, len_meter, len_sp, Bool.false_eq_true, if_false, show ("" : Str).length = 0 from rfl]
    omega
  · simp only [cat_len, len_meter, len_sp, if_true, len_sealed]
    omega
theorem sum_le {xs : List Str} (h : ∀ s ∈ xs, s.length ≤ 40) : (xs.map (·.length)).sum ≤ 40 * xs.length := by
  induction xs with
  | nil => simp
  | cons a xs ih =>
    have h1 := h a (List.mem_cons_self ..)
    have h2 := ih fun s hs => h s (List.mem_cons_of_mem _ hs)
    simp only [List.map_cons, List.sum_cons, List.length_cons]
    omega
theorem strsD_map {xs : List Str} : strsD (xs.map D.str) = some xs := by
  induction xs with
  | nil => rfl
  | cons a xs ih => simp [strsD, ih]
theorem join_strs {x : D} {sep : Str} {xs : List Str} (hi : itemsD S x = some (xs.map D.str)) (h : (xs.map (·.length)).sum + xs.length * sep.length ≤ 100000) : joinD S (.str sep) x = some (.str (Txt.join sep xs)) := by
  simp only [joinD, onStr, hi, Option.bind_some, strsD_map, h, if_true]
theorem lines_len (hL : LaidOk rs) (hF : FitsOk rs fs) : ∀ s ∈ rs.map lineP ++ fs.map lineM, s.length ≤ 40 := fun s hs => by
  rcases List.mem_append.mp hs with h | h
  · obtain ⟨r, hr, rfl⟩ := List.mem_map.mp h
    exact lineP_len (hL.rows r hr)
  · obtain ⟨f, hf, rfl⟩ := List.mem_map.mp h
    exact lineM_len (hF.n f hf) (hF.nmAt hL hf)
theorem len_nl : ("\n" : Str).length = 1 := by decide +kernel
theorem lines_join (hL : LaidOk rs) (hF : FitsOk rs fs) {x : D} (hi : itemsD S x = some ((rs.map lineP ++ fs.map lineM).map D.str)) : joinD S (.str "\n") x = some (.str (netText rs fs)) := by
  refine join_strs hi ?_
  have h1 := sum_le (lines_len hL hF)
  have h2 := hL.hi
  have h3 := hF.hi
  rw [len_nl]
  simp only [List.length_append, List.length_map] at h1 ⊢
  omega
theorem nf1 : List.lookup ("fitted" : Str) [(("joined" : Str), a), (("fitted" : Str), b)] = some b := by
  have h : (("fitted" : Str) == "joined") = false := by decide +kernel
  simp [List.lookup, h]
theorem nf0 : List.lookup ("joined" : Str) [(("joined" : Str), a), (("fitted" : Str), b)] = some a := by simp [List.lookup]
theorem fld_joined : fldD (A.c "Net") "joined" S (netV A rs fs) = some (.tup (rs.map (pv A))) := by simp only [fldD, netV, if_true, nf0]
theorem fld_fitted : fldD (A.c "Net") "fitted" S (netV A rs fs) = some (.tup (fs.map (mv A))) := by simp only [fldD, netV, if_true, nf1]
theorem net_pipes : G_Net_pipes A [netV A rs fs] S q x = q (.tup (rs.map (pv A))) S := by
  rw [D_Net_pipes]
  unfold fnD startE
  simp only [List.map_cons, List.map_nil, List.length_cons, List.length_nil, Nat.reduceAdd, Nat.reduceSub, List.replicate, List.cons_append, List.nil_append, List.append_nil, Nat.zero_add]
  unfold B_Net_pipes
  try simp -implicitDefEqProofs only [eVar, eC, eOp, eUn, aNil, aCons, eSeq, eCall, eFn, bBl, onB_bl, bTru, eNotT, bAnd, bOr, bNot, eAnd, eOr, eIf, bChain, iteB_t, iteB_f, sNil, sSeq, sRet, sDrop, sAsg, sIf, sBreak, sCont, sAsgG, sPar2, sPar3, sSetIx, sPairSet, sAppend, onL, onI_i, onT_s, onTu_t, onCe_c, on1_, on2_, on3_, onLst_l, onOb_o, onSeq_l, onSeq_r, onSeq_c, lkD_s, lkD_n, lkO_s, lkO_n, finO, sFldD, setFD, eProp, isOb_obj, eMake, eMakeK, eMakeL, eLc, eNew, eSl, oNone, oSome, eOpM, eCallM, eCm, eCmK, eOpT, jNil, jCons, eJoin, aStar, sCalm, sFor, iRange1, iSeq, iTupD, iStrD, iEnumT, tName, tTup_t, tsCons_c, tsNil_n, any_t, onS_some, look0, look1, look2, look3, look4, look5, look6, look7, look8, look9, look10, look11, look12, look13, look14, look15, bYes, wipeE, List.set_cons_zero, List.set_cons_succ, List.length_cons, List.length_nil, List.append_nil, List.nil_append, List.cons_append, List.append_assoc, Nat.zero_add, Nat.reduceAdd, Nat.reduceSub, Nat.reduceEqDiff, Nat.reduceLT, Nat.reduceLeDiff, Int.reduceNeg, true_and, and_true, and_self, if_true, if_false, Bool.not_true, Bool.not_false, Bool.false_eq_true, reduceIte, reduceCtorEq, decide_true, decide_false, ltD_int, leD_int, gtD_int, geD_int, subD_int, addD_int, intOf_int, absD_int, eqD_int, eqD_str, neD_str, neD_int, isN_non, truD_bl, eqD_bl, neD_bl, Option.map_some, Option.bind_some, small_0, small_1, small_2, small_3, small_4, small_5, small_6, small_7, small_8, st_app, st_len, fin_st, fin_stT, fin_self, ite_self, fld_joined]
theorem net_meters : G_Net_meters A [netV A rs fs] S q x = q (.tup (fs.map (mv A))) S := by
  rw [D_Net_meters]
  unfold fnD startE
  simp only [List.map_cons, List.map_nil, List.length_cons, List.length_nil, Nat.reduceAdd, Nat.reduceSub, List.replicate, List.cons_append, List.nil_append, List.append_nil, Nat.zero_add]
  unfold B_Net_meters
  try simp -implicitDefEqProofs only [eVar, eC, eOp, eUn, aNil, aCons, eSeq, eCall, eFn, bBl, onB_bl, bTru, eNotT, bAnd, bOr, bNot, eAnd, eOr, eIf, bChain, iteB_t, iteB_f, sNil, sSeq, sRet, sDrop, sAsg, sIf, sBreak, sCont, sAsgG, sPar2, sPar3, sSetIx, sPairSet, sAppend, onL, onI_i, onT_s, onTu_t, onCe_c, on1_, on2_, on3_, onLst_l, onOb_o, onSeq_l, onSeq_r, onSeq_c, lkD_s, lkD_n, lkO_s, lkO_n, finO, sFldD, setFD, eProp, isOb_obj, eMake, eMakeK, eMakeL, eLc, eNew, eSl, oNone, oSome, eOpM, eCallM, eCm, eCmK, eOpT, jNil, jCons, eJoin, aStar, sCalm, sFor, iRange1, iSeq, iTupD, iStrD, iEnumT, tName, tTup_t, tsCons_c, tsNil_n, any_t, onS_some, look0, look1, look2, look3, look4, look5, look6, look7, look8, look9, look10, look11, look12, look13, look14, look15, bYes, wipeE, List.set_cons_zero, List.set_cons_succ, List.length_cons, List.length_nil, List.append_nil, List.nil_append, List.cons_append, List.append_assoc, Nat.zero_add, Nat.reduceAdd, Nat.reduceSub, Nat.reduceEqDiff, Nat.reduceLT, Nat.reduceLeDiff, Int.reduceNeg, true_and, and_true, and_self, if_true, if_false, Bool.not_true, Bool.not_false, Bool.false_eq_true, reduceIte, reduceCtorEq, decide_true, decide_false, ltD_int, leD_int, gtD_int, geD_int, subD_int, addD_int, intOf_int, absD_int, eqD_int, eqD_str, neD_str, neD_int, isN_non, truD_bl, eqD_bl, neD_bl, Option.map_some, Option.bind_some, small_0, small_1, small_2, small_3, small_4, small_5, small_6, small_7, small_8, st_app, st_len, fin_st, fin_stT, fin_self, ite_self, fld_fitted]
theorem net_len : G_Net_len A [netV A rs fs] S q x = q (.int (rs.length : Nat)) S := by
  rw [D_Net_len]
  unfold fnD startE
  simp only [List.map_cons, List.map_nil, List.length_cons, List.length_nil, Nat.reduceAdd, Nat.reduceSub, List.replicate, List.cons_append, List.nil_append, List.append_nil, Nat.zero_add]
  unfold B_Net_len
  try simp -implicitDefEqProofs only [eVar, eC, eOp, eUn, aNil, aCons, eSeq, eCall, eFn, bBl, onB_bl, bTru, eNotT, bAnd, bOr, bNot, eAnd, eOr, eIf, bChain, iteB_t, iteB_f, sNil, sSeq, sRet, sDrop, sAsg, sIf, sBreak, sCont, sAsgG, sPar2, sPar3, sSetIx, sPairSet, sAppend, onL, onI_i, onT_s, onTu_t, onCe_c, on1_, on2_, on3_, onLst_l, onOb_o, onSeq_l, onSeq_r, onSeq_c, lkD_s, lkD_n, lkO_s, lkO_n, finO, sFldD, setFD, eProp, isOb_obj, eMake, eMakeK, eMakeL, eLc, eNew, eSl, oNone, oSome, eOpM, eCallM, eCm, eCmK, eOpT, jNil, jCons, eJoin, aStar, sCalm, sFor, iRange1, iSeq, iTupD, iStrD, iEnumT, tName, tTup_t, tsCons_c, tsNil_n, any_t, onS_some, look0, look1, look2, look3, look4, look5, look6, look7, look8, look9, look10, look11, look12, look13, look14, look15, bYes, wipeE, List.set_cons_zero, List.set_cons_succ, List.length_cons, List.length_nil, List.append_nil, List.nil_append, List.cons_append, List.append_assoc, Nat.zero_add, Nat.reduceAdd, Nat.reduceSub, Nat.reduceEqDiff, Nat.reduceLT, Nat.reduceLeDiff, Int.reduceNeg, true_and, and_true, and_self, if_true, if_false, Bool.not_true, Bool.not_false, Bool.false_eq_true, reduceIte, reduceCtorEq, decide_true, decide_false, ltD_int, leD_int, gtD_int, geD_int, subD_int, addD_int, intOf_int, absD_int, eqD_int, eqD_str, neD_str, neD_int, isN_non, truD_bl, eqD_bl, neD_bl, Option.map_some, Option.bind_some, small_0, small_1, small_2, small_3, small_4, small_5, small_6, small_7, small_8, st_app, st_len, fin_st, fin_stT, fin_self, ite_self, fld_joined, lenD_tup, List.length_map]
theorem net_str (hA : NetsA A) (hL : LaidOk rs) (hF : FitsOk rs fs) : G_Net_str A [netV A rs fs] S q x = q (.str (netText rs fs)) S := by
  have h1 : small (rs.map (pv A) ++ fs.map (mv A)).length = true := small_of (by
    have := hL.hi
    have := hF.hi
    simp only [List.length_append, List.length_map]
    omega)
  have e : rs.map (pv A) ++ fs.map (mv A) = (rs.map Sum.inl ++ fs.map Sum.inr).map (fun z : LR ⊕ FR => match z with | .inl r => pv A r | .inr f => mv A f) := by simp [Function.comp_def]
  have e2 : (rs.map Sum.inl ++ fs.map Sum.inr).map (fun z : LR ⊕ FR => match z with | .inl r => D.str (lineP r) | .inr f => D.str (lineM f)) = (rs.map lineP ++ fs.map lineM).map D.str := by simp [Function.comp_def]
  rw [D_Net_str]
  unfold fnD startE
  simp only [List.map_cons, List.map_nil, List.length_cons, List.length_nil, Nat.reduceAdd, Nat.reduceSub, List.replicate, List.cons_append, List.nil_append, List.append_nil, Nat.zero_add]
  unfold B_Net_str
  try simp -implicitDefEqProofs only [eVar, eC, eOp, eUn, aNil, aCons, eSeq, eCall, eFn, bBl, onB_bl, bTru, eNotT, bAnd, bOr, bNot, eAnd, eOr, eIf, bChain, iteB_t, iteB_f, sNil, sSeq, sRet, sDrop, sAsg, sIf, sBreak, sCont, sAsgG, sPar2, sPar3, sSetIx, sPairSet, sAppend, onL, onI_i, onT_s, onTu_t, onCe_c, on1_, on2_, on3_, onLst_l, onOb_o, onSeq_l, onSeq_r, onSeq_c, lkD_s, lkD_n, lkO_s, lkO_n, finO, sFldD, setFD, eProp, isOb_obj, eMake, eMakeK, eMakeL, eLc, eNew, eSl, oNone, oSome, eOpM, eCallM, eCm, eCmK, eOpT, jNil, jCons, eJoin, aStar, sCalm, sFor, iRange1, iSeq, iTupD, iStrD, iEnumT, tName, tTup_t, tsCons_c, tsNil_n, any_t, onS_some, look0, look1, look2, look3, look4, look5, look6, look7, look8, look9, look10, look11, look12, look13, look14, look15, bYes, wipeE, List.set_cons_zero, List.set_cons_succ, List.length_cons, List.length_nil, List.append_nil, List.nil_append, List.cons_append, List.append_assoc, Nat.zero_add, Nat.reduceAdd, Nat.reduceSub, Nat.reduceEqDiff, Nat.reduceLT, Nat.reduceLeDiff, Int.reduceNeg, true_and, and_true, and_self, if_true, if_false, Bool.not_true, Bool.not_false, Bool.false_eq_true, reduceIte, reduceCtorEq, decide_true, decide_false, ltD_int, leD_int, gtD_int, geD_int, subD_int, addD_int, intOf_int, absD_int, eqD_int, eqD_str, neD_str, neD_int, isN_non, truD_bl, eqD_bl, neD_bl, Option.map_some, Option.bind_some, small_0, small_1, small_2, small_3, small_4, small_5, small_6, small_7, small_8, st_app, st_len, fin_st, fin_stT, fin_self, ite_self, fld_joined, fld_fitted, itemsD, h1]
  rw [e, lc_mapEq (g := fun z : LR ⊕ FR => match z with | .inl r => D.str (lineP r) | .inr f => D.str (lineM f)) _ trivial, e2]
  · try simp -implicitDefEqProofs only [eVar, eC, eOp, eUn, aNil, aCons, eSeq, eCall, eFn, bBl, onB_bl, bTru, eNotT, bAnd, bOr, bNot, eAnd, eOr, eIf, bChain, iteB_t, iteB_f, sNil, sSeq, sRet, sDrop, sAsg, sIf, sBreak, sCont, sAsgG, sPar2, sPar3, sSetIx, sPairSet, sAppend, onL, onI_i, onT_s, onTu_t, onCe_c, on1_, on2_, on3_, onLst_l, onOb_o, onSeq_l, onSeq_r, onSeq_c, lkD_s, lkD_n, lkO_s, lkO_n, finO, sFldD, setFD, eProp, isOb_obj, eMake, eMakeK, eMakeL, eLc, eNew, eSl, oNone, oSome, eOpM, eCallM, eCm, eCmK, eOpT, jNil, jCons, eJoin, aStar, sCalm, sFor, iRange1, iSeq, iTupD, iStrD, iEnumT, tName, tTup_t, tsCons_c, tsNil_n, any_t, onS_some, look0, look1, look2, look3, look4, look5, look6, look7, look8, look9, look10, look11, look12, look13, look14, look15, bYes, wipeE, List.set_cons_zero, List.set_cons_succ, List.length_cons, List.length_nil, List.append_nil, List.nil_append, List.cons_append, List.append_assoc, Nat.zero_add, Nat.reduceAdd, Nat.reduceSub, Nat.reduceEqDiff, Nat.reduceLT, Nat.reduceLeDiff, Int.reduceNeg, true_and, and_true, and_self, if_true, if_false, Bool.not_true, Bool.not_false, Bool.false_eq_true, reduceIte, reduceCtorEq, decide_true, decide_false, ltD_int, leD_int, gtD_int, geD_int, subD_int, addD_int, intOf_int, absD_int, eqD_int, eqD_str, neD_str, neD_int, isN_non, truD_bl, eqD_bl, neD_bl, Option.map_some, Option.bind_some, small_0, small_1, small_2, small_3, small_4, small_5, small_6, small_7, small_8, st_app, st_len, fin_st, fin_stT, fin_self, ite_self, lines_join hL hF (x := .lst ((rs.map lineP ++ fs.map lineM).map D.str)) rfl]
  · rintro (r | f) hz
    · refine ⟨_, rfl, fun q x => ?_⟩
      have hr : r ∈ rs := by simpa using hz
      try simp -implicitDefEqProofs only [eVar, eC, eOp, eUn, aNil, aCons, eSeq, eCall, eFn, bBl, onB_bl, bTru, eNotT, bAnd, bOr, bNot, eAnd, eOr, eIf, bChain, iteB_t, iteB_f, sNil, sSeq, sRet, sDrop, sAsg, sIf, sBreak, sCont, sAsgG, sPar2, sPar3, sSetIx, sPairSet, sAppend, onL, onI_i, onT_s, onTu_t, onCe_c, on1_, on2_, on3_, onLst_l, onOb_o, onSeq_l, onSeq_r, onSeq_c, lkD_s, lkD_n, lkO_s, lkO_n, finO, sFldD, setFD, eProp, isOb_obj, eMake, eMakeK, eMakeL, eLc, eNew, eSl, oNone, oSome, eOpM, eCallM, eCm, eCmK, eOpT, jNil, jCons, eJoin, aStar, sCalm, sFor, iRange1, iSeq, iTupD, iStrD, iEnumT, tName, tTup_t, tsCons_c, tsNil_n, any_t, onS_some, look0, look1, look2, look3, look4, look5, look6, look7, look8, look9, look10, look11, look12, look13, look14, look15, bYes, wipeE, List.set_cons_zero, List.set_cons_succ, List.length_cons, List.length_nil, List.append_nil, List.nil_append, List.cons_append, List.append_assoc, Nat.zero_add, Nat.reduceAdd, Nat.reduceSub, Nat.reduceEqDiff, Nat.reduceLT, Nat.reduceLeDiff, Int.reduceNeg, true_and, and_true, and_self, if_true, if_false, Bool.not_true, Bool.not_false, Bool.false_eq_true, reduceIte, reduceCtorEq, decide_true, decide_false, ltD_int, leD_int, gtD_int, geD_int, subD_int, addD_int, intOf_int, absD_int, eqD_int, eqD_str, neD_str, neD_int, isN_non, truD_bl, eqD_bl, neD_bl, Option.map_some, Option.bind_some, small_0, small_1, small_2, small_3, small_4, small_5, small_6, small_7, small_8, st_app, st_len, fin_st, fin_stT, fin_self, ite_self, line_p hA (hL.rows r hr)]
    · refine ⟨_, rfl, fun q x => ?_⟩
      have hf : f ∈ fs := by simpa using hz
      try simp -implicitDefEqProofs only [eVar, eC, eOp, eUn, aNil, aCons, eSeq, eCall, eFn, bBl, onB_bl, bTru, eNotT, bAnd, bOr, bNot, eAnd, eOr, eIf, bChain, iteB_t, iteB_f, sNil, sSeq, sRet, sDrop, sAsg, sIf, sBreak, sCont, sAsgG, sPar2, sPar3, sSetIx, sPairSet, sAppend, onL, onI_i, onT_s, onTu_t, onCe_c, on1_, on2_, on3_, onLst_l, onOb_o, onSeq_l, onSeq_r, onSeq_c, lkD_s, lkD_n, lkO_s, lkO_n, finO, sFldD, setFD, eProp, isOb_obj, eMake, eMakeK, eMakeL, eLc, eNew, eSl, oNone, oSome, eOpM, eCallM, eCm, eCmK, eOpT, jNil, jCons, eJoin, aStar, sCalm, sFor, iRange1, iSeq, iTupD, iStrD, iEnumT, tName, tTup_t, tsCons_c, tsNil_n, any_t, onS_some, look0, look1, look2, look3, look4, look5, look6, look7, look8, look9, look10, look11, look12, look13, look14, look15, bYes, wipeE, List.set_cons_zero, List.set_cons_succ, List.length_cons, List.length_nil, List.append_nil, List.nil_append, List.cons_append, List.append_assoc, Nat.zero_add, Nat.reduceAdd, Nat.reduceSub, Nat.reduceEqDiff, Nat.reduceLT, Nat.reduceLeDiff, Int.reduceNeg, true_and, and_true, and_self, if_true, if_false, Bool.not_true, Bool.not_false, Bool.false_eq_true, reduceIte, reduceCtorEq, decide_true, decide_false, ltD_int, leD_int, gtD_int, geD_int, subD_int, addD_int, intOf_int, absD_int, eqD_int, eqD_str, neD_str, neD_int, isN_non, truD_bl, eqD_bl, neD_bl, Option.map_some, Option.bind_some, small_0, small_1, small_2, small_3, small_4, small_5, small_6, small_7, small_8, st_app, st_len, fin_st, fin_stT, fin_self, ite_self, line_m hA (hF.n f hf) (hF.nmAt hL hf)]
end
end RV
end
section
/-! Nets are read. -/
namespace RV
open PySem L2
section
variable {A : Ad} {S : WS} {q : D → WS → Prop} {x : Xq} {rs : List LR} {fs : List FR} {r : LR} {f : FR} {a b : D}
theorem nm_no {s : Str} {c : Nat} (h : Nm s) (hc : (isLt c || isDg c) = false) : c ∉ TL.tl s := fun z => by
  have := nm_all h c z
  rw [hc] at this
  cases this
theorem no32 : (isLt 32 || isDg 32) = false := by decide +kernel
theorem no10 : (isLt 10 || isDg 10) = false := by decide +kernel
theorem tl_pipe : 32 ∉ TL.tl ("pipe" : Str) := by decide +kernel
theorem tl_meter : 32 ∉ TL.tl ("meter" : Str) := by decide +kernel
theorem tl_sealed : 32 ∉ TL.tl ("sealed" : Str) := by decide +kernel
theorem sp_len : (" " : Str).length ≠ 0 := by decide +kernel
theorem nl_len : ("\n" : Str).length ≠ 0 := by decide +kernel
def wordsM (f : FR) : List Str := [("meter" : Str), f.1, f.2.1] ++ if f.2.2 then [("sealed" : Str)] else []
theorem split_p (h : RowOk r) : splitD S (.str (lineP r)) (.str " ") = some (.lst [.str "pipe", .str r.1, .str r.2.1, .str r.2.2]) := by
  have hs : small (lineP r).length = true := small_of (by have := lineP_len h; omega)
  have e : Txt.split (lineP r) " " = [("pipe" : Str), r.1, r.2.1, r.2.2] := by
    unfold lineP
    refine TL.split_join (s := 32) (S := []) rfl (by decide +kernel) (by simp) fun p hp => ?_
    simp only [List.mem_cons, List.not_mem_nil, or_false] at hp
    rcases hp with z | z | z | z <;> subst z
    · exact tl_pipe
    · exact nm_no h.n no32
    · exact nm_no h.s no32
    · exact nm_no h.e no32
  simp only [splitD, onStr, hs, sp_len, ne_eq, not_false_eq_true, and_self, if_true, e, List.map_cons, List.map_nil]
theorem split_m (h1 : Nm f.1) (h2 : Nm f.2.1) : splitD S (.str (lineM f)) (.str " ") = some (.lst ((wordsM f).map D.str)) := by
  have hs : small (lineM f).length = true := small_of (by have := lineM_len h1 h2; omega)
  have e : Txt.split (lineM f) " " = wordsM f := by
    unfold lineM wordsM
    refine TL.split_join (s := 32) (S := []) rfl (by decide +kernel) (by simp) fun p hp => ?_
    rcases List.mem_append.mp hp with hp | hp
    · simp only [List.mem_cons, List.not_mem_nil, or_false] at hp
      rcases hp with z | z | z <;> subst z
      · exact tl_meter
      · exact nm_no h1 no32
      · exact nm_no h2 no32
    · split at hp
      · simp only [List.mem_cons, List.not_mem_nil, or_false] at hp
        subst hp
        exact tl_sealed
      · cases hp
  simp only [splitD, onStr, hs, sp_len, ne_eq, not_false_eq_true, and_self, if_true, e]
theorem mp_ne : decide (("meter" : Str) = "pipe") = false := by decide +kernel
theorem pp_eq : decide (("pipe" : Str) = "pipe") = true := by decide +kernel
theorem mm_eq : decide (("meter" : Str) = "meter") = true := by decide +kernel
theorem l4_0 {a b c d : D} : ixD S (.lst [a, b, c, d]) (.int 0) = some a := rfl
theorem l4_1 {a b c d : D} : ixD S (.lst [a, b, c, d]) (.int 1) = some b := rfl
theorem l4_2 {a b c d : D} : ixD S (.lst [a, b, c, d]) (.int 2) = some c := rfl
theorem l4_3 {a b c d : D} : ixD S (.lst [a, b, c, d]) (.int 3) = some d := rfl
theorem l3_0 {a b c : D} : ixD S (.lst [a, b, c]) (.int 0) = some a := rfl
theorem l3_1 {a b c : D} : ixD S (.lst [a, b, c]) (.int 1) = some b := rfl
theorem l3_2 {a b c : D} : ixD S (.lst [a, b, c]) (.int 2) = some c := rfl
theorem len4 {a b c d : D} : lenD S [.lst [a, b, c, d]] = some (.int 4) := rfl
theorem len3 {a b c : D} : lenD S [.lst [a, b, c]] = some (.int 3) := rfl
theorem in34_4 : inD false S (.int 4) (.tup [.int 3, .int 4]) = some (.bl true) := rfl
theorem in34_3 : inD false S (.int 3) (.tup [.int 3, .int 4]) = some (.bl true) := rfl
theorem d44 : decide ((4 : Int) = 4) = true := rfl
theorem d34 : decide ((3 : Int) = 4) = false := rfl
theorem perm0 {α : Type} {us : List α} {w : α} : perm [0] us [w] = us ++ [w] := rfl
theorem item_p (h : RowOk r) : G_item_of A [.str (lineP r)] S q x = q (pv A r) S := by
  rw [D_item_of]
  unfold fnD startE
  simp only [List.map_cons, List.map_nil, List.length_cons, List.length_nil, Nat.reduceAdd, Nat.reduceSub, List.replicate, List.cons_append, List.nil_append, List.append_nil, Nat.zero_add]
  unfold B_item_of
  try simp -implicitDefEqProofs only [eVar, eC, eOp, eUn, aNil, aCons, eSeq, eCall, eFn, bBl, onB_bl, bTru, eNotT, bAnd, bOr, bNot, eAnd, eOr, eIf, bChain, iteB_t, iteB_f, sNil, sSeq, sRet, sDrop, sAsg, sIf, sBreak, sCont, sAsgG, sPar2, sPar3, sSetIx, sPairSet, sAppend, onL, onI_i, onT_s, onTu_t, onCe_c, on1_, on2_, on3_, onLst_l, onOb_o, onSeq_l, onSeq_r, onSeq_c, lkD_s, lkD_n, lkO_s, lkO_n, finO, sFldD, setFD, eProp, isOb_obj, eMake, eMakeK, eMakeL, eLc, eNew, eSl, oNone, oSome, eOpM, eCallM, eCm, eCmK, eOpT, jNil, jCons, eJoin, aStar, sCalm, sFor, iRange1, iSeq, iTupD, iStrD, iEnumT, tName, tTup_t, tsCons_c, tsNil_n, any_t, onS_some, look0, look1, look2, look3, look4, look5, look6, look7, look8, look9, look10, look11, look12, look13, look14, look15, bYes, wipeE, List.set_cons_zero, List.set_cons_succ, List.length_cons, List.length_nil, List.append_nil, List.nil_append, List.cons_append, List.append_assoc, Nat.zero_add, Nat.reduceAdd, Nat.reduceSub, Nat.reduceEqDiff, Nat.reduceLT, Nat.reduceLeDiff, Int.reduceNeg, true_and, and_true, and_self, if_true, if_false, Bool.not_true, Bool.not_false, Bool.false_eq_true, reduceIte, reduceCtorEq, decide_true, decide_false, ltD_int, leD_int, gtD_int, geD_int, subD_int, addD_int, intOf_int, absD_int, eqD_int, eqD_str, neD_str, neD_int, isN_non, truD_bl, eqD_bl, neD_bl, Option.map_some, Option.bind_some, small_0, small_1, small_2, small_3, small_4, small_5, small_6, small_7, small_8, st_app, st_len, fin_st, fin_stT, fin_self, ite_self, split_p h, len4, d44, l4_0, l4_1, l4_2, l4_3, pp_eq, pipe_init_ok h.n h.s h.e h.ne]
  rfl
theorem item_m (h1 : Nm f.1) (h2 : Nm f.2.1) : G_item_of A [.str (lineM f)] S q x = q (mv A f) S := by
  obtain ⟨a, b, c⟩ := f
  have sp := split_m (S := S) (f := (a, b, c)) h1 h2
  cases c with
  | true =>
    have e : (wordsM (a, b, true)).map D.str = [.str "meter", .str a, .str b, .str "sealed"] := rfl
    rw [e] at sp
    rw [D_item_of]
    unfold fnD startE
    simp only [List.map_cons, List.map_nil, List.length_cons, List.length_nil, Nat.reduceAdd, Nat.reduceSub, List.replicate, List.cons_append, List.nil_append, List.append_nil, Nat.zero_add]
    unfold B_item_of
    try simp -implicitDefEqProofs only [eVar, eC, eOp, eUn, aNil, aCons, eSeq, eCall, eFn, bBl, onB_bl, bTru, eNotT, bAnd, bOr, bNot, eAnd, eOr, eIf, bChain, iteB_t, iteB_f, sNil, sSeq, sRet, sDrop, sAsg, sIf, sBreak, sCont, sAsgG, sPar2, sPar3, sSetIx, sPairSet, sAppend, onL, onI_i, onT_s, onTu_t, onCe_c, on1_, on2_, on3_, onLst_l, onOb_o, onSeq_l, onSeq_r, onSeq_c, lkD_s, lkD_n, lkO_s, lkO_n, finO, sFldD, setFD, eProp, isOb_obj, eMake, eMakeK, eMakeL, eLc, eNew, eSl, oNone, oSome, eOpM, eCallM, eCm, eCmK, eOpT, jNil, jCons, eJoin, aStar, sCalm, sFor, iRange1, iSeq, iTupD, iStrD, iEnumT, tName, tTup_t, tsCons_c, tsNil_n, any_t, onS_some, look0, look1, look2, look3, look4, look5, look6, look7, look8, look9, look10, look11, look12, look13, look14, look15, bYes, wipeE, List.set_cons_zero, List.set_cons_succ, List.length_cons, List.length_nil, List.append_nil, List.nil_append, List.cons_append, List.append_assoc, Nat.zero_add, Nat.reduceAdd, Nat.reduceSub, Nat.reduceEqDiff, Nat.reduceLT, Nat.reduceLeDiff, Int.reduceNeg, true_and, and_true, and_self, if_true, if_false, Bool.not_true, Bool.not_false, Bool.false_eq_true, reduceIte, reduceCtorEq, decide_true, decide_false, ltD_int, leD_int, gtD_int, geD_int, subD_int, addD_int, intOf_int, absD_int, eqD_int, eqD_str, neD_str, neD_int, isN_non, truD_bl, eqD_bl, neD_bl, Option.map_some, Option.bind_some, small_0, small_1, small_2, small_3, small_4, small_5, small_6, small_7, small_8, st_app, st_len, fin_st, fin_stT, fin_self, ite_self, sp, len4, d44, l4_0, l4_1, l4_2, mp_ne, in34_4, mm_eq, perm0, meter_init_ok h1 h2]
    rfl
  | false =>
    have e : (wordsM (a, b, false)).map D.str = [.str "meter", .str a, .str b] := rfl
    rw [e] at sp
    rw [D_item_of]
    unfold fnD startE
    simp only [List.map_cons, List.map_nil, List.length_cons, List.length_nil, Nat.reduceAdd, Nat.reduceSub, List.replicate, List.cons_append, List.nil_append, List.append_nil, Nat.zero_add]
    unfold B_item_of
    try simp -implicitDefEqProofs only [eVar, eC, eOp, eUn, aNil, aCons, eSeq, eCall, eFn, bBl, onB_bl, bTru, eNotT, bAnd, bOr, bNot, eAnd, eOr, eIf, bChain, iteB_t, iteB_f, sNil, sSeq, sRet, sDrop, sAsg, sIf, sBreak, sCont, sAsgG, sPar2, sPar3, sSetIx, sPairSet, sAppend, onL, onI_i, onT_s, onTu_t, onCe_c, on1_, on2_, on3_, onLst_l, onOb_o, onSeq_l, onSeq_r, onSeq_c, lkD_s, lkD_n, lkO_s, lkO_n, finO, sFldD, setFD, eProp, isOb_obj, eMake, eMakeK, eMakeL, eLc, eNew, eSl, oNone, oSome, eOpM, eCallM, eCm, eCmK, eOpT, jNil, jCons, eJoin, aStar, sCalm, sFor, iRange1, iSeq, iTupD, iStrD, iEnumT, tName, tTup_t, tsCons_c, tsNil_n, any_t, onS_some, look0, look1, look2, look3, look4, look5, look6, look7, look8, look9, look10, look11, look12, look13, look14, look15, bYes, wipeE, List.set_cons_zero, List.set_cons_succ, List.length_cons, List.length_nil, List.append_nil, List.nil_append, List.cons_append, List.append_assoc, Nat.zero_add, Nat.reduceAdd, Nat.reduceSub, Nat.reduceEqDiff, Nat.reduceLT, Nat.reduceLeDiff, Int.reduceNeg, true_and, and_true, and_self, if_true, if_false, Bool.not_true, Bool.not_false, Bool.false_eq_true, reduceIte, reduceCtorEq, decide_true, decide_false, ltD_int, leD_int, gtD_int, geD_int, subD_int, addD_int, intOf_int, absD_int, eqD_int, eqD_str, neD_str, neD_int, isN_non, truD_bl, eqD_bl, neD_bl, Option.map_some, Option.bind_some, small_0, small_1, small_2, small_3, small_4, small_5, small_6, small_7, small_8, st_app, st_len, fin_st, fin_stT, fin_self, ite_self, sp, len3, d34, l3_0, l3_1, l3_2, mp_ne, in34_3, mm_eq, perm0, meter_init_ok h1 h2]
    rfl
end
end RV
end
section
/-! repr of plain data. -/
namespace RV
open PySem L2
structure ShOk (k w : Nat) (p : PyData) : Prop where
  sh : p.showable = true
  nd : p.hasDict = false
  dp : p.depth ≤ k
  ls : p.leavesShort 60 = true
  wt : p.weight ≤ w
section
variable {k w : Nat} {xs : List PyData}
structure ShAll (k w : Nat) (xs : List PyData) : Prop where
  sh : PyData.showableAll xs = true
  nd : PyData.hasDictAll xs = false
  dp : PyData.depthAll xs ≤ k
  ls : PyData.leavesShortAll 60 xs = true
  wt : PyData.weightAll xs ≤ (w + 1) * xs.length
theorem ShAll.of : ∀ {xs : List PyData}, (∀ x ∈ xs, ShOk k w x) → ShAll k w xs
  | [], _ => ⟨rfl, rfl, Nat.zero_le _, rfl, Nat.zero_le _⟩
  | x :: xs, h => by
    have a := h x (List.mem_cons_self ..)
    have b := ShAll.of fun y hy => h y (List.mem_cons_of_mem _ hy)
    refine ⟨?_, ?_, ?_, ?_, ?_⟩
    · simp [PyData.showableAll, a.sh, b.sh]
    · simp [PyData.hasDictAll, a.nd, b.nd]
    · have := a.dp
      have := b.dp
      simp only [PyData.depthAll]
      omega
    · simp [PyData.leavesShortAll, a.ls, b.ls]
    · have h1 := a.wt
      have h2 := b.wt
      simp only [PyData.weightAll, List.length_cons, Nat.mul_succ]
      omega
theorem ShOk.list (h : ∀ x ∈ xs, ShOk k w x) : ShOk (k + 1) ((w + 1) * xs.length) (.list xs) := by
  have a := ShAll.of h
  refine ⟨?_, ?_, ?_, ?_, ?_⟩
  · simpa only [PyData.showable] using a.sh
  · simpa only [PyData.hasDict] using a.nd
  · have := a.dp
    simp only [PyData.depth]
    omega
  · simpa only [PyData.leavesShort] using a.ls
  · simpa only [PyData.weight] using a.wt
theorem ShOk.tuple (h : ∀ x ∈ xs, ShOk k w x) : ShOk (k + 1) ((w + 1) * xs.length) (.tuple xs) := by
  have a := ShAll.of h
  refine ⟨?_, ?_, ?_, ?_, ?_⟩
  · simpa only [PyData.showable] using a.sh
  · simpa only [PyData.hasDict] using a.nd
  · have := a.dp
    simp only [PyData.depth]
    omega
  · simpa only [PyData.leavesShort] using a.ls
  · simpa only [PyData.weight] using a.wt
theorem ShOk.mono {k' w' : Nat} {p : PyData} (h : ShOk k w p) (hk : k ≤ k') (hw : w ≤ w') : ShOk k' w' p := ⟨h.sh, h.nd, Nat.le_trans h.dp hk, h.ls, Nat.le_trans h.wt hw⟩
theorem ShOk.bool {b : Bool} : ShOk k w (.bool b) := ⟨rfl, rfl, Nat.zero_le _, rfl, Nat.zero_le _⟩
theorem ShOk.str {s : Str} (hs : PyData.strOk s = true) (hl : s.length ≤ w) : ShOk k w (.str s) := by
  refine ⟨rfl, rfl, Nat.zero_le _, ?_, hl⟩
  unfold PyData.strOk at hs
  rw [← Array.all_toList, List.all_eq_true] at hs
  simp only [PyData.leavesShort, List.all_eq_true]
  intro c hc
  have := of_decide_eq_true (hs c hc)
  exact decide_eq_true (Nat.lt_of_lt_of_le this (by decide))
theorem ShOk.nm {s : Str} (h : Nm s) : ShOk k 8 (.str s) := ShOk.str (nm_strOk h) (nm_len h).2
theorem repr_ok {S : WS} {d : D} {p : PyData} (hp : D.py d = some p) (h : ShOk k w p) (hk : k ≤ 64) (hw : w ≤ 200000) : reprD S [d] = some (.str p.shown) := by
  have h1 := PyData.shown_le 60 (by decide) p h.ls
  have h2 : p.shown.length ≤ sizeLine := by
    have e : sizeLine = 16777216 := by decide
    have := h.wt
    omega
  have h3 : p.depth ≤ 64 := Nat.le_trans h.dp hk
  simp only [reprD, hp, Option.bind_some, h.sh, h.nd, h2, h3, and_self, if_true]
theorem pyL_map {α : Type} {g : α → D} {g' : α → PyData} (h : ∀ a, D.py (g a) = some (g' a)) : ∀ xs : List α, D.pyL (xs.map g) = some (xs.map g')
  | [] => rfl
  | a :: xs => by simp [D.pyL, h a, pyL_map h xs]
end
end RV
end
section
/-! Nets by rows; their texts; read again. -/
namespace RV
open PySem L2
def rowD (r : LR) : D := .tup [.str r.1, .str r.2.1, .str r.2.2]
def fitD (f : FR) : D := .tup [.str f.1, .str f.2.1, .bl f.2.2]
section
variable {A : Ad} {S : WS} {q : D → WS → Prop} {x : Xq} {rs : List LR} {fs : List FR} {r : LR} {f : FR} {a b : D}
/-! ### a net of rows -/
def zs (rs : List LR) (fs : List FR) : List (LR ⊕ FR) := rs.map Sum.inl ++ fs.map Sum.inr
def zLine : LR ⊕ FR → Str
  | .inl r => lineP r
  | .inr f => lineM f
def zObj (A : Ad) : LR ⊕ FR → D
  | .inl r => pv A r
  | .inr f => mv A f
theorem zs_line : (zs rs fs).map zLine = rs.map lineP ++ fs.map lineM := by simp [zs, Function.comp_def, zLine]
theorem zs_obj : (zs rs fs).map (zObj A) = rs.map (pv A) ++ fs.map (mv A) := by simp [zs, Function.comp_def, zObj]
theorem zs_p : ((zs rs fs).filter Sum.isLeft).map (zObj A) = rs.map (pv A) := by
  have h1 : (rs.map (Sum.inl (β := FR))).filter Sum.isLeft = rs.map Sum.inl := List.filter_eq_self.mpr fun z hz => by
    obtain ⟨r, _, rfl⟩ := List.mem_map.mp hz
    rfl
  have h2 : (fs.map (Sum.inr (α := LR))).filter Sum.isLeft = [] := List.filter_eq_nil_iff.mpr fun z hz => by
    obtain ⟨r, _, rfl⟩ := List.mem_map.mp hz
    simp
  simp [zs, List.filter_append, h1, h2, Function.comp_def, zObj]
theorem zs_m : ((zs rs fs).filter Sum.isRight).map (zObj A) = fs.map (mv A) := by
  have h1 : (rs.map (Sum.inl (β := FR))).filter Sum.isRight = [] := List.filter_eq_nil_iff.mpr fun z hz => by
    obtain ⟨r, _, rfl⟩ := List.mem_map.mp hz
    simp
  have h2 : (fs.map (Sum.inr (α := LR))).filter Sum.isRight = fs.map Sum.inr := List.filter_eq_self.mpr fun z hz => by
    obtain ⟨r, _, rfl⟩ := List.mem_map.mp hz
    rfl
  simp [zs, List.filter_append, h1, h2, Function.comp_def, zObj]
theorem zs_ok (hL : LaidOk rs) (hF : FitsOk rs fs) {z : LR ⊕ FR} (hz : z ∈ zs rs fs) : (∃ r, z = .inl r ∧ RowOk r) ∨ ∃ f, z = .inr f ∧ Nm f.1 ∧ Nm f.2.1 := by
  rcases List.mem_append.mp hz with h | h
  · obtain ⟨r, hr, rfl⟩ := List.mem_map.mp h
    exact .inl ⟨r, rfl, hL.rows r hr⟩
  · obtain ⟨f, hf, rfl⟩ := List.mem_map.mp h
    exact .inr ⟨f, rfl, hF.n f hf, hF.nmAt hL hf⟩
theorem zs_len (hL : LaidOk rs) (hF : FitsOk rs fs) : (zs rs fs).length ≤ 24 := by
  have := hL.hi
  have := hF.hi
  simp only [zs, List.length_append, List.length_map]
  omega
theorem lit10 : 10 ∉ TL.tl ("pipe " : Str) ∧ 10 ∉ TL.tl (" " : Str) ∧ 10 ∉ TL.tl ("meter " : Str) ∧ 10 ∉ TL.tl (" sealed" : Str) ∧ 10 ∉ TL.tl ("" : Str) := by decide +kernel
theorem no_app {a b : Str} {c : Nat} (ha : c ∉ TL.tl a) (hb : c ∉ TL.tl b) : c ∉ TL.tl (a ++ b) := by
  rw [TL.tl_append]
  simp [ha, hb]
theorem line_nl (hL : LaidOk rs) (hF : FitsOk rs fs) {z : LR ⊕ FR} (hz : z ∈ zs rs fs) : 10 ∉ TL.tl (zLine z) := by
  obtain ⟨l1, l2, l3, l4, l5⟩ := lit10
  rcases zs_ok hL hF hz with ⟨r, rfl, h⟩ | ⟨f, rfl, h1, h2⟩
  · show 10 ∉ TL.tl (lineP r)
    rw [lineP_eq]
    exact no_app (no_app (no_app (no_app (no_app l1 (nm_no h.n no10)) l2) (nm_no h.s no10)) l2) (nm_no h.e no10)
  · show 10 ∉ TL.tl (lineM f)
    rw [lineM_eq]
    refine no_app (no_app (no_app (no_app l3 (nm_no h1 no10)) l2) (nm_no h2 no10)) ?_
    cases f.2.2
    · exact l5
    · exact l4
theorem netText_eq : netText rs fs = Txt.join "\n" ((zs rs fs).map zLine) := by rw [zs_line]; rfl
theorem join_len {sep : Str} : ∀ {xs : List Str}, (Txt.join sep xs).length ≤ (xs.map (·.length)).sum + xs.length * sep.length := by
  intro xs
  rw [TL.join_eq]
  induction xs with
  | nil => exact Nat.zero_le _
  | cons a xs ih =>
    cases xs with
    | nil =>
      show a.length ≤ _
      simp
    | cons b xs =>
      show (a ++ sep ++ Str.join sep (b :: xs)).length ≤ _
      rw [cat_len, cat_len]
      simp only [List.map_cons, List.sum_cons, List.length_cons, Nat.succ_mul] at ih ⊢
      omega
theorem netText_len (hL : LaidOk rs) (hF : FitsOk rs fs) : (netText rs fs).length ≤ 1000 := by
  have h0 := join_len (sep := "\n") (xs := rs.map lineP ++ fs.map lineM)
  have h1 := sum_le (lines_len hL hF)
  have h2 := hL.hi
  have h3 := hF.hi
  rw [len_nl] at h0
  unfold netText
  simp only [List.length_append, List.length_map] at h0 h1
  omega
theorem split_net (hL : LaidOk rs) (hF : FitsOk rs fs) : splitD S (.str (netText rs fs)) (.str "\n") = some (.lst ((zs rs fs).map fun z => .str (zLine z))) := by
  have hs : small (netText rs fs).length = true := small_of (by have := netText_len hL hF; omega)
  have e : Txt.split (netText rs fs) "\n" = (zs rs fs).map zLine := by
    rw [netText_eq]
    refine TL.split_join (s := 10) (S := []) rfl (by decide +kernel) ?_ fun p hp => ?_
    · have := hL.lo
      intro h
      have := congrArg List.length h
      simp [zs] at this
      rw [this.1] at hL
      exact absurd hL.lo (by simp)
    · obtain ⟨z, hz, rfl⟩ := List.mem_map.mp hp
      exact line_nl hL hF hz
  simp only [splitD, onStr, hs, nl_len, ne_eq, not_false_eq_true, and_self, if_true, e, List.map_map]
  rfl
theorem tuple_lst {ds : List D} : tupleD S [.lst ds] = some (.tup ds) := rfl
theorem str_own (hA : NetsA A) (hL : LaidOk rs) (hF : FitsOk rs fs) : strOwnD (A.c "Net") (G_Net_str A) [netV A rs fs] S q x = q (.str (netText rs fs)) S := by
  unfold strOwnD
  try simp -implicitDefEqProofs only [eVar, eC, eOp, eUn, aNil, aCons, eSeq, eCall, eFn, bBl, onB_bl, bTru, eNotT, bAnd, bOr, bNot, eAnd, eOr, eIf, bChain, iteB_t, iteB_f, sNil, sSeq, sRet, sDrop, sAsg, sIf, sBreak, sCont, sAsgG, sPar2, sPar3, sSetIx, sPairSet, sAppend, onL, onI_i, onT_s, onTu_t, onCe_c, on1_, on2_, on3_, onLst_l, onOb_o, onSeq_l, onSeq_r, onSeq_c, lkD_s, lkD_n, lkO_s, lkO_n, finO, sFldD, setFD, eProp, isOb_obj, eMake, eMakeK, eMakeL, eLc, eNew, eSl, oNone, oSome, eOpM, eCallM, eCm, eCmK, eOpT, jNil, jCons, eJoin, aStar, sCalm, sFor, iRange1, iSeq, iTupD, iStrD, iEnumT, tName, tTup_t, tsCons_c, tsNil_n, any_t, onS_some, look0, look1, look2, look3, look4, look5, look6, look7, look8, look9, look10, look11, look12, look13, look14, look15, bYes, wipeE, List.set_cons_zero, List.set_cons_succ, List.length_cons, List.length_nil, List.append_nil, List.nil_append, List.cons_append, List.append_assoc, Nat.zero_add, Nat.reduceAdd, Nat.reduceSub, Nat.reduceEqDiff, Nat.reduceLT, Nat.reduceLeDiff, Int.reduceNeg, true_and, and_true, and_self, if_true, if_false, Bool.not_true, Bool.not_false, Bool.false_eq_true, reduceIte, reduceCtorEq, decide_true, decide_false, ltD_int, leD_int, gtD_int, geD_int, subD_int, addD_int, intOf_int, absD_int, eqD_int, eqD_str, neD_str, neD_int, isN_non, truD_bl, eqD_bl, neD_bl, Option.map_some, Option.bind_some, small_0, small_1, small_2, small_3, small_4, small_5, small_6, small_7, small_8, st_app, st_len, fin_st, fin_stT, fin_self, ite_self, ob_nv, net_str hA hL hF]
theorem len_own (hL : LaidOk rs) : lenOwnD (A.c "Net") (G_Net_len A) [netV A rs fs] S q x = q (.int (rs.length : Nat)) S := by
  unfold lenOwnD
  have := hL.hi
  try simp -implicitDefEqProofs only [eVar, eC, eOp, eUn, aNil, aCons, eSeq, eCall, eFn, bBl, onB_bl, bTru, eNotT, bAnd, bOr, bNot, eAnd, eOr, eIf, bChain, iteB_t, iteB_f, sNil, sSeq, sRet, sDrop, sAsg, sIf, sBreak, sCont, sAsgG, sPar2, sPar3, sSetIx, sPairSet, sAppend, onL, onI_i, onT_s, onTu_t, onCe_c, on1_, on2_, on3_, onLst_l, onOb_o, onSeq_l, onSeq_r, onSeq_c, lkD_s, lkD_n, lkO_s, lkO_n, finO, sFldD, setFD, eProp, isOb_obj, eMake, eMakeK, eMakeL, eLc, eNew, eSl, oNone, oSome, eOpM, eCallM, eCm, eCmK, eOpT, jNil, jCons, eJoin, aStar, sCalm, sFor, iRange1, iSeq, iTupD, iStrD, iEnumT, tName, tTup_t, tsCons_c, tsNil_n, any_t, onS_some, look0, look1, look2, look3, look4, look5, look6, look7, look8, look9, look10, look11, look12, look13, look14, look15, bYes, wipeE, List.set_cons_zero, List.set_cons_succ, List.length_cons, List.length_nil, List.append_nil, List.nil_append, List.cons_append, List.append_assoc, Nat.zero_add, Nat.reduceAdd, Nat.reduceSub, Nat.reduceEqDiff, Nat.reduceLT, Nat.reduceLeDiff, Int.reduceNeg, true_and, and_true, and_self, if_true, if_false, Bool.not_true, Bool.not_false, Bool.false_eq_true, reduceIte, reduceCtorEq, decide_true, decide_false, ltD_int, leD_int, gtD_int, geD_int, subD_int, addD_int, intOf_int, absD_int, eqD_int, eqD_str, neD_str, neD_int, isN_non, truD_bl, eqD_bl, neD_bl, Option.map_some, Option.bind_some, small_0, small_1, small_2, small_3, small_4, small_5, small_6, small_7, small_8, st_app, st_len, fin_st, fin_stT, fin_self, ite_self, ob_nv, net_len, show (0 ≤ ((rs.length : Nat) : Int) ∧ ((rs.length : Nat) : Int) < 2 ^ 62) = True from by simp; omega]
theorem read_ok (hA : NetsA A) (hL : LaidOk rs) (hF : FitsOk rs fs) (hq : q (netV A rs fs) S) : G_Net_read A [.adr (A.c "Net"), .str (netText rs fs)] S q x := by
  have h24 : small (zs rs fs).length = true := small_of (by have := zs_len hL hF; omega)
  rw [D_Net_read]
  unfold fnD startE
  simp only [List.map_cons, List.map_nil, List.length_cons, List.length_nil, Nat.reduceAdd, Nat.reduceSub, List.replicate, List.cons_append, List.nil_append, List.append_nil, Nat.zero_add]
  unfold B_Net_read
  refine seq_gen fun N_ hN_ => ?_
  try simp -implicitDefEqProofs only [eVar, eC, eOp, eUn, aNil, aCons, eSeq, eCall, eFn, bBl, onB_bl, bTru, eNotT, bAnd, bOr, bNot, eAnd, eOr, eIf, bChain, iteB_t, iteB_f, sNil, sSeq, sRet, sDrop, sAsg, sIf, sBreak, sCont, sAsgG, sPar2, sPar3, sSetIx, sPairSet, sAppend, onL, onI_i, onT_s, onTu_t, onCe_c, on1_, on2_, on3_, onLst_l, onOb_o, onSeq_l, onSeq_r, onSeq_c, lkD_s, lkD_n, lkO_s, lkO_n, finO, sFldD, setFD, eProp, isOb_obj, eMake, eMakeK, eMakeL, eLc, eNew, eSl, oNone, oSome, eOpM, eCallM, eCm, eCmK, eOpT, jNil, jCons, eJoin, aStar, sCalm, sFor, iRange1, iSeq, iTupD, iStrD, iEnumT, tName, tTup_t, tsCons_c, tsNil_n, any_t, onS_some, look0, look1, look2, look3, look4, look5, look6, look7, look8, look9, look10, look11, look12, look13, look14, look15, bYes, wipeE, List.set_cons_zero, List.set_cons_succ, List.length_cons, List.length_nil, List.append_nil, List.nil_append, List.cons_append, List.append_assoc, Nat.zero_add, Nat.reduceAdd, Nat.reduceSub, Nat.reduceEqDiff, Nat.reduceLT, Nat.reduceLeDiff, Int.reduceNeg, true_and, and_true, and_self, if_true, if_false, Bool.not_true, Bool.not_false, Bool.false_eq_true, reduceIte, reduceCtorEq, decide_true, decide_false, ltD_int, leD_int, gtD_int, geD_int, subD_int, addD_int, intOf_int, absD_int, eqD_int, eqD_str, neD_str, neD_int, isN_non, truD_bl, eqD_bl, neD_bl, Option.map_some, Option.bind_some, small_0, small_1, small_2, small_3, small_4, small_5, small_6, small_7, small_8, st_app, st_len, fin_st, fin_stT, fin_self, ite_self, isi_str]
  subst hN_
  refine seq_gen fun N_ hN_ => ?_
  try simp -implicitDefEqProofs only [eVar, eC, eOp, eUn, aNil, aCons, eSeq, eCall, eFn, bBl, onB_bl, bTru, eNotT, bAnd, bOr, bNot, eAnd, eOr, eIf, bChain, iteB_t, iteB_f, sNil, sSeq, sRet, sDrop, sAsg, sIf, sBreak, sCont, sAsgG, sPar2, sPar3, sSetIx, sPairSet, sAppend, onL, onI_i, onT_s, onTu_t, onCe_c, on1_, on2_, on3_, onLst_l, onOb_o, onSeq_l, onSeq_r, onSeq_c, lkD_s, lkD_n, lkO_s, lkO_n, finO, sFldD, setFD, eProp, isOb_obj, eMake, eMakeK, eMakeL, eLc, eNew, eSl, oNone, oSome, eOpM, eCallM, eCm, eCmK, eOpT, jNil, jCons, eJoin, aStar, sCalm, sFor, iRange1, iSeq, iTupD, iStrD, iEnumT, tName, tTup_t, tsCons_c, tsNil_n, any_t, onS_some, look0, look1, look2, look3, look4, look5, look6, look7, look8, look9, look10, look11, look12, look13, look14, look15, bYes, wipeE, List.set_cons_zero, List.set_cons_succ, List.length_cons, List.length_nil, List.append_nil, List.nil_append, List.cons_append, List.append_assoc, Nat.zero_add, Nat.reduceAdd, Nat.reduceSub, Nat.reduceEqDiff, Nat.reduceLT, Nat.reduceLeDiff, Int.reduceNeg, true_and, and_true, and_self, if_true, if_false, Bool.not_true, Bool.not_false, Bool.false_eq_true, reduceIte, reduceCtorEq, decide_true, decide_false, ltD_int, leD_int, gtD_int, geD_int, subD_int, addD_int, intOf_int, absD_int, eqD_int, eqD_str, neD_str, neD_int, isN_non, truD_bl, eqD_bl, neD_bl, Option.map_some, Option.bind_some, small_0, small_1, small_2, small_3, small_4, small_5, small_6, small_7, small_8, st_app, st_len, fin_st, fin_stT, fin_self, ite_self, split_net hL hF, List.length_map, h24]
  rw [lc_mapEq (g := zObj A) _ trivial (fun z hz => ?_)]
  rotate_left
  · refine ⟨_, rfl, fun q x => ?_⟩
    rcases zs_ok hL hF hz with ⟨r, rfl, h⟩ | ⟨f, rfl, h1, h2⟩
    · try simp -implicitDefEqProofs only [eVar, eC, eOp, eUn, aNil, aCons, eSeq, eCall, eFn, bBl, onB_bl, bTru, eNotT, bAnd, bOr, bNot, eAnd, eOr, eIf, bChain, iteB_t, iteB_f, sNil, sSeq, sRet, sDrop, sAsg, sIf, sBreak, sCont, sAsgG, sPar2, sPar3, sSetIx, sPairSet, sAppend, onL, onI_i, onT_s, onTu_t, onCe_c, on1_, on2_, on3_, onLst_l, onOb_o, onSeq_l, onSeq_r, onSeq_c, lkD_s, lkD_n, lkO_s, lkO_n, finO, sFldD, setFD, eProp, isOb_obj, eMake, eMakeK, eMakeL, eLc, eNew, eSl, oNone, oSome, eOpM, eCallM, eCm, eCmK, eOpT, jNil, jCons, eJoin, aStar, sCalm, sFor, iRange1, iSeq, iTupD, iStrD, iEnumT, tName, tTup_t, tsCons_c, tsNil_n, any_t, onS_some, look0, look1, look2, look3, look4, look5, look6, look7, look8, look9, look10, look11, look12, look13, look14, look15, bYes, wipeE, List.set_cons_zero, List.set_cons_succ, List.length_cons, List.length_nil, List.append_nil, List.nil_append, List.cons_append, List.append_assoc, Nat.zero_add, Nat.reduceAdd, Nat.reduceSub, Nat.reduceEqDiff, Nat.reduceLT, Nat.reduceLeDiff, Int.reduceNeg, true_and, and_true, and_self, if_true, if_false, Bool.not_true, Bool.not_false, Bool.false_eq_true, reduceIte, reduceCtorEq, decide_true, decide_false, ltD_int, leD_int, gtD_int, geD_int, subD_int, addD_int, intOf_int, absD_int, eqD_int, eqD_str, neD_str, neD_int, isN_non, truD_bl, eqD_bl, neD_bl, Option.map_some, Option.bind_some, small_0, small_1, small_2, small_3, small_4, small_5, small_6, small_7, small_8, st_app, st_len, fin_st, fin_stT, fin_self, ite_self, zLine, item_p h]
      rfl
    · try simp -implicitDefEqProofs only [eVar, eC, eOp, eUn, aNil, aCons, eSeq, eCall, eFn, bBl, onB_bl, bTru, eNotT, bAnd, bOr, bNot, eAnd, eOr, eIf, bChain, iteB_t, iteB_f, sNil, sSeq, sRet, sDrop, sAsg, sIf, sBreak, sCont, sAsgG, sPar2, sPar3, sSetIx, sPairSet, sAppend, onL, onI_i, onT_s, onTu_t, onCe_c, on1_, on2_, on3_, onLst_l, onOb_o, onSeq_l, onSeq_r, onSeq_c, lkD_s, lkD_n, lkO_s, lkO_n, finO, sFldD, setFD, eProp, isOb_obj, eMake, eMakeK, eMakeL, eLc, eNew, eSl, oNone, oSome, eOpM, eCallM, eCm, eCmK, eOpT, jNil, jCons, eJoin, aStar, sCalm, sFor, iRange1, iSeq, iTupD, iStrD, iEnumT, tName, tTup_t, tsCons_c, tsNil_n, any_t, onS_some, look0, look1, look2, look3, look4, look5, look6, look7, look8, look9, look10, look11, look12, look13, look14, look15, bYes, wipeE, List.set_cons_zero, List.set_cons_succ, List.length_cons, List.length_nil, List.append_nil, List.nil_append, List.cons_append, List.append_assoc, Nat.zero_add, Nat.reduceAdd, Nat.reduceSub, Nat.reduceEqDiff, Nat.reduceLT, Nat.reduceLeDiff, Int.reduceNeg, true_and, and_true, and_self, if_true, if_false, Bool.not_true, Bool.not_false, Bool.false_eq_true, reduceIte, reduceCtorEq, decide_true, decide_false, ltD_int, leD_int, gtD_int, geD_int, subD_int, addD_int, intOf_int, absD_int, eqD_int, eqD_str, neD_str, neD_int, isN_non, truD_bl, eqD_bl, neD_bl, Option.map_some, Option.bind_some, small_0, small_1, small_2, small_3, small_4, small_5, small_6, small_7, small_8, st_app, st_len, fin_st, fin_stT, fin_self, ite_self, zLine, item_m h1 h2]
      rfl
  try simp -implicitDefEqProofs only [eVar, eC, eOp, eUn, aNil, aCons, eSeq, eCall, eFn, bBl, onB_bl, bTru, eNotT, bAnd, bOr, bNot, eAnd, eOr, eIf, bChain, iteB_t, iteB_f, sNil, sSeq, sRet, sDrop, sAsg, sIf, sBreak, sCont, sAsgG, sPar2, sPar3, sSetIx, sPairSet, sAppend, onL, onI_i, onT_s, onTu_t, onCe_c, on1_, on2_, on3_, onLst_l, onOb_o, onSeq_l, onSeq_r, onSeq_c, lkD_s, lkD_n, lkO_s, lkO_n, finO, sFldD, setFD, eProp, isOb_obj, eMake, eMakeK, eMakeL, eLc, eNew, eSl, oNone, oSome, eOpM, eCallM, eCm, eCmK, eOpT, jNil, jCons, eJoin, aStar, sCalm, sFor, iRange1, iSeq, iTupD, iStrD, iEnumT, tName, tTup_t, tsCons_c, tsNil_n, any_t, onS_some, look0, look1, look2, look3, look4, look5, look6, look7, look8, look9, look10, look11, look12, look13, look14, look15, bYes, wipeE, List.set_cons_zero, List.set_cons_succ, List.length_cons, List.length_nil, List.append_nil, List.nil_append, List.cons_append, List.append_assoc, Nat.zero_add, Nat.reduceAdd, Nat.reduceSub, Nat.reduceEqDiff, Nat.reduceLT, Nat.reduceLeDiff, Int.reduceNeg, true_and, and_true, and_self, if_true, if_false, Bool.not_true, Bool.not_false, Bool.false_eq_true, reduceIte, reduceCtorEq, decide_true, decide_false, ltD_int, leD_int, gtD_int, geD_int, subD_int, addD_int, intOf_int, absD_int, eqD_int, eqD_str, neD_str, neD_int, isN_non, truD_bl, eqD_bl, neD_bl, Option.map_some, Option.bind_some, small_0, small_1, small_2, small_3, small_4, small_5, small_6, small_7, small_8, st_app, st_len, fin_st, fin_stT, fin_self, ite_self]
  subst hN_
  refine seq_gen fun N_ hN_ => ?_
  try simp -implicitDefEqProofs only [eVar, eC, eOp, eUn, aNil, aCons, eSeq, eCall, eFn, bBl, onB_bl, bTru, eNotT, bAnd, bOr, bNot, eAnd, eOr, eIf, bChain, iteB_t, iteB_f, sNil, sSeq, sRet, sDrop, sAsg, sIf, sBreak, sCont, sAsgG, sPar2, sPar3, sSetIx, sPairSet, sAppend, onL, onI_i, onT_s, onTu_t, onCe_c, on1_, on2_, on3_, onLst_l, onOb_o, onSeq_l, onSeq_r, onSeq_c, lkD_s, lkD_n, lkO_s, lkO_n, finO, sFldD, setFD, eProp, isOb_obj, eMake, eMakeK, eMakeL, eLc, eNew, eSl, oNone, oSome, eOpM, eCallM, eCm, eCmK, eOpT, jNil, jCons, eJoin, aStar, sCalm, sFor, iRange1, iSeq, iTupD, iStrD, iEnumT, tName, tTup_t, tsCons_c, tsNil_n, any_t, onS_some, look0, look1, look2, look3, look4, look5, look6, look7, look8, look9, look10, look11, look12, look13, look14, look15, bYes, wipeE, List.set_cons_zero, List.set_cons_succ, List.length_cons, List.length_nil, List.append_nil, List.nil_append, List.cons_append, List.append_assoc, Nat.zero_add, Nat.reduceAdd, Nat.reduceSub, Nat.reduceEqDiff, Nat.reduceLT, Nat.reduceLeDiff, Int.reduceNeg, true_and, and_true, and_self, if_true, if_false, Bool.not_true, Bool.not_false, Bool.false_eq_true, reduceIte, reduceCtorEq, decide_true, decide_false, ltD_int, leD_int, gtD_int, geD_int, subD_int, addD_int, intOf_int, absD_int, eqD_int, eqD_str, neD_str, neD_int, isN_non, truD_bl, eqD_bl, neD_bl, Option.map_some, Option.bind_some, small_0, small_1, small_2, small_3, small_4, small_5, small_6, small_7, small_8, st_app, st_len, fin_st, fin_stT, fin_self, ite_self, List.length_map, h24]
  rw [lc_eq (p := Sum.isLeft) (g := zObj A) _ _ trivial (fun z hz => ?_)]
  rotate_left
  · refine ⟨_, rfl, fun q x => ?_, fun hp q x => ?_⟩
    · rcases z with r | f
      · try simp -implicitDefEqProofs only [eVar, eC, eOp, eUn, aNil, aCons, eSeq, eCall, eFn, bBl, onB_bl, bTru, eNotT, bAnd, bOr, bNot, eAnd, eOr, eIf, bChain, iteB_t, iteB_f, sNil, sSeq, sRet, sDrop, sAsg, sIf, sBreak, sCont, sAsgG, sPar2, sPar3, sSetIx, sPairSet, sAppend, onL, onI_i, onT_s, onTu_t, onCe_c, on1_, on2_, on3_, onLst_l, onOb_o, onSeq_l, onSeq_r, onSeq_c, lkD_s, lkD_n, lkO_s, lkO_n, finO, sFldD, setFD, eProp, isOb_obj, eMake, eMakeK, eMakeL, eLc, eNew, eSl, oNone, oSome, eOpM, eCallM, eCm, eCmK, eOpT, jNil, jCons, eJoin, aStar, sCalm, sFor, iRange1, iSeq, iTupD, iStrD, iEnumT, tName, tTup_t, tsCons_c, tsNil_n, any_t, onS_some, look0, look1, look2, look3, look4, look5, look6, look7, look8, look9, look10, look11, look12, look13, look14, look15, bYes, wipeE, List.set_cons_zero, List.set_cons_succ, List.length_cons, List.length_nil, List.append_nil, List.nil_append, List.cons_append, List.append_assoc, Nat.zero_add, Nat.reduceAdd, Nat.reduceSub, Nat.reduceEqDiff, Nat.reduceLT, Nat.reduceLeDiff, Int.reduceNeg, true_and, and_true, and_self, if_true, if_false, Bool.not_true, Bool.not_false, Bool.false_eq_true, reduceIte, reduceCtorEq, decide_true, decide_false, ltD_int, leD_int, gtD_int, geD_int, subD_int, addD_int, intOf_int, absD_int, eqD_int, eqD_str, neD_str, neD_int, isN_non, truD_bl, eqD_bl, neD_bl, Option.map_some, Option.bind_some, small_0, small_1, small_2, small_3, small_4, small_5, small_6, small_7, small_8, st_app, st_len, fin_st, fin_stT, fin_self, ite_self, zObj, isi_pp hA, Sum.isLeft]
      · try simp -implicitDefEqProofs only [eVar, eC, eOp, eUn, aNil, aCons, eSeq, eCall, eFn, bBl, onB_bl, bTru, eNotT, bAnd, bOr, bNot, eAnd, eOr, eIf, bChain, iteB_t, iteB_f, sNil, sSeq, sRet, sDrop, sAsg, sIf, sBreak, sCont, sAsgG, sPar2, sPar3, sSetIx, sPairSet, sAppend, onL, onI_i, onT_s, onTu_t, onCe_c, on1_, on2_, on3_, onLst_l, onOb_o, onSeq_l, onSeq_r, onSeq_c, lkD_s, lkD_n, lkO_s, lkO_n, finO, sFldD, setFD, eProp, isOb_obj, eMake, eMakeK, eMakeL, eLc, eNew, eSl, oNone, oSome, eOpM, eCallM, eCm, eCmK, eOpT, jNil, jCons, eJoin, aStar, sCalm, sFor, iRange1, iSeq, iTupD, iStrD, iEnumT, tName, tTup_t, tsCons_c, tsNil_n, any_t, onS_some, look0, look1, look2, look3, look4, look5, look6, look7, look8, look9, look10, look11, look12, look13, look14, look15, bYes, wipeE, List.set_cons_zero, List.set_cons_succ, List.length_cons, List.length_nil, List.append_nil, List.nil_append, List.cons_append, List.append_assoc, Nat.zero_add, Nat.reduceAdd, Nat.reduceSub, Nat.reduceEqDiff, Nat.reduceLT, Nat.reduceLeDiff, Int.reduceNeg, true_and, and_true, and_self, if_true, if_false, Bool.not_true, Bool.not_false, Bool.false_eq_true, reduceIte, reduceCtorEq, decide_true, decide_false, ltD_int, leD_int, gtD_int, geD_int, subD_int, addD_int, intOf_int, absD_int, eqD_int, eqD_str, neD_str, neD_int, isN_non, truD_bl, eqD_bl, neD_bl, Option.map_some, Option.bind_some, small_0, small_1, small_2, small_3, small_4, small_5, small_6, small_7, small_8, st_app, st_len, fin_st, fin_stT, fin_self, ite_self, zObj, isi_mp hA, Sum.isLeft]
    · try simp -implicitDefEqProofs only [eVar, eC, eOp, eUn, aNil, aCons, eSeq, eCall, eFn, bBl, onB_bl, bTru, eNotT, bAnd, bOr, bNot, eAnd, eOr, eIf, bChain, iteB_t, iteB_f, sNil, sSeq, sRet, sDrop, sAsg, sIf, sBreak, sCont, sAsgG, sPar2, sPar3, sSetIx, sPairSet, sAppend, onL, onI_i, onT_s, onTu_t, onCe_c, on1_, on2_, on3_, onLst_l, onOb_o, onSeq_l, onSeq_r, onSeq_c, lkD_s, lkD_n, lkO_s, lkO_n, finO, sFldD, setFD, eProp, isOb_obj, eMake, eMakeK, eMakeL, eLc, eNew, eSl, oNone, oSome, eOpM, eCallM, eCm, eCmK, eOpT, jNil, jCons, eJoin, aStar, sCalm, sFor, iRange1, iSeq, iTupD, iStrD, iEnumT, tName, tTup_t, tsCons_c, tsNil_n, any_t, onS_some, look0, look1, look2, look3, look4, look5, look6, look7, look8, look9, look10, look11, look12, look13, look14, look15, bYes, wipeE, List.set_cons_zero, List.set_cons_succ, List.length_cons, List.length_nil, List.append_nil, List.nil_append, List.cons_append, List.append_assoc, Nat.zero_add, Nat.reduceAdd, Nat.reduceSub, Nat.reduceEqDiff, Nat.reduceLT, Nat.reduceLeDiff, Int.reduceNeg, true_and, and_true, and_self, if_true, if_false, Bool.not_true, Bool.not_false, Bool.false_eq_true, reduceIte, reduceCtorEq, decide_true, decide_false, ltD_int, leD_int, gtD_int, geD_int, subD_int, addD_int, intOf_int, absD_int, eqD_int, eqD_str, neD_str, neD_int, isN_non, truD_bl, eqD_bl, neD_bl, Option.map_some, Option.bind_some, small_0, small_1, small_2, small_3, small_4, small_5, small_6, small_7, small_8, st_app, st_len, fin_st, fin_stT, fin_self, ite_self]
  try simp -implicitDefEqProofs only [eVar, eC, eOp, eUn, aNil, aCons, eSeq, eCall, eFn, bBl, onB_bl, bTru, eNotT, bAnd, bOr, bNot, eAnd, eOr, eIf, bChain, iteB_t, iteB_f, sNil, sSeq, sRet, sDrop, sAsg, sIf, sBreak, sCont, sAsgG, sPar2, sPar3, sSetIx, sPairSet, sAppend, onL, onI_i, onT_s, onTu_t, onCe_c, on1_, on2_, on3_, onLst_l, onOb_o, onSeq_l, onSeq_r, onSeq_c, lkD_s, lkD_n, lkO_s, lkO_n, finO, sFldD, setFD, eProp, isOb_obj, eMake, eMakeK, eMakeL, eLc, eNew, eSl, oNone, oSome, eOpM, eCallM, eCm, eCmK, eOpT, jNil, jCons, eJoin, aStar, sCalm, sFor, iRange1, iSeq, iTupD, iStrD, iEnumT, tName, tTup_t, tsCons_c, tsNil_n, any_t, onS_some, look0, look1, look2, look3, look4, look5, look6, look7, look8, look9, look10, look11, look12, look13, look14, look15, bYes, wipeE, List.set_cons_zero, List.set_cons_succ, List.length_cons, List.length_nil, List.append_nil, List.nil_append, List.cons_append, List.append_assoc, Nat.zero_add, Nat.reduceAdd, Nat.reduceSub, Nat.reduceEqDiff, Nat.reduceLT, Nat.reduceLeDiff, Int.reduceNeg, true_and, and_true, and_self, if_true, if_false, Bool.not_true, Bool.not_false, Bool.false_eq_true, reduceIte, reduceCtorEq, decide_true, decide_false, ltD_int, leD_int, gtD_int, geD_int, subD_int, addD_int, intOf_int, absD_int, eqD_int, eqD_str, neD_str, neD_int, isN_non, truD_bl, eqD_bl, neD_bl, Option.map_some, Option.bind_some, small_0, small_1, small_2, small_3, small_4, small_5, small_6, small_7, small_8, st_app, st_len, fin_st, fin_stT, fin_self, ite_self, zs_p, tuple_lst]
  subst hN_
  refine seq_gen fun N_ hN_ => ?_
  try simp -implicitDefEqProofs only [eVar, eC, eOp, eUn, aNil, aCons, eSeq, eCall, eFn, bBl, onB_bl, bTru, eNotT, bAnd, bOr, bNot, eAnd, eOr, eIf, bChain, iteB_t, iteB_f, sNil, sSeq, sRet, sDrop, sAsg, sIf, sBreak, sCont, sAsgG, sPar2, sPar3, sSetIx, sPairSet, sAppend, onL, onI_i, onT_s, onTu_t, onCe_c, on1_, on2_, on3_, onLst_l, onOb_o, onSeq_l, onSeq_r, onSeq_c, lkD_s, lkD_n, lkO_s, lkO_n, finO, sFldD, setFD, eProp, isOb_obj, eMake, eMakeK, eMakeL, eLc, eNew, eSl, oNone, oSome, eOpM, eCallM, eCm, eCmK, eOpT, jNil, jCons, eJoin, aStar, sCalm, sFor, iRange1, iSeq, iTupD, iStrD, iEnumT, tName, tTup_t, tsCons_c, tsNil_n, any_t, onS_some, look0, look1, look2, look3, look4, look5, look6, look7, look8, look9, look10, look11, look12, look13, look14, look15, bYes, wipeE, List.set_cons_zero, List.set_cons_succ, List.length_cons, List.length_nil, List.append_nil, List.nil_append, List.cons_append, List.append_assoc, Nat.zero_add, Nat.reduceAdd, Nat.reduceSub, Nat.reduceEqDiff, Nat.reduceLT, Nat.reduceLeDiff, Int.reduceNeg, true_and, and_true, and_self, if_true, if_false, Bool.not_true, Bool.not_false, Bool.false_eq_true, reduceIte, reduceCtorEq, decide_true, decide_false, ltD_int, leD_int, gtD_int, geD_int, subD_int, addD_int, intOf_int, absD_int, eqD_int, eqD_str, neD_str, neD_int, isN_non, truD_bl, eqD_bl, neD_bl, Option.map_some, Option.bind_some, small_0, small_1, small_2, small_3, small_4, small_5, small_6, small_7, small_8, st_app, st_len, fin_st, fin_stT, fin_self, ite_self, List.length_map, h24]
  rw [lc_eq (p := Sum.isRight) (g := zObj A) _ _ trivial (fun z hz => ?_)]
  rotate_left
  · refine ⟨_, rfl, fun q x => ?_, fun hp q x => ?_⟩
    · rcases z with r | f
      · try simp -implicitDefEqProofs only [eVar, eC, eOp, eUn, aNil, aCons, eSeq, eCall, eFn, bBl, onB_bl, bTru, eNotT, bAnd, bOr, bNot, eAnd, eOr, eIf, bChain, iteB_t, iteB_f, sNil, sSeq, sRet, sDrop, sAsg, sIf, sBreak, sCont, sAsgG, sPar2, sPar3, sSetIx, sPairSet, sAppend, onL, onI_i, onT_s, onTu_t, onCe_c, on1_, on2_, on3_, onLst_l, onOb_o, onSeq_l, onSeq_r, onSeq_c, lkD_s, lkD_n, lkO_s, lkO_n, finO, sFldD, setFD, eProp, isOb_obj, eMake, eMakeK, eMakeL, eLc, eNew, eSl, oNone, oSome, eOpM, eCallM, eCm, eCmK, eOpT, jNil, jCons, eJoin, aStar, sCalm, sFor, iRange1, iSeq, iTupD, iStrD, iEnumT, tName, tTup_t, tsCons_c, tsNil_n, any_t, onS_some, look0, look1, look2, look3, look4, look5, look6, look7, look8, look9, look10, look11, look12, look13, look14, look15, bYes, wipeE, List.set_cons_zero, List.set_cons_succ, List.length_cons, List.length_nil, List.append_nil, List.nil_append, List.cons_append, List.append_assoc, Nat.zero_add, Nat.reduceAdd, Nat.reduceSub, Nat.reduceEqDiff, Nat.reduceLT, Nat.reduceLeDiff, Int.reduceNeg, true_and, and_true, and_self, if_true, if_false, Bool.not_true, Bool.not_false, Bool.false_eq_true, reduceIte, reduceCtorEq, decide_true, decide_false, ltD_int, leD_int, gtD_int, geD_int, subD_int, addD_int, intOf_int, absD_int, eqD_int, eqD_str, neD_str, neD_int, isN_non, truD_bl, eqD_bl, neD_bl, Option.map_some, Option.bind_some, small_0, small_1, small_2, small_3, small_4, small_5, small_6, small_7, small_8, st_app, st_len, fin_st, fin_stT, fin_self, ite_self, zObj, isi_pm hA, Sum.isRight]
      · try simp -implicitDefEqProofs only [eVar, eC, eOp, eUn, aNil, aCons, eSeq, eCall, eFn, bBl, onB_bl, bTru, eNotT, bAnd, bOr, bNot, eAnd, eOr, eIf, bChain, iteB_t, iteB_f, sNil, sSeq, sRet, sDrop, sAsg, sIf, sBreak, sCont, sAsgG, sPar2, sPar3, sSetIx, sPairSet, sAppend, onL, onI_i, onT_s, onTu_t, onCe_c, on1_, on2_, on3_, onLst_l, onOb_o, onSeq_l, onSeq_r, onSeq_c, lkD_s, lkD_n, lkO_s, lkO_n, finO, sFldD, setFD, eProp, isOb_obj, eMake, eMakeK, eMakeL, eLc, eNew, eSl, oNone, oSome, eOpM, eCallM, eCm, eCmK, eOpT, jNil, jCons, eJoin, aStar, sCalm, sFor, iRange1, iSeq, iTupD, iStrD, iEnumT, tName, tTup_t, tsCons_c, tsNil_n, any_t, onS_some, look0, look1, look2, look3, look4, look5, look6, look7, look8, look9, look10, look11, look12, look13, look14, look15, bYes, wipeE, List.set_cons_zero, List.set_cons_succ, List.length_cons, List.length_nil, List.append_nil, List.nil_append, List.cons_append, List.append_assoc, Nat.zero_add, Nat.reduceAdd, Nat.reduceSub, Nat.reduceEqDiff, Nat.reduceLT, Nat.reduceLeDiff, Int.reduceNeg, true_and, and_true, and_self, if_true, if_false, Bool.not_true, Bool.not_false, Bool.false_eq_true, reduceIte, reduceCtorEq, decide_true, decide_false, ltD_int, leD_int, gtD_int, geD_int, subD_int, addD_int, intOf_int, absD_int, eqD_int, eqD_str, neD_str, neD_int, isN_non, truD_bl, eqD_bl, neD_bl, Option.map_some, Option.bind_some, small_0, small_1, small_2, small_3, small_4, small_5, small_6, small_7, small_8, st_app, st_len, fin_st, fin_stT, fin_self, ite_self, zObj, isi_mm hA, Sum.isRight]
    · try simp -implicitDefEqProofs only [eVar, eC, eOp, eUn, aNil, aCons, eSeq, eCall, eFn, bBl, onB_bl, bTru, eNotT, bAnd, bOr, bNot, eAnd, eOr, eIf, bChain, iteB_t, iteB_f, sNil, sSeq, sRet, sDrop, sAsg, sIf, sBreak, sCont, sAsgG, sPar2, sPar3, sSetIx, sPairSet, sAppend, onL, onI_i, onT_s, onTu_t, onCe_c, on1_, on2_, on3_, onLst_l, onOb_o, onSeq_l, onSeq_r, onSeq_c, lkD_s, lkD_n, lkO_s, lkO_n, finO, sFldD, setFD, eProp, isOb_obj, eMake, eMakeK, eMakeL, eLc, eNew, eSl, oNone, oSome, eOpM, eCallM, eCm, eCmK, eOpT, jNil, jCons, eJoin, aStar, sCalm, sFor, iRange1, iSeq, iTupD, iStrD, iEnumT, tName, tTup_t, tsCons_c, tsNil_n, any_t, onS_some, look0, look1, look2, look3, look4, look5, look6, look7, look8, look9, look10, look11, look12, look13, look14, look15, bYes, wipeE, List.set_cons_zero, List.set_cons_succ, List.length_cons, List.length_nil, List.append_nil, List.nil_append, List.cons_append, List.append_assoc, Nat.zero_add, Nat.reduceAdd, Nat.reduceSub, Nat.reduceEqDiff, Nat.reduceLT, Nat.reduceLeDiff, Int.reduceNeg, true_and, and_true, and_self, if_true, if_false, Bool.not_true, Bool.not_false, Bool.false_eq_true, reduceIte, reduceCtorEq, decide_true, decide_false, ltD_int, leD_int, gtD_int, geD_int, subD_int, addD_int, intOf_int, absD_int, eqD_int, eqD_str, neD_str, neD_int, isN_non, truD_bl, eqD_bl, neD_bl, Option.map_some, Option.bind_some, small_0, small_1, small_2, small_3, small_4, small_5, small_6, small_7, small_8, st_app, st_len, fin_st, fin_stT, fin_self, ite_self]
  try simp -implicitDefEqProofs only [eVar, eC, eOp, eUn, aNil, aCons, eSeq, eCall, eFn, bBl, onB_bl, bTru, eNotT, bAnd, bOr, bNot, eAnd, eOr, eIf, bChain, iteB_t, iteB_f, sNil, sSeq, sRet, sDrop, sAsg, sIf, sBreak, sCont, sAsgG, sPar2, sPar3, sSetIx, sPairSet, sAppend, onL, onI_i, onT_s, onTu_t, onCe_c, on1_, on2_, on3_, onLst_l, onOb_o, onSeq_l, onSeq_r, onSeq_c, lkD_s, lkD_n, lkO_s, lkO_n, finO, sFldD, setFD, eProp, isOb_obj, eMake, eMakeK, eMakeL, eLc, eNew, eSl, oNone, oSome, eOpM, eCallM, eCm, eCmK, eOpT, jNil, jCons, eJoin, aStar, sCalm, sFor, iRange1, iSeq, iTupD, iStrD, iEnumT, tName, tTup_t, tsCons_c, tsNil_n, any_t, onS_some, look0, look1, look2, look3, look4, look5, look6, look7, look8, look9, look10, look11, look12, look13, look14, look15, bYes, wipeE, List.set_cons_zero, List.set_cons_succ, List.length_cons, List.length_nil, List.append_nil, List.nil_append, List.cons_append, List.append_assoc, Nat.zero_add, Nat.reduceAdd, Nat.reduceSub, Nat.reduceEqDiff, Nat.reduceLT, Nat.reduceLeDiff, Int.reduceNeg, true_and, and_true, and_self, if_true, if_false, Bool.not_true, Bool.not_false, Bool.false_eq_true, reduceIte, reduceCtorEq, decide_true, decide_false, ltD_int, leD_int, gtD_int, geD_int, subD_int, addD_int, intOf_int, absD_int, eqD_int, eqD_str, neD_str, neD_int, isN_non, truD_bl, eqD_bl, neD_bl, Option.map_some, Option.bind_some, small_0, small_1, small_2, small_3, small_4, small_5, small_6, small_7, small_8, st_app, st_len, fin_st, fin_stT, fin_self, ite_self, zs_m, tuple_lst]
  subst hN_
  refine seq_gen fun N_ hN_ => ?_
  try simp -implicitDefEqProofs only [eVar, eC, eOp, eUn, aNil, aCons, eSeq, eCall, eFn, bBl, onB_bl, bTru, eNotT, bAnd, bOr, bNot, eAnd, eOr, eIf, bChain, iteB_t, iteB_f, sNil, sSeq, sRet, sDrop, sAsg, sIf, sBreak, sCont, sAsgG, sPar2, sPar3, sSetIx, sPairSet, sAppend, onL, onI_i, onT_s, onTu_t, onCe_c, on1_, on2_, on3_, onLst_l, onOb_o, onSeq_l, onSeq_r, onSeq_c, lkD_s, lkD_n, lkO_s, lkO_n, finO, sFldD, setFD, eProp, isOb_obj, eMake, eMakeK, eMakeL, eLc, eNew, eSl, oNone, oSome, eOpM, eCallM, eCm, eCmK, eOpT, jNil, jCons, eJoin, aStar, sCalm, sFor, iRange1, iSeq, iTupD, iStrD, iEnumT, tName, tTup_t, tsCons_c, tsNil_n, any_t, onS_some, look0, look1, look2, look3, look4, look5, look6, look7, look8, look9, look10, look11, look12, look13, look14, look15, bYes, wipeE, List.set_cons_zero, List.set_cons_succ, List.length_cons, List.length_nil, List.append_nil, List.nil_append, List.cons_append, List.append_assoc, Nat.zero_add, Nat.reduceAdd, Nat.reduceSub, Nat.reduceEqDiff, Nat.reduceLT, Nat.reduceLeDiff, Int.reduceNeg, true_and, and_true, and_self, if_true, if_false, Bool.not_true, Bool.not_false, Bool.false_eq_true, reduceIte, reduceCtorEq, decide_true, decide_false, ltD_int, leD_int, gtD_int, geD_int, subD_int, addD_int, intOf_int, absD_int, eqD_int, eqD_str, neD_str, neD_int, isN_non, truD_bl, eqD_bl, neD_bl, Option.map_some, Option.bind_some, small_0, small_1, small_2, small_3, small_4, small_5, small_6, small_7, small_8, st_app, st_len, fin_st, fin_stT, fin_self, ite_self]
  refine net_ok hA hL hF ?_
  subst hN_
  try simp -implicitDefEqProofs only [eVar, eC, eOp, eUn, aNil, aCons, eSeq, eCall, eFn, bBl, onB_bl, bTru, eNotT, bAnd, bOr, bNot, eAnd, eOr, eIf, bChain, iteB_t, iteB_f, sNil, sSeq, sRet, sDrop, sAsg, sIf, sBreak, sCont, sAsgG, sPar2, sPar3, sSetIx, sPairSet, sAppend, onL, onI_i, onT_s, onTu_t, onCe_c, on1_, on2_, on3_, onLst_l, onOb_o, onSeq_l, onSeq_r, onSeq_c, lkD_s, lkD_n, lkO_s, lkO_n, finO, sFldD, setFD, eProp, isOb_obj, eMake, eMakeK, eMakeL, eLc, eNew, eSl, oNone, oSome, eOpM, eCallM, eCm, eCmK, eOpT, jNil, jCons, eJoin, aStar, sCalm, sFor, iRange1, iSeq, iTupD, iStrD, iEnumT, tName, tTup_t, tsCons_c, tsNil_n, any_t, onS_some, look0, look1, look2, look3, look4, look5, look6, look7, look8, look9, look10, look11, look12, look13, look14, look15, bYes, wipeE, List.set_cons_zero, List.set_cons_succ, List.length_cons, List.length_nil, List.append_nil, List.nil_append, List.cons_append, List.append_assoc, Nat.zero_add, Nat.reduceAdd, Nat.reduceSub, Nat.reduceEqDiff, Nat.reduceLT, Nat.reduceLeDiff, Int.reduceNeg, true_and, and_true, and_self, if_true, if_false, Bool.not_true, Bool.not_false, Bool.false_eq_true, reduceIte, reduceCtorEq, decide_true, decide_false, ltD_int, leD_int, gtD_int, geD_int, subD_int, addD_int, intOf_int, absD_int, eqD_int, eqD_str, neD_str, neD_int, isN_non, truD_bl, eqD_bl, neD_bl, Option.map_some, Option.bind_some, small_0, small_1, small_2, small_3, small_4, small_5, small_6, small_7, small_8, st_app, st_len, fin_st, fin_stT, fin_self, ite_self, str_own hA hL hF]
  exact hq
/-! ### the law's own -/
theorem len_p0 : ("pipe" : Str).length = 4 := by decide +kernel
theorem lineP_cat : lineP r = "pipe " ++ Txt.join " " [r.1, r.2.1, r.2.2] := by
  unfold lineP
  rw [TL.join_eq, TL.join_eq]
  refine str_ext ?_
  show (("pipe" : Str) ++ (" " : Str) ++ (r.1 ++ (" " : Str) ++ (r.2.1 ++ (" " : Str) ++ r.2.2))).cps.toList = (("pipe " : Str) ++ (r.1 ++ (" " : Str) ++ (r.2.1 ++ (" " : Str) ++ r.2.2))).cps.toList
  simp only [cat_cps, show ("pipe " : Str).cps.toList = ("pipe" : Str).cps.toList ++ (" " : Str).cps.toList from rfl, List.append_assoc]
theorem fix0 : ixD S (fitD f) (.int 0) = some (.str f.1) := rfl
theorem fix1 : ixD S (fitD f) (.int 1) = some (.str f.2.1) := rfl
theorem fix2 : ixD S (fitD f) (.int 2) = some (.bl f.2.2) := rfl
theorem rix0 : ixD S (rowD r) (.int 0) = some (.str r.1) := rfl
theorem rix1 : ixD S (rowD r) (.int 1) = some (.str r.2.1) := rfl
theorem rix2 : ixD S (rowD r) (.int 2) = some (.str r.2.2) := rfl
theorem text_ok (hL : LaidOk rs) (hF : FitsOk rs fs) : G_net_text_k11 A [.lst (rs.map rowD), .lst (fs.map fitD)] S q x = q (.str (netText rs fs)) S := by
  have h1 : small rs.length = true := small_of (by have := hL.hi; omega)
  have h2 : small fs.length = true := small_of (by have := hF.hi; omega)
  have h3 : small (rs.length + fs.length) = true := small_of (by have := hL.hi; have := hF.hi; omega)
  have l1 : ∀ (q : List D → WS → Prop), lcD any_ (tName 3) bYes (eOp addD (eC (.str "pipe ")) (eOpT joinD (eC (.str " ")) (eVar 3))) [some (.lst (rs.map rowD)), some (.lst (fs.map fitD)), none, none] (rs.map rowD) [] S q = q (rs.map fun r => .str (lineP r)) S := fun q => by
    refine lc_mapEq _ trivial fun r hr => ⟨_, rfl, fun q x => ?_⟩
    have h := hL.rows r hr
    have a1 := (nm_len h.n).2
    have a2 := (nm_len h.s).2
    have a3 := (nm_len h.e).2
    have hj : joinD S (.str " ") (rowD r) = some (.str (Txt.join " " [r.1, r.2.1, r.2.2])) := by
      refine join_strs (xs := [r.1, r.2.1, r.2.2]) rfl ?_
      simp only [List.map_cons, List.map_nil, List.sum_cons, List.sum_nil, List.length_cons, List.length_nil, len_sp]
      omega
    have hs : small (("pipe " : Str).length + (Txt.join " " [r.1, r.2.1, r.2.2]).length) = true := by
      rw [← cat_len, ← lineP_cat]
      exact small_of (by have := lineP_len h; omega)
    try simp -implicitDefEqProofs only [eVar, eC, eOp, eUn, aNil, aCons, eSeq, eCall, eFn, bBl, onB_bl, bTru, eNotT, bAnd, bOr, bNot, eAnd, eOr, eIf, bChain, iteB_t, iteB_f, sNil, sSeq, sRet, sDrop, sAsg, sIf, sBreak, sCont, sAsgG, sPar2, sPar3, sSetIx, sPairSet, sAppend, onL, onI_i, onT_s, onTu_t, onCe_c, on1_, on2_, on3_, onLst_l, onOb_o, onSeq_l, onSeq_r, onSeq_c, lkD_s, lkD_n, lkO_s, lkO_n, finO, sFldD, setFD, eProp, isOb_obj, eMake, eMakeK, eMakeL, eLc, eNew, eSl, oNone, oSome, eOpM, eCallM, eCm, eCmK, eOpT, jNil, jCons, eJoin, aStar, sCalm, sFor, iRange1, iSeq, iTupD, iStrD, iEnumT, tName, tTup_t, tsCons_c, tsNil_n, any_t, onS_some, look0, look1, look2, look3, look4, look5, look6, look7, look8, look9, look10, look11, look12, look13, look14, look15, bYes, wipeE, List.set_cons_zero, List.set_cons_succ, List.length_cons, List.length_nil, List.append_nil, List.nil_append, List.cons_append, List.append_assoc, Nat.zero_add, Nat.reduceAdd, Nat.reduceSub, Nat.reduceEqDiff, Nat.reduceLT, Nat.reduceLeDiff, Int.reduceNeg, true_and, and_true, and_self, if_true, if_false, Bool.not_true, Bool.not_false, Bool.false_eq_true, reduceIte, reduceCtorEq, decide_true, decide_false, ltD_int, leD_int, gtD_int, geD_int, subD_int, addD_int, intOf_int, absD_int, eqD_int, eqD_str, neD_str, neD_int, isN_non, truD_bl, eqD_bl, neD_bl, Option.map_some, Option.bind_some, small_0, small_1, small_2, small_3, small_4, small_5, small_6, small_7, small_8, st_app, st_len, fin_st, fin_stT, fin_self, ite_self, hj, addD_str hs]
    rw [lineP_cat]
  have l2 : ∀ (o : D) (q : List D → WS → Prop), lcD any_ (tName 3) bYes (eOp addD (eOp addD (eOp addD (eOp addD (eC (.str "meter ")) (eOp ixD (eVar 3) (eC (.int 0)))) (eC (.str " "))) (eOp ixD (eVar 3) (eC (.int 1)))) (eIf (bTru truD (eOp ixD (eVar 3) (eC (.int 2)))) (eC (.str " sealed")) (eC (.str "")))) [some (.lst (rs.map rowD)), some (.lst (fs.map fitD)), some o, none] (fs.map fitD) [] S q = q (fs.map fun f => .str (lineM f)) S := fun o q => by
    refine lc_mapEq _ trivial fun f hf => ⟨_, rfl, fun q x => ?_⟩
    have a1 := (nm_len (hF.n f hf)).2
    have a2 := (nm_len (hF.nmAt hL hf)).2
    have s1 : small (("meter " : Str).length + f.1.length) = true := small_of (by rw [len_meter]; omega)
    have s2 : small ((("meter " : Str) ++ f.1).length + (" " : Str).length) = true := small_of (by rw [cat_len, len_meter, len_sp]; omega)
    have s3 : small ((("meter " : Str) ++ f.1 ++ " ").length + f.2.1.length) = true := small_of (by rw [cat_len, cat_len, len_meter, len_sp]; omega)
    have s4 : small ((("meter " : Str) ++ f.1 ++ " " ++ f.2.1).length + (" sealed" : Str).length) = true := small_of (by rw [cat_len, cat_len, cat_len, len_meter, len_sp, len_sealed]; omega)
    have s5 : small ((("meter " : Str) ++ f.1 ++ " " ++ f.2.1).length + ("" : Str).length) = true := small_of (by rw [cat_len, cat_len, cat_len, len_meter, len_sp, show ("" : Str).length = 0 from rfl]; omega)
    try simp -implicitDefEqProofs only [eVar, eC, eOp, eUn, aNil, aCons, eSeq, eCall, eFn, bBl, onB_bl, bTru, eNotT, bAnd, bOr, bNot, eAnd, eOr, eIf, bChain, iteB_t, iteB_f, sNil, sSeq, sRet, sDrop, sAsg, sIf, sBreak, sCont, sAsgG, sPar2, sPar3, sSetIx, sPairSet, sAppend, onL, onI_i, onT_s, onTu_t, onCe_c, on1_, on2_, on3_, onLst_l, onOb_o, onSeq_l, onSeq_r, onSeq_c, lkD_s, lkD_n, lkO_s, lkO_n, finO, sFldD, setFD, eProp, isOb_obj, eMake, eMakeK, eMakeL, eLc, eNew, eSl, oNone, oSome, eOpM, eCallM, eCm, eCmK, eOpT, jNil, jCons, eJoin, aStar, sCalm, sFor, iRange1, iSeq, iTupD, iStrD, iEnumT, tName, tTup_t, tsCons_c, tsNil_n, any_t, onS_some, look0, look1, look2, look3, look4, look5, look6, look7, look8, look9, look10, look11, look12, look13, look14, look15, bYes, wipeE, List.set_cons_zero, List.set_cons_succ, List.length_cons, List.length_nil, List.append_nil, List.nil_append, List.cons_append, List.append_assoc, Nat.zero_add, Nat.reduceAdd, Nat.reduceSub, Nat.reduceEqDiff, Nat.reduceLT, Nat.reduceLeDiff, Int.reduceNeg, true_and, and_true, and_self, if_true, if_false, Bool.not_true, Bool.not_false, Bool.false_eq_true, reduceIte, reduceCtorEq, decide_true, decide_false, ltD_int, leD_int, gtD_int, geD_int, subD_int, addD_int, intOf_int, absD_int, eqD_int, eqD_str, neD_str, neD_int, isN_non, truD_bl, eqD_bl, neD_bl, Option.map_some, Option.bind_some, small_0, small_1, small_2, small_3, small_4, small_5, small_6, small_7, small_8, st_app, st_len, fin_st, fin_stT, fin_self, ite_self, fix0, fix1, fix2, addD_str s1, addD_str s2, addD_str s3]
    rw [lineM_eq]
    cases f.2.2
    · try simp -implicitDefEqProofs only [eVar, eC, eOp, eUn, aNil, aCons, eSeq, eCall, eFn, bBl, onB_bl, bTru, eNotT, bAnd, bOr, bNot, eAnd, eOr, eIf, bChain, iteB_t, iteB_f, sNil, sSeq, sRet, sDrop, sAsg, sIf, sBreak, sCont, sAsgG, sPar2, sPar3, sSetIx, sPairSet, sAppend, onL, onI_i, onT_s, onTu_t, onCe_c, on1_, on2_, on3_, onLst_l, onOb_o, onSeq_l, onSeq_r, onSeq_c, lkD_s, lkD_n, lkO_s, lkO_n, finO, sFldD, setFD, eProp, isOb_obj, eMake, eMakeK, eMakeL, eLc, eNew, eSl, oNone, oSome, eOpM, eCallM, eCm, eCmK, eOpT, jNil, jCons, eJoin, aStar, sCalm, sFor, iRange1, iSeq, iTupD, iStrD, iEnumT, tName, tTup_t, tsCons_c, tsNil_n, any_t, onS_some, look0, look1, look2, look3, look4, look5, look6, look7, look8, look9, look10, look11, look12, look13, look14, look15, bYes, wipeE, List.set_cons_zero, List.set_cons_succ, List.length_cons, List.length_nil, List.append_nil, List.nil_append, List.cons_append, List.append_assoc, Nat.zero_add, Nat.reduceAdd, Nat.reduceSub, Nat.reduceEqDiff, Nat.reduceLT, Nat.reduceLeDiff, Int.reduceNeg, true_and, and_true, and_self, if_true, if_false, Bool.not_true, Bool.not_false, Bool.false_eq_true, reduceIte, reduceCtorEq, decide_true, decide_false, ltD_int, leD_int, gtD_int, geD_int, subD_int, addD_int, intOf_int, absD_int, eqD_int, eqD_str, neD_str, neD_int, isN_non, truD_bl, eqD_bl, neD_bl, Option.map_some, Option.bind_some, small_0, small_1, small_2, small_3, small_4, small_5, small_6, small_7, small_8, st_app, st_len, fin_st, fin_stT, fin_self, ite_self, addD_str s5]
    · try simp -implicitDefEqProofs only [eVar, eC, eOp, eUn, aNil, aCons, eSeq, eCall, eFn, bBl, onB_bl, bTru, eNotT, bAnd, bOr, bNot, eAnd, eOr, eIf, bChain, iteB_t, iteB_f, sNil, sSeq, sRet, sDrop, sAsg, sIf, sBreak, sCont, sAsgG, sPar2, sPar3, sSetIx, sPairSet, sAppend, onL, onI_i, onT_s, onTu_t, onCe_c, on1_, on2_, on3_, onLst_l, onOb_o, onSeq_l, onSeq_r, onSeq_c, lkD_s, lkD_n, lkO_s, lkO_n, finO, sFldD, setFD, eProp, isOb_obj, eMake, eMakeK, eMakeL, eLc, eNew, eSl, oNone, oSome, eOpM, eCallM, eCm, eCmK, eOpT, jNil, jCons, eJoin, aStar, sCalm, sFor, iRange1, iSeq, iTupD, iStrD, iEnumT, tName, tTup_t, tsCons_c, tsNil_n, any_t, onS_some, look0, look1, look2, look3, look4, look5, look6, look7, look8, look9, look10, look11, look12, look13, look14, look15, bYes, wipeE, List.set_cons_zero, List.set_cons_succ, List.length_cons, List.length_nil, List.append_nil, List.nil_append, List.cons_append, List.append_assoc, Nat.zero_add, Nat.reduceAdd, Nat.reduceSub, Nat.reduceEqDiff, Nat.reduceLT, Nat.reduceLeDiff, Int.reduceNeg, true_and, and_true, and_self, if_true, if_false, Bool.not_true, Bool.not_false, Bool.false_eq_true, reduceIte, reduceCtorEq, decide_true, decide_false, ltD_int, leD_int, gtD_int, geD_int, subD_int, addD_int, intOf_int, absD_int, eqD_int, eqD_str, neD_str, neD_int, isN_non, truD_bl, eqD_bl, neD_bl, Option.map_some, Option.bind_some, small_0, small_1, small_2, small_3, small_4, small_5, small_6, small_7, small_8, st_app, st_len, fin_st, fin_stT, fin_self, ite_self, addD_str s4]
  have e : rs.map (fun r => D.str (lineP r)) ++ fs.map (fun f => D.str (lineM f)) = (rs.map lineP ++ fs.map lineM).map D.str := by simp [Function.comp_def]
  have h4 : small ((rs.map fun r => D.str (lineP r)).length + (fs.map fun f => D.str (lineM f)).length) = true := by
    rw [List.length_map, List.length_map]
    exact h3
  rw [D_net_text_k11]
  unfold fnD startE
  simp only [List.map_cons, List.map_nil, List.length_cons, List.length_nil, Nat.reduceAdd, Nat.reduceSub, List.replicate, List.cons_append, List.nil_append, List.append_nil, Nat.zero_add]
  unfold B_net_text_k11
  try simp -implicitDefEqProofs only [eVar, eC, eOp, eUn, aNil, aCons, eSeq, eCall, eFn, bBl, onB_bl, bTru, eNotT, bAnd, bOr, bNot, eAnd, eOr, eIf, bChain, iteB_t, iteB_f, sNil, sSeq, sRet, sDrop, sAsg, sIf, sBreak, sCont, sAsgG, sPar2, sPar3, sSetIx, sPairSet, sAppend, onL, onI_i, onT_s, onTu_t, onCe_c, on1_, on2_, on3_, onLst_l, onOb_o, onSeq_l, onSeq_r, onSeq_c, lkD_s, lkD_n, lkO_s, lkO_n, finO, sFldD, setFD, eProp, isOb_obj, eMake, eMakeK, eMakeL, eLc, eNew, eSl, oNone, oSome, eOpM, eCallM, eCm, eCmK, eOpT, jNil, jCons, eJoin, aStar, sCalm, sFor, iRange1, iSeq, iTupD, iStrD, iEnumT, tName, tTup_t, tsCons_c, tsNil_n, any_t, onS_some, look0, look1, look2, look3, look4, look5, look6, look7, look8, look9, look10, look11, look12, look13, look14, look15, bYes, wipeE, List.set_cons_zero, List.set_cons_succ, List.length_cons, List.length_nil, List.append_nil, List.nil_append, List.cons_append, List.append_assoc, Nat.zero_add, Nat.reduceAdd, Nat.reduceSub, Nat.reduceEqDiff, Nat.reduceLT, Nat.reduceLeDiff, Int.reduceNeg, true_and, and_true, and_self, if_true, if_false, Bool.not_true, Bool.not_false, Bool.false_eq_true, reduceIte, reduceCtorEq, decide_true, decide_false, ltD_int, leD_int, gtD_int, geD_int, subD_int, addD_int, intOf_int, absD_int, eqD_int, eqD_str, neD_str, neD_int, isN_non, truD_bl, eqD_bl, neD_bl, Option.map_some, Option.bind_some, small_0, small_1, small_2, small_3, small_4, small_5, small_6, small_7, small_8, st_app, st_len, fin_st, fin_stT, fin_self, ite_self, List.length_map, h1, h2, l1, l2, addD_lst h4]
  rw [e]
  try simp -implicitDefEqProofs only [eVar, eC, eOp, eUn, aNil, aCons, eSeq, eCall, eFn, bBl, onB_bl, bTru, eNotT, bAnd, bOr, bNot, eAnd, eOr, eIf, bChain, iteB_t, iteB_f, sNil, sSeq, sRet, sDrop, sAsg, sIf, sBreak, sCont, sAsgG, sPar2, sPar3, sSetIx, sPairSet, sAppend, onL, onI_i, onT_s, onTu_t, onCe_c, on1_, on2_, on3_, onLst_l, onOb_o, onSeq_l, onSeq_r, onSeq_c, lkD_s, lkD_n, lkO_s, lkO_n, finO, sFldD, setFD, eProp, isOb_obj, eMake, eMakeK, eMakeL, eLc, eNew, eSl, oNone, oSome, eOpM, eCallM, eCm, eCmK, eOpT, jNil, jCons, eJoin, aStar, sCalm, sFor, iRange1, iSeq, iTupD, iStrD, iEnumT, tName, tTup_t, tsCons_c, tsNil_n, any_t, onS_some, look0, look1, look2, look3, look4, look5, look6, look7, look8, look9, look10, look11, look12, look13, look14, look15, bYes, wipeE, List.set_cons_zero, List.set_cons_succ, List.length_cons, List.length_nil, List.append_nil, List.nil_append, List.cons_append, List.append_assoc, Nat.zero_add, Nat.reduceAdd, Nat.reduceSub, Nat.reduceEqDiff, Nat.reduceLT, Nat.reduceLeDiff, Int.reduceNeg, true_and, and_true, and_self, if_true, if_false, Bool.not_true, Bool.not_false, Bool.false_eq_true, reduceIte, reduceCtorEq, decide_true, decide_false, ltD_int, leD_int, gtD_int, geD_int, subD_int, addD_int, intOf_int, absD_int, eqD_int, eqD_str, neD_str, neD_int, isN_non, truD_bl, eqD_bl, neD_bl, Option.map_some, Option.bind_some, small_0, small_1, small_2, small_3, small_4, small_5, small_6, small_7, small_8, st_app, st_len, fin_st, fin_stT, fin_self, ite_self, lines_join hL hF (x := .lst ((rs.map lineP ++ fs.map lineM).map D.str)) rfl]
end
end RV
end
section
/-! Nets by rows; their texts; equal nets. -/
namespace RV
open PySem L2
section
variable {A : Ad} {S : WS} {q : D → WS → Prop} {x : Xq} {rs : List LR} {fs fs' : List FR} {r : LR} {f : FR} {a b : D}
theorem net_made (hA : NetsA A) (hL : LaidOk rs) (hF : FitsOk rs fs) (hq : q (netV A rs fs) S) : G_net_k11 A [.lst (rs.map rowD), .lst (fs.map fitD)] S q x := by
  have h1 : small rs.length = true := small_of (by have := hL.hi; omega)
  have h2 : small fs.length = true := small_of (by have := hF.hi; omega)
  rw [D_net_k11]
  unfold fnD startE
  simp only [List.map_cons, List.map_nil, List.length_cons, List.length_nil, Nat.reduceAdd, Nat.reduceSub, List.replicate, List.cons_append, List.nil_append, List.append_nil, Nat.zero_add]
  unfold B_net_k11
  refine seq_gen fun N_ hN_ => ?_
  try simp -implicitDefEqProofs only [eVar, eC, eOp, eUn, aNil, aCons, eSeq, eCall, eFn, bBl, onB_bl, bTru, eNotT, bAnd, bOr, bNot, eAnd, eOr, eIf, bChain, iteB_t, iteB_f, sNil, sSeq, sRet, sDrop, sAsg, sIf, sBreak, sCont, sAsgG, sPar2, sPar3, sSetIx, sPairSet, sAppend, onL, onI_i, onT_s, onTu_t, onCe_c, on1_, on2_, on3_, onLst_l, onOb_o, onSeq_l, onSeq_r, onSeq_c, lkD_s, lkD_n, lkO_s, lkO_n, finO, sFldD, setFD, eProp, isOb_obj, eMake, eMakeK, eMakeL, eLc, eNew, eSl, oNone, oSome, eOpM, eCallM, eCm, eCmK, eOpT, jNil, jCons, eJoin, aStar, sCalm, sFor, iRange1, iSeq, iTupD, iStrD, iEnumT, tName, tTup_t, tsCons_c, tsNil_n, any_t, onS_some, look0, look1, look2, look3, look4, look5, look6, look7, look8, look9, look10, look11, look12, look13, look14, look15, bYes, wipeE, List.set_cons_zero, List.set_cons_succ, List.length_cons, List.length_nil, List.append_nil, List.nil_append, List.cons_append, List.append_assoc, Nat.zero_add, Nat.reduceAdd, Nat.reduceSub, Nat.reduceEqDiff, Nat.reduceLT, Nat.reduceLeDiff, Int.reduceNeg, true_and, and_true, and_self, if_true, if_false, Bool.not_true, Bool.not_false, Bool.false_eq_true, reduceIte, reduceCtorEq, decide_true, decide_false, ltD_int, leD_int, gtD_int, geD_int, subD_int, addD_int, intOf_int, absD_int, eqD_int, eqD_str, neD_str, neD_int, isN_non, truD_bl, eqD_bl, neD_bl, Option.map_some, Option.bind_some, small_0, small_1, small_2, small_3, small_4, small_5, small_6, small_7, small_8, st_app, st_len, fin_st, fin_stT, fin_self, ite_self, List.length_map, h1]
  rw [lc_mapEq (g := pv A) _ trivial (fun r hr => ?_)]
  rotate_left
  · refine ⟨_, rfl, fun q x => ?_⟩
    have h := hL.rows r hr
    try simp -implicitDefEqProofs only [eVar, eC, eOp, eUn, aNil, aCons, eSeq, eCall, eFn, bBl, onB_bl, bTru, eNotT, bAnd, bOr, bNot, eAnd, eOr, eIf, bChain, iteB_t, iteB_f, sNil, sSeq, sRet, sDrop, sAsg, sIf, sBreak, sCont, sAsgG, sPar2, sPar3, sSetIx, sPairSet, sAppend, onL, onI_i, onT_s, onTu_t, onCe_c, on1_, on2_, on3_, onLst_l, onOb_o, onSeq_l, onSeq_r, onSeq_c, lkD_s, lkD_n, lkO_s, lkO_n, finO, sFldD, setFD, eProp, isOb_obj, eMake, eMakeK, eMakeL, eLc, eNew, eSl, oNone, oSome, eOpM, eCallM, eCm, eCmK, eOpT, jNil, jCons, eJoin, aStar, sCalm, sFor, iRange1, iSeq, iTupD, iStrD, iEnumT, tName, tTup_t, tsCons_c, tsNil_n, any_t, onS_some, look0, look1, look2, look3, look4, look5, look6, look7, look8, look9, look10, look11, look12, look13, look14, look15, bYes, wipeE, List.set_cons_zero, List.set_cons_succ, List.length_cons, List.length_nil, List.append_nil, List.nil_append, List.cons_append, List.append_assoc, Nat.zero_add, Nat.reduceAdd, Nat.reduceSub, Nat.reduceEqDiff, Nat.reduceLT, Nat.reduceLeDiff, Int.reduceNeg, true_and, and_true, and_self, if_true, if_false, Bool.not_true, Bool.not_false, Bool.false_eq_true, reduceIte, reduceCtorEq, decide_true, decide_false, ltD_int, leD_int, gtD_int, geD_int, subD_int, addD_int, intOf_int, absD_int, eqD_int, eqD_str, neD_str, neD_int, isN_non, truD_bl, eqD_bl, neD_bl, Option.map_some, Option.bind_some, small_0, small_1, small_2, small_3, small_4, small_5, small_6, small_7, small_8, st_app, st_len, fin_st, fin_stT, fin_self, ite_self, rix0, rix1, rix2, pipe_init_ok h.n h.s h.e h.ne]
    rfl
  try simp -implicitDefEqProofs only [eVar, eC, eOp, eUn, aNil, aCons, eSeq, eCall, eFn, bBl, onB_bl, bTru, eNotT, bAnd, bOr, bNot, eAnd, eOr, eIf, bChain, iteB_t, iteB_f, sNil, sSeq, sRet, sDrop, sAsg, sIf, sBreak, sCont, sAsgG, sPar2, sPar3, sSetIx, sPairSet, sAppend, onL, onI_i, onT_s, onTu_t, onCe_c, on1_, on2_, on3_, onLst_l, onOb_o, onSeq_l, onSeq_r, onSeq_c, lkD_s, lkD_n, lkO_s, lkO_n, finO, sFldD, setFD, eProp, isOb_obj, eMake, eMakeK, eMakeL, eLc, eNew, eSl, oNone, oSome, eOpM, eCallM, eCm, eCmK, eOpT, jNil, jCons, eJoin, aStar, sCalm, sFor, iRange1, iSeq, iTupD, iStrD, iEnumT, tName, tTup_t, tsCons_c, tsNil_n, any_t, onS_some, look0, look1, look2, look3, look4, look5, look6, look7, look8, look9, look10, look11, look12, look13, look14, look15, bYes, wipeE, List.set_cons_zero, List.set_cons_succ, List.length_cons, List.length_nil, List.append_nil, List.nil_append, List.cons_append, List.append_assoc, Nat.zero_add, Nat.reduceAdd, Nat.reduceSub, Nat.reduceEqDiff, Nat.reduceLT, Nat.reduceLeDiff, Int.reduceNeg, true_and, and_true, and_self, if_true, if_false, Bool.not_true, Bool.not_false, Bool.false_eq_true, reduceIte, reduceCtorEq, decide_true, decide_false, ltD_int, leD_int, gtD_int, geD_int, subD_int, addD_int, intOf_int, absD_int, eqD_int, eqD_str, neD_str, neD_int, isN_non, truD_bl, eqD_bl, neD_bl, Option.map_some, Option.bind_some, small_0, small_1, small_2, small_3, small_4, small_5, small_6, small_7, small_8, st_app, st_len, fin_st, fin_stT, fin_self, ite_self]
  subst hN_
  try simp -implicitDefEqProofs only [eVar, eC, eOp, eUn, aNil, aCons, eSeq, eCall, eFn, bBl, onB_bl, bTru, eNotT, bAnd, bOr, bNot, eAnd, eOr, eIf, bChain, iteB_t, iteB_f, sNil, sSeq, sRet, sDrop, sAsg, sIf, sBreak, sCont, sAsgG, sPar2, sPar3, sSetIx, sPairSet, sAppend, onL, onI_i, onT_s, onTu_t, onCe_c, on1_, on2_, on3_, onLst_l, onOb_o, onSeq_l, onSeq_r, onSeq_c, lkD_s, lkD_n, lkO_s, lkO_n, finO, sFldD, setFD, eProp, isOb_obj, eMake, eMakeK, eMakeL, eLc, eNew, eSl, oNone, oSome, eOpM, eCallM, eCm, eCmK, eOpT, jNil, jCons, eJoin, aStar, sCalm, sFor, iRange1, iSeq, iTupD, iStrD, iEnumT, tName, tTup_t, tsCons_c, tsNil_n, any_t, onS_some, look0, look1, look2, look3, look4, look5, look6, look7, look8, look9, look10, look11, look12, look13, look14, look15, bYes, wipeE, List.set_cons_zero, List.set_cons_succ, List.length_cons, List.length_nil, List.append_nil, List.nil_append, List.cons_append, List.append_assoc, Nat.zero_add, Nat.reduceAdd, Nat.reduceSub, Nat.reduceEqDiff, Nat.reduceLT, Nat.reduceLeDiff, Int.reduceNeg, true_and, and_true, and_self, if_true, if_false, Bool.not_true, Bool.not_false, Bool.false_eq_true, reduceIte, reduceCtorEq, decide_true, decide_false, ltD_int, leD_int, gtD_int, geD_int, subD_int, addD_int, intOf_int, absD_int, eqD_int, eqD_str, neD_str, neD_int, isN_non, truD_bl, eqD_bl, neD_bl, Option.map_some, Option.bind_some, small_0, small_1, small_2, small_3, small_4, small_5, small_6, small_7, small_8, st_app, st_len, fin_st, fin_stT, fin_self, ite_self, tuple_lst, List.length_map, h2]
  rw [lc_mapEq (g := mv A) _ trivial (fun f hf => ?_)]
  rotate_left
  · refine ⟨_, rfl, fun q x => ?_⟩
    try simp -implicitDefEqProofs only [eVar, eC, eOp, eUn, aNil, aCons, eSeq, eCall, eFn, bBl, onB_bl, bTru, eNotT, bAnd, bOr, bNot, eAnd, eOr, eIf, bChain, iteB_t, iteB_f, sNil, sSeq, sRet, sDrop, sAsg, sIf, sBreak, sCont, sAsgG, sPar2, sPar3, sSetIx, sPairSet, sAppend, onL, onI_i, onT_s, onTu_t, onCe_c, on1_, on2_, on3_, onLst_l, onOb_o, onSeq_l, onSeq_r, onSeq_c, lkD_s, lkD_n, lkO_s, lkO_n, finO, sFldD, setFD, eProp, isOb_obj, eMake, eMakeK, eMakeL, eLc, eNew, eSl, oNone, oSome, eOpM, eCallM, eCm, eCmK, eOpT, jNil, jCons, eJoin, aStar, sCalm, sFor, iRange1, iSeq, iTupD, iStrD, iEnumT, tName, tTup_t, tsCons_c, tsNil_n, any_t, onS_some, look0, look1, look2, look3, look4, look5, look6, look7, look8, look9, look10, look11, look12, look13, look14, look15, bYes, wipeE, List.set_cons_zero, List.set_cons_succ, List.length_cons, List.length_nil, List.append_nil, List.nil_append, List.cons_append, List.append_assoc, Nat.zero_add, Nat.reduceAdd, Nat.reduceSub, Nat.reduceEqDiff, Nat.reduceLT, Nat.reduceLeDiff, Int.reduceNeg, true_and, and_true, and_self, if_true, if_false, Bool.not_true, Bool.not_false, Bool.false_eq_true, reduceIte, reduceCtorEq, decide_true, decide_false, ltD_int, leD_int, gtD_int, geD_int, subD_int, addD_int, intOf_int, absD_int, eqD_int, eqD_str, neD_str, neD_int, isN_non, truD_bl, eqD_bl, neD_bl, Option.map_some, Option.bind_some, small_0, small_1, small_2, small_3, small_4, small_5, small_6, small_7, small_8, st_app, st_len, fin_st, fin_stT, fin_self, ite_self, fix0, fix1, fix2, perm0, meter_init_ok (hF.n f hf) (hF.nmAt hL hf)]
    rfl
  try simp -implicitDefEqProofs only [eVar, eC, eOp, eUn, aNil, aCons, eSeq, eCall, eFn, bBl, onB_bl, bTru, eNotT, bAnd, bOr, bNot, eAnd, eOr, eIf, bChain, iteB_t, iteB_f, sNil, sSeq, sRet, sDrop, sAsg, sIf, sBreak, sCont, sAsgG, sPar2, sPar3, sSetIx, sPairSet, sAppend, onL, onI_i, onT_s, onTu_t, onCe_c, on1_, on2_, on3_, onLst_l, onOb_o, onSeq_l, onSeq_r, onSeq_c, lkD_s, lkD_n, lkO_s, lkO_n, finO, sFldD, setFD, eProp, isOb_obj, eMake, eMakeK, eMakeL, eLc, eNew, eSl, oNone, oSome, eOpM, eCallM, eCm, eCmK, eOpT, jNil, jCons, eJoin, aStar, sCalm, sFor, iRange1, iSeq, iTupD, iStrD, iEnumT, tName, tTup_t, tsCons_c, tsNil_n, any_t, onS_some, look0, look1, look2, look3, look4, look5, look6, look7, look8, look9, look10, look11, look12, look13, look14, look15, bYes, wipeE, List.set_cons_zero, List.set_cons_succ, List.length_cons, List.length_nil, List.append_nil, List.nil_append, List.cons_append, List.append_assoc, Nat.zero_add, Nat.reduceAdd, Nat.reduceSub, Nat.reduceEqDiff, Nat.reduceLT, Nat.reduceLeDiff, Int.reduceNeg, true_and, and_true, and_self, if_true, if_false, Bool.not_true, Bool.not_false, Bool.false_eq_true, reduceIte, reduceCtorEq, decide_true, decide_false, ltD_int, leD_int, gtD_int, geD_int, subD_int, addD_int, intOf_int, absD_int, eqD_int, eqD_str, neD_str, neD_int, isN_non, truD_bl, eqD_bl, neD_bl, Option.map_some, Option.bind_some, small_0, small_1, small_2, small_3, small_4, small_5, small_6, small_7, small_8, st_app, st_len, fin_st, fin_stT, fin_self, ite_self, tuple_lst]
  refine net_ok hA hL hF ?_
  try simp -implicitDefEqProofs only [eVar, eC, eOp, eUn, aNil, aCons, eSeq, eCall, eFn, bBl, onB_bl, bTru, eNotT, bAnd, bOr, bNot, eAnd, eOr, eIf, bChain, iteB_t, iteB_f, sNil, sSeq, sRet, sDrop, sAsg, sIf, sBreak, sCont, sAsgG, sPar2, sPar3, sSetIx, sPairSet, sAppend, onL, onI_i, onT_s, onTu_t, onCe_c, on1_, on2_, on3_, onLst_l, onOb_o, onSeq_l, onSeq_r, onSeq_c, lkD_s, lkD_n, lkO_s, lkO_n, finO, sFldD, setFD, eProp, isOb_obj, eMake, eMakeK, eMakeL, eLc, eNew, eSl, oNone, oSome, eOpM, eCallM, eCm, eCmK, eOpT, jNil, jCons, eJoin, aStar, sCalm, sFor, iRange1, iSeq, iTupD, iStrD, iEnumT, tName, tTup_t, tsCons_c, tsNil_n, any_t, onS_some, look0, look1, look2, look3, look4, look5, look6, look7, look8, look9, look10, look11, look12, look13, look14, look15, bYes, wipeE, List.set_cons_zero, List.set_cons_succ, List.length_cons, List.length_nil, List.append_nil, List.nil_append, List.cons_append, List.append_assoc, Nat.zero_add, Nat.reduceAdd, Nat.reduceSub, Nat.reduceEqDiff, Nat.reduceLT, Nat.reduceLeDiff, Int.reduceNeg, true_and, and_true, and_self, if_true, if_false, Bool.not_true, Bool.not_false, Bool.false_eq_true, reduceIte, reduceCtorEq, decide_true, decide_false, ltD_int, leD_int, gtD_int, geD_int, subD_int, addD_int, intOf_int, absD_int, eqD_int, eqD_str, neD_str, neD_int, isN_non, truD_bl, eqD_bl, neD_bl, Option.map_some, Option.bind_some, small_0, small_1, small_2, small_3, small_4, small_5, small_6, small_7, small_8, st_app, st_len, fin_st, fin_stT, fin_self, ite_self]
  exact hq
/-! ### equal nets -/
theorem split_text (hL : LaidOk rs) (hF : FitsOk rs fs) : Txt.split (netText rs fs) "\n" = (zs rs fs).map zLine := by
  have h := split_net (S := []) hL hF
  have hs : small (netText rs fs).length = true := small_of (by have := netText_len hL hF; omega)
  simp only [splitD, onStr, hs, nl_len, ne_eq, not_false_eq_true, and_self, if_true, Option.some.injEq, D.lst.injEq] at h
  have e : (zs rs fs).map (fun z => D.str (zLine z)) = ((zs rs fs).map zLine).map D.str := by simp [Function.comp_def]
  rw [e] at h
  exact (List.map_inj_right fun a b h => by cases h; rfl).mp h
theorem net_eqOk (hA : NetsA A) (hL : LaidOk rs) (hF : FitsOk rs fs) (hF' : FitsOk rs fs') : G_Net_eq A [netV A rs fs, netV A rs fs'] S q x = q (.bl (decide (netText rs fs = netText rs fs'))) S := by
  rw [D_Net_eq]
  unfold fnD startE
  simp only [List.map_cons, List.map_nil, List.length_cons, List.length_nil, Nat.reduceAdd, Nat.reduceSub, List.replicate, List.cons_append, List.nil_append, List.append_nil, Nat.zero_add]
  unfold B_Net_eq
  try simp -implicitDefEqProofs only [eVar, eC, eOp, eUn, aNil, aCons, eSeq, eCall, eFn, bBl, onB_bl, bTru, eNotT, bAnd, bOr, bNot, eAnd, eOr, eIf, bChain, iteB_t, iteB_f, sNil, sSeq, sRet, sDrop, sAsg, sIf, sBreak, sCont, sAsgG, sPar2, sPar3, sSetIx, sPairSet, sAppend, onL, onI_i, onT_s, onTu_t, onCe_c, on1_, on2_, on3_, onLst_l, onOb_o, onSeq_l, onSeq_r, onSeq_c, lkD_s, lkD_n, lkO_s, lkO_n, finO, sFldD, setFD, eProp, isOb_obj, eMake, eMakeK, eMakeL, eLc, eNew, eSl, oNone, oSome, eOpM, eCallM, eCm, eCmK, eOpT, jNil, jCons, eJoin, aStar, sCalm, sFor, iRange1, iSeq, iTupD, iStrD, iEnumT, tName, tTup_t, tsCons_c, tsNil_n, any_t, onS_some, look0, look1, look2, look3, look4, look5, look6, look7, look8, look9, look10, look11, look12, look13, look14, look15, bYes, wipeE, List.set_cons_zero, List.set_cons_succ, List.length_cons, List.length_nil, List.append_nil, List.nil_append, List.cons_append, List.append_assoc, Nat.zero_add, Nat.reduceAdd, Nat.reduceSub, Nat.reduceEqDiff, Nat.reduceLT, Nat.reduceLeDiff, Int.reduceNeg, true_and, and_true, and_self, if_true, if_false, Bool.not_true, Bool.not_false, Bool.false_eq_true, reduceIte, reduceCtorEq, decide_true, decide_false, ltD_int, leD_int, gtD_int, geD_int, subD_int, addD_int, intOf_int, absD_int, eqD_int, eqD_str, neD_str, neD_int, isN_non, truD_bl, eqD_bl, neD_bl, Option.map_some, Option.bind_some, small_0, small_1, small_2, small_3, small_4, small_5, small_6, small_7, small_8, st_app, st_len, fin_st, fin_stT, fin_self, ite_self, isi_nn hA, str_own hA hL hF, str_own hA hL hF']
theorem nf_net (hA : NetsA A) : nf A (.ref (A.c "Net")) = true := by
  unfold nf nfD
  exact decide_eq_true (ref_kinds hA.n)
theorem eq_own (hA : NetsA A) (hL : LaidOk rs) (hF : FitsOk rs fs) (hF' : FitsOk rs fs') {neg : Bool} : eqOwnD (A.c "Net") (own A) (G_Net_eq A) neg (nf A) (netV A rs fs) (netV A rs fs') S q x = q (.bl (if neg then !decide (netText rs fs = netText rs fs') else decide (netText rs fs = netText rs fs'))) S := by
  unfold eqOwnD
  have hk : kindD (own A) (netV A rs fs') = some (.ref (A.c "Net")) := kind_here hA.n
  try simp -implicitDefEqProofs only [eVar, eC, eOp, eUn, aNil, aCons, eSeq, eCall, eFn, bBl, onB_bl, bTru, eNotT, bAnd, bOr, bNot, eAnd, eOr, eIf, bChain, iteB_t, iteB_f, sNil, sSeq, sRet, sDrop, sAsg, sIf, sBreak, sCont, sAsgG, sPar2, sPar3, sSetIx, sPairSet, sAppend, onL, onI_i, onT_s, onTu_t, onCe_c, on1_, on2_, on3_, onLst_l, onOb_o, onSeq_l, onSeq_r, onSeq_c, lkD_s, lkD_n, lkO_s, lkO_n, finO, sFldD, setFD, eProp, isOb_obj, eMake, eMakeK, eMakeL, eLc, eNew, eSl, oNone, oSome, eOpM, eCallM, eCm, eCmK, eOpT, jNil, jCons, eJoin, aStar, sCalm, sFor, iRange1, iSeq, iTupD, iStrD, iEnumT, tName, tTup_t, tsCons_c, tsNil_n, any_t, onS_some, look0, look1, look2, look3, look4, look5, look6, look7, look8, look9, look10, look11, look12, look13, look14, look15, bYes, wipeE, List.set_cons_zero, List.set_cons_succ, List.length_cons, List.length_nil, List.append_nil, List.nil_append, List.cons_append, List.append_assoc, Nat.zero_add, Nat.reduceAdd, Nat.reduceSub, Nat.reduceEqDiff, Nat.reduceLT, Nat.reduceLeDiff, Int.reduceNeg, true_and, and_true, and_self, if_true, if_false, Bool.not_true, Bool.not_false, Bool.false_eq_true, reduceIte, reduceCtorEq, decide_true, decide_false, ltD_int, leD_int, gtD_int, geD_int, subD_int, addD_int, intOf_int, absD_int, eqD_int, eqD_str, neD_str, neD_int, isN_non, truD_bl, eqD_bl, neD_bl, Option.map_some, Option.bind_some, small_0, small_1, small_2, small_3, small_4, small_5, small_6, small_7, small_8, st_app, st_len, fin_st, fin_stT, fin_self, ite_self, ob_nv, hk, nf_net hA, net_eqOk hA hL hF hF']
/-! ### the law's own look at a net -/
def rowPy (r : LR) : PyData := .tuple [.str r.1, .str r.2.1, .str r.2.2]
def fitPy (f : FR) : PyData := .tuple [.str f.1, .str f.2.1, .bool f.2.2]
theorem py_row {r : LR} : D.py (rowD r) = some (rowPy r) := rfl
theorem py_fit {f : FR} : D.py (fitD f) = some (fitPy f) := rfl
theorem sh_row (h : RowOk r) : ShOk 1 27 (rowPy r) := ShOk.tuple (k := 0) (w := 8) (xs := [.str r.1, .str r.2.1, .str r.2.2]) fun y hy => by
  simp only [List.mem_cons, List.not_mem_nil, or_false] at hy
  rcases hy with e | e | e <;> subst e
  · exact ShOk.nm h.n
  · exact ShOk.nm h.s
  · exact ShOk.nm h.e
theorem sh_fit (h1 : Nm f.1) (h2 : Nm f.2.1) : ShOk 1 27 (fitPy f) := ShOk.tuple (k := 0) (w := 8) (xs := [.str f.1, .str f.2.1, .bool f.2.2]) fun y hy => by
  simp only [List.mem_cons, List.not_mem_nil, or_false] at hy
  rcases hy with e | e | e <;> subst e
  · exact ShOk.nm h1
  · exact ShOk.nm h2
  · exact ShOk.bool
theorem repr_rows (hL : LaidOk rs) (hF : FitsOk rs fs) : reprD S [.lst [.lst (rs.map rowD), .lst (fs.map fitD)]] = some (.str (PyData.shown (.list [.list (rs.map rowPy), .list (fs.map fitPy)]))) := by
  refine repr_ok (k := 2 + 1) (w := (336 + 1) * 2) ?_ (ShOk.list (k := 2) (w := 336) (xs := [.list (rs.map rowPy), .list (fs.map fitPy)]) fun y hy => ?_) (by decide) (by decide)
  · simp only [D.py, D.pyL, pyL_map (fun r => py_row), pyL_map (fun r => py_fit), Option.map_some, Option.bind_some]
  · simp only [List.mem_cons, List.not_mem_nil, or_false] at hy
    rcases hy with e | e <;> subst e
    · refine (ShOk.list (k := 1) (w := 27) fun z hz => ?_).mono (Nat.le_refl _) ?_
      · obtain ⟨r, hr, rfl⟩ := List.mem_map.mp hz
        exact sh_row (hL.rows r hr)
      · have := hL.hi
        rw [List.length_map]
        omega
    · refine (ShOk.list (k := 1) (w := 27) fun z hz => ?_).mono (Nat.le_refl _) ?_
      · obtain ⟨f, hf, rfl⟩ := List.mem_map.mp hz
        exact sh_fit (hF.n f hf) (hF.nmAt hL hf)
      · have := hF.hi
        rw [List.length_map]
        omega
theorem eqD_self {s : Str} : eqD S (.str s) (.str s) = some (.bl true) := by rw [eqD_str, decide_eq_true rfl]
theorem eqI_self {s : Int} : eqD S (.int s) (.int s) = some (.bl true) := by rw [eqD_int, decide_eq_true rfl]
theorem lenD_lst {ds : List D} : lenD S [.lst ds] = some (.int (ds.length : Nat)) := rfl
theorem is_ok (hA : NetsA A) (hL : LaidOk rs) (hF : FitsOk rs fs) (hq : q (.bl true) S) : G_is_k11 A [netV A rs fs, .lst (rs.map rowD), .lst (fs.map fitD)] S q x := by
  have h1 : small rs.length = true := small_of (by have := hL.hi; omega)
  have h2 : small fs.length = true := small_of (by have := hF.hi; omega)
  have h3 : ∀ {g : LR → D} {h : FR → D}, small ((rs.map g).length + (fs.map h).length) = true := by
    intro g h
    rw [List.length_map, List.length_map]
    exact small_of (by have := hL.hi; have := hF.hi; omega)
  have l1 : ∀ (e : RV.Env) (hl : e.length = 7) (q : List D → WS → Prop), lcD any_ (tName 6) bYes (eCall (isiD (own A) (tab A)) (aCons (eVar 6) (aCons (eC (.adr (A.c "Pipe"))) aNil))) e (rs.map (pv A)) [] S q = q (rs.map fun _ => .bl true) S := fun e hl q => by
    refine lc_mapEq _ trivial fun r hr => ⟨_, rfl, fun q x => ?_⟩
    obtain ⟨e0, e1, e2, e3, e4, e5, e6, rfl⟩ : ∃ e0 e1 e2 e3 e4 e5 e6, e = [e0, e1, e2, e3, e4, e5, e6] := by
      match e, hl with
      | [e0, e1, e2, e3, e4, e5, e6], _ => exact ⟨_, _, _, _, _, _, _, rfl⟩
    try simp -implicitDefEqProofs only [eVar, eC, eOp, eUn, aNil, aCons, eSeq, eCall, eFn, bBl, onB_bl, bTru, eNotT, bAnd, bOr, bNot, eAnd, eOr, eIf, bChain, iteB_t, iteB_f, sNil, sSeq, sRet, sDrop, sAsg, sIf, sBreak, sCont, sAsgG, sPar2, sPar3, sSetIx, sPairSet, sAppend, onL, onI_i, onT_s, onTu_t, onCe_c, on1_, on2_, on3_, onLst_l, onOb_o, onSeq_l, onSeq_r, onSeq_c, lkD_s, lkD_n, lkO_s, lkO_n, finO, sFldD, setFD, eProp, isOb_obj, eMake, eMakeK, eMakeL, eLc, eNew, eSl, oNone, oSome, eOpM, eCallM, eCm, eCmK, eOpT, jNil, jCons, eJoin, aStar, sCalm, sFor, iRange1, iSeq, iTupD, iStrD, iEnumT, tName, tTup_t, tsCons_c, tsNil_n, any_t, onS_some, look0, look1, look2, look3, look4, look5, look6, look7, look8, look9, look10, look11, look12, look13, look14, look15, bYes, wipeE, List.set_cons_zero, List.set_cons_succ, List.length_cons, List.length_nil, List.append_nil, List.nil_append, List.cons_append, List.append_assoc, Nat.zero_add, Nat.reduceAdd, Nat.reduceSub, Nat.reduceEqDiff, Nat.reduceLT, Nat.reduceLeDiff, Int.reduceNeg, true_and, and_true, and_self, if_true, if_false, Bool.not_true, Bool.not_false, Bool.false_eq_true, reduceIte, reduceCtorEq, decide_true, decide_false, ltD_int, leD_int, gtD_int, geD_int, subD_int, addD_int, intOf_int, absD_int, eqD_int, eqD_str, neD_str, neD_int, isN_non, truD_bl, eqD_bl, neD_bl, Option.map_some, Option.bind_some, small_0, small_1, small_2, small_3, small_4, small_5, small_6, small_7, small_8, st_app, st_len, fin_st, fin_stT, fin_self, ite_self, isi_pp hA]
  have l2 : ∀ (e : RV.Env) (hl : e.length = 7) (q : List D → WS → Prop), lcD any_ (tName 6) bYes (eCall (isiD (own A) (tab A)) (aCons (eVar 6) (aCons (eC (.adr (A.c "Meter"))) aNil))) e (fs.map (mv A)) [] S q = q (fs.map fun _ => .bl true) S := fun e hl q => by
    refine lc_mapEq _ trivial fun r hr => ⟨_, rfl, fun q x => ?_⟩
    obtain ⟨e0, e1, e2, e3, e4, e5, e6, rfl⟩ : ∃ e0 e1 e2 e3 e4 e5 e6, e = [e0, e1, e2, e3, e4, e5, e6] := by
      match e, hl with
      | [e0, e1, e2, e3, e4, e5, e6], _ => exact ⟨_, _, _, _, _, _, _, rfl⟩
    try simp -implicitDefEqProofs only [eVar, eC, eOp, eUn, aNil, aCons, eSeq, eCall, eFn, bBl, onB_bl, bTru, eNotT, bAnd, bOr, bNot, eAnd, eOr, eIf, bChain, iteB_t, iteB_f, sNil, sSeq, sRet, sDrop, sAsg, sIf, sBreak, sCont, sAsgG, sPar2, sPar3, sSetIx, sPairSet, sAppend, onL, onI_i, onT_s, onTu_t, onCe_c, on1_, on2_, on3_, onLst_l, onOb_o, onSeq_l, onSeq_r, onSeq_c, lkD_s, lkD_n, lkO_s, lkO_n, finO, sFldD, setFD, eProp, isOb_obj, eMake, eMakeK, eMakeL, eLc, eNew, eSl, oNone, oSome, eOpM, eCallM, eCm, eCmK, eOpT, jNil, jCons, eJoin, aStar, sCalm, sFor, iRange1, iSeq, iTupD, iStrD, iEnumT, tName, tTup_t, tsCons_c, tsNil_n, any_t, onS_some, look0, look1, look2, look3, look4, look5, look6, look7, look8, look9, look10, look11, look12, look13, look14, look15, bYes, wipeE, List.set_cons_zero, List.set_cons_succ, List.length_cons, List.length_nil, List.append_nil, List.nil_append, List.cons_append, List.append_assoc, Nat.zero_add, Nat.reduceAdd, Nat.reduceSub, Nat.reduceEqDiff, Nat.reduceLT, Nat.reduceLeDiff, Int.reduceNeg, true_and, and_true, and_self, if_true, if_false, Bool.not_true, Bool.not_false, Bool.false_eq_true, reduceIte, reduceCtorEq, decide_true, decide_false, ltD_int, leD_int, gtD_int, geD_int, subD_int, addD_int, intOf_int, absD_int, eqD_int, eqD_str, neD_str, neD_int, isN_non, truD_bl, eqD_bl, neD_bl, Option.map_some, Option.bind_some, small_0, small_1, small_2, small_3, small_4, small_5, small_6, small_7, small_8, st_app, st_len, fin_st, fin_stT, fin_self, ite_self, isi_mm hA]
  have e3 : (rs.map fun _ => D.bl true) ++ (fs.map fun _ => D.bl true) = (zs rs fs).map fun _ => .bl ((fun _ => true) ()) := by simp [zs, Function.comp_def]
  have e4 : allD S [.lst ((rs.map fun _ => D.bl true) ++ (fs.map fun _ => D.bl true))] = some (.bl true) := by
    rw [e3, allD_map (p := fun _ => true)]
    simp
  rw [D_is_k11]
  unfold fnD startE
  simp only [List.map_cons, List.map_nil, List.length_cons, List.length_nil, Nat.reduceAdd, Nat.reduceSub, List.replicate, List.cons_append, List.nil_append, List.append_nil, Nat.zero_add]
  unfold B_is_k11
  refine seq_gen fun N_ hN_ => ?_
  try simp -implicitDefEqProofs only [eVar, eC, eOp, eUn, aNil, aCons, eSeq, eCall, eFn, bBl, onB_bl, bTru, eNotT, bAnd, bOr, bNot, eAnd, eOr, eIf, bChain, iteB_t, iteB_f, sNil, sSeq, sRet, sDrop, sAsg, sIf, sBreak, sCont, sAsgG, sPar2, sPar3, sSetIx, sPairSet, sAppend, onL, onI_i, onT_s, onTu_t, onCe_c, on1_, on2_, on3_, onLst_l, onOb_o, onSeq_l, onSeq_r, onSeq_c, lkD_s, lkD_n, lkO_s, lkO_n, finO, sFldD, setFD, eProp, isOb_obj, eMake, eMakeK, eMakeL, eLc, eNew, eSl, oNone, oSome, eOpM, eCallM, eCm, eCmK, eOpT, jNil, jCons, eJoin, aStar, sCalm, sFor, iRange1, iSeq, iTupD, iStrD, iEnumT, tName, tTup_t, tsCons_c, tsNil_n, any_t, onS_some, look0, look1, look2, look3, look4, look5, look6, look7, look8, look9, look10, look11, look12, look13, look14, look15, bYes, wipeE, List.set_cons_zero, List.set_cons_succ, List.length_cons, List.length_nil, List.append_nil, List.nil_append, List.cons_append, List.append_assoc, Nat.zero_add, Nat.reduceAdd, Nat.reduceSub, Nat.reduceEqDiff, Nat.reduceLT, Nat.reduceLeDiff, Int.reduceNeg, true_and, and_true, and_self, if_true, if_false, Bool.not_true, Bool.not_false, Bool.false_eq_true, reduceIte, reduceCtorEq, decide_true, decide_false, ltD_int, leD_int, gtD_int, geD_int, subD_int, addD_int, intOf_int, absD_int, eqD_int, eqD_str, neD_str, neD_int, isN_non, truD_bl, eqD_bl, neD_bl, Option.map_some, Option.bind_some, small_0, small_1, small_2, small_3, small_4, small_5, small_6, small_7, small_8, st_app, st_len, fin_st, fin_stT, fin_self, ite_self, isi_nn hA, ob_nv, net_pipes, net_meters, isi_tup]
  subst hN_
  refine seq_gen fun N_ hN_ => ?_
  try simp -implicitDefEqProofs only [eVar, eC, eOp, eUn, aNil, aCons, eSeq, eCall, eFn, bBl, onB_bl, bTru, eNotT, bAnd, bOr, bNot, eAnd, eOr, eIf, bChain, iteB_t, iteB_f, sNil, sSeq, sRet, sDrop, sAsg, sIf, sBreak, sCont, sAsgG, sPar2, sPar3, sSetIx, sPairSet, sAppend, onL, onI_i, onT_s, onTu_t, onCe_c, on1_, on2_, on3_, onLst_l, onOb_o, onSeq_l, onSeq_r, onSeq_c, lkD_s, lkD_n, lkO_s, lkO_n, finO, sFldD, setFD, eProp, isOb_obj, eMake, eMakeK, eMakeL, eLc, eNew, eSl, oNone, oSome, eOpM, eCallM, eCm, eCmK, eOpT, jNil, jCons, eJoin, aStar, sCalm, sFor, iRange1, iSeq, iTupD, iStrD, iEnumT, tName, tTup_t, tsCons_c, tsNil_n, any_t, onS_some, look0, look1, look2, look3, look4, look5, look6, look7, look8, look9, look10, look11, look12, look13, look14, look15, bYes, wipeE, List.set_cons_zero, List.set_cons_succ, List.length_cons, List.length_nil, List.append_nil, List.nil_append, List.cons_append, List.append_assoc, Nat.zero_add, Nat.reduceAdd, Nat.reduceSub, Nat.reduceEqDiff, Nat.reduceLT, Nat.reduceLeDiff, Int.reduceNeg, true_and, and_true, and_self, if_true, if_false, Bool.not_true, Bool.not_false, Bool.false_eq_true, reduceIte, reduceCtorEq, decide_true, decide_false, ltD_int, leD_int, gtD_int, geD_int, subD_int, addD_int, intOf_int, absD_int, eqD_int, eqD_str, neD_str, neD_int, isN_non, truD_bl, eqD_bl, neD_bl, Option.map_some, Option.bind_some, small_0, small_1, small_2, small_3, small_4, small_5, small_6, small_7, small_8, st_app, st_len, fin_st, fin_stT, fin_self, ite_self, ob_nv, net_pipes, net_meters, List.length_map, h1, h2]
  rw [l1 _ rfl]
  try simp -implicitDefEqProofs only [eVar, eC, eOp, eUn, aNil, aCons, eSeq, eCall, eFn, bBl, onB_bl, bTru, eNotT, bAnd, bOr, bNot, eAnd, eOr, eIf, bChain, iteB_t, iteB_f, sNil, sSeq, sRet, sDrop, sAsg, sIf, sBreak, sCont, sAsgG, sPar2, sPar3, sSetIx, sPairSet, sAppend, onL, onI_i, onT_s, onTu_t, onCe_c, on1_, on2_, on3_, onLst_l, onOb_o, onSeq_l, onSeq_r, onSeq_c, lkD_s, lkD_n, lkO_s, lkO_n, finO, sFldD, setFD, eProp, isOb_obj, eMake, eMakeK, eMakeL, eLc, eNew, eSl, oNone, oSome, eOpM, eCallM, eCm, eCmK, eOpT, jNil, jCons, eJoin, aStar, sCalm, sFor, iRange1, iSeq, iTupD, iStrD, iEnumT, tName, tTup_t, tsCons_c, tsNil_n, any_t, onS_some, look0, look1, look2, look3, look4, look5, look6, look7, look8, look9, look10, look11, look12, look13, look14, look15, bYes, wipeE, List.set_cons_zero, List.set_cons_succ, List.length_cons, List.length_nil, List.append_nil, List.nil_append, List.cons_append, List.append_assoc, Nat.zero_add, Nat.reduceAdd, Nat.reduceSub, Nat.reduceEqDiff, Nat.reduceLT, Nat.reduceLeDiff, Int.reduceNeg, true_and, and_true, and_self, if_true, if_false, Bool.not_true, Bool.not_false, Bool.false_eq_true, reduceIte, reduceCtorEq, decide_true, decide_false, ltD_int, leD_int, gtD_int, geD_int, subD_int, addD_int, intOf_int, absD_int, eqD_int, eqD_str, neD_str, neD_int, isN_non, truD_bl, eqD_bl, neD_bl, Option.map_some, Option.bind_some, small_0, small_1, small_2, small_3, small_4, small_5, small_6, small_7, small_8, st_app, st_len, fin_st, fin_stT, fin_self, ite_self, ob_nv, net_pipes, net_meters, List.length_map, h1, h2]
  rw [l2 _ rfl]
  try simp -implicitDefEqProofs only [eVar, eC, eOp, eUn, aNil, aCons, eSeq, eCall, eFn, bBl, onB_bl, bTru, eNotT, bAnd, bOr, bNot, eAnd, eOr, eIf, bChain, iteB_t, iteB_f, sNil, sSeq, sRet, sDrop, sAsg, sIf, sBreak, sCont, sAsgG, sPar2, sPar3, sSetIx, sPairSet, sAppend, onL, onI_i, onT_s, onTu_t, onCe_c, on1_, on2_, on3_, onLst_l, onOb_o, onSeq_l, onSeq_r, onSeq_c, lkD_s, lkD_n, lkO_s, lkO_n, finO, sFldD, setFD, eProp, isOb_obj, eMake, eMakeK, eMakeL, eLc, eNew, eSl, oNone, oSome, eOpM, eCallM, eCm, eCmK, eOpT, jNil, jCons, eJoin, aStar, sCalm, sFor, iRange1, iSeq, iTupD, iStrD, iEnumT, tName, tTup_t, tsCons_c, tsNil_n, any_t, onS_some, look0, look1, look2, look3, look4, look5, look6, look7, look8, look9, look10, look11, look12, look13, look14, look15, bYes, wipeE, List.set_cons_zero, List.set_cons_succ, List.length_cons, List.length_nil, List.append_nil, List.nil_append, List.cons_append, List.append_assoc, Nat.zero_add, Nat.reduceAdd, Nat.reduceSub, Nat.reduceEqDiff, Nat.reduceLT, Nat.reduceLeDiff, Int.reduceNeg, true_and, and_true, and_self, if_true, if_false, Bool.not_true, Bool.not_false, Bool.false_eq_true, reduceIte, reduceCtorEq, decide_true, decide_false, ltD_int, leD_int, gtD_int, geD_int, subD_int, addD_int, intOf_int, absD_int, eqD_int, eqD_str, neD_str, neD_int, isN_non, truD_bl, eqD_bl, neD_bl, Option.map_some, Option.bind_some, small_0, small_1, small_2, small_3, small_4, small_5, small_6, small_7, small_8, st_app, st_len, fin_st, fin_stT, fin_self, ite_self, addD_lst h3]
  subst hN_
  refine seq_gen fun N_ hN_ => ?_
  try simp -implicitDefEqProofs only [eVar, eC, eOp, eUn, aNil, aCons, eSeq, eCall, eFn, bBl, onB_bl, bTru, eNotT, bAnd, bOr, bNot, eAnd, eOr, eIf, bChain, iteB_t, iteB_f, sNil, sSeq, sRet, sDrop, sAsg, sIf, sBreak, sCont, sAsgG, sPar2, sPar3, sSetIx, sPairSet, sAppend, onL, onI_i, onT_s, onTu_t, onCe_c, on1_, on2_, on3_, onLst_l, onOb_o, onSeq_l, onSeq_r, onSeq_c, lkD_s, lkD_n, lkO_s, lkO_n, finO, sFldD, setFD, eProp, isOb_obj, eMake, eMakeK, eMakeL, eLc, eNew, eSl, oNone, oSome, eOpM, eCallM, eCm, eCmK, eOpT, jNil, jCons, eJoin, aStar, sCalm, sFor, iRange1, iSeq, iTupD, iStrD, iEnumT, tName, tTup_t, tsCons_c, tsNil_n, any_t, onS_some, look0, look1, look2, look3, look4, look5, look6, look7, look8, look9, look10, look11, look12, look13, look14, look15, bYes, wipeE, List.set_cons_zero, List.set_cons_succ, List.length_cons, List.length_nil, List.append_nil, List.nil_append, List.cons_append, List.append_assoc, Nat.zero_add, Nat.reduceAdd, Nat.reduceSub, Nat.reduceEqDiff, Nat.reduceLT, Nat.reduceLeDiff, Int.reduceNeg, true_and, and_true, and_self, if_true, if_false, Bool.not_true, Bool.not_false, Bool.false_eq_true, reduceIte, reduceCtorEq, decide_true, decide_false, ltD_int, leD_int, gtD_int, geD_int, subD_int, addD_int, intOf_int, absD_int, eqD_int, eqD_str, neD_str, neD_int, isN_non, truD_bl, eqD_bl, neD_bl, Option.map_some, Option.bind_some, small_0, small_1, small_2, small_3, small_4, small_5, small_6, small_7, small_8, st_app, st_len, fin_st, fin_stT, fin_self, ite_self, e4]
  subst hN_
  refine seq_gen fun N_ hN_ => ?_
  try simp -implicitDefEqProofs only [eVar, eC, eOp, eUn, aNil, aCons, eSeq, eCall, eFn, bBl, onB_bl, bTru, eNotT, bAnd, bOr, bNot, eAnd, eOr, eIf, bChain, iteB_t, iteB_f, sNil, sSeq, sRet, sDrop, sAsg, sIf, sBreak, sCont, sAsgG, sPar2, sPar3, sSetIx, sPairSet, sAppend, onL, onI_i, onT_s, onTu_t, onCe_c, on1_, on2_, on3_, onLst_l, onOb_o, onSeq_l, onSeq_r, onSeq_c, lkD_s, lkD_n, lkO_s, lkO_n, finO, sFldD, setFD, eProp, isOb_obj, eMake, eMakeK, eMakeL, eLc, eNew, eSl, oNone, oSome, eOpM, eCallM, eCm, eCmK, eOpT, jNil, jCons, eJoin, aStar, sCalm, sFor, iRange1, iSeq, iTupD, iStrD, iEnumT, tName, tTup_t, tsCons_c, tsNil_n, any_t, onS_some, look0, look1, look2, look3, look4, look5, look6, look7, look8, look9, look10, look11, look12, look13, look14, look15, bYes, wipeE, List.set_cons_zero, List.set_cons_succ, List.length_cons, List.length_nil, List.append_nil, List.nil_append, List.cons_append, List.append_assoc, Nat.zero_add, Nat.reduceAdd, Nat.reduceSub, Nat.reduceEqDiff, Nat.reduceLT, Nat.reduceLeDiff, Int.reduceNeg, true_and, and_true, and_self, if_true, if_false, Bool.not_true, Bool.not_false, Bool.false_eq_true, reduceIte, reduceCtorEq, decide_true, decide_false, ltD_int, leD_int, gtD_int, geD_int, subD_int, addD_int, intOf_int, absD_int, eqD_int, eqD_str, neD_str, neD_int, isN_non, truD_bl, eqD_bl, neD_bl, Option.map_some, Option.bind_some, small_0, small_1, small_2, small_3, small_4, small_5, small_6, small_7, small_8, st_app, st_len, fin_st, fin_stT, fin_self, ite_self, ob_nv, net_pipes, List.length_map, h1]
  rw [lc_mapEq (g := rowD) _ trivial (fun r hr => ?_)]
  rotate_left
  · refine ⟨_, rfl, fun q x => ?_⟩
    try simp -implicitDefEqProofs only [eVar, eC, eOp, eUn, aNil, aCons, eSeq, eCall, eFn, bBl, onB_bl, bTru, eNotT, bAnd, bOr, bNot, eAnd, eOr, eIf, bChain, iteB_t, iteB_f, sNil, sSeq, sRet, sDrop, sAsg, sIf, sBreak, sCont, sAsgG, sPar2, sPar3, sSetIx, sPairSet, sAppend, onL, onI_i, onT_s, onTu_t, onCe_c, on1_, on2_, on3_, onLst_l, onOb_o, onSeq_l, onSeq_r, onSeq_c, lkD_s, lkD_n, lkO_s, lkO_n, finO, sFldD, setFD, eProp, isOb_obj, eMake, eMakeK, eMakeL, eLc, eNew, eSl, oNone, oSome, eOpM, eCallM, eCm, eCmK, eOpT, jNil, jCons, eJoin, aStar, sCalm, sFor, iRange1, iSeq, iTupD, iStrD, iEnumT, tName, tTup_t, tsCons_c, tsNil_n, any_t, onS_some, look0, look1, look2, look3, look4, look5, look6, look7, look8, look9, look10, look11, look12, look13, look14, look15, bYes, wipeE, List.set_cons_zero, List.set_cons_succ, List.length_cons, List.length_nil, List.append_nil, List.nil_append, List.cons_append, List.append_assoc, Nat.zero_add, Nat.reduceAdd, Nat.reduceSub, Nat.reduceEqDiff, Nat.reduceLT, Nat.reduceLeDiff, Int.reduceNeg, true_and, and_true, and_self, if_true, if_false, Bool.not_true, Bool.not_false, Bool.false_eq_true, reduceIte, reduceCtorEq, decide_true, decide_false, ltD_int, leD_int, gtD_int, geD_int, subD_int, addD_int, intOf_int, absD_int, eqD_int, eqD_str, neD_str, neD_int, isN_non, truD_bl, eqD_bl, neD_bl, Option.map_some, Option.bind_some, small_0, small_1, small_2, small_3, small_4, small_5, small_6, small_7, small_8, st_app, st_len, fin_st, fin_stT, fin_self, ite_self, ob_pv, pv_name, pv_start, pv_end]
    rfl
  try simp -implicitDefEqProofs only [eVar, eC, eOp, eUn, aNil, aCons, eSeq, eCall, eFn, bBl, onB_bl, bTru, eNotT, bAnd, bOr, bNot, eAnd, eOr, eIf, bChain, iteB_t, iteB_f, sNil, sSeq, sRet, sDrop, sAsg, sIf, sBreak, sCont, sAsgG, sPar2, sPar3, sSetIx, sPairSet, sAppend, onL, onI_i, onT_s, onTu_t, onCe_c, on1_, on2_, on3_, onLst_l, onOb_o, onSeq_l, onSeq_r, onSeq_c, lkD_s, lkD_n, lkO_s, lkO_n, finO, sFldD, setFD, eProp, isOb_obj, eMake, eMakeK, eMakeL, eLc, eNew, eSl, oNone, oSome, eOpM, eCallM, eCm, eCmK, eOpT, jNil, jCons, eJoin, aStar, sCalm, sFor, iRange1, iSeq, iTupD, iStrD, iEnumT, tName, tTup_t, tsCons_c, tsNil_n, any_t, onS_some, look0, look1, look2, look3, look4, look5, look6, look7, look8, look9, look10, look11, look12, look13, look14, look15, bYes, wipeE, List.set_cons_zero, List.set_cons_succ, List.length_cons, List.length_nil, List.append_nil, List.nil_append, List.cons_append, List.append_assoc, Nat.zero_add, Nat.reduceAdd, Nat.reduceSub, Nat.reduceEqDiff, Nat.reduceLT, Nat.reduceLeDiff, Int.reduceNeg, true_and, and_true, and_self, if_true, if_false, Bool.not_true, Bool.not_false, Bool.false_eq_true, reduceIte, reduceCtorEq, decide_true, decide_false, ltD_int, leD_int, gtD_int, geD_int, subD_int, addD_int, intOf_int, absD_int, eqD_int, eqD_str, neD_str, neD_int, isN_non, truD_bl, eqD_bl, neD_bl, Option.map_some, Option.bind_some, small_0, small_1, small_2, small_3, small_4, small_5, small_6, small_7, small_8, st_app, st_len, fin_st, fin_stT, fin_self, ite_self]
  subst hN_
  refine seq_gen fun N_ hN_ => ?_
  try simp -implicitDefEqProofs only [eVar, eC, eOp, eUn, aNil, aCons, eSeq, eCall, eFn, bBl, onB_bl, bTru, eNotT, bAnd, bOr, bNot, eAnd, eOr, eIf, bChain, iteB_t, iteB_f, sNil, sSeq, sRet, sDrop, sAsg, sIf, sBreak, sCont, sAsgG, sPar2, sPar3, sSetIx, sPairSet, sAppend, onL, onI_i, onT_s, onTu_t, onCe_c, on1_, on2_, on3_, onLst_l, onOb_o, onSeq_l, onSeq_r, onSeq_c, lkD_s, lkD_n, lkO_s, lkO_n, finO, sFldD, setFD, eProp, isOb_obj, eMake, eMakeK, eMakeL, eLc, eNew, eSl, oNone, oSome, eOpM, eCallM, eCm, eCmK, eOpT, jNil, jCons, eJoin, aStar, sCalm, sFor, iRange1, iSeq, iTupD, iStrD, iEnumT, tName, tTup_t, tsCons_c, tsNil_n, any_t, onS_some, look0, look1, look2, look3, look4, look5, look6, look7, look8, look9, look10, look11, look12, look13, look14, look15, bYes, wipeE, List.set_cons_zero, List.set_cons_succ, List.length_cons, List.length_nil, List.append_nil, List.nil_append, List.cons_append, List.append_assoc, Nat.zero_add, Nat.reduceAdd, Nat.reduceSub, Nat.reduceEqDiff, Nat.reduceLT, Nat.reduceLeDiff, Int.reduceNeg, true_and, and_true, and_self, if_true, if_false, Bool.not_true, Bool.not_false, Bool.false_eq_true, reduceIte, reduceCtorEq, decide_true, decide_false, ltD_int, leD_int, gtD_int, geD_int, subD_int, addD_int, intOf_int, absD_int, eqD_int, eqD_str, neD_str, neD_int, isN_non, truD_bl, eqD_bl, neD_bl, Option.map_some, Option.bind_some, small_0, small_1, small_2, small_3, small_4, small_5, small_6, small_7, small_8, st_app, st_len, fin_st, fin_stT, fin_self, ite_self, ob_nv, net_meters, List.length_map, h2]
  rw [lc_mapEq (g := fitD) _ trivial (fun f hf => ?_)]
  rotate_left
  · refine ⟨_, rfl, fun q x => ?_⟩
    try simp -implicitDefEqProofs only [eVar, eC, eOp, eUn, aNil, aCons, eSeq, eCall, eFn, bBl, onB_bl, bTru, eNotT, bAnd, bOr, bNot, eAnd, eOr, eIf, bChain, iteB_t, iteB_f, sNil, sSeq, sRet, sDrop, sAsg, sIf, sBreak, sCont, sAsgG, sPar2, sPar3, sSetIx, sPairSet, sAppend, onL, onI_i, onT_s, onTu_t, onCe_c, on1_, on2_, on3_, onLst_l, onOb_o, onSeq_l, onSeq_r, onSeq_c, lkD_s, lkD_n, lkO_s, lkO_n, finO, sFldD, setFD, eProp, isOb_obj, eMake, eMakeK, eMakeL, eLc, eNew, eSl, oNone, oSome, eOpM, eCallM, eCm, eCmK, eOpT, jNil, jCons, eJoin, aStar, sCalm, sFor, iRange1, iSeq, iTupD, iStrD, iEnumT, tName, tTup_t, tsCons_c, tsNil_n, any_t, onS_some, look0, look1, look2, look3, look4, look5, look6, look7, look8, look9, look10, look11, look12, look13, look14, look15, bYes, wipeE, List.set_cons_zero, List.set_cons_succ, List.length_cons, List.length_nil, List.append_nil, List.nil_append, List.cons_append, List.append_assoc, Nat.zero_add, Nat.reduceAdd, Nat.reduceSub, Nat.reduceEqDiff, Nat.reduceLT, Nat.reduceLeDiff, Int.reduceNeg, true_and, and_true, and_self, if_true, if_false, Bool.not_true, Bool.not_false, Bool.false_eq_true, reduceIte, reduceCtorEq, decide_true, decide_false, ltD_int, leD_int, gtD_int, geD_int, subD_int, addD_int, intOf_int, absD_int, eqD_int, eqD_str, neD_str, neD_int, isN_non, truD_bl, eqD_bl, neD_bl, Option.map_some, Option.bind_some, small_0, small_1, small_2, small_3, small_4, small_5, small_6, small_7, small_8, st_app, st_len, fin_st, fin_stT, fin_self, ite_self, ob_mv, mv_name, mv_at, mv_sealed]
    rfl
  try simp -implicitDefEqProofs only [eVar, eC, eOp, eUn, aNil, aCons, eSeq, eCall, eFn, bBl, onB_bl, bTru, eNotT, bAnd, bOr, bNot, eAnd, eOr, eIf, bChain, iteB_t, iteB_f, sNil, sSeq, sRet, sDrop, sAsg, sIf, sBreak, sCont, sAsgG, sPar2, sPar3, sSetIx, sPairSet, sAppend, onL, onI_i, onT_s, onTu_t, onCe_c, on1_, on2_, on3_, onLst_l, onOb_o, onSeq_l, onSeq_r, onSeq_c, lkD_s, lkD_n, lkO_s, lkO_n, finO, sFldD, setFD, eProp, isOb_obj, eMake, eMakeK, eMakeL, eLc, eNew, eSl, oNone, oSome, eOpM, eCallM, eCm, eCmK, eOpT, jNil, jCons, eJoin, aStar, sCalm, sFor, iRange1, iSeq, iTupD, iStrD, iEnumT, tName, tTup_t, tsCons_c, tsNil_n, any_t, onS_some, look0, look1, look2, look3, look4, look5, look6, look7, look8, look9, look10, look11, look12, look13, look14, look15, bYes, wipeE, List.set_cons_zero, List.set_cons_succ, List.length_cons, List.length_nil, List.append_nil, List.nil_append, List.cons_append, List.append_assoc, Nat.zero_add, Nat.reduceAdd, Nat.reduceSub, Nat.reduceEqDiff, Nat.reduceLT, Nat.reduceLeDiff, Int.reduceNeg, true_and, and_true, and_self, if_true, if_false, Bool.not_true, Bool.not_false, Bool.false_eq_true, reduceIte, reduceCtorEq, decide_true, decide_false, ltD_int, leD_int, gtD_int, geD_int, subD_int, addD_int, intOf_int, absD_int, eqD_int, eqD_str, neD_str, neD_int, isN_non, truD_bl, eqD_bl, neD_bl, Option.map_some, Option.bind_some, small_0, small_1, small_2, small_3, small_4, small_5, small_6, small_7, small_8, st_app, st_len, fin_st, fin_stT, fin_self, ite_self]
  subst hN_
  try simp -implicitDefEqProofs only [eVar, eC, eOp, eUn, aNil, aCons, eSeq, eCall, eFn, bBl, onB_bl, bTru, eNotT, bAnd, bOr, bNot, eAnd, eOr, eIf, bChain, iteB_t, iteB_f, sNil, sSeq, sRet, sDrop, sAsg, sIf, sBreak, sCont, sAsgG, sPar2, sPar3, sSetIx, sPairSet, sAppend, onL, onI_i, onT_s, onTu_t, onCe_c, on1_, on2_, on3_, onLst_l, onOb_o, onSeq_l, onSeq_r, onSeq_c, lkD_s, lkD_n, lkO_s, lkO_n, finO, sFldD, setFD, eProp, isOb_obj, eMake, eMakeK, eMakeL, eLc, eNew, eSl, oNone, oSome, eOpM, eCallM, eCm, eCmK, eOpT, jNil, jCons, eJoin, aStar, sCalm, sFor, iRange1, iSeq, iTupD, iStrD, iEnumT, tName, tTup_t, tsCons_c, tsNil_n, any_t, onS_some, look0, look1, look2, look3, look4, look5, look6, look7, look8, look9, look10, look11, look12, look13, look14, look15, bYes, wipeE, List.set_cons_zero, List.set_cons_succ, List.length_cons, List.length_nil, List.append_nil, List.nil_append, List.cons_append, List.append_assoc, Nat.zero_add, Nat.reduceAdd, Nat.reduceSub, Nat.reduceEqDiff, Nat.reduceLT, Nat.reduceLeDiff, Int.reduceNeg, true_and, and_true, and_self, if_true, if_false, Bool.not_true, Bool.not_false, Bool.false_eq_true, reduceIte, reduceCtorEq, decide_true, decide_false, ltD_int, leD_int, gtD_int, geD_int, subD_int, addD_int, intOf_int, absD_int, eqD_int, eqD_str, neD_str, neD_int, isN_non, truD_bl, eqD_bl, neD_bl, Option.map_some, Option.bind_some, small_0, small_1, small_2, small_3, small_4, small_5, small_6, small_7, small_8, st_app, st_len, fin_st, fin_stT, fin_self, ite_self, repr_rows hL hF, eqD_self, str_own hA hL hF, text_ok hL hF, len_own hL, lenD_lst, List.length_map, eqI_self]
  exact hq
end
end RV
end
section
/-! Drawn nets. -/
namespace RV
open PySem L2
section
variable {A : Ad} {S T : WS} {k : Nat} {n m lo hi : Int} {w : W} {q : D → WS → Prop} {x : Xq} {rs : List LR} {fs : List FR}
theorem for_name {N : WS → Prop} {i : Nat} {mb : RV.Env → MS} {ρ : RV.Env} {d : D} {ds : List D} {kt : Kt} (hN : N S) (h : mb (ρ.set i (some d)) S ⟨fun ρ2 S2 => forD N (tName i) mb ds ρ2 S2 kt, kt.rt, kt.nx, fun ρ2 S2 => forD N (tName i) mb ds ρ2 S2 kt, kt.ex⟩) : forD N (tName i) mb (d :: ds) ρ S kt := ⟨hN, h⟩
structure PlacesOk (ts : List Str) : Prop where
  nm : ∀ t ∈ ts, Nm t
  nd : ts.Nodup
theorem PlacesOk.snoc {ts : List Str} {s : Str} (h : PlacesOk ts) (hs : Nm s) (hn : s ∉ ts) : PlacesOk (ts ++ [s]) := by
  refine ⟨fun t ht => ?_, ?_⟩
  · rcases List.mem_append.mp ht with z | z
    · exact h.nm t z
    · rw [List.mem_singleton.mp z]
      exact hs
  · rw [List.nodup_append]
    refine ⟨h.nd, by simp, fun a ha b hb e => ?_⟩
    rw [List.mem_singleton.mp hb] at e
    exact hn (e ▸ ha)
theorem nodup_ne {ts : List Str} (h : ts.Nodup) {i j : Nat} (hi : i < ts.length) (hj : j < ts.length) (hij : i ≠ j) : ts[i] ≠ ts[j] := by
  have p := List.pairwise_iff_getElem.mp h
  rcases Nat.lt_or_gt_of_ne hij with z | z
  · exact p i j hi hj z
  · exact fun e => p j i hj hi z e.symm
theorem atI_get {ts : List Str} {i : Int} (h0 : 0 ≤ i) (h1 : i < ts.length) : atI (ts.map D.str) i = some (.str (ts[i.toNat]'(by omega))) := by
  rw [atI_nat h0 (by simpa using h1), List.getElem?_map, List.getElem?_eq_getElem (by omega)]
  rfl
theorem ixC {j : Nat} {ts : List Str} {i : Int} (h : S[j]? = some (.lst (ts.map D.str))) (h0 : 0 ≤ i) (h1 : i < ts.length) : ixD S (.cell j) (.int i) = some (.str (ts[i.toNat]'(by omega))) := by rw [ixD_cell h, atI_get h0 h1]
theorem lenC {j : Nat} {ds : List D} (h : S[j]? = some (.lst ds)) : lenD S [.cell j] = some (.int (ds.length : Nat)) := by simp [lenD, itemsD, h]
structure RowsOk (rs : List LR) : Prop where
  rows : ∀ r ∈ rs, RowOk r
  nd : (rs.map (·.1)).Nodup
theorem RowsOk.snoc {r : LR} (h : RowsOk rs) (hr : RowOk r) (hn : r.1 ∉ rs.map (·.1)) : RowsOk (rs ++ [r]) := by
  refine ⟨fun t ht => ?_, ?_⟩
  · rcases List.mem_append.mp ht with z | z
    · exact h.rows t z
    · rw [List.mem_singleton.mp z]
      exact hr
  · rw [List.map_append, List.nodup_append]
    refine ⟨h.nd, by simp, fun a ha b hb e => ?_⟩
    simp only [List.map_cons, List.map_nil, List.mem_singleton] at hb
    rw [hb] at e
    exact hn (e ▸ ha)
abbrev lE (S T : WS) (k : Nat) (lo hi : Int) (o5 o6 o7 o8 : Option D) : RV.Env := [some (.cell k), some (.int lo), some (.int hi), some (.cell (S.length + T.length)), some (.cell (S.length + T.length + 1)), o5, o6, o7, o8, none]
theorem laid1 (hk : k < S.length) : ∀ (js : List Nat) (ts : List Str) (o : Option D) (n : Int) (w : W) (kt : Kt), Good n w → PlacesOk ts → ts.length + js.length < 36 → n + 13 * js.length < 10000000000000000 →
    (∀ ts' o w', ts'.length = ts.length + js.length → PlacesOk ts' → Good (n + 13 * js.length) w' → kt.nx (lE S T k lo hi o none none none) (st S k w' (T ++ [.lst (ts'.map D.str), .lst []]))) →
    forD any_ (tName 5) (sAppend (eVar 3) (eFn 2 (G_fresh_k09 A) [] (aCons (eVar 0) (aCons (eVar 3) (aNil))))) (js.map fun (i : Nat) => D.int (0 + (i : Int))) (lE S T k lo hi o none none none) (st S k w (T ++ [.lst (ts.map D.str), .lst []])) kt := fun js => by
  induction js with
  | nil =>
    intro ts o n w kt g hp hl hn hq
    exact ⟨trivial, hq ts o w rfl hp (g.mono (by simp))⟩
  | cons j js ih =>
    intro ts o n w kt g hp hl hn hq
    simp only [List.length_cons] at hl hn
    rw [List.map_cons, for_cons]
    try simp -implicitDefEqProofs only [eVar, eC, eOp, eUn, aNil, aCons, eSeq, eCall, eFn, bBl, onB_bl, bTru, eNotT, bAnd, bOr, bNot, eAnd, eOr, eIf, bChain, iteB_t, iteB_f, sNil, sSeq, sRet, sDrop, sAsg, sIf, sBreak, sCont, sAsgG, sPar2, sPar3, sSetIx, sPairSet, sAppend, onL, onI_i, onT_s, onTu_t, onCe_c, on1_, on2_, on3_, onLst_l, onOb_o, onSeq_l, onSeq_r, onSeq_c, lkD_s, lkD_n, lkO_s, lkO_n, finO, sFldD, setFD, eProp, isOb_obj, eMake, eMakeK, eMakeL, eLc, eNew, eSl, oNone, oSome, eOpM, eCallM, eCm, eCmK, eOpT, jNil, jCons, eJoin, aStar, sCalm, sFor, iRange1, iSeq, iTupD, iStrD, iEnumT, tName, tTup_t, tsCons_c, tsNil_n, any_t, onS_some, look0, look1, look2, look3, look4, look5, look6, look7, look8, look9, look10, look11, look12, look13, look14, look15, bYes, wipeE, List.set_cons_zero, List.set_cons_succ, List.length_cons, List.length_nil, List.append_nil, List.nil_append, List.cons_append, List.append_assoc, Nat.zero_add, Nat.reduceAdd, Nat.reduceSub, Nat.reduceEqDiff, Nat.reduceLT, Nat.reduceLeDiff, Int.reduceNeg, true_and, and_true, and_self, if_true, if_false, Bool.not_true, Bool.not_false, Bool.false_eq_true, reduceIte, reduceCtorEq, decide_true, decide_false, ltD_int, leD_int, gtD_int, geD_int, subD_int, addD_int, intOf_int, absD_int, eqD_int, eqD_str, neD_str, neD_int, isN_non, truD_bl, eqD_bl, neD_bl, Option.map_some, Option.bind_some, small_0, small_1, small_2, small_3, small_4, small_5, small_6, small_7, small_8, st_app, st_len, fin_st, fin_stT, fin_self, ite_self, st_at0]
    refine fresh_ok hk g (by omega) (fun w => .cell st_at0) hp.nm (by omega) fun s w2 hs hnot g2 => ?_
    have hsm : small (ts.map D.str).length = true := small_of (by rw [List.length_map]; omega)
    try simp -implicitDefEqProofs only [eVar, eC, eOp, eUn, aNil, aCons, eSeq, eCall, eFn, bBl, onB_bl, bTru, eNotT, bAnd, bOr, bNot, eAnd, eOr, eIf, bChain, iteB_t, iteB_f, sNil, sSeq, sRet, sDrop, sAsg, sIf, sBreak, sCont, sAsgG, sPar2, sPar3, sSetIx, sPairSet, sAppend, onL, onI_i, onT_s, onTu_t, onCe_c, on1_, on2_, on3_, onLst_l, onOb_o, onSeq_l, onSeq_r, onSeq_c, lkD_s, lkD_n, lkO_s, lkO_n, finO, sFldD, setFD, eProp, isOb_obj, eMake, eMakeK, eMakeL, eLc, eNew, eSl, oNone, oSome, eOpM, eCallM, eCm, eCmK, eOpT, jNil, jCons, eJoin, aStar, sCalm, sFor, iRange1, iSeq, iTupD, iStrD, iEnumT, tName, tTup_t, tsCons_c, tsNil_n, any_t, onS_some, look0, look1, look2, look3, look4, look5, look6, look7, look8, look9, look10, look11, look12, look13, look14, look15, bYes, wipeE, List.set_cons_zero, List.set_cons_succ, List.length_cons, List.length_nil, List.append_nil, List.nil_append, List.cons_append, List.append_assoc, Nat.zero_add, Nat.reduceAdd, Nat.reduceSub, Nat.reduceEqDiff, Nat.reduceLT, Nat.reduceLeDiff, Int.reduceNeg, true_and, and_true, and_self, if_true, if_false, Bool.not_true, Bool.not_false, Bool.false_eq_true, reduceIte, reduceCtorEq, decide_true, decide_false, ltD_int, leD_int, gtD_int, geD_int, subD_int, addD_int, intOf_int, absD_int, eqD_int, eqD_str, neD_str, neD_int, isN_non, truD_bl, eqD_bl, neD_bl, Option.map_some, Option.bind_some, small_0, small_1, small_2, small_3, small_4, small_5, small_6, small_7, small_8, st_app, st_len, fin_st, fin_stT, fin_self, ite_self, st_at0, st_set0, D.clean, hsm]
    have ih' := ih (ts ++ [s]) (some (.int (0 + (j : Int)))) (n + 13) w2 kt g2 (hp.snoc hs hnot) (by simp; omega) (by omega) fun ts' o w' e hp' g' => hq ts' o w' (by rw [e]; simp; omega) hp' (g'.mono (by simp; omega))
    rw [List.map_append] at ih'
    exact ih'
theorem laid2 (hk : k < S.length) {ts : List Str} (hp : PlacesOk ts) (h2 : 2 ≤ ts.length) (h36 : ts.length < 36) : ∀ (js : List Nat) (rs : List LR) (o5 o6 o7 o8 : Option D) (n : Int) (w : W) (kt : Kt), Good n w → RowsOk rs → rs.length + js.length < 36 → n + 15 * js.length < 10000000000000000 →
    (∀ rs' o5 o6 o7 o8 w', rs'.length = rs.length + js.length → RowsOk rs' → Good (n + 15 * js.length) w' → kt.nx (lE S T k lo hi o5 o6 o7 o8) (st S k w' (T ++ [.lst (ts.map D.str), .lst (rs'.map rowD)]))) →
    forD any_ (tName 5) (sSeq (sPar2 6 7 (aCons (eFn 2 (G_dip_k01 A) [] (aCons (eVar 0) (aCons (eCall lenD (aCons (eVar 3) (aNil))) (aNil)))) (aCons (eOp addD (eC (.int 1)) (eFn 2 (G_dip_k01 A) [] (aCons (eVar 0) (aCons (eOp subD (eCall lenD (aCons (eVar 3) (aNil))) (eC (.int 1))) (aNil))))) (aNil)))) (sSeq (sAsg 8 (eFn 2 (G_fresh_k09 A) [] (aCons (eVar 0) (aCons (eLc .still (iSeq (eVar 4)) (tName 9) (bYes) (eOp ixD (eVar 9) (eC (.int 0))) [9]) (aNil))))) (sAppend (eVar 4) (eSeq .tup (aCons (eVar 8) (aCons (eOp ixD (eVar 3) (eVar 6)) (aCons (eOp ixD (eVar 3) (eOp modD (eCall intOfD (aCons (eOp addD (eVar 6) (eVar 7)) (aNil))) (eCall lenD (aCons (eVar 3) (aNil))))) (aNil))))))))
      (js.map fun (i : Nat) => D.int (0 + (i : Int))) (lE S T k lo hi o5 o6 o7 o8) (st S k w (T ++ [.lst (ts.map D.str), .lst (rs.map rowD)])) kt := fun js => by
  have ln : ∀ w (c : Cell), lenD (st S k w (T ++ [.lst (ts.map D.str), c])) [.cell (S.length + T.length)] = some (.int (ts.length : Nat)) := fun w c => by rw [lenC st_at0, List.length_map]
  induction js with
  | nil =>
    intro rs o5 o6 o7 o8 n w kt g hr hl hn hq
    exact ⟨trivial, hq rs o5 o6 o7 o8 w rfl hr (g.mono (by simp))⟩
  | cons j js ih =>
    intro rs o5 o6 o7 o8 n w kt g hr hl hn hq
    simp only [List.length_cons] at hl hn
    refine for_name trivial (seq_gen fun N_ hN_ => ?_)
    try simp -implicitDefEqProofs only [eVar, eC, eOp, eUn, aNil, aCons, eSeq, eCall, eFn, bBl, onB_bl, bTru, eNotT, bAnd, bOr, bNot, eAnd, eOr, eIf, bChain, iteB_t, iteB_f, sNil, sSeq, sRet, sDrop, sAsg, sIf, sBreak, sCont, sAsgG, sPar2, sPar3, sSetIx, sPairSet, sAppend, onL, onI_i, onT_s, onTu_t, onCe_c, on1_, on2_, on3_, onLst_l, onOb_o, onSeq_l, onSeq_r, onSeq_c, lkD_s, lkD_n, lkO_s, lkO_n, finO, sFldD, setFD, eProp, isOb_obj, eMake, eMakeK, eMakeL, eLc, eNew, eSl, oNone, oSome, eOpM, eCallM, eCm, eCmK, eOpT, jNil, jCons, eJoin, aStar, sCalm, sFor, iRange1, iSeq, iTupD, iStrD, iEnumT, tName, tTup_t, tsCons_c, tsNil_n, any_t, onS_some, look0, look1, look2, look3, look4, look5, look6, look7, look8, look9, look10, look11, look12, look13, look14, look15, bYes, wipeE, List.set_cons_zero, List.set_cons_succ, List.length_cons, List.length_nil, List.append_nil, List.nil_append, List.cons_append, List.append_assoc, Nat.zero_add, Nat.reduceAdd, Nat.reduceSub, Nat.reduceEqDiff, Nat.reduceLT, Nat.reduceLeDiff, Int.reduceNeg, true_and, and_true, and_self, if_true, if_false, Bool.not_true, Bool.not_false, Bool.false_eq_true, reduceIte, reduceCtorEq, decide_true, decide_false, ltD_int, leD_int, gtD_int, geD_int, subD_int, addD_int, intOf_int, absD_int, eqD_int, eqD_str, neD_str, neD_int, isN_non, truD_bl, eqD_bl, neD_bl, Option.map_some, Option.bind_some, small_0, small_1, small_2, small_3, small_4, small_5, small_6, small_7, small_8, st_app, st_len, fin_st, fin_stT, fin_self, ite_self, ln]
    refine dip_ok hk g (by omega) (by omega) (by omega) fun d w1 d0 d1 g1 => ?_
    try simp -implicitDefEqProofs only [eVar, eC, eOp, eUn, aNil, aCons, eSeq, eCall, eFn, bBl, onB_bl, bTru, eNotT, bAnd, bOr, bNot, eAnd, eOr, eIf, bChain, iteB_t, iteB_f, sNil, sSeq, sRet, sDrop, sAsg, sIf, sBreak, sCont, sAsgG, sPar2, sPar3, sSetIx, sPairSet, sAppend, onL, onI_i, onT_s, onTu_t, onCe_c, on1_, on2_, on3_, onLst_l, onOb_o, onSeq_l, onSeq_r, onSeq_c, lkD_s, lkD_n, lkO_s, lkO_n, finO, sFldD, setFD, eProp, isOb_obj, eMake, eMakeK, eMakeL, eLc, eNew, eSl, oNone, oSome, eOpM, eCallM, eCm, eCmK, eOpT, jNil, jCons, eJoin, aStar, sCalm, sFor, iRange1, iSeq, iTupD, iStrD, iEnumT, tName, tTup_t, tsCons_c, tsNil_n, any_t, onS_some, look0, look1, look2, look3, look4, look5, look6, look7, look8, look9, look10, look11, look12, look13, look14, look15, bYes, wipeE, List.set_cons_zero, List.set_cons_succ, List.length_cons, List.length_nil, List.append_nil, List.nil_append, List.cons_append, List.append_assoc, Nat.zero_add, Nat.reduceAdd, Nat.reduceSub, Nat.reduceEqDiff, Nat.reduceLT, Nat.reduceLeDiff, Int.reduceNeg, true_and, and_true, and_self, if_true, if_false, Bool.not_true, Bool.not_false, Bool.false_eq_true, reduceIte, reduceCtorEq, decide_true, decide_false, ltD_int, leD_int, gtD_int, geD_int, subD_int, addD_int, intOf_int, absD_int, eqD_int, eqD_str, neD_str, neD_int, isN_non, truD_bl, eqD_bl, neD_bl, Option.map_some, Option.bind_some, small_0, small_1, small_2, small_3, small_4, small_5, small_6, small_7, small_8, st_app, st_len, fin_st, fin_stT, fin_self, ite_self, ln]
    refine dip_ok hk g1 (by omega) (by omega) (by omega) fun e w2 e0 e1 g2 => ?_
    try simp -implicitDefEqProofs only [eVar, eC, eOp, eUn, aNil, aCons, eSeq, eCall, eFn, bBl, onB_bl, bTru, eNotT, bAnd, bOr, bNot, eAnd, eOr, eIf, bChain, iteB_t, iteB_f, sNil, sSeq, sRet, sDrop, sAsg, sIf, sBreak, sCont, sAsgG, sPar2, sPar3, sSetIx, sPairSet, sAppend, onL, onI_i, onT_s, onTu_t, onCe_c, on1_, on2_, on3_, onLst_l, onOb_o, onSeq_l, onSeq_r, onSeq_c, lkD_s, lkD_n, lkO_s, lkO_n, finO, sFldD, setFD, eProp, isOb_obj, eMake, eMakeK, eMakeL, eLc, eNew, eSl, oNone, oSome, eOpM, eCallM, eCm, eCmK, eOpT, jNil, jCons, eJoin, aStar, sCalm, sFor, iRange1, iSeq, iTupD, iStrD, iEnumT, tName, tTup_t, tsCons_c, tsNil_n, any_t, onS_some, look0, look1, look2, look3, look4, look5, look6, look7, look8, look9, look10, look11, look12, look13, look14, look15, bYes, wipeE, List.set_cons_zero, List.set_cons_succ, List.length_cons, List.length_nil, List.append_nil, List.nil_append, List.cons_append, List.append_assoc, Nat.zero_add, Nat.reduceAdd, Nat.reduceSub, Nat.reduceEqDiff, Nat.reduceLT, Nat.reduceLeDiff, Int.reduceNeg, true_and, and_true, and_self, if_true, if_false, Bool.not_true, Bool.not_false, Bool.false_eq_true, reduceIte, reduceCtorEq, decide_true, decide_false, ltD_int, leD_int, gtD_int, geD_int, subD_int, addD_int, intOf_int, absD_int, eqD_int, eqD_str, neD_str, neD_int, isN_non, truD_bl, eqD_bl, neD_bl, Option.map_some, Option.bind_some, small_0, small_1, small_2, small_3, small_4, small_5, small_6, small_7, small_8, st_app, st_len, fin_st, fin_stT, fin_self, ite_self]
    subst hN_
    refine seq_gen fun N_ hN_ => ?_
    have hsm : small (rs.map rowD).length = true := small_of (by rw [List.length_map]; omega)
    try simp -implicitDefEqProofs only [eVar, eC, eOp, eUn, aNil, aCons, eSeq, eCall, eFn, bBl, onB_bl, bTru, eNotT, bAnd, bOr, bNot, eAnd, eOr, eIf, bChain, iteB_t, iteB_f, sNil, sSeq, sRet, sDrop, sAsg, sIf, sBreak, sCont, sAsgG, sPar2, sPar3, sSetIx, sPairSet, sAppend, onL, onI_i, onT_s, onTu_t, onCe_c, on1_, on2_, on3_, onLst_l, onOb_o, onSeq_l, onSeq_r, onSeq_c, lkD_s, lkD_n, lkO_s, lkO_n, finO, sFldD, setFD, eProp, isOb_obj, eMake, eMakeK, eMakeL, eLc, eNew, eSl, oNone, oSome, eOpM, eCallM, eCm, eCmK, eOpT, jNil, jCons, eJoin, aStar, sCalm, sFor, iRange1, iSeq, iTupD, iStrD, iEnumT, tName, tTup_t, tsCons_c, tsNil_n, any_t, onS_some, look0, look1, look2, look3, look4, look5, look6, look7, look8, look9, look10, look11, look12, look13, look14, look15, bYes, wipeE, List.set_cons_zero, List.set_cons_succ, List.length_cons, List.length_nil, List.append_nil, List.nil_append, List.cons_append, List.append_assoc, Nat.zero_add, Nat.reduceAdd, Nat.reduceSub, Nat.reduceEqDiff, Nat.reduceLT, Nat.reduceLeDiff, Int.reduceNeg, true_and, and_true, and_self, if_true, if_false, Bool.not_true, Bool.not_false, Bool.false_eq_true, reduceIte, reduceCtorEq, decide_true, decide_false, ltD_int, leD_int, gtD_int, geD_int, subD_int, addD_int, intOf_int, absD_int, eqD_int, eqD_str, neD_str, neD_int, isN_non, truD_bl, eqD_bl, neD_bl, Option.map_some, Option.bind_some, small_0, small_1, small_2, small_3, small_4, small_5, small_6, small_7, small_8, st_app, st_len, fin_st, fin_stT, fin_self, ite_self, st_at1, hsm]
    rw [lc_mapEq (g := fun r : LR => D.str r.1) _ st_at1 (fun r hr => ?_)]
    rotate_left
    · refine ⟨_, rfl, fun q x => ?_⟩
      try simp -implicitDefEqProofs only [eVar, eC, eOp, eUn, aNil, aCons, eSeq, eCall, eFn, bBl, onB_bl, bTru, eNotT, bAnd, bOr, bNot, eAnd, eOr, eIf, bChain, iteB_t, iteB_f, sNil, sSeq, sRet, sDrop, sAsg, sIf, sBreak, sCont, sAsgG, sPar2, sPar3, sSetIx, sPairSet, sAppend, onL, onI_i, onT_s, onTu_t, onCe_c, on1_, on2_, on3_, onLst_l, onOb_o, onSeq_l, onSeq_r, onSeq_c, lkD_s, lkD_n, lkO_s, lkO_n, finO, sFldD, setFD, eProp, isOb_obj, eMake, eMakeK, eMakeL, eLc, eNew, eSl, oNone, oSome, eOpM, eCallM, eCm, eCmK, eOpT, jNil, jCons, eJoin, aStar, sCalm, sFor, iRange1, iSeq, iTupD, iStrD, iEnumT, tName, tTup_t, tsCons_c, tsNil_n, any_t, onS_some, look0, look1, look2, look3, look4, look5, look6, look7, look8, look9, look10, look11, look12, look13, look14, look15, bYes, wipeE, List.set_cons_zero, List.set_cons_succ, List.length_cons, List.length_nil, List.append_nil, List.nil_append, List.cons_append, List.append_assoc, Nat.zero_add, Nat.reduceAdd, Nat.reduceSub, Nat.reduceEqDiff, Nat.reduceLT, Nat.reduceLeDiff, Int.reduceNeg, true_and, and_true, and_self, if_true, if_false, Bool.not_true, Bool.not_false, Bool.false_eq_true, reduceIte, reduceCtorEq, decide_true, decide_false, ltD_int, leD_int, gtD_int, geD_int, subD_int, addD_int, intOf_int, absD_int, eqD_int, eqD_str, neD_str, neD_int, isN_non, truD_bl, eqD_bl, neD_bl, Option.map_some, Option.bind_some, small_0, small_1, small_2, small_3, small_4, small_5, small_6, small_7, small_8, st_app, st_len, fin_st, fin_stT, fin_self, ite_self, rix0]
    try simp -implicitDefEqProofs only [eVar, eC, eOp, eUn, aNil, aCons, eSeq, eCall, eFn, bBl, onB_bl, bTru, eNotT, bAnd, bOr, bNot, eAnd, eOr, eIf, bChain, iteB_t, iteB_f, sNil, sSeq, sRet, sDrop, sAsg, sIf, sBreak, sCont, sAsgG, sPar2, sPar3, sSetIx, sPairSet, sAppend, onL, onI_i, onT_s, onTu_t, onCe_c, on1_, on2_, on3_, onLst_l, onOb_o, onSeq_l, onSeq_r, onSeq_c, lkD_s, lkD_n, lkO_s, lkO_n, finO, sFldD, setFD, eProp, isOb_obj, eMake, eMakeK, eMakeL, eLc, eNew, eSl, oNone, oSome, eOpM, eCallM, eCm, eCmK, eOpT, jNil, jCons, eJoin, aStar, sCalm, sFor, iRange1, iSeq, iTupD, iStrD, iEnumT, tName, tTup_t, tsCons_c, tsNil_n, any_t, onS_some, look0, look1, look2, look3, look4, look5, look6, look7, look8, look9, look10, look11, look12, look13, look14, look15, bYes, wipeE, List.set_cons_zero, List.set_cons_succ, List.length_cons, List.length_nil, List.append_nil, List.nil_append, List.cons_append, List.append_assoc, Nat.zero_add, Nat.reduceAdd, Nat.reduceSub, Nat.reduceEqDiff, Nat.reduceLT, Nat.reduceLeDiff, Int.reduceNeg, true_and, and_true, and_self, if_true, if_false, Bool.not_true, Bool.not_false, Bool.false_eq_true, reduceIte, reduceCtorEq, decide_true, decide_false, ltD_int, leD_int, gtD_int, geD_int, subD_int, addD_int, intOf_int, absD_int, eqD_int, eqD_str, neD_str, neD_int, isN_non, truD_bl, eqD_bl, neD_bl, Option.map_some, Option.bind_some, small_0, small_1, small_2, small_3, small_4, small_5, small_6, small_7, small_8, st_app, st_len, fin_st, fin_stT, fin_self, ite_self]
    have em : (rs.map fun r => D.str r.1) = (rs.map (·.1)).map D.str := by simp [Function.comp_def]
    rw [em]
    refine fresh_ok hk g2 (by omega) (fun w => .lst) (fun t ht => ?_) (by rw [List.length_map]; omega) fun s w3 hs hnot g3 => ?_
    · obtain ⟨r, hr', rfl⟩ := List.mem_map.mp ht
      exact (hr.rows r hr').n
    try simp -implicitDefEqProofs only [eVar, eC, eOp, eUn, aNil, aCons, eSeq, eCall, eFn, bBl, onB_bl, bTru, eNotT, bAnd, bOr, bNot, eAnd, eOr, eIf, bChain, iteB_t, iteB_f, sNil, sSeq, sRet, sDrop, sAsg, sIf, sBreak, sCont, sAsgG, sPar2, sPar3, sSetIx, sPairSet, sAppend, onL, onI_i, onT_s, onTu_t, onCe_c, on1_, on2_, on3_, onLst_l, onOb_o, onSeq_l, onSeq_r, onSeq_c, lkD_s, lkD_n, lkO_s, lkO_n, finO, sFldD, setFD, eProp, isOb_obj, eMake, eMakeK, eMakeL, eLc, eNew, eSl, oNone, oSome, eOpM, eCallM, eCm, eCmK, eOpT, jNil, jCons, eJoin, aStar, sCalm, sFor, iRange1, iSeq, iTupD, iStrD, iEnumT, tName, tTup_t, tsCons_c, tsNil_n, any_t, onS_some, look0, look1, look2, look3, look4, look5, look6, look7, look8, look9, look10, look11, look12, look13, look14, look15, bYes, wipeE, List.set_cons_zero, List.set_cons_succ, List.length_cons, List.length_nil, List.append_nil, List.nil_append, List.cons_append, List.append_assoc, Nat.zero_add, Nat.reduceAdd, Nat.reduceSub, Nat.reduceEqDiff, Nat.reduceLT, Nat.reduceLeDiff, Int.reduceNeg, true_and, and_true, and_self, if_true, if_false, Bool.not_true, Bool.not_false, Bool.false_eq_true, reduceIte, reduceCtorEq, decide_true, decide_false, ltD_int, leD_int, gtD_int, geD_int, subD_int, addD_int, intOf_int, absD_int, eqD_int, eqD_str, neD_str, neD_int, isN_non, truD_bl, eqD_bl, neD_bl, Option.map_some, Option.bind_some, small_0, small_1, small_2, small_3, small_4, small_5, small_6, small_7, small_8, st_app, st_len, fin_st, fin_stT, fin_self, ite_self]
    subst hN_
    have hm0 : 0 ≤ (d + (1 + e)) % (ts.length : Int) := Int.emod_nonneg _ (by omega)
    have hm1 : (d + (1 + e)) % (ts.length : Int) < (ts.length : Int) := Int.emod_lt_of_pos _ (by omega)
    have hne : ((d + (1 + e)) % (ts.length : Int)).toNat ≠ d.toNat := by
      intro h
      have h3 : (d + (1 + e)) % (ts.length : Int) = d := by omega
      have h4 : (d + (1 + e)) % (ts.length : Int) = (if d + (1 + e) < ts.length then d + (1 + e) else d + (1 + e) - ts.length) := by
        split
        · exact Int.emod_eq_of_lt (by omega) (by omega)
        · rw [← Int.sub_emod_right]
          exact Int.emod_eq_of_lt (by omega) (by omega)
      rw [h4] at h3
      split at h3 <;> omega
    try simp -implicitDefEqProofs only [eVar, eC, eOp, eUn, aNil, aCons, eSeq, eCall, eFn, bBl, onB_bl, bTru, eNotT, bAnd, bOr, bNot, eAnd, eOr, eIf, bChain, iteB_t, iteB_f, sNil, sSeq, sRet, sDrop, sAsg, sIf, sBreak, sCont, sAsgG, sPar2, sPar3, sSetIx, sPairSet, sAppend, onL, onI_i, onT_s, onTu_t, onCe_c, on1_, on2_, on3_, onLst_l, onOb_o, onSeq_l, onSeq_r, onSeq_c, lkD_s, lkD_n, lkO_s, lkO_n, finO, sFldD, setFD, eProp, isOb_obj, eMake, eMakeK, eMakeL, eLc, eNew, eSl, oNone, oSome, eOpM, eCallM, eCm, eCmK, eOpT, jNil, jCons, eJoin, aStar, sCalm, sFor, iRange1, iSeq, iTupD, iStrD, iEnumT, tName, tTup_t, tsCons_c, tsNil_n, any_t, onS_some, look0, look1, look2, look3, look4, look5, look6, look7, look8, look9, look10, look11, look12, look13, look14, look15, bYes, wipeE, List.set_cons_zero, List.set_cons_succ, List.length_cons, List.length_nil, List.append_nil, List.nil_append, List.cons_append, List.append_assoc, Nat.zero_add, Nat.reduceAdd, Nat.reduceSub, Nat.reduceEqDiff, Nat.reduceLT, Nat.reduceLeDiff, Int.reduceNeg, true_and, and_true, and_self, if_true, if_false, Bool.not_true, Bool.not_false, Bool.false_eq_true, reduceIte, reduceCtorEq, decide_true, decide_false, ltD_int, leD_int, gtD_int, geD_int, subD_int, addD_int, intOf_int, absD_int, eqD_int, eqD_str, neD_str, neD_int, isN_non, truD_bl, eqD_bl, neD_bl, Option.map_some, Option.bind_some, small_0, small_1, small_2, small_3, small_4, small_5, small_6, small_7, small_8, st_app, st_len, fin_st, fin_stT, fin_self, ite_self, st_at1, ixC st_at0 d0 d1, ln, modD_int (show (0 : Int) < ((ts.length : Nat) : Int) by omega), ixC st_at0 hm0 hm1, st_set1, D.clean, D.cleanL, Bool.and_self, hsm]
    have ih' := ih (rs ++ [(s, ts[d.toNat]'(by omega), ts[((d + (1 + e)) % (ts.length : Int)).toNat]'(by omega))]) (some (.int (0 + (j : Int)))) (some (.int d)) (some (.int (1 + e))) (some (.str s)) (n + 15) w3 kt (g3.mono (by omega))
      (hr.snoc ⟨hs, hp.nm _ (List.getElem_mem _), hp.nm _ (List.getElem_mem _), nodup_ne hp.nd _ _ hne⟩ hnot) (by simp; omega) (by omega) fun rs' o5 o6 o7 o8 w' e hp' g' => hq rs' o5 o6 o7 o8 w' (by rw [e]; simp; omega) hp' (g'.mono (by simp; omega))
    rw [List.map_append] at ih'
    exact ih'
theorem laid_ok (hk : k < S.length) (g : Good n w) (hn : n < 1000000000000000) (hlo : 1 ≤ lo) (hhi : lo ≤ hi) (h12 : hi ≤ 12) (h : ∀ rs w', LaidOk rs → Good (n + 300) w' → (rs.length : Int) ≤ hi → q (.lst (rs.map rowD)) (st S k w' T)) :
    G_laid_k12 A [.cell k, .int lo, .int hi] (st S k w T) q x := by
  rw [D_laid_k12]
  unfold fnD startE
  simp only [List.map_cons, List.map_nil, List.length_cons, List.length_nil, Nat.reduceAdd, Nat.reduceSub, List.replicate, List.cons_append, List.nil_append, List.append_nil, Nat.zero_add]
  unfold B_laid_k12
  refine seq_gen fun N_ hN_ => ?_
  try simp -implicitDefEqProofs only [eVar, eC, eOp, eUn, aNil, aCons, eSeq, eCall, eFn, bBl, onB_bl, bTru, eNotT, bAnd, bOr, bNot, eAnd, eOr, eIf, bChain, iteB_t, iteB_f, sNil, sSeq, sRet, sDrop, sAsg, sIf, sBreak, sCont, sAsgG, sPar2, sPar3, sSetIx, sPairSet, sAppend, onL, onI_i, onT_s, onTu_t, onCe_c, on1_, on2_, on3_, onLst_l, onOb_o, onSeq_l, onSeq_r, onSeq_c, lkD_s, lkD_n, lkO_s, lkO_n, finO, sFldD, setFD, eProp, isOb_obj, eMake, eMakeK, eMakeL, eLc, eNew, eSl, oNone, oSome, eOpM, eCallM, eCm, eCmK, eOpT, jNil, jCons, eJoin, aStar, sCalm, sFor, iRange1, iSeq, iTupD, iStrD, iEnumT, tName, tTup_t, tsCons_c, tsNil_n, any_t, onS_some, look0, look1, look2, look3, look4, look5, look6, look7, look8, look9, look10, look11, look12, look13, look14, look15, bYes, wipeE, List.set_cons_zero, List.set_cons_succ, List.length_cons, List.length_nil, List.append_nil, List.nil_append, List.cons_append, List.append_assoc, Nat.zero_add, Nat.reduceAdd, Nat.reduceSub, Nat.reduceEqDiff, Nat.reduceLT, Nat.reduceLeDiff, Int.reduceNeg, true_and, and_true, and_self, if_true, if_false, Bool.not_true, Bool.not_false, Bool.false_eq_true, reduceIte, reduceCtorEq, decide_true, decide_false, ltD_int, leD_int, gtD_int, geD_int, subD_int, addD_int, intOf_int, absD_int, eqD_int, eqD_str, neD_str, neD_int, isN_non, truD_bl, eqD_bl, neD_bl, Option.map_some, Option.bind_some, small_0, small_1, small_2, small_3, small_4, small_5, small_6, small_7, small_8, st_app, st_len, fin_st, fin_stT, fin_self, ite_self, D.cleanL, List.length_append]
  rw [← Nat.add_assoc]
  subst hN_
  refine seq_gen fun N_ hN_ => ?_
  try simp -implicitDefEqProofs only [eVar, eC, eOp, eUn, aNil, aCons, eSeq, eCall, eFn, bBl, onB_bl, bTru, eNotT, bAnd, bOr, bNot, eAnd, eOr, eIf, bChain, iteB_t, iteB_f, sNil, sSeq, sRet, sDrop, sAsg, sIf, sBreak, sCont, sAsgG, sPar2, sPar3, sSetIx, sPairSet, sAppend, onL, onI_i, onT_s, onTu_t, onCe_c, on1_, on2_, on3_, onLst_l, onOb_o, onSeq_l, onSeq_r, onSeq_c, lkD_s, lkD_n, lkO_s, lkO_n, finO, sFldD, setFD, eProp, isOb_obj, eMake, eMakeK, eMakeL, eLc, eNew, eSl, oNone, oSome, eOpM, eCallM, eCm, eCmK, eOpT, jNil, jCons, eJoin, aStar, sCalm, sFor, iRange1, iSeq, iTupD, iStrD, iEnumT, tName, tTup_t, tsCons_c, tsNil_n, any_t, onS_some, look0, look1, look2, look3, look4, look5, look6, look7, look8, look9, look10, look11, look12, look13, look14, look15, bYes, wipeE, List.set_cons_zero, List.set_cons_succ, List.length_cons, List.length_nil, List.append_nil, List.nil_append, List.cons_append, List.append_assoc, Nat.zero_add, Nat.reduceAdd, Nat.reduceSub, Nat.reduceEqDiff, Nat.reduceLT, Nat.reduceLeDiff, Int.reduceNeg, true_and, and_true, and_self, if_true, if_false, Bool.not_true, Bool.not_false, Bool.false_eq_true, reduceIte, reduceCtorEq, decide_true, decide_false, ltD_int, leD_int, gtD_int, geD_int, subD_int, addD_int, intOf_int, absD_int, eqD_int, eqD_str, neD_str, neD_int, isN_non, truD_bl, eqD_bl, neD_bl, Option.map_some, Option.bind_some, small_0, small_1, small_2, small_3, small_4, small_5, small_6, small_7, small_8, st_app, st_len, fin_st, fin_stT, fin_self, ite_self]
  refine dip_ok hk g (by omega) (by omega) (by omega) fun d w1 d0 d1 g1 => ?_
  try simp -implicitDefEqProofs only [eVar, eC, eOp, eUn, aNil, aCons, eSeq, eCall, eFn, bBl, onB_bl, bTru, eNotT, bAnd, bOr, bNot, eAnd, eOr, eIf, bChain, iteB_t, iteB_f, sNil, sSeq, sRet, sDrop, sAsg, sIf, sBreak, sCont, sAsgG, sPar2, sPar3, sSetIx, sPairSet, sAppend, onL, onI_i, onT_s, onTu_t, onCe_c, on1_, on2_, on3_, onLst_l, onOb_o, onSeq_l, onSeq_r, onSeq_c, lkD_s, lkD_n, lkO_s, lkO_n, finO, sFldD, setFD, eProp, isOb_obj, eMake, eMakeK, eMakeL, eLc, eNew, eSl, oNone, oSome, eOpM, eCallM, eCm, eCmK, eOpT, jNil, jCons, eJoin, aStar, sCalm, sFor, iRange1, iSeq, iTupD, iStrD, iEnumT, tName, tTup_t, tsCons_c, tsNil_n, any_t, onS_some, look0, look1, look2, look3, look4, look5, look6, look7, look8, look9, look10, look11, look12, look13, look14, look15, bYes, wipeE, List.set_cons_zero, List.set_cons_succ, List.length_cons, List.length_nil, List.append_nil, List.nil_append, List.cons_append, List.append_assoc, Nat.zero_add, Nat.reduceAdd, Nat.reduceSub, Nat.reduceEqDiff, Nat.reduceLT, Nat.reduceLeDiff, Int.reduceNeg, true_and, and_true, and_self, if_true, if_false, Bool.not_true, Bool.not_false, Bool.false_eq_true, reduceIte, reduceCtorEq, decide_true, decide_false, ltD_int, leD_int, gtD_int, geD_int, subD_int, addD_int, intOf_int, absD_int, eqD_int, eqD_str, neD_str, neD_int, isN_non, truD_bl, eqD_bl, neD_bl, Option.map_some, Option.bind_some, small_0, small_1, small_2, small_3, small_4, small_5, small_6, small_7, small_8, st_app, st_len, fin_st, fin_stT, fin_self, ite_self]
  refine ⟨⟨by omega, by omega⟩, ?_⟩
  refine laid1 hk _ [] _ (n + 1) _ _ g1 ⟨by simp, by simp⟩ (by simp; omega) (by simp; omega) fun ts o w2 e hp g2 => ?_
  rw [List.length_range] at e g2
  simp only [List.length_nil, Nat.zero_add] at e
  dsimp only
  subst hN_
  refine seq_gen fun N_ hN_ => ?_
  try simp -implicitDefEqProofs only [eVar, eC, eOp, eUn, aNil, aCons, eSeq, eCall, eFn, bBl, onB_bl, bTru, eNotT, bAnd, bOr, bNot, eAnd, eOr, eIf, bChain, iteB_t, iteB_f, sNil, sSeq, sRet, sDrop, sAsg, sIf, sBreak, sCont, sAsgG, sPar2, sPar3, sSetIx, sPairSet, sAppend, onL, onI_i, onT_s, onTu_t, onCe_c, on1_, on2_, on3_, onLst_l, onOb_o, onSeq_l, onSeq_r, onSeq_c, lkD_s, lkD_n, lkO_s, lkO_n, finO, sFldD, setFD, eProp, isOb_obj, eMake, eMakeK, eMakeL, eLc, eNew, eSl, oNone, oSome, eOpM, eCallM, eCm, eCmK, eOpT, jNil, jCons, eJoin, aStar, sCalm, sFor, iRange1, iSeq, iTupD, iStrD, iEnumT, tName, tTup_t, tsCons_c, tsNil_n, any_t, onS_some, look0, look1, look2, look3, look4, look5, look6, look7, look8, look9, look10, look11, look12, look13, look14, look15, bYes, wipeE, List.set_cons_zero, List.set_cons_succ, List.length_cons, List.length_nil, List.append_nil, List.nil_append, List.cons_append, List.append_assoc, Nat.zero_add, Nat.reduceAdd, Nat.reduceSub, Nat.reduceEqDiff, Nat.reduceLT, Nat.reduceLeDiff, Int.reduceNeg, true_and, and_true, and_self, if_true, if_false, Bool.not_true, Bool.not_false, Bool.false_eq_true, reduceIte, reduceCtorEq, decide_true, decide_false, ltD_int, leD_int, gtD_int, geD_int, subD_int, addD_int, intOf_int, absD_int, eqD_int, eqD_str, neD_str, neD_int, isN_non, truD_bl, eqD_bl, neD_bl, Option.map_some, Option.bind_some, small_0, small_1, small_2, small_3, small_4, small_5, small_6, small_7, small_8, st_app, st_len, fin_st, fin_stT, fin_self, ite_self]
  refine dip_ok hk g2 (by omega) (by omega) (by omega) fun d' w3 d0' d1' g3 => ?_
  try simp -implicitDefEqProofs only [eVar, eC, eOp, eUn, aNil, aCons, eSeq, eCall, eFn, bBl, onB_bl, bTru, eNotT, bAnd, bOr, bNot, eAnd, eOr, eIf, bChain, iteB_t, iteB_f, sNil, sSeq, sRet, sDrop, sAsg, sIf, sBreak, sCont, sAsgG, sPar2, sPar3, sSetIx, sPairSet, sAppend, onL, onI_i, onT_s, onTu_t, onCe_c, on1_, on2_, on3_, onLst_l, onOb_o, onSeq_l, onSeq_r, onSeq_c, lkD_s, lkD_n, lkO_s, lkO_n, finO, sFldD, setFD, eProp, isOb_obj, eMake, eMakeK, eMakeL, eLc, eNew, eSl, oNone, oSome, eOpM, eCallM, eCm, eCmK, eOpT, jNil, jCons, eJoin, aStar, sCalm, sFor, iRange1, iSeq, iTupD, iStrD, iEnumT, tName, tTup_t, tsCons_c, tsNil_n, any_t, onS_some, look0, look1, look2, look3, look4, look5, look6, look7, look8, look9, look10, look11, look12, look13, look14, look15, bYes, wipeE, List.set_cons_zero, List.set_cons_succ, List.length_cons, List.length_nil, List.append_nil, List.nil_append, List.cons_append, List.append_assoc, Nat.zero_add, Nat.reduceAdd, Nat.reduceSub, Nat.reduceEqDiff, Nat.reduceLT, Nat.reduceLeDiff, Int.reduceNeg, true_and, and_true, and_self, if_true, if_false, Bool.not_true, Bool.not_false, Bool.false_eq_true, reduceIte, reduceCtorEq, decide_true, decide_false, ltD_int, leD_int, gtD_int, geD_int, subD_int, addD_int, intOf_int, absD_int, eqD_int, eqD_str, neD_str, neD_int, isN_non, truD_bl, eqD_bl, neD_bl, Option.map_some, Option.bind_some, small_0, small_1, small_2, small_3, small_4, small_5, small_6, small_7, small_8, st_app, st_len, fin_st, fin_stT, fin_self, ite_self]
  refine ⟨⟨by omega, by omega⟩, ?_⟩
  refine laid2 hk hp (by omega) (by omega) _ [] _ _ _ _ _ _ _ g3 ⟨by simp, by simp⟩ (by simp; omega) (by simp; omega) fun rs o5 o6 o7 o8 w4 e' hr g4 => ?_
  rw [List.length_range] at e' g4
  simp only [List.length_nil, Nat.zero_add] at e'
  dsimp only
  subst hN_
  try simp -implicitDefEqProofs only [eVar, eC, eOp, eUn, aNil, aCons, eSeq, eCall, eFn, bBl, onB_bl, bTru, eNotT, bAnd, bOr, bNot, eAnd, eOr, eIf, bChain, iteB_t, iteB_f, sNil, sSeq, sRet, sDrop, sAsg, sIf, sBreak, sCont, sAsgG, sPar2, sPar3, sSetIx, sPairSet, sAppend, onL, onI_i, onT_s, onTu_t, onCe_c, on1_, on2_, on3_, onLst_l, onOb_o, onSeq_l, onSeq_r, onSeq_c, lkD_s, lkD_n, lkO_s, lkO_n, finO, sFldD, setFD, eProp, isOb_obj, eMake, eMakeK, eMakeL, eLc, eNew, eSl, oNone, oSome, eOpM, eCallM, eCm, eCmK, eOpT, jNil, jCons, eJoin, aStar, sCalm, sFor, iRange1, iSeq, iTupD, iStrD, iEnumT, tName, tTup_t, tsCons_c, tsNil_n, any_t, onS_some, look0, look1, look2, look3, look4, look5, look6, look7, look8, look9, look10, look11, look12, look13, look14, look15, bYes, wipeE, List.set_cons_zero, List.set_cons_succ, List.length_cons, List.length_nil, List.append_nil, List.nil_append, List.cons_append, List.append_assoc, Nat.zero_add, Nat.reduceAdd, Nat.reduceSub, Nat.reduceEqDiff, Nat.reduceLT, Nat.reduceLeDiff, Int.reduceNeg, true_and, and_true, and_self, if_true, if_false, Bool.not_true, Bool.not_false, Bool.false_eq_true, reduceIte, reduceCtorEq, decide_true, decide_false, ltD_int, leD_int, gtD_int, geD_int, subD_int, addD_int, intOf_int, absD_int, eqD_int, eqD_str, neD_str, neD_int, isN_non, truD_bl, eqD_bl, neD_bl, Option.map_some, Option.bind_some, small_0, small_1, small_2, small_3, small_4, small_5, small_6, small_7, small_8, st_app, st_len, fin_st, fin_stT, fin_self, ite_self]
  have hlen : ¬ (st S k w4 (T ++ [.lst (ts.map D.str), .lst (rs.map rowD)])).length = S.length + T.length := by
    rw [st_len]
    simp
  have ht : (st S k w4 (T ++ [.lst (ts.map D.str), .lst (rs.map rowD)])).take (S.length + T.length) = st S k w4 T := by
    unfold st
    rw [← List.append_assoc, List.take_append_of_le_length (by simp), List.take_of_length_le (by simp)]
  unfold fin
  rw [if_neg hlen]
  simp only [show ¬ (S.length + T.length + 1 < S.length + T.length) by omega, if_false, st_at1, onS_some, onLst_l, ht]
  exact h rs w4 ⟨hr.rows, hr.nd, by omega, by omega⟩ (g4.mono (by omega)) (by omega)
end
end RV
end
section
/-! Drawn meters. -/
namespace RV
open PySem L2
section
variable {A : Ad} {S T : WS} {k : Nat} {n m lo hi : Int} {w : W} {q : D → WS → Prop} {x : Xq} {rs : List LR} {fs : List FR}
structure FitRows (rs : List LR) (fs : List FR) : Prop where
  n : ∀ f ∈ fs, Nm f.1
  at_ : ∀ f ∈ fs, f.2.1 ∈ rs.map (·.1)
  nd : (fs.map (·.1)).Nodup
theorem FitRows.snoc {f : FR} (h : FitRows rs fs) (h1 : Nm f.1) (h2 : f.2.1 ∈ rs.map (·.1)) (hn : f.1 ∉ fs.map (·.1)) : FitRows rs (fs ++ [f]) := by
  refine ⟨fun t ht => ?_, fun t ht => ?_, ?_⟩
  · rcases List.mem_append.mp ht with z | z
    · exact h.n t z
    · rw [List.mem_singleton.mp z]
      exact h1
  · rcases List.mem_append.mp ht with z | z
    · exact h.at_ t z
    · rw [List.mem_singleton.mp z]
      exact h2
  · rw [List.map_append, List.nodup_append]
    refine ⟨h.nd, by simp, fun a ha b hb e => ?_⟩
    simp only [List.map_cons, List.map_nil, List.mem_singleton] at hb
    rw [hb] at e
    exact hn (e ▸ ha)
theorem ix_rows {i : Int} (h0 : 0 ≤ i) (h1 : i < rs.length) : ixD S (.lst (rs.map rowD)) (.int i) = some (rowD (rs[i.toNat]'(by omega))) := by
  simp only [ixD]
  rw [atI_nat h0 (by simpa using h1), List.getElem?_map, List.getElem?_eq_getElem (by omega)]
  rfl
abbrev fE (S T : WS) (k : Nat) (rs : List LR) (m : Int) (o4 o5 o6 o7 o8 o9 : Option D) : RV.Env := [some (.cell k), some (.lst (rs.map rowD)), some (.int m), some (.cell (S.length + T.length)), o4, o5, o6, o7, o8, o9, none]
theorem fits1 (hk : k < S.length) (hL : LaidOk rs) : ∀ (js : List Nat) (fs : List FR) (o4 o5 o6 o7 o8 o9 : Option D) (n : Int) (w : W) (kt : Kt), Good n w → FitRows rs fs → fs.length + js.length < 36 → n + 16 * js.length < 10000000000000000 →
    (∀ fs' o4 o5 o6 o7 o8 o9 w', fs'.length = fs.length + js.length → FitRows rs fs' → Good (n + 16 * js.length) w' → kt.nx (fE S T k rs m o4 o5 o6 o7 o8 o9) (st S k w' (T ++ [.lst (fs'.map fitD)]))) →
    forD any_ (tName 4) (sSeq (sPar3 5 6 7 (aCons (eFn 2 (G_dip_k01 A) [] (aCons (eVar 0) (aCons (eCall lenD (aCons (eVar 1) (aNil))) (aNil)))) (aCons (eOp eqD (eFn 2 (G_dip_k01 A) [] (aCons (eVar 0) (aCons (eC (.int 4)) (aNil)))) (eC (.int 0))) (aCons (eOp eqD (eFn 2 (G_dip_k01 A) [] (aCons (eVar 0) (aCons (eC (.int 5)) (aNil)))) (eC (.int 0))) (aNil))))) (sSeq (sAsg 8 (eLc .still (iSeq (eVar 3)) (tName 10) (bYes) (eOp ixD (eVar 10) (eC (.int 0))) [10])) (sSeq (sAsg 9 (eIf (bAnd (bTru truD (eVar 7)) (bBl (eOp (inD true) (eOp ixD (eOp ixD (eVar 1) (eVar 5)) (eC (.int 0))) (eVar 8)))) (eOp ixD (eOp ixD (eVar 1) (eVar 5)) (eC (.int 0))) (eFn 2 (G_fresh_k09 A) [] (aCons (eVar 0) (aCons (eVar 8) (aNil)))))) (sAppend (eVar 3) (eSeq .tup (aCons (eVar 9) (aCons (eOp ixD (eOp ixD (eVar 1) (eVar 5)) (eC (.int 0))) (aCons (eVar 6) (aNil)))))))))
      (js.map fun (i : Nat) => D.int (0 + (i : Int))) (fE S T k rs m o4 o5 o6 o7 o8 o9) (st S k w (T ++ [.lst (fs.map fitD)])) kt := fun js => by
  have hlo := hL.lo
  have hhi := hL.hi
  induction js with
  | nil =>
    intro fs o4 o5 o6 o7 o8 o9 n w kt g hr hl hn hq
    exact ⟨trivial, hq fs o4 o5 o6 o7 o8 o9 w rfl hr (g.mono (by simp))⟩
  | cons j js ih =>
    intro fs o4 o5 o6 o7 o8 o9 n w kt g hr hl hn hq
    simp only [List.length_cons] at hl hn
    refine for_name trivial (seq_gen fun N_ hN_ => ?_)
    try simp -implicitDefEqProofs only [eVar, eC, eOp, eUn, aNil, aCons, eSeq, eCall, eFn, bBl, onB_bl, bTru, eNotT, bAnd, bOr, bNot, eAnd, eOr, eIf, bChain, iteB_t, iteB_f, sNil, sSeq, sRet, sDrop, sAsg, sIf, sBreak, sCont, sAsgG, sPar2, sPar3, sSetIx, sPairSet, sAppend, onL, onI_i, onT_s, onTu_t, onCe_c, on1_, on2_, on3_, onLst_l, onOb_o, onSeq_l, onSeq_r, onSeq_c, lkD_s, lkD_n, lkO_s, lkO_n, finO, sFldD, setFD, eProp, isOb_obj, eMake, eMakeK, eMakeL, eLc, eNew, eSl, oNone, oSome, eOpM, eCallM, eCm, eCmK, eOpT, jNil, jCons, eJoin, aStar, sCalm, sFor, iRange1, iSeq, iTupD, iStrD, iEnumT, tName, tTup_t, tsCons_c, tsNil_n, any_t, onS_some, look0, look1, look2, look3, look4, look5, look6, look7, look8, look9, look10, look11, look12, look13, look14, look15, bYes, wipeE, List.set_cons_zero, List.set_cons_succ, List.length_cons, List.length_nil, List.append_nil, List.nil_append, List.cons_append, List.append_assoc, Nat.zero_add, Nat.reduceAdd, Nat.reduceSub, Nat.reduceEqDiff, Nat.reduceLT, Nat.reduceLeDiff, Int.reduceNeg, true_and, and_true, and_self, if_true, if_false, Bool.not_true, Bool.not_false, Bool.false_eq_true, reduceIte, reduceCtorEq, decide_true, decide_false, ltD_int, leD_int, gtD_int, geD_int, subD_int, addD_int, intOf_int, absD_int, eqD_int, eqD_str, neD_str, neD_int, isN_non, truD_bl, eqD_bl, neD_bl, Option.map_some, Option.bind_some, small_0, small_1, small_2, small_3, small_4, small_5, small_6, small_7, small_8, st_app, st_len, fin_st, fin_stT, fin_self, ite_self, lenD_lst, List.length_map]
    refine dip_ok hk g (by omega) (by omega) (by omega) fun d w1 d0 d1 g1 => ?_
    try simp -implicitDefEqProofs only [eVar, eC, eOp, eUn, aNil, aCons, eSeq, eCall, eFn, bBl, onB_bl, bTru, eNotT, bAnd, bOr, bNot, eAnd, eOr, eIf, bChain, iteB_t, iteB_f, sNil, sSeq, sRet, sDrop, sAsg, sIf, sBreak, sCont, sAsgG, sPar2, sPar3, sSetIx, sPairSet, sAppend, onL, onI_i, onT_s, onTu_t, onCe_c, on1_, on2_, on3_, onLst_l, onOb_o, onSeq_l, onSeq_r, onSeq_c, lkD_s, lkD_n, lkO_s, lkO_n, finO, sFldD, setFD, eProp, isOb_obj, eMake, eMakeK, eMakeL, eLc, eNew, eSl, oNone, oSome, eOpM, eCallM, eCm, eCmK, eOpT, jNil, jCons, eJoin, aStar, sCalm, sFor, iRange1, iSeq, iTupD, iStrD, iEnumT, tName, tTup_t, tsCons_c, tsNil_n, any_t, onS_some, look0, look1, look2, look3, look4, look5, look6, look7, look8, look9, look10, look11, look12, look13, look14, look15, bYes, wipeE, List.set_cons_zero, List.set_cons_succ, List.length_cons, List.length_nil, List.append_nil, List.nil_append, List.cons_append, List.append_assoc, Nat.zero_add, Nat.reduceAdd, Nat.reduceSub, Nat.reduceEqDiff, Nat.reduceLT, Nat.reduceLeDiff, Int.reduceNeg, true_and, and_true, and_self, if_true, if_false, Bool.not_true, Bool.not_false, Bool.false_eq_true, reduceIte, reduceCtorEq, decide_true, decide_false, ltD_int, leD_int, gtD_int, geD_int, subD_int, addD_int, intOf_int, absD_int, eqD_int, eqD_str, neD_str, neD_int, isN_non, truD_bl, eqD_bl, neD_bl, Option.map_some, Option.bind_some, small_0, small_1, small_2, small_3, small_4, small_5, small_6, small_7, small_8, st_app, st_len, fin_st, fin_stT, fin_self, ite_self]
    refine dip_ok hk g1 (by omega) (by omega) (by omega) fun e w2 e0 e1 g2 => ?_
    try simp -implicitDefEqProofs only [eVar, eC, eOp, eUn, aNil, aCons, eSeq, eCall, eFn, bBl, onB_bl, bTru, eNotT, bAnd, bOr, bNot, eAnd, eOr, eIf, bChain, iteB_t, iteB_f, sNil, sSeq, sRet, sDrop, sAsg, sIf, sBreak, sCont, sAsgG, sPar2, sPar3, sSetIx, sPairSet, sAppend, onL, onI_i, onT_s, onTu_t, onCe_c, on1_, on2_, on3_, onLst_l, onOb_o, onSeq_l, onSeq_r, onSeq_c, lkD_s, lkD_n, lkO_s, lkO_n, finO, sFldD, setFD, eProp, isOb_obj, eMake, eMakeK, eMakeL, eLc, eNew, eSl, oNone, oSome, eOpM, eCallM, eCm, eCmK, eOpT, jNil, jCons, eJoin, aStar, sCalm, sFor, iRange1, iSeq, iTupD, iStrD, iEnumT, tName, tTup_t, tsCons_c, tsNil_n, any_t, onS_some, look0, look1, look2, look3, look4, look5, look6, look7, look8, look9, look10, look11, look12, look13, look14, look15, bYes, wipeE, List.set_cons_zero, List.set_cons_succ, List.length_cons, List.length_nil, List.append_nil, List.nil_append, List.cons_append, List.append_assoc, Nat.zero_add, Nat.reduceAdd, Nat.reduceSub, Nat.reduceEqDiff, Nat.reduceLT, Nat.reduceLeDiff, Int.reduceNeg, true_and, and_true, and_self, if_true, if_false, Bool.not_true, Bool.not_false, Bool.false_eq_true, reduceIte, reduceCtorEq, decide_true, decide_false, ltD_int, leD_int, gtD_int, geD_int, subD_int, addD_int, intOf_int, absD_int, eqD_int, eqD_str, neD_str, neD_int, isN_non, truD_bl, eqD_bl, neD_bl, Option.map_some, Option.bind_some, small_0, small_1, small_2, small_3, small_4, small_5, small_6, small_7, small_8, st_app, st_len, fin_st, fin_stT, fin_self, ite_self]
    refine dip_ok hk g2 (by omega) (by omega) (by omega) fun c w3 c0 c1 g3 => ?_
    try simp -implicitDefEqProofs only [eVar, eC, eOp, eUn, aNil, aCons, eSeq, eCall, eFn, bBl, onB_bl, bTru, eNotT, bAnd, bOr, bNot, eAnd, eOr, eIf, bChain, iteB_t, iteB_f, sNil, sSeq, sRet, sDrop, sAsg, sIf, sBreak, sCont, sAsgG, sPar2, sPar3, sSetIx, sPairSet, sAppend, onL, onI_i, onT_s, onTu_t, onCe_c, on1_, on2_, on3_, onLst_l, onOb_o, onSeq_l, onSeq_r, onSeq_c, lkD_s, lkD_n, lkO_s, lkO_n, finO, sFldD, setFD, eProp, isOb_obj, eMake, eMakeK, eMakeL, eLc, eNew, eSl, oNone, oSome, eOpM, eCallM, eCm, eCmK, eOpT, jNil, jCons, eJoin, aStar, sCalm, sFor, iRange1, iSeq, iTupD, iStrD, iEnumT, tName, tTup_t, tsCons_c, tsNil_n, any_t, onS_some, look0, look1, look2, look3, look4, look5, look6, look7, look8, look9, look10, look11, look12, look13, look14, look15, bYes, wipeE, List.set_cons_zero, List.set_cons_succ, List.length_cons, List.length_nil, List.append_nil, List.nil_append, List.cons_append, List.append_assoc, Nat.zero_add, Nat.reduceAdd, Nat.reduceSub, Nat.reduceEqDiff, Nat.reduceLT, Nat.reduceLeDiff, Int.reduceNeg, true_and, and_true, and_self, if_true, if_false, Bool.not_true, Bool.not_false, Bool.false_eq_true, reduceIte, reduceCtorEq, decide_true, decide_false, ltD_int, leD_int, gtD_int, geD_int, subD_int, addD_int, intOf_int, absD_int, eqD_int, eqD_str, neD_str, neD_int, isN_non, truD_bl, eqD_bl, neD_bl, Option.map_some, Option.bind_some, small_0, small_1, small_2, small_3, small_4, small_5, small_6, small_7, small_8, st_app, st_len, fin_st, fin_stT, fin_self, ite_self]
    subst hN_
    refine seq_gen fun N_ hN_ => ?_
    have hsm : small (fs.map fitD).length = true := small_of (by rw [List.length_map]; omega)
    try simp -implicitDefEqProofs only [eVar, eC, eOp, eUn, aNil, aCons, eSeq, eCall, eFn, bBl, onB_bl, bTru, eNotT, bAnd, bOr, bNot, eAnd, eOr, eIf, bChain, iteB_t, iteB_f, sNil, sSeq, sRet, sDrop, sAsg, sIf, sBreak, sCont, sAsgG, sPar2, sPar3, sSetIx, sPairSet, sAppend, onL, onI_i, onT_s, onTu_t, onCe_c, on1_, on2_, on3_, onLst_l, onOb_o, onSeq_l, onSeq_r, onSeq_c, lkD_s, lkD_n, lkO_s, lkO_n, finO, sFldD, setFD, eProp, isOb_obj, eMake, eMakeK, eMakeL, eLc, eNew, eSl, oNone, oSome, eOpM, eCallM, eCm, eCmK, eOpT, jNil, jCons, eJoin, aStar, sCalm, sFor, iRange1, iSeq, iTupD, iStrD, iEnumT, tName, tTup_t, tsCons_c, tsNil_n, any_t, onS_some, look0, look1, look2, look3, look4, look5, look6, look7, look8, look9, look10, look11, look12, look13, look14, look15, bYes, wipeE, List.set_cons_zero, List.set_cons_succ, List.length_cons, List.length_nil, List.append_nil, List.nil_append, List.cons_append, List.append_assoc, Nat.zero_add, Nat.reduceAdd, Nat.reduceSub, Nat.reduceEqDiff, Nat.reduceLT, Nat.reduceLeDiff, Int.reduceNeg, true_and, and_true, and_self, if_true, if_false, Bool.not_true, Bool.not_false, Bool.false_eq_true, reduceIte, reduceCtorEq, decide_true, decide_false, ltD_int, leD_int, gtD_int, geD_int, subD_int, addD_int, intOf_int, absD_int, eqD_int, eqD_str, neD_str, neD_int, isN_non, truD_bl, eqD_bl, neD_bl, Option.map_some, Option.bind_some, small_0, small_1, small_2, small_3, small_4, small_5, small_6, small_7, small_8, st_app, st_len, fin_st, fin_stT, fin_self, ite_self, st_at0, hsm]
    rw [lc_mapEq (g := fun r : FR => D.str r.1) _ st_at0 (fun r hr => ?_)]
    rotate_left
    · refine ⟨_, rfl, fun q x => ?_⟩
      try simp -implicitDefEqProofs only [eVar, eC, eOp, eUn, aNil, aCons, eSeq, eCall, eFn, bBl, onB_bl, bTru, eNotT, bAnd, bOr, bNot, eAnd, eOr, eIf, bChain, iteB_t, iteB_f, sNil, sSeq, sRet, sDrop, sAsg, sIf, sBreak, sCont, sAsgG, sPar2, sPar3, sSetIx, sPairSet, sAppend, onL, onI_i, onT_s, onTu_t, onCe_c, on1_, on2_, on3_, onLst_l, onOb_o, onSeq_l, onSeq_r, onSeq_c, lkD_s, lkD_n, lkO_s, lkO_n, finO, sFldD, setFD, eProp, isOb_obj, eMake, eMakeK, eMakeL, eLc, eNew, eSl, oNone, oSome, eOpM, eCallM, eCm, eCmK, eOpT, jNil, jCons, eJoin, aStar, sCalm, sFor, iRange1, iSeq, iTupD, iStrD, iEnumT, tName, tTup_t, tsCons_c, tsNil_n, any_t, onS_some, look0, look1, look2, look3, look4, look5, look6, look7, look8, look9, look10, look11, look12, look13, look14, look15, bYes, wipeE, List.set_cons_zero, List.set_cons_succ, List.length_cons, List.length_nil, List.append_nil, List.nil_append, List.cons_append, List.append_assoc, Nat.zero_add, Nat.reduceAdd, Nat.reduceSub, Nat.reduceEqDiff, Nat.reduceLT, Nat.reduceLeDiff, Int.reduceNeg, true_and, and_true, and_self, if_true, if_false, Bool.not_true, Bool.not_false, Bool.false_eq_true, reduceIte, reduceCtorEq, decide_true, decide_false, ltD_int, leD_int, gtD_int, geD_int, subD_int, addD_int, intOf_int, absD_int, eqD_int, eqD_str, neD_str, neD_int, isN_non, truD_bl, eqD_bl, neD_bl, Option.map_some, Option.bind_some, small_0, small_1, small_2, small_3, small_4, small_5, small_6, small_7, small_8, st_app, st_len, fin_st, fin_stT, fin_self, ite_self, fix0]
    try simp -implicitDefEqProofs only [eVar, eC, eOp, eUn, aNil, aCons, eSeq, eCall, eFn, bBl, onB_bl, bTru, eNotT, bAnd, bOr, bNot, eAnd, eOr, eIf, bChain, iteB_t, iteB_f, sNil, sSeq, sRet, sDrop, sAsg, sIf, sBreak, sCont, sAsgG, sPar2, sPar3, sSetIx, sPairSet, sAppend, onL, onI_i, onT_s, onTu_t, onCe_c, on1_, on2_, on3_, onLst_l, onOb_o, onSeq_l, onSeq_r, onSeq_c, lkD_s, lkD_n, lkO_s, lkO_n, finO, sFldD, setFD, eProp, isOb_obj, eMake, eMakeK, eMakeL, eLc, eNew, eSl, oNone, oSome, eOpM, eCallM, eCm, eCmK, eOpT, jNil, jCons, eJoin, aStar, sCalm, sFor, iRange1, iSeq, iTupD, iStrD, iEnumT, tName, tTup_t, tsCons_c, tsNil_n, any_t, onS_some, look0, look1, look2, look3, look4, look5, look6, look7, look8, look9, look10, look11, look12, look13, look14, look15, bYes, wipeE, List.set_cons_zero, List.set_cons_succ, List.length_cons, List.length_nil, List.append_nil, List.nil_append, List.cons_append, List.append_assoc, Nat.zero_add, Nat.reduceAdd, Nat.reduceSub, Nat.reduceEqDiff, Nat.reduceLT, Nat.reduceLeDiff, Int.reduceNeg, true_and, and_true, and_self, if_true, if_false, Bool.not_true, Bool.not_false, Bool.false_eq_true, reduceIte, reduceCtorEq, decide_true, decide_false, ltD_int, leD_int, gtD_int, geD_int, subD_int, addD_int, intOf_int, absD_int, eqD_int, eqD_str, neD_str, neD_int, isN_non, truD_bl, eqD_bl, neD_bl, Option.map_some, Option.bind_some, small_0, small_1, small_2, small_3, small_4, small_5, small_6, small_7, small_8, st_app, st_len, fin_st, fin_stT, fin_self, ite_self]
    have em : (fs.map fun r => D.str r.1) = (fs.map (·.1)).map D.str := by simp [Function.comp_def]
    rw [em]
    subst hN_
    refine seq_gen fun N_ hN_ => ?_
    have hrow := List.getElem_mem (l := rs) (n := d.toNat) (h := by omega)
    have hix : ∀ S : WS, ixD S (.lst (rs.map rowD)) (.int d) = some (rowD (rs[d.toNat]'(by omega))) := fun S => ix_rows d0 d1
    generalize rs[d.toNat]'(by omega) = row at hrow hix
    have hno : ∀ S : WS, inD true S (.str row.1) (.lst ((fs.map (·.1)).map D.str)) = some (.bl (decide (row.1 ∉ fs.map (·.1)))) := fun S => notIn_strs
    have done : ∀ (t : Str) (o7 : Option D) (o8 : Option D) (w' : W), Nm t → t ∉ fs.map (·.1) → Good (n + 16) w' → N_ [some (.cell k), some (.lst (rs.map rowD)), some (.int m), some (.cell (S.length + T.length)), some (.int (0 + (j : Int))), some (.int d), some (.bl (decide (e = 0))), o7, o8, some (.str t), none] (st S k w' (T ++ [.lst (fs.map fitD)])) := fun t o7 o8 w' ht hnot g' => by
      subst hN_
      try simp -implicitDefEqProofs only [eVar, eC, eOp, eUn, aNil, aCons, eSeq, eCall, eFn, bBl, onB_bl, bTru, eNotT, bAnd, bOr, bNot, eAnd, eOr, eIf, bChain, iteB_t, iteB_f, sNil, sSeq, sRet, sDrop, sAsg, sIf, sBreak, sCont, sAsgG, sPar2, sPar3, sSetIx, sPairSet, sAppend, onL, onI_i, onT_s, onTu_t, onCe_c, on1_, on2_, on3_, onLst_l, onOb_o, onSeq_l, onSeq_r, onSeq_c, lkD_s, lkD_n, lkO_s, lkO_n, finO, sFldD, setFD, eProp, isOb_obj, eMake, eMakeK, eMakeL, eLc, eNew, eSl, oNone, oSome, eOpM, eCallM, eCm, eCmK, eOpT, jNil, jCons, eJoin, aStar, sCalm, sFor, iRange1, iSeq, iTupD, iStrD, iEnumT, tName, tTup_t, tsCons_c, tsNil_n, any_t, onS_some, look0, look1, look2, look3, look4, look5, look6, look7, look8, look9, look10, look11, look12, look13, look14, look15, bYes, wipeE, List.set_cons_zero, List.set_cons_succ, List.length_cons, List.length_nil, List.append_nil, List.nil_append, List.cons_append, List.append_assoc, Nat.zero_add, Nat.reduceAdd, Nat.reduceSub, Nat.reduceEqDiff, Nat.reduceLT, Nat.reduceLeDiff, Int.reduceNeg, true_and, and_true, and_self, if_true, if_false, Bool.not_true, Bool.not_false, Bool.false_eq_true, reduceIte, reduceCtorEq, decide_true, decide_false, ltD_int, leD_int, gtD_int, geD_int, subD_int, addD_int, intOf_int, absD_int, eqD_int, eqD_str, neD_str, neD_int, isN_non, truD_bl, eqD_bl, neD_bl, Option.map_some, Option.bind_some, small_0, small_1, small_2, small_3, small_4, small_5, small_6, small_7, small_8, st_app, st_len, fin_st, fin_stT, fin_self, ite_self, st_at0, hix, rix0, st_set0, D.clean, D.cleanL, Bool.and_self, hsm]
      have ih' := ih (fs ++ [(t, row.1, decide (e = 0))]) (some (.int (0 + (j : Int)))) (some (.int d)) (some (.bl (decide (e = 0)))) o7 o8 (some (.str t)) (n + 16) w' kt g'
        (hr.snoc ht (List.mem_map.mpr ⟨row, hrow, rfl⟩) hnot) (by simp; omega) (by omega) fun fs' o4 o5 o6 o7 o8 o9 w' e hp' g' => hq fs' o4 o5 o6 o7 o8 o9 w' (by rw [e]; simp; omega) hp' (g'.mono (by simp; omega))
      rw [List.map_append] at ih'
      exact ih'
    have fresh : ∀ (o7 : Option D) (x : Xq), G_fresh_k09 A [.cell k, .lst ((fs.map (·.1)).map D.str)] (st S k w3 (T ++ [.lst (fs.map fitD)])) (fun t S' => N_ [some (.cell k), some (.lst (rs.map rowD)), some (.int m), some (.cell (S.length + T.length)), some (.int (0 + (j : Int))), some (.int d), some (.bl (decide (e = 0))), o7, some (.lst ((fs.map (·.1)).map D.str)), some t, none] S') x := fun o7 x => by
      refine fresh_ok hk g3 (by omega) (fun w => .lst) (fun t ht => ?_) (by rw [List.length_map]; omega) fun s w3 hs hnot g3 => ?_
      · obtain ⟨r, hr', rfl⟩ := List.mem_map.mp ht
        exact hr.n r hr'
      · exact done s _ _ w3 hs hnot (g3.mono (by omega))
    try simp -implicitDefEqProofs only [eVar, eC, eOp, eUn, aNil, aCons, eSeq, eCall, eFn, bBl, onB_bl, bTru, eNotT, bAnd, bOr, bNot, eAnd, eOr, eIf, bChain, iteB_t, iteB_f, sNil, sSeq, sRet, sDrop, sAsg, sIf, sBreak, sCont, sAsgG, sPar2, sPar3, sSetIx, sPairSet, sAppend, onL, onI_i, onT_s, onTu_t, onCe_c, on1_, on2_, on3_, onLst_l, onOb_o, onSeq_l, onSeq_r, onSeq_c, lkD_s, lkD_n, lkO_s, lkO_n, finO, sFldD, setFD, eProp, isOb_obj, eMake, eMakeK, eMakeL, eLc, eNew, eSl, oNone, oSome, eOpM, eCallM, eCm, eCmK, eOpT, jNil, jCons, eJoin, aStar, sCalm, sFor, iRange1, iSeq, iTupD, iStrD, iEnumT, tName, tTup_t, tsCons_c, tsNil_n, any_t, onS_some, look0, look1, look2, look3, look4, look5, look6, look7, look8, look9, look10, look11, look12, look13, look14, look15, bYes, wipeE, List.set_cons_zero, List.set_cons_succ, List.length_cons, List.length_nil, List.append_nil, List.nil_append, List.cons_append, List.append_assoc, Nat.zero_add, Nat.reduceAdd, Nat.reduceSub, Nat.reduceEqDiff, Nat.reduceLT, Nat.reduceLeDiff, Int.reduceNeg, true_and, and_true, and_self, if_true, if_false, Bool.not_true, Bool.not_false, Bool.false_eq_true, reduceIte, reduceCtorEq, decide_true, decide_false, ltD_int, leD_int, gtD_int, geD_int, subD_int, addD_int, intOf_int, absD_int, eqD_int, eqD_str, neD_str, neD_int, isN_non, truD_bl, eqD_bl, neD_bl, Option.map_some, Option.bind_some, small_0, small_1, small_2, small_3, small_4, small_5, small_6, small_7, small_8, st_app, st_len, fin_st, fin_stT, fin_self, ite_self]
    refine iteB_dec (fun hc => ?_) (fun hc => ?_)
    · try simp -implicitDefEqProofs only [eVar, eC, eOp, eUn, aNil, aCons, eSeq, eCall, eFn, bBl, onB_bl, bTru, eNotT, bAnd, bOr, bNot, eAnd, eOr, eIf, bChain, iteB_t, iteB_f, sNil, sSeq, sRet, sDrop, sAsg, sIf, sBreak, sCont, sAsgG, sPar2, sPar3, sSetIx, sPairSet, sAppend, onL, onI_i, onT_s, onTu_t, onCe_c, on1_, on2_, on3_, onLst_l, onOb_o, onSeq_l, onSeq_r, onSeq_c, lkD_s, lkD_n, lkO_s, lkO_n, finO, sFldD, setFD, eProp, isOb_obj, eMake, eMakeK, eMakeL, eLc, eNew, eSl, oNone, oSome, eOpM, eCallM, eCm, eCmK, eOpT, jNil, jCons, eJoin, aStar, sCalm, sFor, iRange1, iSeq, iTupD, iStrD, iEnumT, tName, tTup_t, tsCons_c, tsNil_n, any_t, onS_some, look0, look1, look2, look3, look4, look5, look6, look7, look8, look9, look10, look11, look12, look13, look14, look15, bYes, wipeE, List.set_cons_zero, List.set_cons_succ, List.length_cons, List.length_nil, List.append_nil, List.nil_append, List.cons_append, List.append_assoc, Nat.zero_add, Nat.reduceAdd, Nat.reduceSub, Nat.reduceEqDiff, Nat.reduceLT, Nat.reduceLeDiff, Int.reduceNeg, true_and, and_true, and_self, if_true, if_false, Bool.not_true, Bool.not_false, Bool.false_eq_true, reduceIte, reduceCtorEq, decide_true, decide_false, ltD_int, leD_int, gtD_int, geD_int, subD_int, addD_int, intOf_int, absD_int, eqD_int, eqD_str, neD_str, neD_int, isN_non, truD_bl, eqD_bl, neD_bl, Option.map_some, Option.bind_some, small_0, small_1, small_2, small_3, small_4, small_5, small_6, small_7, small_8, st_app, st_len, fin_st, fin_stT, fin_self, ite_self, hix, rix0, hno]
      refine iteB_dec (fun hc => ?_) (fun hc => ?_)
      · exact done _ _ _ w3 (hL.rows row hrow).n hc (g3.mono (by omega))
      · exact fresh _ _
    · exact fresh _ _
theorem fits_ok (hk : k < S.length) (hL : LaidOk rs) (g : Good n w) (hn : n < 1000000000000000) (hm : 0 ≤ m) (h12 : m ≤ 12) (h : ∀ fs w', FitsOk rs fs → Good (n + 300) w' → (fs.length : Int) ≤ m → q (.lst (fs.map fitD)) (st S k w' T)) :
    G_fits_k12 A [.cell k, .lst (rs.map rowD), .int m] (st S k w T) q x := by
  rw [D_fits_k12]
  unfold fnD startE
  simp only [List.map_cons, List.map_nil, List.length_cons, List.length_nil, Nat.reduceAdd, Nat.reduceSub, List.replicate, List.cons_append, List.nil_append, List.append_nil, Nat.zero_add]
  unfold B_fits_k12
  refine seq_gen fun N_ hN_ => ?_
  try simp -implicitDefEqProofs only [eVar, eC, eOp, eUn, aNil, aCons, eSeq, eCall, eFn, bBl, onB_bl, bTru, eNotT, bAnd, bOr, bNot, eAnd, eOr, eIf, bChain, iteB_t, iteB_f, sNil, sSeq, sRet, sDrop, sAsg, sIf, sBreak, sCont, sAsgG, sPar2, sPar3, sSetIx, sPairSet, sAppend, onL, onI_i, onT_s, onTu_t, onCe_c, on1_, on2_, on3_, onLst_l, onOb_o, onSeq_l, onSeq_r, onSeq_c, lkD_s, lkD_n, lkO_s, lkO_n, finO, sFldD, setFD, eProp, isOb_obj, eMake, eMakeK, eMakeL, eLc, eNew, eSl, oNone, oSome, eOpM, eCallM, eCm, eCmK, eOpT, jNil, jCons, eJoin, aStar, sCalm, sFor, iRange1, iSeq, iTupD, iStrD, iEnumT, tName, tTup_t, tsCons_c, tsNil_n, any_t, onS_some, look0, look1, look2, look3, look4, look5, look6, look7, look8, look9, look10, look11, look12, look13, look14, look15, bYes, wipeE, List.set_cons_zero, List.set_cons_succ, List.length_cons, List.length_nil, List.append_nil, List.nil_append, List.cons_append, List.append_assoc, Nat.zero_add, Nat.reduceAdd, Nat.reduceSub, Nat.reduceEqDiff, Nat.reduceLT, Nat.reduceLeDiff, Int.reduceNeg, true_and, and_true, and_self, if_true, if_false, Bool.not_true, Bool.not_false, Bool.false_eq_true, reduceIte, reduceCtorEq, decide_true, decide_false, ltD_int, leD_int, gtD_int, geD_int, subD_int, addD_int, intOf_int, absD_int, eqD_int, eqD_str, neD_str, neD_int, isN_non, truD_bl, eqD_bl, neD_bl, Option.map_some, Option.bind_some, small_0, small_1, small_2, small_3, small_4, small_5, small_6, small_7, small_8, st_app, st_len, fin_st, fin_stT, fin_self, ite_self, D.cleanL, List.length_append]
  subst hN_
  refine seq_gen fun N_ hN_ => ?_
  try simp -implicitDefEqProofs only [eVar, eC, eOp, eUn, aNil, aCons, eSeq, eCall, eFn, bBl, onB_bl, bTru, eNotT, bAnd, bOr, bNot, eAnd, eOr, eIf, bChain, iteB_t, iteB_f, sNil, sSeq, sRet, sDrop, sAsg, sIf, sBreak, sCont, sAsgG, sPar2, sPar3, sSetIx, sPairSet, sAppend, onL, onI_i, onT_s, onTu_t, onCe_c, on1_, on2_, on3_, onLst_l, onOb_o, onSeq_l, onSeq_r, onSeq_c, lkD_s, lkD_n, lkO_s, lkO_n, finO, sFldD, setFD, eProp, isOb_obj, eMake, eMakeK, eMakeL, eLc, eNew, eSl, oNone, oSome, eOpM, eCallM, eCm, eCmK, eOpT, jNil, jCons, eJoin, aStar, sCalm, sFor, iRange1, iSeq, iTupD, iStrD, iEnumT, tName, tTup_t, tsCons_c, tsNil_n, any_t, onS_some, look0, look1, look2, look3, look4, look5, look6, look7, look8, look9, look10, look11, look12, look13, look14, look15, bYes, wipeE, List.set_cons_zero, List.set_cons_succ, List.length_cons, List.length_nil, List.append_nil, List.nil_append, List.cons_append, List.append_assoc, Nat.zero_add, Nat.reduceAdd, Nat.reduceSub, Nat.reduceEqDiff, Nat.reduceLT, Nat.reduceLeDiff, Int.reduceNeg, true_and, and_true, and_self, if_true, if_false, Bool.not_true, Bool.not_false, Bool.false_eq_true, reduceIte, reduceCtorEq, decide_true, decide_false, ltD_int, leD_int, gtD_int, geD_int, subD_int, addD_int, intOf_int, absD_int, eqD_int, eqD_str, neD_str, neD_int, isN_non, truD_bl, eqD_bl, neD_bl, Option.map_some, Option.bind_some, small_0, small_1, small_2, small_3, small_4, small_5, small_6, small_7, small_8, st_app, st_len, fin_st, fin_stT, fin_self, ite_self]
  refine dip_ok hk g (by omega) (by omega) (by omega) fun d w1 d0 d1 g1 => ?_
  try simp -implicitDefEqProofs only [eVar, eC, eOp, eUn, aNil, aCons, eSeq, eCall, eFn, bBl, onB_bl, bTru, eNotT, bAnd, bOr, bNot, eAnd, eOr, eIf, bChain, iteB_t, iteB_f, sNil, sSeq, sRet, sDrop, sAsg, sIf, sBreak, sCont, sAsgG, sPar2, sPar3, sSetIx, sPairSet, sAppend, onL, onI_i, onT_s, onTu_t, onCe_c, on1_, on2_, on3_, onLst_l, onOb_o, onSeq_l, onSeq_r, onSeq_c, lkD_s, lkD_n, lkO_s, lkO_n, finO, sFldD, setFD, eProp, isOb_obj, eMake, eMakeK, eMakeL, eLc, eNew, eSl, oNone, oSome, eOpM, eCallM, eCm, eCmK, eOpT, jNil, jCons, eJoin, aStar, sCalm, sFor, iRange1, iSeq, iTupD, iStrD, iEnumT, tName, tTup_t, tsCons_c, tsNil_n, any_t, onS_some, look0, look1, look2, look3, look4, look5, look6, look7, look8, look9, look10, look11, look12, look13, look14, look15, bYes, wipeE, List.set_cons_zero, List.set_cons_succ, List.length_cons, List.length_nil, List.append_nil, List.nil_append, List.cons_append, List.append_assoc, Nat.zero_add, Nat.reduceAdd, Nat.reduceSub, Nat.reduceEqDiff, Nat.reduceLT, Nat.reduceLeDiff, Int.reduceNeg, true_and, and_true, and_self, if_true, if_false, Bool.not_true, Bool.not_false, Bool.false_eq_true, reduceIte, reduceCtorEq, decide_true, decide_false, ltD_int, leD_int, gtD_int, geD_int, subD_int, addD_int, intOf_int, absD_int, eqD_int, eqD_str, neD_str, neD_int, isN_non, truD_bl, eqD_bl, neD_bl, Option.map_some, Option.bind_some, small_0, small_1, small_2, small_3, small_4, small_5, small_6, small_7, small_8, st_app, st_len, fin_st, fin_stT, fin_self, ite_self]
  refine ⟨⟨by omega, by omega⟩, ?_⟩
  refine fits1 hk hL _ [] _ _ _ _ _ _ (n + 1) _ _ g1 ⟨by simp, by simp, by simp⟩ (by simp; omega) (by simp; omega) fun fs o4 o5 o6 o7 o8 o9 w2 e hp g2 => ?_
  rw [List.length_range] at e g2
  simp only [List.length_nil, Nat.zero_add] at e
  dsimp only
  subst hN_
  try simp -implicitDefEqProofs only [eVar, eC, eOp, eUn, aNil, aCons, eSeq, eCall, eFn, bBl, onB_bl, bTru, eNotT, bAnd, bOr, bNot, eAnd, eOr, eIf, bChain, iteB_t, iteB_f, sNil, sSeq, sRet, sDrop, sAsg, sIf, sBreak, sCont, sAsgG, sPar2, sPar3, sSetIx, sPairSet, sAppend, onL, onI_i, onT_s, onTu_t, onCe_c, on1_, on2_, on3_, onLst_l, onOb_o, onSeq_l, onSeq_r, onSeq_c, lkD_s, lkD_n, lkO_s, lkO_n, finO, sFldD, setFD, eProp, isOb_obj, eMake, eMakeK, eMakeL, eLc, eNew, eSl, oNone, oSome, eOpM, eCallM, eCm, eCmK, eOpT, jNil, jCons, eJoin, aStar, sCalm, sFor, iRange1, iSeq, iTupD, iStrD, iEnumT, tName, tTup_t, tsCons_c, tsNil_n, any_t, onS_some, look0, look1, look2, look3, look4, look5, look6, look7, look8, look9, look10, look11, look12, look13, look14, look15, bYes, wipeE, List.set_cons_zero, List.set_cons_succ, List.length_cons, List.length_nil, List.append_nil, List.nil_append, List.cons_append, List.append_assoc, Nat.zero_add, Nat.reduceAdd, Nat.reduceSub, Nat.reduceEqDiff, Nat.reduceLT, Nat.reduceLeDiff, Int.reduceNeg, true_and, and_true, and_self, if_true, if_false, Bool.not_true, Bool.not_false, Bool.false_eq_true, reduceIte, reduceCtorEq, decide_true, decide_false, ltD_int, leD_int, gtD_int, geD_int, subD_int, addD_int, intOf_int, absD_int, eqD_int, eqD_str, neD_str, neD_int, isN_non, truD_bl, eqD_bl, neD_bl, Option.map_some, Option.bind_some, small_0, small_1, small_2, small_3, small_4, small_5, small_6, small_7, small_8, st_app, st_len, fin_st, fin_stT, fin_self, ite_self, fin_stL]
  exact h fs w2 ⟨hp.n, hp.at_, hp.nd, by omega⟩ (g2.mono (by omega)) (by omega)
end
end RV
end
section
/-! The law of the texts of nets. -/
namespace RV
open PySem L2
section
variable {A : Ad} {S T : WS} {k : Nat} {n m lo hi : Int} {w : W} {q : D → WS → Prop} {x : Xq} {rs : List LR} {fs : List FR}
theorem mem_join {sep : Str} {c : Nat} : ∀ {xs : List Str}, c ∈ TL.tl (Txt.join sep xs) → c ∈ TL.tl sep ∨ ∃ y ∈ xs, c ∈ TL.tl y := by
  intro xs
  rw [TL.join_eq]
  induction xs with
  | nil => exact fun h => nomatch (show c ∈ ([] : List Nat) from h)
  | cons a xs ih =>
    cases xs with
    | nil => exact fun h => .inr ⟨a, by simp, h⟩
    | cons b xs =>
      intro h
      have h : c ∈ TL.tl (a ++ sep ++ Str.join sep (b :: xs)) := h
      rw [TL.tl_append, TL.tl_append, List.mem_append, List.mem_append] at h
      rcases h with (h | h) | h
      · exact .inr ⟨a, by simp, h⟩
      · exact .inl h
      · rcases ih h with z | ⟨y, hy, z⟩
        · exact .inl z
        · exact .inr ⟨y, List.mem_cons_of_mem _ hy, z⟩
def low (s : Str) : Prop := ∀ c ∈ TL.tl s, c < 128
theorem low_join {sep : Str} {xs : List Str} (h : low sep) (hx : ∀ y ∈ xs, low y) : low (Txt.join sep xs) := fun c hc => by
  rcases mem_join hc with z | ⟨y, hy, z⟩
  · exact h c z
  · exact hx y hy c z
theorem low_nm {s : Str} (h : Nm s) : low s := fun c hc => isAl_lt (nm_all h c hc)
theorem low_lits : low " " ∧ low "\n" ∧ low "pipe" ∧ low "meter" ∧ low "sealed" := by
  unfold low
  decide +kernel
theorem low_p {r : LR} (h : RowOk r) : low (lineP r) := by
  obtain ⟨l1, l2, l3, l4, l5⟩ := low_lits
  refine low_join l1 fun y hy => ?_
  simp only [List.mem_cons, List.not_mem_nil, or_false] at hy
  rcases hy with z | z | z | z <;> subst z
  · exact l3
  · exact low_nm h.n
  · exact low_nm h.s
  · exact low_nm h.e
theorem low_m {f : FR} (h1 : Nm f.1) (h2 : Nm f.2.1) : low (lineM f) := by
  obtain ⟨l1, l2, l3, l4, l5⟩ := low_lits
  refine low_join l1 fun y hy => ?_
  rcases List.mem_append.mp hy with hy | hy
  · simp only [List.mem_cons, List.not_mem_nil, or_false] at hy
    rcases hy with z | z | z <;> subst z
    · exact l4
    · exact low_nm h1
    · exact low_nm h2
  · split at hy
    · rw [List.mem_singleton.mp hy]
      exact l5
    · cases hy
theorem low_net (hL : LaidOk rs) (hF : FitsOk rs fs) : low (netText rs fs) := by
  refine low_join low_lits.2.1 fun y hy => ?_
  rcases List.mem_append.mp hy with h | h
  · obtain ⟨r, hr, rfl⟩ := List.mem_map.mp h
    exact low_p (hL.rows r hr)
  · obtain ⟨f, hf, rfl⟩ := List.mem_map.mp h
    exact low_m (hF.n f hf) (hF.nmAt hL hf)
theorem low_ok {s : Str} (h : low s) : PyData.strOk s = true := by
  unfold PyData.strOk
  rw [← Array.all_toList, List.all_eq_true]
  intro c hc
  exact decide_eq_true (Nat.lt_trans (h c hc) (by decide))
theorem repr_net (hL : LaidOk rs) (hF : FitsOk rs fs) : reprD S [.str (netText rs fs)] = some (.str (PyData.shown (.str (netText rs fs)))) :=
  repr_ok (k := 0) (w := 1000) rfl (ShOk.str (low_ok (low_net hL hF)) (netText_len hL hF)) (by decide) (by decide)
theorem neD_self {s : Str} : neD S (.str s) (.str s) = some (.bl false) := by rw [neD_str, decide_eq_true rfl]; rfl
theorem FitsOk.nil : FitsOk rs [] := ⟨by simp, by simp, by simp, by simp⟩
theorem text_nil (hL : LaidOk rs) (hF : FitsOk rs fs) : decide (netText rs [] = netText rs fs) = fs.isEmpty := by
  cases fs with
  | nil => simp
  | cons f fs =>
    refine decide_eq_false fun h => ?_
    have e := split_text hL hF
    rw [← h, split_text hL FitsOk.nil] at e
    have := congrArg List.length e
    simp [zs] at this
theorem shaped_fits (hL : LaidOk rs) (hF : FitsOk rs fs) : SeqAt.shaped (.list (fs.map fitPy)) = true := by
  have h1 : ∀ gs : List FR, (∀ f ∈ gs, Nm f.1 ∧ Nm f.2.1) → PyData.canLayAll0 (gs.map fitPy) = true ∧ PyData.depthAll (gs.map fitPy) ≤ 1 := by
    intro gs
    induction gs with
    | nil => exact fun _ => ⟨rfl, Nat.zero_le _⟩
    | cons f gs ih =>
      intro h
      have a := ih fun f hf => h f (List.mem_cons_of_mem _ hf)
      obtain ⟨b1, b2⟩ := h f (List.mem_cons_self ..)
      simp only [List.map_cons, PyData.canLayAll0, PyData.depthAll, fitPy, PyData.canLay0, PyData.depth, nm_strOk b1, nm_strOk b2, a.1, Bool.and_self]
      have := a.2
      exact ⟨trivial, by omega⟩
  have h2 := h1 fs fun f hf => ⟨hF.n f hf, hF.nmAt hL hf⟩
  have h3 : decide (PyData.depthAll (fs.map fitPy) + 1 ≤ 64) = true := decide_eq_true (by have := h2.2; omega)
  simp [SeqAt.shaped, PyData.canLay0, h2.1, PyData.depth]
  omega
theorem fits_eq (hL : LaidOk rs) (hF : FitsOk rs fs) : eqD S (.lst (fs.map fitD)) (.lst []) = some (.bl fs.isEmpty) := by
  have h2 : SeqAt.shaped (.list []) = true := rfl
  unfold eqD eqAny eqPyS
  simp only [eqScal, pyS, D.py, pyL_map (fun r => py_fit), D.pyL, Option.map_some, Option.bind_some, shaped_fits hL hF, h2, and_self, if_true, Option.orElse]
  cases fs <;> rfl
theorem right_ok (hA : NetsA A) (hk : k < S.length) (g : Good n w) (hn : n < 100000000000000) (h : ∀ w', Good (n + 1000) w' → q (.bl true) (st S k w' T)) : G_right_k12 A [.cell k] (st S k w T) q x := by
  rw [D_right_k12]
  unfold fnD startE
  simp only [List.map_cons, List.map_nil, List.length_cons, List.length_nil, Nat.reduceAdd, Nat.reduceSub, List.replicate, List.cons_append, List.nil_append, List.append_nil, Nat.zero_add]
  unfold B_right_k12
  refine seq_gen fun N_ hN_ => ?_
  try simp -implicitDefEqProofs only [eVar, eC, eOp, eUn, aNil, aCons, eSeq, eCall, eFn, bBl, onB_bl, bTru, eNotT, bAnd, bOr, bNot, eAnd, eOr, eIf, bChain, iteB_t, iteB_f, sNil, sSeq, sRet, sDrop, sAsg, sIf, sBreak, sCont, sAsgG, sPar2, sPar3, sSetIx, sPairSet, sAppend, onL, onI_i, onT_s, onTu_t, onCe_c, on1_, on2_, on3_, onLst_l, onOb_o, onSeq_l, onSeq_r, onSeq_c, lkD_s, lkD_n, lkO_s, lkO_n, finO, sFldD, setFD, eProp, isOb_obj, eMake, eMakeK, eMakeL, eLc, eNew, eSl, oNone, oSome, eOpM, eCallM, eCm, eCmK, eOpT, jNil, jCons, eJoin, aStar, sCalm, sFor, iRange1, iSeq, iTupD, iStrD, iEnumT, tName, tTup_t, tsCons_c, tsNil_n, any_t, onS_some, look0, look1, look2, look3, look4, look5, look6, look7, look8, look9, look10, look11, look12, look13, look14, look15, bYes, wipeE, List.set_cons_zero, List.set_cons_succ, List.length_cons, List.length_nil, List.append_nil, List.nil_append, List.cons_append, List.append_assoc, Nat.zero_add, Nat.reduceAdd, Nat.reduceSub, Nat.reduceEqDiff, Nat.reduceLT, Nat.reduceLeDiff, Int.reduceNeg, true_and, and_true, and_self, if_true, if_false, Bool.not_true, Bool.not_false, Bool.false_eq_true, reduceIte, reduceCtorEq, decide_true, decide_false, ltD_int, leD_int, gtD_int, geD_int, subD_int, addD_int, intOf_int, absD_int, eqD_int, eqD_str, neD_str, neD_int, isN_non, truD_bl, eqD_bl, neD_bl, Option.map_some, Option.bind_some, small_0, small_1, small_2, small_3, small_4, small_5, small_6, small_7, small_8, st_app, st_len, fin_st, fin_stT, fin_self, ite_self]
  refine laid_ok hk g (by omega) (by omega) (by omega) (by omega) fun rs w1 hL g1 hl1 => ?_
  subst hN_
  refine seq_gen fun N_ hN_ => ?_
  try simp -implicitDefEqProofs only [eVar, eC, eOp, eUn, aNil, aCons, eSeq, eCall, eFn, bBl, onB_bl, bTru, eNotT, bAnd, bOr, bNot, eAnd, eOr, eIf, bChain, iteB_t, iteB_f, sNil, sSeq, sRet, sDrop, sAsg, sIf, sBreak, sCont, sAsgG, sPar2, sPar3, sSetIx, sPairSet, sAppend, onL, onI_i, onT_s, onTu_t, onCe_c, on1_, on2_, on3_, onLst_l, onOb_o, onSeq_l, onSeq_r, onSeq_c, lkD_s, lkD_n, lkO_s, lkO_n, finO, sFldD, setFD, eProp, isOb_obj, eMake, eMakeK, eMakeL, eLc, eNew, eSl, oNone, oSome, eOpM, eCallM, eCm, eCmK, eOpT, jNil, jCons, eJoin, aStar, sCalm, sFor, iRange1, iSeq, iTupD, iStrD, iEnumT, tName, tTup_t, tsCons_c, tsNil_n, any_t, onS_some, look0, look1, look2, look3, look4, look5, look6, look7, look8, look9, look10, look11, look12, look13, look14, look15, bYes, wipeE, List.set_cons_zero, List.set_cons_succ, List.length_cons, List.length_nil, List.append_nil, List.nil_append, List.cons_append, List.append_assoc, Nat.zero_add, Nat.reduceAdd, Nat.reduceSub, Nat.reduceEqDiff, Nat.reduceLT, Nat.reduceLeDiff, Int.reduceNeg, true_and, and_true, and_self, if_true, if_false, Bool.not_true, Bool.not_false, Bool.false_eq_true, reduceIte, reduceCtorEq, decide_true, decide_false, ltD_int, leD_int, gtD_int, geD_int, subD_int, addD_int, intOf_int, absD_int, eqD_int, eqD_str, neD_str, neD_int, isN_non, truD_bl, eqD_bl, neD_bl, Option.map_some, Option.bind_some, small_0, small_1, small_2, small_3, small_4, small_5, small_6, small_7, small_8, st_app, st_len, fin_st, fin_stT, fin_self, ite_self]
  refine fits_ok hk hL g1 (by omega) (by omega) (by omega) fun fs w2 hF g2 hl2 => ?_
  subst hN_
  refine seq_gen fun N_ hN_ => ?_
  try simp -implicitDefEqProofs only [eVar, eC, eOp, eUn, aNil, aCons, eSeq, eCall, eFn, bBl, onB_bl, bTru, eNotT, bAnd, bOr, bNot, eAnd, eOr, eIf, bChain, iteB_t, iteB_f, sNil, sSeq, sRet, sDrop, sAsg, sIf, sBreak, sCont, sAsgG, sPar2, sPar3, sSetIx, sPairSet, sAppend, onL, onI_i, onT_s, onTu_t, onCe_c, on1_, on2_, on3_, onLst_l, onOb_o, onSeq_l, onSeq_r, onSeq_c, lkD_s, lkD_n, lkO_s, lkO_n, finO, sFldD, setFD, eProp, isOb_obj, eMake, eMakeK, eMakeL, eLc, eNew, eSl, oNone, oSome, eOpM, eCallM, eCm, eCmK, eOpT, jNil, jCons, eJoin, aStar, sCalm, sFor, iRange1, iSeq, iTupD, iStrD, iEnumT, tName, tTup_t, tsCons_c, tsNil_n, any_t, onS_some, look0, look1, look2, look3, look4, look5, look6, look7, look8, look9, look10, look11, look12, look13, look14, look15, bYes, wipeE, List.set_cons_zero, List.set_cons_succ, List.length_cons, List.length_nil, List.append_nil, List.nil_append, List.cons_append, List.append_assoc, Nat.zero_add, Nat.reduceAdd, Nat.reduceSub, Nat.reduceEqDiff, Nat.reduceLT, Nat.reduceLeDiff, Int.reduceNeg, true_and, and_true, and_self, if_true, if_false, Bool.not_true, Bool.not_false, Bool.false_eq_true, reduceIte, reduceCtorEq, decide_true, decide_false, ltD_int, leD_int, gtD_int, geD_int, subD_int, addD_int, intOf_int, absD_int, eqD_int, eqD_str, neD_str, neD_int, isN_non, truD_bl, eqD_bl, neD_bl, Option.map_some, Option.bind_some, small_0, small_1, small_2, small_3, small_4, small_5, small_6, small_7, small_8, st_app, st_len, fin_st, fin_stT, fin_self, ite_self, text_ok hL hF]
  refine net_made hA hL hF ?_
  subst hN_
  refine seq_gen fun N_ hN_ => ?_
  try simp -implicitDefEqProofs only [eVar, eC, eOp, eUn, aNil, aCons, eSeq, eCall, eFn, bBl, onB_bl, bTru, eNotT, bAnd, bOr, bNot, eAnd, eOr, eIf, bChain, iteB_t, iteB_f, sNil, sSeq, sRet, sDrop, sAsg, sIf, sBreak, sCont, sAsgG, sPar2, sPar3, sSetIx, sPairSet, sAppend, onL, onI_i, onT_s, onTu_t, onCe_c, on1_, on2_, on3_, onLst_l, onOb_o, onSeq_l, onSeq_r, onSeq_c, lkD_s, lkD_n, lkO_s, lkO_n, finO, sFldD, setFD, eProp, isOb_obj, eMake, eMakeK, eMakeL, eLc, eNew, eSl, oNone, oSome, eOpM, eCallM, eCm, eCmK, eOpT, jNil, jCons, eJoin, aStar, sCalm, sFor, iRange1, iSeq, iTupD, iStrD, iEnumT, tName, tTup_t, tsCons_c, tsNil_n, any_t, onS_some, look0, look1, look2, look3, look4, look5, look6, look7, look8, look9, look10, look11, look12, look13, look14, look15, bYes, wipeE, List.set_cons_zero, List.set_cons_succ, List.length_cons, List.length_nil, List.append_nil, List.nil_append, List.cons_append, List.append_assoc, Nat.zero_add, Nat.reduceAdd, Nat.reduceSub, Nat.reduceEqDiff, Nat.reduceLT, Nat.reduceLeDiff, Int.reduceNeg, true_and, and_true, and_self, if_true, if_false, Bool.not_true, Bool.not_false, Bool.false_eq_true, reduceIte, reduceCtorEq, decide_true, decide_false, ltD_int, leD_int, gtD_int, geD_int, subD_int, addD_int, intOf_int, absD_int, eqD_int, eqD_str, neD_str, neD_int, isN_non, truD_bl, eqD_bl, neD_bl, Option.map_some, Option.bind_some, small_0, small_1, small_2, small_3, small_4, small_5, small_6, small_7, small_8, st_app, st_len, fin_st, fin_stT, fin_self, ite_self, str_own hA hL hF, repr_net hL hF, neD_self]
  subst hN_
  refine seq_gen fun N_ hN_ => ?_
  try simp -implicitDefEqProofs only [eVar, eC, eOp, eUn, aNil, aCons, eSeq, eCall, eFn, bBl, onB_bl, bTru, eNotT, bAnd, bOr, bNot, eAnd, eOr, eIf, bChain, iteB_t, iteB_f, sNil, sSeq, sRet, sDrop, sAsg, sIf, sBreak, sCont, sAsgG, sPar2, sPar3, sSetIx, sPairSet, sAppend, onL, onI_i, onT_s, onTu_t, onCe_c, on1_, on2_, on3_, onLst_l, onOb_o, onSeq_l, onSeq_r, onSeq_c, lkD_s, lkD_n, lkO_s, lkO_n, finO, sFldD, setFD, eProp, isOb_obj, eMake, eMakeK, eMakeL, eLc, eNew, eSl, oNone, oSome, eOpM, eCallM, eCm, eCmK, eOpT, jNil, jCons, eJoin, aStar, sCalm, sFor, iRange1, iSeq, iTupD, iStrD, iEnumT, tName, tTup_t, tsCons_c, tsNil_n, any_t, onS_some, look0, look1, look2, look3, look4, look5, look6, look7, look8, look9, look10, look11, look12, look13, look14, look15, bYes, wipeE, List.set_cons_zero, List.set_cons_succ, List.length_cons, List.length_nil, List.append_nil, List.nil_append, List.cons_append, List.append_assoc, Nat.zero_add, Nat.reduceAdd, Nat.reduceSub, Nat.reduceEqDiff, Nat.reduceLT, Nat.reduceLeDiff, Int.reduceNeg, true_and, and_true, and_self, if_true, if_false, Bool.not_true, Bool.not_false, Bool.false_eq_true, reduceIte, reduceCtorEq, decide_true, decide_false, ltD_int, leD_int, gtD_int, geD_int, subD_int, addD_int, intOf_int, absD_int, eqD_int, eqD_str, neD_str, neD_int, isN_non, truD_bl, eqD_bl, neD_bl, Option.map_some, Option.bind_some, small_0, small_1, small_2, small_3, small_4, small_5, small_6, small_7, small_8, st_app, st_len, fin_st, fin_stT, fin_self, ite_self]
  refine read_ok hA hL hF ?_
  try simp -implicitDefEqProofs only [eVar, eC, eOp, eUn, aNil, aCons, eSeq, eCall, eFn, bBl, onB_bl, bTru, eNotT, bAnd, bOr, bNot, eAnd, eOr, eIf, bChain, iteB_t, iteB_f, sNil, sSeq, sRet, sDrop, sAsg, sIf, sBreak, sCont, sAsgG, sPar2, sPar3, sSetIx, sPairSet, sAppend, onL, onI_i, onT_s, onTu_t, onCe_c, on1_, on2_, on3_, onLst_l, onOb_o, onSeq_l, onSeq_r, onSeq_c, lkD_s, lkD_n, lkO_s, lkO_n, finO, sFldD, setFD, eProp, isOb_obj, eMake, eMakeK, eMakeL, eLc, eNew, eSl, oNone, oSome, eOpM, eCallM, eCm, eCmK, eOpT, jNil, jCons, eJoin, aStar, sCalm, sFor, iRange1, iSeq, iTupD, iStrD, iEnumT, tName, tTup_t, tsCons_c, tsNil_n, any_t, onS_some, look0, look1, look2, look3, look4, look5, look6, look7, look8, look9, look10, look11, look12, look13, look14, look15, bYes, wipeE, List.set_cons_zero, List.set_cons_succ, List.length_cons, List.length_nil, List.append_nil, List.nil_append, List.cons_append, List.append_assoc, Nat.zero_add, Nat.reduceAdd, Nat.reduceSub, Nat.reduceEqDiff, Nat.reduceLT, Nat.reduceLeDiff, Int.reduceNeg, true_and, and_true, and_self, if_true, if_false, Bool.not_true, Bool.not_false, Bool.false_eq_true, reduceIte, reduceCtorEq, decide_true, decide_false, ltD_int, leD_int, gtD_int, geD_int, subD_int, addD_int, intOf_int, absD_int, eqD_int, eqD_str, neD_str, neD_int, isN_non, truD_bl, eqD_bl, neD_bl, Option.map_some, Option.bind_some, small_0, small_1, small_2, small_3, small_4, small_5, small_6, small_7, small_8, st_app, st_len, fin_st, fin_stT, fin_self, ite_self, perm0]
  refine read_ok hA hL hF ?_
  try simp -implicitDefEqProofs only [eVar, eC, eOp, eUn, aNil, aCons, eSeq, eCall, eFn, bBl, onB_bl, bTru, eNotT, bAnd, bOr, bNot, eAnd, eOr, eIf, bChain, iteB_t, iteB_f, sNil, sSeq, sRet, sDrop, sAsg, sIf, sBreak, sCont, sAsgG, sPar2, sPar3, sSetIx, sPairSet, sAppend, onL, onI_i, onT_s, onTu_t, onCe_c, on1_, on2_, on3_, onLst_l, onOb_o, onSeq_l, onSeq_r, onSeq_c, lkD_s, lkD_n, lkO_s, lkO_n, finO, sFldD, setFD, eProp, isOb_obj, eMake, eMakeK, eMakeL, eLc, eNew, eSl, oNone, oSome, eOpM, eCallM, eCm, eCmK, eOpT, jNil, jCons, eJoin, aStar, sCalm, sFor, iRange1, iSeq, iTupD, iStrD, iEnumT, tName, tTup_t, tsCons_c, tsNil_n, any_t, onS_some, look0, look1, look2, look3, look4, look5, look6, look7, look8, look9, look10, look11, look12, look13, look14, look15, bYes, wipeE, List.set_cons_zero, List.set_cons_succ, List.length_cons, List.length_nil, List.append_nil, List.nil_append, List.cons_append, List.append_assoc, Nat.zero_add, Nat.reduceAdd, Nat.reduceSub, Nat.reduceEqDiff, Nat.reduceLT, Nat.reduceLeDiff, Int.reduceNeg, true_and, and_true, and_self, if_true, if_false, Bool.not_true, Bool.not_false, Bool.false_eq_true, reduceIte, reduceCtorEq, decide_true, decide_false, ltD_int, leD_int, gtD_int, geD_int, subD_int, addD_int, intOf_int, absD_int, eqD_int, eqD_str, neD_str, neD_int, isN_non, truD_bl, eqD_bl, neD_bl, Option.map_some, Option.bind_some, small_0, small_1, small_2, small_3, small_4, small_5, small_6, small_7, small_8, st_app, st_len, fin_st, fin_stT, fin_self, ite_self, str_own hA hL hF]
  refine read_ok hA hL hF ?_
  try simp -implicitDefEqProofs only [eVar, eC, eOp, eUn, aNil, aCons, eSeq, eCall, eFn, bBl, onB_bl, bTru, eNotT, bAnd, bOr, bNot, eAnd, eOr, eIf, bChain, iteB_t, iteB_f, sNil, sSeq, sRet, sDrop, sAsg, sIf, sBreak, sCont, sAsgG, sPar2, sPar3, sSetIx, sPairSet, sAppend, onL, onI_i, onT_s, onTu_t, onCe_c, on1_, on2_, on3_, onLst_l, onOb_o, onSeq_l, onSeq_r, onSeq_c, lkD_s, lkD_n, lkO_s, lkO_n, finO, sFldD, setFD, eProp, isOb_obj, eMake, eMakeK, eMakeL, eLc, eNew, eSl, oNone, oSome, eOpM, eCallM, eCm, eCmK, eOpT, jNil, jCons, eJoin, aStar, sCalm, sFor, iRange1, iSeq, iTupD, iStrD, iEnumT, tName, tTup_t, tsCons_c, tsNil_n, any_t, onS_some, look0, look1, look2, look3, look4, look5, look6, look7, look8, look9, look10, look11, look12, look13, look14, look15, bYes, wipeE, List.set_cons_zero, List.set_cons_succ, List.length_cons, List.length_nil, List.append_nil, List.nil_append, List.cons_append, List.append_assoc, Nat.zero_add, Nat.reduceAdd, Nat.reduceSub, Nat.reduceEqDiff, Nat.reduceLT, Nat.reduceLeDiff, Int.reduceNeg, true_and, and_true, and_self, if_true, if_false, Bool.not_true, Bool.not_false, Bool.false_eq_true, reduceIte, reduceCtorEq, decide_true, decide_false, ltD_int, leD_int, gtD_int, geD_int, subD_int, addD_int, intOf_int, absD_int, eqD_int, eqD_str, neD_str, neD_int, isN_non, truD_bl, eqD_bl, neD_bl, Option.map_some, Option.bind_some, small_0, small_1, small_2, small_3, small_4, small_5, small_6, small_7, small_8, st_app, st_len, fin_st, fin_stT, fin_self, ite_self, for_cons, for_nil]
  refine is_ok hA hL hF ?_
  try simp -implicitDefEqProofs only [eVar, eC, eOp, eUn, aNil, aCons, eSeq, eCall, eFn, bBl, onB_bl, bTru, eNotT, bAnd, bOr, bNot, eAnd, eOr, eIf, bChain, iteB_t, iteB_f, sNil, sSeq, sRet, sDrop, sAsg, sIf, sBreak, sCont, sAsgG, sPar2, sPar3, sSetIx, sPairSet, sAppend, onL, onI_i, onT_s, onTu_t, onCe_c, on1_, on2_, on3_, onLst_l, onOb_o, onSeq_l, onSeq_r, onSeq_c, lkD_s, lkD_n, lkO_s, lkO_n, finO, sFldD, setFD, eProp, isOb_obj, eMake, eMakeK, eMakeL, eLc, eNew, eSl, oNone, oSome, eOpM, eCallM, eCm, eCmK, eOpT, jNil, jCons, eJoin, aStar, sCalm, sFor, iRange1, iSeq, iTupD, iStrD, iEnumT, tName, tTup_t, tsCons_c, tsNil_n, any_t, onS_some, look0, look1, look2, look3, look4, look5, look6, look7, look8, look9, look10, look11, look12, look13, look14, look15, bYes, wipeE, List.set_cons_zero, List.set_cons_succ, List.length_cons, List.length_nil, List.append_nil, List.nil_append, List.cons_append, List.append_assoc, Nat.zero_add, Nat.reduceAdd, Nat.reduceSub, Nat.reduceEqDiff, Nat.reduceLT, Nat.reduceLeDiff, Int.reduceNeg, true_and, and_true, and_self, if_true, if_false, Bool.not_true, Bool.not_false, Bool.false_eq_true, reduceIte, reduceCtorEq, decide_true, decide_false, ltD_int, leD_int, gtD_int, geD_int, subD_int, addD_int, intOf_int, absD_int, eqD_int, eqD_str, neD_str, neD_int, isN_non, truD_bl, eqD_bl, neD_bl, Option.map_some, Option.bind_some, small_0, small_1, small_2, small_3, small_4, small_5, small_6, small_7, small_8, st_app, st_len, fin_st, fin_stT, fin_self, ite_self, eq_own hA hL hF hF]
  refine is_ok hA hL hF ?_
  try simp -implicitDefEqProofs only [eVar, eC, eOp, eUn, aNil, aCons, eSeq, eCall, eFn, bBl, onB_bl, bTru, eNotT, bAnd, bOr, bNot, eAnd, eOr, eIf, bChain, iteB_t, iteB_f, sNil, sSeq, sRet, sDrop, sAsg, sIf, sBreak, sCont, sAsgG, sPar2, sPar3, sSetIx, sPairSet, sAppend, onL, onI_i, onT_s, onTu_t, onCe_c, on1_, on2_, on3_, onLst_l, onOb_o, onSeq_l, onSeq_r, onSeq_c, lkD_s, lkD_n, lkO_s, lkO_n, finO, sFldD, setFD, eProp, isOb_obj, eMake, eMakeK, eMakeL, eLc, eNew, eSl, oNone, oSome, eOpM, eCallM, eCm, eCmK, eOpT, jNil, jCons, eJoin, aStar, sCalm, sFor, iRange1, iSeq, iTupD, iStrD, iEnumT, tName, tTup_t, tsCons_c, tsNil_n, any_t, onS_some, look0, look1, look2, look3, look4, look5, look6, look7, look8, look9, look10, look11, look12, look13, look14, look15, bYes, wipeE, List.set_cons_zero, List.set_cons_succ, List.length_cons, List.length_nil, List.append_nil, List.nil_append, List.cons_append, List.append_assoc, Nat.zero_add, Nat.reduceAdd, Nat.reduceSub, Nat.reduceEqDiff, Nat.reduceLT, Nat.reduceLeDiff, Int.reduceNeg, true_and, and_true, and_self, if_true, if_false, Bool.not_true, Bool.not_false, Bool.false_eq_true, reduceIte, reduceCtorEq, decide_true, decide_false, ltD_int, leD_int, gtD_int, geD_int, subD_int, addD_int, intOf_int, absD_int, eqD_int, eqD_str, neD_str, neD_int, isN_non, truD_bl, eqD_bl, neD_bl, Option.map_some, Option.bind_some, small_0, small_1, small_2, small_3, small_4, small_5, small_6, small_7, small_8, st_app, st_len, fin_st, fin_stT, fin_self, ite_self, eq_own hA hL hF hF]
  refine is_ok hA hL hF ?_
  try simp -implicitDefEqProofs only [eVar, eC, eOp, eUn, aNil, aCons, eSeq, eCall, eFn, bBl, onB_bl, bTru, eNotT, bAnd, bOr, bNot, eAnd, eOr, eIf, bChain, iteB_t, iteB_f, sNil, sSeq, sRet, sDrop, sAsg, sIf, sBreak, sCont, sAsgG, sPar2, sPar3, sSetIx, sPairSet, sAppend, onL, onI_i, onT_s, onTu_t, onCe_c, on1_, on2_, on3_, onLst_l, onOb_o, onSeq_l, onSeq_r, onSeq_c, lkD_s, lkD_n, lkO_s, lkO_n, finO, sFldD, setFD, eProp, isOb_obj, eMake, eMakeK, eMakeL, eLc, eNew, eSl, oNone, oSome, eOpM, eCallM, eCm, eCmK, eOpT, jNil, jCons, eJoin, aStar, sCalm, sFor, iRange1, iSeq, iTupD, iStrD, iEnumT, tName, tTup_t, tsCons_c, tsNil_n, any_t, onS_some, look0, look1, look2, look3, look4, look5, look6, look7, look8, look9, look10, look11, look12, look13, look14, look15, bYes, wipeE, List.set_cons_zero, List.set_cons_succ, List.length_cons, List.length_nil, List.append_nil, List.nil_append, List.cons_append, List.append_assoc, Nat.zero_add, Nat.reduceAdd, Nat.reduceSub, Nat.reduceEqDiff, Nat.reduceLT, Nat.reduceLeDiff, Int.reduceNeg, true_and, and_true, and_self, if_true, if_false, Bool.not_true, Bool.not_false, Bool.false_eq_true, reduceIte, reduceCtorEq, decide_true, decide_false, ltD_int, leD_int, gtD_int, geD_int, subD_int, addD_int, intOf_int, absD_int, eqD_int, eqD_str, neD_str, neD_int, isN_non, truD_bl, eqD_bl, neD_bl, Option.map_some, Option.bind_some, small_0, small_1, small_2, small_3, small_4, small_5, small_6, small_7, small_8, st_app, st_len, fin_st, fin_stT, fin_self, ite_self, eq_own hA hL hF hF]
  subst hN_
  refine seq_gen fun N_ hN_ => ?_
  have tn := fun q x => text_ok (A := A) (S := st S k w2 T) (q := q) (x := x) hL (FitsOk.nil (rs := rs))
  simp only [List.map_nil] at tn
  try simp -implicitDefEqProofs only [eVar, eC, eOp, eUn, aNil, aCons, eSeq, eCall, eFn, bBl, onB_bl, bTru, eNotT, bAnd, bOr, bNot, eAnd, eOr, eIf, bChain, iteB_t, iteB_f, sNil, sSeq, sRet, sDrop, sAsg, sIf, sBreak, sCont, sAsgG, sPar2, sPar3, sSetIx, sPairSet, sAppend, onL, onI_i, onT_s, onTu_t, onCe_c, on1_, on2_, on3_, onLst_l, onOb_o, onSeq_l, onSeq_r, onSeq_c, lkD_s, lkD_n, lkO_s, lkO_n, finO, sFldD, setFD, eProp, isOb_obj, eMake, eMakeK, eMakeL, eLc, eNew, eSl, oNone, oSome, eOpM, eCallM, eCm, eCmK, eOpT, jNil, jCons, eJoin, aStar, sCalm, sFor, iRange1, iSeq, iTupD, iStrD, iEnumT, tName, tTup_t, tsCons_c, tsNil_n, any_t, onS_some, look0, look1, look2, look3, look4, look5, look6, look7, look8, look9, look10, look11, look12, look13, look14, look15, bYes, wipeE, List.set_cons_zero, List.set_cons_succ, List.length_cons, List.length_nil, List.append_nil, List.nil_append, List.cons_append, List.append_assoc, Nat.zero_add, Nat.reduceAdd, Nat.reduceSub, Nat.reduceEqDiff, Nat.reduceLT, Nat.reduceLeDiff, Int.reduceNeg, true_and, and_true, and_self, if_true, if_false, Bool.not_true, Bool.not_false, Bool.false_eq_true, reduceIte, reduceCtorEq, decide_true, decide_false, ltD_int, leD_int, gtD_int, geD_int, subD_int, addD_int, intOf_int, absD_int, eqD_int, eqD_str, neD_str, neD_int, isN_non, truD_bl, eqD_bl, neD_bl, Option.map_some, Option.bind_some, small_0, small_1, small_2, small_3, small_4, small_5, small_6, small_7, small_8, st_app, st_len, fin_st, fin_stT, fin_self, ite_self, tn]
  refine read_ok hA hL FitsOk.nil ?_
  subst hN_
  try simp -implicitDefEqProofs only [eVar, eC, eOp, eUn, aNil, aCons, eSeq, eCall, eFn, bBl, onB_bl, bTru, eNotT, bAnd, bOr, bNot, eAnd, eOr, eIf, bChain, iteB_t, iteB_f, sNil, sSeq, sRet, sDrop, sAsg, sIf, sBreak, sCont, sAsgG, sPar2, sPar3, sSetIx, sPairSet, sAppend, onL, onI_i, onT_s, onTu_t, onCe_c, on1_, on2_, on3_, onLst_l, onOb_o, onSeq_l, onSeq_r, onSeq_c, lkD_s, lkD_n, lkO_s, lkO_n, finO, sFldD, setFD, eProp, isOb_obj, eMake, eMakeK, eMakeL, eLc, eNew, eSl, oNone, oSome, eOpM, eCallM, eCm, eCmK, eOpT, jNil, jCons, eJoin, aStar, sCalm, sFor, iRange1, iSeq, iTupD, iStrD, iEnumT, tName, tTup_t, tsCons_c, tsNil_n, any_t, onS_some, look0, look1, look2, look3, look4, look5, look6, look7, look8, look9, look10, look11, look12, look13, look14, look15, bYes, wipeE, List.set_cons_zero, List.set_cons_succ, List.length_cons, List.length_nil, List.append_nil, List.nil_append, List.cons_append, List.append_assoc, Nat.zero_add, Nat.reduceAdd, Nat.reduceSub, Nat.reduceEqDiff, Nat.reduceLT, Nat.reduceLeDiff, Int.reduceNeg, true_and, and_true, and_self, if_true, if_false, Bool.not_true, Bool.not_false, Bool.false_eq_true, reduceIte, reduceCtorEq, decide_true, decide_false, ltD_int, leD_int, gtD_int, geD_int, subD_int, addD_int, intOf_int, absD_int, eqD_int, eqD_str, neD_str, neD_int, isN_non, truD_bl, eqD_bl, neD_bl, Option.map_some, Option.bind_some, small_0, small_1, small_2, small_3, small_4, small_5, small_6, small_7, small_8, st_app, st_len, fin_st, fin_stT, fin_self, ite_self]
  have hi := fun q x => is_ok (A := A) (S := st S k w2 T) (q := q) (x := x) hA hL (FitsOk.nil (rs := rs))
  simp only [List.map_nil] at hi
  refine hi _ _ ?_
  try simp -implicitDefEqProofs only [eVar, eC, eOp, eUn, aNil, aCons, eSeq, eCall, eFn, bBl, onB_bl, bTru, eNotT, bAnd, bOr, bNot, eAnd, eOr, eIf, bChain, iteB_t, iteB_f, sNil, sSeq, sRet, sDrop, sAsg, sIf, sBreak, sCont, sAsgG, sPar2, sPar3, sSetIx, sPairSet, sAppend, onL, onI_i, onT_s, onTu_t, onCe_c, on1_, on2_, on3_, onLst_l, onOb_o, onSeq_l, onSeq_r, onSeq_c, lkD_s, lkD_n, lkO_s, lkO_n, finO, sFldD, setFD, eProp, isOb_obj, eMake, eMakeK, eMakeL, eLc, eNew, eSl, oNone, oSome, eOpM, eCallM, eCm, eCmK, eOpT, jNil, jCons, eJoin, aStar, sCalm, sFor, iRange1, iSeq, iTupD, iStrD, iEnumT, tName, tTup_t, tsCons_c, tsNil_n, any_t, onS_some, look0, look1, look2, look3, look4, look5, look6, look7, look8, look9, look10, look11, look12, look13, look14, look15, bYes, wipeE, List.set_cons_zero, List.set_cons_succ, List.length_cons, List.length_nil, List.append_nil, List.nil_append, List.cons_append, List.append_assoc, Nat.zero_add, Nat.reduceAdd, Nat.reduceSub, Nat.reduceEqDiff, Nat.reduceLT, Nat.reduceLeDiff, Int.reduceNeg, true_and, and_true, and_self, if_true, if_false, Bool.not_true, Bool.not_false, Bool.false_eq_true, reduceIte, reduceCtorEq, decide_true, decide_false, ltD_int, leD_int, gtD_int, geD_int, subD_int, addD_int, intOf_int, absD_int, eqD_int, eqD_str, neD_str, neD_int, isN_non, truD_bl, eqD_bl, neD_bl, Option.map_some, Option.bind_some, small_0, small_1, small_2, small_3, small_4, small_5, small_6, small_7, small_8, st_app, st_len, fin_st, fin_stT, fin_self, ite_self, eq_own hA hL FitsOk.nil hF, text_nil hL hF, fits_eq hL hF]
  exact h w2 (g2.mono (by omega))
/-! ### the law -/
theorem st_new {S : WS} {w : W} : S ++ [w.d] = st (S ++ [w.d]) S.length w [] := by simp [st]
theorem st_old {S : WS} {w w' : W} : st (S ++ [w.d]) S.length w' [] = S ++ [w'.d] := by
  unfold st
  rw [List.set_append_right _ _ (Nat.le_refl _)]
  simp
def rs0 : List LR := [("pipe", "meter", "sealed"), ("a", "sealed", "meter")]
def fs0 : List FR := [("sealed", "pipe", true), ("meter", "a", false)]
theorem text0 : netText rs0 fs0 = "pipe pipe meter sealed\npipe a sealed meter\nmeter sealed pipe sealed\nmeter meter a" := by decide +kernel
theorem ok_rs0 : LaidOk rs0 := by
  refine ⟨fun r hr => ?_, by decide +kernel, by decide, by decide⟩
  simp only [rs0, List.mem_cons, List.not_mem_nil, or_false] at hr
  rcases hr with e | e <;> subst e <;> exact ⟨by unfold Nm; decide +kernel, by unfold Nm; decide +kernel, by unfold Nm; decide +kernel, by decide +kernel⟩
theorem ok_fs0 : FitsOk rs0 fs0 := by
  refine ⟨fun r hr => ?_, by decide +kernel, by decide +kernel, by decide⟩
  simp only [fs0, List.mem_cons, List.not_mem_nil, or_false] at hr
  rcases hr with e | e <;> subst e <;> (unfold Nm; decide +kernel)
theorem max_min {ns : List Int} : ∃ j : Nat, j ≤ 4 ∧ (if (if (4 : Int) < (ns.length : Nat) then (4 : Int) else (ns.length : Nat)) > 2 then (if (4 : Int) < (ns.length : Nat) then (4 : Int) else (ns.length : Nat)) else 2) = ((j : Nat) : Int) := by
  refine ⟨(if (if (4 : Int) < (ns.length : Nat) then (4 : Int) else (ns.length : Nat)) > 2 then (if (4 : Int) < (ns.length : Nat) then (4 : Int) else (ns.length : Nat)) else 2).toNat, ?_, ?_⟩ <;> split <;> split at * <;> omega
theorem min2_ {i j : Int} : min2D S [.int i, .int j] = some (.int (if j < i then j else i)) := rfl
theorem max2_ {i j : Int} : max2D S [.int i, .int j] = some (.int (if j > i then j else i)) := rfl
theorem len_scr {ns : List Int} : lenD S [.scr ns] = some (.int (ns.length : Nat)) := by simp [lenD, itemsD]
theorem all3 : allD S [.lst [.bl true, .bl true, .bl true]] = some (.bl true) := rfl
theorem law_true_law_k12 {A : Ad} {ns : List Int} {q : D → WS → Prop} {x : Xq} (hA : AdOk A ["Pipe", "Meter", "Net"]) (hl : ns.length ≤ 63) (hq : q (.bl true) []) : G_law_k12 A [.scr ns] [] q x := by
  have hA : NetsA A := by
    have hn := hA.nd
    simp only [List.map_cons, List.map_nil, List.nodup_cons, List.mem_cons, List.not_mem_nil, or_false, not_or] at hn
    exact ⟨by rw [hA.here]; simp, by rw [hA.here]; simp, by rw [hA.here]; simp, hn.1.1, hn.1.2, hn.2.1⟩
  rw [D_law_k12]
  unfold fnD startE
  simp only [List.map_cons, List.map_nil, List.length_cons, List.length_nil, Nat.reduceAdd, Nat.reduceSub, List.replicate, List.cons_append, List.nil_append, List.append_nil, Nat.zero_add]
  unfold B_law_k12
  refine seq_gen fun N_ hN_ => ?_
  try simp -implicitDefEqProofs only [eVar, eC, eOp, eUn, aNil, aCons, eSeq, eCall, eFn, bBl, onB_bl, bTru, eNotT, bAnd, bOr, bNot, eAnd, eOr, eIf, bChain, iteB_t, iteB_f, sNil, sSeq, sRet, sDrop, sAsg, sIf, sBreak, sCont, sAsgG, sPar2, sPar3, sSetIx, sPairSet, sAppend, onL, onI_i, onT_s, onTu_t, onCe_c, on1_, on2_, on3_, onLst_l, onOb_o, onSeq_l, onSeq_r, onSeq_c, lkD_s, lkD_n, lkO_s, lkO_n, finO, sFldD, setFD, eProp, isOb_obj, eMake, eMakeK, eMakeL, eLc, eNew, eSl, oNone, oSome, eOpM, eCallM, eCm, eCmK, eOpT, jNil, jCons, eJoin, aStar, sCalm, sFor, iRange1, iSeq, iTupD, iStrD, iEnumT, tName, tTup_t, tsCons_c, tsNil_n, any_t, onS_some, look0, look1, look2, look3, look4, look5, look6, look7, look8, look9, look10, look11, look12, look13, look14, look15, bYes, wipeE, List.set_cons_zero, List.set_cons_succ, List.length_cons, List.length_nil, List.append_nil, List.nil_append, List.cons_append, List.append_assoc, Nat.zero_add, Nat.reduceAdd, Nat.reduceSub, Nat.reduceEqDiff, Nat.reduceLT, Nat.reduceLeDiff, Int.reduceNeg, true_and, and_true, and_self, if_true, if_false, Bool.not_true, Bool.not_false, Bool.false_eq_true, reduceIte, reduceCtorEq, decide_true, decide_false, ltD_int, leD_int, gtD_int, geD_int, subD_int, addD_int, intOf_int, absD_int, eqD_int, eqD_str, neD_str, neD_int, isN_non, truD_bl, eqD_bl, neD_bl, Option.map_some, Option.bind_some, small_0, small_1, small_2, small_3, small_4, small_5, small_6, small_7, small_8, st_app, st_len, fin_st, fin_stT, fin_self, ite_self]
  subst hN_
  refine seq_gen fun N_ hN_ => ?_
  try simp -implicitDefEqProofs only [eVar, eC, eOp, eUn, aNil, aCons, eSeq, eCall, eFn, bBl, onB_bl, bTru, eNotT, bAnd, bOr, bNot, eAnd, eOr, eIf, bChain, iteB_t, iteB_f, sNil, sSeq, sRet, sDrop, sAsg, sIf, sBreak, sCont, sAsgG, sPar2, sPar3, sSetIx, sPairSet, sAppend, onL, onI_i, onT_s, onTu_t, onCe_c, on1_, on2_, on3_, onLst_l, onOb_o, onSeq_l, onSeq_r, onSeq_c, lkD_s, lkD_n, lkO_s, lkO_n, finO, sFldD, setFD, eProp, isOb_obj, eMake, eMakeK, eMakeL, eLc, eNew, eSl, oNone, oSome, eOpM, eCallM, eCm, eCmK, eOpT, jNil, jCons, eJoin, aStar, sCalm, sFor, iRange1, iSeq, iTupD, iStrD, iEnumT, tName, tTup_t, tsCons_c, tsNil_n, any_t, onS_some, look0, look1, look2, look3, look4, look5, look6, look7, look8, look9, look10, look11, look12, look13, look14, look15, bYes, wipeE, List.set_cons_zero, List.set_cons_succ, List.length_cons, List.length_nil, List.append_nil, List.nil_append, List.cons_append, List.append_assoc, Nat.zero_add, Nat.reduceAdd, Nat.reduceSub, Nat.reduceEqDiff, Nat.reduceLT, Nat.reduceLeDiff, Int.reduceNeg, true_and, and_true, and_self, if_true, if_false, Bool.not_true, Bool.not_false, Bool.false_eq_true, reduceIte, reduceCtorEq, decide_true, decide_false, ltD_int, leD_int, gtD_int, geD_int, subD_int, addD_int, intOf_int, absD_int, eqD_int, eqD_str, neD_str, neD_int, isN_non, truD_bl, eqD_bl, neD_bl, Option.map_some, Option.bind_some, small_0, small_1, small_2, small_3, small_4, small_5, small_6, small_7, small_8, st_app, st_len, fin_st, fin_stT, fin_self, ite_self]
  rw [← text0]
  refine read_ok hA ok_rs0 ok_fs0 ?_
  try simp -implicitDefEqProofs only [eVar, eC, eOp, eUn, aNil, aCons, eSeq, eCall, eFn, bBl, onB_bl, bTru, eNotT, bAnd, bOr, bNot, eAnd, eOr, eIf, bChain, iteB_t, iteB_f, sNil, sSeq, sRet, sDrop, sAsg, sIf, sBreak, sCont, sAsgG, sPar2, sPar3, sSetIx, sPairSet, sAppend, onL, onI_i, onT_s, onTu_t, onCe_c, on1_, on2_, on3_, onLst_l, onOb_o, onSeq_l, onSeq_r, onSeq_c, lkD_s, lkD_n, lkO_s, lkO_n, finO, sFldD, setFD, eProp, isOb_obj, eMake, eMakeK, eMakeL, eLc, eNew, eSl, oNone, oSome, eOpM, eCallM, eCm, eCmK, eOpT, jNil, jCons, eJoin, aStar, sCalm, sFor, iRange1, iSeq, iTupD, iStrD, iEnumT, tName, tTup_t, tsCons_c, tsNil_n, any_t, onS_some, look0, look1, look2, look3, look4, look5, look6, look7, look8, look9, look10, look11, look12, look13, look14, look15, bYes, wipeE, List.set_cons_zero, List.set_cons_succ, List.length_cons, List.length_nil, List.append_nil, List.nil_append, List.cons_append, List.append_assoc, Nat.zero_add, Nat.reduceAdd, Nat.reduceSub, Nat.reduceEqDiff, Nat.reduceLT, Nat.reduceLeDiff, Int.reduceNeg, true_and, and_true, and_self, if_true, if_false, Bool.not_true, Bool.not_false, Bool.false_eq_true, reduceIte, reduceCtorEq, decide_true, decide_false, ltD_int, leD_int, gtD_int, geD_int, subD_int, addD_int, intOf_int, absD_int, eqD_int, eqD_str, neD_str, neD_int, isN_non, truD_bl, eqD_bl, neD_bl, Option.map_some, Option.bind_some, small_0, small_1, small_2, small_3, small_4, small_5, small_6, small_7, small_8, st_app, st_len, fin_st, fin_stT, fin_self, ite_self]
  refine is_ok hA ok_rs0 ok_fs0 ?_
  try simp -implicitDefEqProofs only [eVar, eC, eOp, eUn, aNil, aCons, eSeq, eCall, eFn, bBl, onB_bl, bTru, eNotT, bAnd, bOr, bNot, eAnd, eOr, eIf, bChain, iteB_t, iteB_f, sNil, sSeq, sRet, sDrop, sAsg, sIf, sBreak, sCont, sAsgG, sPar2, sPar3, sSetIx, sPairSet, sAppend, onL, onI_i, onT_s, onTu_t, onCe_c, on1_, on2_, on3_, onLst_l, onOb_o, onSeq_l, onSeq_r, onSeq_c, lkD_s, lkD_n, lkO_s, lkO_n, finO, sFldD, setFD, eProp, isOb_obj, eMake, eMakeK, eMakeL, eLc, eNew, eSl, oNone, oSome, eOpM, eCallM, eCm, eCmK, eOpT, jNil, jCons, eJoin, aStar, sCalm, sFor, iRange1, iSeq, iTupD, iStrD, iEnumT, tName, tTup_t, tsCons_c, tsNil_n, any_t, onS_some, look0, look1, look2, look3, look4, look5, look6, look7, look8, look9, look10, look11, look12, look13, look14, look15, bYes, wipeE, List.set_cons_zero, List.set_cons_succ, List.length_cons, List.length_nil, List.append_nil, List.nil_append, List.cons_append, List.append_assoc, Nat.zero_add, Nat.reduceAdd, Nat.reduceSub, Nat.reduceEqDiff, Nat.reduceLT, Nat.reduceLeDiff, Int.reduceNeg, true_and, and_true, and_self, if_true, if_false, Bool.not_true, Bool.not_false, Bool.false_eq_true, reduceIte, reduceCtorEq, decide_true, decide_false, ltD_int, leD_int, gtD_int, geD_int, subD_int, addD_int, intOf_int, absD_int, eqD_int, eqD_str, neD_str, neD_int, isN_non, truD_bl, eqD_bl, neD_bl, Option.map_some, Option.bind_some, small_0, small_1, small_2, small_3, small_4, small_5, small_6, small_7, small_8, st_app, st_len, fin_st, fin_stT, fin_self, ite_self]
  subst hN_
  refine seq_gen fun N_ hN_ => ?_
  try simp -implicitDefEqProofs only [eVar, eC, eOp, eUn, aNil, aCons, eSeq, eCall, eFn, bBl, onB_bl, bTru, eNotT, bAnd, bOr, bNot, eAnd, eOr, eIf, bChain, iteB_t, iteB_f, sNil, sSeq, sRet, sDrop, sAsg, sIf, sBreak, sCont, sAsgG, sPar2, sPar3, sSetIx, sPairSet, sAppend, onL, onI_i, onT_s, onTu_t, onCe_c, on1_, on2_, on3_, onLst_l, onOb_o, onSeq_l, onSeq_r, onSeq_c, lkD_s, lkD_n, lkO_s, lkO_n, finO, sFldD, setFD, eProp, isOb_obj, eMake, eMakeK, eMakeL, eLc, eNew, eSl, oNone, oSome, eOpM, eCallM, eCm, eCmK, eOpT, jNil, jCons, eJoin, aStar, sCalm, sFor, iRange1, iSeq, iTupD, iStrD, iEnumT, tName, tTup_t, tsCons_c, tsNil_n, any_t, onS_some, look0, look1, look2, look3, look4, look5, look6, look7, look8, look9, look10, look11, look12, look13, look14, look15, bYes, wipeE, List.set_cons_zero, List.set_cons_succ, List.length_cons, List.length_nil, List.append_nil, List.nil_append, List.cons_append, List.append_assoc, Nat.zero_add, Nat.reduceAdd, Nat.reduceSub, Nat.reduceEqDiff, Nat.reduceLT, Nat.reduceLeDiff, Int.reduceNeg, true_and, and_true, and_self, if_true, if_false, Bool.not_true, Bool.not_false, Bool.false_eq_true, reduceIte, reduceCtorEq, decide_true, decide_false, ltD_int, leD_int, gtD_int, geD_int, subD_int, addD_int, intOf_int, absD_int, eqD_int, eqD_str, neD_str, neD_int, isN_non, truD_bl, eqD_bl, neD_bl, Option.map_some, Option.bind_some, small_0, small_1, small_2, small_3, small_4, small_5, small_6, small_7, small_8, st_app, st_len, fin_st, fin_stT, fin_self, ite_self, len_scr, min2_, max2_]
  obtain ⟨j, hj, ej⟩ := max_min (ns := ns)
  rw [ej]
  refine ⟨⟨by omega, by omega⟩, ?_⟩
  have go : ∀ (js : List Nat) (S : WS) (o2 o3 : Option D) (kt : Kt), (∀ i ∈ js, i < 4) → (∀ o2 o3 S, kt.nx [some (.scr ns), some (.str (netText rs0 fs0)), o2, o3, none] S) →
      forD any_ (tName 2) (sSeq (sAsg 3 (eFn 2 (G_well_k01 A) [] (aCons (eVar 0) (aCons (eVar 2) (aNil))))) (sIf (bNot (bTru truD (eCall allD (aCons (eLc .still (iRange1 (aCons (eC (.int 3)) (aNil))) (tName 4) (bYes) (eFn 1 (G_right_k12 A) [] (aCons (eVar 3) (aNil))) [4]) (aNil))))) (sRet (eC (.bl false))) (sNil)))
        (js.map fun (i : Nat) => D.int (0 + (i : Int))) [some (.scr ns), some (.str (netText rs0 fs0)), o2, o3, none] S kt := fun js => by
    induction js with
    | nil =>
      intro S o2 o3 kt hj hk
      exact ⟨trivial, hk _ _ _⟩
    | cons i js ih =>
      intro S o2 o3 kt hj hk
      have h4 := hj i (List.mem_cons_self ..)
      refine for_name trivial (seq_gen fun N_ hN_ => ?_)
      try simp -implicitDefEqProofs only [eVar, eC, eOp, eUn, aNil, aCons, eSeq, eCall, eFn, bBl, onB_bl, bTru, eNotT, bAnd, bOr, bNot, eAnd, eOr, eIf, bChain, iteB_t, iteB_f, sNil, sSeq, sRet, sDrop, sAsg, sIf, sBreak, sCont, sAsgG, sPar2, sPar3, sSetIx, sPairSet, sAppend, onL, onI_i, onT_s, onTu_t, onCe_c, on1_, on2_, on3_, onLst_l, onOb_o, onSeq_l, onSeq_r, onSeq_c, lkD_s, lkD_n, lkO_s, lkO_n, finO, sFldD, setFD, eProp, isOb_obj, eMake, eMakeK, eMakeL, eLc, eNew, eSl, oNone, oSome, eOpM, eCallM, eCm, eCmK, eOpT, jNil, jCons, eJoin, aStar, sCalm, sFor, iRange1, iSeq, iTupD, iStrD, iEnumT, tName, tTup_t, tsCons_c, tsNil_n, any_t, onS_some, look0, look1, look2, look3, look4, look5, look6, look7, look8, look9, look10, look11, look12, look13, look14, look15, bYes, wipeE, List.set_cons_zero, List.set_cons_succ, List.length_cons, List.length_nil, List.append_nil, List.nil_append, List.cons_append, List.append_assoc, Nat.zero_add, Nat.reduceAdd, Nat.reduceSub, Nat.reduceEqDiff, Nat.reduceLT, Nat.reduceLeDiff, Int.reduceNeg, true_and, and_true, and_self, if_true, if_false, Bool.not_true, Bool.not_false, Bool.false_eq_true, reduceIte, reduceCtorEq, decide_true, decide_false, ltD_int, leD_int, gtD_int, geD_int, subD_int, addD_int, intOf_int, absD_int, eqD_int, eqD_str, neD_str, neD_int, isN_non, truD_bl, eqD_bl, neD_bl, Option.map_some, Option.bind_some, small_0, small_1, small_2, small_3, small_4, small_5, small_6, small_7, small_8, st_app, st_len, fin_st, fin_stT, fin_self, ite_self]
      refine well_ok (by omega) (by omega) fun w g => ?_
      subst hN_
      have hlt : S.length < (S ++ [w.d]).length := by simp
      have hup : upto 3 = [.int 0, .int 1, .int 2] := rfl
      try simp -implicitDefEqProofs only [eVar, eC, eOp, eUn, aNil, aCons, eSeq, eCall, eFn, bBl, onB_bl, bTru, eNotT, bAnd, bOr, bNot, eAnd, eOr, eIf, bChain, iteB_t, iteB_f, sNil, sSeq, sRet, sDrop, sAsg, sIf, sBreak, sCont, sAsgG, sPar2, sPar3, sSetIx, sPairSet, sAppend, onL, onI_i, onT_s, onTu_t, onCe_c, on1_, on2_, on3_, onLst_l, onOb_o, onSeq_l, onSeq_r, onSeq_c, lkD_s, lkD_n, lkO_s, lkO_n, finO, sFldD, setFD, eProp, isOb_obj, eMake, eMakeK, eMakeL, eLc, eNew, eSl, oNone, oSome, eOpM, eCallM, eCm, eCmK, eOpT, jNil, jCons, eJoin, aStar, sCalm, sFor, iRange1, iSeq, iTupD, iStrD, iEnumT, tName, tTup_t, tsCons_c, tsNil_n, any_t, onS_some, look0, look1, look2, look3, look4, look5, look6, look7, look8, look9, look10, look11, look12, look13, look14, look15, bYes, wipeE, List.set_cons_zero, List.set_cons_succ, List.length_cons, List.length_nil, List.append_nil, List.nil_append, List.cons_append, List.append_assoc, Nat.zero_add, Nat.reduceAdd, Nat.reduceSub, Nat.reduceEqDiff, Nat.reduceLT, Nat.reduceLeDiff, Int.reduceNeg, true_and, and_true, and_self, if_true, if_false, Bool.not_true, Bool.not_false, Bool.false_eq_true, reduceIte, reduceCtorEq, decide_true, decide_false, ltD_int, leD_int, gtD_int, geD_int, subD_int, addD_int, intOf_int, absD_int, eqD_int, eqD_str, neD_str, neD_int, isN_non, truD_bl, eqD_bl, neD_bl, Option.map_some, Option.bind_some, small_0, small_1, small_2, small_3, small_4, small_5, small_6, small_7, small_8, st_app, st_len, fin_st, fin_stT, fin_self, ite_self, hup, lcD]
      rw [st_new]
      refine ⟨⟨by decide, by decide⟩, ?_⟩
      refine right_ok hA hlt g (by omega) fun w1 g1 => ?_
      try simp -implicitDefEqProofs only [eVar, eC, eOp, eUn, aNil, aCons, eSeq, eCall, eFn, bBl, onB_bl, bTru, eNotT, bAnd, bOr, bNot, eAnd, eOr, eIf, bChain, iteB_t, iteB_f, sNil, sSeq, sRet, sDrop, sAsg, sIf, sBreak, sCont, sAsgG, sPar2, sPar3, sSetIx, sPairSet, sAppend, onL, onI_i, onT_s, onTu_t, onCe_c, on1_, on2_, on3_, onLst_l, onOb_o, onSeq_l, onSeq_r, onSeq_c, lkD_s, lkD_n, lkO_s, lkO_n, finO, sFldD, setFD, eProp, isOb_obj, eMake, eMakeK, eMakeL, eLc, eNew, eSl, oNone, oSome, eOpM, eCallM, eCm, eCmK, eOpT, jNil, jCons, eJoin, aStar, sCalm, sFor, iRange1, iSeq, iTupD, iStrD, iEnumT, tName, tTup_t, tsCons_c, tsNil_n, any_t, onS_some, look0, look1, look2, look3, look4, look5, look6, look7, look8, look9, look10, look11, look12, look13, look14, look15, bYes, wipeE, List.set_cons_zero, List.set_cons_succ, List.length_cons, List.length_nil, List.append_nil, List.nil_append, List.cons_append, List.append_assoc, Nat.zero_add, Nat.reduceAdd, Nat.reduceSub, Nat.reduceEqDiff, Nat.reduceLT, Nat.reduceLeDiff, Int.reduceNeg, true_and, and_true, and_self, if_true, if_false, Bool.not_true, Bool.not_false, Bool.false_eq_true, reduceIte, reduceCtorEq, decide_true, decide_false, ltD_int, leD_int, gtD_int, geD_int, subD_int, addD_int, intOf_int, absD_int, eqD_int, eqD_str, neD_str, neD_int, isN_non, truD_bl, eqD_bl, neD_bl, Option.map_some, Option.bind_some, small_0, small_1, small_2, small_3, small_4, small_5, small_6, small_7, small_8, st_app, st_len, fin_st, fin_stT, fin_self, ite_self, hup, lcD]
      refine right_ok hA hlt g1 (by omega) fun w2 g2 => ?_
      try simp -implicitDefEqProofs only [eVar, eC, eOp, eUn, aNil, aCons, eSeq, eCall, eFn, bBl, onB_bl, bTru, eNotT, bAnd, bOr, bNot, eAnd, eOr, eIf, bChain, iteB_t, iteB_f, sNil, sSeq, sRet, sDrop, sAsg, sIf, sBreak, sCont, sAsgG, sPar2, sPar3, sSetIx, sPairSet, sAppend, onL, onI_i, onT_s, onTu_t, onCe_c, on1_, on2_, on3_, onLst_l, onOb_o, onSeq_l, onSeq_r, onSeq_c, lkD_s, lkD_n, lkO_s, lkO_n, finO, sFldD, setFD, eProp, isOb_obj, eMake, eMakeK, eMakeL, eLc, eNew, eSl, oNone, oSome, eOpM, eCallM, eCm, eCmK, eOpT, jNil, jCons, eJoin, aStar, sCalm, sFor, iRange1, iSeq, iTupD, iStrD, iEnumT, tName, tTup_t, tsCons_c, tsNil_n, any_t, onS_some, look0, look1, look2, look3, look4, look5, look6, look7, look8, look9, look10, look11, look12, look13, look14, look15, bYes, wipeE, List.set_cons_zero, List.set_cons_succ, List.length_cons, List.length_nil, List.append_nil, List.nil_append, List.cons_append, List.append_assoc, Nat.zero_add, Nat.reduceAdd, Nat.reduceSub, Nat.reduceEqDiff, Nat.reduceLT, Nat.reduceLeDiff, Int.reduceNeg, true_and, and_true, and_self, if_true, if_false, Bool.not_true, Bool.not_false, Bool.false_eq_true, reduceIte, reduceCtorEq, decide_true, decide_false, ltD_int, leD_int, gtD_int, geD_int, subD_int, addD_int, intOf_int, absD_int, eqD_int, eqD_str, neD_str, neD_int, isN_non, truD_bl, eqD_bl, neD_bl, Option.map_some, Option.bind_some, small_0, small_1, small_2, small_3, small_4, small_5, small_6, small_7, small_8, st_app, st_len, fin_st, fin_stT, fin_self, ite_self, hup, lcD]
      refine right_ok hA hlt g2 (by omega) fun w3 g3 => ?_
      try simp -implicitDefEqProofs only [eVar, eC, eOp, eUn, aNil, aCons, eSeq, eCall, eFn, bBl, onB_bl, bTru, eNotT, bAnd, bOr, bNot, eAnd, eOr, eIf, bChain, iteB_t, iteB_f, sNil, sSeq, sRet, sDrop, sAsg, sIf, sBreak, sCont, sAsgG, sPar2, sPar3, sSetIx, sPairSet, sAppend, onL, onI_i, onT_s, onTu_t, onCe_c, on1_, on2_, on3_, onLst_l, onOb_o, onSeq_l, onSeq_r, onSeq_c, lkD_s, lkD_n, lkO_s, lkO_n, finO, sFldD, setFD, eProp, isOb_obj, eMake, eMakeK, eMakeL, eLc, eNew, eSl, oNone, oSome, eOpM, eCallM, eCm, eCmK, eOpT, jNil, jCons, eJoin, aStar, sCalm, sFor, iRange1, iSeq, iTupD, iStrD, iEnumT, tName, tTup_t, tsCons_c, tsNil_n, any_t, onS_some, look0, look1, look2, look3, look4, look5, look6, look7, look8, look9, look10, look11, look12, look13, look14, look15, bYes, wipeE, List.set_cons_zero, List.set_cons_succ, List.length_cons, List.length_nil, List.append_nil, List.nil_append, List.cons_append, List.append_assoc, Nat.zero_add, Nat.reduceAdd, Nat.reduceSub, Nat.reduceEqDiff, Nat.reduceLT, Nat.reduceLeDiff, Int.reduceNeg, true_and, and_true, and_self, if_true, if_false, Bool.not_true, Bool.not_false, Bool.false_eq_true, reduceIte, reduceCtorEq, decide_true, decide_false, ltD_int, leD_int, gtD_int, geD_int, subD_int, addD_int, intOf_int, absD_int, eqD_int, eqD_str, neD_str, neD_int, isN_non, truD_bl, eqD_bl, neD_bl, Option.map_some, Option.bind_some, small_0, small_1, small_2, small_3, small_4, small_5, small_6, small_7, small_8, st_app, st_len, fin_st, fin_stT, fin_self, ite_self, all3]
      exact ih _ _ _ kt (fun i hi => hj i (List.mem_cons_of_mem _ hi)) hk
  refine go (List.range j) [] none none _ (fun i hi => by have := List.mem_range.mp hi; omega) fun o2 o3 S => ?_
  dsimp only
  subst hN_
  try simp -implicitDefEqProofs only [eVar, eC, eOp, eUn, aNil, aCons, eSeq, eCall, eFn, bBl, onB_bl, bTru, eNotT, bAnd, bOr, bNot, eAnd, eOr, eIf, bChain, iteB_t, iteB_f, sNil, sSeq, sRet, sDrop, sAsg, sIf, sBreak, sCont, sAsgG, sPar2, sPar3, sSetIx, sPairSet, sAppend, onL, onI_i, onT_s, onTu_t, onCe_c, on1_, on2_, on3_, onLst_l, onOb_o, onSeq_l, onSeq_r, onSeq_c, lkD_s, lkD_n, lkO_s, lkO_n, finO, sFldD, setFD, eProp, isOb_obj, eMake, eMakeK, eMakeL, eLc, eNew, eSl, oNone, oSome, eOpM, eCallM, eCm, eCmK, eOpT, jNil, jCons, eJoin, aStar, sCalm, sFor, iRange1, iSeq, iTupD, iStrD, iEnumT, tName, tTup_t, tsCons_c, tsNil_n, any_t, onS_some, look0, look1, look2, look3, look4, look5, look6, look7, look8, look9, look10, look11, look12, look13, look14, look15, bYes, wipeE, List.set_cons_zero, List.set_cons_succ, List.length_cons, List.length_nil, List.append_nil, List.nil_append, List.cons_append, List.append_assoc, Nat.zero_add, Nat.reduceAdd, Nat.reduceSub, Nat.reduceEqDiff, Nat.reduceLT, Nat.reduceLeDiff, Int.reduceNeg, true_and, and_true, and_self, if_true, if_false, Bool.not_true, Bool.not_false, Bool.false_eq_true, reduceIte, reduceCtorEq, decide_true, decide_false, ltD_int, leD_int, gtD_int, geD_int, subD_int, addD_int, intOf_int, absD_int, eqD_int, eqD_str, neD_str, neD_int, isN_non, truD_bl, eqD_bl, neD_bl, Option.map_some, Option.bind_some, small_0, small_1, small_2, small_3, small_4, small_5, small_6, small_7, small_8, st_app, st_len, fin_st, fin_stT, fin_self, ite_self]
  cases S with
  | nil => exact hq
  | cons c S => exact ⟨rfl, hq⟩
end
end RV
end
section

end
section
noncomputable section
namespace K12
open PySem L2 RV
def top (i : Nat) : Stmt := PySem.Challenge.pw_ringvotes_k12_whole_texts_of_nets.main.body.getD i (.Pass ⟨0, 0, 0, 0⟩)
structure Txt (K : PySem.W.Frag) (mg : Str → Option Value) (A : Ad) : Prop where
  n_abs : mg "abs" = none
  n_all : mg "all" = none
  n_bool : mg "bool" = none
  n_divmod : mg "divmod" = none
  n_enumerate : mg "enumerate" = none
  n_int : mg "int" = none
  n_isinstance : mg "isinstance" = none
  n_len : mg "len" = none
  n_max : mg "max" = none
  n_min : mg "min" = none
  n_range : mg "range" = none
  n_repr : mg "repr" = none
  n_str : mg "str" = none
  n_tuple : mg "tuple" = none
  g_DIGITS : ∃ t, mg "DIGITS" = some (.str "0123456789" t)
  g_LETTERS : ∃ t, mg "LETTERS" = some (.str "abcdefghijklmnopqrstuvwxyz" t)
  g_LONGEST_NAME : ∃ t, mg "LONGEST_NAME" = some (.int 8 t)
  g_MOST_METERS : ∃ t, mg "MOST_METERS" = some (.int 12 t)
  g_MOST_PIPES : ∃ t, mg "MOST_PIPES" = some (.int 12 t)
  m_Pipe : mg "Pipe" = some (.ref (A.c "Pipe"))
  m_Meter : mg "Meter" = some (.ref (A.c "Meter"))
  m_Net : mg "Net" = some (.ref (A.c "Net"))
  k_Pipe : KindC K (A.c "Pipe")
  k_Meter : KindC K (A.c "Meter")
  k_Net : KindC K (A.c "Net")
  no_Meter_kept : NoAttr K (A.c "Meter") "kept"
  no_Net_fitted : NoAttr K (A.c "Net") "fitted"
  no_Net_joined : NoAttr K (A.c "Net") "joined"
  no_Pipe_kept : NoAttr K (A.c "Pipe") "kept"
  own : ∀ C, own A C = true → KindC K C
  kit : ∀ t u b, tab A t u = some b → PySem.W.kitOne K t u = some b
  nf_Net : ∀ t, nf A t = true → PySem.W.notFirst K (A.c "Net") t = true
/-! ### is_name -/
abbrev s_is_name : Stmt := top 18
theorem sc_is_name : FnScope ["value", "sign"] ["value"] (defScope s_is_name) := ⟨rfl, rfl, rfl, by decide +kernel, rfl, by decide +kernel, by decide +kernel⟩
theorem ok_is_name {P : Program} {w : World} {K : PySem.W.Frag} {mg : Str → Option Value} {base : Heap} {A : Ad} {f : Addr} {fd : FuncData} {dfs : List V} {kfs : List (Str × V)} (T : Txt K mg A) (F : FunD K "is_name" "is_name" (defArgs s_is_name) (defBody s_is_name) (defScope s_is_name) dfs kfs f fd)  :
    FnX false P w K mg base 1 f fd ["value"] (spG K 1 (G_is_name A)) := by
  rw [D_is_name]
  refine fn_G F sc_is_name (fun cdv Ar outer s H E hgd hr tk hp => ?_)
  exact gss_cons (gs_if ((gw_or (gt_not (gt_tru tru_ok rt_tru (ge_callB call_isi (rc_isi T.own T.kit) T.n_isinstance (by decide +kernel) (ga_cons (ge_var 0) (ga_cons (ge_ty T.n_str (by decide +kernel)) (ga_nil)))))) (gw_or (gt_not (gt_chain op_le op_le ro_le ro_le (ge_int) (ge_callB call_len rc_len T.n_len (by decide +kernel) (ga_cons (ge_var 0) (ga_nil))) (ge_gint T.g_LONGEST_NAME))) (gw_or1 (gt_cmp op_notIn_sign ro_notInS (ge_ix ix_seq ro_ix (ge_var 0) (ge_int)) (ge_gstr T.g_LETTERS) (by rfl))))).gt) (gss_one (gs_ret (ge_bl))) (gss_nil))
    (gss_one (gs_ret (ge_callB (cr_all rfl) rc_all T.n_all (by decide +kernel) (ga_cons (ge_lc (own := [("sign", 1)]) rfl sc_is_name.nd (gi_str (ge_var 0)) (blkOk_by (by rfl)) (fun _ _ _ _ _ => gg_name 1 sc_is_name.nd) (fun _ _ _ _ _ => gts_nil) (fun _ _ _ _ _ => ge_or (ge_cmp op_in_sign ro_inS (ge_var 1) (ge_gstr T.g_LETTERS) (by rfl)) (ge_one (ge_cmp op_in_sign ro_inS (ge_var 1) (ge_gstr T.g_DIGITS) (by rfl))))) (ga_nil)))))
/-! ### check_name -/
abbrev s_check_name : Stmt := top 19
theorem sc_check_name : FnScope ["value"] ["value"] (defScope s_check_name) := ⟨rfl, rfl, rfl, by decide +kernel, rfl, by decide +kernel, by decide +kernel⟩
theorem ok_check_name {P : Program} {w : World} {K : PySem.W.Frag} {mg : Str → Option Value} {base : Heap} {A : Ad} {f : Addr} {fd : FuncData} {dfs : List V} {kfs : List (Str × V)} (T : Txt K mg A) (F : FunD K "check_name" "check_name" (defArgs s_check_name) (defBody s_check_name) (defScope s_check_name) dfs kfs f fd) (c_is_name : Fc P w K mg base false "is_name" 1 1 (G_is_name A)) :
    FnX false P w K mg base 2 f fd ["value"] (spG K 1 (G_check_name A)) := by
  rw [D_check_name]
  refine fn_G F sc_check_name (fun cdv Ar outer s H E hgd hr tk hp => ?_)
  exact gss_one (gs_if (gt_not (gt_tru tru_ok rt_tru (ge_callF tk c_is_name nogd hr (ga_cons (ge_var 0) (ga_nil))))) (gss_one (gs_never)) (gss_nil))
/-! ### Pipe.__init__ -/
abbrev s_Pipe_init : Stmt := inClass (top 21) 0
theorem sc_Pipe_init : FnScope ["self", "name", "start", "end"] ["self", "name", "start", "end"] (defScope s_Pipe_init) := ⟨rfl, rfl, rfl, by decide +kernel, rfl, by decide +kernel, by decide +kernel⟩
theorem ok_Pipe_init {P : Program} {w : World} {K : PySem.W.Frag} {mg : Str → Option Value} {base : Heap} {A : Ad} {f : Addr} {fd : FuncData} {dfs : List V} {kfs : List (Str × V)} (T : Txt K mg A) (F : FunD K "__init__" "Pipe.__init__" (defArgs s_Pipe_init) (defBody s_Pipe_init) (defScope s_Pipe_init) dfs kfs f fd) (c_check_name : Fc P w K mg base false "check_name" 2 1 (G_check_name A)) :
    FnX false P w K mg base 3 f fd ["self", "name", "start", "end"] (spG K 4 (G_Pipe_init A)) := by
  rw [D_Pipe_init]
  refine fn_G F sc_Pipe_init (fun cdv Ar outer s H E hgd hr tk hp => ?_)
  exact gss_cons (gs_expr (ge_callF tk c_check_name nogd hr (ga_cons (ge_var 1) (ga_nil))))
    (gss_cons (gs_expr (ge_callF tk c_check_name nogd hr (ga_cons (ge_var 2) (ga_nil))))
    (gss_cons (gs_expr (ge_callF tk c_check_name nogd hr (ga_cons (ge_var 3) (ga_nil))))
    (gss_cons (gs_if (gt_cmp (op_eqA hr) ro_eqA (ge_var 3) (ge_var 2) (nomark _)) (gss_one (gs_never)) (gss_nil))
    (gss_one (gs_fld T.k_Pipe.cl T.no_Pipe_kept (ge_var 0) (ge_tup (ga_cons (ge_var 1) (ga_cons (ge_var 2) (ga_cons (ge_var 3) (ga_nil))))))))))
/-! ### Meter.__init__ -/
abbrev s_Meter_init : Stmt := inClass (top 22) 0
theorem sc_Meter_init : FnScope ["self", "name", "at", "sealed"] ["self", "name", "at", "sealed"] (defScope s_Meter_init) := ⟨rfl, rfl, rfl, by decide +kernel, rfl, by decide +kernel, by decide +kernel⟩
theorem ok_Meter_init {P : Program} {w : World} {K : PySem.W.Frag} {mg : Str → Option Value} {base : Heap} {A : Ad} {f : Addr} {fd : FuncData} {dfs : List V} {kfs : List (Str × V)} (T : Txt K mg A) (F : FunD K "__init__" "Meter.__init__" (defArgs s_Meter_init) (defBody s_Meter_init) (defScope s_Meter_init) dfs kfs f fd) (c_check_name : Fc P w K mg base false "check_name" 2 1 (G_check_name A)) :
    FnX false P w K mg base 3 f fd ["self", "name", "at", "sealed"] (spG K 4 (G_Meter_init A)) := by
  rw [D_Meter_init]
  refine fn_G F sc_Meter_init (fun cdv Ar outer s H E hgd hr tk hp => ?_)
  exact gss_cons (gs_expr (ge_callF tk c_check_name nogd hr (ga_cons (ge_var 1) (ga_nil))))
    (gss_cons (gs_expr (ge_callF tk c_check_name nogd hr (ga_cons (ge_var 2) (ga_nil))))
    (gss_cons (gs_if (gt_not (gt_tru tru_ok rt_tru (ge_callB call_isi (rc_isi T.own T.kit) T.n_isinstance (by decide +kernel) (ga_cons (ge_var 3) (ga_cons (ge_ty T.n_bool (by decide +kernel)) (ga_nil)))))) (gss_one (gs_never)) (gss_nil))
    (gss_one (gs_fld T.k_Meter.cl T.no_Meter_kept (ge_var 0) (ge_tup (ga_cons (ge_var 1) (ga_cons (ge_var 2) (ga_cons (ge_var 3) (ga_nil)))))))))
/-! ### item_of -/
abbrev s_item_of : Stmt := top 26
theorem sc_item_of : FnScope ["line", "words"] ["line"] (defScope s_item_of) := ⟨rfl, rfl, rfl, by decide +kernel, rfl, by decide +kernel, by decide +kernel⟩
theorem ok_item_of {P : Program} {w : World} {K : PySem.W.Frag} {mg : Str → Option Value} {base : Heap} {A : Ad} {f : Addr} {fd : FuncData} {dfs : List V} {kfs : List (Str × V)} (T : Txt K mg A) (F : FunD K "item_of" "item_of" (defArgs s_item_of) (defBody s_item_of) (defScope s_item_of) dfs kfs f fd) (mk_Meter_2_sealed : Mk_ P w K mg base "Meter" (A.c "Meter") 3 4 2 ["sealed"] (G_Meter_init A) (perm [0])) (mk_Pipe_3 : Mc P w K mg base "Pipe" (A.c "Pipe") 3 4 (G_Pipe_init A) []) :
    FnX false P w K mg base 5 f fd ["line"] (spG K 1 (G_item_of A)) := by
  rw [D_item_of]
  refine fn_G F sc_item_of (fun cdv Ar outer s H E hgd hr tk hp => ?_)
  exact gss_cons (gs_set 1 sc_item_of.nd (ge_split (ge_var 0) (ge_str)))
    (gss_cons (gs_tryThru (gss_cons (gs_if ((gw_and (gt_cmp (op_eqA hr) ro_eqA (ge_callB call_len rc_len T.n_len (by decide +kernel) (ga_cons (ge_var 1) (ga_nil))) (ge_int) (nomark _)) (gw_and1 (gt_cmp (op_eqA hr) ro_eqA (ge_ix ix_seq ro_ix (ge_var 1) (ge_int)) (ge_str) (nomark _)))).gt) (gss_one (gs_ret (ge_makeF tkF mk_Pipe_3 hr (ga_cons (ge_ix ix_seq ro_ix (ge_var 1) (ge_int)) (ga_cons (ge_ix ix_seq ro_ix (ge_var 1) (ge_int)) (ga_cons (ge_ix ix_seq ro_ix (ge_var 1) (ge_int)) (ga_nil))))))) (gss_nil))
    (gss_one (gs_if ((gw_and (gt_cmp op_in_seq ro_in (ge_callB call_len rc_len T.n_len (by decide +kernel) (ga_cons (ge_var 1) (ga_nil))) (ge_tup (ga_cons (ge_int) (ga_cons (ge_int) (ga_nil)))) (by rfl)) (gw_and1 (gt_cmp (op_eqA hr) ro_eqA (ge_ix ix_seq ro_ix (ge_var 1) (ge_int)) (ge_str) (nomark _)))).gt) (gss_one (gs_ret (ge_makeKF (ks := ["sealed"]) tkF mk_Meter_2_sealed hr (ga_cons (ge_ix ix_seq ro_ix (ge_var 1) (ge_int)) (ga_cons (ge_ix ix_seq ro_ix (ge_var 1) (ge_int)) (ga_nil))) (gk_cons (ge_cmp (op_eqA hr) ro_eqA (ge_callB call_len rc_len T.n_len (by decide +kernel) (ga_cons (ge_var 1) (ga_nil))) (ge_int) (nomark _)) (gk_nil))))) (gss_nil)))))
    (gss_one (gs_ret (ge_non))))
/-! ### Pipe.name -/
abbrev s_Pipe_name : Stmt := inClass (top 21) 1
theorem sc_Pipe_name : FnScope ["self"] ["self"] (defScope s_Pipe_name) := ⟨rfl, rfl, rfl, by decide +kernel, rfl, by decide +kernel, by decide +kernel⟩
theorem ok_Pipe_name {P : Program} {w : World} {K : PySem.W.Frag} {mg : Str → Option Value} {base : Heap} {A : Ad} {f : Addr} {fd : FuncData} {dfs : List V} {kfs : List (Str × V)} (T : Txt K mg A) (F : FunD K "name" "Pipe.name" (defArgs s_Pipe_name) (defBody s_Pipe_name) (defScope s_Pipe_name) dfs kfs f fd)  :
    FnX false P w K mg base 1 f fd ["self"] (spG K 1 (G_Pipe_name A)) := by
  rw [D_Pipe_name]
  refine fn_G F sc_Pipe_name (fun cdv Ar outer s H E hgd hr tk hp => ?_)
  exact gss_one (gs_ret (ge_ix ix_seq ro_ix (ge_fld T.k_Pipe.cl T.no_Pipe_kept (ge_var 0)) (ge_int)))
/-! ### check_pipes -/
abbrev s_check_pipes : Stmt := top 23
theorem sc_check_pipes : FnScope ["pipes", "names", "index", "pipe"] ["pipes"] (defScope s_check_pipes) := ⟨rfl, rfl, rfl, by decide +kernel, rfl, by decide +kernel, by decide +kernel⟩
theorem ok_check_pipes {P : Program} {w : World} {K : PySem.W.Frag} {mg : Str → Option Value} {base : Heap} {A : Ad} {f : Addr} {fd : FuncData} {dfs : List V} {kfs : List (Str × V)} (T : Txt K mg A) (F : FunD K "check_pipes" "check_pipes" (defArgs s_check_pipes) (defBody s_check_pipes) (defScope s_check_pipes) dfs kfs f fd) (c_Pipe_name : Pc P w K mg base (A.c "Pipe") "name" 1 (G_Pipe_name A)) :
    FnX false P w K mg base 3 f fd ["pipes"] (spG K 1 (G_check_pipes A)) := by
  rw [D_check_pipes]
  refine fn_G F sc_check_pipes (fun cdv Ar outer s H E hgd hr tk hp => ?_)
  exact gss_cons (gs_if ((gw_or (gt_not (gt_tru tru_ok rt_tru (ge_callB call_isi (rc_isi T.own T.kit) T.n_isinstance (by decide +kernel) (ga_cons (ge_var 0) (ga_cons (ge_ty T.n_tuple (by decide +kernel)) (ga_nil)))))) (gw_or1 (gt_cmp (op_eqA hr) ro_eqA (ge_callB call_len rc_len T.n_len (by decide +kernel) (ga_cons (ge_var 0) (ga_nil))) (ge_int) (nomark _)))).gt) (gss_one (gs_never)) (gss_nil))
    (gss_cons (gs_set 1 sc_check_pipes.nd (ge_new (ga_nil)))
    (gss_one (gs_for hp rfl (gi_enumT T.n_enumerate (ga_cons (ge_var 0) (ga_nil))) (gg_tup rfl (ggs_cons (gg_name 2 sc_check_pipes.nd) (ggs_cons (gg_name 3 sc_check_pipes.nd) (ggs_nil)))) (gss_cons (gs_if ((gw_or (gt_not (gt_tru tru_ok rt_tru (ge_callB call_isi (rc_isi T.own T.kit) T.n_isinstance (by decide +kernel) (ga_cons (ge_var 3) (ga_cons (ge_gref T.m_Pipe) (ga_nil)))))) (gw_or (gt_cmp op_in_seq ro_in (ge_propF c_Pipe_name hr (ge_var 3)) (ge_var 1) (by rfl)) (gw_or1 (gt_cmp op_ge ro_ge (ge_var 2) (ge_gint T.g_MOST_PIPES) (nomark _))))).gt) (gss_one (gs_never)) (gss_nil))
    (gss_one (gs_append (ge_var 1) (ge_propF c_Pipe_name hr (ge_var 3))))))))
/-! ### Meter.name -/
abbrev s_Meter_name : Stmt := inClass (top 22) 1
theorem sc_Meter_name : FnScope ["self"] ["self"] (defScope s_Meter_name) := ⟨rfl, rfl, rfl, by decide +kernel, rfl, by decide +kernel, by decide +kernel⟩
theorem ok_Meter_name {P : Program} {w : World} {K : PySem.W.Frag} {mg : Str → Option Value} {base : Heap} {A : Ad} {f : Addr} {fd : FuncData} {dfs : List V} {kfs : List (Str × V)} (T : Txt K mg A) (F : FunD K "name" "Meter.name" (defArgs s_Meter_name) (defBody s_Meter_name) (defScope s_Meter_name) dfs kfs f fd)  :
    FnX false P w K mg base 1 f fd ["self"] (spG K 1 (G_Meter_name A)) := by
  rw [D_Meter_name]
  refine fn_G F sc_Meter_name (fun cdv Ar outer s H E hgd hr tk hp => ?_)
  exact gss_one (gs_ret (ge_ix ix_seq ro_ix (ge_fld T.k_Meter.cl T.no_Meter_kept (ge_var 0)) (ge_int)))
/-! ### Meter.at -/
abbrev s_Meter_at : Stmt := inClass (top 22) 2
theorem sc_Meter_at : FnScope ["self"] ["self"] (defScope s_Meter_at) := ⟨rfl, rfl, rfl, by decide +kernel, rfl, by decide +kernel, by decide +kernel⟩
theorem ok_Meter_at {P : Program} {w : World} {K : PySem.W.Frag} {mg : Str → Option Value} {base : Heap} {A : Ad} {f : Addr} {fd : FuncData} {dfs : List V} {kfs : List (Str × V)} (T : Txt K mg A) (F : FunD K "at" "Meter.at" (defArgs s_Meter_at) (defBody s_Meter_at) (defScope s_Meter_at) dfs kfs f fd)  :
    FnX false P w K mg base 1 f fd ["self"] (spG K 1 (G_Meter_at A)) := by
  rw [D_Meter_at]
  refine fn_G F sc_Meter_at (fun cdv Ar outer s H E hgd hr tk hp => ?_)
  exact gss_one (gs_ret (ge_ix ix_seq ro_ix (ge_fld T.k_Meter.cl T.no_Meter_kept (ge_var 0)) (ge_int)))
/-! ### check_meters -/
abbrev s_check_meters : Stmt := top 24
theorem sc_check_meters : FnScope ["meters", "pipes", "places", "names", "index", "meter", "pipe"] ["meters", "pipes"] (defScope s_check_meters) := ⟨rfl, rfl, rfl, by decide +kernel, rfl, by decide +kernel, by decide +kernel⟩
theorem ok_check_meters {P : Program} {w : World} {K : PySem.W.Frag} {mg : Str → Option Value} {base : Heap} {A : Ad} {f : Addr} {fd : FuncData} {dfs : List V} {kfs : List (Str × V)} (T : Txt K mg A) (F : FunD K "check_meters" "check_meters" (defArgs s_check_meters) (defBody s_check_meters) (defScope s_check_meters) dfs kfs f fd) (c_Pipe_name : Pc P w K mg base (A.c "Pipe") "name" 1 (G_Pipe_name A)) (c_Meter_name : Pc P w K mg base (A.c "Meter") "name" 1 (G_Meter_name A)) (c_Meter_at : Pc P w K mg base (A.c "Meter") "at" 1 (G_Meter_at A)) :
    FnX false P w K mg base 3 f fd ["meters", "pipes"] (spG K 2 (G_check_meters A)) := by
  rw [D_check_meters]
  refine fn_G F sc_check_meters (fun cdv Ar outer s H E hgd hr tk hp => ?_)
  exact gss_cons (gs_if (gt_not (gt_tru tru_ok rt_tru (ge_callB call_isi (rc_isi T.own T.kit) T.n_isinstance (by decide +kernel) (ga_cons (ge_var 0) (ga_cons (ge_ty T.n_tuple (by decide +kernel)) (ga_nil)))))) (gss_one (gs_never)) (gss_nil))
    (gss_cons (gs_setLc 2 (own := [("pipe", 6)]) rfl sc_check_meters.nd (gi_tup (ge_var 1)) (blkOk_by (by rfl)) (fun _ _ _ _ _ => gg_name 6 sc_check_meters.nd) (fun _ _ _ _ _ => gts_nil) (fun _ _ _ _ _ => ge_propF c_Pipe_name hr (ge_var 6)) (sw_true rfl rfl rfl (by decide +kernel)))
    (gss_cons (gs_set 3 sc_check_meters.nd (ge_new (ga_nil)))
    (gss_one (gs_for hp rfl (gi_enumT T.n_enumerate (ga_cons (ge_var 0) (ga_nil))) (gg_tup rfl (ggs_cons (gg_name 4 sc_check_meters.nd) (ggs_cons (gg_name 5 sc_check_meters.nd) (ggs_nil)))) (gss_cons (gs_if ((gw_or (gt_not (gt_tru tru_ok rt_tru (ge_callB call_isi (rc_isi T.own T.kit) T.n_isinstance (by decide +kernel) (ga_cons (ge_var 5) (ga_cons (ge_gref T.m_Meter) (ga_nil)))))) (gw_or (gt_cmp op_in_seq ro_in (ge_propF c_Meter_name hr (ge_var 5)) (ge_var 3) (by rfl)) (gw_or (gt_cmp op_notIn_seq ro_in (ge_propF c_Meter_at hr (ge_var 5)) (ge_var 2) (by rfl)) (gw_or1 (gt_cmp op_ge ro_ge (ge_var 4) (ge_gint T.g_MOST_METERS) (nomark _)))))).gt) (gss_one (gs_never)) (gss_nil))
    (gss_one (gs_append (ge_var 3) (ge_propF c_Meter_name hr (ge_var 5)))))))))
/-! ### Net.__init__ -/
abbrev s_Net_init : Stmt := inClass (top 27) 0
theorem sc_Net_init : FnScope ["self", "pipes", "meters"] ["self", "pipes", "meters"] (defScope s_Net_init) := ⟨rfl, rfl, rfl, by decide +kernel, rfl, by decide +kernel, by decide +kernel⟩
theorem ok_Net_init {P : Program} {w : World} {K : PySem.W.Frag} {mg : Str → Option Value} {base : Heap} {A : Ad} {f : Addr} {fd : FuncData} {dfs : List V} {kfs : List (Str × V)} (T : Txt K mg A) (F : FunD K "__init__" "Net.__init__" (defArgs s_Net_init) (defBody s_Net_init) (defScope s_Net_init) dfs kfs f fd) (c_check_pipes : Fc P w K mg base false "check_pipes" 3 1 (G_check_pipes A)) (c_check_meters : Fc P w K mg base false "check_meters" 3 2 (G_check_meters A)) :
    FnX false P w K mg base 4 f fd ["self", "pipes", "meters"] (spG K 3 (G_Net_init A)) := by
  rw [D_Net_init]
  refine fn_G F sc_Net_init (fun cdv Ar outer s H E hgd hr tk hp => ?_)
  exact gss_cons (gs_expr (ge_callF tk c_check_pipes nogd hr (ga_cons (ge_var 1) (ga_nil))))
    (gss_cons (gs_expr (ge_callF tk c_check_meters nogd hr (ga_cons (ge_var 2) (ga_cons (ge_var 1) (ga_nil)))))
    (gss_cons (gs_fld T.k_Net.cl T.no_Net_joined (ge_var 0) (ge_var 1))
    (gss_one (gs_fld T.k_Net.cl T.no_Net_fitted (ge_var 0) (ge_var 2)))))
/-! ### Pipe.start -/
abbrev s_Pipe_start : Stmt := inClass (top 21) 2
theorem sc_Pipe_start : FnScope ["self"] ["self"] (defScope s_Pipe_start) := ⟨rfl, rfl, rfl, by decide +kernel, rfl, by decide +kernel, by decide +kernel⟩
theorem ok_Pipe_start {P : Program} {w : World} {K : PySem.W.Frag} {mg : Str → Option Value} {base : Heap} {A : Ad} {f : Addr} {fd : FuncData} {dfs : List V} {kfs : List (Str × V)} (T : Txt K mg A) (F : FunD K "start" "Pipe.start" (defArgs s_Pipe_start) (defBody s_Pipe_start) (defScope s_Pipe_start) dfs kfs f fd)  :
    FnX false P w K mg base 1 f fd ["self"] (spG K 1 (G_Pipe_start A)) := by
  rw [D_Pipe_start]
  refine fn_G F sc_Pipe_start (fun cdv Ar outer s H E hgd hr tk hp => ?_)
  exact gss_one (gs_ret (ge_ix ix_seq ro_ix (ge_fld T.k_Pipe.cl T.no_Pipe_kept (ge_var 0)) (ge_int)))
/-! ### Pipe.end -/
abbrev s_Pipe_end : Stmt := inClass (top 21) 3
theorem sc_Pipe_end : FnScope ["self"] ["self"] (defScope s_Pipe_end) := ⟨rfl, rfl, rfl, by decide +kernel, rfl, by decide +kernel, by decide +kernel⟩
theorem ok_Pipe_end {P : Program} {w : World} {K : PySem.W.Frag} {mg : Str → Option Value} {base : Heap} {A : Ad} {f : Addr} {fd : FuncData} {dfs : List V} {kfs : List (Str × V)} (T : Txt K mg A) (F : FunD K "end" "Pipe.end" (defArgs s_Pipe_end) (defBody s_Pipe_end) (defScope s_Pipe_end) dfs kfs f fd)  :
    FnX false P w K mg base 1 f fd ["self"] (spG K 1 (G_Pipe_end A)) := by
  rw [D_Pipe_end]
  refine fn_G F sc_Pipe_end (fun cdv Ar outer s H E hgd hr tk hp => ?_)
  exact gss_one (gs_ret (ge_ix ix_seq ro_ix (ge_fld T.k_Pipe.cl T.no_Pipe_kept (ge_var 0)) (ge_int)))
/-! ### Meter.sealed -/
abbrev s_Meter_sealed : Stmt := inClass (top 22) 3
theorem sc_Meter_sealed : FnScope ["self"] ["self"] (defScope s_Meter_sealed) := ⟨rfl, rfl, rfl, by decide +kernel, rfl, by decide +kernel, by decide +kernel⟩
theorem ok_Meter_sealed {P : Program} {w : World} {K : PySem.W.Frag} {mg : Str → Option Value} {base : Heap} {A : Ad} {f : Addr} {fd : FuncData} {dfs : List V} {kfs : List (Str × V)} (T : Txt K mg A) (F : FunD K "sealed" "Meter.sealed" (defArgs s_Meter_sealed) (defBody s_Meter_sealed) (defScope s_Meter_sealed) dfs kfs f fd)  :
    FnX false P w K mg base 1 f fd ["self"] (spG K 1 (G_Meter_sealed A)) := by
  rw [D_Meter_sealed]
  refine fn_G F sc_Meter_sealed (fun cdv Ar outer s H E hgd hr tk hp => ?_)
  exact gss_one (gs_ret (ge_ix ix_seq ro_ix (ge_fld T.k_Meter.cl T.no_Meter_kept (ge_var 0)) (ge_int)))
/-! ### line_of -/
abbrev s_line_of : Stmt := top 25
theorem sc_line_of : FnScope ["item"] ["item"] (defScope s_line_of) := ⟨rfl, rfl, rfl, by decide +kernel, rfl, by decide +kernel, by decide +kernel⟩
theorem ok_line_of {P : Program} {w : World} {K : PySem.W.Frag} {mg : Str → Option Value} {base : Heap} {A : Ad} {f : Addr} {fd : FuncData} {dfs : List V} {kfs : List (Str × V)} (T : Txt K mg A) (F : FunD K "line_of" "line_of" (defArgs s_line_of) (defBody s_line_of) (defScope s_line_of) dfs kfs f fd) (c_Pipe_name : Pc P w K mg base (A.c "Pipe") "name" 1 (G_Pipe_name A)) (c_Meter_name : Pc P w K mg base (A.c "Meter") "name" 1 (G_Meter_name A)) (c_Meter_at : Pc P w K mg base (A.c "Meter") "at" 1 (G_Meter_at A)) (c_Pipe_start : Pc P w K mg base (A.c "Pipe") "start" 1 (G_Pipe_start A)) (c_Pipe_end : Pc P w K mg base (A.c "Pipe") "end" 1 (G_Pipe_end A)) (c_Meter_sealed : Pc P w K mg base (A.c "Meter") "sealed" 1 (G_Meter_sealed A)) :
    FnX false P w K mg base 3 f fd ["item"] (spG K 1 (G_line_of A)) := by
  rw [D_line_of]
  refine fn_G F sc_line_of (fun cdv Ar outer s H E hgd hr tk hp => ?_)
  exact gss_cons (gs_if (gt_tru tru_ok rt_tru (ge_callB call_isi (rc_isi T.own T.kit) T.n_isinstance (by decide +kernel) (ga_cons (ge_var 0) (ga_cons (ge_gref T.m_Pipe) (ga_nil))))) (gss_one (gs_ret (ge_joined (gj_cons (ge_str) (gj_cons (ge_fmt (ge_propF c_Pipe_name hr (ge_var 0))) (gj_cons (ge_str) (gj_cons (ge_fmt (ge_propF c_Pipe_start hr (ge_var 0))) (gj_cons (ge_str) (gj_cons (ge_fmt (ge_propF c_Pipe_end hr (ge_var 0))) (gj_nil)))))))))) (gss_nil))
    (gss_one (gs_ret (ge_ifExp (gt_tru tru_ok rt_tru (ge_propF c_Meter_sealed hr (ge_var 0))) (ge_joined (gj_cons (ge_str) (gj_cons (ge_fmt (ge_propF c_Meter_name hr (ge_var 0))) (gj_cons (ge_str) (gj_cons (ge_fmt (ge_propF c_Meter_at hr (ge_var 0))) (gj_cons (ge_str) (gj_nil))))))) (ge_joined (gj_cons (ge_str) (gj_cons (ge_fmt (ge_propF c_Meter_name hr (ge_var 0))) (gj_cons (ge_str) (gj_cons (ge_fmt (ge_propF c_Meter_at hr (ge_var 0))) (gj_nil)))))))))
/-! ### Net.__str__ -/
abbrev s_Net_str : Stmt := inClass (top 27) 16
theorem sc_Net_str : FnScope ["self", "item"] ["self"] (defScope s_Net_str) := ⟨rfl, rfl, rfl, by decide +kernel, rfl, by decide +kernel, by decide +kernel⟩
theorem ok_Net_str {P : Program} {w : World} {K : PySem.W.Frag} {mg : Str → Option Value} {base : Heap} {A : Ad} {f : Addr} {fd : FuncData} {dfs : List V} {kfs : List (Str × V)} (T : Txt K mg A) (F : FunD K "__str__" "Net.__str__" (defArgs s_Net_str) (defBody s_Net_str) (defScope s_Net_str) dfs kfs f fd) (c_line_of : Fc P w K mg base false "line_of" 3 1 (G_line_of A)) :
    FnX false P w K mg base 4 f fd ["self"] (spG K 1 (G_Net_str A)) := by
  rw [D_Net_str]
  refine fn_G F sc_Net_str (fun cdv Ar outer s H E hgd hr tk hp => ?_)
  exact gss_one (gs_ret (ge_join (ge_str) (ge_lc (own := [("item", 1)]) rfl sc_Net_str.nd (gi_tup (ge_tup (ga_star (ge_fld T.k_Net.cl T.no_Net_joined (ge_var 0)) (ga_star (ge_fld T.k_Net.cl T.no_Net_fitted (ge_var 0)) (ga_nil))))) (blkOk_by (by rfl)) (fun _ _ _ _ _ => gg_name 1 sc_Net_str.nd) (fun _ _ _ _ _ => gts_nil) (fun _ _ _ _ _ => ge_callF tkF c_line_of nogd hr (ga_cons (ge_var 1) (ga_nil))))))
/-! ### Net.read -/
abbrev s_Net_read : Stmt := inClass (top 27) 1
theorem sc_Net_read : FnScope ["cls", "text", "items", "pipes", "meters", "net", "line", "item"] ["cls", "text"] (defScope s_Net_read) := ⟨rfl, rfl, rfl, by decide +kernel, rfl, by decide +kernel, by decide +kernel⟩
theorem ok_Net_read {P : Program} {w : World} {K : PySem.W.Frag} {mg : Str → Option Value} {base : Heap} {A : Ad} {f : Addr} {fd : FuncData} {dfs : List V} {kfs : List (Str × V)} (T : Txt K mg A) (F : FunD K "read" "Net.read" (defArgs s_Net_read) (defBody s_Net_read) (defScope s_Net_read) dfs kfs f fd) (c_item_of : Fc P w K mg base false "item_of" 5 1 (G_item_of A)) (c_Net_str : Sc P w K mg base (A.c "Net") "__str__" 4 1 (G_Net_str A)) (mk_Net_2 : Mc P w K mg base "Net" (A.c "Net") 4 3 (G_Net_init A) []) :
    FnX false P w K mg base 7 f fd ["cls", "text"] (spG K 2 (G_Net_read A)) := by
  rw [D_Net_read]
  refine fn_G F sc_Net_read (fun cdv Ar outer s H E hgd hr tk hp => ?_)
  exact gss_cons (gs_if (gt_not (gt_tru tru_ok rt_tru (ge_callB call_isi (rc_isi T.own T.kit) T.n_isinstance (by decide +kernel) (ga_cons (ge_var 1) (ga_cons (ge_ty T.n_str (by decide +kernel)) (ga_nil)))))) (gss_one (gs_never)) (gss_nil))
    (gss_cons (gs_setLc 2 (own := [("line", 6)]) rfl sc_Net_read.nd (gi_list (ge_split (ge_var 1) (ge_str))) (blkOk_by (by rfl)) (fun _ _ _ _ _ => gg_name 6 sc_Net_read.nd) (fun _ _ _ _ _ => gts_nil) (fun _ _ _ _ _ => ge_callF tkF c_item_of nogd hr (ga_cons (ge_var 6) (ga_nil))) (sw_true rfl rfl rfl (by decide +kernel)))
    (gss_cons (gs_set 3 sc_Net_read.nd (ge_callTy call_tuple_of rc_tuple T.n_tuple (by decide +kernel) (ga_cons (ge_lc (own := [("item", 7)]) rfl sc_Net_read.nd (gi_list (ge_var 2)) (blkOk_by (by rfl)) (fun _ _ _ _ _ => gg_name 7 sc_Net_read.nd) (fun _ _ _ _ _ => gts_one (gt_tru tru_ok rt_tru (ge_callB call_isi (rc_isi T.own T.kit) T.n_isinstance (by decide +kernel) (ga_cons (ge_var 7) (ga_cons (ge_gref T.m_Pipe) (ga_nil)))))) (fun _ _ _ _ _ => ge_var 7)) (ga_nil))))
    (gss_cons (gs_set 4 sc_Net_read.nd (ge_callTy call_tuple_of rc_tuple T.n_tuple (by decide +kernel) (ga_cons (ge_lc (own := [("item", 7)]) rfl sc_Net_read.nd (gi_list (ge_var 2)) (blkOk_by (by rfl)) (fun _ _ _ _ _ => gg_name 7 sc_Net_read.nd) (fun _ _ _ _ _ => gts_one (gt_tru tru_ok rt_tru (ge_callB call_isi (rc_isi T.own T.kit) T.n_isinstance (by decide +kernel) (ga_cons (ge_var 7) (ga_cons (ge_gref T.m_Meter) (ga_nil)))))) (fun _ _ _ _ _ => ge_var 7)) (ga_nil))))
    (gss_cons (gs_tryThru (gss_one (gs_set 5 sc_Net_read.nd (ge_makeLF 0 tkF mk_Net_2 hr (ga_cons (ge_var 3) (ga_cons (ge_var 4) (ga_nil)))))))
    (gss_cons (gs_if (gt_cmp (op_neA hr) ro_neA (ge_callTyM (call_strF c_Net_str hr) rcm_str T.n_str (by decide +kernel) (ga_cons (ge_var 5) (ga_nil))) (ge_var 1) (nomark _)) (gss_one (gs_never)) (gss_nil))
    (gss_one (gs_ret (ge_var 5))))))))
/-! ### Net.pipes -/
abbrev s_Net_pipes : Stmt := inClass (top 27) 2
theorem sc_Net_pipes : FnScope ["self"] ["self"] (defScope s_Net_pipes) := ⟨rfl, rfl, rfl, by decide +kernel, rfl, by decide +kernel, by decide +kernel⟩
theorem ok_Net_pipes {P : Program} {w : World} {K : PySem.W.Frag} {mg : Str → Option Value} {base : Heap} {A : Ad} {f : Addr} {fd : FuncData} {dfs : List V} {kfs : List (Str × V)} (T : Txt K mg A) (F : FunD K "pipes" "Net.pipes" (defArgs s_Net_pipes) (defBody s_Net_pipes) (defScope s_Net_pipes) dfs kfs f fd)  :
    FnX false P w K mg base 1 f fd ["self"] (spG K 1 (G_Net_pipes A)) := by
  rw [D_Net_pipes]
  refine fn_G F sc_Net_pipes (fun cdv Ar outer s H E hgd hr tk hp => ?_)
  exact gss_one (gs_ret (ge_fld T.k_Net.cl T.no_Net_joined (ge_var 0)))
/-! ### Net.meters -/
abbrev s_Net_meters : Stmt := inClass (top 27) 3
theorem sc_Net_meters : FnScope ["self"] ["self"] (defScope s_Net_meters) := ⟨rfl, rfl, rfl, by decide +kernel, rfl, by decide +kernel, by decide +kernel⟩
theorem ok_Net_meters {P : Program} {w : World} {K : PySem.W.Frag} {mg : Str → Option Value} {base : Heap} {A : Ad} {f : Addr} {fd : FuncData} {dfs : List V} {kfs : List (Str × V)} (T : Txt K mg A) (F : FunD K "meters" "Net.meters" (defArgs s_Net_meters) (defBody s_Net_meters) (defScope s_Net_meters) dfs kfs f fd)  :
    FnX false P w K mg base 1 f fd ["self"] (spG K 1 (G_Net_meters A)) := by
  rw [D_Net_meters]
  refine fn_G F sc_Net_meters (fun cdv Ar outer s H E hgd hr tk hp => ?_)
  exact gss_one (gs_ret (ge_fld T.k_Net.cl T.no_Net_fitted (ge_var 0)))
/-! ### _law_net_text -/
abbrev s_net_text_k11 : Stmt := top 36
theorem sc_net_text_k11 : FnScope ["_law_laid_here", "_law_fits_here", "_law_lines", "_law_row"] ["_law_laid_here", "_law_fits_here"] (defScope s_net_text_k11) := ⟨rfl, rfl, rfl, by decide +kernel, rfl, by decide +kernel, by decide +kernel⟩
theorem ok_net_text_k11 {P : Program} {w : World} {K : PySem.W.Frag} {mg : Str → Option Value} {base : Heap} {A : Ad} {f : Addr} {fd : FuncData} {dfs : List V} {kfs : List (Str × V)} (T : Txt K mg A) (F : FunD K "_law_net_text" "_law_net_text" (defArgs s_net_text_k11) (defBody s_net_text_k11) (defScope s_net_text_k11) dfs kfs f fd)  :
    FnX false P w K mg base 1 f fd ["_law_laid_here", "_law_fits_here"] (spG K 2 (G_net_text_k11 A)) := by
  rw [D_net_text_k11]
  refine fn_G F sc_net_text_k11 (fun cdv Ar outer s H E hgd hr tk hp => ?_)
  exact gss_cons (gs_setLc 2 (own := [("_law_row", 3)]) rfl sc_net_text_k11.nd (gi_list (ge_var 0)) (blkOk_by (by rfl)) (fun _ _ _ _ _ => gg_name 3 sc_net_text_k11.nd) (fun _ _ _ _ _ => gts_nil) (fun _ _ _ _ _ => ge_op op_addA ro_addA (ge_str) (ge_join (ge_str) (ge_var 3))) (sw_true rfl rfl rfl (by decide +kernel)))
    (gss_cons (gs_set 2 sc_net_text_k11.nd (ge_op op_addA ro_addA (ge_var 2) (ge_lc (own := [("_law_row", 3)]) rfl sc_net_text_k11.nd (gi_list (ge_var 1)) (blkOk_by (by rfl)) (fun _ _ _ _ _ => gg_name 3 sc_net_text_k11.nd) (fun _ _ _ _ _ => gts_nil) (fun _ _ _ _ _ => ge_op op_addA ro_addA (ge_op op_addA ro_addA (ge_op op_addA ro_addA (ge_op op_addA ro_addA (ge_str) (ge_ix ix_seq ro_ix (ge_var 3) (ge_int))) (ge_str)) (ge_ix ix_seq ro_ix (ge_var 3) (ge_int))) (ge_ifExp (gt_tru tru_ok rt_tru (ge_ix ix_seq ro_ix (ge_var 3) (ge_int))) (ge_str) (ge_str))))))
    (gss_one (gs_ret (ge_join (ge_str) (ge_var 2)))))
/-! ### Net.__len__ -/
abbrev s_Net_len : Stmt := inClass (top 27) 15
theorem sc_Net_len : FnScope ["self"] ["self"] (defScope s_Net_len) := ⟨rfl, rfl, rfl, by decide +kernel, rfl, by decide +kernel, by decide +kernel⟩
theorem ok_Net_len {P : Program} {w : World} {K : PySem.W.Frag} {mg : Str → Option Value} {base : Heap} {A : Ad} {f : Addr} {fd : FuncData} {dfs : List V} {kfs : List (Str × V)} (T : Txt K mg A) (F : FunD K "__len__" "Net.__len__" (defArgs s_Net_len) (defBody s_Net_len) (defScope s_Net_len) dfs kfs f fd)  :
    FnX false P w K mg base 1 f fd ["self"] (spG K 1 (G_Net_len A)) := by
  rw [D_Net_len]
  refine fn_G F sc_Net_len (fun cdv Ar outer s H E hgd hr tk hp => ?_)
  exact gss_one (gs_ret (ge_callB call_len rc_len T.n_len (by decide +kernel) (ga_cons (ge_fld T.k_Net.cl T.no_Net_joined (ge_var 0)) (ga_nil))))
/-! ### _law_is -/
abbrev s_is_k11 : Stmt := top 37
theorem sc_is_k11 : FnScope ["_law_net_here", "_law_laid_here", "_law_fits_here", "_law_kinds", "_law_told", "_law_more", "_law_each"] ["_law_net_here", "_law_laid_here", "_law_fits_here"] (defScope s_is_k11) := ⟨rfl, rfl, rfl, by decide +kernel, rfl, by decide +kernel, by decide +kernel⟩
theorem ok_is_k11 {P : Program} {w : World} {K : PySem.W.Frag} {mg : Str → Option Value} {base : Heap} {A : Ad} {f : Addr} {fd : FuncData} {dfs : List V} {kfs : List (Str × V)} (T : Txt K mg A) (F : FunD K "_law_is" "_law_is" (defArgs s_is_k11) (defBody s_is_k11) (defScope s_is_k11) dfs kfs f fd) (c_Pipe_name : Pc P w K mg base (A.c "Pipe") "name" 1 (G_Pipe_name A)) (c_Meter_name : Pc P w K mg base (A.c "Meter") "name" 1 (G_Meter_name A)) (c_Meter_at : Pc P w K mg base (A.c "Meter") "at" 1 (G_Meter_at A)) (c_Pipe_start : Pc P w K mg base (A.c "Pipe") "start" 1 (G_Pipe_start A)) (c_Pipe_end : Pc P w K mg base (A.c "Pipe") "end" 1 (G_Pipe_end A)) (c_Meter_sealed : Pc P w K mg base (A.c "Meter") "sealed" 1 (G_Meter_sealed A)) (c_Net_str : Sc P w K mg base (A.c "Net") "__str__" 4 1 (G_Net_str A)) (c_Net_pipes : Pc P w K mg base (A.c "Net") "pipes" 1 (G_Net_pipes A)) (c_Net_meters : Pc P w K mg base (A.c "Net") "meters" 1 (G_Net_meters A)) (c_net_text_k11 : Fc P w K mg base false "_law_net_text" 1 2 (G_net_text_k11 A)) (c_Net_len : Sc P w K mg base (A.c "Net") "__len__" 1 1 (G_Net_len A)) :
    FnX true P w K mg base 7 f fd ["_law_net_here", "_law_laid_here", "_law_fits_here"] (spG K 3 (G_is_k11 A)) := by
  rw [D_is_k11]
  refine fn_G F sc_is_k11 (fun cdv Ar outer s H E hgd hr tk hp => ?_)
  have hgd0 := hgd rfl
  exact gss_cons (gs_if ((gw_or (gt_not (gt_tru tru_ok rt_tru (ge_callB call_isi (rc_isi T.own T.kit) T.n_isinstance (by decide +kernel) (ga_cons (ge_var 0) (ga_cons (ge_gref T.m_Net) (ga_nil)))))) (gw_or (gt_not (gt_tru tru_ok rt_tru (ge_callB call_isi (rc_isi T.own T.kit) T.n_isinstance (by decide +kernel) (ga_cons (ge_propF c_Net_pipes hr (ge_var 0)) (ga_cons (ge_ty T.n_tuple (by decide +kernel)) (ga_nil)))))) (gw_or1 (gt_not (gt_tru tru_ok rt_tru (ge_callB call_isi (rc_isi T.own T.kit) T.n_isinstance (by decide +kernel) (ga_cons (ge_propF c_Net_meters hr (ge_var 0)) (ga_cons (ge_ty T.n_tuple (by decide +kernel)) (ga_nil))))))))).gt) (gss_one (gs_ret (ge_bl))) (gss_nil))
    (gss_cons (gs_set 3 sc_is_k11.nd (ge_op op_addA ro_addA (ge_lc (own := [("_law_each", 6)]) rfl sc_is_k11.nd (gi_tup (ge_propF c_Net_pipes hr (ge_var 0))) (blkOk_by (by rfl)) (fun _ _ _ _ _ => gg_name 6 sc_is_k11.nd) (fun _ _ _ _ _ => gts_nil) (fun _ _ _ _ _ => ge_callB call_isi (rc_isi T.own T.kit) T.n_isinstance (by decide +kernel) (ga_cons (ge_var 6) (ga_cons (ge_gref T.m_Pipe) (ga_nil))))) (ge_lc (own := [("_law_each", 6)]) rfl sc_is_k11.nd (gi_tup (ge_propF c_Net_meters hr (ge_var 0))) (blkOk_by (by rfl)) (fun _ _ _ _ _ => gg_name 6 sc_is_k11.nd) (fun _ _ _ _ _ => gts_nil) (fun _ _ _ _ _ => ge_callB call_isi (rc_isi T.own T.kit) T.n_isinstance (by decide +kernel) (ga_cons (ge_var 6) (ga_cons (ge_gref T.m_Meter) (ga_nil)))))))
    (gss_cons (gs_if (gt_not (gt_tru tru_ok rt_tru (ge_callB (cr_all rfl) rc_all T.n_all (by decide +kernel) (ga_cons (ge_var 3) (ga_nil))))) (gss_one (gs_ret (ge_bl))) (gss_nil))
    (gss_cons (gs_setLc 4 (own := [("_law_each", 6)]) rfl sc_is_k11.nd (gi_tup (ge_propF c_Net_pipes hr (ge_var 0))) (blkOk_by (by rfl)) (fun _ _ _ _ _ => gg_name 6 sc_is_k11.nd) (fun _ _ _ _ _ => gts_nil) (fun _ _ _ _ _ => ge_tup (ga_cons (ge_propF c_Pipe_name hr (ge_var 6)) (ga_cons (ge_propF c_Pipe_start hr (ge_var 6)) (ga_cons (ge_propF c_Pipe_end hr (ge_var 6)) (ga_nil))))) (sw_true rfl rfl rfl (by decide +kernel)))
    (gss_cons (gs_setLc 5 (own := [("_law_each", 6)]) rfl sc_is_k11.nd (gi_tup (ge_propF c_Net_meters hr (ge_var 0))) (blkOk_by (by rfl)) (fun _ _ _ _ _ => gg_name 6 sc_is_k11.nd) (fun _ _ _ _ _ => gts_nil) (fun _ _ _ _ _ => ge_tup (ga_cons (ge_propF c_Meter_name hr (ge_var 6)) (ga_cons (ge_propF c_Meter_at hr (ge_var 6)) (ga_cons (ge_propF c_Meter_sealed hr (ge_var 6)) (ga_nil))))) (sw_true rfl rfl rfl (by decide +kernel)))
    (gss_one (gs_ret (ge_and (ge_cmp (op_eqA hr) ro_eqA (ge_callB (call_repr hgd0 hr) rc_repr T.n_repr (by decide +kernel) (ga_cons (ge_lst (ga_cons (ge_var 4) (ga_cons (ge_var 5) (ga_nil)))) (ga_nil))) (ge_callB (call_repr hgd0 hr) rc_repr T.n_repr (by decide +kernel) (ga_cons (ge_lst (ga_cons (ge_var 1) (ga_cons (ge_var 2) (ga_nil)))) (ga_nil))) (nomark _)) (ge_and (ge_cmp (op_eqA hr) ro_eqA (ge_callTyM (call_strF c_Net_str hr) rcm_str T.n_str (by decide +kernel) (ga_cons (ge_var 0) (ga_nil))) (ge_callF tk c_net_text_k11 nogd hr (ga_cons (ge_var 1) (ga_cons (ge_var 2) (ga_nil)))) (nomark _)) (ge_one (ge_cmp (op_eqA hr) ro_eqA (ge_callBM (call_lenF c_Net_len hr) rcm_len T.n_len (by decide +kernel) (ga_cons (ge_var 0) (ga_nil))) (ge_callB call_len rc_len T.n_len (by decide +kernel) (ga_cons (ge_var 1) (ga_nil))) (nomark _)))))))))))
/-! ### _law_well -/
abbrev s_well_k01 : Stmt := top 29
theorem sc_well_k01 : FnScope ["_law_cells", "_law_k", "_law_cell", "_law_other"] ["_law_cells", "_law_k"] (defScope s_well_k01) := ⟨rfl, rfl, rfl, by decide +kernel, rfl, by decide +kernel, by decide +kernel⟩
theorem ok_well_k01 {P : Program} {w : World} {K : PySem.W.Frag} {mg : Str → Option Value} {base : Heap} {A : Ad} {f : Addr} {fd : FuncData} {dfs : List V} {kfs : List (Str × V)} (T : Txt K mg A) (F : FunD K "_law_well" "_law_well" (defArgs s_well_k01) (defBody s_well_k01) (defScope s_well_k01) dfs kfs f fd)  :
    FnX false P w K mg base 1 f fd ["_law_cells", "_law_k"] (spG K 2 (G_well_k01 A)) := by
  rw [D_well_k01]
  refine fn_N F sc_well_k01 (fun cdv Ar outer s H E hgd hr tk hp => ?_)
  exact gss_cons (gs_set 2 sc_well_k01.nd (ge_ifExp (gt_cmp op_lt ro_lt (ge_var 1) (ge_callB call_len rc_len T.n_len (by decide +kernel) (ga_cons (ge_var 0) (ga_nil))) (nomark _)) (ge_ix ix_seq ro_ix (ge_var 0) (ge_var 1)) (ge_op op_mul ro_mul (ge_op op_mul ro_mul (ge_int) (ge_op op_addA ro_addA (ge_var 1) (ge_int))) (ge_op op_addA ro_addA (ge_var 1) (ge_int)))))
    (gss_cons (gs_if (gt_cmp op_ge ro_ge (ge_var 1) (ge_callB call_len rc_len T.n_len (by decide +kernel) (ga_cons (ge_var 0) (ga_nil))) (nomark _)) (gss_one (gs_for hp rfl (gi_list (ge_var 0)) (gg_name 3 sc_well_k01.nd) (gss_one (gs_set 2 sc_well_k01.nd (ge_op op_mod ro_mod (ge_callTy call_int1 rc_int1 T.n_int (by decide +kernel) (ga_cons (ge_op op_addA ro_addA (ge_op op_mul ro_mul (ge_var 2) (ge_int)) (ge_var 3)) (ga_nil))) (ge_int)))))) (gss_nil))
    (gss_one (gs_ret (ge_new (ga_cons (ge_op op_mod ro_mod (ge_callTy call_int1 rc_int1 T.n_int (by decide +kernel) (ga_cons (ge_var 2) (ga_nil))) (ge_int)) (ga_cons (ge_ifExp (gt_cmp op_ge ro_ge (ge_callB call_abs rc_abs T.n_abs (by decide +kernel) (ga_cons (ge_var 2) (ga_nil))) (ge_op op_pow ro_pow (ge_int) (ge_int)) (nomark _)) (ge_callB call_abs rc_abs T.n_abs (by decide +kernel) (ga_cons (ge_var 2) (ga_nil))) (ge_int)) (ga_cons (ge_int) (ga_nil))))))))
/-! ### _law_dip -/
abbrev s_dip_k01 : Stmt := top 30
theorem sc_dip_k01 : FnScope ["_law_well_here", "_law_many", "_law_digit", "_law_mixed"] ["_law_well_here", "_law_many"] (defScope s_dip_k01) := ⟨rfl, rfl, rfl, by decide +kernel, rfl, by decide +kernel, by decide +kernel⟩
theorem ok_dip_k01 {P : Program} {w : World} {K : PySem.W.Frag} {mg : Str → Option Value} {base : Heap} {A : Ad} {f : Addr} {fd : FuncData} {dfs : List V} {kfs : List (Str × V)} (T : Txt K mg A) (F : FunD K "_law_dip" "_law_dip" (defArgs s_dip_k01) (defBody s_dip_k01) (defScope s_dip_k01) dfs kfs f fd)  :
    FnX false P w K mg base 1 f fd ["_law_well_here", "_law_many"] (spG K 2 (G_dip_k01 A)) := by
  rw [D_dip_k01]
  refine fn_G F sc_dip_k01 (fun cdv Ar outer s H E hgd hr tk hp => ?_)
  exact gss_cons (gs_setIx (ge_op op_addA ro_addA (ge_ix ix_seq ro_ix (ge_var 0) (ge_int)) (ge_int)) (ge_var 0) (ge_int))
    (gss_cons (gs_if (gt_cmp op_gt ro_gt (ge_ix ix_seq ro_ix (ge_var 0) (ge_int)) (ge_int) (nomark _)) (gss_cons (gs_pairSet 2 rfl sc_dip_k01.nd (ge_callB call_divmodW rc_divmod T.n_divmod (by decide +kernel) (ga_cons (ge_ix ix_seq ro_ix (ge_var 0) (ge_int)) (ga_cons (ge_var 1) (ga_nil)))) (ge_var 0) (ge_int))
    (gss_one (gs_ret (ge_var 2)))) (gss_nil))
    (gss_cons (gs_setIx (ge_op op_mod ro_mod (ge_callTy call_int1 rc_int1 T.n_int (by decide +kernel) (ga_cons (ge_op op_addA ro_addA (ge_op op_addA ro_addA (ge_op op_mul ro_mul (ge_ix ix_seq ro_ix (ge_var 0) (ge_int)) (ge_int)) (ge_op op_mul ro_mul (ge_op op_mul ro_mul (ge_int) (ge_ix ix_seq ro_ix (ge_var 0) (ge_int))) (ge_ix ix_seq ro_ix (ge_var 0) (ge_int)))) (ge_int)) (ga_nil))) (ge_int)) (ge_var 0) (ge_int))
    (gss_cons (gs_set 3 sc_dip_k01.nd (ge_op op_mod ro_mod (ge_callTy call_int1 rc_int1 T.n_int (by decide +kernel) (ga_cons (ge_op op_mul ro_mul (ge_ix ix_seq ro_ix (ge_var 0) (ge_int)) (ge_op op_addA ro_addA (ge_op op_mod ro_mod (ge_callTy call_int1 rc_int1 T.n_int (by decide +kernel) (ga_cons (ge_ix ix_seq ro_ix (ge_var 0) (ge_int)) (ga_nil))) (ge_int)) (ge_int))) (ga_nil))) (ge_int)))
    (gss_one (gs_ret (ge_op op_mod ro_mod (ge_callTy call_int1 rc_int1 T.n_int (by decide +kernel) (ga_cons (ge_op op_fdiv ro_fdiv (ge_var 3) (ge_int)) (ga_nil))) (ge_var 1)))))))
/-! ### _law_name -/
abbrev s_name_k02 : Stmt := top 31
theorem sc_name_k02 : FnScope ["_law_well_here", "_law_signs", "_law_line", "_law_turn"] ["_law_well_here"] (defScope s_name_k02) := ⟨rfl, rfl, rfl, by decide +kernel, rfl, by decide +kernel, by decide +kernel⟩
theorem ok_name_k02 {P : Program} {w : World} {K : PySem.W.Frag} {mg : Str → Option Value} {base : Heap} {A : Ad} {f : Addr} {fd : FuncData} {dfs : List V} {kfs : List (Str × V)} (T : Txt K mg A) (F : FunD K "_law_name" "_law_name" (defArgs s_name_k02) (defBody s_name_k02) (defScope s_name_k02) dfs kfs f fd) (c_dip_k01 : Fc P w K mg base false "_law_dip" 1 2 (G_dip_k01 A)) :
    FnX false P w K mg base 2 f fd ["_law_well_here"] (spG K 1 (G_name_k02 A)) := by
  rw [D_name_k02]
  refine fn_G F sc_name_k02 (fun cdv Ar outer s H E hgd hr tk hp => ?_)
  exact gss_cons (gs_if (gt_cmp (op_eqA hr) ro_eqA (ge_callF tk c_dip_k01 nogd hr (ga_cons (ge_var 0) (ga_cons (ge_int) (ga_nil)))) (ge_int) (nomark _)) (gss_one (gs_ret (ge_ix ix_seq ro_ix (ge_lst (ga_cons (ge_str) (ga_cons (ge_str) (ga_cons (ge_str) (ga_cons (ge_str) (ga_cons (ge_str) (ga_cons (ge_str) (ga_cons (ge_str) (ga_cons (ge_str) (ga_nil)))))))))) (ge_callF tk c_dip_k01 nogd hr (ga_cons (ge_var 0) (ga_cons (ge_int) (ga_nil))))))) (gss_nil))
    (gss_cons (gs_set 1 sc_name_k02.nd (ge_str))
    (gss_cons (gs_set 2 sc_name_k02.nd (ge_ix ix_seq ro_ix (ge_var 1) (ge_callF tk c_dip_k01 nogd hr (ga_cons (ge_var 0) (ga_cons (ge_int) (ga_nil))))))
    (gss_cons (gs_for hp rfl (gi_range1 T.n_range (ga_cons (ge_callF tk c_dip_k01 nogd hr (ga_cons (ge_var 0) (ga_cons (ge_int) (ga_nil)))) (ga_nil))) (gg_name 3 sc_name_k02.nd) (gss_one (gs_set 2 sc_name_k02.nd (ge_op op_addA ro_addA (ge_var 2) (ge_ix ix_seq ro_ix (ge_var 1) (ge_callF tk c_dip_k01 nogd hr (ga_cons (ge_var 0) (ga_cons (ge_int) (ga_nil)))))))))
    (gss_one (gs_ret (ge_var 2))))))
/-! ### _law_fresh -/
abbrev s_fresh_k09 : Stmt := top 32
theorem sc_fresh_k09 : FnScope ["_law_well_here", "_law_taken", "_law_way", "_law_title", "_law_mate", "_law_free", "_law_sign", "_law_each"] ["_law_well_here", "_law_taken"] (defScope s_fresh_k09) := ⟨rfl, rfl, rfl, by decide +kernel, rfl, by decide +kernel, by decide +kernel⟩
theorem ok_fresh_k09 {P : Program} {w : World} {K : PySem.W.Frag} {mg : Str → Option Value} {base : Heap} {A : Ad} {f : Addr} {fd : FuncData} {dfs : List V} {kfs : List (Str × V)} (T : Txt K mg A) (F : FunD K "_law_fresh" "_law_fresh" (defArgs s_fresh_k09) (defBody s_fresh_k09) (defScope s_fresh_k09) dfs kfs f fd) (c_dip_k01 : Fc P w K mg base false "_law_dip" 1 2 (G_dip_k01 A)) (c_name_k02 : Fc P w K mg base false "_law_name" 2 1 (G_name_k02 A)) :
    FnX false P w K mg base 3 f fd ["_law_well_here", "_law_taken"] (spG K 2 (G_fresh_k09 A)) := by
  rw [D_fresh_k09]
  refine fn_G F sc_fresh_k09 (fun cdv Ar outer s H E hgd hr tk hp => ?_)
  exact gss_cons (gs_asg (ge_tup (ga_cons (ge_callF tk c_dip_k01 nogd hr (ga_cons (ge_var 0) (ga_cons (ge_int) (ga_nil)))) (ga_cons (ge_callF tk c_name_k02 nogd hr (ga_cons (ge_var 0) (ga_nil))) (ga_nil)))) (gg_tup rfl (ggs_cons (gg_name 2 sc_fresh_k09.nd) (ggs_cons (gg_name 3 sc_fresh_k09.nd) (ggs_nil)))))
    (gss_cons (gs_if ((gw_and (gt_cmp (op_neA hr) ro_neA (ge_var 1) (ge_lst (ga_nil)) (nomark _)) (gw_and1 (gt_cmp op_lt ro_lt (ge_var 2) (ge_int) (nomark _)))).gt) (gss_cons (gs_set 4 sc_fresh_k09.nd (ge_ix ix_seq ro_ix (ge_var 1) (ge_callF tk c_dip_k01 nogd hr (ga_cons (ge_var 0) (ga_cons (ge_callB call_len rc_len T.n_len (by decide +kernel) (ga_cons (ge_var 1) (ga_nil))) (ga_nil))))))
    (gss_one (gs_set 3 sc_fresh_k09.nd (ge_ifExp (gt_cmp (op_eqA hr) ro_eqA (ge_var 2) (ge_int) (nomark _)) (ge_slice sl_A rsl_A (ge_op op_addA ro_addA (ge_var 4) (ge_var 3)) (go_none) (go_some (ge_int))) (ge_slice sl_A rsl_A (ge_var 4) (go_none) (go_some (ge_op op_addA ro_addA (ge_int) (ge_callF tk c_dip_k01 nogd hr (ga_cons (ge_var 0) (ga_cons (ge_int) (ga_nil))))))))))) (gss_nil))
    (gss_cons (gs_if (gt_cmp op_notIn_seq ro_in (ge_var 3) (ge_var 1) (by rfl)) (gss_one (gs_ret (ge_var 3))) (gss_nil))
    (gss_cons (gs_setLc 5 (own := [("_law_sign", 6)]) rfl sc_fresh_k09.nd (gi_str (ge_str)) (blkOk_by (by rfl)) (fun _ _ _ _ _ => gg_name 6 sc_fresh_k09.nd) (fun _ _ _ _ _ => gts_nil) (fun _ _ _ _ _ => ge_op op_addA ro_addA (ge_slice sl_A rsl_A (ge_var 3) (go_none) (go_some (ge_int))) (ge_var 6)) (sw_true rfl rfl rfl (by decide +kernel)))
    (gss_one (gs_ret (ge_ix ix_seq ro_ix (ge_lc (own := [("_law_each", 7)]) rfl sc_fresh_k09.nd (gi_list (ge_var 5)) (blkOk_by (by rfl)) (fun _ _ _ _ _ => gg_name 7 sc_fresh_k09.nd) (fun _ _ _ _ _ => gts_one (gt_cmp op_notIn_seq ro_in (ge_var 7) (ge_var 1) (by rfl))) (fun _ _ _ _ _ => ge_var 7)) (ge_int)))))))
/-! ### _law_laid -/
abbrev s_laid_k12 : Stmt := top 33
theorem sc_laid_k12 : FnScope ["_law_well_here", "_law_least", "_law_most", "_law_places", "_law_found", "_law_turn", "_law_here", "_law_step", "_law_title", "_law_row"] ["_law_well_here", "_law_least", "_law_most"] (defScope s_laid_k12) := ⟨rfl, rfl, rfl, by decide +kernel, rfl, by decide +kernel, by decide +kernel⟩
theorem ok_laid_k12 {P : Program} {w : World} {K : PySem.W.Frag} {mg : Str → Option Value} {base : Heap} {A : Ad} {f : Addr} {fd : FuncData} {dfs : List V} {kfs : List (Str × V)} (T : Txt K mg A) (F : FunD K "_law_laid" "_law_laid" (defArgs s_laid_k12) (defBody s_laid_k12) (defScope s_laid_k12) dfs kfs f fd) (c_dip_k01 : Fc P w K mg base false "_law_dip" 1 2 (G_dip_k01 A)) (c_fresh_k09 : Fc P w K mg base false "_law_fresh" 3 2 (G_fresh_k09 A)) :
    FnX false P w K mg base 4 f fd ["_law_well_here", "_law_least", "_law_most"] (spG K 3 (G_laid_k12 A)) := by
  rw [D_laid_k12]
  refine fn_G F sc_laid_k12 (fun cdv Ar outer s H E hgd hr tk hp => ?_)
  exact gss_cons (gs_par2 3 4 rfl sc_laid_k12.nd (ga_cons (ge_new (ga_nil)) (ga_cons (ge_new (ga_nil)) (ga_nil))))
    (gss_cons (gs_for hp rfl (gi_range1 T.n_range (ga_cons (ge_op op_addA ro_addA (ge_int) (ge_callF tk c_dip_k01 nogd hr (ga_cons (ge_var 0) (ga_cons (ge_int) (ga_nil))))) (ga_nil))) (gg_name 5 sc_laid_k12.nd) (gss_one (gs_append (ge_var 3) (ge_callF tk c_fresh_k09 nogd hr (ga_cons (ge_var 0) (ga_cons (ge_var 3) (ga_nil)))))))
    (gss_cons (gs_for hp rfl (gi_range1 T.n_range (ga_cons (ge_op op_addA ro_addA (ge_var 1) (ge_callF tk c_dip_k01 nogd hr (ga_cons (ge_var 0) (ga_cons (ge_op op_sub ro_sub (ge_op op_addA ro_addA (ge_var 2) (ge_int)) (ge_var 1)) (ga_nil))))) (ga_nil))) (gg_name 5 sc_laid_k12.nd) (gss_cons (gs_par2 6 7 rfl sc_laid_k12.nd (ga_cons (ge_callF tk c_dip_k01 nogd hr (ga_cons (ge_var 0) (ga_cons (ge_callB call_len rc_len T.n_len (by decide +kernel) (ga_cons (ge_var 3) (ga_nil))) (ga_nil)))) (ga_cons (ge_op op_addA ro_addA (ge_int) (ge_callF tk c_dip_k01 nogd hr (ga_cons (ge_var 0) (ga_cons (ge_op op_sub ro_sub (ge_callB call_len rc_len T.n_len (by decide +kernel) (ga_cons (ge_var 3) (ga_nil))) (ge_int)) (ga_nil))))) (ga_nil))))
    (gss_cons (gs_set 8 sc_laid_k12.nd (ge_callF tk c_fresh_k09 nogd hr (ga_cons (ge_var 0) (ga_cons (ge_lc (own := [("_law_row", 9)]) rfl sc_laid_k12.nd (gi_list (ge_var 4)) (blkOk_by (by rfl)) (fun _ _ _ _ _ => gg_name 9 sc_laid_k12.nd) (fun _ _ _ _ _ => gts_nil) (fun _ _ _ _ _ => ge_ix ix_seq ro_ix (ge_var 9) (ge_int))) (ga_nil)))))
    (gss_one (gs_append (ge_var 4) (ge_tup (ga_cons (ge_var 8) (ga_cons (ge_ix ix_seq ro_ix (ge_var 3) (ge_var 6)) (ga_cons (ge_ix ix_seq ro_ix (ge_var 3) (ge_op op_mod ro_mod (ge_callTy call_int1 rc_int1 T.n_int (by decide +kernel) (ga_cons (ge_op op_addA ro_addA (ge_var 6) (ge_var 7)) (ga_nil))) (ge_callB call_len rc_len T.n_len (by decide +kernel) (ga_cons (ge_var 3) (ga_nil))))) (ga_nil))))))))))
    (gss_one (gs_ret (ge_var 4)))))
/-! ### _law_fits -/
abbrev s_fits_k12 : Stmt := top 34
theorem sc_fits_k12 : FnScope ["_law_well_here", "_law_laid_here", "_law_most", "_law_found", "_law_turn", "_law_at", "_law_shut", "_law_twin", "_law_taken", "_law_title", "_law_row"] ["_law_well_here", "_law_laid_here", "_law_most"] (defScope s_fits_k12) := ⟨rfl, rfl, rfl, by decide +kernel, rfl, by decide +kernel, by decide +kernel⟩
theorem ok_fits_k12 {P : Program} {w : World} {K : PySem.W.Frag} {mg : Str → Option Value} {base : Heap} {A : Ad} {f : Addr} {fd : FuncData} {dfs : List V} {kfs : List (Str × V)} (T : Txt K mg A) (F : FunD K "_law_fits" "_law_fits" (defArgs s_fits_k12) (defBody s_fits_k12) (defScope s_fits_k12) dfs kfs f fd) (c_dip_k01 : Fc P w K mg base false "_law_dip" 1 2 (G_dip_k01 A)) (c_fresh_k09 : Fc P w K mg base false "_law_fresh" 3 2 (G_fresh_k09 A)) :
    FnX false P w K mg base 4 f fd ["_law_well_here", "_law_laid_here", "_law_most"] (spG K 3 (G_fits_k12 A)) := by
  rw [D_fits_k12]
  refine fn_G F sc_fits_k12 (fun cdv Ar outer s H E hgd hr tk hp => ?_)
  exact gss_cons (gs_set 3 sc_fits_k12.nd (ge_new (ga_nil)))
    (gss_cons (gs_for hp rfl (gi_range1 T.n_range (ga_cons (ge_callF tk c_dip_k01 nogd hr (ga_cons (ge_var 0) (ga_cons (ge_op op_addA ro_addA (ge_var 2) (ge_int)) (ga_nil)))) (ga_nil))) (gg_name 4 sc_fits_k12.nd) (gss_cons (gs_par3 5 6 7 rfl sc_fits_k12.nd (ga_cons (ge_callF tk c_dip_k01 nogd hr (ga_cons (ge_var 0) (ga_cons (ge_callB call_len rc_len T.n_len (by decide +kernel) (ga_cons (ge_var 1) (ga_nil))) (ga_nil)))) (ga_cons (ge_cmp (op_eqA hr) ro_eqA (ge_callF tk c_dip_k01 nogd hr (ga_cons (ge_var 0) (ga_cons (ge_int) (ga_nil)))) (ge_int) (nomark _)) (ga_cons (ge_cmp (op_eqA hr) ro_eqA (ge_callF tk c_dip_k01 nogd hr (ga_cons (ge_var 0) (ga_cons (ge_int) (ga_nil)))) (ge_int) (nomark _)) (ga_nil)))))
    (gss_cons (gs_setLc 8 (own := [("_law_row", 10)]) rfl sc_fits_k12.nd (gi_list (ge_var 3)) (blkOk_by (by rfl)) (fun _ _ _ _ _ => gg_name 10 sc_fits_k12.nd) (fun _ _ _ _ _ => gts_nil) (fun _ _ _ _ _ => ge_ix ix_seq ro_ix (ge_var 10) (ge_int)) (sw_true rfl rfl rfl (by decide +kernel)))
    (gss_cons (gs_set 9 sc_fits_k12.nd (ge_ifExp ((gw_and (gt_tru tru_ok rt_tru (ge_var 7)) (gw_and1 (gt_cmp op_notIn_seq ro_in (ge_ix ix_seq ro_ix (ge_ix ix_seq ro_ix (ge_var 1) (ge_var 5)) (ge_int)) (ge_var 8) (by rfl)))).gt) (ge_ix ix_seq ro_ix (ge_ix ix_seq ro_ix (ge_var 1) (ge_var 5)) (ge_int)) (ge_callF tk c_fresh_k09 nogd hr (ga_cons (ge_var 0) (ga_cons (ge_var 8) (ga_nil))))))
    (gss_one (gs_append (ge_var 3) (ge_tup (ga_cons (ge_var 9) (ga_cons (ge_ix ix_seq ro_ix (ge_ix ix_seq ro_ix (ge_var 1) (ge_var 5)) (ge_int)) (ga_cons (ge_var 6) (ga_nil)))))))))))
    (gss_one (gs_ret (ge_var 3))))
/-! ### _law_net -/
abbrev s_net_k11 : Stmt := top 35
theorem sc_net_k11 : FnScope ["_law_laid_here", "_law_fits_here", "_law_some", "_law_row"] ["_law_laid_here", "_law_fits_here"] (defScope s_net_k11) := ⟨rfl, rfl, rfl, by decide +kernel, rfl, by decide +kernel, by decide +kernel⟩
theorem ok_net_k11 {P : Program} {w : World} {K : PySem.W.Frag} {mg : Str → Option Value} {base : Heap} {A : Ad} {f : Addr} {fd : FuncData} {dfs : List V} {kfs : List (Str × V)} (T : Txt K mg A) (F : FunD K "_law_net" "_law_net" (defArgs s_net_k11) (defBody s_net_k11) (defScope s_net_k11) dfs kfs f fd) (mk_Meter_2_sealed : Mk_ P w K mg base "Meter" (A.c "Meter") 3 4 2 ["sealed"] (G_Meter_init A) (perm [0])) (mk_Net_2 : Mc P w K mg base "Net" (A.c "Net") 4 3 (G_Net_init A) []) (mk_Pipe_3 : Mc P w K mg base "Pipe" (A.c "Pipe") 3 4 (G_Pipe_init A) []) :
    FnX false P w K mg base 6 f fd ["_law_laid_here", "_law_fits_here"] (spG K 2 (G_net_k11 A)) := by
  rw [D_net_k11]
  refine fn_G F sc_net_k11 (fun cdv Ar outer s H E hgd hr tk hp => ?_)
  exact gss_cons (gs_setLc 2 (own := [("_law_row", 3)]) rfl sc_net_k11.nd (gi_list (ge_var 0)) (blkOk_by (by rfl)) (fun _ _ _ _ _ => gg_name 3 sc_net_k11.nd) (fun _ _ _ _ _ => gts_nil) (fun _ _ _ _ _ => ge_makeF tkF mk_Pipe_3 hr (ga_cons (ge_ix ix_seq ro_ix (ge_var 3) (ge_int)) (ga_cons (ge_ix ix_seq ro_ix (ge_var 3) (ge_int)) (ga_cons (ge_ix ix_seq ro_ix (ge_var 3) (ge_int)) (ga_nil))))) (sw_true rfl rfl rfl (by decide +kernel)))
    (gss_one (gs_ret (ge_makeF tk mk_Net_2 hr (ga_cons (ge_callTy call_tuple_of rc_tuple T.n_tuple (by decide +kernel) (ga_cons (ge_var 2) (ga_nil))) (ga_cons (ge_callTy call_tuple_of rc_tuple T.n_tuple (by decide +kernel) (ga_cons (ge_lc (own := [("_law_row", 3)]) rfl sc_net_k11.nd (gi_list (ge_var 1)) (blkOk_by (by rfl)) (fun _ _ _ _ _ => gg_name 3 sc_net_k11.nd) (fun _ _ _ _ _ => gts_nil) (fun _ _ _ _ _ => ge_makeKF (ks := ["sealed"]) tkF mk_Meter_2_sealed hr (ga_cons (ge_ix ix_seq ro_ix (ge_var 3) (ge_int)) (ga_cons (ge_ix ix_seq ro_ix (ge_var 3) (ge_int)) (ga_nil))) (gk_cons (ge_ix ix_seq ro_ix (ge_var 3) (ge_int)) (gk_nil)))) (ga_nil))) (ga_nil))))))
/-! ### Net.__eq__ -/
abbrev s_Net_eq : Stmt := inClass (top 27) 18
theorem sc_Net_eq : FnScope ["self", "other"] ["self", "other"] (defScope s_Net_eq) := ⟨rfl, rfl, rfl, by decide +kernel, rfl, by decide +kernel, by decide +kernel⟩
theorem ok_Net_eq {P : Program} {w : World} {K : PySem.W.Frag} {mg : Str → Option Value} {base : Heap} {A : Ad} {f : Addr} {fd : FuncData} {dfs : List V} {kfs : List (Str × V)} (T : Txt K mg A) (F : FunD K "__eq__" "Net.__eq__" (defArgs s_Net_eq) (defBody s_Net_eq) (defScope s_Net_eq) dfs kfs f fd) (c_Net_str : Sc P w K mg base (A.c "Net") "__str__" 4 1 (G_Net_str A)) :
    FnX false P w K mg base 7 f fd ["self", "other"] (spG K 2 (G_Net_eq A)) := by
  rw [D_Net_eq]
  refine fn_G F sc_Net_eq (fun cdv Ar outer s H E hgd hr tk hp => ?_)
  exact gss_one (gs_ret (ge_and (ge_callB call_isi (rc_isi T.own T.kit) T.n_isinstance (by decide +kernel) (ga_cons (ge_var 1) (ga_cons (ge_gref T.m_Net) (ga_nil)))) (ge_one (ge_cmp (op_eqA hr) ro_eqA (ge_callTyM (call_strF c_Net_str hr) rcm_str T.n_str (by decide +kernel) (ga_cons (ge_var 0) (ga_nil))) (ge_callTyM (call_strF c_Net_str hr) rcm_str T.n_str (by decide +kernel) (ga_cons (ge_var 1) (ga_nil))) (nomark _)))))
/-! ### _law_right -/
abbrev s_right_k12 : Stmt := top 38
theorem sc_right_k12 : FnScope ["_law_well_here", "_law_laid_here", "_law_fits_here", "_law_line", "_law_net_here", "_law_back", "_law_other"] ["_law_well_here"] (defScope s_right_k12) := ⟨rfl, rfl, rfl, by decide +kernel, rfl, by decide +kernel, by decide +kernel⟩
theorem ok_right_k12 {P : Program} {w : World} {K : PySem.W.Frag} {mg : Str → Option Value} {base : Heap} {A : Ad} {f : Addr} {fd : FuncData} {dfs : List V} {kfs : List (Str × V)} (T : Txt K mg A) (F : FunD K "_law_right" "_law_right" (defArgs s_right_k12) (defBody s_right_k12) (defScope s_right_k12) dfs kfs f fd) (c_Net_str : Sc P w K mg base (A.c "Net") "__str__" 4 1 (G_Net_str A)) (c_Net_read : Cm P w K mg base (A.c "Net") "read" 7 2 (G_Net_read A)) (c_net_text_k11 : Fc P w K mg base false "_law_net_text" 1 2 (G_net_text_k11 A)) (c_is_k11 : Fc P w K mg base true "_law_is" 7 3 (G_is_k11 A)) (c_laid_k12 : Fc P w K mg base false "_law_laid" 4 3 (G_laid_k12 A)) (c_fits_k12 : Fc P w K mg base false "_law_fits" 4 3 (G_fits_k12 A)) (c_net_k11 : Fc P w K mg base false "_law_net" 6 2 (G_net_k11 A)) (c_Net_eq : Ec P w K mg base (A.c "Net") 7 (G_Net_eq A)) (ck_Net_read_text : CmK P w K mg base (A.c "Net") "read" 7 2 ["text"] (G_Net_read A) (perm [0])) :
    FnX true P w K mg base 9 f fd ["_law_well_here"] (spG K 1 (G_right_k12 A)) := by
  rw [D_right_k12]
  refine fn_G F sc_right_k12 (fun cdv Ar outer s H E hgd hr tk hp => ?_)
  have hgd0 := hgd rfl
  exact gss_cons (gs_set 1 sc_right_k12.nd (ge_callF tk c_laid_k12 nogd hr (ga_cons (ge_var 0) (ga_cons (ge_int) (ga_cons (ge_int) (ga_nil))))))
    (gss_cons (gs_set 2 sc_right_k12.nd (ge_callF tk c_fits_k12 nogd hr (ga_cons (ge_var 0) (ga_cons (ge_var 1) (ga_cons (ge_int) (ga_nil))))))
    (gss_cons (gs_par2 3 4 rfl sc_right_k12.nd (ga_cons (ge_callF tk c_net_text_k11 nogd hr (ga_cons (ge_var 1) (ga_cons (ge_var 2) (ga_nil)))) (ga_cons (ge_callF tk c_net_k11 nogd hr (ga_cons (ge_var 1) (ga_cons (ge_var 2) (ga_nil)))) (ga_nil))))
    (gss_cons (gs_if (gt_cmp (op_neA hr) ro_neA (ge_callB (call_repr hgd0 hr) rc_repr T.n_repr (by decide +kernel) (ga_cons (ge_callTyM (call_strF c_Net_str hr) rcm_str T.n_str (by decide +kernel) (ga_cons (ge_var 4) (ga_nil))) (ga_nil))) (ge_callB (call_repr hgd0 hr) rc_repr T.n_repr (by decide +kernel) (ga_cons (ge_var 3) (ga_nil))) (nomark _)) (gss_one (gs_ret (ge_bl))) (gss_nil))
    (gss_cons (gs_for hp rfl (gi_list (ge_lst (ga_cons (ge_cmeth tk c_Net_read hr (ge_gref T.m_Net) (ga_cons (ge_var 3) (ga_nil))) (ga_cons (ge_cmethK (ks := ["text"]) tk ck_Net_read_text hr (ge_gref T.m_Net) (gk_cons (ge_var 3) (gk_nil))) (ga_cons (ge_cmeth tk c_Net_read hr (ge_gref T.m_Net) (ga_cons (ge_callTyM (call_strF c_Net_str hr) rcm_str T.n_str (by decide +kernel) (ga_cons (ge_var 4) (ga_nil))) (ga_nil))) (ga_nil)))))) (gg_name 5 sc_right_k12.nd) (gss_one (gs_if ((gw_or (gt_not (gt_tru tru_ok rt_tru (ge_callF tk c_is_k11 hgd hr (ga_cons (ge_var 5) (ga_cons (ge_var 1) (ga_cons (ge_var 2) (ga_nil))))))) (gw_or (gt_not (gt_cmpM (op_eqF c_Net_eq hr) (fun _ => rom_eqOwn T.own T.nf_Net) (ge_var 5) (ge_var 4) (nomark _))) (gw_or1 (gt_cmpM (op_neF c_Net_eq hr) (fun _ => rom_eqOwn T.own T.nf_Net) (ge_var 4) (ge_var 5) (nomark _))))).gt) (gss_one (gs_ret (ge_bl))) (gss_nil))))
    (gss_cons (gs_set 6 sc_right_k12.nd (ge_cmeth tk c_Net_read hr (ge_gref T.m_Net) (ga_cons (ge_callF tk c_net_text_k11 nogd hr (ga_cons (ge_var 1) (ga_cons (ge_lst (ga_nil)) (ga_nil)))) (ga_nil))))
    (gss_one (gs_ret (ge_and (ge_callF tk c_is_k11 hgd hr (ga_cons (ge_var 6) (ga_cons (ge_var 1) (ga_cons (ge_lst (ga_nil)) (ga_nil))))) (ge_one (ge_cmp (op_eqA hr) ro_eqA (ge_cmpM (op_eqF c_Net_eq hr) (fun _ => rom_eqOwn T.own T.nf_Net) (ge_var 6) (ge_var 4) (nomark _)) (ge_cmp (op_eqA hr) ro_eqA (ge_var 2) (ge_lst (ga_nil)) (nomark _)) (nomark _)))))))))))
/-! ### law -/
abbrev s_law_k12 : Stmt := top 39
theorem sc_law_k12 : FnScope ["_law_cells", "_law_line", "_law_k", "_law_well_here", "_law_turn"] ["_law_cells"] (defScope s_law_k12) := ⟨rfl, rfl, rfl, by decide +kernel, rfl, by decide +kernel, by decide +kernel⟩
theorem ok_law_k12 {P : Program} {w : World} {K : PySem.W.Frag} {mg : Str → Option Value} {base : Heap} {A : Ad} {f : Addr} {fd : FuncData} {dfs : List V} {kfs : List (Str × V)} (T : Txt K mg A) (F : FunD K "law" "law" (defArgs s_law_k12) (defBody s_law_k12) (defScope s_law_k12) dfs kfs f fd) (c_Net_read : Cm P w K mg base (A.c "Net") "read" 7 2 (G_Net_read A)) (c_is_k11 : Fc P w K mg base true "_law_is" 7 3 (G_is_k11 A)) (c_well_k01 : Fc P w K mg base false "_law_well" 1 2 (G_well_k01 A)) (c_right_k12 : Fc P w K mg base true "_law_right" 9 1 (G_right_k12 A)) :
    FnX true P w K mg base 10 f fd ["_law_cells"] (spG K 1 (G_law_k12 A)) := by
  rw [D_law_k12]
  refine fn_G F sc_law_k12 (fun cdv Ar outer s H E hgd hr tk hp => ?_)
  have hgd0 := hgd rfl
  exact gss_cons (gs_set 1 sc_law_k12.nd (ge_str))
    (gss_cons (gs_if (gt_not (gt_tru tru_ok rt_tru (ge_callF tk c_is_k11 hgd hr (ga_cons (ge_cmeth tk c_Net_read hr (ge_gref T.m_Net) (ga_cons (ge_var 1) (ga_nil))) (ga_cons (ge_lst (ga_cons (ge_tup (ga_cons (ge_str) (ga_cons (ge_str) (ga_cons (ge_str) (ga_nil))))) (ga_cons (ge_tup (ga_cons (ge_str) (ga_cons (ge_str) (ga_cons (ge_str) (ga_nil))))) (ga_nil)))) (ga_cons (ge_lst (ga_cons (ge_tup (ga_cons (ge_str) (ga_cons (ge_str) (ga_cons (ge_bl) (ga_nil))))) (ga_cons (ge_tup (ga_cons (ge_str) (ga_cons (ge_str) (ga_cons (ge_bl) (ga_nil))))) (ga_nil)))) (ga_nil))))))) (gss_one (gs_ret (ge_bl))) (gss_nil))
    (gss_cons (gs_for hp rfl (gi_range1 T.n_range (ga_cons (ge_callB (call_max2 rfl) rc_max2 T.n_max (by decide +kernel) (ga_cons (ge_int) (ga_cons (ge_callB (call_min2 rfl) rc_min2 T.n_min (by decide +kernel) (ga_cons (ge_callB call_len rc_len T.n_len (by decide +kernel) (ga_cons (ge_var 0) (ga_nil))) (ga_cons (ge_int) (ga_nil)))) (ga_nil)))) (ga_nil))) (gg_name 2 sc_law_k12.nd) (gss_cons (gs_set 3 sc_law_k12.nd (ge_callF tk c_well_k01 nogd hr (ga_cons (ge_var 0) (ga_cons (ge_var 2) (ga_nil)))))
    (gss_one (gs_if (gt_not (gt_tru tru_ok rt_tru (ge_callB (cr_all rfl) rc_all T.n_all (by decide +kernel) (ga_cons (ge_lc (own := [("_law_turn", 4)]) rfl sc_law_k12.nd (gi_range1 T.n_range (ga_cons (ge_int) (ga_nil))) (blkOk_by (by rfl)) (fun _ _ _ _ _ => gg_name 4 sc_law_k12.nd) (fun _ _ _ _ _ => gts_nil) (fun _ _ _ _ _ => ge_callF tkF c_right_k12 hgd hr (ga_cons (ge_var 3) (ga_nil)))) (ga_nil))))) (gss_one (gs_ret (ge_bl))) (gss_nil)))))
    (gss_one (gs_ret (ge_bl)))))
end K12
end
section
namespace K12
open PySem L2 RV
def ad (K : PySem.W.Frag) : Ad := ⟨fun n => He.ga K (PySem.Str.ofString n), ["Pipe", "Meter", "Net"]⟩
def d_is_name : He5.DefA := ⟨fun K => He.ga K "is_name", "is_name", "is_name", defArgs s_is_name, defBody s_is_name, defScope s_is_name, [], []⟩
def d_check_name : He5.DefA := ⟨fun K => He.ga K "check_name", "check_name", "check_name", defArgs s_check_name, defBody s_check_name, defScope s_check_name, [], []⟩
def d_Pipe_init : He5.DefA := ⟨fun K => He.ma K (He.ga K "Pipe") "__init__", "__init__", "Pipe.__init__", defArgs s_Pipe_init, defBody s_Pipe_init, defScope s_Pipe_init, [], []⟩
def d_Meter_init : He5.DefA := ⟨fun K => He.ma K (He.ga K "Meter") "__init__", "__init__", "Meter.__init__", defArgs s_Meter_init, defBody s_Meter_init, defScope s_Meter_init, [], [("sealed", .bl false)]⟩
def d_item_of : He5.DefA := ⟨fun K => He.ga K "item_of", "item_of", "item_of", defArgs s_item_of, defBody s_item_of, defScope s_item_of, [], []⟩
def d_Pipe_name : He5.DefA := ⟨fun K => He5.wf K (He.ga K "Pipe") "property" "name", "name", "Pipe.name", defArgs s_Pipe_name, defBody s_Pipe_name, defScope s_Pipe_name, [], []⟩
def d_check_pipes : He5.DefA := ⟨fun K => He.ga K "check_pipes", "check_pipes", "check_pipes", defArgs s_check_pipes, defBody s_check_pipes, defScope s_check_pipes, [], []⟩
def d_Meter_name : He5.DefA := ⟨fun K => He5.wf K (He.ga K "Meter") "property" "name", "name", "Meter.name", defArgs s_Meter_name, defBody s_Meter_name, defScope s_Meter_name, [], []⟩
def d_Meter_at : He5.DefA := ⟨fun K => He5.wf K (He.ga K "Meter") "property" "at", "at", "Meter.at", defArgs s_Meter_at, defBody s_Meter_at, defScope s_Meter_at, [], []⟩
def d_check_meters : He5.DefA := ⟨fun K => He.ga K "check_meters", "check_meters", "check_meters", defArgs s_check_meters, defBody s_check_meters, defScope s_check_meters, [], []⟩
def d_Net_init : He5.DefA := ⟨fun K => He.ma K (He.ga K "Net") "__init__", "__init__", "Net.__init__", defArgs s_Net_init, defBody s_Net_init, defScope s_Net_init, [.adr (He.dflAt ("Net", some "__init__") 0)], []⟩
def d_Pipe_start : He5.DefA := ⟨fun K => He5.wf K (He.ga K "Pipe") "property" "start", "start", "Pipe.start", defArgs s_Pipe_start, defBody s_Pipe_start, defScope s_Pipe_start, [], []⟩
def d_Pipe_end : He5.DefA := ⟨fun K => He5.wf K (He.ga K "Pipe") "property" "end", "end", "Pipe.end", defArgs s_Pipe_end, defBody s_Pipe_end, defScope s_Pipe_end, [], []⟩
def d_Meter_sealed : He5.DefA := ⟨fun K => He5.wf K (He.ga K "Meter") "property" "sealed", "sealed", "Meter.sealed", defArgs s_Meter_sealed, defBody s_Meter_sealed, defScope s_Meter_sealed, [], []⟩
def d_line_of : He5.DefA := ⟨fun K => He.ga K "line_of", "line_of", "line_of", defArgs s_line_of, defBody s_line_of, defScope s_line_of, [], []⟩
def d_Net_str : He5.DefA := ⟨fun K => He.ma K (He.ga K "Net") "__str__", "__str__", "Net.__str__", defArgs s_Net_str, defBody s_Net_str, defScope s_Net_str, [], []⟩
def d_Net_read : He5.DefA := ⟨fun K => He5.wf K (He.ga K "Net") "classmethod" "read", "read", "Net.read", defArgs s_Net_read, defBody s_Net_read, defScope s_Net_read, [], []⟩
def d_Net_pipes : He5.DefA := ⟨fun K => He5.wf K (He.ga K "Net") "property" "pipes", "pipes", "Net.pipes", defArgs s_Net_pipes, defBody s_Net_pipes, defScope s_Net_pipes, [], []⟩
def d_Net_meters : He5.DefA := ⟨fun K => He5.wf K (He.ga K "Net") "property" "meters", "meters", "Net.meters", defArgs s_Net_meters, defBody s_Net_meters, defScope s_Net_meters, [], []⟩
def d_net_text_k11 : He5.DefA := ⟨fun K => He.ga K "_law_net_text", "_law_net_text", "_law_net_text", defArgs s_net_text_k11, defBody s_net_text_k11, defScope s_net_text_k11, [], []⟩
def d_Net_len : He5.DefA := ⟨fun K => He.ma K (He.ga K "Net") "__len__", "__len__", "Net.__len__", defArgs s_Net_len, defBody s_Net_len, defScope s_Net_len, [], []⟩
def d_is_k11 : He5.DefA := ⟨fun K => He.ga K "_law_is", "_law_is", "_law_is", defArgs s_is_k11, defBody s_is_k11, defScope s_is_k11, [], []⟩
def d_well_k01 : He5.DefA := ⟨fun K => He.ga K "_law_well", "_law_well", "_law_well", defArgs s_well_k01, defBody s_well_k01, defScope s_well_k01, [], []⟩
def d_dip_k01 : He5.DefA := ⟨fun K => He.ga K "_law_dip", "_law_dip", "_law_dip", defArgs s_dip_k01, defBody s_dip_k01, defScope s_dip_k01, [], []⟩
def d_name_k02 : He5.DefA := ⟨fun K => He.ga K "_law_name", "_law_name", "_law_name", defArgs s_name_k02, defBody s_name_k02, defScope s_name_k02, [], []⟩
def d_fresh_k09 : He5.DefA := ⟨fun K => He.ga K "_law_fresh", "_law_fresh", "_law_fresh", defArgs s_fresh_k09, defBody s_fresh_k09, defScope s_fresh_k09, [], []⟩
def d_laid_k12 : He5.DefA := ⟨fun K => He.ga K "_law_laid", "_law_laid", "_law_laid", defArgs s_laid_k12, defBody s_laid_k12, defScope s_laid_k12, [], []⟩
def d_fits_k12 : He5.DefA := ⟨fun K => He.ga K "_law_fits", "_law_fits", "_law_fits", defArgs s_fits_k12, defBody s_fits_k12, defScope s_fits_k12, [], []⟩
def d_net_k11 : He5.DefA := ⟨fun K => He.ga K "_law_net", "_law_net", "_law_net", defArgs s_net_k11, defBody s_net_k11, defScope s_net_k11, [], []⟩
def d_Net_eq : He5.DefA := ⟨fun K => He.ma K (He.ga K "Net") "__eq__", "__eq__", "Net.__eq__", defArgs s_Net_eq, defBody s_Net_eq, defScope s_Net_eq, [], []⟩
def d_right_k12 : He5.DefA := ⟨fun K => He.ga K "_law_right", "_law_right", "_law_right", defArgs s_right_k12, defBody s_right_k12, defScope s_right_k12, [], []⟩
def d_law_k12 : He5.DefA := ⟨fun K => He.ga K "law", "law", "law", defArgs s_law_k12, defBody s_law_k12, defScope s_law_k12, [], []⟩
def fn : List He5.DefA := [d_is_name, d_check_name, d_Pipe_init, d_Meter_init, d_item_of, d_Pipe_name, d_check_pipes, d_Meter_name, d_Meter_at, d_check_meters, d_Net_init, d_Pipe_start, d_Pipe_end, d_Meter_sealed, d_line_of, d_Net_str, d_Net_read, d_Net_pipes, d_Net_meters, d_net_text_k11, d_Net_len, d_is_k11, d_well_k01, d_dip_k01, d_name_k02, d_fresh_k09, d_laid_k12, d_fits_k12, d_net_k11, d_Net_eq, d_right_k12, d_law_k12]
def fa : List He.Fa := [.glo "is_name", .glo "check_name", .glo "item_of", .glo "check_pipes", .glo "check_meters", .glo "line_of", .glo "_law_net_text", .glo "_law_is", .glo "_law_well", .glo "_law_dip", .glo "_law_name", .glo "_law_fresh", .glo "_law_laid", .glo "_law_fits", .glo "_law_net", .glo "_law_right", .glo "law", .glo "Pipe", .cls "Pipe", .mkr "Pipe", .glo "Meter", .cls "Meter", .mkr "Meter", .glo "Net", .cls "Net", .mkr "Net", .noat "Meter" "kept", .noat "Net" "fitted", .noat "Net" "joined", .noat "Pipe" "kept", .free "abs", .free "all", .free "bool", .free "divmod", .free "enumerate", .free "int", .free "isinstance", .free "len", .free "max", .free "min", .free "range", .free "repr", .free "str", .free "tuple", .str "DIGITS" "0123456789", .str "LETTERS" "abcdefghijklmnopqrstuvwxyz", .int "LONGEST_NAME" 8, .int "MOST_METERS" 12, .int "MOST_PIPES" 12]
def exs : List (PySem.W.Frag → Bool) := [fun K => kindB K (He.ga K "Pipe"), fun K => propB K (He.ga K "Pipe") "name", fun K => propB K (He.ga K "Pipe") "start", fun K => propB K (He.ga K "Pipe") "end", fun K => kindB K (He.ga K "Meter"), fun K => propB K (He.ga K "Meter") "name", fun K => propB K (He.ga K "Meter") "at", fun K => propB K (He.ga K "Meter") "sealed", fun K => kindB K (He.ga K "Net"), fun K => eqB K (He.ga K "Net"), fun K => nfB K (He.ga K "Net") (kinds (ad K)), fun K => readB K (He.ga K "Net"), fun K => cmetB K (He.ga K "Net") "read", fun K => propB K (He.ga K "Net") "pipes", fun K => propB K (He.ga K "Net") "meters", fun K => specB K (He.ga K "Net") "__len__", fun K => specB K (He.ga K "Net") "__str__", fun K => decide (([He.ga K "Pipe", He.ga K "Meter", He.ga K "Net"] : List Addr).Nodup), fun K => tabB K (kinds (ad K)) (clss (ad K)) (sub (ad K))]
def exA (K : PySem.W.Frag) : Bool := exs.all fun f => f K
theorem exA_at {K : PySem.W.Frag} (h : exA K = true) (i : Nat) {f : PySem.W.Frag → Bool} (e : exs[i]? = some f) : f K = true := List.all_eq_true.mp h f (List.mem_of_getElem? e)
theorem ad_ok {K : PySem.W.Frag} (h : exA K = true) : AdOk (ad K) ["Pipe", "Meter", "Net"] := ⟨rfl, of_decide_eq_true (p := (([He.ga K "Pipe", He.ga K "Meter", He.ga K "Net"] : List Addr).Nodup)) (exA_at h 17 rfl)⟩
abbrev R : PySem.W.OpenRow := PySem.W.OpenLaw.row PySem.Challenge.rw_ringvotes_k12_whole_texts_of_nets
abbrev hk : PySem.W.Hook := hookB 5 fa fn exA
def ob (s : PySem.W.SharedT) : He.AlD × Bool := obB 5 fa fn exA (HandSHeadRun.getT s)
theorem ob_eq (s : PySem.W.SharedT) : ob s = hk.obs s.abs := obB_eq (HandSHeadRun.getT_eq s)
theorem run (w : World) : HandSHeadRun.RunEq R (PySem.W.view R.prog [39]) hk ob 40000 [("_wall" : PySem.Str), ("BadValue" : PySem.Str), ("BadName" : PySem.Str), ("InvalidName" : PySem.Str), ("InvalidEnd" : PySem.Str), ("InvalidFlag" : PySem.Str), ("InvalidText" : PySem.Str), ("NotAMeter" : PySem.Str), ("InvalidPipes" : PySem.Str), ("InvalidMeters" : PySem.Str), ("UnknownName" : PySem.Str), ("MOST_PIPES" : PySem.Str), ("MOST_METERS" : PySem.Str), ("LETTERS" : PySem.Str), ("DIGITS" : PySem.Str), ("LONGEST_NAME" : PySem.Str), ("is_name" : PySem.Str), ("check_name" : PySem.Str), ("Pipe" : PySem.Str), ("Meter" : PySem.Str), ("check_pipes" : PySem.Str), ("check_meters" : PySem.Str), ("line_of" : PySem.Str), ("item_of" : PySem.Str), ("Net" : PySem.Str), ("_law_well" : PySem.Str), ("_law_dip" : PySem.Str), ("_law_name" : PySem.Str), ("_law_fresh" : PySem.Str), ("_law_laid" : PySem.Str), ("_law_fits" : PySem.Str), ("_law_net" : PySem.Str), ("_law_net_text" : PySem.Str), ("_law_is" : PySem.Str), ("_law_right" : PySem.Str)] w := by
  intro os
  kernel_rfl
theorem facts {P : Program} {w : World} {K : PySem.W.Frag} {h : Heap} {mg : Str → Option Value} {f : Addr} (X : K.In h) (G : h.Ns mainGlobals mg) (hfa : mg ("law" : Str) = some (.ref f)) (c : He5.SaysA fa fn K) (cx : exA K = true) :
    ∃ fd : FuncData, (∀ (s : Shared) (v : Value), BindsTo s fd ⟨[v], []⟩ [("_law_cells", v)]) ∧ ∀ base : Heap, K.In base → base.Ns mainGlobals mg → FnX true P w K mg base 10 f fd ["_law_cells"] (spG K 1 (G_law_k12 (ad K))) := by
  have kk_Pipe : KindC K ((ad K).c "Pipe") := kindB_ok (He.cls_ok (c.fact 18 (f := .cls "Pipe") rfl)) (exA_at cx 0 rfl)
  have kk_Meter : KindC K ((ad K).c "Meter") := kindB_ok (He.cls_ok (c.fact 21 (f := .cls "Meter") rfl)) (exA_at cx 4 rfl)
  have kk_Net : KindC K ((ad K).c "Net") := kindB_ok (He.cls_ok (c.fact 24 (f := .cls "Net") rfl)) (exA_at cx 8 rfl)
  have T : Txt K mg (ad K) :=
    { n_abs := He.free_ok X G (c.fact 30 (f := .free "abs") rfl)
      n_all := He.free_ok X G (c.fact 31 (f := .free "all") rfl)
      n_bool := He.free_ok X G (c.fact 32 (f := .free "bool") rfl)
      n_divmod := He.free_ok X G (c.fact 33 (f := .free "divmod") rfl)
      n_enumerate := He.free_ok X G (c.fact 34 (f := .free "enumerate") rfl)
      n_int := He.free_ok X G (c.fact 35 (f := .free "int") rfl)
      n_isinstance := He.free_ok X G (c.fact 36 (f := .free "isinstance") rfl)
      n_len := He.free_ok X G (c.fact 37 (f := .free "len") rfl)
      n_max := He.free_ok X G (c.fact 38 (f := .free "max") rfl)
      n_min := He.free_ok X G (c.fact 39 (f := .free "min") rfl)
      n_range := He.free_ok X G (c.fact 40 (f := .free "range") rfl)
      n_repr := He.free_ok X G (c.fact 41 (f := .free "repr") rfl)
      n_str := He.free_ok X G (c.fact 42 (f := .free "str") rfl)
      n_tuple := He.free_ok X G (c.fact 43 (f := .free "tuple") rfl)
      g_DIGITS := He.str_ok X G (c.fact 44 (f := .str "DIGITS" "0123456789") rfl)
      g_LETTERS := He.str_ok X G (c.fact 45 (f := .str "LETTERS" "abcdefghijklmnopqrstuvwxyz") rfl)
      g_LONGEST_NAME := He.int_ok X G (c.fact 46 (f := .int "LONGEST_NAME" 8) rfl)
      g_MOST_METERS := He.int_ok X G (c.fact 47 (f := .int "MOST_METERS" 12) rfl)
      g_MOST_PIPES := He.int_ok X G (c.fact 48 (f := .int "MOST_PIPES" 12) rfl)
      m_Pipe := He.glo_ok X G (c.fact 17 (f := .glo "Pipe") rfl)
      m_Meter := He.glo_ok X G (c.fact 20 (f := .glo "Meter") rfl)
      m_Net := He.glo_ok X G (c.fact 23 (f := .glo "Net") rfl)
      k_Pipe := kk_Pipe
      k_Meter := kk_Meter
      k_Net := kk_Net
      no_Meter_kept := He.noat_ok (c.fact 26 (f := .noat "Meter" "kept") rfl)
      no_Net_fitted := He.noat_ok (c.fact 27 (f := .noat "Net" "fitted") rfl)
      no_Net_joined := He.noat_ok (c.fact 28 (f := .noat "Net" "joined") rfl)
      no_Pipe_kept := He.noat_ok (c.fact 29 (f := .noat "Pipe" "kept") rfl)
      own := own_of (fun n hn => by
        simp only [ad, List.mem_cons, List.mem_nil_iff, or_false] at hn
        rcases hn with rfl | rfl | rfl
        all_goals first | exact kk_Pipe | exact kk_Meter | exact kk_Net)
      kit := tabB_ok (exA_at cx 18 rfl)
      nf_Net := nfB_ok (exA_at cx 10 rfl) }
  obtain ⟨fd_is_name, F0_is_name⟩ := c.def_ 0 (d := d_is_name) rfl
  have F_is_name : FunD K "is_name" "is_name" (defArgs s_is_name) (defBody s_is_name) (defScope s_is_name) [] [] (d_is_name.at_ K) fd_is_name := F0_is_name
  have b_is_name : Binds K fd_is_name ["value"] [] := F_is_name.bindsN fun _ _ _ _ _ _ us hl => match us, hl with | [_], _ => rfl
  obtain ⟨fd_check_name, F0_check_name⟩ := c.def_ 1 (d := d_check_name) rfl
  have F_check_name : FunD K "check_name" "check_name" (defArgs s_check_name) (defBody s_check_name) (defScope s_check_name) [] [] (d_check_name.at_ K) fd_check_name := F0_check_name
  have b_check_name : Binds K fd_check_name ["value"] [] := F_check_name.bindsN fun _ _ _ _ _ _ us hl => match us, hl with | [_], _ => rfl
  obtain ⟨fd_Pipe_init, F0_Pipe_init⟩ := c.def_ 2 (d := d_Pipe_init) rfl
  have F_Pipe_init : FunD K "__init__" "Pipe.__init__" (defArgs s_Pipe_init) (defBody s_Pipe_init) (defScope s_Pipe_init) [] [] (d_Pipe_init.at_ K) fd_Pipe_init := F0_Pipe_init
  have b_Pipe_init : Binds K fd_Pipe_init ["self", "name", "start", "end"] [] := F_Pipe_init.bindsN fun _ _ _ _ _ _ us hl => match us, hl with | [_, _, _, _], _ => rfl
  obtain ⟨fd_Meter_init, F0_Meter_init⟩ := c.def_ 3 (d := d_Meter_init) rfl
  have F_Meter_init : FunD K "__init__" "Meter.__init__" (defArgs s_Meter_init) (defBody s_Meter_init) (defScope s_Meter_init) [] [("sealed", .bl false)] (d_Meter_init.at_ K) fd_Meter_init := F0_Meter_init
  obtain ⟨fd_item_of, F0_item_of⟩ := c.def_ 4 (d := d_item_of) rfl
  have F_item_of : FunD K "item_of" "item_of" (defArgs s_item_of) (defBody s_item_of) (defScope s_item_of) [] [] (d_item_of.at_ K) fd_item_of := F0_item_of
  have b_item_of : Binds K fd_item_of ["line"] [] := F_item_of.bindsN fun _ _ _ _ _ _ us hl => match us, hl with | [_], _ => rfl
  obtain ⟨fd_Pipe_name, F0_Pipe_name⟩ := c.def_ 5 (d := d_Pipe_name) rfl
  have F_Pipe_name : FunD K "name" "Pipe.name" (defArgs s_Pipe_name) (defBody s_Pipe_name) (defScope s_Pipe_name) [] [] (d_Pipe_name.at_ K) fd_Pipe_name := F0_Pipe_name
  have b_Pipe_name : Binds K fd_Pipe_name ["self"] [] := F_Pipe_name.bindsN fun _ _ _ _ _ _ us hl => match us, hl with | [_], _ => rfl
  obtain ⟨fd_check_pipes, F0_check_pipes⟩ := c.def_ 6 (d := d_check_pipes) rfl
  have F_check_pipes : FunD K "check_pipes" "check_pipes" (defArgs s_check_pipes) (defBody s_check_pipes) (defScope s_check_pipes) [] [] (d_check_pipes.at_ K) fd_check_pipes := F0_check_pipes
  have b_check_pipes : Binds K fd_check_pipes ["pipes"] [] := F_check_pipes.bindsN fun _ _ _ _ _ _ us hl => match us, hl with | [_], _ => rfl
  obtain ⟨fd_Meter_name, F0_Meter_name⟩ := c.def_ 7 (d := d_Meter_name) rfl
  have F_Meter_name : FunD K "name" "Meter.name" (defArgs s_Meter_name) (defBody s_Meter_name) (defScope s_Meter_name) [] [] (d_Meter_name.at_ K) fd_Meter_name := F0_Meter_name
  have b_Meter_name : Binds K fd_Meter_name ["self"] [] := F_Meter_name.bindsN fun _ _ _ _ _ _ us hl => match us, hl with | [_], _ => rfl
  obtain ⟨fd_Meter_at, F0_Meter_at⟩ := c.def_ 8 (d := d_Meter_at) rfl
  have F_Meter_at : FunD K "at" "Meter.at" (defArgs s_Meter_at) (defBody s_Meter_at) (defScope s_Meter_at) [] [] (d_Meter_at.at_ K) fd_Meter_at := F0_Meter_at
  have b_Meter_at : Binds K fd_Meter_at ["self"] [] := F_Meter_at.bindsN fun _ _ _ _ _ _ us hl => match us, hl with | [_], _ => rfl
  obtain ⟨fd_check_meters, F0_check_meters⟩ := c.def_ 9 (d := d_check_meters) rfl
  have F_check_meters : FunD K "check_meters" "check_meters" (defArgs s_check_meters) (defBody s_check_meters) (defScope s_check_meters) [] [] (d_check_meters.at_ K) fd_check_meters := F0_check_meters
  have b_check_meters : Binds K fd_check_meters ["meters", "pipes"] [] := F_check_meters.bindsN fun _ _ _ _ _ _ us hl => match us, hl with | [_, _], _ => rfl
  obtain ⟨fd_Net_init, F0_Net_init⟩ := c.def_ 10 (d := d_Net_init) rfl
  have F_Net_init : FunD K "__init__" "Net.__init__" (defArgs s_Net_init) (defBody s_Net_init) (defScope s_Net_init) [.ref (He.dflAt ("Net", some "__init__") 0 K)] [] (d_Net_init.at_ K) fd_Net_init := F0_Net_init
  obtain ⟨dz_Net_init, vz_Net_init, b0_Net_init⟩ := F_Net_init.binds1 (ps := ["self", "pipes", "meters"]) 3 1 (by simp) (by simp) fun _ _ _ _ _ _ _ us its hu hi => match us, hu, its, hi with | [_, _, _], _, [_], _ => ⟨_, rfl, rfl⟩
  have b_Net_init : Binds K fd_Net_init ["self", "pipes", "meters"] [] := by cases vz_Net_init; exact b0_Net_init
  obtain ⟨fd_Pipe_start, F0_Pipe_start⟩ := c.def_ 11 (d := d_Pipe_start) rfl
  have F_Pipe_start : FunD K "start" "Pipe.start" (defArgs s_Pipe_start) (defBody s_Pipe_start) (defScope s_Pipe_start) [] [] (d_Pipe_start.at_ K) fd_Pipe_start := F0_Pipe_start
  have b_Pipe_start : Binds K fd_Pipe_start ["self"] [] := F_Pipe_start.bindsN fun _ _ _ _ _ _ us hl => match us, hl with | [_], _ => rfl
  obtain ⟨fd_Pipe_end, F0_Pipe_end⟩ := c.def_ 12 (d := d_Pipe_end) rfl
  have F_Pipe_end : FunD K "end" "Pipe.end" (defArgs s_Pipe_end) (defBody s_Pipe_end) (defScope s_Pipe_end) [] [] (d_Pipe_end.at_ K) fd_Pipe_end := F0_Pipe_end
  have b_Pipe_end : Binds K fd_Pipe_end ["self"] [] := F_Pipe_end.bindsN fun _ _ _ _ _ _ us hl => match us, hl with | [_], _ => rfl
  obtain ⟨fd_Meter_sealed, F0_Meter_sealed⟩ := c.def_ 13 (d := d_Meter_sealed) rfl
  have F_Meter_sealed : FunD K "sealed" "Meter.sealed" (defArgs s_Meter_sealed) (defBody s_Meter_sealed) (defScope s_Meter_sealed) [] [] (d_Meter_sealed.at_ K) fd_Meter_sealed := F0_Meter_sealed
  have b_Meter_sealed : Binds K fd_Meter_sealed ["self"] [] := F_Meter_sealed.bindsN fun _ _ _ _ _ _ us hl => match us, hl with | [_], _ => rfl
  obtain ⟨fd_line_of, F0_line_of⟩ := c.def_ 14 (d := d_line_of) rfl
  have F_line_of : FunD K "line_of" "line_of" (defArgs s_line_of) (defBody s_line_of) (defScope s_line_of) [] [] (d_line_of.at_ K) fd_line_of := F0_line_of
  have b_line_of : Binds K fd_line_of ["item"] [] := F_line_of.bindsN fun _ _ _ _ _ _ us hl => match us, hl with | [_], _ => rfl
  obtain ⟨fd_Net_str, F0_Net_str⟩ := c.def_ 15 (d := d_Net_str) rfl
  have F_Net_str : FunD K "__str__" "Net.__str__" (defArgs s_Net_str) (defBody s_Net_str) (defScope s_Net_str) [] [] (d_Net_str.at_ K) fd_Net_str := F0_Net_str
  have b_Net_str : Binds K fd_Net_str ["self"] [] := F_Net_str.bindsN fun _ _ _ _ _ _ us hl => match us, hl with | [_], _ => rfl
  obtain ⟨fd_Net_read, F0_Net_read⟩ := c.def_ 16 (d := d_Net_read) rfl
  have F_Net_read : FunD K "read" "Net.read" (defArgs s_Net_read) (defBody s_Net_read) (defScope s_Net_read) [] [] (d_Net_read.at_ K) fd_Net_read := F0_Net_read
  have b_Net_read : Binds K fd_Net_read ["cls", "text"] [] := F_Net_read.bindsN fun _ _ _ _ _ _ us hl => match us, hl with | [_, _], _ => rfl
  obtain ⟨fd_Net_pipes, F0_Net_pipes⟩ := c.def_ 17 (d := d_Net_pipes) rfl
  have F_Net_pipes : FunD K "pipes" "Net.pipes" (defArgs s_Net_pipes) (defBody s_Net_pipes) (defScope s_Net_pipes) [] [] (d_Net_pipes.at_ K) fd_Net_pipes := F0_Net_pipes
  have b_Net_pipes : Binds K fd_Net_pipes ["self"] [] := F_Net_pipes.bindsN fun _ _ _ _ _ _ us hl => match us, hl with | [_], _ => rfl
  obtain ⟨fd_Net_meters, F0_Net_meters⟩ := c.def_ 18 (d := d_Net_meters) rfl
  have F_Net_meters : FunD K "meters" "Net.meters" (defArgs s_Net_meters) (defBody s_Net_meters) (defScope s_Net_meters) [] [] (d_Net_meters.at_ K) fd_Net_meters := F0_Net_meters
  have b_Net_meters : Binds K fd_Net_meters ["self"] [] := F_Net_meters.bindsN fun _ _ _ _ _ _ us hl => match us, hl with | [_], _ => rfl
  obtain ⟨fd_net_text_k11, F0_net_text_k11⟩ := c.def_ 19 (d := d_net_text_k11) rfl
  have F_net_text_k11 : FunD K "_law_net_text" "_law_net_text" (defArgs s_net_text_k11) (defBody s_net_text_k11) (defScope s_net_text_k11) [] [] (d_net_text_k11.at_ K) fd_net_text_k11 := F0_net_text_k11
  have b_net_text_k11 : Binds K fd_net_text_k11 ["_law_laid_here", "_law_fits_here"] [] := F_net_text_k11.bindsN fun _ _ _ _ _ _ us hl => match us, hl with | [_, _], _ => rfl
  obtain ⟨fd_Net_len, F0_Net_len⟩ := c.def_ 20 (d := d_Net_len) rfl
  have F_Net_len : FunD K "__len__" "Net.__len__" (defArgs s_Net_len) (defBody s_Net_len) (defScope s_Net_len) [] [] (d_Net_len.at_ K) fd_Net_len := F0_Net_len
  have b_Net_len : Binds K fd_Net_len ["self"] [] := F_Net_len.bindsN fun _ _ _ _ _ _ us hl => match us, hl with | [_], _ => rfl
  obtain ⟨fd_is_k11, F0_is_k11⟩ := c.def_ 21 (d := d_is_k11) rfl
  have F_is_k11 : FunD K "_law_is" "_law_is" (defArgs s_is_k11) (defBody s_is_k11) (defScope s_is_k11) [] [] (d_is_k11.at_ K) fd_is_k11 := F0_is_k11
  have b_is_k11 : Binds K fd_is_k11 ["_law_net_here", "_law_laid_here", "_law_fits_here"] [] := F_is_k11.bindsN fun _ _ _ _ _ _ us hl => match us, hl with | [_, _, _], _ => rfl
  obtain ⟨fd_well_k01, F0_well_k01⟩ := c.def_ 22 (d := d_well_k01) rfl
  have F_well_k01 : FunD K "_law_well" "_law_well" (defArgs s_well_k01) (defBody s_well_k01) (defScope s_well_k01) [] [] (d_well_k01.at_ K) fd_well_k01 := F0_well_k01
  have b_well_k01 : Binds K fd_well_k01 ["_law_cells", "_law_k"] [] := F_well_k01.bindsN fun _ _ _ _ _ _ us hl => match us, hl with | [_, _], _ => rfl
  obtain ⟨fd_dip_k01, F0_dip_k01⟩ := c.def_ 23 (d := d_dip_k01) rfl
  have F_dip_k01 : FunD K "_law_dip" "_law_dip" (defArgs s_dip_k01) (defBody s_dip_k01) (defScope s_dip_k01) [] [] (d_dip_k01.at_ K) fd_dip_k01 := F0_dip_k01
  have b_dip_k01 : Binds K fd_dip_k01 ["_law_well_here", "_law_many"] [] := F_dip_k01.bindsN fun _ _ _ _ _ _ us hl => match us, hl with | [_, _], _ => rfl
  obtain ⟨fd_name_k02, F0_name_k02⟩ := c.def_ 24 (d := d_name_k02) rfl
  have F_name_k02 : FunD K "_law_name" "_law_name" (defArgs s_name_k02) (defBody s_name_k02) (defScope s_name_k02) [] [] (d_name_k02.at_ K) fd_name_k02 := F0_name_k02
  have b_name_k02 : Binds K fd_name_k02 ["_law_well_here"] [] := F_name_k02.bindsN fun _ _ _ _ _ _ us hl => match us, hl with | [_], _ => rfl
  obtain ⟨fd_fresh_k09, F0_fresh_k09⟩ := c.def_ 25 (d := d_fresh_k09) rfl
  have F_fresh_k09 : FunD K "_law_fresh" "_law_fresh" (defArgs s_fresh_k09) (defBody s_fresh_k09) (defScope s_fresh_k09) [] [] (d_fresh_k09.at_ K) fd_fresh_k09 := F0_fresh_k09
  have b_fresh_k09 : Binds K fd_fresh_k09 ["_law_well_here", "_law_taken"] [] := F_fresh_k09.bindsN fun _ _ _ _ _ _ us hl => match us, hl with | [_, _], _ => rfl
  obtain ⟨fd_laid_k12, F0_laid_k12⟩ := c.def_ 26 (d := d_laid_k12) rfl
  have F_laid_k12 : FunD K "_law_laid" "_law_laid" (defArgs s_laid_k12) (defBody s_laid_k12) (defScope s_laid_k12) [] [] (d_laid_k12.at_ K) fd_laid_k12 := F0_laid_k12
  have b_laid_k12 : Binds K fd_laid_k12 ["_law_well_here", "_law_least", "_law_most"] [] := F_laid_k12.bindsN fun _ _ _ _ _ _ us hl => match us, hl with | [_, _, _], _ => rfl
  obtain ⟨fd_fits_k12, F0_fits_k12⟩ := c.def_ 27 (d := d_fits_k12) rfl
  have F_fits_k12 : FunD K "_law_fits" "_law_fits" (defArgs s_fits_k12) (defBody s_fits_k12) (defScope s_fits_k12) [] [] (d_fits_k12.at_ K) fd_fits_k12 := F0_fits_k12
  have b_fits_k12 : Binds K fd_fits_k12 ["_law_well_here", "_law_laid_here", "_law_most"] [] := F_fits_k12.bindsN fun _ _ _ _ _ _ us hl => match us, hl with | [_, _, _], _ => rfl
  obtain ⟨fd_net_k11, F0_net_k11⟩ := c.def_ 28 (d := d_net_k11) rfl
  have F_net_k11 : FunD K "_law_net" "_law_net" (defArgs s_net_k11) (defBody s_net_k11) (defScope s_net_k11) [] [] (d_net_k11.at_ K) fd_net_k11 := F0_net_k11
  have b_net_k11 : Binds K fd_net_k11 ["_law_laid_here", "_law_fits_here"] [] := F_net_k11.bindsN fun _ _ _ _ _ _ us hl => match us, hl with | [_, _], _ => rfl
  obtain ⟨fd_Net_eq, F0_Net_eq⟩ := c.def_ 29 (d := d_Net_eq) rfl
  have F_Net_eq : FunD K "__eq__" "Net.__eq__" (defArgs s_Net_eq) (defBody s_Net_eq) (defScope s_Net_eq) [] [] (d_Net_eq.at_ K) fd_Net_eq := F0_Net_eq
  have b_Net_eq : Binds K fd_Net_eq ["self", "other"] [] := F_Net_eq.bindsN fun _ _ _ _ _ _ us hl => match us, hl with | [_, _], _ => rfl
  obtain ⟨fd_right_k12, F0_right_k12⟩ := c.def_ 30 (d := d_right_k12) rfl
  have F_right_k12 : FunD K "_law_right" "_law_right" (defArgs s_right_k12) (defBody s_right_k12) (defScope s_right_k12) [] [] (d_right_k12.at_ K) fd_right_k12 := F0_right_k12
  have b_right_k12 : Binds K fd_right_k12 ["_law_well_here"] [] := F_right_k12.bindsN fun _ _ _ _ _ _ us hl => match us, hl with | [_], _ => rfl
  obtain ⟨fd_law_k12, F0_law_k12⟩ := c.def_ 31 (d := d_law_k12) rfl
  have F_law_k12 : FunD K "law" "law" (defArgs s_law_k12) (defBody s_law_k12) (defScope s_law_k12) [] [] (d_law_k12.at_ K) fd_law_k12 := F0_law_k12
  have b_law_k12 : Binds K fd_law_k12 ["_law_cells"] [] := F_law_k12.bindsN fun _ _ _ _ _ _ us hl => match us, hl with | [_], _ => rfl
  have e := hfa.symm.trans (He.glo_ok X G (c.fact 16 (f := .glo "law") rfl))
  cases e
  have bA := FunD.bindsA (ps := ["_law_cells"]) F_law_k12 fun _ _ _ _ _ _ us hl => match us, hl with | [_], _ => rfl
  refine ⟨fd_law_k12, fun s v => bA s [v] rfl, fun base _ _ => ?_⟩
  have ok0_is_name := ok_is_name (P := P) (w := w) (base := base) T F_is_name 
  have c_is_name : Fc P w K mg base false "is_name" 1 1 (G_is_name (ad K)) := ⟨_, fd_is_name, ["value"], ok0_is_name, b_is_name, F_is_name.kp, He.glo_ok X G (c.fact 0 (f := .glo "is_name") rfl)⟩
  have ok0_check_name := ok_check_name (P := P) (w := w) (base := base) T F_check_name c_is_name
  have c_check_name : Fc P w K mg base false "check_name" 2 1 (G_check_name (ad K)) := ⟨_, fd_check_name, ["value"], ok0_check_name, b_check_name, F_check_name.kp, He.glo_ok X G (c.fact 1 (f := .glo "check_name") rfl)⟩
  have ok0_Pipe_init := ok_Pipe_init (P := P) (w := w) (base := base) T F_Pipe_init c_check_name
  have mk_Pipe_3 : Mc P w K mg base "Pipe" ((ad K).c "Pipe") 3 4 (G_Pipe_init (ad K)) [] := ⟨_, fd_Pipe_init, ["self", "name", "start", "end"], [], [], He.mkr_ok (c.fact 19 (f := .mkr "Pipe") rfl), ok0_Pipe_init, b_Pipe_init, .nil, fun _ _ => .nil, T.m_Pipe⟩
  have ok0_Meter_init := ok_Meter_init (P := P) (w := w) (base := base) T F_Meter_init c_check_name
  have mk_Meter_2_sealed : Mk_ P w K mg base "Meter" ((ad K).c "Meter") 3 4 2 ["sealed"] (G_Meter_init (ad K)) (perm [0]) := mkK_of 2 ["sealed"] [0] F_Meter_init (He.mkr_ok (c.fact 22 (f := .mkr "Meter") rfl)) ok0_Meter_init T.m_Meter fun _ _ _ _ _ _ us ws hu hw => match us, hu, ws, hw with | [_, _, _], _, [_], _ => rfl
  have ok0_item_of := ok_item_of (P := P) (w := w) (base := base) T F_item_of mk_Meter_2_sealed mk_Pipe_3
  have c_item_of : Fc P w K mg base false "item_of" 5 1 (G_item_of (ad K)) := ⟨_, fd_item_of, ["line"], ok0_item_of, b_item_of, F_item_of.kp, He.glo_ok X G (c.fact 2 (f := .glo "item_of") rfl)⟩
  have ok0_Pipe_name := ok_Pipe_name (P := P) (w := w) (base := base) T F_Pipe_name 
  have c_Pipe_name : Pc P w K mg base ((ad K).c "Pipe") "name" 1 (G_Pipe_name (ad K)) := ⟨_, _, fd_Pipe_name, ["self"], T.k_Pipe.cl, propB_ok (exA_at cx 1 rfl), ok0_Pipe_name, b_Pipe_name⟩
  have ok0_check_pipes := ok_check_pipes (P := P) (w := w) (base := base) T F_check_pipes c_Pipe_name
  have c_check_pipes : Fc P w K mg base false "check_pipes" 3 1 (G_check_pipes (ad K)) := ⟨_, fd_check_pipes, ["pipes"], ok0_check_pipes, b_check_pipes, F_check_pipes.kp, He.glo_ok X G (c.fact 3 (f := .glo "check_pipes") rfl)⟩
  have ok0_Meter_name := ok_Meter_name (P := P) (w := w) (base := base) T F_Meter_name 
  have c_Meter_name : Pc P w K mg base ((ad K).c "Meter") "name" 1 (G_Meter_name (ad K)) := ⟨_, _, fd_Meter_name, ["self"], T.k_Meter.cl, propB_ok (exA_at cx 5 rfl), ok0_Meter_name, b_Meter_name⟩
  have ok0_Meter_at := ok_Meter_at (P := P) (w := w) (base := base) T F_Meter_at 
  have c_Meter_at : Pc P w K mg base ((ad K).c "Meter") "at" 1 (G_Meter_at (ad K)) := ⟨_, _, fd_Meter_at, ["self"], T.k_Meter.cl, propB_ok (exA_at cx 6 rfl), ok0_Meter_at, b_Meter_at⟩
  have ok0_check_meters := ok_check_meters (P := P) (w := w) (base := base) T F_check_meters c_Pipe_name c_Meter_name c_Meter_at
  have c_check_meters : Fc P w K mg base false "check_meters" 3 2 (G_check_meters (ad K)) := ⟨_, fd_check_meters, ["meters", "pipes"], ok0_check_meters, b_check_meters, F_check_meters.kp, He.glo_ok X G (c.fact 4 (f := .glo "check_meters") rfl)⟩
  have ok0_Net_init := ok_Net_init (P := P) (w := w) (base := base) T F_Net_init c_check_pipes c_check_meters
  have mk_Net_2 : Mc P w K mg base "Net" ((ad K).c "Net") 4 3 (G_Net_init (ad K)) [] := ⟨_, fd_Net_init, ["self", "pipes", "meters"], [], [], He.mkr_ok (c.fact 25 (f := .mkr "Net") rfl), ok0_Net_init, b_Net_init, .nil, fun _ _ => .nil, T.m_Net⟩
  have ok0_Pipe_start := ok_Pipe_start (P := P) (w := w) (base := base) T F_Pipe_start 
  have c_Pipe_start : Pc P w K mg base ((ad K).c "Pipe") "start" 1 (G_Pipe_start (ad K)) := ⟨_, _, fd_Pipe_start, ["self"], T.k_Pipe.cl, propB_ok (exA_at cx 2 rfl), ok0_Pipe_start, b_Pipe_start⟩
  have ok0_Pipe_end := ok_Pipe_end (P := P) (w := w) (base := base) T F_Pipe_end 
  have c_Pipe_end : Pc P w K mg base ((ad K).c "Pipe") "end" 1 (G_Pipe_end (ad K)) := ⟨_, _, fd_Pipe_end, ["self"], T.k_Pipe.cl, propB_ok (exA_at cx 3 rfl), ok0_Pipe_end, b_Pipe_end⟩
  have ok0_Meter_sealed := ok_Meter_sealed (P := P) (w := w) (base := base) T F_Meter_sealed 
  have c_Meter_sealed : Pc P w K mg base ((ad K).c "Meter") "sealed" 1 (G_Meter_sealed (ad K)) := ⟨_, _, fd_Meter_sealed, ["self"], T.k_Meter.cl, propB_ok (exA_at cx 7 rfl), ok0_Meter_sealed, b_Meter_sealed⟩
  have ok0_line_of := ok_line_of (P := P) (w := w) (base := base) T F_line_of c_Pipe_name c_Meter_name c_Meter_at c_Pipe_start c_Pipe_end c_Meter_sealed
  have c_line_of : Fc P w K mg base false "line_of" 3 1 (G_line_of (ad K)) := ⟨_, fd_line_of, ["item"], ok0_line_of, b_line_of, F_line_of.kp, He.glo_ok X G (c.fact 5 (f := .glo "line_of") rfl)⟩
  have ok0_Net_str := ok_Net_str (P := P) (w := w) (base := base) T F_Net_str c_line_of
  have c_Net_str : Sc P w K mg base ((ad K).c "Net") "__str__" 4 1 (G_Net_str (ad K)) := sc_of (exA_at cx 16 rfl) ok0_Net_str b_Net_str
  have ok0_Net_read := ok_Net_read (P := P) (w := w) (base := base) T F_Net_read c_item_of c_Net_str mk_Net_2
  have c_Net_read : Cm P w K mg base ((ad K).c "Net") "read" 7 2 (G_Net_read (ad K)) := cm_of (exA_at cx 11 rfl) (exA_at cx 12 rfl) ok0_Net_read b_Net_read
  have ck_Net_read_text : CmK P w K mg base ((ad K).c "Net") "read" 7 2 ["text"] (G_Net_read (ad K)) (perm [0]) := cmK_of ["text"] [0] (exA_at cx 11 rfl) (exA_at cx 12 rfl) F_Net_read ok0_Net_read fun _ _ _ _ _ _ us ws hu hw => match us, hu, ws, hw with | [_], _, [_], _ => rfl
  have ok0_Net_pipes := ok_Net_pipes (P := P) (w := w) (base := base) T F_Net_pipes 
  have c_Net_pipes : Pc P w K mg base ((ad K).c "Net") "pipes" 1 (G_Net_pipes (ad K)) := ⟨_, _, fd_Net_pipes, ["self"], T.k_Net.cl, propB_ok (exA_at cx 13 rfl), ok0_Net_pipes, b_Net_pipes⟩
  have ok0_Net_meters := ok_Net_meters (P := P) (w := w) (base := base) T F_Net_meters 
  have c_Net_meters : Pc P w K mg base ((ad K).c "Net") "meters" 1 (G_Net_meters (ad K)) := ⟨_, _, fd_Net_meters, ["self"], T.k_Net.cl, propB_ok (exA_at cx 14 rfl), ok0_Net_meters, b_Net_meters⟩
  have ok0_net_text_k11 := ok_net_text_k11 (P := P) (w := w) (base := base) T F_net_text_k11 
  have c_net_text_k11 : Fc P w K mg base false "_law_net_text" 1 2 (G_net_text_k11 (ad K)) := ⟨_, fd_net_text_k11, ["_law_laid_here", "_law_fits_here"], ok0_net_text_k11, b_net_text_k11, F_net_text_k11.kp, He.glo_ok X G (c.fact 6 (f := .glo "_law_net_text") rfl)⟩
  have ok0_Net_len := ok_Net_len (P := P) (w := w) (base := base) T F_Net_len 
  have c_Net_len : Sc P w K mg base ((ad K).c "Net") "__len__" 1 1 (G_Net_len (ad K)) := sc_of (exA_at cx 15 rfl) ok0_Net_len b_Net_len
  have ok0_is_k11 := ok_is_k11 (P := P) (w := w) (base := base) T F_is_k11 c_Pipe_name c_Meter_name c_Meter_at c_Pipe_start c_Pipe_end c_Meter_sealed c_Net_str c_Net_pipes c_Net_meters c_net_text_k11 c_Net_len
  have c_is_k11 : Fc P w K mg base true "_law_is" 7 3 (G_is_k11 (ad K)) := ⟨_, fd_is_k11, ["_law_net_here", "_law_laid_here", "_law_fits_here"], ok0_is_k11, b_is_k11, F_is_k11.kp, He.glo_ok X G (c.fact 7 (f := .glo "_law_is") rfl)⟩
  have ok0_well_k01 := ok_well_k01 (P := P) (w := w) (base := base) T F_well_k01 
  have c_well_k01 : Fc P w K mg base false "_law_well" 1 2 (G_well_k01 (ad K)) := ⟨_, fd_well_k01, ["_law_cells", "_law_k"], ok0_well_k01, b_well_k01, F_well_k01.kp, He.glo_ok X G (c.fact 8 (f := .glo "_law_well") rfl)⟩
  have ok0_dip_k01 := ok_dip_k01 (P := P) (w := w) (base := base) T F_dip_k01 
  have c_dip_k01 : Fc P w K mg base false "_law_dip" 1 2 (G_dip_k01 (ad K)) := ⟨_, fd_dip_k01, ["_law_well_here", "_law_many"], ok0_dip_k01, b_dip_k01, F_dip_k01.kp, He.glo_ok X G (c.fact 9 (f := .glo "_law_dip") rfl)⟩
  have ok0_name_k02 := ok_name_k02 (P := P) (w := w) (base := base) T F_name_k02 c_dip_k01
  have c_name_k02 : Fc P w K mg base false "_law_name" 2 1 (G_name_k02 (ad K)) := ⟨_, fd_name_k02, ["_law_well_here"], ok0_name_k02, b_name_k02, F_name_k02.kp, He.glo_ok X G (c.fact 10 (f := .glo "_law_name") rfl)⟩
  have ok0_fresh_k09 := ok_fresh_k09 (P := P) (w := w) (base := base) T F_fresh_k09 c_dip_k01 c_name_k02
  have c_fresh_k09 : Fc P w K mg base false "_law_fresh" 3 2 (G_fresh_k09 (ad K)) := ⟨_, fd_fresh_k09, ["_law_well_here", "_law_taken"], ok0_fresh_k09, b_fresh_k09, F_fresh_k09.kp, He.glo_ok X G (c.fact 11 (f := .glo "_law_fresh") rfl)⟩
  have ok0_laid_k12 := ok_laid_k12 (P := P) (w := w) (base := base) T F_laid_k12 c_dip_k01 c_fresh_k09
  have c_laid_k12 : Fc P w K mg base false "_law_laid" 4 3 (G_laid_k12 (ad K)) := ⟨_, fd_laid_k12, ["_law_well_here", "_law_least", "_law_most"], ok0_laid_k12, b_laid_k12, F_laid_k12.kp, He.glo_ok X G (c.fact 12 (f := .glo "_law_laid") rfl)⟩
  have ok0_fits_k12 := ok_fits_k12 (P := P) (w := w) (base := base) T F_fits_k12 c_dip_k01 c_fresh_k09
  have c_fits_k12 : Fc P w K mg base false "_law_fits" 4 3 (G_fits_k12 (ad K)) := ⟨_, fd_fits_k12, ["_law_well_here", "_law_laid_here", "_law_most"], ok0_fits_k12, b_fits_k12, F_fits_k12.kp, He.glo_ok X G (c.fact 13 (f := .glo "_law_fits") rfl)⟩
  have ok0_net_k11 := ok_net_k11 (P := P) (w := w) (base := base) T F_net_k11 mk_Meter_2_sealed mk_Net_2 mk_Pipe_3
  have c_net_k11 : Fc P w K mg base false "_law_net" 6 2 (G_net_k11 (ad K)) := ⟨_, fd_net_k11, ["_law_laid_here", "_law_fits_here"], ok0_net_k11, b_net_k11, F_net_k11.kp, He.glo_ok X G (c.fact 14 (f := .glo "_law_net") rfl)⟩
  have ok0_Net_eq := ok_Net_eq (P := P) (w := w) (base := base) T F_Net_eq c_Net_str
  have c_Net_eq : Ec P w K mg base ((ad K).c "Net") 7 (G_Net_eq (ad K)) := ec_of (exA_at cx 9 rfl) ok0_Net_eq b_Net_eq
  have ok0_right_k12 := ok_right_k12 (P := P) (w := w) (base := base) T F_right_k12 c_Net_str c_Net_read c_net_text_k11 c_is_k11 c_laid_k12 c_fits_k12 c_net_k11 c_Net_eq ck_Net_read_text
  have c_right_k12 : Fc P w K mg base true "_law_right" 9 1 (G_right_k12 (ad K)) := ⟨_, fd_right_k12, ["_law_well_here"], ok0_right_k12, b_right_k12, F_right_k12.kp, He.glo_ok X G (c.fact 15 (f := .glo "_law_right") rfl)⟩
  exact ok_law_k12 T F_law_k12 c_Net_read c_is_k11 c_well_k01 c_right_k12
end K12
end
section
open PySem PySem.W PySem.Calls PyProof.Rows
theorem PySem.Challenge.cw_ringvotes_k12_whole_texts_of_nets_holds : PySem.Challenge.rw_ringvotes_k12_whole_texts_of_nets.Holds := by
  w_on; o_law
  refine HandSHeadRun.head_any (r := OpenLaw.row PySem.Challenge.rw_ringvotes_k12_whole_texts_of_nets) (q := view (OpenLaw.row PySem.Challenge.rw_ringvotes_k12_whole_texts_of_nets).prog [39]) (H := K12.hk) (ob := K12.ob) (M := 40000) (loose := [("_wall" : PySem.Str), ("BadValue" : PySem.Str), ("BadName" : PySem.Str), ("InvalidName" : PySem.Str), ("InvalidEnd" : PySem.Str), ("InvalidFlag" : PySem.Str), ("InvalidText" : PySem.Str), ("NotAMeter" : PySem.Str), ("InvalidPipes" : PySem.Str), ("InvalidMeters" : PySem.Str), ("UnknownName" : PySem.Str), ("MOST_PIPES" : PySem.Str), ("MOST_METERS" : PySem.Str), ("LETTERS" : PySem.Str), ("DIGITS" : PySem.Str), ("LONGEST_NAME" : PySem.Str), ("is_name" : PySem.Str), ("check_name" : PySem.Str), ("Pipe" : PySem.Str), ("Meter" : PySem.Str), ("check_pipes" : PySem.Str), ("check_meters" : PySem.Str), ("line_of" : PySem.Str), ("item_of" : PySem.Str), ("Net" : PySem.Str), ("_law_well" : PySem.Str), ("_law_dip" : PySem.Str), ("_law_name" : PySem.Str), ("_law_fresh" : PySem.Str), ("_law_laid" : PySem.Str), ("_law_fits" : PySem.Str), ("_law_net" : PySem.Str), ("_law_net_text" : PySem.Str), ("_law_is" : PySem.Str), ("_law_right" : PySem.Str)]) (d := HandSHeadRun.topDef (OpenLaw.row PySem.Challenge.rw_ringvotes_k12_whole_texts_of_nets).prog 39) (kwd := []) K12.ob_eq
    (by kernel_rfl) (fun s => by kernel_rfl) K12.run (by kernel_rfl) (by kernel_rfl) (by kernel_rfl) (by rfl) (by first | assumption | decide +kernel) (by decide +kernel) ⟨rfl, rfl, rfl, rfl, rfl, by decide +kernel⟩ ?hw ?hc
  case hw => w_witness2
  case hc =>
    refine RV.walk_G (l := PySem.Challenge.rw_ringvotes_k12_whole_texts_of_nets) (n := 63) (k := 10) (x := "_law_cells") rfl (by decide) (by kernel_rfl) ⟨rfl, by decide, by decide⟩ ?F
    intro w mg fa h Y G hmg0
    obtain ⟨K, KX, c, cx⟩ := Y
    have hmg : mg ("law" : PySem.Str) = some (.ref fa) := by
      have e : (HandSHeadRun.topDef (OpenLaw.row PySem.Challenge.rw_ringvotes_k12_whole_texts_of_nets).prog 39).name = ("law" : PySem.Str) := by kernel_rfl
      rw [← e]
      exact hmg0
    obtain ⟨fd, hb, hF⟩ := K12.facts (P := (PySem.Challenge.rw_ringvotes_k12_whole_texts_of_nets).prog) (w := w) KX G hmg c cx
    exact ⟨K, fd, RV.G_law_k12 (K12.ad K), KX, hb, fun ns q x hl hq => RV.law_true_law_k12 (K12.ad_ok cx) hl hq, hF⟩
end
