import PyProof.Rows.All
import Wide.All
import OpenK.AllK
import Wide.FinOn
import HandS.ForMost
import HandS.ForExc
import HandS.Property
import HandS.MakeKw
import HandS.MakeKwOnly
import HandS.WideBits
import HandS.IsInst
import HandS.OwnEq
import HandS.Flow
import HandS.ExcCtx
import HandS.ExcInit
import HandS.HotCalls
import HandS.SuiteRaise
import HandS.RaiseFrom
import HandS.ExcInitHot
import HandS.Lambda
import HandS.Style
import HandS.Head0
import HandS.Head1
import HandS.Head2
import HandS.HeadEnd
import HandS.HeadHook1
import HandS.HeadHook2
import HandS.HeadHook3
import HandS.HeadHook4
import KE.KStateDown
import HandS.HeadNt
import HandS.ClsMeth
import HandS.Star
import HandS.FStr
import HandS.CallLocal
import HandS.RaiseMore
import HandS.Iter
import KE.GoesEnum
import KE.KCallOwn
import HandS.ExcIs
import HandS.ExcField
import HandS.Dict
import HandS.EndTab
import PySem.Challenge.RW_ringvotes_k10_pipes_and_meters_refused
set_option Elab.async false
set_option linter.all false
set_option maxRecDepth 100000
set_option maxHeartbeats 0
section
/-! Data without a heap (D), how it lies in a heap (Rp), and what a piece of the text computes over it. -/
namespace RV
open PySem L2
inductive D where
  | non
  | bl (b : Bool)
  | int (i : Int)
  | str (s : Str)
  | ty (n : String)
  | adr (a : Addr)
  | cell (k : Nat)
  | scr (ns : List Int)
  | tup (ds : List D)
  | lst (ds : List D)
  | obj (C : Addr) (fs : List (Str × D))
  | dic (kvs : List (Key × D))
  | exc (C : Addr) (fs : List (Str × D))
  | exv (a C d : Addr) (fs : List (Str × D))

mutual
inductive Rp (K : PySem.W.Frag) (as : List Addr) (F : Hp) : D → V → Prop where
  | non : Rp K as F .non .non
  | bl (b : Bool) : Rp K as F (.bl b) (.bl b)
  | int (i : Int) : Rp K as F (.int i) (.int i)
  | str (s : Str) : Rp K as F (.str s) (.str s)
  | ty (n : String) : Rp K as F (.ty n) (.ty n)
  | adr (a : Addr) : Rp K as F (.adr a) (.ref a)
  | cell {k : Nat} {a : Addr} : as[k]? = some a → Rp K as F (.cell k) (.ref a)
  | scr {a : Addr} {ns : List Int} : SqL K F a (ns.map V.int) → Rp K as F (.scr ns) (.ref a)
  | tup {a : Addr} {xs : List V} {ds : List D} : SqT K F a xs → RpL K as F ds xs → Rp K as F (.tup ds) (.ref a)
  | lst {a : Addr} {xs : List V} {ds : List D} : F a = some (.lst xs) → RpL K as F ds xs → Rp K as F (.lst ds) (.ref a)
  | obj {a C dx : Addr} {fs : List (Str × D)} {vfs : List (Str × V)} : F a = some (.ins C dx vfs) → RpF K as F fs vfs → Rp K as F (.obj C fs) (.ref a)
  | dic {a : Addr} {kvs : List (Key × D)} {vkv : List (Key × V)} : F a = some (.dK vkv) → RpK K as F kvs vkv → Rp K as F (.dic kvs) (.ref a)
  | exv {a C d : Addr} {fs : List (Str × D)} {vfs : List (Str × V)} : F d = some (.xd vfs) → RpF K as F fs vfs → Rp K as F (.exv a C d fs) (.ref a)
inductive RpL (K : PySem.W.Frag) (as : List Addr) (F : Hp) : List D → List V → Prop where
  | nil : RpL K as F [] []
  | cons {d : D} {v : V} {ds : List D} {vs : List V} : Rp K as F d v → RpL K as F ds vs → RpL K as F (d :: ds) (v :: vs)
inductive RpF (K : PySem.W.Frag) (as : List Addr) (F : Hp) : List (Str × D) → List (Str × V) → Prop where
  | nil : RpF K as F [] []
  | cons {n : Str} {d : D} {v : V} {fs : List (Str × D)} {vfs : List (Str × V)} : Rp K as F d v → RpF K as F fs vfs → RpF K as F ((n, d) :: fs) ((n, v) :: vfs)
inductive RpK (K : PySem.W.Frag) (as : List Addr) (F : Hp) : List (Key × D) → List (Key × V) → Prop where
  | nil : RpK K as F [] []
  | cons {n : Key} {d : D} {v : V} {fs : List (Key × D)} {vfs : List (Key × V)} : Rp K as F d v → RpK K as F fs vfs → RpK K as F ((n, d) :: fs) ((n, v) :: vfs)
end

/-- what F knows, H knows -/
def Ex (F H : Hp) : Prop := ∀ a o, F a = some o → H a = some o
theorem Ex.refl (F : Hp) : Ex F F := fun _ _ h => h
theorem Ex.trans {F G H : Hp} (a : Ex F G) (b : Ex G H) : Ex F H := fun x o h => b x o (a x o h)
theorem Ex.sqT {K : PySem.W.Frag} {F H : Hp} {a : Addr} {xs : List V} (e : Ex F H) (h : SqT K F a xs) : SqT K H a xs := by
  rcases h with h | h
  · rcases h with h | ⟨o, h⟩
    · exact .inl (.inl (e a _ h))
    · exact .inl (.inr ⟨o, e a _ h⟩)
  · exact .inr h
theorem Ex.sqL {K : PySem.W.Frag} {F H : Hp} {a : Addr} {xs : List V} (e : Ex F H) (h : SqL K F a xs) : SqL K H a xs := by
  rcases h with h | h
  · rcases h with h | ⟨o, h⟩
    · exact .inl (.inl (e a _ h))
    · exact .inl (.inr ⟨o, e a _ h⟩)
  · exact .inr h
theorem Ex.new {F : Hp} {p : Addr} {o : HO} (h : F p = none) : Ex F (upd F p o) := fun a u q => by
  rw [upd_ne (ne_of_none q h)]
  exact q
theorem Ex.both {F H : Hp} {p : Addr} {o : HO} (e : Ex F H) : Ex (upd F p o) (upd H p o) := fun a u q => by
  by_cases h : a = p
  · subst h
    rw [upd_same] at q ⊢
    exact q
  · rw [upd_ne h] at q ⊢
    exact e a u q

def Pre (as bs : List Addr) : Prop := ∀ (i : Nat) (a : Addr), as[i]? = some a → bs[i]? = some a
theorem Pre.refl (as : List Addr) : Pre as as := fun _ _ h => h
theorem Pre.trans {as bs cs : List Addr} (a : Pre as bs) (b : Pre bs cs) : Pre as cs := fun i x h => b i x (a i x h)

section
variable {K : PySem.W.Frag} {as bs : List Addr} {F G : Hp}
mutual
theorem Rp.mono (e : Ex F G) (p : Pre as bs) : ∀ {d : D} {v : V}, Rp K as F d v → Rp K bs G d v
  | _, _, .non => .non
  | _, _, .bl b => .bl b
  | _, _, .int i => .int i
  | _, _, .str s => .str s
  | _, _, .ty n => .ty n
  | _, _, .adr a => .adr a
  | _, _, .cell h => .cell (p _ _ h)
  | _, _, .scr h => .scr (e.sqL h)
  | _, _, .tup h r => .tup (e.sqT h) (RpL.mono e p r)
  | _, _, .lst h r => .lst (e _ _ h) (RpL.mono e p r)
  | _, _, .obj h r => .obj (e _ _ h) (RpF.mono e p r)
  | _, _, .dic h r => .dic (e _ _ h) (RpK.mono e p r)
  | _, _, .exv h r => .exv (e _ _ h) (RpF.mono e p r)
theorem RpL.mono (e : Ex F G) (p : Pre as bs) : ∀ {ds : List D} {vs : List V}, RpL K as F ds vs → RpL K bs G ds vs
  | _, _, .nil => .nil
  | _, _, .cons h r => .cons (Rp.mono e p h) (RpL.mono e p r)
theorem RpF.mono (e : Ex F G) (p : Pre as bs) : ∀ {fs : List (Str × D)} {vfs : List (Str × V)}, RpF K as F fs vfs → RpF K bs G fs vfs
  | _, _, .nil => .nil
  | _, _, .cons h r => .cons (Rp.mono e p h) (RpF.mono e p r)
theorem RpK.mono (e : Ex F G) (p : Pre as bs) : ∀ {fs : List (Key × D)} {vfs : List (Key × V)}, RpK K as F fs vfs → RpK K bs G fs vfs
  | _, _, .nil => .nil
  | _, _, .cons h r => .cons (Rp.mono e p h) (RpK.mono e p r)
end
theorem RpL.length : ∀ {ds : List D} {vs : List V}, RpL K as F ds vs → ds.length = vs.length
  | _, _, .nil => rfl
  | _, _, .cons _ r => congrArg (· + 1) r.length
theorem RpL.append : ∀ {ds es : List D} {vs ws : List V}, RpL K as F ds vs → RpL K as F es ws → RpL K as F (ds ++ es) (vs ++ ws)
  | _, _, _, _, .nil, s => s
  | _, _, _, _, .cons h r, s => .cons h (r.append s)
theorem RpL.get : ∀ {ds : List D} {vs : List V}, RpL K as F ds vs → ∀ {i : Nat} {d : D}, ds[i]? = some d → ∃ v, vs[i]? = some v ∧ Rp K as F d v
  | _, _, .nil, i, d, h => by simp at h
  | _, _, .cons h r, 0, d, e => by
    simp only [List.getElem?_cons_zero, Option.some.injEq] at e
    subst e
    exact ⟨_, rfl, h⟩
  | _, _, .cons h r, i + 1, d, e => by
    obtain ⟨v, q, z⟩ := r.get (i := i) (d := d) (by simpa using e)
    exact ⟨v, by simpa using q, z⟩
theorem RpL.get' : ∀ {ds : List D} {vs : List V}, RpL K as F ds vs → ∀ {i : Nat} {v : V}, vs[i]? = some v → ∃ d, ds[i]? = some d ∧ Rp K as F d v
  | _, _, .nil, i, d, h => by simp at h
  | _, _, .cons h r, 0, d, e => by
    simp only [List.getElem?_cons_zero, Option.some.injEq] at e
    subst e
    exact ⟨_, rfl, h⟩
  | _, _, .cons h r, i + 1, d, e => by
    obtain ⟨v, q, z⟩ := r.get' (i := i) (v := d) (by simpa using e)
    exact ⟨v, by simpa using q, z⟩
theorem RpL.set {d : D} {v : V} (h : Rp K as F d v) : ∀ {ds : List D} {vs : List V} (i : Nat), RpL K as F ds vs → RpL K as F (ds.set i d) (vs.set i v)
  | _, _, _, .nil => .nil
  | _, _, 0, .cons _ r => .cons h r
  | _, _, i + 1, .cons q r => .cons q (RpL.set h i r)
theorem RpL.drop : ∀ {ds : List D} {vs : List V} (n : Nat), RpL K as F ds vs → RpL K as F (ds.drop n) (vs.drop n)
  | _, _, 0, r => r
  | _, _, _ + 1, .nil => .nil
  | _, _, n + 1, .cons _ r => RpL.drop n r
theorem RpL.take : ∀ {ds : List D} {vs : List V} (n : Nat), RpL K as F ds vs → RpL K as F (ds.take n) (vs.take n)
  | _, _, 0, _ => .nil
  | _, _, _ + 1, .nil => .nil
  | _, _, n + 1, .cons h r => .cons h (RpL.take n r)
theorem RpF.look {f : Str} : ∀ {fs : List (Str × D)} {vfs : List (Str × V)} {d : D}, RpF K as F fs vfs → fs.lookup f = some d → ∃ v, vfs.lookup f = some v ∧ Rp K as F d v
  | _, _, d, .nil, e => by simp at e
  | _, _, d, .cons (n := n) h r, e => by
    by_cases q : (f == n) = true
    · simp only [List.lookup, q] at e ⊢
      cases e
      exact ⟨_, rfl, h⟩
    · have q' : (f == n) = false := by simpa using q
      simp only [List.lookup, q'] at e ⊢
      exact r.look e
theorem RpF.look0 {f : Str} : ∀ {fs : List (Str × D)} {vfs : List (Str × V)}, RpF K as F fs vfs → fs.lookup f = none → vfs.lookup f = none
  | _, _, .nil, e => rfl
  | _, _, .cons (n := n) h r, e => by
    by_cases q : (f == n) = true
    · simp only [List.lookup, q] at e
      cases e
    · have q' : (f == n) = false := by simpa using q
      simp only [List.lookup, q'] at e ⊢
      exact r.look0 e
theorem RpL.unsn {ds : List D} {d : D} {vs : List V} (r : RpL K as F (d :: ds) vs) : ∃ v ws, vs = v :: ws ∧ Rp K as F d v ∧ RpL K as F ds ws := by
  cases r with
  | cons h r => exact ⟨_, _, rfl, h, r⟩
theorem RpL.unnil {vs : List V} (r : RpL K as F [] vs) : vs = [] := by
  cases r
  rfl
end

/-! ### cells: lists, dicts, objects that change; what they hold names no cell -/
inductive Cell where
  | lst (ds : List D)
  | dic (kvs : List (Key × D))
  | ob (C : Addr) (fs : List (Str × D))
  | tab (P : Addr) (q : Str)
  | hid
def Cell.isHid : Cell → Bool
  | .hid => true
  | _ => false
abbrev WS := List Cell
/-- what a table of code objects holds -/
def TabOk (F : Hp) (q : Str) (ps : Array Value) : Prop := TriplesOk ps.toList ∧ ∀ (pos : Pos) (cv : Value), codeAmong pos ps.toList = some cv → ∃ c, cv = .ref c ∧ F c = some (LamX.CodeO c q)
def CellOf (K : PySem.W.Frag) (F : Hp) (p : Addr) : Cell → HO → Prop
  | .lst ds, .lst xs => RpL K [] F ds xs
  | .dic kvs, .dK vkv => RpK K [] F kvs vkv
  | .ob C fs, .ins C' _ vfs => C' = C ∧ RpF K [] F fs vfs
  | .tab P q, .tbl ps => p = P ∧ TabOk F q ps
  | .hid, _ => True
  | _, _ => False
theorem CellOf.mono {K : PySem.W.Frag} {F G : Hp} {p : Addr} (e : Ex F G) : ∀ {c : Cell} {o : HO}, CellOf K F p c o → CellOf K G p c o := by
  intro c o h
  cases c with
  | hid => trivial
  | tab P q =>
    cases o with
    | tbl ps => exact ⟨h.1, h.2.1, fun pos cv hc => let ⟨c, e1, e2⟩ := h.2.2 pos cv hc; ⟨c, e1, e _ _ e2⟩⟩
    | _ => exact h.elim
  | lst ds =>
    cases o with
    | lst xs => exact RpL.mono e (Pre.refl _) h
    | _ => exact h.elim
  | dic ds =>
    cases o with
    | dK xs => exact RpK.mono e (Pre.refl _) h
    | _ => exact h.elim
  | ob C fs =>
    cases o with
    | ins C' dx vfs => exact ⟨h.1, RpF.mono e (Pre.refl _) h.2⟩
    | _ => exact h.elim
structure CellAt (K : PySem.W.Frag) (F H : Hp) (p : Addr) (c : Cell) : Prop where
  out : c.isHid = false → F p = none
  at_ : ∃ o, H p = some o ∧ CellOf K F p c o
theorem CellAt.there {K : PySem.W.Frag} {F H : Hp} {p : Addr} {c : Cell} (h : CellAt K F H p c) : H p ≠ none := by
  obtain ⟨o, e, _⟩ := h.at_
  rw [e]
  simp
/-- F: what stands still; H: the heap; as, S: the cells -/
structure Sit (K : PySem.W.Frag) (as : List Addr) (F H : Hp) (S : WS) : Prop where
  len : as.length = S.length
  ex : Ex F H
  nd : as.Nodup
  cell : ∀ (i : Nat) (p : Addr) (c : Cell), as[i]? = some p → S[i]? = some c → CellAt K F H p c
theorem Sit.at_ {K : PySem.W.Frag} {as : List Addr} {F H : Hp} {S : WS} (I : Sit K as F H S) {i : Nat} {c : Cell} (h : S[i]? = some c) : ∃ p, as[i]? = some p ∧ CellAt K F H p c := by
  have hl : i < as.length := by
    rw [I.len]
    exact (List.getElem?_eq_some_iff.mp h).1
  exact ⟨as[i], List.getElem?_eq_getElem hl, I.cell i _ c (List.getElem?_eq_getElem hl) h⟩
theorem Sit.there {K : PySem.W.Frag} {as : List Addr} {F H : Hp} {S : WS} (I : Sit K as F H S) {p : Addr} (h : p ∈ as) : H p ≠ none := by
  obtain ⟨i, hi⟩ := List.getElem?_of_mem h
  have hl : i < S.length := by
    rw [← I.len]
    exact (List.getElem?_eq_some_iff.mp hi).1
  exact (I.cell i p S[i] hi (List.getElem?_eq_getElem hl)).there
structure Grow (K : PySem.W.Frag) (as : List Addr) (F H : Hp) (bs : List Addr) (F' H' : Hp) (S' : WS) : Prop where
  sit : Sit K bs F' H' S'
  pre : Pre as bs
  ex : Ex F F'
  new : ∀ a, F' a ≠ none → F a ≠ none ∨ H a = none
  newc : ∀ p ∈ bs, p ∈ as ∨ H p = none
  old : ∀ a o, a ∉ as → H a = some o → H' a = some o
  there : ∀ a, H a ≠ none → H' a ≠ none
section
variable {K : PySem.W.Frag} {as bs cs : List Addr} {F H F1 H1 F2 H2 : Hp} {S S1 S2 : WS}
theorem Grow.refl (I : Sit K as F H S) : Grow K as F H as F H S :=
  ⟨I, Pre.refl _, Ex.refl _, fun _ h => .inl h, fun _ h => .inl h, fun _ _ _ h => h, fun _ h => h⟩
theorem none_back {a : Addr} (t : H a ≠ none → H1 a ≠ none) (h : H1 a = none) : H a = none := by
  cases q : H a with
  | none => rfl
  | some o => exact absurd h (t (by rw [q]; simp))
theorem Grow.trans (a : Grow K as F H bs F1 H1 S1) (b : Grow K bs F1 H1 cs F2 H2 S2) : Grow K as F H cs F2 H2 S2 where
  sit := b.sit
  pre := a.pre.trans b.pre
  ex := a.ex.trans b.ex
  new := fun x h => by
    rcases b.new x h with h | h
    · exact a.new x h
    · exact .inr (none_back (a.there x) h)
  newc := fun p h => by
    rcases b.newc p h with h | h
    · exact a.newc p h
    · exact .inr (none_back (a.there p) h)
  old := fun x o h q => by
    have q1 := a.old x o h q
    refine b.old x o (fun hx => ?_) q1
    rcases a.newc x hx with z | z
    · exact h z
    · rw [z] at q
      cases q
  there := fun x h => b.there x (a.there x h)
theorem RpE_aux {d : D} {v : V} (g : Grow K as F H bs F1 H1 S1) (r : Rp K as F d v) : Rp K bs F1 d v := r.mono g.ex g.pre
theorem Sit.out {p : Addr} (I : Sit K as F H S) (hp : H p = none) : F p = none := by
  cases q : F p with
  | none => rfl
  | some u =>
    have z := I.ex p u q
    rw [hp] at z
    cases z
theorem upd_there {p a : Addr} {o : HO} (h : H a ≠ none) : upd H p o a ≠ none := by
  by_cases e : a = p
  · subst e
    rw [upd_same]
    simp
  · rw [upd_ne e]
    exact h
/-- a new thing that stands still -/
theorem Sit.grow {p : Addr} {o : HO} (I : Sit K as F H S) (hp : H p = none) : Grow K as F H as (upd F p o) (upd H p o) S := by
  have fp : F p = none := I.out hp
  have np : ∀ q ∈ as, q ≠ p := fun q hq e => I.there (e ▸ hq) hp
  refine ⟨⟨I.len, I.ex.both, I.nd, fun i q c h1 h2 => ?_⟩, Pre.refl _, Ex.new fp, fun a h => ?_, fun _ h => .inl h, fun a u _ h => ?_, fun a h => upd_there h⟩
  · obtain ⟨z1, ob, z2, z3⟩ := I.cell i q c h1 h2
    have nq : q ≠ p := np q (List.mem_of_getElem? h1)
    exact ⟨fun h => by rw [upd_ne nq]; exact z1 h, ob, by rw [upd_ne nq]; exact z2, z3.mono (Ex.new fp)⟩
  · by_cases e : a = p
    · subst e
      exact .inr hp
    · rw [upd_ne e] at h
      exact .inl h
  · rw [upd_ne (ne_of_none h hp)]
    exact h
/-- a thing that neither stands still nor is a cell changes -/
theorem Sit.other {p : Addr} {o : HO} (I : Sit K as F H S) (hf : F p = none) (ha : p ∉ as) : Sit K as F (upd H p o) S := by
  refine ⟨I.len, fun a u h => ?_, I.nd, fun i q c h1 h2 => ?_⟩
  · have np : a ≠ p := fun z => by rw [z, hf] at h; cases h
    rw [upd_ne np]
    exact I.ex a u h
  · obtain ⟨z1, ob, z2, z3⟩ := I.cell i q c h1 h2
    have nq : q ≠ p := fun z => ha (z ▸ List.mem_of_getElem? h1)
    exact ⟨z1, ob, by rw [upd_ne nq]; exact z2, z3⟩
/-- a thing that is no cell stands still from here on -/
theorem Sit.freeze {p : Addr} {o : HO} (I : Sit K as F H S) (hf : F p = none) (ha : p ∉ as) (hp : H p = some o) : Sit K as (upd F p o) H S := by
  refine ⟨I.len, fun a u h => ?_, I.nd, fun i q c h1 h2 => ?_⟩
  · by_cases e2 : a = p
    · subst e2
      rw [upd_same] at h
      cases h
      exact hp
    · rw [upd_ne e2] at h
      exact I.ex a u h
  · obtain ⟨z1, ob, z2, z3⟩ := I.cell i q c h1 h2
    have nq : q ≠ p := fun z => ha (z ▸ List.mem_of_getElem? h1)
    exact ⟨fun h => by rw [upd_ne nq]; exact z1 h, ob, z2, z3.mono (Ex.new hf)⟩
end

/-! ### what is computed -/
abbrev Env := List (Option D)
abbrev Xq := D → WS → Prop
abbrev M := WS → (D → WS → Prop) → Xq → Prop
abbrev MB := WS → (Bool → WS → Prop) → Xq → Prop
abbrev ML := WS → (List D → WS → Prop) → Xq → Prop
/-- where a statement may go on -/
structure Kt where
  nx : Env → WS → Prop
  rt : D → WS → Prop
  bk : Env → WS → Prop
  ct : Env → WS → Prop
  ex : D → Env → WS → Prop
abbrev MS := WS → Kt → Prop
/-- the slots -/
structure RpE (K : PySem.W.Frag) (as : List Addr) (F : Hp) (ρ : Env) (σ : L2.St) : Prop where
  len : ρ.length = σ.length
  at_ : ∀ (i : Nat) (d : D), ρ[i]? = some (some d) → ∃ v, σ[i]? = some (some v) ∧ Rp K as F d v
theorem RpE.mono {K : PySem.W.Frag} {as bs : List Addr} {F G : Hp} {ρ : Env} {σ : L2.St} (r : RpE K as F ρ σ) (e : Ex F G) (p : Pre as bs) : RpE K bs G ρ σ :=
  ⟨r.len, fun i d h => let ⟨v, h1, h2⟩ := r.at_ i d h; ⟨v, h1, h2.mono e p⟩⟩
theorem RpE.grow {K : PySem.W.Frag} {as bs : List Addr} {F H F1 H1 : Hp} {S1 : WS} {ρ : Env} {σ : L2.St} (r : RpE K as F ρ σ) (g : Grow K as F H bs F1 H1 S1) : RpE K bs F1 ρ σ := r.mono g.ex g.pre
theorem RpE.set {K : PySem.W.Frag} {as : List Addr} {F : Hp} {ρ : Env} {σ : L2.St} {i : Nat} {d : D} {v : V} (r : RpE K as F ρ σ) (h : Rp K as F d v) : RpE K as F (ρ.set i (some d)) (σ.set i (some v)) := by
  refine ⟨by rw [List.length_set, List.length_set]; exact r.len, fun j e q => ?_⟩
  by_cases hj : i = j
  · subst hj
    have hl : i < ρ.length := by
      have := (List.getElem?_eq_some_iff.mp q).1
      rwa [List.length_set] at this
    rw [List.getElem?_set_self hl] at q
    cases q
    exact ⟨v, List.getElem?_set_self (by rw [← r.len]; exact hl), h⟩
  · rw [List.getElem?_set_ne hj] at q ⊢
    exact r.at_ j e q
/-- an error in flight -/
def RxD (K : PySem.W.Frag) (as : List Addr) (F : Hp) (e : D) (cls : Value) (dd : Option Addr) : Prop := ∃ (C d : Addr) (fs : List (Str × D)) (vfs : List (Str × V)), e = .exc C fs ∧ cls = .ref C ∧ dd = some d ∧ F d = some (.xd vfs) ∧ RpF K as F fs vfs
theorem RxD.mono {K : PySem.W.Frag} {as bs : List Addr} {F G : Hp} {e : D} {cls : Value} {dd : Option Addr} (x : Ex F G) (p : Pre as bs) (r : RxD K as F e cls dd) : RxD K bs G e cls dd := by
  obtain ⟨C, d, fs, vfs, e1, e2, e3, e4, e5⟩ := r
  exact ⟨C, d, fs, vfs, e1, e2, e3, x _ _ e4, e5.mono x p⟩
/-- the value's end -/
def NQ (K : PySem.W.Frag) (as : List Addr) (F H : Hp) (q : D → WS → Prop) (Q : VK) : Prop := ∀ d S' bs F' H' v, q d S' → Grow K as F H bs F' H' S' → Rp K bs F' d v → Q v H'
/-- the error's end -/
def XQ (K : PySem.W.Frag) (as : List Addr) (F H : Hp) (x : Xq) (E : XK) : Prop := ∀ e S' bs F' H' cls dd, x e S' → Grow K as F H bs F' H' S' → RxD K bs F' e cls dd → E cls dd H'
section
variable {K : PySem.W.Frag} {as bs : List Addr} {F H F1 H1 : Hp} {S1 : WS} {q : D → WS → Prop} {Q : VK} {x : Xq} {E : XK}
theorem NQ.step (h : NQ K as F H q Q) (g : Grow K as F H bs F1 H1 S1) : NQ K bs F1 H1 q Q := fun d S' cs F' H' v a b c => h d S' cs F' H' v a (g.trans b) c
theorem XQ.step (h : XQ K as F H x E) (g : Grow K as F H bs F1 H1 S1) : XQ K bs F1 H1 x E := fun d S' cs F' H' v w a b c => h d S' cs F' H' v w a (g.trans b) c
theorem XQ.no : XQ K as F H (fun _ _ => False) E := fun _ _ _ _ _ _ _ h => h.elim
end
/-- the value of an expression's reading, by the data -/
def ME (K : PySem.W.Frag) (W : WX) (te : TE) (m : Env → M) : Prop := ∀ (as : List Addr) (F H : Hp) (S : WS) (ρ : Env) (σ : L2.St), Sit K as F H S → RpE K as F ρ σ → ∀ q x, m ρ S q x →
  ∀ Q : VK, NQ K as F H q Q → XQ K as F H x (WE W σ) → te σ H Q
def MTt (K : PySem.W.Frag) (W : WX) (te : TT) (m : Env → MB) : Prop := ∀ (as : List Addr) (F H : Hp) (S : WS) (ρ : Env) (σ : L2.St), Sit K as F H S → RpE K as F ρ σ → ∀ q x, m ρ S q x →
  ∀ Q : Bool → Hp → Prop, (∀ b S' bs F' H', q b S' → Grow K as F H bs F' H' S' → Q b H') → XQ K as F H x (WE W σ) → te σ H Q
def MA (K : PySem.W.Frag) (W : WX) (te : TA) (m : Env → ML) : Prop := ∀ (as : List Addr) (F H : Hp) (S : WS) (ρ : Env) (σ : L2.St), Sit K as F H S → RpE K as F ρ σ → ∀ q x, m ρ S q x →
  ∀ Q : List V → Hp → Prop, (∀ ds S' bs F' H' vs, q ds S' → Grow K as F H bs F' H' S' → RpL K bs F' ds vs → Q vs H') → XQ K as F H x (WE W σ) → te σ H Q
structure SQ (K : PySem.W.Frag) (W : WX) (as : List Addr) (F H : Hp) (k : Kt) (E : Ends) : Prop where
  nx : ∀ ρ' S' bs F' H' σ', k.nx ρ' S' → Grow K as F H bs F' H' S' → RpE K bs F' ρ' σ' → E.nx σ' H'
  rt : ∀ d S' bs F' H' v, k.rt d S' → Grow K as F H bs F' H' S' → Rp K bs F' d v → E.rt v H'
  bk : ∀ ρ' S' bs F' H' σ', k.bk ρ' S' → Grow K as F H bs F' H' S' → RpE K bs F' ρ' σ' → E.bk σ' H'
  ct : ∀ ρ' S' bs F' H' σ', k.ct ρ' S' → Grow K as F H bs F' H' S' → RpE K bs F' ρ' σ' → E.ct σ' H'
  ex : ∀ e ρ' S' bs F' H' σ' cls dd, k.ex e ρ' S' → Grow K as F H bs F' H' S' → RpE K bs F' ρ' σ' → RxD K bs F' e cls dd → W cls dd σ' H'
theorem SQ.step {K : PySem.W.Frag} {W : WX} {as bs : List Addr} {F H F1 H1 : Hp} {S1 : WS} {k : Kt} {E : Ends} (h : SQ K W as F H k E) (g : Grow K as F H bs F1 H1 S1) : SQ K W bs F1 H1 k E :=
  ⟨fun a b c d e f x y => h.nx a b c d e f x (g.trans y), fun a b c d e f x y => h.rt a b c d e f x (g.trans y), fun a b c d e f x y => h.bk a b c d e f x (g.trans y), fun a b c d e f x y => h.ct a b c d e f x (g.trans y), fun a b c d e f i j l x y => h.ex a b c d e f i j l x (g.trans y)⟩
/-- an expression's error within a statement -/
theorem SQ.xq {K : PySem.W.Frag} {W : WX} {as : List Addr} {F H : Hp} {k : Kt} {E : Ends} {ρ : Env} {σ : L2.St} (h : SQ K W as F H k E) (R : RpE K as F ρ σ) : XQ K as F H (fun e S' => k.ex e ρ S') (WE W σ) := fun e S' bs F' H' cls dd a g r => h.ex e ρ S' bs F' H' σ cls dd a g (R.grow g) r
def MSt (K : PySem.W.Frag) (W : WX) (ts : TS) (m : Env → MS) : Prop := ∀ (as : List Addr) (F H : Hp) (S : WS) (ρ : Env) (σ : L2.St), Sit K as F H S → RpE K as F ρ σ → ∀ k, m ρ S k →
  ∀ E : Ends, SQ K W as F H k E → ts E σ H

structure GE (X : Cx) (W : WX) (e : Expr) (m : Env → M) : Prop where
  ex : ∃ te, PE X e te ∧ ME X.K W te m
structure GT (X : Cx) (W : WX) (e : Expr) (m : Env → MB) : Prop where
  ex : ∃ te, PT X e te ∧ MTt X.K W te m
structure GW (X : Cx) (W : WX) (e : Expr) (m : Env → MB) : Prop where
  ex : ∃ te, PW X e te ∧ MTt X.K W te m
structure GA (X : Cx) (W : WX) (es : List Expr) (m : Env → ML) : Prop where
  ex : ∃ te, PA X es te ∧ MA X.K W te m
structure GS (X : Cx) (W : WX) (st : Stmt) (m : Env → MS) : Prop where
  ex : ∃ ts, PS X st ts ∧ MSt X.K W ts m
structure GSs (X : Cx) (W : WX) (sts : List Stmt) (m : Env → MS) : Prop where
  ex : ∃ ts, PSs X sts ts ∧ MSt X.K W ts m
end RV
end
section
/-! Expressions: what each construct computes, and that its reading keeps to it. -/
namespace RV
open PySem L2
section
variable {X : Cx} {W : WX} {a b c e : Expr} {pos : Pos} {ea eb ec ee : Env → M}

def onS {α : Type} (o : Option α) (k : α → Prop) : Prop := match o with
  | some a => k a
  | none => False
theorem onS_ok {α : Type} {o : Option α} {k : α → Prop} (h : onS o k) : ∃ a, o = some a ∧ k a := by
  cases o with
  | none => exact h.elim
  | some a => exact ⟨a, rfl, h⟩
def look : Env → Nat → Option D
  | [], _ => none
  | d :: _, 0 => d
  | _ :: r, n + 1 => look r n
theorem look_at : ∀ {ρ : Env} {i : Nat} {d : D}, look ρ i = some d → ρ[i]? = some (some d)
  | [], _, _, h => by cases h
  | _ :: _, 0, _, h => by
    unfold look at h
    rw [h]
    rfl
  | _ :: _, n + 1, _, h => by
    unfold look at h
    simpa using look_at h
def eVar (i : Nat) : Env → M := fun ρ S q _ => onS (look ρ i) fun d => q d S
def eC (d : D) : Env → M := fun _ S q _ => q d S
theorem ge_var (i : Nat) {x : Str} (hN : X.N[i]? = some x := by rfl) (hv : Vis X.env.scope x := by first | exact Or.inl rfl | exact Or.inr (Or.inl rfl) | exact Or.inr (Or.inr rfl))
    (hd : (x == ("__debug__" : Str)) = false := by decide) (hcd : (x == ("__classdict__" : Str)) = false := by decide) : GE X W (.Name x pos) (eVar i) := by
  refine ⟨tVar i, pe_var hN hv hd hcd, fun as F H S ρ σ I R q x h Q hq _ => ?_⟩
  obtain ⟨d, h1, h2⟩ := onS_ok h
  obtain ⟨v, h3, h4⟩ := R.at_ i _ (look_at h1)
  exact ⟨v, h3, hq d S as F H v h2 (Grow.refl I) h4⟩
theorem me_c {K : PySem.W.Frag} {v : V} {d : D} (h : ∀ as F, Rp K as F d v) : ME K W (tC v) (eC d) := fun as F H S ρ σ I R q x e Q hq _ => hq d S as F H v e (Grow.refl I) (h as F)
theorem ge_int {i : Int} {j : Nat} : GE X W (.Constant (.int i) j pos) (eC (.int i)) := ⟨_, pe_int, me_c fun _ _ => .int i⟩
theorem ge_bl {i : Bool} {j : Nat} : GE X W (.Constant (.bool i) j pos) (eC (.bl i)) := ⟨_, pe_bl, me_c fun _ _ => .bl i⟩
theorem ge_str {i : Str} {j : Nat} : GE X W (.Constant (.str i) j pos) (eC (.str i)) := ⟨_, pe_str, me_c fun _ _ => .str i⟩
theorem ge_non {j : Nat} : GE X W (.Constant .none j pos) (eC .non) := ⟨_, pe_non, me_c fun _ _ => .non⟩
/-- a module's text, number, class -/
theorem ge_gstr {x z : Str} (hm : ∃ t, X.mg x = some (.str z t)) (hg : Gl X x := by rfl) (hd : (x == ("__debug__" : Str)) = false := by decide) : GE X W (.Name x pos) (eC (.str z)) := by
  obtain ⟨t, hm⟩ := hm
  exact ⟨_, pe_glob (v := .str z) hg hm ⟨t, rfl⟩ hd, me_c fun _ _ => .str z⟩
theorem ge_gint {x : Str} {i : Int} (hm : ∃ t, X.mg x = some (.int i t)) (hg : Gl X x := by rfl) (hd : (x == ("__debug__" : Str)) = false := by decide) : GE X W (.Name x pos) (eC (.int i)) := by
  obtain ⟨t, hm⟩ := hm
  exact ⟨_, pe_glob (v := .int i) hg hm ⟨t, rfl⟩ hd, me_c fun _ _ => .int i⟩
theorem ge_gref {x : Str} {a : Addr} (hm : X.mg x = some (.ref a)) (hg : Gl X x := by rfl) (hd : (x == ("__debug__" : Str)) = false := by decide) : GE X W (.Name x pos) (eC (.adr a)) :=
  ⟨_, pe_glob (v := .ref a) hg hm rfl hd, me_c fun _ _ => .adr a⟩
theorem ge_ty {x : Str} {n : String} (hm : X.mg x = none) (hv : bootBuiltins x = some (.type n)) (hg : Gl X x := by rfl) (hn : x ≠ "__name__" := by decide) (hd : (x == ("__debug__" : Str)) = false := by decide) : GE X W (.Name x pos) (eC (.ty n)) :=
  ⟨_, pe_bltn (v := .ty n) hg hm hv rfl hn hd, me_c fun _ _ => .ty n⟩

/-! ### operations -/
/-- an operation on values by one on data; nothing but new things comes -/
def RO (K : PySem.W.Frag) (r : R2) (f : WS → D → D → Option D) : Prop := ∀ (as : List Addr) (F H : Hp) (S : WS) (x y d : D) (vx vy : V), Sit K as F H S → Rp K as F x vx → Rp K as F y vy → f S x y = some d →
  ∀ Q : VK, (∀ F' H' v, Grow K as F H as F' H' S → Rp K as F' d v → Q v H') → r vx vy H Q
def eOp (f : WS → D → D → Option D) (ea eb : Env → M) : Env → M := fun ρ S q x => ea ρ S (fun u S1 => eb ρ S1 (fun v S2 => onS (f S2 u v) fun d => q d S2) x) x
theorem me_op {K : PySem.W.Frag} {r : R2} {f : WS → D → D → Option D} {ta tb : TE} (hr : RO K r f) (ha : ME K W ta ea) (hb : ME K W tb eb) : ME K W (tOp r ta tb) (eOp f ea eb) := fun as F H S ρ σ I R q x h Q hq hx => by
  refine ha as F H S ρ σ I R _ x h _ (fun u S1 bs F1 H1 v1 h1 g1 r1 => ?_) hx
  refine hb bs F1 H1 S1 ρ σ g1.sit (R.grow g1) _ x h1 _ (fun w S2 cs F2 H2 v2 h2 g2 r2 => ?_) (hx.step g1)
  obtain ⟨d, h3, h4⟩ := onS_ok h2
  exact hr cs F2 H2 S2 u w d v1 v2 g2.sit (RpE_aux g2 r1) r2 h3 Q fun F3 H3 v3 g3 r3 => hq d S2 cs F3 H3 v3 h4 ((g1.trans g2).trans g3) r3
theorem ge_op {op : Operator} {r : R2} {f : WS → D → D → Option D} (ho : OpR X (binaryOp op) r) (hr : RO X.K r f) (ha : GE X W a ea) (hb : GE X W b eb) : GE X W (.BinOp a op b pos) (eOp f ea eb) := by
  obtain ⟨ta, pa, ma⟩ := ha
  obtain ⟨tb, pb, mb⟩ := hb
  exact ⟨_, pe_op ho pa pb, me_op hr ma mb⟩
theorem ge_cmp {op : CmpOp} {r : R2} {f : WS → D → D → Option D} (ho : OpR X (compareOp op) r) (hr : RO X.K r f) (ha : GE X W a ea) (hb : GE X W b eb) (hm : behindInMarks op b = false) : GE X W (.Compare a [op] [b] pos) (eOp f ea eb) := by
  obtain ⟨ta, pa, ma⟩ := ha
  obtain ⟨tb, pb, mb⟩ := hb
  exact ⟨_, pe_cmpR ho pa pb hm, me_op hr ma mb⟩
theorem ge_ix {r : R2} {f : WS → D → D → Option D} (ho : IxR X r) (hr : RO X.K r f) (ha : GE X W a ea) (hb : GE X W b eb) (hs : PlainIx b := by exact fun _ _ => rfl) : GE X W (.Subscript a b pos) (eOp f ea eb) := by
  obtain ⟨ta, pa, ma⟩ := ha
  obtain ⟨tb, pb, mb⟩ := hb
  exact ⟨_, pe_ix ho pa pb hs, me_op hr ma mb⟩
def RU (K : PySem.W.Frag) (r : V → Hp → VK → Prop) (f : WS → D → Option D) : Prop := ∀ (as : List Addr) (F H : Hp) (S : WS) (x d : D) (vx : V), Sit K as F H S → Rp K as F x vx → f S x = some d →
  ∀ Q : VK, (∀ F' H' v, Grow K as F H as F' H' S → Rp K as F' d v → Q v H') → r vx H Q
def eUn (f : WS → D → Option D) (ea : Env → M) : Env → M := fun ρ S q x => ea ρ S (fun u S1 => onS (f S1 u) fun d => q d S1) x
theorem me_un {K : PySem.W.Frag} {r : V → Hp → VK → Prop} {f : WS → D → Option D} {ta : TE} (hr : RU K r f) (ha : ME K W ta ea) : ME K W (tUn r ta) (eUn f ea) := fun as F H S ρ σ I R q x h Q hq hx => by
  refine ha as F H S ρ σ I R _ x h _ (fun u S1 bs F1 H1 v1 h1 g1 r1 => ?_) hx
  obtain ⟨d, h3, h4⟩ := onS_ok h1
  exact hr bs F1 H1 S1 u d v1 g1.sit r1 h3 Q fun F3 H3 v3 g3 r3 => hq d S1 bs F3 H3 v3 h4 (g1.trans g3) r3
theorem ge_un {op : UnaryOp} {r : V → Hp → VK → Prop} {f : WS → D → Option D} (ho : UnR X (unaryOp op) r) (hr : RU X.K r f) (ha : GE X W a ea) : GE X W (.UnaryOp op a pos) (eUn f ea) := by
  obtain ⟨ta, pa, ma⟩ := ha
  exact ⟨_, pe_un ho pa, me_un hr ma⟩

/-! ### arguments -/
def aNil : Env → ML := fun _ S q _ => q [] S
def aCons (ea : Env → M) (er : Env → ML) : Env → ML := fun ρ S q x => ea ρ S (fun u S1 => er ρ S1 (fun ds S2 => q (u :: ds) S2) x) x
theorem ma_nil {K : PySem.W.Frag} : MA K W tNil aNil := fun as F H S ρ σ I R q x h Q hq _ => hq [] S as F H [] h (Grow.refl I) .nil
theorem ma_cons {K : PySem.W.Frag} {ta : TE} {tr : TA} {er : Env → ML} (ha : ME K W ta ea) (hr : MA K W tr er) : MA K W (tCons ta tr) (aCons ea er) := fun as F H S ρ σ I R q x h Q hq hx => by
  refine ha as F H S ρ σ I R _ x h _ (fun u S1 bs F1 H1 v1 h1 g1 r1 => ?_) hx
  refine hr bs F1 H1 S1 ρ σ g1.sit (R.grow g1) _ x h1 _ (fun ds S2 cs F2 H2 vs h2 g2 r2 => ?_) (hx.step g1)
  exact hq (u :: ds) S2 cs F2 H2 (v1 :: vs) h2 (g1.trans g2) (.cons (RpE_aux g2 r1) r2)
theorem ga_nil : GA X W [] aNil := ⟨_, pa_nil, ma_nil⟩
theorem ga_cons {es : List Expr} {er : Env → ML} (ha : GE X W e ea) (hr : GA X W es er) (hs : starEach (e :: es) X.env = (false, eval e X.env) :: starEach es X.env := by rfl) : GA X W (e :: es) (aCons ea er) := by
  obtain ⟨ta, pa, ma⟩ := ha
  obtain ⟨tr, pr, mr⟩ := hr
  exact ⟨_, pa_cons pa pr hs, ma_cons ma mr⟩
structure GK (X : Cx) (W : WX) (kws : List Keyword) (m : Env → ML) : Prop where
  ex : ∃ te, PK X kws te ∧ MA X.K W te m
theorem gk_nil : GK X W [] aNil := ⟨_, pk_nil, ma_nil⟩
theorem gk_cons {nm : Option Str} {kpos : Pos} {kws : List Keyword} {er : Env → ML} (ha : GE X W e ea) (hr : GK X W kws er) : GK X W (⟨nm, e, kpos⟩ :: kws) (aCons ea er) := by
  obtain ⟨ta, pa, ma⟩ := ha
  obtain ⟨tr, pr, mr⟩ := hr
  exact ⟨_, pk_cons pa pr, ma_cons ma mr⟩

/-! ### displays -/
def small (n : Nat) : Bool := decide (n ≤ 100000)
theorem small_le {n : Nat} (h : small n = true) : n ≤ sizeLine := Nat.le_trans (of_decide_eq_true h) (by decide)
def eSeq (mk : List D → D) (er : Env → ML) : Env → M := fun ρ S q x => er ρ S (fun ds S1 => small ds.length = true ∧ q (mk ds) S1) x
theorem me_tup {K : PySem.W.Frag} {t : TA} {er : Env → ML} (h : MA K W t er) : ME K W (tTup t) (eSeq .tup er) := fun as F H S ρ σ I R q x e Q hq hx => by
  refine h as F H S ρ σ I R _ x e _ (fun ds S1 bs F1 H1 vs h1 g1 r1 => ⟨?_, fun a ha => ?_⟩) hx
  · rw [← r1.length]
    exact small_le h1.1
  · have g2 := g1.sit.grow (o := .tup vs) ha
    exact hq _ S1 bs _ _ _ h1.2 (g1.trans g2) (.tup (SqT.of upd_same) (r1.mono g2.ex g2.pre))
theorem me_lst {K : PySem.W.Frag} {t : TA} {er : Env → ML} (h : MA K W t er) : ME K W (tLst t) (eSeq .lst er) := fun as F H S ρ σ I R q x e Q hq hx => by
  refine h as F H S ρ σ I R _ x e _ (fun ds S1 bs F1 H1 vs h1 g1 r1 => ⟨?_, fun a ha => ?_⟩) hx
  · rw [← r1.length]
    exact small_le h1.1
  · have g2 := g1.sit.grow (o := .lst vs) ha
    exact hq _ S1 bs _ _ _ h1.2 (g1.trans g2) (.lst upd_same (r1.mono g2.ex g2.pre))
theorem ge_tup {es : List Expr} {er : Env → ML} {x1} (h : GA X W es er) : GE X W (.Tuple es x1 pos) (eSeq .tup er) := by
  obtain ⟨t, p, m⟩ := h
  exact ⟨_, pe_tup p, me_tup m⟩
theorem ge_lst {es : List Expr} {er : Env → ML} (h : GA X W es er) : GE X W (.List es pos) (eSeq .lst er) := by
  obtain ⟨t, p, m⟩ := h
  exact ⟨_, pe_lst p, me_lst m⟩

/-! ### calls of built-ins -/
def RC (K : PySem.W.Frag) (r : List V → Hp → VK → Prop) (f : WS → List D → Option D) : Prop := ∀ (as : List Addr) (F H : Hp) (S : WS) (ds : List D) (d : D) (vs : List V), Sit K as F H S → RpL K as F ds vs → f S ds = some d →
  ∀ Q : VK, (∀ F' H' v, Grow K as F H as F' H' S → Rp K as F' d v → Q v H') → r vs H Q
def eCall (f : WS → List D → Option D) (er : Env → ML) : Env → M := fun ρ S q x => er ρ S (fun ds S1 => onS (f S1 ds) fun d => q d S1) x
theorem me_cb {K : PySem.W.Frag} {r : List V → Hp → VK → Prop} {f : WS → List D → Option D} {t : TA} {er : Env → ML} (hr : RC K r f) (h : MA K W t er) : ME K W (tCB r t) (eCall f er) := fun as F H S ρ σ I R q x e Q hq hx => by
  refine h as F H S ρ σ I R _ x e _ (fun ds S1 bs F1 H1 vs h1 g1 r1 => ?_) hx
  obtain ⟨d, h3, h4⟩ := onS_ok h1
  exact hr bs F1 H1 S1 ds d vs g1.sit r1 h3 Q fun F3 H3 v3 g3 r3 => hq d S1 bs F3 H3 v3 h4 (g1.trans g3) r3
theorem ge_callB {x : Str} {id : String} {r : List V → Hp → VK → Prop} {f : WS → List D → Option D} {p : Pos} {es : List Expr} {er : Env → ML} (hc : CallR X (.builtin id) r) (hr : RC X.K r f) (hm : X.mg x = none) (hv : bootBuiltins x = some (.builtin id)) (ha : GA X W (e :: es) er)
    (hg : Gl X x := by rfl) (hn : x ≠ "__name__" := by decide) (hdb : (x == ("__debug__" : Str)) = false := by decide) (h1 : starEach (e :: es) X.env = (false, eval e X.env) :: starEach es X.env := by rfl) (h2 : (backTo pos (starEach es X.env)).any (·.1) = false := by rfl) :
    GE X W (.Call (.Name x p) (e :: es) [] pos) (eCall f er) := by
  obtain ⟨t, p, m⟩ := ha
  exact ⟨_, pe_callB hc hg hm hv p hn hdb h1 h2, me_cb hr m⟩
theorem ge_callTy {x : Str} {T : String} {r : List V → Hp → VK → Prop} {f : WS → List D → Option D} {p : Pos} {es : List Expr} {er : Env → ML} (hc : CallR X (.type T) r) (hr : RC X.K r f) (hm : X.mg x = none) (hv : bootBuiltins x = some (.type T)) (ha : GA X W (e :: es) er)
    (hg : Gl X x := by rfl) (hn : x ≠ "__name__" := by decide) (hdb : (x == ("__debug__" : Str)) = false := by decide) (h1 : starEach (e :: es) X.env = (false, eval e X.env) :: starEach es X.env := by rfl) (h2 : (backTo pos (starEach es X.env)).any (·.1) = false := by rfl) :
    GE X W (.Call (.Name x p) (e :: es) [] pos) (eCall f er) := by
  obtain ⟨t, p, m⟩ := ha
  exact ⟨_, pe_callTy hc hg hm hv p hn hdb h1 h2, me_cb hr m⟩

/-! ### calls of defs -/
/-- the promise of a def: it goes on as G says -/
def spG (K : PySem.W.Frag) (n : Nat) (G : List D → M) : Sp := fun vs H Q E => ∃ (as : List Addr) (F : Hp) (S : WS) (ds : List D) (q : D → WS → Prop) (x : Xq), Sit K as F H S ∧ RpL K as F ds vs ∧ ds.length = n ∧ G ds S q x ∧ NQ K as F H q Q ∧ XQ K as F H x E
/-- how a def is asked: g: only where no text of a thing is being made; n: what it raises has no context; h: while an error is handled -/
structure Md where
  g : Bool
  n : Bool
  h : Bool
def CXm (n : Bool) (P : Program) (w : World) : CXT := match n with
  | true => L2N.CX P w
  | false => L2.CX P w
theorem cxm_no {n : Bool} {P : Program} {w : World} {outer : List PySem.Env} {H : Hp} {s s' : Shared} {u : Value} (c : CXm n P w outer H s (fun _ _ _ => False) u s') : False := by
  cases n <;> (obtain ⟨a, B, H', cls, d, c⟩ := c; exact c.2.2.2.2.2.2.2.elim)
def Tk (n : Bool) (X : Cx) (W : WX) : Prop := match n with
  | true => L2N.Takes X W
  | false => L2.Takes X W
theorem Tk.pass {n : Bool} {X : Cx} {W : WX} (tk : Tk n X W) (σ : L2.St) : PassesAt (CXm n X.prog X.w) X σ (WE W σ) := by
  cases n
  · exact L2.passAt tk σ
  · exact L2N.passAt tk σ
/-- room for k calls more -/
def Rx (h : Bool) (k : Nat) (X : Cx) : Prop := match h with
  | false => Room k X.A
  | true => L2H.RoomH k X.A ∧ ∃ p, p ∈ X.pn ∧ X.A.handled = some (.ref p.1)
def Rs (h : Bool) (k : Nat) (A : Around) (outer : List PySem.Env) (H : Hp) (s : Shared) : Prop := match h with
  | false => Room k A
  | true => L2H.RoomH k A ∧ ∃ p, L2H.PinOk outer H s p ∧ A.handled = some (.ref p.1)
theorem Rx.mono {h : Bool} {j k : Nat} {X : Cx} (r : Rx h k X) (e : j ≤ k) : Rx h j X := by
  cases h
  · exact Room.mono r e
  · exact ⟨r.1.mono e, r.2⟩
theorem Rx.at {h : Bool} {k : Nat} {X : Cx} {pins : List (Addr × Obj)} {σ : L2.St} {H : Hp} {s : Shared} (r : Rx h k X) (I : Inv X pins σ H s) : Rs h k X.A X.stack H s := by
  cases h
  · exact r
  · obtain ⟨r1, p, hp, e⟩ := r
    have P1 := I.pin p (List.mem_append_left _ hp)
    exact ⟨r1, p, ⟨P1.1, P1.2.1, fun hm => (List.mem_cons.mp (I.stkSub p.1 hm)).elim P1.2.2.1 P1.2.2.2.1, P1.2.2.2.2⟩, e⟩
def eFn (n : Nat) (G : List D → M) (dvs : List D) (er : Env → ML) : Env → M := fun ρ S q x => er ρ S (fun ds S1 => (ds ++ dvs).length = n ∧ G (ds ++ dvs) S1 q x) x
/-- arguments, then a promise -/
def tFn (sp : Sp) (dv : List V) (E : L2.St → XK) (t : TA) : TE := fun σ H Q => t σ H fun vs H1 => sp (vs ++ dv) H1 Q (E σ)
theorem me_fn {K : PySem.W.Frag} {n : Nat} {G : List D → M} {dvs : List D} {dv : List V} {t : TA} {er : Env → ML} (hd : ∀ as F, RpL K as F dvs dv) (h : MA K W t er) : ME K W (tFn (spG K n G) dv (WE W) t) (eFn n G dvs er) := fun as F H S ρ σ I R q x e Q hq hx => by
  refine h as F H S ρ σ I R _ x e _ (fun ds S1 bs F1 H1 vs h1 g1 r1 => ?_) hx
  exact ⟨bs, F1, S1, ds ++ dvs, q, x, g1.sit, r1.append (hd bs F1), h1.1, h1.2, hq.step g1, hx.step g1⟩
/-- a def of the program runs; gd: it is asked only where no text of a thing is being made -/
structure FnX (gd : Md) (P : Program) (w : World) (K : PySem.W.Frag) (mg : Str → Option Value) (base : Heap) (k : Nat) (f : Addr) (fd : FuncData) (ps : List Str) (sp : Sp) : Prop where
  len : ∀ vs H Q E, sp vs H Q E → vs.length = ps.length
  run : ∀ (A : Around) (outer : List PySem.Env) (s : Shared) (H : Hp) (args : Args) (us : List Value) (vs : List V) (Q : VK) (E : XK), (gd.g = true → A.guards = some []) → Rs gd.h k A outer H s → Env0 P w K mg base A outer s H → BindsTo s fd args (ps.zip us) → Vals vs us → sp vs H Q E →
    codeAny (model P w) A (.call (.ref f) args) (CR (CXm gd.n P w) outer P w H s Q E) s
section
variable {k j n : Nat} {f C : Addr} {fd : FuncData} {ps : List Str} {sp : Sp} {gd : Md} {nn : Bool}
theorem FnX.ok {P : Program} {w : World} {K : PySem.W.Frag} {mg : Str → Option Value} {base : Heap} (F : FnX ⟨false, nn, false⟩ P w K mg base k f fd ps sp) : FnOk P w K mg base (CXm nn P w) k f fd ps sp :=
  ⟨F.len, fun A outer s H args us vs Q E => F.run A outer s H args us vs Q E (fun h => nomatch h)⟩
theorem FnX.of {P : Program} {w : World} {K : PySem.W.Frag} {mg : Str → Option Value} {base : Heap} (F : FnOk P w K mg base (CXm nn P w) k f fd ps sp) {g : Bool} : FnX ⟨g, nn, false⟩ P w K mg base k f fd ps sp :=
  ⟨F.len, fun A outer s H args us vs Q E _ => F.run A outer s H args us vs Q E⟩
theorem run_X {pins : List (Addr × Obj)} {σ : L2.St} {H : Hp} {s : Shared} {Q : VK} {us : List Value} {vs dv : List V} {ds : List Value} (F : FnX gd X.prog X.w X.K X.mg X.base k f fd ps sp) (hgd : gd.g = true → X.A.guards = some []) (hr : Rx gd.h k X) (hb : Binds X.K fd ps ds) (hd : Vals dv ds) (tk : Tk gd.n X W)
    (I : Inv X pins σ H s) (r : Vals vs us) (h : sp (vs ++ dv) H Q (WE W σ)) : wpAny (model X.prog X.w) X.A (PySem.call (.ref f) us) (EP X pins σ Q) X.xe s := by
  have r2 : Vals (vs ++ dv) (us ++ ds) := r.append hd
  have hl : (us ++ ds).length = ps.length := r2.length.symm.trans (F.len _ _ _ _ h)
  refine wpAny_call (codeAny_mono (F.run X.A X.stack s H ⟨us, []⟩ _ (vs ++ dv) Q (WE W σ) hgd (hr.at I) I.env0 (hb s us I.kIn hl) r2 h) fun r s' hq => ?_)
  cases r with
  | error er => exact tk.pass σ pins H s er s' I hq
  | ok fl =>
    cases fl with
    | ret u => exact I.after hq
    | next => exact hq.elim
    | brk => exact hq.elim
    | cont => exact hq.elim
theorem ge_call {G : List D → M} {dvs : List D} {dv : List V} {ds : List Value} {x : Str} {p : Pos} {es : List Expr} {er : Env → ML} (tk : Tk gd.n X W)
    (F : FnX gd X.prog X.w X.K X.mg X.base k f fd ps (spG X.K n G)) (hgd : gd.g = true → X.A.guards = some []) (hr : Rx gd.h j X) (hj : k ≤ j) (hm : X.mg x = some (.ref f)) (hk : PySem.W.keepIn X.K (.ref f) = true) (hb : Binds X.K fd ps ds) (hd : Vals dv ds)
    (hdv : ∀ as F, RpL X.K as F dvs dv) (ha : GA X W (e :: es) er) (hg : Gl X x := by rfl) (hdb : (x == ("__debug__" : Str)) = false := by decide) (h1 : starEach (e :: es) X.env = (false, eval e X.env) :: starEach es X.env := by rfl) (h2 : (backTo pos (starEach es X.env)).any (·.1) = false := by rfl) :
    GE X W (.Call (.Name x p) (e :: es) [] pos) (eFn n G dvs er) := by
  obtain ⟨t, pa, m⟩ := ha
  refine ⟨tFn (spG X.K n G) dv (WE W) t, ⟨fun pins s σ H Q I h => ?_⟩, me_fn hdv m⟩
  refine wpAny_Call_Name_kw (ld_glob I hg hm ?_ hdb)
  refine PySem.W.callWith_K (h₀ := X.base) I.ok.mod.kin hk (thn (pa.run pos pins s σ H _ I h) fun us s1 hh => ?_) h1 h2
  obtain ⟨vs, H1, I1, r1, q1⟩ := hh
  exact ⟨I1.kIn, run_X F hgd (hr.mono hj) hb hd tk I1 r1 q1⟩
/-- f() -/
theorem ge_call0 {G : List D → M} {dvs : List D} {dv : List V} {ds : List Value} {x : Str} {p : Pos} (tk : Tk gd.n X W)
    (F : FnX gd X.prog X.w X.K X.mg X.base k f fd ps (spG X.K n G)) (hgd : gd.g = true → X.A.guards = some []) (hr : Rx gd.h j X) (hj : k ≤ j) (hm : X.mg x = some (.ref f)) (hk : PySem.W.keepIn X.K (.ref f) = true) (hb : Binds X.K fd ps ds) (hd : Vals dv ds)
    (hdv : ∀ as F, RpL X.K as F dvs dv) (hg : Gl X x := by rfl) (hdb : (x == ("__debug__" : Str)) = false := by decide) :
    GE X W (.Call (.Name x p) [] [] pos) (eFn n G dvs aNil) := by
  refine ⟨tFn (spG X.K n G) dv (WE W) tNil, ⟨fun pins s σ H Q I h => ?_⟩, me_fn hdv ma_nil⟩
  refine wpAny_Call_Name_kw (ld_glob I hg hm ?_ hdb)
  exact PySem.W.callWith_K0 I.kIn hk (run_X (us := []) F hgd (hr.mono hj) hb hd tk I .nil h)
end
end
end RV
end
section
/-! Tests and statements. -/
namespace RV
open PySem L2
section
variable {X : Cx} {W : WX} {a b c e : Expr} {pos : Pos} {ea eb ec ee : Env → M} {ma mb : Env → MB}
def iteB (b : Bool) (p q : Prop) : Prop := match b with
  | true => p
  | false => q
def onB (d : D) (k : Bool → Prop) : Prop := match d with
  | .bl b => k b
  | _ => False
def onI (d : D) (k : Int → Prop) : Prop := match d with
  | .int i => k i
  | _ => False
def onT (d : D) (k : Str → Prop) : Prop := match d with
  | .str s => k s
  | _ => False
def onTu (d : D) (k : List D → Prop) : Prop := match d with
  | .tup ds => k ds
  | _ => False
def onCe (d : D) (k : Nat → Prop) : Prop := match d with
  | .cell i => k i
  | _ => False
def on1 (ds : List D) (k : D → Prop) : Prop := match ds with
  | [x] => k x
  | _ => False
def on2 (ds : List D) (k : D → D → Prop) : Prop := match ds with
  | [x, y] => k x y
  | _ => False
def on3 (ds : List D) (k : D → D → D → Prop) : Prop := match ds with
  | [x, y, z] => k x y z
  | _ => False
def onLst (c : Cell) (k : List D → Prop) : Prop := match c with
  | .lst ds => k ds
  | _ => False
def onOb (c : Cell) (k : Addr → List (Str × D) → Prop) : Prop := match c with
  | .ob C fs => k C fs
  | _ => False
theorem onI_ok {d : D} {k : Int → Prop} (h : onI d k) : ∃ i, d = .int i ∧ k i := by
  cases d with
  | int i => exact ⟨i, rfl, h⟩
  | _ => exact h.elim
theorem onT_ok {d : D} {k : Str → Prop} (h : onT d k) : ∃ i, d = .str i ∧ k i := by
  cases d with
  | str i => exact ⟨i, rfl, h⟩
  | _ => exact h.elim
theorem onTu_ok {d : D} {k : List D → Prop} (h : onTu d k) : ∃ i, d = .tup i ∧ k i := by
  cases d with
  | tup i => exact ⟨i, rfl, h⟩
  | _ => exact h.elim
theorem onCe_ok {d : D} {k : Nat → Prop} (h : onCe d k) : ∃ i, d = .cell i ∧ k i := by
  cases d with
  | cell i => exact ⟨i, rfl, h⟩
  | _ => exact h.elim
theorem on1_ok {ds : List D} {k : D → Prop} (h : on1 ds k) : ∃ x, ds = [x] ∧ k x := by
  unfold on1 at h
  split at h
  · exact ⟨_, rfl, h⟩
  · exact h.elim
theorem on2_ok {ds : List D} {k : D → D → Prop} (h : on2 ds k) : ∃ x y, ds = [x, y] ∧ k x y := by
  unfold on2 at h
  split at h
  · exact ⟨_, _, rfl, h⟩
  · exact h.elim
theorem on3_ok {ds : List D} {k : D → D → D → Prop} (h : on3 ds k) : ∃ x y z, ds = [x, y, z] ∧ k x y z := by
  unfold on3 at h
  split at h
  · exact ⟨_, _, _, rfl, h⟩
  · exact h.elim
theorem onLst_ok {c : Cell} {k : List D → Prop} (h : onLst c k) : ∃ ds, c = .lst ds ∧ k ds := by
  cases c with
  | lst ds => exact ⟨ds, rfl, h⟩
  | _ => exact h.elim
theorem onOb_ok {c : Cell} {k : Addr → List (Str × D) → Prop} (h : onOb c k) : ∃ C fs, c = .ob C fs ∧ k C fs := by
  cases c with
  | ob C fs => exact ⟨C, fs, rfl, h⟩
  | _ => exact h.elim
def bBl (m : Env → M) : Env → MB := fun ρ S q x => m ρ S (fun d S1 => onB d fun b => q b S1) x
theorem mt_test {K : PySem.W.Frag} {t : TE} (h : ME K W t ea) : MTt K W (tTest t) (bBl ea) := fun as F H S ρ σ I R q x e Q hq hx => by
  refine h as F H S ρ σ I R _ x e _ (fun d S1 bs F1 H1 v h1 g r => ?_) hx
  cases r with
  | bl b => exact ⟨b, rfl, hq b S1 bs F1 H1 h1 g⟩
  | _ => exact h1.elim
theorem mt_B {K : PySem.W.Frag} {t : TE} (h : ME K W t ea) : MTt K W (tB t) (bBl ea) := mt_test h
theorem gt_cmp {op : CmpOp} {r : R2} {f : WS → D → D → Option D} (ho : OpR X (compareOp op) r) (hr : RO X.K r f) (ha : GE X W a ea) (hb : GE X W b eb) (hm : behindInMarks op b = false) : GT X W (.Compare a [op] [b] pos) (bBl (eOp f ea eb)) := by
  obtain ⟨ta, pa, ma⟩ := ha
  obtain ⟨tb, pb, mb⟩ := hb
  exact ⟨_, pt_cmpR ho pa pb hm, mt_test (me_op hr ma mb)⟩
/-- an expression that gives a bool -/
theorem gt_val (ha : GE X W a ea) (he : ∀ whole, isTrue a X.env whole = (do let v ← whole; standAt a.pos; holding [v] (truthy v)) := by intro _; rfl) : GT X W a (bBl ea) := by
  obtain ⟨ta, pa, ma⟩ := ha
  exact ⟨_, pt_val pa he, mt_B ma⟩
/-- by truth -/
def RT (K : PySem.W.Frag) (r : V → Hp → (Bool → Hp → Prop) → Prop) (f : WS → D → Option Bool) : Prop := ∀ (as : List Addr) (F H : Hp) (S : WS) (x : D) (b : Bool) (vx : V), Sit K as F H S → Rp K as F x vx → f S x = some b →
  ∀ Q : Bool → Hp → Prop, (∀ F' H', Grow K as F H as F' H' S → Q b H') → r vx H Q
def bTru (f : WS → D → Option Bool) (ea : Env → M) : Env → MB := fun ρ S q x => ea ρ S (fun u S1 => onS (f S1 u) fun b => q b S1) x
theorem mt_tru {K : PySem.W.Frag} {r : V → Hp → (Bool → Hp → Prop) → Prop} {f : WS → D → Option Bool} {ta : TE} (hr : RT K r f) (ha : ME K W ta ea) : MTt K W (fun σ H Q => ta σ H fun x H' => r x H' Q) (bTru f ea) := fun as F H S ρ σ I R q x e Q hq hx => by
  refine ha as F H S ρ σ I R _ x e _ (fun u S1 bs F1 H1 v1 h1 g1 r1 => ?_) hx
  obtain ⟨b, h3, h4⟩ := onS_ok h1
  exact hr bs F1 H1 S1 u b v1 g1.sit r1 h3 Q fun F3 H3 g3 => hq b S1 bs F3 H3 h4 (g1.trans g3)
theorem pt_truthR {ta : TE} {r : V → Hp → (Bool → Hp → Prop) → Prop} (ht : TruR X r) (ha : PE X a ta) (he : ∀ whole, isTrue a X.env whole = (do let v ← whole; standAt a.pos; holding [v] (truthy v))) :
    PT X a (fun σ H Q => ta σ H fun x H' => r x H' Q) :=
  ⟨fun pins s σ H Q I h => PyProof.Rows.isTrue_plain (thn (ha.run pins s σ H _ I h) fun v s1 ⟨x, H1, I1, r1, q1⟩ => ht pins s1 σ H1 x v Q I1 r1 q1) (he _)⟩
theorem gt_tru {r : V → Hp → (Bool → Hp → Prop) → Prop} {f : WS → D → Option Bool} (ht : TruR X r) (hr : RT X.K r f) (ha : GE X W a ea) (he : ∀ whole, isTrue a X.env whole = (do let v ← whole; standAt a.pos; holding [v] (truthy v)) := by intro _; rfl) : GT X W a (bTru f ea) := by
  obtain ⟨ta, pa, ma⟩ := ha
  exact ⟨_, pt_truthR ht pa he, mt_tru hr ma⟩
def eNotT (m : Env → MB) : Env → M := fun ρ S q x => m ρ S (fun b S1 => q (.bl (!b)) S1) x
/-- not a, as a value -/
theorem ge_notT {r : V → Hp → (Bool → Hp → Prop) → Prop} {f : WS → D → Option Bool} (ht : TruR X r) (hr : RT X.K r f) (ha : GE X W a ea) : GE X W (.UnaryOp .Not a pos) (eNotT (bTru f ea)) := by
  obtain ⟨ta, pa, ma⟩ := ha
  have mt := mt_tru hr ma
  refine ⟨fun σ H Q => ta σ H fun x H1 => r x H1 fun c H2 => Q (.bl (!c)) H2, ⟨fun pins s σ H Q I h => ?_⟩, fun as F H S ρ σ I R q x e Q hq hx => ?_⟩
  · refine PyProof.Rows.UnaryOp_ (thn (pa.run pins s σ H _ I h) fun v s1 ⟨x, H1, I1, r1, q1⟩ => ?_)
    exact PyProof.Rows.not_of (thn (ht pins s1 σ H1 x v _ I1 r1 q1) fun c s2 ⟨H2, I2, q2⟩ => ⟨.bl (!c), H2, I2, rfl, q2⟩)
  · exact mt as F H S ρ σ I R _ x e (fun c H2 => Q (.bl (!c)) H2) (fun b S' bs F' H' h g => hq _ S' bs F' H' _ h g (.bl _)) hx
def bAnd (ma mb : Env → MB) : Env → MB := fun ρ S q x => ma ρ S (fun b S1 => iteB b (mb ρ S1 q x) (q false S1)) x
def bOr (ma mb : Env → MB) : Env → MB := fun ρ S q x => ma ρ S (fun b S1 => iteB b (q true S1) (mb ρ S1 q x)) x
def bNot (ma : Env → MB) : Env → MB := fun ρ S q x => ma ρ S (fun b S1 => q (!b) S1) x
theorem mt_and {K : PySem.W.Frag} {t u : TT} (h1 : MTt K W t ma) (h2 : MTt K W u mb) : MTt K W (tAnd t u) (bAnd ma mb) := fun as F H S ρ σ I R q x e Q hq hx => by
  refine h1 as F H S ρ σ I R _ x e _ (fun b S1 bs F1 H1 h g1 => ?_) hx
  cases b with
  | true => exact h2 bs F1 H1 S1 ρ σ g1.sit (R.grow g1) q x h Q (fun b S' cs F' H' h g => hq b S' cs F' H' h (g1.trans g)) (hx.step g1)
  | false => exact hq false S1 bs F1 H1 h g1
theorem mt_or {K : PySem.W.Frag} {t u : TT} (h1 : MTt K W t ma) (h2 : MTt K W u mb) : MTt K W (tOr t u) (bOr ma mb) := fun as F H S ρ σ I R q x e Q hq hx => by
  refine h1 as F H S ρ σ I R _ x e _ (fun b S1 bs F1 H1 h g1 => ?_) hx
  cases b with
  | false => exact h2 bs F1 H1 S1 ρ σ g1.sit (R.grow g1) q x h Q (fun b S' cs F' H' h g => hq b S' cs F' H' h (g1.trans g)) (hx.step g1)
  | true => exact hq true S1 bs F1 H1 h g1
theorem mt_not {K : PySem.W.Frag} {t : TT} (h1 : MTt K W t ma) : MTt K W (tNot t) (bNot ma) := fun as F H S ρ σ I R q x e Q hq hx =>
  h1 as F H S ρ σ I R _ x e _ (fun b S1 bs F1 H1 h g1 => hq _ S1 bs F1 H1 h g1) hx
theorem GW.gt (h : GW X W e ma) : GT X W e ma := by
  obtain ⟨t, p, m⟩ := h
  exact ⟨_, p.pt, m⟩
theorem gw_and1 (ha : GT X W a ma) : GW X W (.BoolOp .And [a] pos) ma := by
  obtain ⟨t, p, m⟩ := ha
  exact ⟨_, pw_and1 p, m⟩
theorem gw_or1 (ha : GT X W a ma) : GW X W (.BoolOp .Or [a] pos) ma := by
  obtain ⟨t, p, m⟩ := ha
  exact ⟨_, pw_or1 p, m⟩
theorem gw_and {rest : List Expr} (ha : GT X W a ma) (hb : GW X W (.BoolOp .And (b :: rest) pos) mb) : GW X W (.BoolOp .And (a :: b :: rest) pos) (bAnd ma mb) := by
  obtain ⟨t, p, m⟩ := ha
  obtain ⟨u, p', m'⟩ := hb
  exact ⟨_, pw_and p p', mt_and m m'⟩
theorem gw_or {rest : List Expr} (ha : GT X W a ma) (hb : GW X W (.BoolOp .Or (b :: rest) pos) mb) : GW X W (.BoolOp .Or (a :: b :: rest) pos) (bOr ma mb) := by
  obtain ⟨t, p, m⟩ := ha
  obtain ⟨u, p', m'⟩ := hb
  exact ⟨_, pw_or p p', mt_or m m'⟩
theorem gt_not (ha : GT X W a ma) : GT X W (.UnaryOp .Not a pos) (bNot ma) := by
  obtain ⟨t, p, m⟩ := ha
  exact ⟨_, pt_not p, mt_not m⟩
/-! bools as values -/
def eAnd (ea eb : Env → M) : Env → M := fun ρ S q x => bBl ea ρ S (fun b S1 => iteB b (eb ρ S1 q x) (q (.bl false) S1)) x
def eOr (ea eb : Env → M) : Env → M := fun ρ S q x => bBl ea ρ S (fun b S1 => iteB b (q (.bl true) S1) (eb ρ S1 q x)) x
theorem ge_one {op : BoolOp} (ha : GE X W a ea) : GE X W (.BoolOp op [a] pos) ea := by
  obtain ⟨t, p, m⟩ := ha
  exact ⟨_, pe_one p, m⟩
theorem ge_and {rest : List Expr} (ha : GE X W a ea) (hb : GE X W (.BoolOp .And (b :: rest) pos) eb) : GE X W (.BoolOp .And (a :: b :: rest) pos) (eAnd ea eb) := by
  obtain ⟨t, p, m⟩ := ha
  obtain ⟨u, p', m'⟩ := hb
  refine ⟨_, pe_and p p', fun as F H S ρ σ I R q x e Q hq hx => ?_⟩
  refine m as F H S ρ σ I R _ x e _ (fun d S1 bs F1 H1 v h g1 r1 => ?_) hx
  cases r1 with
  | bl c =>
    refine ⟨c, rfl, ?_⟩
    cases c with
    | true => exact m' bs F1 H1 S1 ρ σ g1.sit (R.grow g1) q x h Q (hq.step g1) (hx.step g1)
    | false => exact hq _ S1 bs F1 H1 _ h g1 (.bl _)
  | _ => exact h.elim
theorem ge_or {rest : List Expr} (ha : GE X W a ea) (hb : GE X W (.BoolOp .Or (b :: rest) pos) eb) : GE X W (.BoolOp .Or (a :: b :: rest) pos) (eOr ea eb) := by
  obtain ⟨t, p, m⟩ := ha
  obtain ⟨u, p', m'⟩ := hb
  refine ⟨_, pe_or p p', fun as F H S ρ σ I R q x e Q hq hx => ?_⟩
  refine m as F H S ρ σ I R _ x e _ (fun d S1 bs F1 H1 v h g1 r1 => ?_) hx
  cases r1 with
  | bl c =>
    refine ⟨c, rfl, ?_⟩
    cases c with
    | false => exact m' bs F1 H1 S1 ρ σ g1.sit (R.grow g1) q x h Q (hq.step g1) (hx.step g1)
    | true => exact hq _ S1 bs F1 H1 _ h g1 (.bl _)
  | _ => exact h.elim
def eIf (mc : Env → MB) (ea eb : Env → M) : Env → M := fun ρ S q x => mc ρ S (fun b S1 => iteB b (ea ρ S1 q x) (eb ρ S1 q x)) x
theorem ge_ifExp (hc : GT X W c ma) (ha : GE X W a ea) (hb : GE X W b eb) : GE X W (.IfExp c a b pos) (eIf ma ea eb) := by
  obtain ⟨tc, pc, mc⟩ := hc
  obtain ⟨t, p, m⟩ := ha
  obtain ⟨u, p', m'⟩ := hb
  refine ⟨_, pe_ifExp pc p p', fun as F H S ρ σ I R q x e Q hq hx => ?_⟩
  refine mc as F H S ρ σ I R _ x e _ (fun d S1 bs F1 H1 h g1 => ?_) hx
  cases d with
  | true => exact m bs F1 H1 S1 ρ σ g1.sit (R.grow g1) q x h Q (hq.step g1) (hx.step g1)
  | false => exact m' bs F1 H1 S1 ρ σ g1.sit (R.grow g1) q x h Q (hq.step g1) (hx.step g1)
def bChain (f g : WS → D → D → Option D) (ea eb ec : Env → M) : Env → MB := fun ρ S q x => ea ρ S (fun u S1 => eb ρ S1 (fun v S2 => onS (f S2 u v) fun d => onB d fun b => iteB b (ec ρ S2 (fun w S3 => onS (g S3 v w) fun d => onB d fun b => q b S3) x) (q false S2)) x) x
end
section
variable {X : Cx} {W : WX} {a b c e : Expr} {pos : Pos} {ea eb ec ee : Env → M} {ma mb : Env → MB}
/-! ### statements -/
variable {st : Stmt} {sts rest : List Stmt} {m1 m2 : Env → MS}
def sNil : Env → MS := fun ρ S k => k.nx ρ S
def sSeq (m1 m2 : Env → MS) : Env → MS := fun ρ S k => m1 ρ S ⟨fun ρ' S' => m2 ρ' S' k, k.rt, k.bk, k.ct, k.ex⟩
theorem ms_nil {K : PySem.W.Frag} : MSt K W tNext sNil := fun as F H S ρ σ I R k e E q => q.nx ρ S as F H σ e (Grow.refl I) R
theorem ms_seq {K : PySem.W.Frag} {t u : TS} (h1 : MSt K W t m1) (h2 : MSt K W u m2) : MSt K W (tSeq t u) (sSeq m1 m2) := fun as F H S ρ σ I R k e E q =>
  h1 as F H S ρ σ I R _ e _ ⟨fun ρ' S' bs F' H' σ' h g R' => h2 bs F' H' S' ρ' σ' g.sit R' k h E (q.step g), q.rt, q.bk, q.ct, q.ex⟩
theorem gss_nil : GSs X W [] sNil := ⟨_, pss_nil, ms_nil⟩
theorem gss_cons (h1 : GS X W st m1) (h2 : GSs X W rest m2) : GSs X W (st :: rest) (sSeq m1 m2) := by
  obtain ⟨t, p, m⟩ := h1
  obtain ⟨u, p', m'⟩ := h2
  exact ⟨_, pss_cons p p', ms_seq m m'⟩
theorem gss_one (h1 : GS X W st m1) : GSs X W [st] m1 := by
  obtain ⟨t, p, m⟩ := h1
  exact ⟨_, pss_one p, m⟩
def sNever : Env → MS := fun _ _ _ => False
theorem gs_never : GS X W st sNever := ⟨_, ps_never, fun as F H S ρ σ I R k e => e.elim⟩
def sRet (ea : Env → M) : Env → MS := fun ρ S k => ea ρ S k.rt fun e S' => k.ex e ρ S'
theorem gs_ret (h : GE X W e ea) : GS X W (.Return (some e) pos) (sRet ea) := by
  obtain ⟨t, p, m⟩ := h
  exact ⟨_, ps_ret p, fun as F H S ρ σ I R k h E q => m as F H S ρ σ I R _ _ h _ (fun d S' bs F' H' v a g r => q.rt d S' bs F' H' v a g r) (q.xq R)⟩
def sDrop (ea : Env → M) : Env → MS := fun ρ S k => ea ρ S (fun _ S' => k.nx ρ S') fun e S' => k.ex e ρ S'
theorem gs_expr (h : GE X W e ea) (hs : swapsWith e none pos.line X.env = pure false := by rfl) : GS X W (.Expr e pos) (sDrop ea) := by
  obtain ⟨t, p, m⟩ := h
  exact ⟨_, ps_expr p hs, fun as F H S ρ σ I R k h E q => m as F H S ρ σ I R _ _ h _ (fun d S' bs F' H' v a g r => q.nx ρ S' bs F' H' σ a g (R.grow g)) (q.xq R)⟩
def sAsg (i : Nat) (ea : Env → M) : Env → MS := fun ρ S k => ea ρ S (fun d S' => k.nx (ρ.set i (some d)) S') fun e S' => k.ex e ρ S'
theorem ms_asg {K : PySem.W.Frag} {i : Nat} {t : TE} (m : ME K W t ea) : MSt K W (tAsg t (gName i)) (sAsg i ea) := fun as F H S ρ σ I R k h E q =>
  m as F H S ρ σ I R _ _ h _ (fun d S' bs F' H' v a g r => q.nx _ S' bs F' H' _ a g ((R.grow g).set r)) (q.xq R)
theorem gs_set (i : Nat) {x : Str} {pos' : Pos} (hN : X.N.Nodup) (h : GE X W e ea) (hi : X.N[i]? = some x := by rfl) (hx : Loc X.env.scope x := by first | exact Or.inl rfl | exact Or.inr rfl) (hs : swapsWith e (some (.Name x pos')) pos.line X.env = pure false := by rfl)
    (hf : X.fn x = true ∨ X.env.scope.names.lookup x = some .local := by first | exact .inl rfl | exact .inr rfl | assumption) : GS X W (.Assign [.Name x pos'] e pos) (sAsg i ea) := by
  obtain ⟨t, p, m⟩ := h
  exact ⟨_, ps_set (i := i) hN hi hx p hs hf, ms_asg m⟩
def sIf (mc : Env → MB) (m1 m2 : Env → MS) : Env → MS := fun ρ S k => mc ρ S (fun b S' => iteB b (m1 ρ S' k) (m2 ρ S' k)) fun e S' => k.ex e ρ S'
theorem gs_if {as bs : List Stmt} (hc : GT X W c ma) (ha : GSs X W as m1) (hb : GSs X W bs m2) : GS X W (.If c as bs pos) (sIf ma m1 m2) := by
  obtain ⟨tc, pc, mc⟩ := hc
  obtain ⟨t, p, m⟩ := ha
  obtain ⟨u, p', m'⟩ := hb
  refine ⟨_, ps_if pc p p', fun as F H S ρ σ I R k h E q => ?_⟩
  refine mc as F H S ρ σ I R _ _ h _ (fun d S1 bs F1 H1 h g1 => ?_) (q.xq R)
  cases d with
  | true => exact m bs F1 H1 S1 ρ σ g1.sit (R.grow g1) k h E (q.step g1)
  | false => exact m' bs F1 H1 S1 ρ σ g1.sit (R.grow g1) k h E (q.step g1)
theorem gs_pass : GS X W (.Pass pos) sNil := ⟨_, ps_pass, ms_nil⟩
def sBreak : Env → MS := fun ρ S k => k.bk ρ S
def sCont : Env → MS := fun ρ S k => k.ct ρ S
theorem gs_break : GS X W (.Break pos) sBreak := ⟨_, ps_break, fun as F H S ρ σ I R k e E q => q.bk ρ S as F H σ e (Grow.refl I) R⟩
theorem gs_continue : GS X W (.Continue pos) sCont := ⟨_, ps_continue, fun as F H S ρ σ I R k e E q => q.ct ρ S as F H σ e (Grow.refl I) R⟩
end
end RV
end
section
/-! Targets, walks, for. -/
namespace RV
open PySem L2
section
variable {X : Cx} {W : WX} {a b c e tg iter : Expr} {pos : Pos} {ea eb ec ee : Env → M} {ma mb : Env → MB} {m1 m2 mbody : Env → MS}
/-! ### targets: vs the slots that are touched -/
def Agr (vs : List Nat) (σ σ' : L2.St) : Prop := σ'.length = σ.length ∧ ∀ j, j ∉ vs → σ'[j]? = σ[j]?
theorem Agr.refl {vs : List Nat} {σ : L2.St} : Agr vs σ σ := ⟨rfl, fun _ _ => rfl⟩
theorem Agr.app {vs ws : List Nat} {σ σ1 σ2 : L2.St} (a : Agr vs σ σ1) (b : Agr ws σ1 σ2) : Agr (vs ++ ws) σ σ2 :=
  ⟨b.1.trans a.1, fun j h => (b.2 j fun z => h (List.mem_append_right _ z)).trans (a.2 j fun z => h (List.mem_append_left _ z))⟩
theorem Agr.set {i : Nat} {σ : L2.St} {v : Option V} : Agr [i] σ (σ.set i v) := ⟨List.length_set, fun j h => List.getElem?_set_ne (fun z => h (by rw [z]; exact List.mem_singleton.mpr rfl))⟩
def MG (K : PySem.W.Frag) (g : TG) (vs : List Nat) (f : D → Env → Option Env) : Prop := ∀ (as : List Addr) (F H : Hp) (S : WS) (ρ : Env) (σ : L2.St) (x : D) (v : V) (ρ' : Env), Sit K as F H S → RpE K as F ρ σ → Rp K as F x v → f x ρ = some ρ' →
  ∀ Q : L2.St → Hp → Prop, (∀ σ', Agr vs σ σ' → RpE K as F ρ' σ' → Q σ' H) → g v σ H Q
structure GG (X : Cx) (tg : Expr) (vs : List Nat) (f : D → Env → Option Env) : Prop where
  ex : ∃ g, PG X tg g ∧ MG X.K g vs f
def MGs (K : PySem.W.Frag) (g : TGs) (vs : List Nat) (f : List D → Env → Option Env) : Prop := ∀ (as : List Addr) (F H : Hp) (S : WS) (ρ : Env) (σ : L2.St) (xs : List D) (us : List V) (ρ' : Env), Sit K as F H S → RpE K as F ρ σ → RpL K as F xs us → f xs ρ = some ρ' →
  ∀ Q : L2.St → Hp → Prop, (∀ σ', Agr vs σ σ' → RpE K as F ρ' σ' → Q σ' H) → g us σ H Q
structure GGs (X : Cx) (ts : List Expr) (n : Nat) (vs : List Nat) (f : List D → Env → Option Env) : Prop where
  ex : ts.length = n ∧ ∃ g, PGs X ts g ∧ MGs X.K g vs f
def tName (i : Nat) : D → Env → Option Env := fun d ρ => some (ρ.set i (some d))
theorem gg_name (i : Nat) {x : Str} (hN : X.N.Nodup) (hi : X.N[i]? = some x := by rfl) (hx : Loc X.env.scope x := by first | exact Or.inl rfl | exact Or.inr rfl) (hf : X.fn x = true ∨ X.env.scope.names.lookup x = some .local := by first | exact .inl rfl | exact .inr rfl | assumption) :
    GG X (.Name x pos) [i] (tName i) := by
  refine ⟨_, pg_name (i := i) hN hi hx hf, fun as F H S ρ σ x v ρ' I R r e Q q => ?_⟩
  cases e
  exact q _ Agr.set (R.set r)
def tsNil : List D → Env → Option Env := fun ds ρ => match ds with
  | [] => some ρ
  | _ => none
def tsCons (f : D → Env → Option Env) (g : List D → Env → Option Env) : List D → Env → Option Env := fun ds ρ => match ds with
  | [] => none
  | d :: r => (f d ρ).bind fun ρ' => g r ρ'
theorem ggs_nil : GGs X [] 0 [] tsNil := by
  refine ⟨rfl, _, pgs_nil, fun as F H S ρ σ xs us ρ' I R r e Q q => ?_⟩
  unfold tsNil at e
  cases r with
  | nil =>
    cases e
    exact ⟨rfl, q σ Agr.refl R⟩
  | cons _ _ => cases e
theorem ggs_cons {n : Nat} {vs ws : List Nat} {es : List Expr} {f : D → Env → Option Env} {g : List D → Env → Option Env} (h1 : GG X e vs f) (h2 : GGs X es n ws g) (hs : (assignEach (e :: es) X.env).map (·.2) = assign e X.env :: (assignEach es X.env).map (·.2) := by rfl) :
    GGs X (e :: es) (n + 1) (vs ++ ws) (tsCons f g) := by
  obtain ⟨t, p, m⟩ := h1
  obtain ⟨hn, u, p', m'⟩ := h2
  refine ⟨by rw [List.length_cons, hn], _, pgs_cons p p' hs, fun as F H S ρ σ xs us ρ' I R r e Q q => ?_⟩
  cases r with
  | nil => cases e
  | cons h r =>
    rename_i d v ds ws
    unfold tsCons at e
    cases h1 : f d ρ with
    | none => simp [h1] at e
    | some ρ1 =>
      simp only [h1, Option.bind_some] at e
      exact ⟨v, ws, rfl, m as F H S ρ σ d v ρ1 I R h h1 _ fun σ1 A1 R1 => m' as F H S ρ1 σ1 ds ws ρ' I R1 r e Q fun σ2 A2 R2 => q σ2 (A1.app A2) R2⟩
def tTupD (n : Nat) (g : List D → Env → Option Env) : D → Env → Option Env := fun d ρ => match d with
  | .tup ds => if ds.length = n then g ds ρ else none
  | _ => none
theorem gg_tup {es : List Expr} {k n : Nat} {vs : List Nat} {g : List D → Env → Option Env} (hc : X.calm = true) (h : GGs X es n vs g) (hn : (assignEach es X.env).length = n := by rfl) (hst : (assignEach es X.env).findIdx? (·.1) = none := by rfl) : GG X (.Tuple es k pos) vs (tTupD n g) := by
  obtain ⟨hl, t, p, m⟩ := h
  refine ⟨_, pg_tup hc p hn hst, fun as F H S ρ σ x v ρ' I R r e Q q => ?_⟩
  cases r with
  | tup hq rl =>
    unfold tTupD at e
    simp only at e
    split at e
    · rename_i hz
      exact ⟨_, _, rfl, I.ex.sqT hq, by rw [← rl.length]; exact hz, m as F H S ρ σ _ _ ρ' I R rl e Q q⟩
    · cases e
  | _ => cases e

/-! ### walks: N is what must stay so that the walk goes on -/
structure Walks (K : PySem.W.Frag) (J : It) (as : List Addr) (F : Hp) (ds : List D) (N : WS → Prop) : Prop where
  stop : ∀ bs F2 H2 S2, Sit K bs F2 H2 S2 → Ex F F2 → Pre as bs → N S2 → J.stop ds.length H2
  go : ∀ i, i < ds.length → ∀ bs F2 H2 S2, Sit K bs F2 H2 S2 → Ex F F2 → Pre as bs → N S2 → J.go i H2
  yld : ∀ (i : Nat) (d : D), ds[i]? = some d → ∀ bs F2 H2 S2, Sit K bs F2 H2 S2 → Ex F F2 → Pre as bs → N S2 → ∀ x H', J.yld i H2 x H' → ∃ F', Grow K bs F2 H2 bs F' H' S2 ∧ Rp K bs F' d x
abbrev MW := WS → (List D → (WS → Prop) → WS → Prop) → Xq → Prop
def any_ : WS → Prop := fun _ => True
def MI (K : PySem.W.Frag) (W : WX) (wi : TI) (m : Env → MW) : Prop := ∀ (as : List Addr) (F H : Hp) (S : WS) (ρ : Env) (σ : L2.St), Sit K as F H S → RpE K as F ρ σ → ∀ q x, m ρ S q x →
  ∀ R : It → Hp → Prop, (∀ ds N S' bs F' H' J, q ds N S' → Grow K as F H bs F' H' S' → Walks K J bs F' ds N → R J H') → XQ K as F H x (WE W σ) → wi σ H R
structure GI (X : Cx) (W : WX) (tg iter : Expr) (m : Env → MW) : Prop where
  ex : ∃ wi, PI X tg iter wi ∧ MI X.K W wi m
theorem walks_range {K : PySem.W.Frag} {as : List Addr} {F : Hp} {lo : Int} {n : Nat} {N : WS → Prop} : Walks K (Itr lo n) as F ((List.range n).map fun (i : Nat) => D.int (lo + (i : Int))) N := by
  refine ⟨fun bs F2 H2 S2 I _ _ _ => ?_, fun i h bs F2 H2 S2 I _ _ _ => ?_, fun i d h bs F2 H2 S2 I _ _ _ x H' y => ?_⟩
  · show n ≤ ((List.range n).map fun (i : Nat) => D.int (lo + (i : Int))).length
    simp
  · have h2 : i < n := by simpa using h
    exact h2
  · obtain ⟨rfl, rfl⟩ := y
    simp only [List.getElem?_map, Option.map_eq_some_iff] at h
    obtain ⟨j, hj, rfl⟩ := h
    have hji : j = i := by
      have := List.getElem?_eq_some_iff.mp hj
      obtain ⟨q, w⟩ := this
      simpa using w.symm
    subst hji
    exact ⟨F2, Grow.refl I, .int _⟩
/-- 0, 1, .. -/
def upto (j : Int) : List D := (List.range j.toNat).map fun (i : Nat) => D.int (0 + (i : Int))
def iRange1 (er : Env → ML) : Env → MW := fun ρ S q x => er ρ S (fun ds S1 => on1 ds fun d => onI d fun j => (-(2 ^ 62) ≤ j ∧ j < 2 ^ 62) ∧ q (upto j) any_ S1) x
theorem gi_range1 {er : Env → ML} {p : Pos} (hm : X.mg "range" = none) (ha : GA X W [a] er) (hg : Gl X "range" := by rfl) (hs : starEach [a] X.env = [(false, eval a X.env)] := by rfl) : GI X W tg (.Call (.Name "range" p) [a] [] pos) (iRange1 er) := by
  obtain ⟨t, p, m⟩ := ha
  refine ⟨_, pi_range1 hg hm p hs, fun as F H S ρ σ I R q x e Q hq hx => ?_⟩
  refine m as F H S ρ σ I R _ x e _ (fun ds S1 bs F1 H1 vs h1 g r => ?_) hx
  obtain ⟨y, rfl, h1⟩ := on1_ok h1
  obtain ⟨j, rfl, h1⟩ := onI_ok h1
  obtain ⟨v, ws, rfl, rv, rn⟩ := r.unsn
  obtain rfl := rn.unnil
  cases rv
  exact ⟨_, rfl, h1.1.1, h1.1.2, hq _ _ S1 bs F1 H1 _ h1.2 g walks_range⟩
/-- the cell k holds the list ds -/
def Holds (k : Nat) (ds : List D) (S : WS) : Prop := S[k]? = some (.lst ds)
theorem walks_list {K : PySem.W.Frag} {as : List Addr} {F : Hp} {p : Addr} {xs : List V} {ds : List D} {N : WS → Prop} (h : SqL K F p xs) (r : RpL K as F ds xs) : Walks K (Itl K p) as F ds N := by
  refine ⟨fun bs F2 H2 S2 I e _ _ => ?_, fun i hi bs F2 H2 S2 I e _ _ => ?_, fun i d hd bs F2 H2 S2 I e pr _ x H' y => ?_⟩
  · have hq : SqL K H2 p xs := I.ex.sqL (e.sqL h)
    refine ⟨xs, hq, ?_⟩
    rw [← r.length]
    exact Nat.le_refl _
  · have hq : SqL K H2 p xs := I.ex.sqL (e.sqL h)
    have hl : i < xs.length := by
      rw [← r.length]
      exact hi
    exact ⟨xs, xs[i], hq, List.getElem?_eq_getElem hl⟩
  · have hq : SqL K H2 p xs := I.ex.sqL (e.sqL h)
    obtain ⟨rfl, y⟩ := y
    have y1 := y xs hq
    obtain ⟨v, hv, rv⟩ := r.get hd
    rw [hv] at y1
    cases y1
    exact ⟨F2, Grow.refl I, rv.mono e pr⟩
theorem pre_nil {as : List Addr} : Pre [] as := fun i a h => by simp at h
theorem walks_cell {K : PySem.W.Frag} {as : List Addr} {F : Hp} {a : Addr} {k : Nat} {ds : List D} (ha : as[k]? = some a) : Walks K (Itl K a) as F ds (Holds k ds) := by
  have at_ : ∀ bs F2 H2 S2, Sit K bs F2 H2 S2 → Ex F F2 → Pre as bs → Holds k ds S2 → ∃ ys, H2 a = some (.lst ys) ∧ RpL K [] F2 ds ys := fun bs F2 H2 S2 I2 _ p2 hN => by
    obtain ⟨_, o2, y2, y3⟩ := I2.cell k a _ (p2 k a ha) hN
    cases o2 with
    | lst ys => exact ⟨ys, y2, y3⟩
    | _ => exact y3.elim
  refine ⟨fun bs F2 H2 S2 I2 x2 p2 hN => ?_, fun i hi bs F2 H2 S2 I2 x2 p2 hN => ?_, fun i d hd bs F2 H2 S2 I2 x2 p2 hN x H' y => ?_⟩
  · obtain ⟨ys, y2, y3⟩ := at_ bs F2 H2 S2 I2 x2 p2 hN
    exact ⟨ys, SqL.of y2, by rw [RpL.length y3]; exact Nat.le_refl _⟩
  · obtain ⟨ys, y2, y3⟩ := at_ bs F2 H2 S2 I2 x2 p2 hN
    have hl : i < ys.length := by rw [← RpL.length y3]; exact hi
    exact ⟨ys, ys[i], SqL.of y2, List.getElem?_eq_getElem hl⟩
  · obtain ⟨ys, y2, y3⟩ := at_ bs F2 H2 S2 I2 x2 p2 hN
    obtain ⟨rfl, hx⟩ := y
    obtain ⟨v, hv, rv⟩ := y3.get hd
    have := hx ys (SqL.of y2)
    rw [this] at hv
    cases hv
    exact ⟨F2, Grow.refl I2, rv.mono (Ex.refl _) pre_nil⟩
theorem rpl_ints {K : PySem.W.Frag} {as : List Addr} {F : Hp} : ∀ ns : List Int, RpL K as F (ns.map D.int) (ns.map V.int)
  | [] => .nil
  | n :: ns => .cons (.int n) (rpl_ints ns)
theorem walks_tup {K : PySem.W.Frag} {as : List Addr} {F : Hp} {p : Addr} {xs : List V} {ds : List D} {N : WS → Prop} (h : SqT K F p xs) (r : RpL K as F ds xs) : Walks K (Itt K p) as F ds N := by
  refine ⟨fun bs F2 H2 S2 I e _ _ => ?_, fun i hi bs F2 H2 S2 I e _ _ => ?_, fun i d hd bs F2 H2 S2 I e pr _ x H' y => ?_⟩
  · have hq : SqT K H2 p xs := I.ex.sqT (e.sqT h)
    refine ⟨xs, hq, ?_⟩
    rw [← r.length]
    exact Nat.le_refl _
  · have hq : SqT K H2 p xs := I.ex.sqT (e.sqT h)
    have hl : i < xs.length := by
      rw [← r.length]
      exact hi
    exact ⟨xs, xs[i], hq, List.getElem?_eq_getElem hl⟩
  · have hq : SqT K H2 p xs := I.ex.sqT (e.sqT h)
    obtain ⟨rfl, y⟩ := y
    have y1 := y xs hq
    obtain ⟨v, hv, rv⟩ := r.get hd
    rw [hv] at y1
    cases y1
    exact ⟨F2, Grow.refl I, rv.mono e pr⟩
theorem walks_str {K : PySem.W.Frag} {as : List Addr} {F : Hp} {x : Str} {N : WS → Prop} : Walks K (Its x) as F (x.cps.toList.map fun c => D.str ⟨#[c]⟩) N := by
  refine ⟨fun bs F2 H2 S2 I _ _ _ => ?_, fun i h bs F2 H2 S2 I _ _ _ => ?_, fun i d h bs F2 H2 S2 I _ _ _ y H' z => ?_⟩
  · show x.length ≤ (x.cps.toList.map fun c => D.str ⟨#[c]⟩).length
    simp [Str.length]
  · show i < x.length
    simpa [Str.length] using h
  · obtain ⟨rfl, z⟩ := z
    simp only [List.getElem?_map, Option.map_eq_some_iff] at h
    obtain ⟨j, hj, rfl⟩ := h
    have z2 : ∃ c, x.cps.toList[i]? = some c ∧ y = V.str ⟨#[c]⟩ := by
      first
        | exact z
        | simpa using z
    obtain ⟨c, hc, rfl⟩ := z2
    rw [hj] at hc
    cases hc
    exact ⟨F2, Grow.refl I, .str _⟩
/-- over a list, a tuple, a text -/
def onSeq (d : D) (S : WS) (q : List D → (WS → Prop) → WS → Prop) : Prop := match d with
  | .lst ds => q ds any_ S
  | .scr ns => q (ns.map D.int) any_ S
  | .cell k => onS S[k]? fun c => onLst c fun ds => q ds (Holds k ds) S
  | _ => False
def iSeq (ea : Env → M) : Env → MW := fun ρ S q x => ea ρ S (fun d S1 => onSeq d S1 q) x
def iTupD (ea : Env → M) : Env → MW := fun ρ S q x => ea ρ S (fun d S1 => onTu d fun ds => q ds any_ S1) x
def iStrD (ea : Env → M) : Env → MW := fun ρ S q x => ea ρ S (fun d S1 => onT d fun z => q (z.cps.toList.map fun c => D.str ⟨#[c]⟩) any_ S1) x
theorem gi_list (ha : GE X W a ea) : GI X W tg a (iSeq ea) := by
  obtain ⟨t, p, m⟩ := ha
  refine ⟨_, pi_list p, fun as F H S ρ σ I R q x e Q hq hx => ?_⟩
  refine m as F H S ρ σ I R _ x e _ (fun d S1 bs F1 H1 v h1 g r => ?_) hx
  cases r with
  | lst hp rl => exact ⟨_, rfl, ⟨_, SqL.of (g.sit.ex _ _ hp)⟩, hq _ _ S1 bs F1 H1 _ h1 g (walks_list (SqL.of hp) rl)⟩
  | scr hp => exact ⟨_, rfl, ⟨_, g.sit.ex.sqL hp⟩, hq _ _ S1 bs F1 H1 _ h1 g (walks_list hp (rpl_ints _))⟩
  | cell ha =>
    obtain ⟨c, hS, h2⟩ := onS_ok h1
    cases c with
    | lst ds =>
      obtain ⟨_, o, z2, z3⟩ := g.sit.cell _ _ _ ha hS
      cases o with
      | lst xs => exact ⟨_, rfl, ⟨xs, SqL.of z2⟩, hq _ _ S1 bs F1 H1 _ h2 g (walks_cell ha)⟩
      | _ => exact z3.elim
    | _ => exact h2.elim
  | _ => exact h1.elim
theorem gi_tup (ha : GE X W a ea) : GI X W tg a (iTupD ea) := by
  obtain ⟨t, p, m⟩ := ha
  refine ⟨_, pi_tup p, fun as F H S ρ σ I R q x e Q hq hx => ?_⟩
  refine m as F H S ρ σ I R _ x e _ (fun d S1 bs F1 H1 v h1 g r => ?_) hx
  cases r with
  | tup hp rl => exact ⟨_, rfl, ⟨_, g.sit.ex.sqT hp⟩, hq _ _ S1 bs F1 H1 _ h1 g (walks_tup hp rl)⟩
  | _ => exact h1.elim
theorem gi_str (ha : GE X W a ea) : GI X W tg a (iStrD ea) := by
  obtain ⟨t, p, m⟩ := ha
  refine ⟨_, pi_str p, fun as F H S ρ σ I R q x e Q hq hx => ?_⟩
  refine m as F H S ρ σ I R _ x e _ (fun d S1 bs F1 H1 v h1 g r => ?_) hx
  cases r with
  | str z => exact ⟨_, rfl, hq _ _ S1 bs F1 H1 _ h1 g walks_str⟩
  | _ => exact h1.elim

/-! ### for -/
def forD (N : WS → Prop) (f : D → Env → Option Env) (mb : Env → MS) : List D → Env → MS
  | [], ρ, S, k => N S ∧ k.nx ρ S
  | d :: ds, ρ, S, k => N S ∧ onS (f d ρ) fun ρ1 => mb ρ1 S ⟨fun ρ2 S2 => forD N f mb ds ρ2 S2 k, k.rt, k.nx, fun ρ2 S2 => forD N f mb ds ρ2 S2 k, k.ex⟩
theorem forD_N {N : WS → Prop} {f : D → Env → Option Env} {mb : Env → MS} {ds : List D} {ρ : Env} {S : WS} {k : Kt} (h : forD N f mb ds ρ S k) : N S := by
  cases ds with
  | nil => exact h.1
  | cons d ds => exact h.1
def sFor (mi : Env → MW) (f : D → Env → Option Env) (mb : Env → MS) : Env → MS := fun ρ S k => mi ρ S (fun ds N S1 => forD N f mb ds ρ S1 k) fun e S' => k.ex e ρ S'
theorem ms_for {K : PySem.W.Frag} {wi : TI} {g : TG} {tb : TS} {mi : Env → MW} {f : D → Env → Option Env} {vs : List Nat} (hi : MI K W wi mi) (hg : MG K g vs f) (hb : MSt K W tb mbody) : MSt K W (tFor wi g tb) (sFor mi f mbody) := fun as F H S ρ σ I R k e E q => by
  refine hi as F H S ρ σ I R _ _ e _ (fun ds N S0 as F0 H0 J h0 g0 wk => ?_) (q.xq R)
  have q0 := q.step g0
  refine ⟨fun i m σ H => m = ds.length - i ∧ i ≤ ds.length ∧ ∃ bs F1 S1 ρ1, Grow K as F0 H0 bs F1 H S1 ∧ RpE K bs F1 ρ1 σ ∧ forD N f mbody (ds.drop i) ρ1 S1 k, ⟨ds.length, by simp, Nat.zero_le _, as, F0, S0, ρ, Grow.refl g0.sit, R.grow g0, by simpa using h0⟩, ?_⟩
  rintro i m σ1 H1 ⟨rfl, hle, bs, F1, S1, ρ1, g1, R1, e1⟩
  have hN := forD_N e1
  by_cases hlt : i < ds.length
  · right
    refine ⟨wk.go i hlt bs F1 H1 S1 g1.sit g1.ex g1.pre hN, fun σ' H' => ∃ m', m' < ds.length - i ∧ m' = ds.length - (i + 1) ∧ i + 1 ≤ ds.length ∧ ∃ bs F1 S1 ρ1, Grow K as F0 H0 bs F1 H' S1 ∧ RpE K bs F1 ρ1 σ' ∧ forD N f mbody (ds.drop (i + 1)) ρ1 S1 k, fun σ' H' n => ?_, fun x H' y => ?_⟩
    · obtain ⟨m', h1, h2, h3, h4⟩ := n
      exact ⟨m', h1, h2, h3, h4⟩
    · have hd : ds[i]? = some ds[i] := List.getElem?_eq_getElem hlt
      obtain ⟨F2, g2, rx⟩ := wk.yld i ds[i] hd bs F1 H1 S1 g1.sit g1.ex g1.pre hN x H' y
      rw [List.drop_eq_getElem_cons hlt] at e1
      obtain ⟨ρ2, hf, hm⟩ := onS_ok e1.2
      refine hg bs F2 H' S1 ρ1 σ1 ds[i] x ρ2 g2.sit (R1.grow g2) rx hf _ fun σ2 _ R2 => ?_
      have g12 := g1.trans g2
      refine hb bs F2 H' S1 ρ2 σ2 g2.sit R2 _ hm _ ⟨fun ρ3 S2 cs F3 H3 σ3 h3 g3 R3 => ?_, fun d S' cs F3 H3 v h3 g3 => q0.rt d S' cs F3 H3 v h3 (g12.trans g3), fun ρ3 S2 cs F3 H3 σ3 h3 g3 => q0.nx ρ3 S2 cs F3 H3 σ3 h3 (g12.trans g3), fun ρ3 S2 cs F3 H3 σ3 h3 g3 R3 => ?_, fun e ρ' S' cs F3 H3 σ3 cls dd h3 g3 => q0.ex e ρ' S' cs F3 H3 σ3 cls dd h3 (g12.trans g3)⟩
      · exact ⟨_, by omega, rfl, hlt, cs, F3, S2, ρ3, g12.trans g3, R3, h3⟩
      · exact ⟨_, by omega, rfl, hlt, cs, F3, S2, ρ3, g12.trans g3, R3, h3⟩
  · left
    have hi2 : i = ds.length := by omega
    subst hi2
    refine ⟨wk.stop bs F1 H1 S1 g1.sit g1.ex g1.pre hN, ?_⟩
    rw [List.drop_length] at e1
    exact q0.nx ρ1 S1 bs F1 H1 σ1 e1.2 g1 R1
theorem gs_for {body : List Stmt} {mi : Env → MW} {vs : List Nat} {f : D → Env → Option Env} (hp : PassesOwn (model X.prog X.w) X.A X.env X.xe) (hc : X.calm = true) (hi : GI X W tg iter mi) (hg : GG X tg vs f) (hb : GSs X W body mbody)
    (hs : ∀ (x : Value), foldedSetIterable iter X.env x = pure x := by intro _; rfl) : GS X W (.For tg iter body [] pos) (sFor mi f mbody) := by
  obtain ⟨wi, pi, mi'⟩ := hi
  obtain ⟨g, pg, mg⟩ := hg
  obtain ⟨t, pt, mt⟩ := hb
  exact ⟨_, ps_for hp hc pi pg pt hs, ms_for mi' mg mt⟩
end
end RV
end
section
/-! Comprehensions. -/
namespace RV
open PySem L2
abbrev WF : WX := fun _ _ _ _ => False
abbrev noX : Xq := fun _ _ => False
section
variable {X : Cx} {W : WX} {a b c e tg iter elt : Expr} {pos : Pos} {ea eb ec ee : Env → M} {ma mb mc : Env → MB} {m1 m2 mbody : Env → MS}
/-! ### the reading that says just what m says; nothing is raised -/
def rdE (K : PySem.W.Frag) (m : Env → M) : TE := fun σ H Q => ∃ (as : List Addr) (F : Hp) (S : WS) (ρ : Env) (q : D → WS → Prop), Sit K as F H S ∧ RpE K as F ρ σ ∧ m ρ S q noX ∧ NQ K as F H q Q
theorem GE.canon (h : GE X WF e ea) : PE X e (rdE X.K ea) := by
  obtain ⟨t, p, m⟩ := h
  refine ⟨fun pins s σ H Q I h => ?_⟩
  obtain ⟨as, F, S, ρ, q, I', R, hm, hq⟩ := h
  exact p.run pins s σ H Q I (m as F H S ρ σ I' R q noX hm Q hq XQ.no)
def rdT (K : PySem.W.Frag) (m : Env → MB) : TT := fun σ H Q => ∃ (as : List Addr) (F : Hp) (S : WS) (ρ : Env) (q : Bool → WS → Prop), Sit K as F H S ∧ RpE K as F ρ σ ∧ m ρ S q noX ∧ ∀ b S' bs F' H', q b S' → Grow K as F H bs F' H' S' → Q b H'
theorem GT.canon (h : GT X WF e ma) : PT X e (rdT X.K ma) := by
  obtain ⟨t, p, m⟩ := h
  refine ⟨fun pins s σ H Q I h => ?_⟩
  obtain ⟨as, F, S, ρ, q, I', R, hm, hq⟩ := h
  exact p.run pins s σ H Q I (m as F H S ρ σ I' R q noX hm Q hq XQ.no)
def rdG (K : PySem.W.Frag) (vs : List Nat) (f : D → Env → Option Env) : TG := fun v σ H Q => ∃ (as : List Addr) (F : Hp) (S : WS) (ρ : Env) (x : D) (ρ' : Env), Sit K as F H S ∧ RpE K as F ρ σ ∧ Rp K as F x v ∧ f x ρ = some ρ' ∧ ∀ σ', Agr vs σ σ' → RpE K as F ρ' σ' → Q σ' H
theorem GG.canon {vs : List Nat} {f : D → Env → Option Env} (h : GG X tg vs f) : PG X tg (rdG X.K vs f) := by
  obtain ⟨t, p, m⟩ := h
  refine ⟨fun pins s σ H v u Q I r h => ?_⟩
  obtain ⟨as, F, S, ρ, x, ρ', I', R, rx, hm, q⟩ := h
  exact p.run pins s σ H v u Q I r (m as F H S ρ σ x v ρ' I' R rx hm Q q)
/-- tests of a comprehension: none or one -/
structure GTs (X : Cx) (ifs : List Expr) (m : Env → MB) : Prop where
  ex : PTs X ifs (rdT X.K m)
def bYes : Env → MB := fun _ S q _ => q true S
theorem gts_nil : GTs X [] bYes := by
  refine ⟨⟨fun pins s σ H Q I h => ?_⟩⟩
  obtain ⟨as, F, S, ρ, q, I', R, hm, hq⟩ := h
  exact pts_nil.run pins s σ H Q I (hq _ S as F H hm (Grow.refl I'))
theorem gts_one (h : GT X WF c mc) : GTs X [c] mc := ⟨pts_one h.canon⟩

/-! ### comprehensions -/
def wipeE (ρ : Env) : List Nat → Env
  | [] => ρ
  | v :: vs => (wipeE ρ vs).set v none
theorem set_none {K : PySem.W.Frag} {as : List Addr} {F : Hp} {ρ : Env} {σ : L2.St} {i : Nat} (r : RpE K as F ρ σ) : RpE K as F (ρ.set i none) (σ.set i none) := by
  refine ⟨by rw [List.length_set, List.length_set]; exact r.len, fun j d q => ?_⟩
  by_cases hj : i = j
  · subst hj
    by_cases hl : i < ρ.length
    · rw [List.getElem?_set_self hl] at q
      cases q
    · rw [List.getElem?_eq_none (by rw [List.length_set]; omega)] at q
      cases q
  · rw [List.getElem?_set_ne hj] at q ⊢
    exact r.at_ j d q
theorem RpE.wipe {K : PySem.W.Frag} {as : List Addr} {F : Hp} {ρ : Env} {σ : L2.St} (r : RpE K as F ρ σ) : ∀ vs : List Nat, RpE K as F (wipeE ρ vs) (L2.wipe σ vs)
  | [] => r
  | v :: vs => set_none (r.wipe vs)
theorem wipe_at (σ : L2.St) (j : Nat) : ∀ vs : List Nat, (L2.wipe σ vs)[j]? = if j ∈ vs then (if j < σ.length then some none else none) else σ[j]?
  | [] => by simp [L2.wipe]
  | v :: vs => by
    unfold L2.wipe
    by_cases h : v = j
    · subst h
      by_cases hl : v < σ.length
      · rw [List.getElem?_set_self (by rw [wipe_length]; exact hl)]
        simp [hl]
      · rw [List.getElem?_eq_none (by rw [List.length_set, wipe_length]; omega)]
        simp [hl]
    · rw [List.getElem?_set_ne h, wipe_at σ j vs]
      have : j ≠ v := fun z => h z.symm
      simp [this]
theorem wipe_agr {σ σ2 : L2.St} {us vs : List Nat} (h : Agr us (L2.wipe σ vs) σ2) (hs : ∀ x ∈ us, x ∈ vs) : L2.wipe σ2 vs = L2.wipe σ vs := by
  have hl : σ2.length = σ.length := h.1.trans (wipe_length σ vs)
  refine List.ext_getElem? fun j => ?_
  rw [wipe_at, wipe_at, hl]
  by_cases hj : j ∈ vs
  · simp [hj]
  · rw [if_neg hj, if_neg hj, h.2 j fun z => hj (hs j z), wipe_at, if_neg hj]
def lcD (N : WS → Prop) (f : D → Env → Option Env) (mc : Env → MB) (me : Env → M) (ρ : Env) : List D → List D → WS → (List D → WS → Prop) → Prop
  | [], acc, S, q => N S ∧ q acc S
  | d :: ds, acc, S, q => N S ∧ onS (f d ρ) fun ρ1 => mc ρ1 S (fun b S1 => iteB b (me ρ1 S1 (fun y S2 => lcD N f mc me ρ ds (acc ++ [y]) S2 q) noX) (lcD N f mc me ρ ds acc S1 q)) noX
theorem lcD_N {N : WS → Prop} {f : D → Env → Option Env} {mc : Env → MB} {me : Env → M} {ρ : Env} {ds acc : List D} {S : WS} {q : List D → WS → Prop} (h : lcD N f mc me ρ ds acc S q) : N S := by
  cases ds with
  | nil => exact h.1
  | cons d ds => exact h.1
/-- what becomes of a new list: it stands still, or it is a new cell -/
inductive Lk where
  | still
  | new
mutual
/-- data that names no cell from n on -/
def D.clean (n : Nat) : D → Bool
  | .cell k => decide (k < n)
  | .tup ds => D.cleanL n ds
  | .lst ds => D.cleanL n ds
  | .obj _ fs => D.cleanF n fs
  | .exc _ fs => D.cleanF n fs
  | .exv _ _ _ _ => false
  | .dic fs => D.cleanK n fs
  | .non | .bl _ | .int _ | .str _ | .ty _ | .adr _ | .scr _ => true
def D.cleanL (n : Nat) : List D → Bool
  | [] => true
  | d :: ds => D.clean n d && D.cleanL n ds
def D.cleanF (n : Nat) : List (Str × D) → Bool
  | [] => true
  | (_, d) :: ds => D.clean n d && D.cleanF n ds
def D.cleanK (n : Nat) : List (Key × D) → Bool
  | [] => true
  | (_, d) :: ds => D.clean n d && D.cleanK n ds
end
section
variable {K : PySem.W.Frag} {as bs : List Addr} {F : Hp} {n : Nat}
mutual
theorem Rp.back (p : ∀ k a, k < n → bs[k]? = some a → as[k]? = some a) : ∀ {d : D} {v : V}, Rp K bs F d v → D.clean n d = true → Rp K as F d v
  | _, _, .non, _ => .non
  | _, _, .bl b, _ => .bl b
  | _, _, .int i, _ => .int i
  | _, _, .str s, _ => .str s
  | _, _, .ty n, _ => .ty n
  | _, _, .adr a, _ => .adr a
  | _, _, .scr h, _ => .scr h
  | _, _, .cell h, c => .cell (p _ _ (by unfold D.clean at c; exact of_decide_eq_true c) h)
  | _, _, .tup h r, c => .tup h (RpL.back p r (by unfold D.clean at c; exact c))
  | _, _, .lst h r, c => .lst h (RpL.back p r (by unfold D.clean at c; exact c))
  | _, _, .obj h r, c => .obj h (RpF.back p r (by unfold D.clean at c; exact c))
  | _, _, .dic h r, c => .dic h (RpK.back p r (by unfold D.clean at c; exact c))
theorem RpL.back (p : ∀ k a, k < n → bs[k]? = some a → as[k]? = some a) : ∀ {ds : List D} {vs : List V}, RpL K bs F ds vs → D.cleanL n ds = true → RpL K as F ds vs
  | _, _, .nil, _ => .nil
  | _, _, .cons h r, c => by
    unfold D.cleanL at c
    obtain ⟨c1, c2⟩ := Bool.and_eq_true_iff.mp c
    exact .cons (Rp.back p h c1) (RpL.back p r c2)
theorem RpF.back (p : ∀ k a, k < n → bs[k]? = some a → as[k]? = some a) : ∀ {fs : List (Str × D)} {vfs : List (Str × V)}, RpF K bs F fs vfs → D.cleanF n fs = true → RpF K as F fs vfs
  | _, _, .nil, _ => .nil
  | _, _, .cons h r, c => by
    unfold D.cleanF at c
    obtain ⟨c1, c2⟩ := Bool.and_eq_true_iff.mp c
    exact .cons (Rp.back p h c1) (RpF.back p r c2)
theorem RpK.back (p : ∀ k a, k < n → bs[k]? = some a → as[k]? = some a) : ∀ {fs : List (Key × D)} {vfs : List (Key × V)}, RpK K bs F fs vfs → D.cleanK n fs = true → RpK K as F fs vfs
  | _, _, .nil, _ => .nil
  | _, _, .cons h r, c => by
    unfold D.cleanK at c
    obtain ⟨c1, c2⟩ := Bool.and_eq_true_iff.mp c
    exact .cons (Rp.back p h c1) (RpK.back p r c2)
end
theorem rpl_clean0 {ds : List D} {vs : List V} (r : RpL K as F ds vs) (h : D.cleanL 0 ds = true) : RpL K [] F ds vs := r.back (n := 0) (fun k a hk => absurd hk (by omega)) h
end
/-- a new list hands on -/
def lkD (l : Lk) (ds : List D) (S : WS) (q : D → WS → Prop) : Prop := match l with
  | .still => q (.lst ds) S
  | .new => D.cleanL 0 ds = true ∧ q (.cell S.length) (S ++ [.lst ds])
theorem sit_cell {K : PySem.W.Frag} {as : List Addr} {F H : Hp} {S : WS} {x : Addr} {c : Cell} {o : HO} {H' : Hp} (I : Sit K as F H S) (nx : x ∉ as) (fx : F x = none) (hH : ∀ a u, a ∈ as ∨ F a ≠ none → H a = some u → H' a = some u) (hx' : H' x = some o) (hc : c.isHid = false) (ho : CellOf K F x c o) : Sit K (as ++ [x]) F H' (S ++ [c]) := by
  refine ⟨by simp [I.len], fun a u h => hH _ _ (.inr (by rw [h]; simp)) (I.ex a u h), ?_, fun i q c2 h1 h2 => ?_⟩
  · rw [List.nodup_append]
    refine ⟨I.nd, by simp, fun a ha b hb e => ?_⟩
    rw [List.mem_singleton] at hb
    subst hb
    exact nx (e ▸ ha)
  · by_cases hi : i < as.length
    · rw [List.getElem?_append_left hi] at h1
      rw [List.getElem?_append_left (by rw [← I.len]; exact hi)] at h2
      obtain ⟨z1, ob, z2, z3⟩ := I.cell i q c2 h1 h2
      exact ⟨z1, ob, hH _ _ (.inl (List.mem_of_getElem? h1)) z2, z3⟩
    · have hi2 : i = as.length := by
        have := (List.getElem?_eq_some_iff.mp h1).1
        simp at this
        omega
      subst hi2
      rw [List.getElem?_append_right (Nat.le_refl _)] at h1
      rw [List.getElem?_append_right (by rw [I.len]; exact Nat.le_refl _)] at h2
      simp at h1
      simp [I.len] at h2
      subst h1
      subst h2
      exact ⟨fun _ => fx, o, hx', ho⟩
theorem pre_app {as bs : List Addr} : Pre as (as ++ bs) := fun i a h => by
  rw [List.getElem?_append_left (List.getElem?_eq_some_iff.mp h).1]
  exact h
/-- the list at p, which is neither still nor a cell, is handed on -/
theorem lk_ok {K : PySem.W.Frag} {as bs : List Addr} {F H F1 H1 : Hp} {S1 : WS} {p : Addr} {ds : List D} {vs : List V} {l : Lk} {q : D → WS → Prop} {Q : VK} (hq : NQ K as F H q Q) (g : Grow K as F H bs F1 H1 S1) (hp : H p = none) (fp : F1 p = none) (bp : p ∉ bs) (hl : H1 p = some (.lst vs)) (r : RpL K bs F1 ds vs) (h : lkD l ds S1 q) : Q (.ref p) H1 := by
  cases l with
  | still =>
    have ex : Ex F1 (upd F1 p (.lst vs)) := Ex.new fp
    refine hq _ S1 bs (upd F1 p (.lst vs)) H1 _ h ⟨g.sit.freeze fp bp hl, g.pre, g.ex.trans ex, fun a ha => ?_, g.newc, g.old, g.there⟩ (.lst upd_same (r.mono ex (Pre.refl _)))
    by_cases e2 : a = p
    · subst e2
      exact .inr hp
    · rw [upd_ne e2] at ha
      exact g.new a ha
  | new =>
    have s2 : Sit K (bs ++ [p]) F1 H1 (S1 ++ [.lst ds]) := sit_cell g.sit bp fp (fun _ _ _ h => h) hl rfl (rpl_clean0 r h.1)
    refine hq _ _ (bs ++ [p]) F1 H1 _ h.2 ⟨s2, g.pre.trans pre_app, g.ex, g.new, fun a ha => ?_, g.old, g.there⟩ (.cell (by rw [← g.sit.len]; simp))
    rcases List.mem_append.mp ha with z | z
    · exact g.newc a z
    · rw [List.mem_singleton] at z
      subst z
      exact .inr hp
def eLc (l : Lk) (mi : Env → MW) (f : D → Env → Option Env) (mc : Env → MB) (me : Env → M) (vs : List Nat) : Env → M := fun ρ S q x => mi ρ S (fun ds N S1 => small ds.length = true ∧ lcD N f mc me (wipeE ρ vs) ds [] S1 fun es S2 => lkD l es S2 q) x
/-- a list that is being made: neither still nor a cell -/
theorem grow_free {K : PySem.W.Frag} {as bs : List Addr} {F H F1 H1 : Hp} {S1 : WS} {p : Addr} {o o' : HO} (g : Grow K as F H bs F1 H1 S1) (hp : H p = some o) (fp : F p = none) (ap : p ∉ as) : F1 p = none ∧ p ∉ bs ∧ H1 p = some o := by
  refine ⟨?_, fun z => ?_, g.old p o ap hp⟩
  · cases q3 : F1 p with
    | none => rfl
    | some u =>
      rcases g.new p (by rw [q3]; simp) with z | z
      · exact absurd fp z
      · rw [hp] at z
        cases z
  · rcases g.newc p z with z | z
    · exact ap z
    · rw [hp] at z
      cases z
theorem me_lc {K : PySem.W.Frag} {wi : TI} {l : Lk} {mi : Env → MW} {us vs : List Nat} {f : D → Env → Option Env} (hi : MI K W wi mi) (hs : ∀ x ∈ us, x ∈ vs) : ME K W (tLc wi (rdG K us f) (rdT K mc) (rdE K ee) vs) (eLc l mi f mc ee vs) := fun as F H S ρ σ I R q x e Q hq hx => by
  refine hi as F H S ρ σ I R _ _ e _ (fun ds N S0 as F0 H0 J h0 g0 wk D0 hD => ?_) hx
  obtain ⟨hsm, h2⟩ := h0
  have fD : F0 D0 = none := g0.sit.out hD
  have aD : D0 ∉ as := fun z => g0.sit.there z hD
  have RW : RpE K as F0 (wipeE ρ vs) (L2.wipe σ vs) := (R.grow g0).wipe vs
  have q0 := hq.step g0
  refine ⟨fun i m H1 => m = ds.length - i ∧ i ≤ ds.length ∧ ∃ bs F1 S1 acc done, Grow K as F0 H0 bs F1 H1 S1 ∧ F1 D0 = none ∧ D0 ∉ bs ∧ H1 D0 = some (.lst acc) ∧ RpL K bs F1 done acc ∧ done.length ≤ i ∧ lcD N f mc ee (wipeE ρ vs) (ds.drop i) done S1 (fun es S2 => lkD l es S2 q), ⟨ds.length, by simp, Nat.zero_le _, as, F0, S0, [], [], ?_, fD, aD, upd_same, .nil, Nat.le_refl _, by simpa using h2⟩, ?_⟩
  · exact ⟨g0.sit.other fD aD, Pre.refl _, Ex.refl _, fun _ h => .inl h, fun _ h => .inl h, fun a o _ h => by rw [upd_ne (ne_of_none h hD)]; exact h, fun a h => upd_there h⟩
  rintro i m H1 ⟨rfl, hle, bs, F1, S1, acc, done, g1, f1, b1, hD1, ra, hdl, e1⟩
  have hN := lcD_N e1
  have hacc : acc.length < sizeLine := by
    rw [← ra.length]
    have h5 : ds.length ≤ 100000 := of_decide_eq_true hsm
    have h6 : (100000 : Nat) < sizeLine := by decide
    omega
  by_cases hlt : i < ds.length
  · right
    refine ⟨wk.go i hlt bs F1 H1 S1 g1.sit g1.ex g1.pre hN, fun H' => ∃ m', m' < ds.length - i ∧ m' = ds.length - (i + 1) ∧ i + 1 ≤ ds.length ∧ ∃ bs F1 S1 acc done, Grow K as F0 H0 bs F1 H' S1 ∧ F1 D0 = none ∧ D0 ∉ bs ∧ H' D0 = some (.lst acc) ∧ RpL K bs F1 done acc ∧ done.length ≤ i + 1 ∧ lcD N f mc ee (wipeE ρ vs) (ds.drop (i + 1)) done S1 (fun es S2 => lkD l es S2 q), fun H' n => ?_, fun x H' y => ?_⟩
    · obtain ⟨m', n1, n2, n3, n4⟩ := n
      exact ⟨m', n1, n2, n3, n4⟩
    · have hd : ds[i]? = some ds[i] := List.getElem?_eq_getElem hlt
      obtain ⟨F2, g2, rx⟩ := wk.yld i ds[i] hd bs F1 H1 S1 g1.sit g1.ex g1.pre hN x H' y
      rw [List.drop_eq_getElem_cons hlt] at e1
      obtain ⟨ρ2, hf, hm⟩ := onS_ok e1.2
      have g12 := g1.trans g2
      refine ⟨bs, F2, S1, wipeE ρ vs, ds[i], ρ2, g2.sit, RW.mono g12.ex g12.pre, rx, hf, fun σ2 A2 R2 => ⟨wipe_agr A2 hs, ?_⟩⟩
      refine ⟨bs, F2, S1, ρ2, _, g2.sit, R2, hm, fun pb S2 cs F3 H3 h3 g3 => ?_⟩
      have g23 := g2.trans g3
      cases pb with
      | true =>
        refine ⟨cs, F3, S2, ρ2, _, g3.sit, R2.grow g3, h3, fun d S4 ls F4 H4 v h4 g4 r4 => ?_⟩
        have g24 := g23.trans g4
        have g5 := g1.trans g24
        obtain ⟨f4, b4, hD4⟩ := grow_free (o' := .lst []) g24 hD1 f1 b1
        refine ⟨acc, hD4, hacc, _, by omega, rfl, hlt, ls, F4, S4, acc ++ [v], done ++ [d], ?_, f4, b4, upd_same, (ra.mono g24.ex g24.pre).append (.cons r4 .nil), ?_, h4⟩
        · exact ⟨g5.sit.other f4 b4, g5.pre, g5.ex, g5.new, g5.newc, fun a o ha h => by
            rw [upd_ne (ne_of_none h hD)]
            exact g5.old a o ha h, fun a h => upd_there (g5.there a h)⟩
        · rw [List.length_append]
          show done.length + 1 ≤ i + 1
          omega
      | false =>
        obtain ⟨f4, b4, hD4⟩ := grow_free (o' := .lst []) g23 hD1 f1 b1
        exact ⟨_, by omega, rfl, hlt, cs, F3, S2, acc, done, g1.trans g23, f4, b4, hD4, ra.mono g23.ex g23.pre, by omega, h3⟩
  · left
    have hi2 : i = ds.length := by omega
    subst hi2
    refine ⟨wk.stop bs F1 H1 S1 g1.sit g1.ex g1.pre hN, ?_⟩
    rw [List.drop_length] at e1
    exact lk_ok q0 g1 hD f1 b1 hD1 ra e1.2
theorem ge_lc {l : Lk} {scope : Scope} {own : List (Str × Nat)} {ifs : List Expr} {mi : Env → MW} {us : List Nat} {f : D → Env → Option Env} (hc : X.calm = true) (hN : X.N.Nodup) (hi : GI X W tg iter mi) (ok : BlkOk X.N X.env.scope scope own)
    (hg : ∀ (s : Shared) (H : Hp) (C : Addr) (cl : List (Str × Addr)) (fp : List Addr), GG (X.blk s H scope (compEnvC scope cl C X.env) fp) tg us f)
    (ht : ∀ (s : Shared) (H : Hp) (C : Addr) (cl : List (Str × Addr)) (fp : List Addr), GTs (X.blk s H scope (compEnvC scope cl C X.env) fp) ifs mc)
    (he : ∀ (s : Shared) (H : Hp) (C : Addr) (cl : List (Str × Addr)) (fp : List Addr), GE (X.blk s H scope (compEnvC scope cl C X.env) fp) WF elt ee)
    (hu : ∀ x ∈ us, x ∈ own.map (·.2) := by decide) (hs : ∀ (x : Value), foldedSetIterable iter X.env x = pure x := by intro _; rfl) :
    GE X W (.ListComp elt [⟨tg, iter, ifs, 0⟩] scope pos) (eLc l mi f mc ee (own.map (·.2))) := by
  obtain ⟨wi, pi, mi'⟩ := hi
  exact ⟨_, pe_lc (own := own) hc hN pi ok (fun s H C cl fp => (hg s H C cl fp).canon) (fun s H C cl fp => (ht s H C cl fp).ex) (fun s H C cl fp => (he s H C cl fp).canon) hs, me_lc mi' hu⟩
/-- a display as a new cell -/
def eNew (er : Env → ML) : Env → M := fun ρ S q x => er ρ S (fun ds S1 => small ds.length = true ∧ lkD .new ds S1 q) x
theorem ge_new {es : List Expr} {er : Env → ML} (h : GA X W es er) : GE X W (.List es pos) (eNew er) := by
  obtain ⟨t, p, m⟩ := h
  refine ⟨_, pe_lst p, fun as F H S ρ σ I R q x e Q hq hx => ?_⟩
  refine m as F H S ρ σ I R _ x e _ (fun ds S1 bs F1 H1 vs h1 g1 r1 => ⟨?_, fun a ha => ?_⟩) hx
  · rw [← r1.length]
    exact small_le h1.1
  · have f1 := g1.sit.out ha
    have b1 : a ∉ bs := fun z => g1.sit.there z ha
    have g2 : Grow X.K bs F1 H1 bs F1 (upd H1 a (.lst vs)) S1 := ⟨g1.sit.other f1 b1, Pre.refl _, Ex.refl _, fun _ h => .inl h, fun _ h => .inl h, fun c o _ h => by rw [upd_ne (ne_of_none h ha)]; exact h, fun c h => upd_there h⟩
    exact lk_ok (hq.step g1) g2 ha f1 b1 upd_same r1 h1.2
end
end RV
end
section
/-! A def by its body; instances. -/
namespace RV
open PySem L2
def startE (n : Nat) (ds : List D) : Env := ds.map some ++ List.replicate (n - ds.length) none
theorem startE_ok {K : PySem.W.Frag} {as : List Addr} {F : Hp} {N : List Str} {ds : List D} {vs : List V} (r : RpL K as F ds vs) : RpE K as F (startE N.length ds) (L2.start N vs) := by
  have hl := r.length
  refine ⟨by simp [startE, L2.start, hl], fun i d h => ?_⟩
  unfold startE at h
  unfold L2.start
  by_cases hi : i < ds.length
  · rw [List.getElem?_append_left (by simpa using hi)] at h
    rw [List.getElem?_append_left (by simpa [← hl] using hi)]
    simp only [List.getElem?_map, Option.map_eq_some_iff] at h
    obtain ⟨d', h1, h2⟩ := h
    cases h2
    obtain ⟨v, hv, rv⟩ := r.get h1
    exact ⟨v, by simp [hv], rv⟩
  · rw [List.getElem?_append_right (by simpa using hi)] at h
    simp [List.getElem?_replicate] at h
/-- what a body hands back: a list of the def's own stands still from here on -/
def fin (n : Nat) (d : D) (S : WS) (q : D → WS → Prop) : Prop := if S.length = n then q d S else match d with
  | .cell k => if k < n then q d (S.take n) else onS S[k]? fun c => onLst c fun ds => q (.lst ds) (S.take n)
  | d => D.clean n d = true ∧ q d (S.take n)
/-- .. or it is a new cell -/
def finN (n : Nat) (d : D) (S : WS) (q : D → WS → Prop) : Prop := match d with
  | .cell k => n ≤ k ∧ onS S[k]? fun c => q (.cell n) (S.take n ++ [c])
  | _ => False
def finX (n : Nat) (e : D) (S : WS) (x : Xq) : Prop := if S.length = n then x e S else D.clean n e = true ∧ x e (S.take n)
def fnD (n : Nat) (m : Env → MS) : List D → M := fun ds S q x => m (startE n ds) S ⟨fun _ S' => fin S.length .non S' q, fun d S' => fin S.length d S' q, fun _ _ => False, fun _ _ => False, fun e _ S' => finX S.length e S' x⟩
def fnN (n : Nat) (m : Env → MS) : List D → M := fun ds S q x => m (startE n ds) S ⟨fun _ _ => False, fun d S' => finN S.length d S' q, fun _ _ => False, fun _ _ => False, fun e _ S' => finX S.length e S' x⟩
theorem Sit.take {K : PySem.W.Frag} {as bs : List Addr} {F H : Hp} {S : WS} (I : Sit K bs F H S) (p : Pre as bs) (hl : as.length ≤ bs.length) (hn : as.Nodup) : Sit K as F H (S.take as.length) := by
  refine ⟨by rw [List.length_take, ← I.len]; omega, I.ex, hn, fun i q c h1 h2 => ?_⟩
  have hi := (List.getElem?_eq_some_iff.mp h1).1
  rw [List.getElem?_take_of_lt hi] at h2
  exact I.cell i q c (p i q h1) h2
theorem pre_len {as bs : List Addr} (p : Pre as bs) : as.length ≤ bs.length := by
  by_cases h : as.length = 0
  · omega
  · have hl : as.length - 1 < as.length := by omega
    have := p (as.length - 1) _ (List.getElem?_eq_getElem hl)
    have := (List.getElem?_eq_some_iff.mp this).1
    omega
theorem pre_back {as bs : List Addr} (p : Pre as bs) : ∀ k a, k < as.length → bs[k]? = some a → as[k]? = some a := fun k a hk h => by
  have := p k _ (List.getElem?_eq_getElem hk)
  rw [h] at this
  cases this
  exact List.getElem?_eq_getElem hk
theorem pre_eq {as bs : List Addr} (p : Pre as bs) (h : bs.length = as.length) : bs = as := by
  refine List.ext_getElem? fun i => ?_
  by_cases hi : i < as.length
  · have := p i _ (List.getElem?_eq_getElem hi)
    rw [this, List.getElem?_eq_getElem hi]
  · rw [List.getElem?_eq_none (by omega), List.getElem?_eq_none (by omega)]
/-- what was a cell of the def's own is out of sight -/
theorem Grow.drop {K : PySem.W.Frag} {as bs : List Addr} {F H F' H' : Hp} {S' : WS} (g : Grow K as F H bs F' H' S') (hn : as.Nodup) : Grow K as F H as F' H' (S'.take as.length) :=
  ⟨g.sit.take g.pre (pre_len g.pre) hn, Pre.refl _, g.ex, g.new, fun _ h => .inl h, g.old, g.there⟩
theorem cell_out {as bs : List Addr} {k : Nat} {a : Addr} (p : Pre as bs) (nd : bs.Nodup) (hk : as.length ≤ k) (ha : bs[k]? = some a) : a ∉ as := fun z => by
  obtain ⟨i, hi⟩ := List.getElem?_of_mem z
  have h1 := p i a hi
  have hib : i < bs.length := (List.getElem?_eq_some_iff.mp h1).1
  have h2 : i = k := (List.getElem?_inj hib nd).mp (h1.trans ha.symm)
  have := (List.getElem?_eq_some_iff.mp hi).1
  omega
theorem fin_ok {K : PySem.W.Frag} {as bs : List Addr} {F H F' H' : Hp} {S S1 : WS} {d : D} {v : V} {q : D → WS → Prop} {Q : VK} (I : Sit K as F H S) (hq : NQ K as F H q Q) (g : Grow K as F H bs F' H' S1) (r : Rp K bs F' d v) (h : fin S.length d S1 q) : Q v H' := by
  have hl : bs.length = S1.length := g.sit.len
  have hn : as.length = S.length := I.len
  unfold fin at h
  split at h
  · rename_i e
    exact hq d S1 bs F' H' v h g r
  · have gd := g.drop I.nd
    rw [hn] at gd
    have other : ∀ x : D, D.clean S.length x = true → Rp K bs F' x v → Rp K as F' x v := fun x hx rx => rx.back (fun k a hk => pre_back g.pre k a (by omega)) hx
    split at h
    · rename_i k
      split at h
      · rename_i hk
        exact hq _ _ as F' H' v h gd (other _ (by unfold D.clean; exact decide_eq_true hk) r)
      · rename_i hk
        obtain ⟨c, hS, h⟩ := onS_ok h
        cases c with
        | lst ds =>
          cases r with
          | cell ha =>
            rename_i a
            obtain ⟨z1, o, z2, z3⟩ := g.sit.cell k a _ ha hS
            cases o with
            | lst xs =>
              have fa : F' a = none := z1 rfl
              have na : a ∉ as := cell_out g.pre g.sit.nd (by omega) ha
              refine hq _ _ as (upd F' a (.lst xs)) H' _ h ⟨gd.sit.freeze fa na z2, Pre.refl _, gd.ex.trans (Ex.new fa), fun b hb => ?_, fun _ h => .inl h, gd.old, gd.there⟩ (.lst upd_same (RpL.mono (Ex.new fa) pre_nil z3))
              by_cases e2 : b = a
              · subst e2
                rcases g.newc b (List.mem_of_getElem? ha) with z | z
                · exact absurd z na
                · exact .inr z
              · rw [upd_ne e2] at hb
                exact gd.new b hb
            | _ => exact z3.elim
        | _ => exact h.elim
    · exact hq _ _ as F' H' v h.2 gd (other _ h.1 r)
theorem Grow.only {K : PySem.W.Frag} {as bs : List Addr} {F H F' H' : Hp} {S1 : WS} {k : Nat} {a : Addr} {c : Cell} (g : Grow K as F H bs F' H' S1) (hn : as.Nodup) (hk : as.length ≤ k) (ha : bs[k]? = some a) (hS : S1[k]? = some c) : Grow K as F H (as ++ [a]) F' H' (S1.take as.length ++ [c]) := by
  have gd := g.drop hn
  have na : a ∉ as := cell_out g.pre g.sit.nd hk ha
  have hl : (S1.take as.length).length = as.length := gd.sit.len.symm
  refine ⟨⟨by rw [List.length_append, List.length_append, ← gd.sit.len]; rfl, gd.sit.ex, ?_, fun i q c2 h1 h2 => ?_⟩, fun i p hi => by rw [List.getElem?_append_left (List.getElem?_eq_some_iff.mp hi).1]; exact hi, g.ex, g.new, fun p hp => ?_, g.old, g.there⟩
  · rw [List.nodup_append]
    refine ⟨hn, by simp, fun x hx b hb e => ?_⟩
    rw [List.mem_singleton] at hb
    subst hb
    exact na (e ▸ hx)
  · by_cases hi : i < as.length
    · rw [List.getElem?_append_left hi] at h1
      rw [List.getElem?_append_left (by rw [hl]; exact hi)] at h2
      exact gd.sit.cell i q c2 h1 h2
    · have hi2 : i = as.length := by
        have := (List.getElem?_eq_some_iff.mp h1).1
        simp at this
        omega
      subst hi2
      rw [List.getElem?_append_right (Nat.le_refl _)] at h1
      rw [List.getElem?_append_right (by omega), hl] at h2
      simp at h1 h2
      subst h1 h2
      exact g.sit.cell k a c ha hS
  · rcases List.mem_append.mp hp with z | z
    · exact .inl z
    · rw [List.mem_singleton] at z
      subst z
      exact g.newc p (List.mem_of_getElem? ha)
theorem finN_ok {K : PySem.W.Frag} {as bs : List Addr} {F H F' H' : Hp} {S S1 : WS} {d : D} {v : V} {q : D → WS → Prop} {Q : VK} (I : Sit K as F H S) (hq : NQ K as F H q Q) (g : Grow K as F H bs F' H' S1) (r : Rp K bs F' d v) (h : finN S.length d S1 q) : Q v H' := by
  unfold finN at h
  split at h
  · rename_i k
    obtain ⟨hk, h⟩ := h
    obtain ⟨c, hS, h⟩ := onS_ok h
    cases r with
    | cell ha =>
      have g2 := g.only I.nd (by rw [I.len]; exact hk) ha hS
      rw [I.len] at g2
      refine hq _ _ _ F' H' _ h g2 (.cell ?_)
      rw [← I.len]
      simp
  · exact h.elim
theorem finX_ok {K : PySem.W.Frag} {as bs : List Addr} {F H F' H' : Hp} {S S1 : WS} {e : D} {cls : Value} {dd : Option Addr} {x : Xq} {E : XK} (I : Sit K as F H S) (hx : XQ K as F H x E) (g : Grow K as F H bs F' H' S1) (r : RxD K bs F' e cls dd) (h : finX S.length e S1 x) : E cls dd H' := by
  unfold finX at h
  have hn : as.length = S.length := I.len
  split at h
  · exact hx e S1 bs F' H' cls dd h g r
  · have gd := g.drop I.nd
    rw [hn] at gd
    obtain ⟨C, d, fs, vfs, e1, e2, e3, e4, e5⟩ := r
    subst e1
    have hc := h.1
    unfold D.clean at hc
    exact hx _ _ as F' H' cls dd h.2 gd ⟨C, d, fs, vfs, rfl, e2, e3, e4, e5.back (fun k a hk => pre_back g.pre k a (by omega)) hc⟩
abbrev WofE (E : XK) : WX := fun cls d _ H => E cls d H
theorem fnD_run {K : PySem.W.Frag} {N : List Str} {m : Env → MS} {ts : TS} {n : Nat} {vs : List V} {H : Hp} {Q : VK} {E : XK} (hm : MSt K (WofE E) ts m) (h : spG K n (fnD N.length m) vs H Q E) :
    ts { nx := fun _ H' => Q .non H', rt := Q } (L2.start N vs) H := by
  obtain ⟨as, F, S, ds, q, x, I, r, hl, e, hq, hx⟩ := h
  exact hm as F H S _ _ I (startE_ok r) _ e _ ⟨fun ρ' S' bs F' H' σ' h g R => fin_ok I hq g .non h, fun d S' bs F' H' v h g r => fin_ok I hq g r h, fun _ _ _ _ _ _ h => h.elim, fun _ _ _ _ _ _ h => h.elim, fun e ρ' S' bs F' H' σ' cls dd h g R r => finX_ok I hx g r h⟩
theorem fnN_run {K : PySem.W.Frag} {N : List Str} {m : Env → MS} {ts : TS} {n : Nat} {vs : List V} {H : Hp} {Q : VK} {E : XK} (hm : MSt K (WofE E) ts m) (h : spG K n (fnN N.length m) vs H Q E) :
    ts { nx := fun _ H' => Q .non H', rt := Q } (L2.start N vs) H := by
  obtain ⟨as, F, S, ds, q, x, I, r, hl, e, hq, hx⟩ := h
  exact hm as F H S _ _ I (startE_ok r) _ e _ ⟨fun _ _ _ _ _ _ h => h.elim, fun d S' bs F' H' v h g r => finN_ok I hq g r h, fun _ _ _ _ _ _ h => h.elim, fun _ _ _ _ _ _ h => h.elim, fun e ρ' S' bs F' H' σ' cls dd h g R r => finX_ok I hx g r h⟩
theorem tkF {nn : Bool} {X : Cx} : Tk nn X WF := by
  cases nn <;> (intro u s' x; obtain ⟨a, B, sI, pins, σ, H, cls, d, e, I, nb, up, sky, na, os, ag, w⟩ := x; exact w.elim)
section
variable {P : Program} {w : World} {K : PySem.W.Frag} {mg : Str → Option Value} {base : Heap}
def pnM (h : Bool) (p : Addr × Obj) : List (Addr × Obj) := match h with
  | false => []
  | true => [p]
/-- the context of a def's body; p: the error that is handled, if one is -/
abbrev cxG (n h : Bool) (P : Program) (w : World) (K : PySem.W.Frag) (mg : Str → Option Value) (base : Heap) (N : List Str) (qual : Str) (scope : Scope) (f : Addr) (cdv : Value) (A : Around) (outer : List PySem.Env) (s : Shared) (H : Hp) (E : XK) (p : Addr × Obj) : Cx :=
  { cxOf (CXm n P w) P w K mg base N qual scope f cdv A outer s H E with calm := !h, pn := pnM h p }
/-- the code object of the def at f -/
def CdOf (K : PySem.W.Frag) (f : Addr) (qual : Str) (cdv : Value) : Prop := ∃ (oc : Value) (od : Option Addr) (fd : FuncData) (osl : Array (Option Value)), K.lookup f = some ⟨oc, od, .func fd, osl⟩ ∧ fd.code = cdv ∧ PySem.W.codeIn K cdv qual = true
theorem fnX_of {gd : Md} {f : Addr} {name qual : Str} {params : Arguments} {body : List Stmt} {scope : Scope} {dvs : List V} {kws : List (Str × V)} {fd : FuncData} {N ps : List Str} {sp : Sp} {k : Nat} (F : FunD K name qual params body scope dvs kws f fd) (S : FnScope N ps scope)
    (len : ∀ vs H Q E, sp vs H Q E → vs.length = ps.length)
    (hbody : ∀ (cdv : Value) (A : Around) (outer : List PySem.Env) (s : Shared) (H : Hp) (vs : List V) (Q : VK) (E : XK) (p : Addr × Obj), CdOf K f qual cdv → (gd.g = true → A.guards = some []) → Rx gd.h k (cxG gd.n gd.h P w K mg base N qual scope f cdv A outer s H E p) → sp vs H Q E →
      ∃ t, PSs (cxG gd.n gd.h P w K mg base N qual scope f cdv A outer s H E p) body t ∧ t { nx := fun _ H' => Q .non H', rt := Q } (L2.start N vs) H) :
    FnX gd P w K mg base (k + 1) f fd ps sp := by
  obtain ⟨oc, od, dV, kV, doc, pm, an, cdv, ct, osl, rfl, lk, hcd, _, _⟩ := F.ex
  obtain ⟨gg, nn, hh⟩ := gd
  refine ⟨len, fun A outer s H args us vs Q E hg hr e0 hb r hsp => ?_⟩
  have still : ∀ b o, base.get? b = some o → s.heap.get? b = some o := fun b o e => (e0.bs b o e).1
  have KX : K.In s.heap := e0.mod.kin.keeps still
  have bound : ∀ y ∈ ps.zip us, scope.names.lookup y.1 = some .local ∨ (scope.names.lookup y.1 = some .cell ∧ ((cellsFrom (s.heap.objs.size + 1) scope.names []).lookup y.1).isSome = true) := by
    rintro ⟨n, v⟩ hy
    rcases S.par n (List.of_mem_zip hy).1 with q | q
    · exact Or.inl q
    · exact Or.inr ⟨q, PySem.W.cellsFrom_some _ _ _ (.inl q)⟩
  have hdp : A.depth < recursionLimit := by
    cases hh
    · exact Room.depth hr
    · exact hr.1.depth
  refine codeAny_call_function hdp (KX _ _ lk) rfl S.co S.gen rfl (PySem.W.codeRec_of KX hcd) (hb _ _ _ _ ?_)
  refine wpAny_newFunctionEnv_cells S.kind bound fun env he s1 x => ?_
  subst he
  refine ⟨(e0.mod.nolimit.keeps still).keeps x.toInCall.keep, codeAny_func ?_⟩
  have start : ∃ p, Rx hh k (cxG nn hh P w K mg base N qual scope f cdv A outer s H E p) ∧ Inv (cxG nn hh P w K mg base N qual scope f cdv A outer s H E p) [] (L2.start N vs) H s1 := by
    cases hh
    · exact ⟨(0, default), Room.deeper hr _, inv_start (CX := CXm nn P w) (E := E) (f := f) (cd := cdv) (qual := qual) S (Room.hd hr) e0 (len _ _ _ _ hsp) r x⟩
    · obtain ⟨r1, p, hp, e⟩ := hr
      exact ⟨p, ⟨r1.deeper _, p, List.mem_cons_self .., e⟩, L2H.inv_startH (CX := CXm nn P w) (E := E) (f := f) (cd := cdv) (qual := qual) S hp e0 (len _ _ _ _ hsp) r x⟩
  obtain ⟨p, hrx, I⟩ := start
  obtain ⟨t, ht, hq⟩ := hbody cdv A outer s H vs Q E p ⟨_, _, _, _, lk, rfl, hcd⟩ hg hrx hsp
  refine wpAny_mono (ht.run [] s1 (L2.start N vs) H _ I hq) (fun fl s' hs => ?_) fun e s' hs => hs
  cases fl with
  | ret u =>
    obtain ⟨v, σ', H', J, rv, q⟩ := hs
    exact ⟨v, H', J.os, J.bare, J.base, J.hok, rv, q⟩
  | next =>
    obtain ⟨σ', H', J, q⟩ := hs
    exact ⟨V.non, H', J.os, J.bare, J.base, J.hok, rfl, q⟩
  | brk =>
    obtain ⟨_, _, _, q⟩ := hs
    exact q.elim
  | cont =>
    obtain ⟨_, _, _, q⟩ := hs
    exact q.elim
theorem spG_len {n : Nat} {G : List D → M} : ∀ vs H Q E, spG K n G vs H Q E → vs.length = n := fun vs H Q E h => by
  obtain ⟨as, F, S, ds, q, x, I, r, hl, e, hq, hx⟩ := h
  rw [← r.length]
  exact hl
/-- a body's facts: what is raised goes out -/
abbrev BodyOk (gd : Md) (P : Program) (w : World) (K : PySem.W.Frag) (mg : Str → Option Value) (base : Heap) (N : List Str) (qual : Str) (scope : Scope) (f : Addr) (k : Nat) (body : List Stmt) (m : Env → MS) : Prop :=
  ∀ (cdv : Value) (A : Around) (outer : List PySem.Env) (s : Shared) (H : Hp) (E : XK) (pp : Addr × Obj), (gd.g = true → (cxG gd.n gd.h P w K mg base N qual scope f cdv A outer s H E pp).A.guards = some []) → Rx gd.h k (cxG gd.n gd.h P w K mg base N qual scope f cdv A outer s H E pp) →
    Tk gd.n (cxG gd.n gd.h P w K mg base N qual scope f cdv A outer s H E pp) (WofE E) → PassesOwn (model P w) (cxG gd.n gd.h P w K mg base N qual scope f cdv A outer s H E pp).A (cxG gd.n gd.h P w K mg base N qual scope f cdv A outer s H E pp).env (cxG gd.n gd.h P w K mg base N qual scope f cdv A outer s H E pp).xe →
    GSs (cxG gd.n gd.h P w K mg base N qual scope f cdv A outer s H E pp) (WofE E) body m
theorem tk_of {n h : Bool} {N : List Str} {qual : Str} {scope : Scope} {f : Addr} {cdv : Value} {A : Around} {outer : List PySem.Env} {s : Shared} {H : Hp} {E : XK} {pp : Addr × Obj} : Tk n (cxG n h P w K mg base N qual scope f cdv A outer s H E pp) (WofE E) := by
  cases n
  · exact L2.takes_of rfl rfl rfl rfl
  · exact L2N.takes_of rfl rfl rfl rfl
theorem fn_G {gd : Md} {x qual : Str} {params : Arguments} {body : List Stmt} {scope : Scope} {dvs : List V} {kws : List (Str × V)} {f : Addr} {fd : FuncData} {N ps : List Str} {k : Nat} {m : Env → MS} (F : FunD K x qual params body scope dvs kws f fd) (S : FnScope N ps scope)
    (hb : BodyOk gd P w K mg base N qual scope f k body m) : FnX gd P w K mg base (k + 1) f fd ps (spG K ps.length (fnD N.length m)) := by
  refine fnX_of F S spG_len (fun cdv A outer s H vs Q E pp _ hg hr h => ?_)
  obtain ⟨ts, p, hm⟩ := hb cdv A outer s H E pp hg hr tk_of (passes_of rfl)
  exact ⟨ts, p, fnD_run hm h⟩
/-- .. where the def's code object is asked for -/
theorem fn_GL {gd : Md} {x qual : Str} {params : Arguments} {body : List Stmt} {scope : Scope} {dvs : List V} {kws : List (Str × V)} {f : Addr} {fd : FuncData} {N ps : List Str} {k : Nat} {m : Env → MS} (F : FunD K x qual params body scope dvs kws f fd) (S : FnScope N ps scope)
    (hb : ∀ (cdv : Value) (A : Around) (outer : List PySem.Env) (s : Shared) (H : Hp) (E : XK) (pp : Addr × Obj), CdOf K f qual cdv → (gd.g = true → (cxG gd.n gd.h P w K mg base N qual scope f cdv A outer s H E pp).A.guards = some []) → Rx gd.h k (cxG gd.n gd.h P w K mg base N qual scope f cdv A outer s H E pp) →
      Tk gd.n (cxG gd.n gd.h P w K mg base N qual scope f cdv A outer s H E pp) (WofE E) → PassesOwn (model P w) (cxG gd.n gd.h P w K mg base N qual scope f cdv A outer s H E pp).A (cxG gd.n gd.h P w K mg base N qual scope f cdv A outer s H E pp).env (cxG gd.n gd.h P w K mg base N qual scope f cdv A outer s H E pp).xe →
      GSs (cxG gd.n gd.h P w K mg base N qual scope f cdv A outer s H E pp) (WofE E) body m) : FnX gd P w K mg base (k + 1) f fd ps (spG K ps.length (fnD N.length m)) := by
  refine fnX_of F S spG_len (fun cdv A outer s H vs Q E pp hc hg hr h => ?_)
  obtain ⟨ts, p, hm⟩ := hb cdv A outer s H E pp hc hg hr tk_of (passes_of rfl)
  exact ⟨ts, p, fnD_run hm h⟩
theorem fn_N {gd : Md} {x qual : Str} {params : Arguments} {body : List Stmt} {scope : Scope} {dvs : List V} {kws : List (Str × V)} {f : Addr} {fd : FuncData} {N ps : List Str} {k : Nat} {m : Env → MS} (F : FunD K x qual params body scope dvs kws f fd) (S : FnScope N ps scope)
    (hb : BodyOk gd P w K mg base N qual scope f k body m) : FnX gd P w K mg base (k + 1) f fd ps (spG K ps.length (fnN N.length m)) := by
  refine fnX_of F S spG_len (fun cdv A outer s H vs Q E pp _ hg hr h => ?_)
  obtain ⟨ts, p, hm⟩ := hb cdv A outer s H E pp hg hr tk_of (passes_of rfl)
  exact ⟨ts, p, fnN_run hm h⟩
end
end RV
end
section
/-! Instances: made, their fields read and set, properties. -/
namespace RV
open PySem L2
variable {nn : Bool}
section
variable {X : Cx} {W : WX} {e o : Expr} {es : List Expr} {pos p apos : Pos} {er ek : Env → ML} {ea eb : Env → M} {C : Addr} {f : Str}
/-- o.f of an instance of the class at C: one that stands still, or a cell -/
def fldD (C : Addr) (f : Str) (S : WS) : D → Option D
  | .obj C' fs => if C' = C then fs.lookup f else none
  | .cell k => match S[k]? with
    | some (.ob C' fs) => if C' = C then fs.lookup f else none
    | _ => none
  | _ => none
theorem fld_at {K : PySem.W.Frag} {as : List Addr} {F H : Hp} {S : WS} {x d : D} {v : V} (I : Sit K as F H S) (r : Rp K as F x v) (h : fldD C f S x = some d) : ∃ a dx vfs u, v = .ref a ∧ H a = some (.ins C dx vfs) ∧ vfs.lookup f = some u ∧ Rp K as F d u := by
  cases x with
  | obj C' fs =>
    unfold fldD at h
    simp only at h
    split at h
    · rename_i e
      subst e
      cases r with
      | obj ha rf =>
        obtain ⟨u, h1, h2⟩ := rf.look h
        exact ⟨_, _, _, u, rfl, I.ex _ _ ha, h1, h2⟩
    · cases h
  | cell k =>
    unfold fldD at h
    cases hS : S[k]? with
    | none => simp [hS] at h
    | some c =>
      cases c with
      | ob C' fs =>
        simp only [hS] at h
        split at h
        · rename_i e
          subst e
          cases r with
          | cell ha =>
            obtain ⟨z1, ob, z2, z3⟩ := I.cell k _ _ ha hS
            cases ob with
            | ins C2 dx vfs =>
              obtain ⟨e2, z3⟩ := z3
              subst e2
              obtain ⟨u, h1, h2⟩ := z3.look h
              exact ⟨_, dx, vfs, u, rfl, z2, h1, h2.mono (Ex.refl _) pre_nil⟩
            | _ => exact z3.elim
        · cases h
      | _ => simp [hS] at h
  | _ => cases h
theorem ge_fld (cl : Cls X.K C) (no : NoAttr X.K C f) (ha : GE X W e ea) (hb : attributeBase e f X.env (eval e X.env) = eval e X.env := by rfl) : GE X W (.Attribute e f pos) (eUn (fldD C f) ea) := by
  obtain ⟨t, pa, m⟩ := ha
  refine ⟨_, pe_fld pa hb, fun as F H S ρ σ I R q x h Q hq hx => ?_⟩
  refine m as F H S ρ σ I R _ x h _ (fun z S1 bs F1 H1 v h1 g r => ?_) hx
  obtain ⟨d, h3, h4⟩ := onS_ok h1
  obtain ⟨a, dx, vfs, u, rfl, ha, hl, ru⟩ := fld_at g.sit r h3
  exact ⟨a, C, dx, vfs, u, rfl, ha, cl, no, hl, hq d S1 bs F1 H1 u h4 g ru⟩
/-- is it an instance of the class at C -/
def isOb (C : Addr) (S : WS) : D → Prop
  | .obj C' _ => C' = C
  | .cell k => onS S[k]? fun c => onOb c fun C' _ => C' = C
  | _ => False
theorem isOb_at {K : PySem.W.Frag} {as : List Addr} {F H : Hp} {S : WS} {x : D} {v : V} (I : Sit K as F H S) (r : Rp K as F x v) (h : isOb C S x) : ∃ a dx vfs, v = .ref a ∧ H a = some (.ins C dx vfs) := by
  cases r with
  | obj ha rf =>
    have h : _ = C := h
    subst h
    exact ⟨_, _, _, rfl, I.ex _ _ ha⟩
  | cell ha =>
    obtain ⟨c, hS, h⟩ := onS_ok h
    cases c with
    | ob C' fs =>
      have h : C' = C := h
      subst h
      obtain ⟨z1, ob, z2, z3⟩ := I.cell _ _ _ ha hS
      cases ob with
      | ins C2 dx vfs =>
        obtain ⟨e2, z3⟩ := z3
        subst e2
        exact ⟨_, _, _, rfl, z2⟩
      | _ => exact z3.elim
    | _ => exact h.elim
  | _ => exact h.elim
/-- o.f, a property of the class at C, which raises nothing -/
def eProp (C : Addr) (G : List D → M) (ea : Env → M) : Env → M := fun ρ S q x => ea ρ S (fun d S1 => isOb C S1 d ∧ G [d] S1 q noX) x
theorem ge_prop {k j : Nat} {pr g : Addr} {fd : FuncData} {ps : List Str} {G : List D → M} (cl : Cls X.K C) (hp : PropOf X.K C f pr g) (Fn : FnX ⟨false, nn, false⟩ X.prog X.w X.K X.mg X.base k g fd ps (spG X.K 1 G)) (hr : Room j X.A) (hj : k + 1 ≤ j) (hb : Binds X.K fd ps []) (ha : GE X W e ea)
    (hab : attributeBase e f X.env (eval e X.env) = eval e X.env := by rfl) : GE X W (.Attribute e f pos) (eProp C G ea) := by
  obtain ⟨t, pa, m⟩ := ha
  refine ⟨_, pe_prop (CX := CXm nn X.prog X.w) (dvs := []) (E := fun _ _ _ => False) pa cl hp Fn.ok (hr.mono hj) hb .nil (fun pins σ H s e s' I c => ?_) hab, fun as F H S ρ σ I R q x h Q hq hx => ?_⟩
  · exact (cxm_no c).elim
  · refine m as F H S ρ σ I R _ x h _ (fun z S1 bs F1 H1 v h1 g r => ?_) hx
    obtain ⟨a, dx, vfs, rfl, ha⟩ := isOb_at g.sit r h1.1
    exact ⟨a, dx, vfs, rfl, ha, bs, F1, S1, [z], q, noX, g.sit, .cons r .nil, rfl, h1.2, hq.step g, XQ.no⟩

/-! ### a cell's content changes -/
theorem Sit.put {K : PySem.W.Frag} {as : List Addr} {F H : Hp} {S : WS} {k : Nat} {p : Addr} {c c' : Cell} {o : HO} (I : Sit K as F H S) (ha : as[k]? = some p) (hS : S[k]? = some c) (hc : c.isHid = false) (hc' : c'.isHid = false) (ho : CellOf K F p c' o) :
    Grow K as F H as F (upd H p o) (S.set k c') := by
  have z := I.cell k p c ha hS
  have fp : F p = none := z.out hc
  have hk : k < S.length := (List.getElem?_eq_some_iff.mp hS).1
  refine ⟨⟨by rw [List.length_set]; exact I.len, fun a u h => ?_, I.nd, fun i q c2 h1 h2 => ?_⟩, Pre.refl _, Ex.refl _, fun _ h => .inl h, fun _ h => .inl h, fun a u na h => ?_, fun a h => upd_there h⟩
  · have np : a ≠ p := fun z => by rw [z, fp] at h; cases h
    rw [upd_ne np]
    exact I.ex a u h
  · by_cases e : k = i
    · subst e
      rw [ha] at h1
      cases h1
      rw [List.getElem?_set_self hk] at h2
      cases h2
      exact ⟨fun _ => fp, o, upd_same, ho⟩
    · rw [List.getElem?_set_ne e] at h2
      have nq : q ≠ p := fun z => by
        subst z
        have hia : k < as.length := (List.getElem?_eq_some_iff.mp ha).1
        exact e ((List.getElem?_inj hia I.nd).mp (ha.trans h1.symm))
      obtain ⟨z1, ob, z2, z3⟩ := I.cell i q c2 h1 h2
      exact ⟨z1, ob, by rw [upd_ne nq]; exact z2, z3⟩
  · have np : a ≠ p := fun z => na (z ▸ List.mem_of_getElem? ha)
    rw [upd_ne np]
    exact h
def putD (f : Str) (d : D) : List (Str × D) → List (Str × D)
  | [] => [(f, d)]
  | (g, x) :: r => if g = f then (g, d) :: r else (g, x) :: putD f d r
theorem RpF.put {K : PySem.W.Frag} {as : List Addr} {F : Hp} {d : D} {v : V} (h : Rp K as F d v) : ∀ {fs : List (Str × D)} {vfs : List (Str × V)}, RpF K as F fs vfs → RpF K as F (putD f d fs) (putF f v vfs)
  | _, _, .nil => .cons h .nil
  | _, _, .cons (n := n) hd r => by
    unfold putD putF
    by_cases e : n = f
    · rw [if_pos e, if_pos e]
      exact .cons h r
    · rw [if_neg e, if_neg e]
      exact .cons hd (RpF.put h r)
theorem RpF.length {K : PySem.W.Frag} {as : List Addr} {F : Hp} : ∀ {fs : List (Str × D)} {vfs : List (Str × V)}, RpF K as F fs vfs → fs.length = vfs.length
  | _, _, .nil => rfl
  | _, _, .cons _ r => congrArg (· + 1) r.length
/-- o.f = e, o an instance that is a cell -/
def setFD (C : Addr) (f : Str) (d o : D) (S : WS) (q : WS → Prop) : Prop := onCe o fun k => onS S[k]? fun c => onOb c fun C' fs => (C' = C ∧ D.clean 0 d = true ∧ fs.length < 1000) ∧ q (S.set k (.ob C (putD f d fs)))
def sFldD (C : Addr) (f : Str) (eo ee : Env → M) : Env → MS := fun ρ S k => ee ρ S (fun d S1 => eo ρ S1 (fun o S2 => setFD C f d o S2 fun S3 => k.nx ρ S3) fun e S' => k.ex e ρ S') fun e S' => k.ex e ρ S'
theorem gs_fld {ppos : Pos} (cl : Cls X.K C) (no : NoAttr X.K C f) (ho : GE X W o ea) (he : GE X W e eb) (hs : swapsWith e (some (.Attribute o f ppos)) pos.line X.env = pure false := by rfl) : GS X W (.Assign [.Attribute o f ppos] e pos) (sFldD C f ea eb) := by
  obtain ⟨t, pt, mt⟩ := ho
  obtain ⟨u, pu, mu⟩ := he
  refine ⟨_, ps_fld pt pu hs, fun as F H S ρ σ I R k h E q => ?_⟩
  refine mu as F H S ρ σ I R _ _ h _ (fun y S1 bs F1 H1 v1 h1 g1 r1 => ?_) (q.xq R)
  refine mt bs F1 H1 S1 ρ σ g1.sit (R.grow g1) _ _ h1 _ (fun z S2 cs F2 H2 v2 h2 g2 r2 => ?_) ((q.step g1).xq (R.grow g1))
  cases r2 with
  | cell h0 =>
    obtain ⟨c, hS, h3⟩ := onS_ok h2
    cases c with
    | ob C' fs =>
      obtain ⟨⟨e1, hcl, hlen⟩, h3⟩ := h3
      subst e1
      obtain ⟨z1, ob, z2, z3⟩ := g2.sit.cell _ _ _ h0 hS
      cases ob with
      | ins C2 dx vfs =>
        obtain ⟨e2, z3⟩ := z3
        subst e2
        have r1' : Rp X.K [] F2 y v1 := (RpE_aux g2 r1).back (n := 0) (fun k a hk => absurd hk (by omega)) hcl
        have g3 := g2.sit.put (c' := .ob C2 (putD f y fs)) (o := .ins C2 dx (putF f v1 vfs)) h0 hS rfl rfl ⟨rfl, z3.put r1'⟩
        refine ⟨_, _, dx, vfs, rfl, z2, cl, no, by rw [← z3.length]; exact hlen, ?_⟩
        have g4 := (g1.trans g2).trans g3
        exact q.nx ρ _ cs _ _ σ h3 g4 (R.grow g4)
      | _ => exact z3.elim
    | _ => exact h3.elim
  | _ => exact h2.elim

/-! ### an instance made -/
def lkO (l : Lk) (C : Addr) (fs : List (Str × D)) (n : Nat) (S : WS) (q : D → WS → Prop) : Prop := match l with
  | .still => q (.obj C fs) (S.take n)
  | .new => q (.cell n) (S.take n ++ [.ob C fs])
/-- behind the __init__: the instance stands still, or is a cell -/
def finO (l : Lk) (C : Addr) (n : Nat) (d : D) (S : WS) (q : D → WS → Prop) : Prop := d = .non ∧ onS S[n]? fun c => onOb c fun C' fs => C' = C ∧ lkO l C fs n S q
def makeD (l : Lk) (C : Addr) (n : Nat) (G : List D → M) (ds : List D) (S : WS) (q : D → WS → Prop) (x : Xq) : Prop := ds.length + 1 = n ∧ G (.cell S.length :: ds) (S ++ [.ob C []]) (fun d S2 => finO l C S.length d S2 q) fun e S2 => finX S.length e S2 x
theorem make_ok {K : PySem.W.Frag} {as : List Addr} {F H : Hp} {S : WS} {n : Nat} {l : Lk} {G : List D → M} {ds : List D} {vs : List V} {q : D → WS → Prop} {x : Xq} {E : XK} {Q : VK} (I : Sit K as F H S) (r : RpL K as F ds vs) (h : makeD l C n G ds S q x)
    (hq : NQ K as F H q Q) (hx : XQ K as F H x E) (p dx : Addr) (hp : H p = none) (hdx : H dx = none) (ne : dx ≠ p) :
    spG K n G (.ref p :: vs) (upd (upd H dx (.own p)) p (.ins C dx [])) (fun v H2 => v = .non ∧ Q (.ref p) H2) E := by
  obtain ⟨hn, h⟩ := h
  have hH : ∀ a u, H a = some u → upd (upd H dx (.own p)) p (.ins C dx []) a = some u := fun a u e => by
    rw [upd_ne (ne_of_none e hp), upd_ne (ne_of_none e hdx)]
    exact e
  have np : p ∉ as := fun z => I.there z hp
  have I2 : Sit K (as ++ [p]) F (upd (upd H dx (.own p)) p (.ins C dx [])) (S ++ [.ob C []]) := sit_cell I np (I.out hp) (fun a u _ => hH a u) upd_same rfl ⟨rfl, .nil⟩
  have up : ∀ {bs : List Addr} {F1 H1 : Hp} {S2 : WS}, Grow K (as ++ [p]) F (upd (upd H dx (.own p)) p (.ins C dx [])) bs F1 H1 S2 → Grow K as F H bs F1 H1 S2 := fun {bs F1 H1 S2} g => by
    refine ⟨g.sit, pre_app.trans g.pre, g.ex, fun a ha => ?_, fun a ha => ?_, fun a u na e => ?_, fun a e => g.there a (upd_there (upd_there e))⟩
    · rcases g.new a ha with z | z
      · exact .inl z
      · by_cases e3 : a = p
        · subst e3
          exact .inr hp
        · rw [upd_ne e3] at z
          exact .inr (none_back (H1 := upd H dx (.own p)) (fun h => upd_there h) z)
    · rcases g.newc a ha with z | z
      · rcases List.mem_append.mp z with z | z
        · exact .inl z
        · rw [List.mem_singleton] at z
          subst z
          exact .inr hp
      · by_cases e3 : a = p
        · subst e3
          exact .inr hp
        · rw [upd_ne e3] at z
          exact .inr (none_back (H1 := upd H dx (.own p)) (fun h => upd_there h) z)
    · refine g.old a u (fun z => ?_) (hH a u e)
      rcases List.mem_append.mp z with z | z
      · exact na z
      · rw [List.mem_singleton] at z
        subst z
        rw [hp] at e
        cases e
  refine ⟨as ++ [p], F, S ++ [.ob C []], .cell S.length :: ds, _, _, I2, .cons (.cell (by rw [← I.len]; simp)) (r.mono (Ex.refl _) pre_app), by rw [List.length_cons]; exact hn, h, fun d S2 bs F1 H1 v hd g rv => ?_, fun e S2 bs F1 H1 cls dd he g rx => finX_ok I hx (up g) rx he⟩
  obtain ⟨e1, h2⟩ := hd
  subst e1
  cases rv
  refine ⟨rfl, ?_⟩
  obtain ⟨c, hS, h3⟩ := onS_ok h2
  cases c with
  | ob C' fs =>
    obtain ⟨e2, h3⟩ := h3
    subst e2
    have ha : bs[S.length]? = some p := g.pre _ _ (by rw [← I.len]; simp)
    have gu := up g
    cases l with
    | still =>
      obtain ⟨z1, ob, z2, z3⟩ := g.sit.cell S.length p _ ha hS
      cases ob with
      | ins C2 dx2 vfs =>
        obtain ⟨e2, z3⟩ := z3
        subst e2
        have fx : F1 p = none := z1 rfl
        have gd := gu.drop I.nd
        rw [I.len] at gd
        refine hq _ _ as (upd F1 p (.ins C2 dx2 vfs)) H1 (.ref p) h3 ⟨gd.sit.freeze fx np z2, Pre.refl _, gd.ex.trans (Ex.new fx), fun a ha => ?_, fun _ h => .inl h, gd.old, gd.there⟩ (.obj upd_same (RpF.mono (Ex.new fx) pre_nil z3))
        by_cases e3 : a = p
        · subst e3
          exact .inr hp
        · rw [upd_ne e3] at ha
          exact gd.new a ha
      | _ => exact z3.elim
    | new =>
      have g2 := gu.only I.nd (by rw [I.len]; exact Nat.le_refl _) ha hS
      rw [I.len] at g2
      refine hq _ _ _ F1 H1 _ h3 g2 (.cell ?_)
      rw [← I.len]
      simp
  | _ => exact h3.elim
section
variable {k j n : Nat} {fI : Addr} {fd : FuncData} {ps ks : List Str} {l : Lk} {G : List D → M} {dvs : List D} {dv : List V} {ds : List Value} {x : Str}
theorem run_makeX {sp : Sp} {pins : List (Addr × Obj)} {σ : L2.St} {H : Hp} {s : Shared} {Q : VK} {us : List Value} {vs : List V} (M : Mk X.K C fI) (Fn : FnX ⟨false, nn, false⟩ X.prog X.w X.K X.mg X.base k fI fd ps sp) (hr : Room (k + 1) X.A) (hb : Binds X.K fd ps ds) (hd : Vals dv ds) (tk : Tk nn X W) (I : Inv X pins σ H s) (r : Vals vs us)
    (h : ∀ z dx, H z = none → H dx = none → dx ≠ z → sp (.ref z :: (vs ++ dv)) (upd (upd H dx (.own z)) z (.ins C dx [])) (fun v H2 => v = .non ∧ Q (.ref z) H2) (WE W σ)) :
    wpAny (model X.prog X.w) X.A (PySem.call (.ref C) us) (EP X pins σ Q) X.xe s := by
  have hq := h (s.heap.objs.size + 1) s.heap.objs.size (I.hok.fresh (Nat.le_succ _)) (I.hok.fresh (Nat.le_refl _)) (Nat.ne_of_lt (Nat.lt_succ_self _))
  have J := Inv.made (C := C) I
  have r2 : Vals (V.ref (s.heap.objs.size + 1) :: (vs ++ dv)) (Value.ref (s.heap.objs.size + 1) :: (us ++ ds)) := .cons rfl (r.append hd)
  have hl : (Value.ref (s.heap.objs.size + 1) :: us ++ ds).length = ps.length := r2.length.symm.trans (Fn.len _ _ _ _ hq)
  refine wpAny_call (make_map (f := fI) I.kIn M.makes M.init (beq_iff_eq.mp M.fn) ?_)
  refine codeAny_mono (Fn.ok.run _ X.stack _ _ _ _ _ _ (WE W σ) (hr.make C us []) (J.env0.make C us []) (hb _ _ J.kIn hl) r2 hq) fun r s' hz => ?_
  cases r with
  | error er => exact tk.pass σ pins _ _ er s' J hz
  | ok fl =>
    cases fl with
    | ret u =>
      obtain ⟨v, H', J3, rv, ev, q3⟩ := J.after hz
      subst ev
      exact ⟨rv, ⟨.ref _, H', J3, rfl, q3⟩⟩
    | next => exact hz.elim
    | brk => exact hz.elim
    | cont => exact hz.elim
def tMakeX (C : Addr) (sp : Sp) (dv : List V) (E : L2.St → XK) (t : TA) : TE := fun σ H Q => t σ H fun vs H1 => ∀ z dx, H1 z = none → H1 dx = none → dx ≠ z → sp (.ref z :: (vs ++ dv)) (upd (upd H1 dx (.own z)) z (.ins C dx [])) (fun v H2 => v = .non ∧ Q (.ref z) H2) (E σ)
def eMake (l : Lk) (C : Addr) (n : Nat) (G : List D → M) (dvs : List D) (er : Env → ML) : Env → M := fun ρ S q x => er ρ S (fun ds S1 => makeD l C n G (ds ++ dvs) S1 q x) x
theorem me_make {K : PySem.W.Frag} {t : TA} (hdv : ∀ as F, RpL K as F dvs dv) (m : MA K W t er) : ME K W (tMakeX C (spG K n G) dv (WE W) t) (eMake l C n G dvs er) := fun as F H S ρ σ I R q x h Q hq hx => by
  refine m as F H S ρ σ I R _ x h _ (fun ds S1 bs F1 H1 vs h1 g r => ?_) hx
  intro z dx hz hdx ne
  exact make_ok g.sit (r.append (hdv bs F1)) h1 (hq.step g) (hx.step g) z dx hz hdx ne
theorem ge_make (tk : Tk nn X W) (Mm : Mk X.K C fI) (Fn : FnX ⟨false, nn, false⟩ X.prog X.w X.K X.mg X.base k fI fd ps (spG X.K n G)) (hr : Room j X.A) (hj : k + 1 ≤ j)
    (hm : X.mg x = some (.ref C)) (hb : Binds X.K fd ps ds) (hd : Vals dv ds) (hdv : ∀ as F, RpL X.K as F dvs dv) (ha : GA X W (e :: es) er) (hg : Gl X x := by rfl) (hdb : (x == ("__debug__" : Str)) = false := by decide)
    (h1 : starEach (e :: es) X.env = (false, eval e X.env) :: starEach es X.env := by rfl) (h2 : (backTo pos (starEach es X.env)).any (·.1) = false := by rfl) : GE X W (.Call (.Name x p) (e :: es) [] pos) (eMake l C n G dvs er) := by
  obtain ⟨t, pa, m⟩ := ha
  refine ⟨tMakeX C (spG X.K n G) dv (WE W) t, ⟨fun pins s σ H Q I h => ?_⟩, me_make hdv m⟩
  refine wpAny_Call_Name_kw (ld_glob I hg hm ?_ hdb)
  refine PySem.W.callWith_K (h₀ := X.base) I.ok.mod.kin Mm.kp (thn (pa.run pos pins s σ H _ I h) fun us s1 hh => ?_) h1 h2
  obtain ⟨vs, H1, I1, r1, q1⟩ := hh
  exact ⟨I1.kIn, run_makeX Mm Fn (hr.mono hj) hb hd tk I1 r1 q1⟩
/-- C() -/
theorem ge_make0 (tk : Tk nn X W) (Mm : Mk X.K C fI) (Fn : FnX ⟨false, nn, false⟩ X.prog X.w X.K X.mg X.base k fI fd ps (spG X.K n G)) (hr : Room j X.A) (hj : k + 1 ≤ j)
    (hm : X.mg x = some (.ref C)) (hb : Binds X.K fd ps ds) (hd : Vals dv ds) (hdv : ∀ as F, RpL X.K as F dvs dv) (hg : Gl X x := by rfl) (hdb : (x == ("__debug__" : Str)) = false := by decide) : GE X W (.Call (.Name x p) [] [] pos) (eMake l C n G dvs aNil) := by
  refine ⟨tMakeX C (spG X.K n G) dv (WE W) tNil, ⟨fun pins s σ H Q I h => ?_⟩, me_make hdv ma_nil⟩
  refine wpAny_Call_Name_kw (ld_glob I hg hm ?_ hdb)
  exact PySem.W.callWith_K0 I.kIn Mm.kp (run_makeX (us := []) Mm Fn (hr.mono hj) hb hd tk I .nil h)
/-- C(e, .., k = v, ..): gD puts the values and the keywords' values in the parameters' order (without self) -/
def eMakeK (l : Lk) (C : Addr) (n m1 m2 : Nat) (G : List D → M) (gD : List D → List D → List D) (er ek : Env → ML) : Env → M := fun ρ S q x => er ρ S (fun ds S1 => ek ρ S1 (fun zs S2 => (ds.length = m1 ∧ zs.length = m2) ∧ makeD l C n G (gD ds zs) S2 q x) x) x
def tMakeKX (C : Addr) (m1 m2 : Nat) (sp : Sp) (gV : List V → List V → List V) (E : L2.St → XK) (t u : TA) : TE := fun σ H Q => t σ H fun vs H1 => u σ H1 fun ws H2 => (vs.length = m1 ∧ ws.length = m2) ∧ ∀ z dx, H2 z = none → H2 dx = none → dx ≠ z → sp (gV (.ref z :: vs) ws) (upd (upd H2 dx (.own z)) z (.ins C dx [])) (fun v H3 => v = .non ∧ Q (.ref z) H3) (E σ)
theorem run_makeKX {sp : Sp} {m1 : Nat} {g : List Value → List Value → List Value} {gV : List V → List V → List V} {pins : List (Addr × Obj)} {σ : L2.St} {H : Hp} {s : Shared} {Q : VK} {us ws : List Value} {vs zs : List V} (M : Mk X.K C fI) (Fn : FnX ⟨false, nn, false⟩ X.prog X.w X.K X.mg X.base k fI fd ps sp) (hr : Room (k + 1) X.A) (hb : KBn X.K fd ps (m1 + 1) ks g gV) (tk : Tk nn X W) (I : Inv X pins σ H s) (r : Vals vs us) (rz : Vals zs ws) (l1 : vs.length = m1) (l2 : zs.length = ks.length)
    (h : ∀ z dx, H z = none → H dx = none → dx ≠ z → sp (gV (.ref z :: vs) zs) (upd (upd H dx (.own z)) z (.ins C dx [])) (fun v H2 => v = .non ∧ Q (.ref z) H2) (WE W σ)) :
    wpAny (model X.prog X.w) X.A (PySem.call (.ref C) us (ks.zip ws)) (EP X pins σ Q) X.xe s := by
  have hq := h (s.heap.objs.size + 1) s.heap.objs.size (I.hok.fresh (Nat.le_succ _)) (I.hok.fresh (Nat.le_refl _)) (Nat.ne_of_lt (Nat.lt_succ_self _))
  have J := Inv.made (C := C) I
  have r1 : Vals (V.ref (s.heap.objs.size + 1) :: vs) (Value.ref (s.heap.objs.size + 1) :: us) := .cons rfl r
  have e1 : (Value.ref (s.heap.objs.size + 1) :: us).length = m1 + 1 := by rw [← r1.length, List.length_cons, l1]
  have e2 : ws.length = ks.length := by rw [← rz.length, l2]
  refine wpAny_call (make_map (f := fI) I.kIn M.makes M.init (beq_iff_eq.mp M.fn) ?_)
  refine codeAny_mono (Fn.ok.run _ X.stack _ _ _ _ _ _ (WE W σ) (hr.make C us _) (J.env0.make C us _) (hb.to _ _ ws J.kIn e1 e2) (hb.rel r1 rz) hq) fun r s' hz => ?_
  cases r with
  | error er => exact tk.pass σ pins _ _ er s' J hz
  | ok fl =>
    cases fl with
    | ret u =>
      obtain ⟨v, H', J3, rv, ev, q3⟩ := J.after hz
      subst ev
      exact ⟨rv, ⟨.ref _, H', J3, rfl, q3⟩⟩
    | next => exact hz.elim
    | brk => exact hz.elim
    | cont => exact hz.elim
theorem me_makeK {K : PySem.W.Frag} {m1 m2 : Nat} {gV : List V → List V → List V} {gD : List D → List D → List D} {t u : TA} (hgD : ∀ as F (ds zs : List D) (vs ws : List V) (s : V), RpL K as F ds vs → RpL K as F zs ws → ds.length = m1 → zs.length = m2 → ∃ us, gV (s :: vs) ws = s :: us ∧ RpL K as F (gD ds zs) us)
    (m : MA K W t er) (mk : MA K W u ek) : ME K W (tMakeKX C m1 m2 (spG K n G) gV (WE W) t u) (eMakeK l C n m1 m2 G gD er ek) := fun as F H S ρ σ I R q x h Q hq hx => by
  refine m as F H S ρ σ I R _ x h _ (fun ds S1 bs F1 H1 vs h1 g1 r1 => ?_) hx
  refine mk bs F1 H1 S1 ρ σ g1.sit (R.grow g1) _ x h1 _ (fun zs S2 cs F2 H2 ws h2 g2 r2 => ?_) (hx.step g1)
  refine ⟨⟨r1.length.symm.trans h2.1.1, r2.length.symm.trans h2.1.2⟩, fun z dx hz hdx ne => ?_⟩
  obtain ⟨us, e1, r3⟩ := hgD cs F2 ds zs vs ws (.ref z) (r1.mono g2.ex g2.pre) r2 h2.1.1 h2.1.2
  rw [e1]
  exact make_ok g2.sit r3 h2.2 ((hq.step g1).step g2) ((hx.step g1).step g2) z dx hz hdx ne
theorem ge_makeK {m1 : Nat} {g : List Value → List Value → List Value} {gV : List V → List V → List V} {gD : List D → List D → List D} {kws : List Keyword} (tk : Tk nn X W) (Mm : Mk X.K C fI) (Fn : FnX ⟨false, nn, false⟩ X.prog X.w X.K X.mg X.base k fI fd ps (spG X.K n G)) (hr : Room j X.A) (hj : k + 1 ≤ j)
    (hm : X.mg x = some (.ref C)) (hb : KBn X.K fd ps (m1 + 1) ks g gV) (hgD : ∀ as F (ds zs : List D) (vs ws : List V) (s : V), RpL X.K as F ds vs → RpL X.K as F zs ws → ds.length = m1 → zs.length = ks.length → ∃ us, gV (s :: vs) ws = s :: us ∧ RpL X.K as F (gD ds zs) us) (ha : GA X W (e :: es) er) (hk : GK X W kws ek) (hg : Gl X x := by rfl)
    (hall : (backToKw pos (keywordEach kws X.env)).all (·.1.isSome) = true := by rfl) (hks : (backToKw pos (keywordEach kws X.env)).filterMap (·.1) = ks := by rfl) (hdb : (x == ("__debug__" : Str)) = false := by decide)
    (he : starEach (e :: es) X.env = (false, eval e X.env) :: starEach es X.env := by rfl) (hpl : ((backTo pos (starEach (e :: es) X.env)).any (·.1) || (backToKw pos (keywordEach kws X.env)).any (·.1.isNone)) = false := by rfl) :
    GE X W (.Call (.Name x p) (e :: es) kws pos) (eMakeK l C n m1 ks.length G gD er ek) := by
  obtain ⟨t, pa, m⟩ := ha
  obtain ⟨u, pk, mk⟩ := hk
  refine ⟨tMakeKX C m1 ks.length (spG X.K n G) gV (WE W) t u, ⟨fun pins s σ H Q I h => ?_⟩, me_makeK hgD m mk⟩
  refine wpAny_Call_Name_kw (ld_glob I hg hm ?_ hdb)
  refine PySem.W.callWith_KW (h₀ := X.base) I.ok.mod.kin Mm.kp hall (thn (pa.run pos pins s σ H _ I h) fun us s1 hh => ?_) hpl he
  obtain ⟨vs, H1, I1, r, q1⟩ := hh
  refine thn (pk.run pos pins s1 σ H1 _ I1 q1) fun ws s2 hh2 => ?_
  obtain ⟨zs, H2, I2, rz, ll, q2⟩ := hh2
  refine ⟨I2.kIn, ?_⟩
  rw [hks]
  exact run_makeKX Mm Fn (hr.mono hj) hb tk I2 r rz ll.1 ll.2 q2
theorem ge_makeK0 {g : List Value → List Value → List Value} {gV : List V → List V → List V} {gD : List D → List D → List D} {kws : List Keyword} (tk : Tk nn X W) (Mm : Mk X.K C fI) (Fn : FnX ⟨false, nn, false⟩ X.prog X.w X.K X.mg X.base k fI fd ps (spG X.K n G)) (hr : Room j X.A) (hj : k + 1 ≤ j)
    (hm : X.mg x = some (.ref C)) (hb : KBn X.K fd ps 1 ks g gV) (hgD : ∀ as F (ds zs : List D) (vs ws : List V) (s : V), RpL X.K as F ds vs → RpL X.K as F zs ws → ds.length = 0 → zs.length = ks.length → ∃ us, gV (s :: vs) ws = s :: us ∧ RpL X.K as F (gD ds zs) us) (hk : GK X W kws ek) (hg : Gl X x := by rfl)
    (hall : (backToKw pos (keywordEach kws X.env)).all (·.1.isSome) = true := by rfl) (hks : (backToKw pos (keywordEach kws X.env)).filterMap (·.1) = ks := by rfl) (hdb : (x == ("__debug__" : Str)) = false := by decide)
    (hpl : ((backTo pos (starEach [] X.env)).any (·.1) || (backToKw pos (keywordEach kws X.env)).any (·.1.isNone)) = false := by rfl) :
    GE X W (.Call (.Name x p) [] kws pos) (eMakeK l C n 0 ks.length G gD aNil ek) := by
  obtain ⟨u, pk, mk⟩ := hk
  refine ⟨tMakeKX C 0 ks.length (spG X.K n G) gV (WE W) tNil u, ⟨fun pins s σ H Q I h => ?_⟩, me_makeK hgD ma_nil mk⟩
  refine wpAny_Call_Name_kw (ld_glob I hg hm ?_ hdb)
  refine PySem.W.callWith_KW0 (h₀ := X.base) I.ok.mod.kin Mm.kp hall (thn (pk.run pos pins s σ H _ I h) fun ws s2 hh2 => ?_) hpl
  obtain ⟨zs, H2, I2, rz, ll, q2⟩ := hh2
  refine ⟨I2.kIn, ?_⟩
  rw [hks]
  exact run_makeKX (us := []) (vs := []) Mm Fn (hr.mono hj) hb tk I2 .nil rz ll.1 ll.2 q2
end
end
end RV
end
section
/-! Operations on data. -/
namespace RV
open PySem L2
section
variable {K : PySem.W.Frag} {as : List Addr} {F H : Hp} {S : WS}
/-- nothing new comes: the value itself -/
theorem keep {S : WS} {Q : VK} {d : D} {v : V} (I : Sit K as F H S) (q : ∀ F' H' v, Grow K as F H as F' H' S → Rp K as F' d v → Q v H') (r : Rp K as F d v) : Q v H := q F H v (Grow.refl I) r
theorem fresh {Q : VK} {o : HO} {d : D} (I : Sit K as F H S) (q : ∀ F' H' v, Grow K as F H as F' H' S → Rp K as F' d v → Q v H') (r : ∀ p, Rp K as (upd F p o) d (.ref p)) : ∀ p, H p = none → Q (.ref p) (upd H p o) := fun p hp => q _ _ _ (I.grow hp) (r p)
/-! ### numbers -/
def intD (f : Int → Int → Int) : WS → D → D → Option D := fun _ x y => match x, y with
  | .int i, .int j => some (.int (f i j))
  | _, _ => none
def cmpD (f : Int → Int → Bool) : WS → D → D → Option D := fun _ x y => match x, y with
  | .int i, .int j => some (.bl (f i j))
  | _, _ => none
theorem ro_int {f : Int → Int → Int} : RO K (rI0 fun i j => .int (f i j)) (intD f) := fun as F H S x y d vx vy I rx ry h Q q => by
  unfold intD at h
  split at h
  · cases h
    cases rx
    cases ry
    exact ⟨_, _, rfl, rfl, keep I q (.int _)⟩
  · cases h
theorem ro_cmp {f : Int → Int → Bool} : RO K (rI0 fun i j => .bl (f i j)) (cmpD f) := fun as F H S x y d vx vy I rx ry h Q q => by
  unfold cmpD at h
  split at h
  · cases h
    cases rx
    cases ry
    exact ⟨_, _, rfl, rfl, keep I q (.bl _)⟩
  · cases h
/-- under a condition that can be told -/
def intCD (c : Int → Int → Bool) (f : Int → Int → Int) : WS → D → D → Option D := fun _ x y => match x, y with
  | .int i, .int j => if c i j = true then some (.int (f i j)) else none
  | _, _ => none
theorem ro_intC {C : Int → Int → Prop} {c : Int → Int → Bool} {f : Int → Int → Int} (hc : ∀ i j, c i j = true → C i j) : RO K (rI C fun i j => .int (f i j)) (intCD c f) := fun as F H S x y d vx vy I rx ry h Q q => by
  unfold intCD at h
  split at h
  · split at h
    · rename_i hh
      cases h
      cases rx
      cases ry
      exact ⟨_, _, rfl, rfl, hc _ _ hh, keep I q (.int _)⟩
    · cases h
  · cases h
theorem RO.or {r r' : R2} {f g : WS → D → D → Option D} (h : RO K r f) (h' : RO K r' g) : RO K (fun x y H Q => r x y H Q ∨ r' x y H Q) (fun S x y => (f S x y).orElse fun _ => g S x y) := fun as F H S x y d vx vy I rx ry e Q q => by
  replace e : ((f S x y).orElse fun _ => g S x y) = some d := e
  cases h1 : f S x y with
  | some z =>
    rw [h1] at e
    have e' : z = d := by simpa using e
    subst e'
    exact .inl (h as F H S x y z vx vy I rx ry h1 Q q)
  | none =>
    rw [h1] at e
    exact .inr (h' as F H S x y d vx vy I rx ry (by simpa using e) Q q)
def mulOk (i j : Int) : Bool := decide ((-(2 ^ 64) < i ∧ i < 2 ^ 64) ∨ (-(2 ^ 64) < j ∧ j < 2 ^ 64))
def powOk (i j : Int) : Bool := decide (0 ≤ j ∧ j ≤ 1000000 ∧ i.natAbs < 2 ^ 64)
theorem mulOk_c {i j : Int} (h : mulOk i j = true) : CMul i j := by
  unfold mulOk at h
  simp only [decide_eq_true_eq] at h
  exact h
theorem powOk_c {i j : Int} (h : powOk i j = true) : CPow i j := by
  unfold powOk at h
  simp only [decide_eq_true_eq] at h
  exact h
def posR (_ j : Int) : Bool := decide (0 < j)
def divOk (_ j : Int) : Bool := decide (0 < j ∧ j < 1073741824)
/-! ### texts -/
def catS : WS → D → D → Option D := fun _ x y => match x, y with
  | .str a, .str b => if small (a.length + b.length) = true then some (.str (a ++ b)) else none
  | _, _ => none
theorem ro_catS : RO K (fun x y H Q => ∃ i j, x = .str i ∧ y = .str j ∧ i.length + j.length ≤ sizeLine ∧ Q (.str (i ++ j)) H) catS := fun as F H S x y d vx vy I rx ry h Q q => by
  unfold catS at h
  split at h
  · split at h
    · rename_i hh
      cases h
      cases rx
      cases ry
      exact ⟨_, _, rfl, rfl, small_le hh, keep I q (.str _)⟩
    · cases h
  · cases h
/-- lists together -/
def catL : WS → D → D → Option D := fun _ x y => match x, y with
  | .lst a, .lst b => if small (a.length + b.length) = true then some (.lst (a ++ b)) else none
  | _, _ => none
theorem ro_catL : RO K rCat catL := fun as F H S x y d vx vy I rx ry h Q q => by
  unfold catL at h
  split at h
  · split at h
    · rename_i hh
      cases h
      cases rx with
      | lst h1 r1 =>
        cases ry with
        | lst h2 r2 =>
          refine ⟨_, _, _, _, rfl, rfl, I.ex _ _ h1, I.ex _ _ h2, by rw [← r1.length, ← r2.length]; exact small_le hh, fun p hp => ?_⟩
          refine q _ _ _ (I.grow hp) (.lst upd_same ((r1.append r2).mono (Ex.new (I.out hp)) (Pre.refl _)))
    · cases h
  · cases h
/-! ### an item -/
def ixD : WS → D → D → Option D := fun S x y => match x, y with
  | .lst ds, .int i => atI ds i
  | .tup ds, .int i => atI ds i
  | .str s, .int i => if small s.length = true then (atI s.cps.toList i).map fun c => .str ⟨#[c]⟩ else none
  | .cell k, .int i => match S[k]? with
    | some (.lst ds) => atI ds i
    | _ => none
  | .scr ns, .int i => (atI ns i).map D.int
  | _, _ => none
theorem atI_map {ns : List Int} {i n : Int} (h : L2.atI ns i = some n) : L2.atI (ns.map V.int) i = some (V.int n) := by
  unfold L2.atI at h ⊢
  rw [List.length_map]
  cases h1 : ixN ns.length i with
  | none => rw [h1] at h; cases h
  | some j =>
    rw [h1] at h
    simp only [Option.bind_some] at h ⊢
    rw [List.getElem?_map, h]
    rfl
theorem RpL.atI {ds : List D} {vs : List V} (r : RpL K as F ds vs) {i : Int} {d : D} (h : L2.atI ds i = some d) : ∃ v, L2.atI vs i = some v ∧ Rp K as F d v := by
  unfold L2.atI at h ⊢
  rw [← r.length]
  cases h1 : ixN ds.length i with
  | none => rw [h1] at h; cases h
  | some j =>
    rw [h1] at h
    simp only [Option.bind_some] at h ⊢
    exact r.get h
theorem ro_ix : RO K (rIx K) ixD := fun as F H S x y d vx vy I rx ry h Q q => by
  unfold ixD at h
  split at h
  · cases ry
    cases rx with
    | lst h1 r1 =>
      obtain ⟨v, e, rv⟩ := r1.atI h
      exact .inl ⟨_, _, _, v, rfl, rfl, SqL.of (I.ex _ _ h1), e, keep I q rv⟩
  · cases ry
    cases rx with
    | tup h1 r1 =>
      obtain ⟨v, e, rv⟩ := r1.atI h
      exact .inr (.inl ⟨_, _, _, v, rfl, rfl, I.ex.sqT h1, e, keep I q rv⟩)
  · split at h
    · rename_i hh
      cases ry
      cases rx
      rename_i s i
      cases h1 : atI s.cps.toList i with
      | none => rw [h1] at h; cases h
      | some c =>
        rw [h1] at h
        cases h
        exact .inr (.inr ⟨_, _, c, rfl, rfl, small_le hh, h1, keep I q (.str _)⟩)
    · cases h
  · rename_i k i
    split at h
    · rename_i ds hS
      cases ry
      cases rx with
      | cell ha =>
        obtain ⟨z1, ob, z2, z3⟩ := I.cell k _ _ ha hS
        cases ob with
        | lst xs =>
          obtain ⟨v, e, rv⟩ := RpL.atI (K := K) (as := []) (F := F) z3 h
          exact .inl ⟨_, _, _, v, rfl, rfl, SqL.of z2, e, keep I q (rv.mono (Ex.refl _) pre_nil)⟩
        | _ => exact z3.elim
    · cases h
  · simp only [Option.map_eq_some_iff] at h
    obtain ⟨n, h1, rfl⟩ := h
    cases ry
    cases rx with
    | scr hs => exact .inl ⟨_, _, _, _, rfl, rfl, I.ex.sqL hs, atI_map h1, keep I q (.int n)⟩
  · cases h
/-! ### in -/
def flatD : D → Bool
  | .non => true
  | .bl _ => true
  | .int _ => true
  | .str _ => true
  | _ => false
def eqFl : D → D → Bool
  | .non, .non => true
  | .bl a, .bl b => a == b
  | .bl a, .int b => (if a then 1 else 0) == b
  | .int a, .bl b => a == (if b then 1 else 0)
  | .int a, .int b => a == b
  | .str a, .str b => a == b
  | _, _ => false
theorem flat_v {d : D} {v : V} (r : Rp K as F d v) (h : flatD d = true) : flatV v = true := by
  cases r <;> first | rfl | cases h
theorem flat_all : ∀ {ds : List D} {vs : List V}, RpL K as F ds vs → ds.all flatD = true → vs.all flatV = true
  | _, _, .nil, _ => rfl
  | _, _, .cons h r, e => by
    simp only [List.all_cons, Bool.and_eq_true] at e ⊢
    exact ⟨flat_v h e.1, flat_all r e.2⟩
theorem eqFl_v {d e : D} {v u : V} (r : Rp K as F d v) (s : Rp K as F e u) (hd : flatD d = true) (he : flatD e = true) : eqV v u = eqFl d e := by
  cases r <;> first | (cases hd; done) | (cases s <;> first | rfl | (cases he; done))
theorem any_v {x : D} {vx : V} (rx : Rp K as F x vx) (hx : flatD x = true) : ∀ {ds : List D} {vs : List V}, RpL K as F ds vs → ds.all flatD = true → inV vx vs = ds.any fun y => eqFl y x
  | _, _, .nil, _ => rfl
  | _, _, .cons h r, e => by
    simp only [List.all_cons, Bool.and_eq_true] at e
    have ih := any_v rx hx r e.2
    unfold inV at ih ⊢
    simp only [List.any_cons, ih, eqFl_v h rx e.1 hx]
def itemsD (S : WS) : D → Option (List D)
  | .lst ds => some ds
  | .tup ds => some ds
  | .scr ns => some (ns.map D.int)
  | .cell k => match S[k]? with
    | some (.lst ds) => some ds
    | _ => none
  | _ => none
theorem items_v {x : D} {v : V} {ds : List D} (I : Sit K as F H S) (r : Rp K as F x v) (h : itemsD S x = some ds) : ∃ a xs, v = .ref a ∧ (SqL K H a xs ∨ SqT K H a xs) ∧ RpL K as F ds xs := by
  cases x with
  | lst ds' =>
    cases h
    cases r with
    | lst h1 r1 => exact ⟨_, _, rfl, .inl (SqL.of (I.ex _ _ h1)), r1⟩
  | tup ds' =>
    cases h
    cases r with
    | tup h1 r1 => exact ⟨_, _, rfl, .inr (I.ex.sqT h1), r1⟩
  | scr ns =>
    cases h
    cases r with
    | scr h1 => exact ⟨_, _, rfl, .inl (I.ex.sqL h1), rpl_ints ns⟩
  | cell k =>
    unfold itemsD at h
    cases hS : S[k]? with
    | none => simp [hS] at h
    | some c =>
      cases c with
      | lst es =>
        simp only [hS] at h
        cases h
        cases r with
        | cell ha =>
          obtain ⟨z1, ob, z2, z3⟩ := I.cell k _ _ ha hS
          cases ob with
          | lst xs => exact ⟨_, _, rfl, .inl (SqL.of z2), RpL.mono (Ex.refl _) pre_nil z3⟩
          | _ => exact z3.elim
      | _ => simp [hS] at h
  | _ => cases h
def inD (neg : Bool) : WS → D → D → Option D := fun S x y => (itemsD S y).bind fun ds => if flatD x = true ∧ ds.all flatD = true then some (.bl (if neg then !ds.any (fun y => eqFl y x) else ds.any fun y => eqFl y x)) else none
theorem ro_in {neg : Bool} : RO K (rIn K neg) (inD neg) := fun as F H S x y d vx vy I rx ry h Q q => by
  unfold inD at h
  cases h1 : itemsD S y with
  | none => rw [h1] at h; cases h
  | some ds =>
    simp only [h1, Option.bind_some] at h
    split at h
    · rename_i hh
      cases h
      obtain ⟨a, xs, rfl, hs, r⟩ := items_v I ry h1
      refine ⟨a, xs, rfl, hs, flat_v rx hh.1, flat_all r hh.2, ?_⟩
      rw [any_v rx hh.1 r hh.2]
      exact keep I q (.bl _)
    · cases h
/-- one sign in a text -/
def inSD (neg : Bool) : WS → D → D → Option D := fun _ x y => match x, y with
  | .str s, .str z => match s.cps.toList with
    | [c] => some (.bl (if neg then !decide (c ∈ z.cps.toList) else decide (c ∈ z.cps.toList)))
    | _ => none
  | _, _ => none
theorem one_sign {s : Str} {c : Nat} (h : s.cps.toList = [c]) : s = ⟨#[c]⟩ := by
  obtain ⟨a⟩ := s
  have : a = #[c] := by
    apply Array.ext'
    simpa using h
  rw [this]
theorem ro_inS : RO K (fun x y H Q => ∃ (c : Nat) (z : Str), x = .str ⟨#[c]⟩ ∧ y = .str z ∧ Q (.bl (decide (c ∈ z.cps.toList))) H) (inSD false) := fun as F H S x y d vx vy I rx ry h Q q => by
  unfold inSD at h
  split at h
  · split at h
    · rename_i hc
      cases h
      cases rx
      cases ry
      rw [one_sign hc]
      exact ⟨_, _, rfl, rfl, keep I q (.bl _)⟩
    · cases h
  · cases h
theorem ro_notInS : RO K (fun x y H Q => ∃ (c : Nat) (z : Str), x = .str ⟨#[c]⟩ ∧ y = .str z ∧ Q (.bl (!decide (c ∈ z.cps.toList))) H) (inSD true) := fun as F H S x y d vx vy I rx ry h Q q => by
  unfold inSD at h
  split at h
  · split at h
    · rename_i hc
      cases h
      cases rx
      cases ry
      rw [one_sign hc]
      exact ⟨_, _, rfl, rfl, keep I q (.bl _)⟩
    · cases h
  · cases h
/-! ### == of data -/
mutual
def D.py : D → Option PyData
  | .non => some .none
  | .bl b => some (.bool b)
  | .int i => some (.int i)
  | .str s => some (.str s)
  | .tup ds => (D.pyL ds).map PyData.tuple
  | .lst ds => (D.pyL ds).map PyData.list
  | .ty _ | .adr _ | .cell _ | .scr _ | .obj _ _ | .dic _ | .exc _ _ | .exv _ _ _ _ => none
def D.pyL : List D → Option (List PyData)
  | [] => some []
  | d :: ds => (D.py d).bind fun a => (D.pyL ds).map fun b => a :: b
end
mutual
theorem Rp.dp (I : Ex F H) : ∀ {d : D} {v : V} {p : PyData}, Rp K as F d v → D.py d = some p → Dp K H v p
  | _, _, _, .non, h => by
    unfold D.py at h
    cases h
    exact .non
  | _, _, _, .bl b, h => by
    unfold D.py at h
    cases h
    exact .bl b
  | _, _, _, .int i, h => by
    unfold D.py at h
    cases h
    exact .int i
  | _, _, _, .str s, h => by
    unfold D.py at h
    cases h
    exact .str s
  | _, _, _, .ty n, h => by unfold D.py at h; cases h
  | _, _, _, .adr a, h => by unfold D.py at h; cases h
  | _, _, _, .cell _, h => by unfold D.py at h; cases h
  | _, _, _, .scr _, h => by unfold D.py at h; cases h
  | _, _, _, .obj _ _, h => by unfold D.py at h; cases h
  | _, _, _, .dic _ _, h => by unfold D.py at h; cases h
  | _, _, _, .tup h1 r, h => by
    unfold D.py at h
    simp only [Option.map_eq_some_iff] at h
    obtain ⟨ps, h2, rfl⟩ := h
    exact .tup (I.sqT h1) (RpL.dp I r h2)
  | _, _, _, .lst h1 r, h => by
    unfold D.py at h
    simp only [Option.map_eq_some_iff] at h
    obtain ⟨ps, h2, rfl⟩ := h
    exact .lst (SqL.of (I _ _ h1)) (RpL.dp I r h2)
theorem RpL.dp (I : Ex F H) : ∀ {ds : List D} {vs : List V} {ps : List PyData}, RpL K as F ds vs → D.pyL ds = some ps → DpAll K H vs ps
  | _, _, _, .nil, h => by
    unfold D.pyL at h
    cases h
    exact .nil
  | _, _, _, .cons hd r, h => by
    unfold D.pyL at h
    simp only [Option.bind_eq_some_iff, Option.map_eq_some_iff] at h
    obtain ⟨a, h1, b, h2, rfl⟩ := h
    exact .cons (Rp.dp I hd h1) (RpL.dp I r h2)
end
def eqPy (x y : D) : Option Bool := (D.py x).bind fun a => (D.py y).bind fun b => if SeqAt.shaped a = true ∧ SeqAt.shaped b = true then some (PyData.eqv a b) else none
theorem ro_eqD : RO K (rEqD K) (fun _ x y => (eqPy x y).map D.bl) := fun as F H S x y d vx vy I rx ry h Q q => by
  unfold eqPy at h
  simp only [Option.map_eq_some_iff, Option.bind_eq_some_iff] at h
  obtain ⟨c, ⟨a, h1, b, h2, h3⟩, rfl⟩ := h
  split at h3
  · rename_i hs
    cases h3
    exact ⟨a, b, rx.dp I.ex h1, ry.dp I.ex h2, hs.1, hs.2, keep I q (.bl _)⟩
  · cases h3
theorem ro_neD : RO K (rNeD K) (fun _ x y => (eqPy x y).map fun c => D.bl (!c)) := fun as F H S x y d vx vy I rx ry h Q q => by
  unfold eqPy at h
  simp only [Option.map_eq_some_iff, Option.bind_eq_some_iff] at h
  obtain ⟨c, ⟨a, h1, b, h2, h3⟩, rfl⟩ := h
  split at h3
  · rename_i hs
    cases h3
    exact ⟨a, b, rx.dp I.ex h1, ry.dp I.ex h2, hs.1, hs.2, keep I q (.bl _)⟩
  · cases h3
/-- two texts, two numbers, two bools -/
def eqScal : D → D → Option Bool
  | .str a, .str b => some (decide (a = b))
  | .int a, .int b => some (decide (a = b))
  | .bl a, .bl b => some (decide (a = b))
  | _, _ => none
theorem dec_of {α β : Type} [DecidableEq α] [DecidableEq β] {a b : α} {f : α → β} (hf : ∀ x y, f x = f y → x = y) : decide (f a = f b) = decide (a = b) := by
  by_cases h : a = b
  · subst h
    simp
  · rw [decide_eq_false h, decide_eq_false fun z => h (hf _ _ z)]
theorem ro_eqS : RO K rEq (fun _ x y => (eqScal x y).map D.bl) := fun as F H S x y d vx vy I rx ry h Q q => by
  replace h : (eqScal x y).map D.bl = some d := h
  unfold eqScal at h
  split at h
  · cases h
    cases rx
    cases ry
    refine ⟨rfl, ?_⟩
    rw [dec_of (f := V.str) fun x y e => by cases e; rfl]
    exact keep I q (.bl _)
  · cases h
    cases rx
    cases ry
    refine ⟨rfl, ?_⟩
    rw [dec_of (f := V.int) fun x y e => by cases e; rfl]
    exact keep I q (.bl _)
  · cases h
    cases rx
    cases ry
    refine ⟨rfl, ?_⟩
    rw [dec_of (f := V.bl) fun x y e => by cases e; rfl]
    exact keep I q (.bl _)
  · cases h
theorem ro_neS : RO K rNe (fun _ x y => (eqScal x y).map fun c => D.bl (!c)) := fun as F H S x y d vx vy I rx ry h Q q => by
  replace h : ((eqScal x y).map fun c => D.bl (!c)) = some d := h
  unfold eqScal at h
  split at h
  · cases h
    cases rx
    cases ry
    refine ⟨rfl, ?_⟩
    rw [dec_of (f := V.str) fun x y e => by cases e; rfl]
    exact keep I q (.bl _)
  · cases h
    cases rx
    cases ry
    refine ⟨rfl, ?_⟩
    rw [dec_of (f := V.int) fun x y e => by cases e; rfl]
    exact keep I q (.bl _)
  · cases h
    cases rx
    cases ry
    refine ⟨rfl, ?_⟩
    rw [dec_of (f := V.bl) fun x y e => by cases e; rfl]
    exact keep I q (.bl _)
  · cases h
/-! ### built-ins -/
def lenD : WS → List D → Option D := fun S xs => match xs with
  | [.str s] => if small s.length = true then some (.int (s.length : Nat)) else none
  | [x] => (itemsD S x).map fun ds => .int (ds.length : Nat)
  | _ => none
theorem rc_len : RC K (fun xs H Q => ∃ x n, xs = [x] ∧ LenV K x H n ∧ Q (.int n) H) lenD := fun as F H S ds d vs I r h Q q => by
  unfold lenD at h
  split at h
  · split at h
    · rename_i hh
      cases h
      obtain ⟨v, ws, rfl, rv, rn⟩ := r.unsn
      obtain rfl := rn.unnil
      cases rv
      exact ⟨_, _, rfl, ⟨small_le hh, rfl⟩, keep I q (.int _)⟩
    · cases h
  · simp only [Option.map_eq_some_iff] at h
    obtain ⟨es, h1, rfl⟩ := h
    obtain ⟨v, ws, rfl, rv, rn⟩ := r.unsn
    obtain rfl := rn.unnil
    obtain ⟨a, xs, rfl, hs, rl⟩ := items_v I rv h1
    refine ⟨_, es.length, rfl, ?_, keep I q (.int _)⟩
    rcases hs with hs | hs
    · exact .inl ⟨_, hs, rl.length⟩
    · exact .inr ⟨_, hs, rl.length⟩
  · cases h
def boolsD : List D → Option (List Bool)
  | [] => some []
  | .bl b :: r => (boolsD r).map fun t => b :: t
  | _ => none
theorem bools_v : ∀ {ds : List D} {vs : List V} {bs : List Bool}, RpL K as F ds vs → boolsD ds = some bs → vs = bs.map V.bl
  | _, _, bs, .nil, h => by
    unfold boolsD at h
    cases h
    rfl
  | _, _, bs, .cons (d := d) hd r, h => by
    cases hd with
    | bl b =>
      unfold boolsD at h
      simp only [Option.map_eq_some_iff] at h
      obtain ⟨t, h1, rfl⟩ := h
      rw [bools_v r h1]
      rfl
    | _ => cases h
def allD : WS → List D → Option D := fun _ xs => match xs with
  | [.lst ds] => (boolsD ds).map fun bs => .bl (bs.all id)
  | _ => none
def anyD : WS → List D → Option D := fun _ xs => match xs with
  | [.lst ds] => (boolsD ds).map fun bs => .bl (bs.any id)
  | _ => none
theorem rc_all : RC K (rAll K) allD := fun as F H S ds d vs I r h Q q => by
  unfold allD at h
  split at h
  · simp only [Option.map_eq_some_iff] at h
    obtain ⟨bs, h1, rfl⟩ := h
    obtain ⟨v, ws, rfl, rv, rn⟩ := r.unsn
    obtain rfl := rn.unnil
    cases rv with
    | lst h2 rl =>
      have e := bools_v rl h1
      subst e
      exact ⟨_, bs, rfl, SqL.of (I.ex _ _ h2), keep I q (.bl _)⟩
  · cases h
theorem rc_any : RC K (rAny K) anyD := fun as F H S ds d vs I r h Q q => by
  unfold anyD at h
  split at h
  · simp only [Option.map_eq_some_iff] at h
    obtain ⟨bs, h1, rfl⟩ := h
    obtain ⟨v, ws, rfl, rv, rn⟩ := r.unsn
    obtain rfl := rn.unnil
    cases rv with
    | lst h2 rl =>
      have e := bools_v rl h1
      subst e
      exact ⟨_, bs, rfl, SqL.of (I.ex _ _ h2), keep I q (.bl _)⟩
  · cases h
/-! ### slices -/
def RSl (K : PySem.W.Frag) (r : V → Option Int → Option Int → Hp → VK → Prop) (f : WS → D → Option Int → Option Int → Option D) : Prop := ∀ (as : List Addr) (F H : Hp) (S : WS) (x d : D) (vx : V) (lo hi : Option Int), Sit K as F H S → Rp K as F x vx → f S x lo hi = some d →
  ∀ Q : VK, (∀ F' H' v, Grow K as F H as F' H' S → Rp K as F' d v → Q v H') → r vx lo hi H Q
def slS : WS → D → Option Int → Option Int → Option D := fun _ x lo hi => match x with
  | .str z => if small z.length = true then some (.str (cutS z lo hi)) else none
  | _ => none
theorem rsl_str : RSl K rSlS slS := fun as F H S x d vx lo hi I rx h Q q => by
  unfold slS at h
  split at h
  · split at h
    · rename_i hh
      cases h
      cases rx
      exact ⟨_, rfl, small_le hh, keep I q (.str _)⟩
    · cases h
  · cases h
def cutD (ds : List D) (lo hi : Option Int) : List D := (ds.drop (HT.sIx ds.length 0 lo)).take (HT.sIx ds.length ds.length hi - HT.sIx ds.length 0 lo)
def slL : WS → D → Option Int → Option Int → Option D := fun S x lo hi => match x with
  | .lst ds => some (.lst (cutD ds lo hi))
  | _ => none
theorem rsl_lst : RSl K (rSlL K) slL := fun as F H S x d vx lo hi I rx h Q q => by
  unfold slL at h
  split at h
  · cases h
    cases rx with
    | lst h1 r1 =>
      refine ⟨_, _, rfl, SqL.of (I.ex _ _ h1), fun p hp => ?_⟩
      refine q _ _ _ (I.grow hp) (.lst upd_same ?_)
      unfold cutD cutV
      rw [r1.length]
      exact ((r1.drop _).take _).mono (Ex.new (I.out hp)) (Pre.refl _)
  · cases h
end
section
variable {X : Cx} {W : WX} {e : Expr} {pos : Pos} {ea : Env → M}
abbrev MO := WS → (Option Int → WS → Prop) → Xq → Prop
structure GO (X : Cx) (W : WX) (e : Option Expr) (m : Env → MO) : Prop where
  ex : ∃ t : TO, PO X e t ∧ ∀ (as : List Addr) (F H : Hp) (S : WS) (ρ : Env) (σ : L2.St), Sit X.K as F H S → RpE X.K as F ρ σ → ∀ q x, m ρ S q x →
    ∀ Q : Option Int → Hp → Prop, (∀ o S' bs F' H', q o S' → Grow X.K as F H bs F' H' S' → Q o H') → XQ X.K as F H x (WE W σ) → t σ H Q
def oNone : Env → MO := fun _ S q _ => q none S
def oSome (ea : Env → M) : Env → MO := fun ρ S q x => ea ρ S (fun d S1 => onI d fun i => q (some i) S1) x
theorem go_none : GO X W none oNone := ⟨_, po_none, fun as F H S ρ σ I R q x h Q hq _ => hq none S as F H h (Grow.refl I)⟩
theorem go_some (h : GE X W e ea) : GO X W (some e) (oSome ea) := by
  obtain ⟨t, p, m⟩ := h
  refine ⟨_, po_some p, fun as F H S ρ σ I R q x h Q hq hx => ?_⟩
  refine m as F H S ρ σ I R _ x h _ (fun d S1 bs F1 H1 v h1 g r => ?_) hx
  cases r with
  | int i => exact ⟨i, rfl, hq _ S1 bs F1 H1 h1 g⟩
  | _ => exact h1.elim
def eSl (f : WS → D → Option Int → Option Int → Option D) (ea : Env → M) (lo hi : Env → MO) : Env → M := fun ρ S q x => ea ρ S (fun u S1 => lo ρ S1 (fun l S2 => hi ρ S2 (fun h S3 => onS (f S3 u l h) fun d => q d S3) x) x) x
theorem ge_slice {lo hi : Option Expr} {p2 : Pos} {r : V → Option Int → Option Int → Hp → VK → Prop} {f : WS → D → Option Int → Option Int → Option D} {ml mh : Env → MO} (hr : SlR X r) (hf : RSl X.K r f) (he : GE X W e ea) (hl : GO X W lo ml) (hh : GO X W hi mh) : GE X W (.Subscript e (.Slice lo hi none p2) pos) (eSl f ea ml mh) := by
  obtain ⟨t, p, m⟩ := he
  obtain ⟨tl, pl, m1⟩ := hl
  obtain ⟨tu, pu, m2⟩ := hh
  refine ⟨_, pe_slice hr p pl pu, fun as F H S ρ σ I R q x h Q hq hx => ?_⟩
  refine m as F H S ρ σ I R _ x h _ (fun u S1 bs F1 H1 v h1 g1 r1 => ?_) hx
  refine m1 bs F1 H1 S1 ρ σ g1.sit (R.grow g1) _ x h1 _ (fun l S2 cs F2 H2 h2 g2 => ?_) (hx.step g1)
  have g12 := g1.trans g2
  refine m2 cs F2 H2 S2 ρ σ g2.sit (R.grow g12) _ x h2 _ (fun k S3 ls F3 H3 h3 g3 => ?_) (hx.step g12)
  obtain ⟨d, h4, h5⟩ := onS_ok h3
  exact hf ls F3 H3 S3 u d v l k g3.sit (RpE_aux (g2.trans g3) r1) h4 Q fun F4 H4 y g4 r4 => hq d S3 ls F4 H4 y h5 ((g12.trans g3).trans g4) r4
end
end RV
end
section
/-! Kinds (isinstance), truth, the texts of things (repr), own == and !=. -/
namespace RV
open PySem L2
variable {nn : Bool}
section
variable {K : PySem.W.Frag} {as : List Addr} {F H : Hp} {S : WS}
/-- what is asked of an own class so that its instances' kind is known -/
structure KindC (K : PySem.W.Frag) (C : Addr) : Prop where
  cl : Cls K C
  ha : PySem.W.findIn K (.ref C) "__class__" = some (some (.builtin "object.__class__"))
  hn : PySem.W.specialIn K (.builtin "object.__class__") "__get__" = some (some (.builtin "getset_descriptor.__get__"))
  tk : PySem.W.takesIn K (.builtin "object.__class__") = some true
  mro : PySem.W.mroIn K C (.type "object") = some true
/-- the kind of data -/
def kindD (own : Addr → Bool) : D → Option Value
  | .non => some (.type "NoneType")
  | .bl _ => some (.type "bool")
  | .int _ => some (.type "int")
  | .str _ => some (.type "str")
  | .tup _ => some (.type "tuple")
  | .lst _ => some (.type "list")
  | .dic _ => some (.type "dict")
  | .obj C _ => if own C = true then some (.ref C) else none
  | _ => none
theorem tyx_of {own : Addr → Bool} {d : D} {v : V} {t : Value} (ho : ∀ C, own C = true → KindC K C) (e : Ex F H) (r : Rp K as F d v) (h : kindD own d = some t) : TyX K H v t := by
  cases r with
  | non =>
    cases h
    exact .base .non
  | bl b =>
    cases h
    exact .base (.bl b)
  | int i =>
    cases h
    exact .base (.int i)
  | str s =>
    cases h
    exact .base (.str s)
  | tup h1 _ =>
    cases h
    rcases h1 with h1 | ⟨o, its, n, h1, h2, _⟩
    · rcases h1 with h1 | ⟨o, h1⟩
      · exact .base (.tup (e _ _ h1))
      · exact .fTuple (e _ _ h1)
    · exact .kTuple h1 h2
  | lst h1 _ =>
    cases h
    exact .base (.lst (e _ _ h1))
  | dic h1 _ =>
    cases h
    exact .base (.dK (e _ _ h1))
  | obj h1 _ =>
    unfold kindD at h
    simp only at h
    split at h
    · rename_i hc
      cases h
      have k := ho _ hc
      exact .base (.ins (e _ _ h1) k.cl k.ha k.hn k.tk k.mro)
    · cases h
  | _ => cases h
def clsD : D → Option Value
  | .ty n => some (.type n)
  | .adr a => some (.ref a)
  | _ => none
def isiD (own : Addr → Bool) (tab : Value → Value → Option Bool) : WS → List D → Option D := fun _ xs => match xs with
  | [x, c] => (kindD own x).bind fun t => (clsD c).bind fun u => (tab t u).map D.bl
  | _ => none
theorem rc_isi {own : Addr → Bool} {tab : Value → Value → Option Bool} (ho : ∀ C, own C = true → KindC K C) (ht : ∀ t u b, tab t u = some b → PySem.W.kitOne K t u = some b) : RC K (rIsi K) (isiD own tab) := fun as F H S ds d vs I r h Q q => by
  unfold isiD at h
  split at h
  · simp only [Option.bind_eq_some_iff, Option.map_eq_some_iff] at h
    obtain ⟨t, h1, u, h2, b, h3, rfl⟩ := h
    obtain ⟨v, ws, rfl, rv, rn⟩ := r.unsn
    obtain ⟨w, zs, rfl, rw', rn⟩ := rn.unsn
    obtain rfl := rn.unnil
    refine ⟨v, w, t, u, b, rfl, ?_, tyx_of ho I.ex rv h1, ht t u b h3, keep I q (.bl _)⟩
    cases rw' with
    | ty n =>
      cases h2
      exact .ty n
    | adr a =>
      cases h2
      exact .own a
    | _ => cases h2
  · cases h
/-! ### truth -/
def truD : WS → D → Option Bool := fun S x => match x with
  | .non => some false
  | .bl b => some b
  | .int i => some (i != 0)
  | .str s => if small s.length = true then some ((s.length : Int) != 0) else none
  | x => (itemsD S x).map fun ds => !ds.isEmpty
theorem rt_tru : RT K (fun x H Q => ∃ k, TruV K x H k ∧ Q k H) truD := fun as F H S x b vx I r h Q q => by
  have go : ∀ {ds : List D}, itemsD S x = some ds → (!ds.isEmpty) = b → ∃ k, TruV K vx H k ∧ Q k H := fun {ds} h1 e => by
    obtain ⟨a, xs, rfl, hs, rl⟩ := items_v I r h1
    refine ⟨b, ?_, q F H (Grow.refl I)⟩
    have e2 : (!xs.isEmpty) = b := by
      rw [← e]
      cases rl <;> rfl
    rcases hs with hs | hs
    · exact .inl ⟨_, hs, e2.symm⟩
    · exact .inr (.inl ⟨_, hs, e2.symm⟩)
  unfold truD at h
  split at h
  · cases h
    cases r
    exact ⟨false, rfl, q F H (Grow.refl I)⟩
  · cases h
    cases r
    exact ⟨b, rfl, q F H (Grow.refl I)⟩
  · cases h
    cases r
    exact ⟨_, rfl, q F H (Grow.refl I)⟩
  · split at h
    · rename_i hs
      cases h
      cases r
      exact ⟨_, ⟨small_le hs, rfl⟩, q F H (Grow.refl I)⟩
    · cases h
  · simp only [Option.map_eq_some_iff] at h
    obtain ⟨ds, h1, h2⟩ := h
    exact go h1 h2
theorem RT.or {r r' : V → Hp → (Bool → Hp → Prop) → Prop} {f g : WS → D → Option Bool} (h : RT K r f) (h' : RT K r' g) : RT K (fun x H Q => r x H Q ∨ r' x H Q) (fun S x => (f S x).orElse fun _ => g S x) := fun as F H S x b vx I rx e Q q => by
  replace e : ((f S x).orElse fun _ => g S x) = some b := e
  cases h1 : f S x with
  | some z =>
    rw [h1] at e
    have e' : z = b := by simpa using e
    subst e'
    exact .inl (h as F H S x z vx I rx h1 Q q)
  | none =>
    rw [h1] at e
    exact .inr (h' as F H S x b vx I rx (by simpa using e) Q q)
end
section
variable {X : Cx} {W : WX}
theorem truR_or {r r' : V → Hp → (Bool → Hp → Prop) → Prop} (h : TruR X r) (h' : TruR X r') : TruR X (fun x H Q => r x H Q ∨ r' x H Q) := fun pins s σ H x v Q I rx q => by
  rcases q with q | q
  · exact h pins s σ H x v Q I rx q
  · exact h' pins s σ H x v Q I rx q
/-- an instance of a class without __bool__ and __len__ -/
theorem tru_obj0 {C : Addr} (hb : PySem.W.findIn X.K (.ref C) "__bool__" = some none) (hl : PySem.W.findIn X.K (.ref C) "__len__" = some none) : TruR X (fun x H Q => ∃ a dx fs, x = .ref a ∧ H a = some (.ins C dx fs) ∧ Q true H) := fun pins s σ H x v Q I rx q => by
  obtain ⟨a, dx, fs, rfl, ha, q⟩ := q
  cases rx
  obtain ⟨mA, J, _⟩ := ins_get I.hok ha
  obtain ⟨od, J, _⟩ := J.look
  obtain ⟨m, hF⟩ := I.fr
  exact PySem.W.truthy_K0 hF I.ok.mod.kin J hb hl ⟨H, I, q⟩
def truObj (C : Addr) : WS → D → Option Bool := fun _ x => match x with
  | .obj C' _ => if C' = C then some true else none
  | _ => none
theorem rt_obj0 {K : PySem.W.Frag} {C : Addr} : RT K (fun x H Q => ∃ a dx fs, x = .ref a ∧ H a = some (.ins C dx fs) ∧ Q true H) (truObj C) := fun as F H S x b vx I rx e Q q => by
  unfold truObj at e
  split at e
  · split at e
    · rename_i hc
      cases e
      subst hc
      cases rx with
      | obj h1 _ => exact ⟨_, _, _, rfl, I.ex _ _ h1, q F H (Grow.refl I)⟩
    · cases e
  · cases e

/-! ### repr of a list or tuple of plain data -/
def rRepr (K : PySem.W.Frag) : List V → Hp → VK → Prop := fun xs H Q => ∃ x d, xs = [x] ∧ Dp K H x d ∧ d.showable = true ∧ d.hasDict = false ∧ d.depth ≤ 64 ∧ d.shown.length ≤ sizeLine ∧ Q (.str d.shown) H
theorem call_repr {k : Nat} (hg : X.A.guards = some []) (hr : Room k X.A) : CallR X (.builtin "repr") (rRepr X.K) := fun pins s σ H xs us Q I rv h => by
  obtain ⟨x, d, rfl, hd, hs, hnd, hde, hz, q⟩ := h
  obtain ⟨u, rfl, ru⟩ := vals1 rv
  have heap : ∀ p, x = .ref p → wpAny (model X.prog X.w) X.A (call (.builtin "repr") [u]) (EP X pins σ Q) X.xe s := fun p ex => by
    subst ex
    cases ru
    obtain ⟨as, rd⟩ := hd.reads I d _ _ rfl
    refine PySem.repr_of_reads' rd hs (fun z => by rw [hnd] at z; cases z) hg (by have := hr.un; omega) (fun b o e => e) (fun h' u tk hk => ?_) hz
    exact ⟨.str d.shown, H, I.kept hk, ⟨u, rfl⟩, q⟩
  cases hd with
  | lst _ _ => exact heap _ rfl
  | tup _ _ => exact heap _ rfl
  | non =>
    cases ru
    exact PySem.P.repr_of_none ⟨.str _, H, I.tok _, ⟨_, rfl⟩, q⟩
  | bl b =>
    cases ru
    exact PySem.P.repr_of_bool ⟨.str _, H, I.tok _, ⟨_, rfl⟩, q⟩
  | int i =>
    obtain ⟨t, rfl⟩ := ru
    exact PySem.P.repr_of_int (of_decide_eq_true (by simpa [PyData.showable] using hs)) ⟨.str _, H, I.tok _, ⟨_, rfl⟩, q⟩
  | str z =>
    obtain ⟨t, rfl⟩ := ru
    exact PySem.P.repr_of_str ⟨.str _, H, I.tok _, ⟨_, rfl⟩, q⟩ hz
def reprD : WS → List D → Option D := fun _ xs => match xs with
  | [x] => (D.py x).bind fun p => if p.showable = true ∧ p.hasDict = false ∧ p.depth ≤ 64 ∧ p.shown.length ≤ sizeLine then some (.str p.shown) else none
  | _ => none
theorem rc_repr {K : PySem.W.Frag} : RC K (rRepr K) reprD := fun as F H S ds d vs I r h Q q => by
  unfold reprD at h
  split at h
  · simp only [Option.bind_eq_some_iff] at h
    obtain ⟨p, h1, h2⟩ := h
    split at h2
    · rename_i hh
      cases h2
      obtain ⟨v, ws, rfl, rv, rn⟩ := r.unsn
      obtain rfl := rn.unnil
      exact ⟨_, p, rfl, rv.dp I.ex h1, hh.1, hh.2.1, hh.2.2.1, hh.2.2.2, keep I q (.str _)⟩
    · cases h2
  · cases h

/-! ### an operation that runs a def of the text's own -/
def ROM (K : PySem.W.Frag) (E : XK) (r : R2) (f : D → D → M) : Prop := ∀ (as : List Addr) (F H : Hp) (S : WS) (x y : D) (vx vy : V), Sit K as F H S → Rp K as F x vx → Rp K as F y vy → ∀ q z, f x y S q z →
  ∀ Q : VK, NQ K as F H q Q → XQ K as F H z E → r vx vy H Q
def eOpM (f : D → D → M) (ea eb : Env → M) : Env → M := fun ρ S q x => ea ρ S (fun u S1 => eb ρ S1 (fun v S2 => f u v S2 q x) x) x
/-- an operation whose reading knows the slots -/
def tOpS (r : L2.St → R2) (ta tb : TE) : TE := fun σ H Q => ta σ H fun x H1 => tb σ H1 fun y H2 => r σ x y H2 Q
theorem me_opM {K : PySem.W.Frag} {r : L2.St → R2} {f : D → D → M} {ta tb : TE} {ea eb : Env → M} (hr : ∀ σ, ROM K (WE W σ) (r σ) f) (ha : ME K W ta ea) (hb : ME K W tb eb) : ME K W (tOpS r ta tb) (eOpM f ea eb) := fun as F H S ρ σ I R q x h Q hq hx => by
  refine ha as F H S ρ σ I R _ x h _ (fun u S1 bs F1 H1 v1 h1 g1 r1 => ?_) hx
  refine hb bs F1 H1 S1 ρ σ g1.sit (R.grow g1) _ x h1 _ (fun w S2 cs F2 H2 v2 h2 g2 r2 => ?_) (hx.step g1)
  have g12 := g1.trans g2
  exact hr σ cs F2 H2 S2 u w v1 v2 g2.sit (RpE_aux g2 r1) r2 q x h2 Q (hq.step g12) (hx.step g12)
variable {a b : Expr} {pos : Pos} {ea eb : Env → M}
theorem ge_cmpM {op : CmpOp} {r : R2} {f : D → D → M} (ho : OpR X (compareOp op) r) (hr : ∀ σ, ROM X.K (WE W σ) r f) (ha : GE X W a ea) (hb : GE X W b eb) (hm : behindInMarks op b = false) : GE X W (.Compare a [op] [b] pos) (eOpM f ea eb) := by
  obtain ⟨ta, pa, ma⟩ := ha
  obtain ⟨tb, pb, mb⟩ := hb
  exact ⟨_, pe_cmpR ho pa pb hm, me_opM (r := fun _ => r) hr ma mb⟩
theorem gt_cmpM {op : CmpOp} {r : R2} {f : D → D → M} (ho : OpR X (compareOp op) r) (hr : ∀ σ, ROM X.K (WE W σ) r f) (ha : GE X W a ea) (hb : GE X W b eb) (hm : behindInMarks op b = false) : GT X W (.Compare a [op] [b] pos) (bBl (eOpM f ea eb)) := by
  obtain ⟨ta, pa, ma⟩ := ha
  obtain ⟨tb, pb, mb⟩ := hb
  exact ⟨_, pt_cmpR ho pa pb hm, mt_test (me_opM (r := fun _ => r) hr ma mb)⟩
/-! ### own == -/
def rEqOwn (K : PySem.W.Frag) (C : Addr) (sp : Sp) (neg : Bool) : R2 := fun x y H Q => ∃ a dx fs t, x = .ref a ∧ H a = some (.ins C dx fs) ∧ TyX K H y t ∧ PySem.W.notFirst K C t = true ∧ sp [x, y] H (fun v H' => ∃ c, v = .bl c ∧ Q (.bl (if neg then !c else c)) H') E0
theorem run_eqOwn {f : Addr} {fd : FuncData} {ps : List Str} {sp : Sp} {k : Nat} {A : Around} {pins : List (Addr × Obj)} {s : Shared} {σ : L2.St} {H : Hp} {y : V} {u : Value} {p : Addr} {R : VK} (Fn : FnX ⟨false, nn, false⟩ X.prog X.w X.K X.mg X.base k f fd ps sp) (hr : Room k A) (hfr : A.frames = X.A.frames) (hb : Binds X.K fd ps []) (I : Inv X pins σ H s) (ry : RelV y u)
    (h : sp [.ref p, y] H R E0) : wpAny (model X.prog X.w) A (call (.ref f) [.ref p, u]) (EP X pins σ R) X.xe s := by
  have e0 : Env0 X.prog X.w X.K X.mg X.base A X.stack s H := by
    have e := I.env0
    exact ⟨by rw [hfr]; exact e.frames, e.mod, e.bs, e.bsz, e.funs, e.frf, e.hok, e.bare⟩
  have r2 : Vals [V.ref p, y] [Value.ref p, u] := .cons rfl (.cons ry .nil)
  have hl : [Value.ref p, u].length = ps.length := r2.length.symm.trans (Fn.len _ _ _ _ h)
  refine wpAny_call (codeAny_mono (Fn.ok.run A X.stack s H ⟨[.ref p, u], []⟩ [.ref p, u] [.ref p, y] R E0 hr e0 (by
    have := hb s [.ref p, u] I.kIn (by simpa using hl)
    simpa using this) r2 h) fun r s' hq => ?_)
  cases r with
  | error e =>
    exact (cxm_no hq).elim
  | ok fl =>
    cases fl with
    | ret w => exact I.after hq
    | next => exact hq.elim
    | brk => exact hq.elim
    | cont => exact hq.elim
theorem op_eqOwn {C f : Addr} {fd : FuncData} {ps : List Str} {sp : Sp} {k j : Nat} (Fn : FnX ⟨false, nn, false⟩ X.prog X.w X.K X.mg X.base k f fd ps sp) (hr : Room j X.A) (hj : k ≤ j) (hs : PySem.W.findIn X.K (.ref C) "__eq__" = some (some (.ref f))) (hf : PySem.W.isFn X.K (.ref f) = true) (hb : Binds X.K fd ps []) :
    OpR X (compareOp .Eq) (rEqOwn X.K C sp false) := fun pins s σ H x y v u Q I rx ry q => by
  obtain ⟨p, dx, fs, t, rfl, ha, ty, hn, q⟩ := q
  cases rx
  obtain ⟨mA, J, _⟩ := ins_get I.hok ha
  obtain ⟨od, J, _⟩ := J.look
  obtain ⟨m, hF⟩ := I.fr
  obtain ⟨Pk, kx, hP, _⟩ := kit_of I ry ty
  show wpAny (model X.prog X.w) X.A (richCompare .Eq (.ref p) u) (EP X pins σ Q) X.xe s
  refine PySem.W.cmp_K (op := .Eq) hr.units0 hF I.ok.mod.kin J (kx.ty _ _ I.kIn hP) hn hs hf ?_
  refine thn (run_eqOwn Fn (hr.mono hj) rfl hb I ry q) fun w s' hw => ?_
  obtain ⟨z, H', I', rz, c, rfl, qc⟩ := hw
  cases rz
  exact ⟨.bl c, H', I', rfl, qc⟩
theorem ne_inst {prog : Program} {w : World} {A : Around} {E : Value → Shared → Prop} {s : Shared} {K : PySem.W.Frag} {x C L f : Addr} {h0 : Heap} {m : Str → Option Value} {ox : Obj} {od : Option Obj} {b tb : Value} {Q : Value → Shared → Prop} (hu : A.units + 1 < cLine)
    (F : PyProof.Rows.Fr h0 L s.heap m) (X0 : K.In h0) (I : PySem.W.InstAt s.heap x ox C od) (hb : PySem.W.Looks (model prog w) s.heap (typeOf b) tb) (hn : PySem.W.notFirst K C tb = true) (hne : PySem.W.findIn K (.ref C) "__ne__" = some (some (.builtin "object.__ne__")))
    (hs : PySem.W.findIn K (.ref C) "__eq__" = some (some (.ref f))) (hf : PySem.W.isFn K (.ref f) = true) (hm : PySem.W.mroIn K C (.type "object") = some true)
    (h : wpAny (model prog w) A.in1 (call (.ref f) [.ref x, b]) (fun v s' => ∃ r, v = .bool r ∧ Q (.bool (!r)) s') E s) : wpAny (model prog w) A (richCompare .NotEq (.ref x) b) Q E s := by
  have KX := X0.keeps F.keep
  -- object.__ne__ asks __eq__ and turns the answer round
  have body : wpAny (model prog w) A.in1 (Builtin.«object.__ne__» ⟨[.ref x, b], []⟩) (fun fin s' => ∃ r, fin = .done (.ret (.bool r)) ∧ Q (.bool r) s') E s := by
    unfold Builtin.«object.__ne__»
    refine wpAny_bind (m := slotArgs "__ne__" 1 _) (wpAny_pure ?_)
    refine wpAny_bind (wpAny_cRoomFor (by show A.units + 1 < cLine; exact hu) ?_)
    refine wpAny_bind (PySem.W.ifBound_K KX I hs hf (wpAny_mono h (fun v s' hv => ?_) fun _ _ e => e))
    obtain ⟨r, rfl, hq⟩ := hv
    refine wpAny_bind (m := truthy (.bool r)) (wpAny_pure ?_)
    exact wpAny_pure ⟨_, rfl, hq⟩
  have chk : ∀ {A' : Around} {E' : Value → Shared → Prop} {Q' : Unit → Shared → Prop}, Q' () s → wpAny (model prog w) A' (checkBuiltinCall "object.__ne__" ⟨[.ref x, b], []⟩) Q' E' s := fun {A' E' Q'} hq => by
    simp only [checkBuiltinCall, PySem.F.cmpKind_ne, PySem.F.cmpSplit_ne]
    refine wpAny_bind (wpAny_bind (I.type.here ((PySem.W.looks_mroIn KX hm).here ?_)))
    simp only [Bool.not_true, Bool.false_eq_true, if_false]
    have ha := PySem.F.cmpArgs_ne (.ref x) b
    cases hsig : Manifest.signature? "object.__ne__" with
    | none => exact wpAny_pure hq
    | some sig =>
      simp only [argsOk, hsig] at ha
      have h2 : Bind.checkArgs "object.__ne__" sig ⟨[.ref x, b], []⟩ = pure () := ha
      show wpAny (model prog w) A' (Bind.checkArgs "object.__ne__" sig ⟨[.ref x, b], []⟩) Q' E' s
      rw [h2]
      exact wpAny_pure hq
  have one : wpAny (model prog w) A (tryCompare (.ref x) "__ne__" b) (fun r s' => ∃ v, r = some v ∧ Q v s') E s := by
    unfold tryCompare
    refine wpAny_bind ?_
    simp only [callSpecialIfBound?, bindSpecialIfBound?]
    refine wpAny_holding (wpAny_bind (wpAny_bind (wpAny_bind (I.type.here ((PySem.W.looks_findIn KX hne).here ?_)))))
    refine wpAny_bind (wpAny_askSetting (wpAny_ite ?_))
    have fin : wpAny (model prog w) A (call (.builtin "object.__ne__") ([.ref x] ++ [b]) >>= fun v => pure (some v)) (fun r s' => wpAny (model prog w) A (match r with | some .notImplemented | none => pure none | some v => pure (some v)) (fun r s' => ∃ v, r = some v ∧ Q v s') E s') E s := by
      refine wpAny_bind (wpAny_call (codeAny_call_builtin PySem.F.cmp_object.ne.plain PySem.F.cmpEntry_ne (chk ?_)))
      refine wpAny_mono body (fun fin s' hf => ?_) fun _ _ e => e
      obtain ⟨r, rfl, hq⟩ := hf
      exact wpAny_pure (wpAny_pure ⟨_, rfl, hq⟩)
    simp only [PySem.F.cmp_object.ne.bind]
    split
    · exact wpAny_bind (wpAny_pure (wpAny_pure fin))
    · exact wpAny_tryCatch (wpAny_bind (wpAny_pure (wpAny_pure fin)))
  unfold richCompare
  simp only [PySem.oneThing_ref]
  refine wpAny_holding (wpAny_bind (wpAny_cRoomFor (by omega) ?_))
  refine wpAny_bind (I.type.here (wpAny_bind (hb.here ?_)))
  have done : wpAny (model prog w) A (tryCompare (.ref x) "__ne__" b) (fun r s' => ∃ v, r = some v ∧ Q v s') E s := one
  split
  · rename_i q
    have e : PySem.W.subIn K tb (.ref C) = some false := by
      rcases Bool.or_eq_true_iff.mp hn with e | e
      · rw [beq_iff_eq.mp e] at q
        simp at q
      · exact beq_iff_eq.mp e
    refine wpAny_bind ((PySem.W.looks_subIn KX e).here ?_)
    simp only [Bool.false_eq_true, if_false]
    refine wpAny_bind (wpAny_mono done (fun r s' z => ?_) fun _ _ e => e)
    obtain ⟨v, rfl, hq⟩ := z
    exact wpAny_pure hq
  · refine wpAny_bind (wpAny_pure ?_)
    simp only [Bool.false_eq_true, if_false]
    refine wpAny_bind (wpAny_mono done (fun r s' z => ?_) fun _ _ e => e)
    obtain ⟨v, rfl, hq⟩ := z
    exact wpAny_pure hq
theorem op_neOwn {C f : Addr} {fd : FuncData} {ps : List Str} {sp : Sp} {k j : Nat} (Fn : FnX ⟨false, nn, false⟩ X.prog X.w X.K X.mg X.base k f fd ps sp) (hr : Room j X.A) (hj : k + 1 ≤ j) (hs : PySem.W.findIn X.K (.ref C) "__eq__" = some (some (.ref f))) (hf : PySem.W.isFn X.K (.ref f) = true) (hb : Binds X.K fd ps [])
    (hne : PySem.W.findIn X.K (.ref C) "__ne__" = some (some (.builtin "object.__ne__"))) (hm : PySem.W.mroIn X.K C (.type "object") = some true) :
    OpR X (compareOp .NotEq) (rEqOwn X.K C sp true) := fun pins s σ H x y v u Q I rx ry q => by
  obtain ⟨p, dx, fs, t, rfl, ha, ty, hn, q⟩ := q
  cases rx
  obtain ⟨mA, J, _⟩ := ins_get I.hok ha
  obtain ⟨od, J, _⟩ := J.look
  obtain ⟨m, hF⟩ := I.fr
  obtain ⟨Pk, kx, hP, _⟩ := kit_of I ry ty
  show wpAny (model X.prog X.w) X.A (richCompare .NotEq (.ref p) u) (EP X pins σ Q) X.xe s
  refine ne_inst (by have := hr.un; omega) hF I.ok.mod.kin J (kx.ty _ _ I.kIn hP) hn hne hs hf hm ?_
  refine thn (run_eqOwn Fn (hr.mono hj).in1 rfl hb I ry q) fun w s' hw => ?_
  obtain ⟨z, H', I', rz, c, rfl, qc⟩ := hw
  cases rz
  exact ⟨c, rfl, .bl (!c), H', I', rfl, qc⟩
/-- x == y, x != y by the == of x's own class -/
def eqOwnD (C : Addr) (own : Addr → Bool) (G : List D → M) (neg : Bool) (nfK : Value → Bool) : D → D → M := fun x y S q _ => isOb C S x ∧ onS (kindD own y) fun t => nfK t = true ∧ G [x, y] S (fun d S' => onB d fun c => q (.bl (if neg then !c else c)) S') noX
theorem rom_eqOwn {K : PySem.W.Frag} {E : XK} {C : Addr} {own : Addr → Bool} {G : List D → M} {neg : Bool} {nfK : Value → Bool} (ho : ∀ C, own C = true → KindC K C) (hn : ∀ t, nfK t = true → PySem.W.notFirst K C t = true) : ROM K E (rEqOwn K C (spG K 2 G) neg) (eqOwnD C own G neg nfK) := fun as F H S x y vx vy I rx ry q z h Q hq _ => by
  obtain ⟨h1, h2⟩ := h
  obtain ⟨t, ht, hnf, hG⟩ := onS_ok h2
  obtain ⟨a, dx, vfs, rfl, ha⟩ := isOb_at I rx h1
  refine ⟨a, dx, vfs, t, rfl, ha, tyx_of ho I.ex ry ht, hn t hnf, as, F, S, [x, y], _, noX, I, .cons rx (.cons ry .nil), rfl, hG, fun d S' bs F' H' v h3 g r => ?_, XQ.no⟩
  cases r with
  | bl c => exact ⟨c, rfl, hq _ S' bs F' H' _ h3 g (.bl _)⟩
  | _ => exact h3.elim
end
end RV
end
section
/-! Stores; a chain of comparisons; numbers. -/
namespace RV
open PySem L2
section
variable {X : Cx} {W : WX} {a b c e o tg iter elt : Expr} {pos : Pos} {ea eb ec ee eo ei : Env → M} {er : Env → ML} {mc : Env → MB}
/-! ### several names at once -/
def sAsgG (f : D → Env → Option Env) (ea : Env → M) : Env → MS := fun ρ S k => ea ρ S (fun d S1 => onS (f d ρ) fun ρ' => k.nx ρ' S1) fun e S' => k.ex e ρ S'
theorem gs_asg {vs : List Nat} {f : D → Env → Option Env} (he : GE X W e ea) (hg : GG X tg vs f) (hs : swapsWithSole [tg] e pos.line X.env = pure false := by rfl) (hw : swappedStores [tg] e X.env = pure none := by rfl) (h1 : (assignEach [tg] X.env).map (·.2) = [assign tg X.env] := by rfl) : GS X W (.Assign [tg] e pos) (sAsgG f ea) := by
  obtain ⟨t, p, m⟩ := he
  obtain ⟨g, pg, mg⟩ := hg
  refine ⟨_, ps_asg p pg hs hw h1, fun as F H S ρ σ I R k h E q => ?_⟩
  refine m as F H S ρ σ I R _ _ h _ (fun d S1 bs F1 H1 v h1 g r => ?_) (q.xq R)
  obtain ⟨ρ', h2, h3⟩ := onS_ok h1
  exact mg bs F1 H1 S1 ρ σ d v ρ' g.sit (R.grow g) r h2 _ fun σ' _ R' => q.nx ρ' S1 bs F1 H1 σ' h3 g R'
def sPar2 (i j : Nat) (er : Env → ML) : Env → MS := fun ρ S k => er ρ S (fun ds S1 => on2 ds fun x y => k.nx ((ρ.set i (some x)).set j (some y)) S1) fun e S' => k.ex e ρ S'
theorem gs_par2 (i j : Nat) {x y : Str} {px py pt pt2 : Pos} {kt k2 : Nat} (hc : X.calm = true) (hN : X.N.Nodup) (ha : GA X W [a, b] er) (hi : X.N[i]? = some x := by rfl) (hj : X.N[j]? = some y := by rfl) (hij : i ≠ j := by decide)
    (hx : X.env.scope.names.lookup x = some .local := by rfl) (hy : X.env.scope.names.lookup y = some .local := by rfl)
    (hw : swappedStores [.Tuple [.Name x px, .Name y py] kt pt] (.Tuple [a, b] k2 pt2) X.env = pure (some [x, y]) := by rfl)
    (hs : swapsWithSole [.Tuple [.Name x px, .Name y py] kt pt] (.Tuple [a, b] k2 pt2) pos.line X.env = pure false := by rfl) :
    GS X W (.Assign [.Tuple [.Name x px, .Name y py] kt pt] (.Tuple [a, b] k2 pt2) pos) (sPar2 i j er) := by
  obtain ⟨t, p, m⟩ := ha
  refine ⟨_, ps_par hc hN hi hj hij hx hy p hw hs, fun as F H S ρ σ I R k h E q => ?_⟩
  refine m as F H S ρ σ I R _ _ h _ (fun ds S1 bs F1 H1 vs h1 g r => ?_) (q.xq R)
  obtain ⟨d1, d2, rfl, h1⟩ := on2_ok h1
  obtain ⟨v, ws, rfl, r1, rn⟩ := r.unsn
  obtain ⟨w, zs, rfl, r2, rn⟩ := rn.unsn
  obtain rfl := rn.unnil
  exact ⟨v, w, rfl, q.nx _ S1 bs F1 H1 _ h1 g (((R.grow g).set r1).set r2)⟩
def sPar3 (i j l : Nat) (er : Env → ML) : Env → MS := fun ρ S k => er ρ S (fun ds S1 => on3 ds fun x y z => k.nx (((ρ.set i (some x)).set j (some y)).set l (some z)) S1) fun e S' => k.ex e ρ S'
theorem gs_par3 (i j l : Nat) {x y z : Str} {px py pz pt pt2 : Pos} {kt k2 : Nat} (hc : X.calm = true) (hN : X.N.Nodup) (ha : GA X W [a, b, c] er) (hi : X.N[i]? = some x := by rfl) (hj : X.N[j]? = some y := by rfl) (hl : X.N[l]? = some z := by rfl) (hij : i ≠ j := by decide) (hil : i ≠ l := by decide) (hjl : j ≠ l := by decide)
    (hx : X.env.scope.names.lookup x = some .local := by rfl) (hy : X.env.scope.names.lookup y = some .local := by rfl) (hz : X.env.scope.names.lookup z = some .local := by rfl)
    (hw : swappedStores [.Tuple [.Name x px, .Name y py, .Name z pz] kt pt] (.Tuple [a, b, c] k2 pt2) X.env = pure (some [x, y, z]) := by rfl)
    (hs : swapsWithSole [.Tuple [.Name x px, .Name y py, .Name z pz] kt pt] (.Tuple [a, b, c] k2 pt2) pos.line X.env = pure false := by rfl) :
    GS X W (.Assign [.Tuple [.Name x px, .Name y py, .Name z pz] kt pt] (.Tuple [a, b, c] k2 pt2) pos) (sPar3 i j l er) := by
  obtain ⟨t, p, m⟩ := ha
  refine ⟨_, ps_par3 hc hN hi hj hl hij hil hjl hx hy hz p hw hs, fun as F H S ρ σ I R k h E q => ?_⟩
  refine m as F H S ρ σ I R _ _ h _ (fun ds S1 bs F1 H1 vs h1 g r => ?_) (q.xq R)
  obtain ⟨d1, d2, d3, rfl, h1⟩ := on3_ok h1
  obtain ⟨v, ws, rfl, r1, rn⟩ := r.unsn
  obtain ⟨w, zs, rfl, r2, rn⟩ := rn.unsn
  obtain ⟨w3, zs, rfl, r3, rn⟩ := rn.unsn
  obtain rfl := rn.unnil
  exact ⟨v, w, w3, rfl, q.nx _ S1 bs F1 H1 _ h1 g ((((R.grow g).set r1).set r2).set r3)⟩
/-- y = [e for ..] -/
theorem gs_setLc (i : Nat) {y : Str} {py spos : Pos} {scope : Scope} {own : List (Str × Nat)} {ifs : List Expr} {l : Lk} {mi : Env → MW} {us : List Nat} {f : D → Env → Option Env} (hc : X.calm = true) (hN : X.N.Nodup) (hi : GI X W tg iter mi) (ok : BlkOk X.N X.env.scope scope own)
    (hg : ∀ (s : Shared) (H : Hp) (C : Addr) (cl : List (Str × Addr)) (fp : List Addr), GG (X.blk s H scope (compEnvC scope cl C X.env) fp) tg us f)
    (ht : ∀ (s : Shared) (H : Hp) (C : Addr) (cl : List (Str × Addr)) (fp : List Addr), GTs (X.blk s H scope (compEnvC scope cl C X.env) fp) ifs mc)
    (he : ∀ (s : Shared) (H : Hp) (C : Addr) (cl : List (Str × Addr)) (fp : List Addr), GE (X.blk s H scope (compEnvC scope cl C X.env) fp) WF elt ee)
    (hsw : swapsWith (.ListComp elt [⟨tg, iter, ifs, 0⟩] scope pos) (some (.Name y py)) spos.line X.env = pure true)
    (hy : X.N[i]? = some y := by rfl) (hyl : X.env.scope.names.lookup y = some .local := by rfl)
    (hu : ∀ x ∈ us, x ∈ own.map (·.2) := by decide) (hs : ∀ (x : Value), foldedSetIterable iter X.env x = pure x := by intro _; rfl) :
    GS X W (.Assign [.Name y py] (.ListComp elt [⟨tg, iter, ifs, 0⟩] scope pos) spos) (sAsg i (eLc l mi f mc ee (own.map (·.2)))) := by
  obtain ⟨wi, pi, mi'⟩ := hi
  exact ⟨_, ps_setLc (own := own) hc hN hy hyl hsw pi ok (fun s H C cl fp => (hg s H C cl fp).canon) (fun s H C cl fp => (ht s H C cl fp).ex) (fun s H C cl fp => (he s H C cl fp).canon) hs, ms_asg (me_lc mi' hu)⟩
/-! ### o[i] = e, o a list that is a cell -/
def setIxD (o i d : D) (S : WS) : Option WS := match o, i with
  | .cell k, .int n => match S[k]? with
    | some (.lst ds) => if D.clean 0 d = true then (ixN ds.length n).map fun j => S.set k (.lst (ds.set j d)) else none
    | _ => none
  | _, _ => none
theorem setIx_ok {K : PySem.W.Frag} {as : List Addr} {F H : Hp} {S S' : WS} {o i d : D} {vo vi v : V} {Q : Hp → Prop} (I : Sit K as F H S) (ro : Rp K as F o vo) (ri : Rp K as F i vi) (rv : Rp K as F d v) (h : setIxD o i d S = some S') (q : ∀ H', Grow K as F H as F H' S' → Q H') : rSetL vo vi v H Q := by
  unfold setIxD at h
  split at h
  · rename_i k n
    split at h
    · rename_i ds hS
      split at h
      · rename_i hcl
        simp only [Option.map_eq_some_iff] at h
        obtain ⟨j, hj, rfl⟩ := h
        cases ri
        cases ro with
        | cell h0 =>
          obtain ⟨z1, ob, z2, z3⟩ := I.cell k _ _ h0 hS
          cases ob with
          | lst xs =>
            have z3' : RpL K [] F ds xs := z3
            have r1' : Rp K [] F d v := rv.back (n := 0) (fun k a hk => absurd hk (by omega)) hcl
            have g3 := I.put (c' := .lst (ds.set j d)) (o := .lst (xs.set j v)) h0 hS rfl rfl (RpL.set r1' j z3')
            exact ⟨_, xs, n, j, rfl, rfl, z2, by rw [← z3'.length]; exact hj, q _ g3⟩
          | _ => exact z3.elim
      · cases h
    · cases h
  · cases h
def sSetIx (eo ei ee : Env → M) : Env → MS := fun ρ S k => ee ρ S (fun d S1 => eo ρ S1 (fun o S2 => ei ρ S2 (fun i S3 => onS (setIxD o i d S3) fun S' => k.nx ρ S') fun e S' => k.ex e ρ S') fun e S' => k.ex e ρ S') fun e S' => k.ex e ρ S'
theorem gs_setIx {i : Expr} {tpos : Pos} (he : GE X W e ee) (ho : GE X W o eo) (hi : GE X W i ei) (hs : swapsWithSole [.Subscript o i tpos] e pos.line X.env = pure false := by rfl) (hw : swappedStores [.Subscript o i tpos] e X.env = pure none := by rfl) (h1 : (assignEach [.Subscript o i tpos] X.env).map (·.2) = [assign (.Subscript o i tpos) X.env] := by rfl)
    (ha : ∀ (v : Value), assign (.Subscript o i tpos) X.env v = (do
      let ov ← holding [v] (eval o X.env)
      let iv ← holding [v, ov] (eval i X.env)
      standAt tpos
      holding [v, ov, iv] (setItem ov iv v)
      release [v, ov, iv] []) := by intro _; rfl) : GS X W (.Assign [.Subscript o i tpos] e pos) (sSetIx eo ei ee) := by
  obtain ⟨t, p, m⟩ := he
  obtain ⟨to, po, mo⟩ := ho
  obtain ⟨ti, pi, mi⟩ := hi
  refine ⟨_, ps_asg p (pg_sub po pi set_list ha) hs hw h1, fun as F H S ρ σ I R k h E q => ?_⟩
  refine m as F H S ρ σ I R _ _ h _ (fun d S1 bs F1 H1 v1 h1 g1 r1 => ?_) (q.xq R)
  refine mo bs F1 H1 S1 ρ σ g1.sit (R.grow g1) _ _ h1 _ (fun o S2 cs F2 H2 v2 h2 g2 r2 => ?_) ((q.step g1).xq (R.grow g1))
  have g12 := g1.trans g2
  refine mi cs F2 H2 S2 ρ σ g2.sit (R.grow g12) _ _ h2 _ (fun i S3 ls F3 H3 v3 h3 g3 r3 => ?_) ((q.step g12).xq (R.grow g12))
  obtain ⟨S4, h4, h5⟩ := onS_ok h3
  refine setIx_ok g3.sit (RpE_aux g3 r2) r3 (RpE_aux g3 (RpE_aux g2 r1)) h4 fun H' g4 => ?_
  have g := (g12.trans g3).trans g4
  exact q.nx ρ S4 ls F3 H' σ h5 g (R.grow g)
/-- o[i], x = e, e a pair -/
def sPairSet (j : Nat) (eo ei ee : Env → M) : Env → MS := fun ρ S k => ee ρ S (fun d S1 => onTu d fun ds => on2 ds fun d1 d2 => eo ρ S1 (fun o S2 => ei ρ S2 (fun i S3 => onS (setIxD o i d1 S3) fun S' => k.nx (ρ.set j (some d2)) S') fun e S' => k.ex e ρ S') fun e S' => k.ex e ρ S') fun e S' => k.ex e ρ S'
theorem gs_pairSet (j : Nat) {i : Expr} {x : Str} {tpos px pt : Pos} {kt : Nat} (hc : X.calm = true) (hN : X.N.Nodup) (he : GE X W e ee) (ho : GE X W o eo) (hi : GE X W i ei) (hj : X.N[j]? = some x := by rfl) (hx : Loc X.env.scope x := by first | exact Or.inl rfl | exact Or.inr rfl) (hf : X.fn x = true ∨ X.env.scope.names.lookup x = some .local := by first | exact .inl rfl | exact .inr rfl | assumption)
    (hs : swapsWithSole [.Tuple [.Subscript o i tpos, .Name x px] kt pt] e pos.line X.env = pure false := by rfl) (hw : swappedStores [.Tuple [.Subscript o i tpos, .Name x px] kt pt] e X.env = pure none := by rfl)
    (h1 : (assignEach [.Tuple [.Subscript o i tpos, .Name x px] kt pt] X.env).map (·.2) = [assign (.Tuple [.Subscript o i tpos, .Name x px] kt pt) X.env] := by rfl)
    (ha : ∀ (v : Value), assign (.Subscript o i tpos) X.env v = (do
      let ov ← holding [v] (eval o X.env)
      let iv ← holding [v, ov] (eval i X.env)
      standAt tpos
      holding [v, ov, iv] (setItem ov iv v)
      release [v, ov, iv] []) := by intro _; rfl)
    (e1 : (assignEach [.Subscript o i tpos, .Name x px] X.env).map (·.2) = assign (.Subscript o i tpos) X.env :: (assignEach [.Name x px] X.env).map (·.2) := by rfl)
    (e2 : (assignEach [.Name x px] X.env).map (·.2) = assign (.Name x px) X.env :: (assignEach [] X.env).map (·.2) := by rfl)
    (e3 : (assignEach [.Subscript o i tpos, .Name x px] X.env).length = 2 := by rfl) (e4 : (assignEach [.Subscript o i tpos, .Name x px] X.env).findIdx? (·.1) = none := by rfl) :
    GS X W (.Assign [.Tuple [.Subscript o i tpos, .Name x px] kt pt] e pos) (sPairSet j eo ei ee) := by
  obtain ⟨t, p, m⟩ := he
  obtain ⟨to, po, mo⟩ := ho
  obtain ⟨ti, pi, mi⟩ := hi
  refine ⟨_, ps_asg p (pg_tup hc (pgs_cons (pg_sub po pi set_list ha) (pgs_cons (pg_name (i := j) hN hj hx hf) pgs_nil e2) e1) e3 e4) hs hw h1, fun as F H S ρ σ I R k h E q => ?_⟩
  refine m as F H S ρ σ I R _ _ h _ (fun d S1 bs F1 H1 v1 h1 g1 r1 => ?_) (q.xq R)
  obtain ⟨ds, rfl, h1⟩ := onTu_ok h1
  obtain ⟨d1, d2, rfl, h1⟩ := on2_ok h1
  · cases r1 with
    | tup hq rl =>
      obtain ⟨u1, ws, rfl, ru1, rn⟩ := rl.unsn
      obtain ⟨u2, zs, rfl, ru2, rn⟩ := rn.unsn
      obtain rfl := rn.unnil
      refine ⟨_, _, rfl, g1.sit.ex.sqT hq, rfl, u1, [u2], rfl, ?_⟩
      refine mo bs F1 H1 S1 ρ σ g1.sit (R.grow g1) _ _ h1 _ (fun o S2 cs F2 H2 v2 h2 g2 r2 => ?_) ((q.step g1).xq (R.grow g1))
      have g12 := g1.trans g2
      refine mi cs F2 H2 S2 ρ σ g2.sit (R.grow g12) _ _ h2 _ (fun i S3 ls F3 H3 v3 h3 g3 r3 => ?_) ((q.step g12).xq (R.grow g12))
      obtain ⟨S4, h4, h5⟩ := onS_ok h3
      refine setIx_ok g3.sit (RpE_aux g3 r2) r3 (RpE_aux g3 (RpE_aux g2 ru1)) h4 fun H' g4 => ?_
      have g := (g12.trans g3).trans g4
      exact ⟨u2, [], rfl, rfl, q.nx _ S4 ls F3 H' _ h5 g ((R.grow g).set (RpE_aux g3 (RpE_aux g2 ru2)))⟩
/-! ### a chain of two comparisons -/
theorem gt_chain {op op' : CmpOp} {r r' : R2} {f g : WS → D → D → Option D} (ho : OpR X (compareOp op) r) (ho' : OpR X (compareOp op') r') (hr : RO X.K r f) (hr' : RO X.K r' g) (ha : GE X W a ea) (hb : GE X W b eb) (hc : GE X W c ec) (hm : lastMarks [op, op'] [b, c] = false := by with_unfolding_all rfl) :
    GT X W (.Compare a [op, op'] [b, c] pos) (bChain f g ea eb ec) := by
  obtain ⟨ta, pa, ma⟩ := ha
  obtain ⟨tb, pb, mb⟩ := hb
  obtain ⟨tc, pc, mc⟩ := hc
  refine ⟨_, pt_chain ho ho' pa pb pc hm, fun as F H S ρ σ I R q x h Q hq hx => ?_⟩
  refine ma as F H S ρ σ I R _ x h _ (fun u S1 bs F1 H1 v1 h1 g1 r1 => ?_) hx
  refine mb bs F1 H1 S1 ρ σ g1.sit (R.grow g1) _ x h1 _ (fun w S2 cs F2 H2 v2 h2 g2 r2 => ?_) (hx.step g1)
  obtain ⟨d, hf, h3⟩ := onS_ok h2
  have g12 := g1.trans g2
  refine hr cs F2 H2 S2 u w d v1 v2 g2.sit (RpE_aux g2 r1) r2 hf _ fun F3 H3 v3 g3 r3 => ?_
  have g13 := g12.trans g3
  cases r3 with
  | bl c =>
    refine ⟨c, rfl, ?_⟩
    cases c with
    | true =>
      refine mc cs F3 H3 S2 ρ σ g3.sit (R.grow g13) _ x h3 _ (fun y S4 ls F4 H4 v4 h4 g4 r4 => ?_) (hx.step g13)
      obtain ⟨d', hg, h5⟩ := onS_ok h4
      refine hr' ls F4 H4 S4 w y d' v2 v4 g4.sit (RpE_aux g4 (RpE_aux g3 r2)) r4 hg _ fun F5 H5 v5 g5 r5 => ?_
      cases r5 with
      | bl c' => exact ⟨c', rfl, hq _ S4 ls F5 H5 h5 ((g13.trans g4).trans g5)⟩
      | _ => exact h5.elim
    | false => exact ⟨false, rfl, hq false S2 cs F3 H3 h3 g13⟩
  | _ => exact h3.elim
end
section
variable {K : PySem.W.Frag}
/-! ### built-ins on numbers -/
def absD : WS → List D → Option D := fun _ xs => match xs with
  | [.int i] => some (.int (if i < 0 then -i else i))
  | _ => none
theorem rc_abs : RC K (fun xs H Q => ∃ i, xs = [.int i] ∧ Q (.int (if i < 0 then -i else i)) H) absD := fun as F H S ds d vs I r h Q q => by
  unfold absD at h
  split at h
  · cases h
    obtain ⟨v, ws, rfl, rv, rn⟩ := r.unsn
    obtain rfl := rn.unnil
    cases rv
    exact ⟨_, rfl, keep I q (.int _)⟩
  · cases h
def intOfD : WS → List D → Option D := fun _ xs => match xs with
  | [.int i] => some (.int i)
  | _ => none
theorem rc_int1 : RC K (fun xs H Q => (∃ i, xs = [.int i] ∧ Q (.int i) H) ∨ ∃ k, xs = [.bl k] ∧ Q (.int (if k then 1 else 0)) H) intOfD := fun as F H S ds d vs I r h Q q => by
  unfold intOfD at h
  split at h
  · cases h
    obtain ⟨v, ws, rfl, rv, rn⟩ := r.unsn
    obtain rfl := rn.unnil
    cases rv
    exact .inl ⟨_, rfl, keep I q (.int _)⟩
  · cases h
def max2D : WS → List D → Option D := fun _ xs => match xs with
  | [.int i, .int j] => some (.int (if j > i then j else i))
  | _ => none
def min2D : WS → List D → Option D := fun _ xs => match xs with
  | [.int i, .int j] => some (.int (if j < i then j else i))
  | _ => none
theorem rc_max2 : RC K (fun xs H Q => ∃ i j, xs = [.int i, .int j] ∧ Q (.int (if j > i then j else i)) H) max2D := fun as F H S ds d vs I r h Q q => by
  unfold max2D at h
  split at h
  · cases h
    obtain ⟨v, ws, rfl, rv, rn⟩ := r.unsn
    obtain ⟨v2, ws, rfl, rv2, rn⟩ := rn.unsn
    obtain rfl := rn.unnil
    cases rv
    cases rv2
    exact ⟨_, _, rfl, keep I q (.int _)⟩
  · cases h
theorem rc_min2 : RC K (fun xs H Q => ∃ i j, xs = [.int i, .int j] ∧ Q (.int (if j < i then j else i)) H) min2D := fun as F H S ds d vs I r h Q q => by
  unfold min2D at h
  split at h
  · cases h
    obtain ⟨v, ws, rfl, rv, rn⟩ := r.unsn
    obtain ⟨v2, ws, rfl, rv2, rn⟩ := rn.unsn
    obtain rfl := rn.unnil
    cases rv
    cases rv2
    exact ⟨_, _, rfl, keep I q (.int _)⟩
  · cases h
def dmOk (j : Int) : Bool := decide (0 < j ∧ j.natAbs < 2 ^ 1000)
theorem dmOk_c {i j : Int} (h : dmOk j = true) : CDivP i j := by
  unfold dmOk at h
  simp only [decide_eq_true_eq] at h
  refine ⟨h.1, PyProof.noPylong_of_log2 ?_⟩
  have h2 : j.natAbs ≠ 0 := by omega
  have h3 : j.natAbs.log2 < 1000 := (Nat.log2_lt h2).mpr h.2
  omega
def divmodD : WS → List D → Option D := fun _ xs => match xs with
  | [.int i, .int j] => if dmOk j = true then some (.tup [.int (i / j), .int (i % j)]) else none
  | _ => none
theorem rc_divmod : RC K (fun xs H Q => ∃ i j, xs = [.int i, .int j] ∧ CDivP i j ∧ ∀ p, H p = none → Q (.ref p) (upd H p (.tup [.int (i / j), .int (i % j)]))) divmodD := fun as F H S ds d vs I r h Q q => by
  unfold divmodD at h
  split at h
  · split at h
    · rename_i hh
      cases h
      obtain ⟨v, ws, rfl, rv, rn⟩ := r.unsn
      obtain ⟨v2, ws, rfl, rv2, rn⟩ := rn.unsn
      obtain rfl := rn.unnil
      cases rv
      cases rv2
      exact ⟨_, _, rfl, dmOk_c hh, fun p hp => q _ _ _ (I.grow hp) (.tup (SqT.of upd_same) (.cons (.int _) (.cons (.int _) .nil)))⟩
    · cases h
  · cases h
end
end RV
end
section
/-! The law's own end. -/
namespace RV
open PySem L2
variable {nn : Bool}
/-- the law's def, called with the script -/
theorem script_run {P : Program} {w : World} {K : PySem.W.Frag} {mg mb : Str → Option Value} {k : Nat} {fa a : Addr} {fd : FuncData} {x : Str} {sp : Sp} {s1 : Shared} {vs : List Value} {ns : List Int}
    (KX : K.In s1.heap) (hns : s1.heap.Ns mainGlobals mg) (hb : s1.heap.Ns builtinsNs mb) (hbb : ∀ x : Str, x ≠ "__name__" → mb x = bootBuiltins x) (hlim : s1.heap.NoLimit) (hg : s1.gens = #[])
    (ha : s1.heap.get? a = some { cls := .type "list", data := .seq vs.toArray }) (hi : PyProof.Rows.IntsAre vs ns) (hl : ns.length ≤ sizeLine) (hr : Room k callerA)
    (F : ∀ base : Heap, K.In base → base.Ns mainGlobals mg → FnX ⟨true, nn, false⟩ P w K mg base k fa fd [x] sp) (hbind : ∀ (s : Shared) (u : Value), BindsTo s fd ⟨[u], []⟩ [(x, u)])
    (hsp : ∀ H : Hp, SqL K H a (ns.map V.int) → sp [.ref a] H (fun v _ => v = .bl true) fun _ _ _ => False) :
    codeAny (model P w) callerA (.call (.ref fa) ⟨[.ref a], []⟩) (fun r s' => r = .ok (.ret (.bool true)) ∧ OldK s1.heap s'.heap ∧ s'.os = s1.os ∧ PyProof.Rows.AllBare s'.gens) s1 := by
  have rv := vals_ints hi
  -- H tracks the script alone (or nothing), the script locked
  have core : ∀ H : Hp, (∀ c, H c = none ∨ ∃ o xs, H c = some (.frz o (.lst xs))) → SqL K H a (ns.map V.int) → HOk P w H s1.heap → (∀ c, H c ≠ none → c = a) → (H a ≠ none → K.lookup a = none) →
      codeAny (model P w) callerA (.call (.ref fa) ⟨[.ref a], []⟩) (fun r s' => r = .ok (.ret (.bool true)) ∧ OldK s1.heap s'.heap ∧ s'.os = s1.os ∧ PyProof.Rows.AllBare s'.gens) s1 := by
    intro H only hS hok alone hK
    have dictOut : ∀ {c : Addr} {o : Obj} {es : Array DictEntry} {ep : Nat}, s1.heap.get? c = some o → o.data = .dict es ep → H c = none := by
      intro c o es ep e d
      cases q : H c with
      | none => rfl
      | some u =>
        have e' : c = a := alone c (by rw [q]; simp)
        subst e'
        rw [ha] at e
        cases e
        exact absurd d (by intro z; cases z)
    have ns' : ∀ {c : Addr} {m : Str → Option Value}, s1.heap.Ns c m → (hidT s1.heap H).Ns c m := fun {c m} ⟨o, es, ep, e, d, r⟩ => ⟨o, es, ep, hidT_get e (dictOut e d), d, r⟩
    have KB : K.In (hidT s1.heap H) := by
      intro c o e
      refine hidT_get (KX c o e) ?_
      cases q : H c with
      | none => rfl
      | some u =>
        have e' : c = a := alone c (by rw [q]; simp)
        subst e'
        rw [hK (by rw [q]; simp)] at e
        cases e
    have md : Mod K mg (hidT s1.heap H) := by
      obtain ⟨mc, l1, l2⟩ := hlim
      exact ⟨KB, ns' hns, ⟨mb, ns' hb, hbb⟩, ⟨mc, ns' l1, l2⟩⟩
    have e0 : Env0 P w K mg (hidT s1.heap H) callerA [] s1 H := by
      refine ⟨rfl, md, fun c o e => of_hidT e, Nat.le_of_eq (hidT_size _ _), trivial, fun c hc => ?_, hok, .of_eq hg⟩
      exact absurd hc (by simp [frs])
    refine codeAny_mono ((F _ KB (ns' hns)).run callerA [] s1 H ⟨[.ref a], []⟩ [.ref a] [.ref a] _ _ (fun _ => rfl) hr e0 (hbind s1 (.ref a)) (.cons rfl .nil) (hsp H hS)) fun r s' h => ?_
    cases r with
    | error e =>
      exact (cxm_no h).elim
    | ok fl =>
      cases fl with
      | next => exact h.elim
      | brk => exact h.elim
      | cont => exact h.elim
      | ret u =>
        obtain ⟨v, H', os, bare, un, hok', r', q⟩ := h
        have q' : v = .bl true := q
        subst q'
        obtain rfl : u = Value.bool true := r'
        refine ⟨rfl, OldK.of_keep fun c o e => ?_, os, bare⟩
        rcases only c with z | ⟨ob, xs, z⟩
        · exact un.keep c o e z (by simp [frs]) (by simp)
        · obtain ⟨e1, _⟩ := hok c _ z
          obtain ⟨e2, _⟩ := hok' c _ (un.frzs c ob _ z)
          rw [e] at e1
          cases e1
          exact e2
  cases hk : K.lookup a with
  | some o =>
    have e := KX a o hk
    rw [ha] at e
    cases e
    refine core (fun _ => none) (fun _ => .inl rfl) ?_ (fun c u z => by cases z) (fun c z => absurd rfl z) fun z => absurd rfl z
    refine .inr ⟨_, vs.toArray, _, hk, rfl, rfl, rfl, ?_, by simpa using rv⟩
    rw [List.size_toArray, hi.length]
    exact hl
  | none =>
    let lock : HO := .frz { cls := .type "list", data := .seq vs.toArray } (.lst (ns.map V.int))
    have at1 : (fun c => if c = a then some lock else none : Hp) a = some lock := if_pos rfl
    refine core (fun c => if c = a then some lock else none) (fun c => ?_) (.inl (.inr ⟨_, at1⟩)) (fun c u z => ?_) (fun c z => ?_) fun _ => hk
    · by_cases hc : c = a
      · exact .inr ⟨_, _, if_pos hc⟩
      · exact .inl (if_neg hc)
    · by_cases hc : c = a
      · have z' : some lock = some u := (if_pos hc).symm.trans z
        cases z'
        subst hc
        exact ⟨ha, by rw [List.length_map]; exact hl, vs, _, rv, ha⟩
      · have z' : none = some u := (if_neg hc).symm.trans z
        cases z'
    · by_cases hc : c = a
      · exact hc
      · exact absurd (if_neg hc) z
/-- F gives the written part, the function object, what the law computes, over every base -/
theorem walk_G {l : PySem.W.OpenLaw} {n k : Nat} {q : Program} {loose : List Str} {XP : (Str → Option Value) → Heap → Prop} {YP : World → Heap → Prop} {d : DefRec} {x : Str}
    (hn : l.most = some n) (hn2 : n ≤ sizeLine) (hdf : d.params.defaults = []) (hr : Room k callerA)
    (F : ∀ (w : World) (mg : Str → Option Value) (fa : Addr) (h : Heap), YP w h → h.Ns mainGlobals mg → mg d.name = some (.ref fa) →
      ∃ (K : PySem.W.Frag) (fd : FuncData) (G : List D → M), K.In h ∧ (∀ (s : Shared) (u : Value), BindsTo s fd ⟨[u], []⟩ [(x, u)]) ∧
        (∀ (ns : List Int) (q : D → WS → Prop) (x : Xq), ns.length ≤ n → q (.bl true) [] → G [.scr ns] [] q x) ∧
        ∀ base : Heap, K.In base → base.Ns mainGlobals mg → FnX ⟨true, nn, false⟩ l.prog w K mg base k fa fd [x] (spG K 1 G)) :
    PySem.W.WalkO q loose XP YP l.row.toRowW d [] (fun f vs => PySem.call f vs) := by
  refine Att.attach_call hn hdf fun w s0 s1 mg mb fa o pm cd doc a vs ns Gr Y ho hd hcd hmg hobj hints hlen hg => ?_
  obtain ⟨K, fd, G, KX, hb, hG, hF⟩ := F w mg fa _ Y Gr.T.g hmg
  refine script_run KX Gr.T.g Gr.T.b Gr.T.builtins Gr.T.nolimit hg hobj hints (Nat.le_trans hlen hn2) hr hF hb fun H hS => ?_
  refine ⟨[], H, [], [.scr ns], fun d _ => d = .bl true, noX, ⟨rfl, Ex.refl _, List.nodup_nil, fun i p c h => by simp at h⟩, .cons (.scr hS) .nil, rfl, hG ns _ _ hlen rfl, fun d S' bs F' H' v e _ r => ?_, XQ.no⟩
  have e : d = .bl true := e
  subst e
  cases r
  rfl
end RV
end
section
/-! What a caller wants of a def, a class, a property; operations for all kinds at once. -/
namespace RV
open PySem L2
variable {nn : Bool}
section
variable (P : Program) (w : World) (K : PySem.W.Frag) (mg : Str → Option Value) (base : Heap)
/-- the module's name x is a def that computes G -/
def Fc (gd : Md) (x : Str) (k n : Nat) (G : List D → M) : Prop := ∃ (f : Addr) (fd : FuncData) (ps : List Str), FnX gd P w K mg base k f fd ps (spG K n G) ∧ Binds K fd ps [] ∧ PySem.W.keepIn K (.ref f) = true ∧ mg x = some (.ref f)
/-- the module's name x is the class at C; its __init__ computes G; dvs: the defaults that fill up -/
def Mc (nn : Bool) (x : Str) (C : Addr) (k n : Nat) (G : List D → M) (dvs : List D) : Prop := ∃ (f : Addr) (fd : FuncData) (ps : List Str) (dv : List V) (ds : List Value), Mk K C f ∧ FnX ⟨false, nn, false⟩ P w K mg base k f fd ps (spG K n G) ∧ Binds K fd ps ds ∧ Vals dv ds ∧ (∀ as F, RpL K as F dvs dv) ∧ mg x = some (.ref C)
/-- .. called with m1 values and keywords ks -/
def Mk_ (nn : Bool) (x : Str) (C : Addr) (k n m1 : Nat) (ks : List Str) (G : List D → M) (gD : List D → List D → List D) : Prop := ∃ (f : Addr) (fd : FuncData) (ps : List Str) (g : List Value → List Value → List Value) (gV : List V → List V → List V), Mk K C f ∧ FnX ⟨false, nn, false⟩ P w K mg base k f fd ps (spG K n G) ∧ KBn K fd ps (m1 + 1) ks g gV ∧
  (∀ as F (ds zs : List D) (vs ws : List V) (s : V), RpL K as F ds vs → RpL K as F zs ws → ds.length = m1 → zs.length = ks.length → ∃ us, gV (s :: vs) ws = s :: us ∧ RpL K as F (gD ds zs) us) ∧ mg x = some (.ref C)
/-- f is a property of the class at C that computes G -/
def Pc (nn : Bool) (C : Addr) (f : Str) (k : Nat) (G : List D → M) : Prop := ∃ (pr g : Addr) (fd : FuncData) (ps : List Str), Cls K C ∧ PropOf K C f pr g ∧ FnX ⟨false, nn, false⟩ P w K mg base k g fd ps (spG K 1 G) ∧ Binds K fd ps []
/-- the class at C has an own == that computes G -/
def Ec (nn : Bool) (C : Addr) (k : Nat) (G : List D → M) : Prop := ∃ (f : Addr) (fd : FuncData) (ps : List Str), FnX ⟨false, nn, false⟩ P w K mg base k f fd ps (spG K 2 G) ∧ Binds K fd ps [] ∧ PySem.W.findIn K (.ref C) "__eq__" = some (some (.ref f)) ∧ PySem.W.isFn K (.ref f) = true ∧ PySem.W.findIn K (.ref C) "__ne__" = some (some (.builtin "object.__ne__")) ∧ PySem.W.mroIn K C (.type "object") = some true
end
section
variable {X : Cx} {W : WX} {e o a b : Expr} {es : List Expr} {pos p : Pos} {er ek : Env → ML} {ea eb : Env → M} {x f : Str} {k j n : Nat} {G : List D → M} {C : Addr} {dvs : List D} {l : Lk} {gd : Md}
theorem ge_callF {g h : Bool} (tk : Tk nn X W) (c : Fc X.prog X.w X.K X.mg X.base ⟨g, nn, h⟩ x k n G) (hgd : g = true → X.A.guards = some []) (hr : Rx h j X) (ha : GA X W (e :: es) er) (hj : k ≤ j := by decide) (hg : Gl X x := by rfl) (hdb : (x == ("__debug__" : Str)) = false := by decide) (h1 : starEach (e :: es) X.env = (false, eval e X.env) :: starEach es X.env := by rfl) (h2 : (backTo pos (starEach es X.env)).any (·.1) = false := by rfl) :
    GE X W (.Call (.Name x p) (e :: es) [] pos) (eFn n G [] er) := by
  obtain ⟨f, fd, ps, F, hb, hk, hm⟩ := c
  exact ge_call (dv := []) tk F hgd hr hj hm hk hb .nil (fun _ _ => .nil) ha hg hdb h1 h2
theorem ge_callF0 {g h : Bool} (tk : Tk nn X W) (c : Fc X.prog X.w X.K X.mg X.base ⟨g, nn, h⟩ x k n G) (hgd : g = true → X.A.guards = some []) (hr : Rx h j X) (hj : k ≤ j := by decide) (hg : Gl X x := by rfl) (hdb : (x == ("__debug__" : Str)) = false := by decide) :
    GE X W (.Call (.Name x p) [] [] pos) (eFn n G [] aNil) := by
  obtain ⟨f, fd, ps, F, hb, hk, hm⟩ := c
  exact ge_call0 (dv := []) tk F hgd hr hj hm hk hb .nil (fun _ _ => .nil) hg hdb
theorem ge_makeF (tk : Tk nn X W) (c : Mc X.prog X.w X.K X.mg X.base nn x C k n G dvs) (hr : Room j X.A) (ha : GA X W (e :: es) er) (hj : k + 1 ≤ j := by decide) (hg : Gl X x := by rfl) (hdb : (x == ("__debug__" : Str)) = false := by decide) (h1 : starEach (e :: es) X.env = (false, eval e X.env) :: starEach es X.env := by rfl) (h2 : (backTo pos (starEach es X.env)).any (·.1) = false := by rfl) :
    GE X W (.Call (.Name x p) (e :: es) [] pos) (eMake l C n G dvs er) := by
  obtain ⟨f, fd, ps, dv, ds, M, F, hb, hd, hdv, hm⟩ := c
  exact ge_make tk M F hr hj hm hb hd hdv ha hg hdb h1 h2
theorem ge_makeF0 (tk : Tk nn X W) (c : Mc X.prog X.w X.K X.mg X.base nn x C k n G dvs) (hr : Room j X.A) (hj : k + 1 ≤ j := by decide) (hg : Gl X x := by rfl) (hdb : (x == ("__debug__" : Str)) = false := by decide) :
    GE X W (.Call (.Name x p) [] [] pos) (eMake l C n G dvs aNil) := by
  obtain ⟨f, fd, ps, dv, ds, M, F, hb, hd, hdv, hm⟩ := c
  exact ge_make0 tk M F hr hj hm hb hd hdv hg hdb
theorem ge_makeKF {m1 : Nat} {ks : List Str} {gD : List D → List D → List D} {kws : List Keyword} (tk : Tk nn X W) (c : Mk_ X.prog X.w X.K X.mg X.base nn x C k n m1 ks G gD) (hr : Room j X.A) (ha : GA X W (e :: es) er) (hk : GK X W kws ek) (hj : k + 1 ≤ j := by decide) (hg : Gl X x := by rfl)
    (hall : (backToKw pos (keywordEach kws X.env)).all (·.1.isSome) = true := by rfl) (hks : (backToKw pos (keywordEach kws X.env)).filterMap (·.1) = ks := by rfl) (hdb : (x == ("__debug__" : Str)) = false := by decide)
    (he : starEach (e :: es) X.env = (false, eval e X.env) :: starEach es X.env := by rfl) (hpl : ((backTo pos (starEach (e :: es) X.env)).any (·.1) || (backToKw pos (keywordEach kws X.env)).any (·.1.isNone)) = false := by rfl) :
    GE X W (.Call (.Name x p) (e :: es) kws pos) (eMakeK l C n m1 ks.length G gD er ek) := by
  obtain ⟨f, fd, ps, g, gV, M, F, hb, hgD, hm⟩ := c
  exact ge_makeK tk M F hr hj hm hb hgD ha hk hg hall hks hdb he hpl
theorem ge_makeKF0 {ks : List Str} {gD : List D → List D → List D} {kws : List Keyword} (tk : Tk nn X W) (c : Mk_ X.prog X.w X.K X.mg X.base nn x C k n 0 ks G gD) (hr : Room j X.A) (hk : GK X W kws ek) (hj : k + 1 ≤ j := by decide) (hg : Gl X x := by rfl)
    (hall : (backToKw pos (keywordEach kws X.env)).all (·.1.isSome) = true := by rfl) (hks : (backToKw pos (keywordEach kws X.env)).filterMap (·.1) = ks := by rfl) (hdb : (x == ("__debug__" : Str)) = false := by decide)
    (hpl : ((backTo pos (starEach [] X.env)).any (·.1) || (backToKw pos (keywordEach kws X.env)).any (·.1.isNone)) = false := by rfl) :
    GE X W (.Call (.Name x p) [] kws pos) (eMakeK l C n 0 ks.length G gD aNil ek) := by
  obtain ⟨f, fd, ps, g, gV, M, F, hb, hgD, hm⟩ := c
  exact ge_makeK0 tk M F hr hj hm hb hgD hk hg hall hks hdb hpl
theorem ge_propF (c : Pc X.prog X.w X.K X.mg X.base nn C f k G) (hr : Room j X.A) (ha : GE X W e ea) (hj : k + 1 ≤ j := by decide) (hab : attributeBase e f X.env (eval e X.env) = eval e X.env := by rfl) : GE X W (.Attribute e f pos) (eProp C G ea) := by
  obtain ⟨pr, g, fd, ps, cl, hp, F, hb⟩ := c
  exact ge_prop cl hp F hr hj hb ha hab
theorem op_eqF (c : Ec X.prog X.w X.K X.mg X.base nn C k G) (hr : Room j X.A) (hj : k ≤ j := by decide) : OpR X (compareOp .Eq) (rEqOwn X.K C (spG X.K 2 G) false) := by
  obtain ⟨f, fd, ps, F, hb, hs, hf, _, _⟩ := c
  exact op_eqOwn F hr hj hs hf hb
theorem op_neF (c : Ec X.prog X.w X.K X.mg X.base nn C k G) (hr : Room j X.A) (hj : k + 1 ≤ j := by decide) : OpR X (compareOp .NotEq) (rEqOwn X.K C (spG X.K 2 G) true) := by
  obtain ⟨f, fd, ps, F, hb, hs, hf, hne, hm⟩ := c
  exact op_neOwn F hr hj hs hf hb hne hm
end
/-! ### all kinds at once -/
section
variable {K : PySem.W.Frag} {X : Cx}
theorem RO.eq {r : R2} {f g : WS → D → D → Option D} (h : RO K r f) (e : ∀ S x y d, g S x y = some d → f S x y = some d) : RO K r g := fun as F H S x y d vx vy I rx ry hd => h as F H S x y d vx vy I rx ry (e S x y d hd)
def addD : WS → D → D → Option D := fun _ x y => match x, y with
  | .int i, .int j => some (.int (i + j))
  | .str a, .str b => if small (a.length + b.length) = true then some (.str (a ++ b)) else none
  | .lst a, .lst b => if small (a.length + b.length) = true then some (.lst (a ++ b)) else none
  | _, _ => none
def rAddS_ : R2 := fun x y H Q => ∃ i j, x = .str i ∧ y = .str j ∧ i.length + j.length ≤ sizeLine ∧ Q (.str (i ++ j)) H
def rAddA : R2 := fun x y H Q => (rI0 fun i j => .int (i + j)) x y H Q ∨ (rAddS_ x y H Q ∨ rCat x y H Q)
theorem op_addA : OpR X (binaryOp .Add) rAddA := OpR.or op_add (OpR.or op_add_str op_cat)
theorem ro_addA : RO K rAddA addD := RO.eq (RO.or (ro_int (f := fun i j => i + j)) (RO.or (r := rAddS_) ro_catS ro_catL)) fun S x y d h => by
  unfold addD at h
  split at h
  · simpa [intD] using h
  · simp only [intD, catS, Option.orElse] at h ⊢
    rw [h]
  · simpa [intD, catS, catL] using h
  · cases h
def mulD : WS → D → D → Option D := intCD mulOk fun i j => i * j
def powD : WS → D → D → Option D := intCD powOk fun i j => i ^ j.toNat
def modD : WS → D → D → Option D := intCD posR fun i j => i % j
def fdivD : WS → D → D → Option D := intCD divOk fun i j => i / j
def subD : WS → D → D → Option D := intD fun i j => i - j
theorem ro_mul : RO K (rI CMul fun i j => .int (i * j)) mulD := ro_intC fun _ _ h => mulOk_c h
theorem ro_pow : RO K (rI CPow fun i j => .int (i ^ j.toNat)) powD := ro_intC fun _ _ h => powOk_c h
theorem ro_mod : RO K (rI (fun _ j => 0 < j) fun i j => .int (i % j)) modD := ro_intC fun _ _ h => of_decide_eq_true h
theorem ro_fdiv : RO K (rI CDiv fun i j => .int (i / j)) fdivD := ro_intC fun i j h => by
  have h2 : 0 < j ∧ j < 1073741824 := of_decide_eq_true h
  exact h2
theorem ro_sub : RO K (rI0 fun i j => .int (i - j)) subD := ro_int
def ltD : WS → D → D → Option D := cmpD fun i j => decide (i < j)
def leD : WS → D → D → Option D := cmpD fun i j => decide (i ≤ j)
def gtD : WS → D → D → Option D := cmpD fun i j => decide (j < i)
def geD : WS → D → D → Option D := cmpD fun i j => decide (j ≤ i)
theorem ro_lt : RO K (rI0 fun i j => .bl (decide (i < j))) ltD := ro_cmp
theorem ro_le : RO K (rI0 fun i j => .bl (decide (i ≤ j))) leD := ro_cmp
theorem ro_gt : RO K (rI0 fun i j => .bl (decide (j < i))) gtD := ro_cmp
theorem ro_ge : RO K (rI0 fun i j => .bl (decide (j ≤ i))) geD := ro_cmp
def negD : WS → D → Option D := fun _ x => match x with
  | .int i => some (.int (-i))
  | _ => none
theorem ru_neg : RU K (rU fun i => .int (-i)) negD := fun as F H S x d vx I rx h Q q => by
  unfold negD at h
  split at h
  · cases h
    cases rx
    exact ⟨_, rfl, keep I q (.int _)⟩
  · cases h
/-- plain data; a cell that is a list counts as the list that it is now -/
def pyS (S : WS) : D → Option PyData
  | .cell k => match S[k]? with
    | some (.lst ds) => (D.pyL ds).map PyData.list
    | _ => none
  | d => D.py d
theorem pyS_dp {as : List Addr} {F H : Hp} {S : WS} {d : D} {v : V} {p : PyData} (I : Sit K as F H S) (r : Rp K as F d v) (h : pyS S d = some p) : Dp K H v p := by
  cases r with
  | cell ha =>
    rename_i k a
    unfold pyS at h
    split at h
    · rename_i k' e
      cases e
      split at h
      · rename_i ds hS
        simp only [Option.map_eq_some_iff] at h
        obtain ⟨ps, h2, rfl⟩ := h
        obtain ⟨_, o, z2, z3⟩ := I.cell _ _ _ ha hS
        cases o with
        | lst xs => exact .lst (SqL.of z2) (RpL.dp I.ex z3 h2)
        | _ => exact z3.elim
      · cases h
    · rename_i hne
      exact absurd rfl (hne _)
  | non => exact Rp.dp (as := as) I.ex .non h
  | bl b => exact Rp.dp (as := as) I.ex (.bl b) h
  | int i => exact Rp.dp (as := as) I.ex (.int i) h
  | str x => exact Rp.dp (as := as) I.ex (.str x) h
  | ty n => exact Rp.dp (as := as) I.ex (.ty n) h
  | adr a => exact Rp.dp (as := as) I.ex (.adr a) h
  | scr z => exact Rp.dp (as := as) I.ex (.scr z) h
  | tup z1 z2 => exact Rp.dp I.ex (.tup z1 z2) h
  | lst z1 z2 => exact Rp.dp I.ex (.lst z1 z2) h
  | obj z1 z2 => exact Rp.dp I.ex (.obj z1 z2) h
  | dic z1 z2 => exact Rp.dp I.ex (.dic z1 z2) h
  | exv z1 z2 => cases h
def eqPyS (S : WS) (x y : D) : Option Bool := (pyS S x).bind fun a => (pyS S y).bind fun b => if SeqAt.shaped a = true ∧ SeqAt.shaped b = true then some (PyData.eqv a b) else none
theorem ro_eqPyS : RO K (rEqD K) (fun S x y => (eqPyS S x y).map D.bl) := fun as F H S x y d vx vy I rx ry h Q q => by
  unfold eqPyS at h
  simp only [Option.map_eq_some_iff, Option.bind_eq_some_iff] at h
  obtain ⟨c, ⟨a, h1, b, h2, h3⟩, rfl⟩ := h
  split at h3
  · rename_i hs
    cases h3
    exact ⟨a, b, pyS_dp I rx h1, pyS_dp I ry h2, hs.1, hs.2, keep I q (.bl _)⟩
  · cases h3
theorem ro_nePyS : RO K (rNeD K) (fun S x y => (eqPyS S x y).map fun c => D.bl (!c)) := fun as F H S x y d vx vy I rx ry h Q q => by
  unfold eqPyS at h
  simp only [Option.map_eq_some_iff, Option.bind_eq_some_iff] at h
  obtain ⟨c, ⟨a, h1, b, h2, h3⟩, rfl⟩ := h
  split at h3
  · rename_i hs
    cases h3
    exact ⟨a, b, pyS_dp I rx h1, pyS_dp I ry h2, hs.1, hs.2, keep I q (.bl _)⟩
  · cases h3
/-! lists of different lengths -/
def lstOf (S : WS) : D → Option (List D)
  | .lst ds => some ds
  | .cell k => match S[k]? with
    | some (.lst ds) => some ds
    | _ => none
  | _ => none
def eqLen (S : WS) (x y : D) : Option Bool := (lstOf S x).bind fun a => (lstOf S y).bind fun b => if a.length = b.length then none else some false
def rLenE (K : PySem.W.Frag) (neg : Bool) : R2 := fun x y H Q => ∃ a b xs ys, x = .ref a ∧ y = .ref b ∧ SqL K H a xs ∧ SqL K H b ys ∧ xs.length ≠ ys.length ∧ Q (.bl neg) H
theorem plainL_is {h : Heap} {a : Addr} {its : Array Value} (p : PlainL h a its) : h.IsList a its := by
  obtain ⟨o, n, ho, hc, _, hd⟩ := p
  exact ⟨o, ho, hc, n, hd⟩
theorem op_eqLen (hu : X.A.units < cLine) : OpR X (compareOp .Eq) (rLenE X.K false) := fun pins s σ H x y v u Q I rx ry h => by
  obtain ⟨a, b, xs, ys, rfl, rfl, h1, h2, hn, q⟩ := h
  cases rx
  cases ry
  obtain ⟨is, r1, p1, _⟩ := I.list h1
  obtain ⟨js, r2, p2, _⟩ := I.list h2
  have e1 := r1.length
  have e2 := r2.length
  exact SeqAt.eq_list_lengthsAt (plainL_is p1) (plainL_is p2) (by simp only [List.size_toArray, bne_iff_ne]; omega) hu ⟨.bl _, H, I, rfl, q⟩
theorem op_neLen (hu : X.A.units < cLine) : OpR X (compareOp .NotEq) (rLenE X.K true) := fun pins s σ H x y v u Q I rx ry h => by
  obtain ⟨a, b, xs, ys, rfl, rfl, h1, h2, hn, q⟩ := h
  cases rx
  cases ry
  obtain ⟨is, r1, p1, _⟩ := I.list h1
  obtain ⟨js, r2, p2, _⟩ := I.list h2
  have e1 := r1.length
  have e2 := r2.length
  exact SeqAt.RcNeAt.lists_lengths (plainL_is p1) (plainL_is p2) (by simp only [List.size_toArray, bne_iff_ne]; omega) hu X.prog X.w X.xe _ ⟨.bl _, H, I, rfl, q⟩
theorem items_l0 {as : List Addr} {F H : Hp} {S : WS} {x : D} {v : V} {ds : List D} (I : Sit K as F H S) (r : Rp K as F x v) (h : lstOf S x = some ds) : ∃ a xs, v = .ref a ∧ SqL K H a xs ∧ RpL K as F ds xs := by
  cases r with
  | lst z1 z2 => cases h; exact ⟨_, _, rfl, SqL.of (I.ex _ _ z1), z2⟩
  | @cell k a hk =>
    simp only [lstOf] at h
    split at h
    · rename_i es e
      cases h
      obtain ⟨p, hp, c⟩ := I.at_ e
      rw [hk] at hp
      cases hp
      obtain ⟨o, ho, hc⟩ := c.at_
      cases o with
      | lst xs => exact ⟨a, xs, rfl, SqL.of ho, RpL.mono (Ex.refl _) (fun i a h => by simp at h) hc⟩
      | _ => exact hc.elim
    · cases h
  | _ => cases h
theorem ro_len {neg : Bool} : RO K (rLenE K neg) (fun S x y => (eqLen S x y).map fun c => D.bl (if neg then !c else c)) := fun as F H S x y d vx vy I rx ry h Q q => by
  simp only [eqLen, Option.map_eq_some_iff, Option.bind_eq_some_iff] at h
  obtain ⟨c, ⟨da, h1, db, h2, h3⟩, rfl⟩ := h
  split at h3
  · cases h3
  · rename_i hn
    cases h3
    obtain ⟨a, xs, rfl, s1, r1⟩ := items_l0 I rx h1
    obtain ⟨b, ys, rfl, s2, r2⟩ := items_l0 I ry h2
    refine ⟨a, b, xs, ys, rfl, rfl, s1, s2, by rw [← r1.length, ← r2.length]; exact hn, ?_⟩
    cases neg
    · exact keep I q (.bl _)
    · exact keep I q (.bl _)
/-- texts, numbers, bools; else plain data; else lists of different lengths -/
def eqAny (S : WS) (x y : D) : Option Bool := (eqScal x y).orElse fun _ => (eqPyS S x y).orElse fun _ => eqLen S x y
def eqD : WS → D → D → Option D := fun S x y => (eqAny S x y).map D.bl
def neD : WS → D → D → Option D := fun S x y => (eqAny S x y).map fun c => D.bl (!c)
def rEqA (K : PySem.W.Frag) : R2 := fun x y H Q => rEq x y H Q ∨ (rEqD K x y H Q ∨ rLenE K false x y H Q)
def rNeA (K : PySem.W.Frag) : R2 := fun x y H Q => rNe x y H Q ∨ (rNeD K x y H Q ∨ rLenE K true x y H Q)
theorem ro_eqA : RO K (rEqA K) eqD := RO.eq (RO.or ro_eqS (RO.or ro_eqPyS (ro_len (neg := false)))) fun S x y d h => by
  unfold eqD eqAny at h
  cases h1 : eqScal x y with
  | none =>
    cases h2 : eqPyS S x y with
    | none => simpa [h1, h2] using h
    | some c => simpa [h1, h2] using h
  | some c => simpa [h1] using h
theorem ro_neA : RO K (rNeA K) neD := RO.eq (RO.or ro_neS (RO.or ro_nePyS (ro_len (neg := true)))) fun S x y d h => by
  unfold neD eqAny at h
  cases h1 : eqScal x y with
  | none =>
    cases h2 : eqPyS S x y with
    | none => simpa [h1, h2] using h
    | some c => simpa [h1, h2] using h
  | some c => simpa [h1] using h
theorem op_eqA {j : Nat} (hr : Room j X.A) : OpR X (compareOp .Eq) (rEqA X.K) := OpR.or op_eq (OpR.or (op_eqD hr.units) (op_eqLen (by have := hr.units; omega)))
theorem op_neA {j : Nat} (hr : Room j X.A) : OpR X (compareOp .NotEq) (rNeA X.K) := OpR.or op_ne (OpR.or (op_neD hr.units) (op_neLen (by have := hr.units; omega)))
theorem RSl.or {r r' : V → Option Int → Option Int → Hp → VK → Prop} {f g : WS → D → Option Int → Option Int → Option D} (h : RSl K r f) (h' : RSl K r' g) : RSl K (fun x lo hi H Q => r x lo hi H Q ∨ r' x lo hi H Q) (fun S x lo hi => (f S x lo hi).orElse fun _ => g S x lo hi) := fun as F H S x d vx lo hi I rx e Q q => by
  replace e : ((f S x lo hi).orElse fun _ => g S x lo hi) = some d := e
  cases h1 : f S x lo hi with
  | some z =>
    rw [h1] at e
    have e' : z = d := by simpa using e
    subst e'
    exact .inl (h as F H S x z vx lo hi I rx h1 Q q)
  | none =>
    rw [h1] at e
    exact .inr (h' as F H S x d vx lo hi I rx (by simpa using e) Q q)
def slD : WS → D → Option Int → Option Int → Option D := fun _ x lo hi => match x with
  | .str z => if small z.length = true then some (.str (cutS z lo hi)) else none
  | .lst ds => some (.lst (cutD ds lo hi))
  | _ => none
def rSlA (K : PySem.W.Frag) : V → Option Int → Option Int → Hp → VK → Prop := fun x lo hi H Q => rSlS x lo hi H Q ∨ rSlL K x lo hi H Q
theorem sl_A : SlR X (rSlA X.K) := SlR.or sl_str sl_list
theorem rsl_A : RSl K (rSlA K) slD := fun as F H S x d vx lo hi I rx h => (RSl.or rsl_str rsl_lst) as F H S x d vx lo hi I rx (by
  unfold slD at h
  split at h
  · simp only [slS, Option.orElse] at h ⊢
    rw [h]
  · simpa [slS, slL] using h
  · cases h)
end
end RV
end
section
/-! append, tuple(..), list(..), enumerate. -/
namespace RV
open PySem L2
section
variable {K : PySem.W.Frag} {X : Cx} {W : WX} {o e : Expr} {pos apos cpos : Pos} {eo ee ea : Env → M}
/-- what is never come to -/
def eNever : Env → M := fun _ _ _ _ => False
theorem ge_never {e : Expr} : GE X W e eNever := ⟨fun _ _ _ => False, ⟨fun _ _ _ _ _ _ h => h.elim⟩, fun _ _ _ _ _ _ _ _ _ _ e => e.elim⟩
def tupleD : WS → List D → Option D := fun S xs => match xs with
  | [.tup ds] => some (.tup ds)
  | [x] => (itemsD S x).map D.tup
  | _ => none
theorem items_l {as : List Addr} {F H : Hp} {S : WS} {x : D} {v : V} {ds : List D} (I : Sit K as F H S) (r : Rp K as F x v) (h : itemsD S x = some ds) (hn : ∀ ys, x ≠ .tup ys) : ∃ a xs, v = .ref a ∧ SqL K H a xs ∧ RpL K as F ds xs := by
  cases x with
  | lst ds' =>
    cases h
    cases r with
    | lst h1 r1 => exact ⟨_, _, rfl, SqL.of (I.ex _ _ h1), r1⟩
  | tup ds' => exact absurd rfl (hn _)
  | scr ns =>
    cases h
    cases r with
    | scr h1 => exact ⟨_, _, rfl, I.ex.sqL h1, rpl_ints ns⟩
  | cell k =>
    unfold itemsD at h
    cases hS : S[k]? with
    | none => simp [hS] at h
    | some c =>
      cases c with
      | lst es =>
        simp only [hS] at h
        cases h
        cases r with
        | cell ha =>
          obtain ⟨z1, ob, z2, z3⟩ := I.cell k _ _ ha hS
          cases ob with
          | lst xs => exact ⟨_, _, rfl, SqL.of z2, RpL.mono (Ex.refl _) pre_nil z3⟩
          | _ => exact z3.elim
      | _ => simp [hS] at h
  | _ => cases h
/-- a kept list of a cell's items, a tuple of a list's -/
theorem rc_tuple : RC K (fun xs H Q => ∃ p ys, xs = [.ref p] ∧ ((SqL K H p ys ∧ ∀ l, H l = none → Q (.ref l) (upd H l (.tup ys))) ∨ (SqT K H p ys ∧ Q (.ref p) H))) tupleD := fun as F H S ds d vs I r h Q q => by
  unfold tupleD at h
  split at h
  · cases h
    obtain ⟨v, ws, rfl, rv, rn⟩ := r.unsn
    obtain rfl := rn.unnil
    cases rv with
    | tup h1 r1 => exact ⟨_, _, rfl, .inr ⟨I.ex.sqT h1, q F H _ (Grow.refl I) (.tup h1 r1)⟩⟩
  · rename_i x hx
    obtain ⟨v, ws, rfl, rv, rn⟩ := r.unsn
    obtain rfl := rn.unnil
    simp only [Option.map_eq_some_iff] at h
    obtain ⟨es, h1, rfl⟩ := h
    obtain ⟨a, xs, rfl, sq, re⟩ := items_l I rv h1 fun ys e => hx ys e
    refine ⟨a, xs, rfl, .inl ⟨sq, fun l hl => ?_⟩⟩
    have g := I.grow (o := .tup xs) hl
    exact q _ _ _ g (.tup (SqT.of upd_same) (re.mono g.ex g.pre))
  · cases h
def listD : WS → List D → Option D := fun S xs => match xs with
  | [x] => (itemsD S x).map D.lst
  | _ => none
theorem rc_list : RC K (fun xs H Q => ∃ p ys, xs = [.ref p] ∧ (SqL K H p ys ∨ SqT K H p ys) ∧ ∀ l, H l = none → Q (.ref l) (upd H l (.lst ys))) listD := fun as F H S ds d vs I r h Q q => by
  unfold listD at h
  split at h
  · rename_i x
    obtain ⟨v, ws, rfl, rv, rn⟩ := r.unsn
    obtain rfl := rn.unnil
    simp only [Option.map_eq_some_iff] at h
    obtain ⟨es, h1, rfl⟩ := h
    obtain ⟨a, xs, rfl, sq, re⟩ := items_v I rv h1
    refine ⟨a, xs, rfl, sq, fun l hl => ?_⟩
    have g := I.grow (o := .lst xs) hl
    exact q _ _ _ g (.lst upd_same (re.mono g.ex g.pre))
  · cases h
/-! ### append -/
/-- the cell's list -/
def onL (S : WS) (k : Nat) (f : List D → Prop) : Prop := onS S[k]? fun c => onLst c f
theorem onL_ok {S : WS} {k : Nat} {f : List D → Prop} (h : onL S k f) : ∃ ds, S[k]? = some (.lst ds) ∧ f ds := by
  obtain ⟨c, h1, h2⟩ := onS_ok h
  obtain ⟨ds, rfl, h2⟩ := onLst_ok h2
  exact ⟨ds, h1, h2⟩
def sAppend (eo ee : Env → M) : Env → MS := fun ρ S k => eo ρ S (fun o S1 => onCe o fun i => onL S1 i fun _ => ee ρ S1 (fun d S2 => onL S2 i fun ds => (D.clean 0 d = true ∧ small ds.length = true) ∧ k.nx ρ (S2.set i (.lst (ds ++ [d])))) fun e S' => k.ex e ρ S') fun e S' => k.ex e ρ S'
theorem tyV_lst {H : Hp} {p : Addr} {xs : List V} (h : H p = some (.lst xs)) : tyV K "list" (.ref p) H := .inl ⟨rfl, xs, SqL.of h⟩
theorem gs_append (ho : GE X W o eo) (he : GE X W e ee) (hs0 : swapsWith (.Call (.Attribute o "append" apos) [e] [] cpos) none pos.line X.env = pure false := by rfl) (hbase : attributeBase o "append" X.env (eval o X.env) = eval o X.env := by rfl)
    (hfew : ((backTo cpos (starEach [e] X.env)).all (fun x => !x.1) && (backToKw cpos (keywordEach [] X.env)).all (fun x => x.1.isSome)
      && decide (([e] : List Expr).length + ([] : List Keyword).length + (if ([] : List Keyword).isEmpty then 0 else 1) < 30)) = true := by rfl)
    (hline : (apos.endLine == cpos.line) = true := by rfl) (hs : starEach [e] X.env = (false, eval e X.env) :: starEach [] X.env := by rfl) (hplain : (backTo cpos (starEach [] X.env)).any (·.1) = false := by rfl) :
    GS X W (.Expr (.Call (.Attribute o "append" apos) [e] [] cpos) pos) (sAppend eo ee) := by
  obtain ⟨to, po, mo⟩ := ho
  obtain ⟨te, pe, me⟩ := he
  refine ⟨_, ps_expr (pe_bm PySem.F.plainAttrs_list PySem.F.slot_list_append PySem.F.type_list_append mt_append po (pa_cons pe pa_nil hs) hbase hfew hline hs hplain) hs0, fun as F H S ρ σ I R k h E q => ?_⟩
  refine mo as F H S ρ σ I R _ _ h _ (fun d1 S1 bs F1 H1 v1 h1 g1 r1 => ?_) (q.xq R)
  cases r1 with
  | cell ha =>
    obtain ⟨ds0, hS0, h1⟩ := onL_ok h1
    obtain ⟨_, o0, z0, z1⟩ := g1.sit.cell _ _ _ ha hS0
    cases o0 with
    | lst xs0 =>
      refine ⟨tyV_lst z0, ?_⟩
      refine me bs F1 H1 S1 ρ σ g1.sit (R.grow g1) _ _ h1 _ (fun d2 S2 cs F2 H2 v2 h2 g2 r2 => ?_) ((q.step g1).xq (R.grow g1))
      obtain ⟨ds, hS, hc, h2⟩ := onL_ok h2
      have ha2 := g2.pre _ _ ha
      obtain ⟨_, o2, y0, y1⟩ := g2.sit.cell _ _ _ ha2 hS
      cases o2 with
      | lst xs =>
        have hl : xs.length < sizeLine := by
          have e1 : ds.length = xs.length := RpL.length y1
          have e2 : ds.length ≤ 100000 := of_decide_eq_true hc.2
          have e3 : (100000 : Nat) < sizeLine := by decide
          omega
        refine ⟨_, xs, v2, rfl, rfl, y0, hl, ?_⟩
        have r2' : Rp X.K [] F2 d2 v2 := r2.back (fun k a hk => by omega) hc.1
        have g3 := g2.sit.put (c' := .lst (ds ++ [d2])) (o := .lst (xs ++ [v2])) ha2 hS rfl rfl (RpL.append y1 (.cons r2' .nil))
        have g := (g1.trans g2).trans g3
        exact q.nx ρ _ cs F2 _ σ h2 g (R.grow g)
      | _ => exact y1.elim
    | _ => exact z1.elim
  | _ => exact h1.elim
end
theorem enum_new1 {z : Value} {ob : Obj} {HP : Heap → Prop} (bg : PySem.Begins z ob HP) :
    Meets (Builtin.«enumerate.__new__» ⟨[.type "enumerate", z], []⟩) (fun _ R st => HP st.heap ∧
      R (.ok (.ret (.ref (st.heap.push ob).objs.size))) { st with heap := (st.heap.push ob).push { cls := .type "enumerate", data := .fields #[.none, .bool false, .ref st.heap.objs.size, rawInt 0, .none, .none] } }) :=
  .of_wp fun prog w A R st hh => by
    obtain ⟨hp, gs, dr, tks, oss⟩ := st
    obtain ⟨hz, hh⟩ := hh
    have subE := sub_enumerate
    have itz : ∀ {A2 : Around} {E2 : Value → Shared → Prop} {Q2 : Value → Shared → Prop}, Q2 (.ref hp.objs.size) ⟨hp.push ob, gs, dr, tks, oss⟩ → wpAny (model prog w) A2 (pyIter z) Q2 E2 ⟨hp, gs, dr, tks, oss⟩ :=
      fun q => bg.iter prog w _ _ ⟨hp, gs, dr, tks, oss⟩ _ hz q
    wp_walk using itz
    refine wpAny_stack_any fun stk => wpAny_pure ?_
    split
    · rename_i cc _ _ _ _ _
      cases (cc == Value.type "enumerate")
      · wp_walk using itz
        exact ⟨_, rfl, hh⟩
      · wp_walk using itz
        exact ⟨_, rfl, hh⟩
    · wp_walk using itz
      exact ⟨_, rfl, hh⟩

theorem call_enumT {sh : Shared} {P : Program} {w : World} {A : Around} {E : Value → Shared → Prop} {t : Addr} {its : Array Value} {Q : Value → Shared → Prop} (ht : sh.heap.IsTuple t its)
    (k : ∀ h2, IsEnum h2 (sh.heap.objs.size + 1) sh.heap.objs.size 0 .none → h2.IsTupleIter sh.heap.objs.size t 0 → h2.objs.size = sh.heap.objs.size + 2 → (∀ b u, sh.heap.get? b = some u → h2.get? b = some u) → Q (.ref (sh.heap.objs.size + 1)) { sh with heap := h2 }) :
    wpAny (model P w) A (call (.type "enumerate") [.ref t]) Q E sh := by
  have bg := PySem.begins_tuple t its
  refine callType_new PySem.F.called_enumerate (by decide) (PySem.F.typeCall_enumerate_1 _) (PySem.F.newCall_enumerate_1 _) (fun ob => PySem.F.args_object_init_2 ob _) PySem.F.entry_enumerate_new (enum_new1 bg) ⟨ht, ?_⟩
  have sz : (sh.heap.push { cls := .type "tuple_iterator", data := .fields #[.ref t, .int 0 0] }).objs.size = sh.heap.objs.size + 1 := Heap.size_push ..
  show _ ∧ _
  rw [sz]
  have en : IsEnum ((sh.heap.push { cls := .type "tuple_iterator", data := .fields #[.ref t, .int 0 0] }).push
      { cls := .type "enumerate", data := .fields #[.none, .bool false, .ref sh.heap.objs.size, rawInt 0, .none, .none] }) (sh.heap.objs.size + 1) sh.heap.objs.size 0 .none := by
    have q := Heap.get?_push_size (sh.heap.push { cls := .type "tuple_iterator", data := .fields #[.ref t, .int 0 0] })
      (o := { cls := .type "enumerate", data := .fields #[.none, .bool false, .ref sh.heap.objs.size, rawInt 0, .none, .none] }) rfl
    rw [sz] at q
    exact q
  exact ⟨⟨_, en, rfl⟩, k _ en ⟨_, Heap.get?_push_of_some _ (Heap.get?_push_size _ rfl), rfl, rfl⟩ (by rw [Heap.size_push, sz]) fun b u q => Heap.get?_push_of_some _ (Heap.get?_push_of_some _ q)⟩
/-- the tuple at a, each item in a new pair -/
def IteT (K : PySem.W.Frag) (a : Addr) : It :=
  ⟨fun i H => ∃ (ys : List V) (y : V), SqT K H a ys ∧ ys[i]? = some y, fun i H v H2 => ∃ B y, v = .ref B ∧ H B = none ∧ H2 = upd H B (.tup [.int (i : Nat), y]) ∧ ∀ ys, SqT K H a ys → ys[i]? = some y, fun i H => ∃ ys : List V, SqT K H a ys ∧ ys.length ≤ i⟩
theorem turn_enumT {P : Program} {w : World} {K : PySem.W.Frag} {tgs : List Expr} {kt : Nat} {tp : Pos} (a en it : Addr) :
    Turn P w K (.Tuple tgs kt tp) (IteT K a) [en, it] en (fun i h => (∃ pv, IsEnum h en it ((i : Nat) : Int) pv) ∧ h.IsTupleIter it a i ∧ en ≠ it) where
  mem := by simp
  obj := fun i h st b hb => by
    obtain ⟨⟨pv, he⟩, ⟨ob, ho, hc, hd⟩, _⟩ := st
    have bb : b = en ∨ b = it := by simpa using hb
    rcases bb with z | z
    · subst z
      exact ⟨_, he, fun v q => nomatch q⟩
    · subst z
      exact ⟨ob, ho, fun v q => by rw [hd] at q; cases q⟩
  keep := fun i h h2 st kp => by
    obtain ⟨⟨pv, he⟩, hi, hne⟩ := st
    exact ⟨⟨pv, kp en (by simp) _ he⟩, hi.at fun ob q => kp it (by simp) ob q, hne⟩
  item := by
    intro X hP hw hK hc i pins s σ H E I hf st hg
    subst hP hw hK
    obtain ⟨⟨pv, he⟩, hit, hne⟩ := st
    obtain ⟨ys, y, hq, hy⟩ := hg
    obtain ⟨its, rv, tp', hz⟩ := I.tuple hq
    obtain ⟨u, hu, ru⟩ := rv.get hy
    have tup : s.heap.IsTuple a its.toArray := tp'
    have enl : en < s.heap.objs.size := Heap.lt_size he
    have itl : it < s.heap.objs.size := by
      obtain ⟨_, q, _⟩ := hit
      exact Heap.lt_size q
    have ne1 : a ≠ it := fun z => by
      obtain ⟨o1, q1, c1, _⟩ := hit
      obtain ⟨o2, q2, c2, _⟩ := tup
      rw [z, q1] at q2
      cases q2
      rw [c1] at c2
      simp at c2
    have ne2 : en ≠ a := fun z => by
      obtain ⟨o2, q2, c2, _⟩ := tup
      rw [← z] at q2
      rw [show s.heap.get? en = some _ from he] at q2
      cases q2
      simp at c2
    have dr := PySem.Draws.tuple (prog := X.prog) (w := X.w) (A := X.A.in1) (I.ok.hd hc) it a ne1 its.toArray
    have hlt : i < its.toArray.size := by
      have := (List.getElem?_eq_some_iff.mp hu).1
      simpa using this
    refine PySem.wpAny_pyNext_enum_itemD dr he ⟨hit, tup⟩ hlt hne (by simp; exact ⟨hne, ne2⟩) fun x h2 tk px ho st2 hT hsz hk => ?_
    have ex : x = u := by
      have e1 : its.toArray[i]? = some u := by simpa using hu
      rw [show its.toArray[i]? = some x from px] at e1
      exact Option.some.inj e1
    subst ex
    refine ⟨_, rfl, wpAny_letOwnedTupleGo_enum (s := { s with heap := h2, toks := tk + 1 }) ho fun h3 he3 sb => ?_⟩
    have hT3 : h3.get? s.heap.objs.size = some { cls := .type "tuple", data := .seq #[.int i tk, x] } := (sb.2 _ (Nat.ne_of_gt enl)).trans hT
    have nw : ObjOk X.prog X.w (upd H s.heap.objs.size (.tup [.int (i : Nat), y])) h3 s.heap.objs.size (.tup [.int (i : Nat), y]) :=
      ⟨by show 2 ≤ sizeLine; decide, [.int i tk, x], .cons ⟨_, rfl⟩ (.cons ru .nil), ⟨_, hT3, rfl, _, rfl⟩⟩
    have I2 : Inv X pins σ (upd H s.heap.objs.size (.tup [.int (i : Nat), y])) { s with heap := h3, toks := tk + 1 } :=
      I.turnedNew (ch := [en, it]) (fun b ob hb q => (sb.2 b (fun z => hb (by simp [z]))).trans (hk b ob (fun z => hb (by simp [z])) (fun z => hb (by simp [z])) q)) hf (Nat.le_refl _) nw
    refine ⟨.ref s.heap.objs.size, _, I2, rfl, ⟨_, y, rfl, I.hok.fresh (Nat.le_refl _), rfl, fun zs hz2 => by rw [I.tuple_inj hz2 hq]; exact hy⟩, ⟨⟨x, ?_⟩, st2.1.at fun ob q => (sb.2 it (Ne.symm hne)).trans q, hne⟩, fun b hb => ?_⟩
    · have e1 : ((i + 1 : Nat) : Int) = (i : Int) + 1 := by omega
      rw [e1]
      exact he3
    · have bb : b = en ∨ b = it := by simpa using hb
      have bl : b < s.heap.objs.size := by
        rcases bb with z | z
        · rw [z]; exact enl
        · rw [z]; exact itl
      rw [upd_ne (Nat.ne_of_lt bl)]
      exact (hf b hb).1
  done := by
    intro X hP hw hK hc i pins s σ H E I hf st hg
    subst hP hw hK
    obtain ⟨⟨pv, he⟩, hit, hne⟩ := st
    obtain ⟨ys, hq, hy⟩ := hg
    obtain ⟨its, rv, tp', hz⟩ := I.tuple hq
    have tup : s.heap.IsTuple a its.toArray := tp'
    have ne1 : a ≠ it := fun z => by
      obtain ⟨o1, q1, c1, _⟩ := hit
      obtain ⟨o2, q2, c2, _⟩ := tup
      rw [z, q1] at q2
      cases q2
      rw [c1] at c2
      simp at c2
    obtain ⟨f0, f1, f2, f3, f4, f5⟩ := hf it (by simp)
    have none_i : its.toArray[i]? = none := by
      have := rv.length
      simp
      omega
    have hd : X.A.in1.handled = none := I.ok.hd hc
    have dr : PySem.Draws X.prog X.w X.A.in1 it [it, a] i (fun _ _ => False) (fun j h => j = i ∧ h.IsTupleIter it a i ∧ h.IsTuple a its.toArray) :=
      { live := fun _ _ st2 => by
          obtain ⟨ob, q, _⟩ := st2.2.1
          exact ⟨ob, q⟩
        frame := fun _ _ _ st2 kp => ⟨st2.1, st2.2.1.at fun ob q => kp it (by simp) ob q, st2.2.2.at fun ob q => kp a (by simp) ob q⟩
        item := fun j s2 Q2 E2 hj st2 _ => by
          have := st2.1
          omega
        done := fun s2 Q2 E2 st2 kE => PySem.wpAny_nextOf_tuple_end hd st2.2.1 st2.2.2 none_i kE }
    exact PySem.wpAny_pyNext_enum_endD dr he ⟨rfl, hit, tup⟩ fun h2 eb => ⟨rfl, I.turned (t' := s.toks) (fun b ob hb q => eb b ob hb q) f0 f1 f3 f4 f5⟩
  self := fun A i s Q E st h => by
    obtain ⟨⟨_, he⟩, _⟩ := st
    exact wpAny_pyIter_enum he h
def iEnT (K : PySem.W.Frag) (ta : TA) : TI := fun σ H R => ta σ H fun vs H1 => ∃ a ys, vs = [.ref a] ∧ SqT K H1 a ys ∧ R (IteT K a) H1
section
variable {X : Cx} {W : WX} {e : Expr} {p pos tpos : Pos} {elts : List Expr} {kk : Nat}
theorem pi_enumT {ta : TA} (gl : Gl X "enumerate") (nm : X.mg "enumerate" = none) (ha : PA X [e] ta) (st : starEach [e] X.env = [(false, eval e X.env)] := by rfl) :
    PI X (.Tuple elts kk tpos) (.Call (.Name "enumerate" p) [e] [] pos) (iEnT X.K ta) := by
  refine ⟨fun pins s σ H R I h => ?_⟩
  refine PyProof.Rows.Call_ (ld_blt I gl nm PyProof.Rows.boot_enumerate (PyProof.Rows.callWith_type1 (thn (ha.run pos pins s σ H _ I h) fun us s1 ⟨vs, H1, I1, r1, q1⟩ => ?_) st rfl))
  obtain ⟨a, ys, rfl, hq, q⟩ := q1
  cases r1 with
  | cons r rr =>
    cases rr
    cases r
    obtain ⟨its, rv, tp, hz⟩ := I1.tuple hq
    refine call_enumT (show s1.heap.IsTuple a its.toArray from tp) fun h2 en itr hsz kp => wpAny_pyIter_enum en ?_
    have I2 : Inv X pins σ H1 { s1 with heap := h2 } := I1.kept (t' := s1.toks) kp
    refine ⟨s1.heap.objs.size + 1, [s1.heap.objs.size + 1, s1.heap.objs.size], _, _, H1, rfl, I2, turn_enumT a (s1.heap.objs.size + 1) s1.heap.objs.size, ⟨⟨.none, en⟩, itr, Nat.succ_ne_self _⟩, fun b hb => ?_, q⟩
    have bb : b = s1.heap.objs.size + 1 ∨ b = s1.heap.objs.size := by simpa using hb
    have ble : s1.heap.objs.size ≤ b := by
      rcases bb with z | z
      · rw [z]
        exact Nat.le_add_right _ _
      · rw [z]
        exact Nat.le_refl _
    exact I1.fpOk ble (I1.hok.fresh ble)
def enumL (i : Nat) : List D → List D
  | [] => []
  | d :: ds => .tup [.int (i : Int), d] :: enumL (i + 1) ds
theorem enumL_len : ∀ (ds : List D) (i : Nat), (enumL i ds).length = ds.length
  | [], _ => rfl
  | _ :: ds, i => congrArg Nat.succ (enumL_len ds (i + 1))
theorem enumL_at : ∀ (ds : List D) (i j : Nat), (enumL i ds)[j]? = (ds[j]?).map fun d => D.tup [.int ((i + j : Nat) : Int), d]
  | [], _, _ => by simp [enumL]
  | d :: ds, i, 0 => by simp [enumL]
  | d :: ds, i, j + 1 => by
    simp only [enumL, List.getElem?_cons_succ]
    rw [enumL_at ds (i + 1) j]
    have : i + 1 + j = i + (j + 1) := by omega
    rw [this]
def iEnumT (er : Env → ML) : Env → MW := fun ρ S q x => er ρ S (fun ds S1 => on1 ds fun d => onTu d fun ds => q (enumL 0 ds) any_ S1) x
theorem gi_enumT {er : Env → ML} (nm : X.mg "enumerate" = none) (ha : GA X W [e] er) (gl : Gl X "enumerate" := by rfl) (st : starEach [e] X.env = [(false, eval e X.env)] := by rfl) :
    GI X W (.Tuple elts kk tpos) (.Call (.Name "enumerate" p) [e] [] pos) (iEnumT er) := by
  obtain ⟨t, p, m⟩ := ha
  refine ⟨_, pi_enumT gl nm p st, fun as F H S ρ σ I R q x e Q hq hx => ?_⟩
  refine m as F H S ρ σ I R _ x e _ (fun ds S1 bs F1 H1 vs h1 g r => ?_) hx
  obtain ⟨y, rfl, h1⟩ := on1_ok h1
  obtain ⟨ds', rfl, h1⟩ := onTu_ok h1
  · obtain ⟨v, ws, rfl, rv, rn⟩ := r.unsn
    obtain rfl := rn.unnil
    cases rv with
    | tup hp rl =>
      rename_i a xs
      refine ⟨a, xs, rfl, g.sit.ex.sqT hp, hq _ _ S1 bs F1 H1 _ h1 g ⟨fun bs F2 H2 S2 I2 x2 p2 _ => ?_, fun i hi bs F2 H2 S2 I2 x2 p2 _ => ?_, fun i d hd bs F2 H2 S2 I2 x2 p2 _ x H' y => ?_⟩⟩
      · have hq : SqT X.K H2 a xs := I2.ex.sqT (x2.sqT hp)
        refine ⟨xs, hq, ?_⟩
        rw [enumL_len, rl.length]
        exact Nat.le_refl _
      · have hq : SqT X.K H2 a xs := I2.ex.sqT (x2.sqT hp)
        rw [enumL_len, rl.length] at hi
        exact ⟨xs, xs[i], hq, List.getElem?_eq_getElem hi⟩
      · have hq : SqT X.K H2 a xs := I2.ex.sqT (x2.sqT hp)
        obtain ⟨B, yv, rfl, hB, rfl, hy⟩ := y
        rw [enumL_at] at hd
        simp only [Option.map_eq_some_iff] at hd
        obtain ⟨d', hd', rfl⟩ := hd
        obtain ⟨v, hv, rv⟩ := rl.get hd'
        have := hy xs hq
        rw [hv] at this
        cases this
        have g2 := I2.grow (o := .tup [.int (i : Nat), yv]) hB
        refine ⟨_, g2, .tup (SqT.of upd_same) (.cons ?_ (.cons ((rv.mono x2 p2).mono g2.ex g2.pre) .nil))⟩
        rw [Nat.zero_add]
        exact .int _
end
end RV
end
section
/-! Methods of texts, f-strings, starred arguments. -/
namespace RV
open PySem L2
section
variable {K : PySem.W.Frag} {X : Cx} {W : WX} {o e a b : Expr} {es : List Expr} {pos apos : Pos} {eo ee ea eb : Env → M} {er : Env → ML}
/-! ### o.m(e), o a text -/
def RM (K : PySem.W.Frag) (r : V → List V → Hp → VK → Prop) (f : WS → D → D → Option D) : Prop := ∀ (as : List Addr) (F H : Hp) (S : WS) (x : Str) (y d : D) (vy : V), Sit K as F H S → Rp K as F y vy → f S (.str x) y = some d →
  ∀ Q : VK, (∀ F' H' v, Grow K as F H as F' H' S → Rp K as F' d v → Q v H') → r (.str x) [vy] H Q
def onStr (f : WS → Str → D → Option D) : WS → D → D → Option D := fun S x y => match x with
  | .str z => f S z y
  | _ => none
/-- o.m(e), o a text: looked at first -/
def eOpT (f : WS → D → D → Option D) (ea eb : Env → M) : Env → M := fun ρ S q x => ea ρ S (fun u S1 => onT u fun z => eb ρ S1 (fun v S2 => onS (f S2 (.str z) v) fun d => q d S2) x) x
theorem me_m1 {r : V → List V → Hp → VK → Prop} {f : WS → Str → D → Option D} {to te : TE} (hr : RM K r (onStr f)) (ho : ME K W to eo) (he : ME K W te ee) : ME K W (tM1 r to te) (eOpT (onStr f) eo ee) := fun as F H S ρ σ I R q x h Q hq hx => by
  refine ho as F H S ρ σ I R _ x h _ (fun u S1 bs F1 H1 v h1 g r1 => ?_) hx
  cases r1 with
  | str z =>
    refine ⟨⟨z, rfl⟩, ?_⟩
    refine he bs F1 H1 S1 ρ σ g.sit (R.grow g) _ x h1 _ (fun y S2 cs F2 H2 w h2 g2 r2 => ?_) (hx.step g)
    obtain ⟨d, h3, h4⟩ := onS_ok h2
    exact hr cs F2 H2 S2 z y d w g2.sit r2 h3 Q fun F3 H3 u g3 r3 => hq d S2 cs F3 H3 u h4 ((g.trans g2).trans g3) r3
  | _ => exact h1.elim
def splitD : WS → D → D → Option D := onStr fun _ z y => match y with
  | .str s => if s.length ≠ 0 ∧ small z.length = true then some (.lst ((Txt.split z s).map D.str)) else none
  | _ => none
theorem rpl_strs {as : List Addr} {F : Hp} : ∀ ys : List Str, RpL K as F (ys.map D.str) (ys.map V.str)
  | [] => .nil
  | y :: ys => .cons (.str y) (rpl_strs ys)
theorem small_two {n : Nat} (h : small n = true) : n + 2 ≤ sizeLine := by
  have h1 : n ≤ 100000 := of_decide_eq_true h
  have h2 : (100002 : Nat) ≤ sizeLine := by decide
  omega
theorem ge_split (ho : GE X W o eo) (he : GE X W e ee) (hs : starEach [e] X.env = [(false, eval e X.env)] := by rfl) (hbase : attributeBase o "split" X.env (eval o X.env) = eval o X.env := by rfl) (hline : (apos.endLine == pos.line) = true := by rfl) :
    GE X W (.Call (.Attribute o "split" apos) [e] [] pos) (eOpT splitD eo ee) := by
  obtain ⟨to, po, mo⟩ := ho
  obtain ⟨te, pe, me⟩ := he
  refine ⟨_, pe_split po pe hs hbase hline, me_m1 (fun as F H S x y d vy I r h Q q => ?_) mo me⟩
  simp only [onStr] at h
  split at h
  · rename_i s
    split at h
    · rename_i hc
      cases h
      cases r
      refine ⟨x, s, rfl, rfl, by simpa using hc.1, small_two hc.2, fun p hp => ?_⟩
      have g := I.grow (o := .lst ((Txt.split x s).map V.str)) hp
      exact q _ _ _ g (.lst upd_same (rpl_strs _))
    · cases h
  · cases h
def partitionD : WS → D → D → Option D := onStr fun _ z y => match y with
  | .str s => if s.length ≠ 0 ∧ small z.length = true then some (.tup [.str (Txt.partition z s).1, .str (Txt.partition z s).2.1, .str (Txt.partition z s).2.2]) else none
  | _ => none
theorem ge_partition (ho : GE X W o eo) (he : GE X W e ee) (hs : starEach [e] X.env = [(false, eval e X.env)] := by rfl) (hbase : attributeBase o "partition" X.env (eval o X.env) = eval o X.env := by rfl) (hline : (apos.endLine == pos.line) = true := by rfl) :
    GE X W (.Call (.Attribute o "partition" apos) [e] [] pos) (eOpT partitionD eo ee) := by
  obtain ⟨to, po, mo⟩ := ho
  obtain ⟨te, pe, me⟩ := he
  refine ⟨_, pe_partition po pe hs hbase hline, me_m1 (fun as F H S x y d vy I r h Q q => ?_) mo me⟩
  simp only [onStr] at h
  split at h
  · rename_i s
    split at h
    · rename_i hc
      cases h
      cases r
      refine ⟨x, s, rfl, rfl, by simpa using hc.1, small_le hc.2, fun p hp => ?_⟩
      have g := I.grow (o := .tup [.str (Txt.partition x s).1, .str (Txt.partition x s).2.1, .str (Txt.partition x s).2.2]) hp
      exact q _ _ _ g (.tup (SqT.of upd_same) (.cons (.str _) (.cons (.str _) (.cons (.str _) .nil))))
    · cases h
  · cases h
def strsD : List D → Option (List Str)
  | [] => some []
  | .str s :: r => (strsD r).map fun t => s :: t
  | _ => none
theorem strsD_ok : ∀ {ds : List D} {ys : List Str}, strsD ds = some ys → ds = ys.map D.str
  | [], ys, h => by
    cases h
    rfl
  | .str s :: r, ys, h => by
    simp only [strsD, Option.map_eq_some_iff] at h
    obtain ⟨t, h1, rfl⟩ := h
    rw [strsD_ok h1]
    rfl
  | .non :: r, ys, h => by cases h
  | .bl _ :: r, ys, h => by cases h
  | .int _ :: r, ys, h => by cases h
  | .ty _ :: r, ys, h => by cases h
  | .adr _ :: r, ys, h => by cases h
  | .cell _ :: r, ys, h => by cases h
  | .scr _ :: r, ys, h => by cases h
  | .tup _ :: r, ys, h => by cases h
  | .lst _ :: r, ys, h => by cases h
  | .obj _ _ :: r, ys, h => by cases h
  | .dic _ :: r, ys, h => by cases h
  | .exc _ _ :: r, ys, h => by cases h
  | .exv _ _ _ _ :: r, ys, h => by cases h
theorem rpl_strs_v {as : List Addr} {F : Hp} : ∀ {ys : List Str} {xs : List V}, RpL K as F (ys.map D.str) xs → xs = ys.map V.str
  | [], _, .nil => rfl
  | y :: ys, _, .cons r t => by
    cases r
    rw [rpl_strs_v t]
    rfl
def joinD : WS → D → D → Option D := onStr fun S z y => (itemsD S y).bind fun ds => (strsD ds).bind fun ys => if (ys.map (·.length)).sum + ys.length * z.length ≤ 100000 then some (.str (Txt.join z ys)) else none
theorem ge_join (ho : GE X W o eo) (he : GE X W e ee) (hs : starEach [e] X.env = [(false, eval e X.env)] := by rfl) (hbase : attributeBase o "join" X.env (eval o X.env) = eval o X.env := by rfl) (hline : (apos.endLine == pos.line) = true := by rfl) :
    GE X W (.Call (.Attribute o "join" apos) [e] [] pos) (eOpT joinD eo ee) := by
  obtain ⟨to, po, mo⟩ := ho
  obtain ⟨te, pe, me⟩ := he
  refine ⟨_, pe_join po pe hs hbase hline, me_m1 (fun as F H S x y d vy I r h Q q => ?_) mo me⟩
  simp only [onStr, Option.bind_eq_some_iff] at h
  obtain ⟨ds, h1, ys, h2, h3⟩ := h
  split at h3
  · rename_i hc
    cases h3
    obtain ⟨p, xs, rfl, sq, rl⟩ := items_v I r h1
    rw [strsD_ok h2] at rl
    have ex := rpl_strs_v rl
    subst ex
    exact ⟨x, p, ys, rfl, rfl, sq, by omega, keep I q (.str _)⟩
  · cases h3
/-! ### f-strings -/
def fmtD : WS → D → Option D := fun _ x => match x with
  | .str y => if small y.length = true then some (.str y) else none
  | .int i => if i.natAbs.log2 < 1920 then some (.str (toString i)) else none
  | _ => none
theorem ge_fmt (h : GE X W e ea) : GE X W (.FormattedValue e (-1) none pos) (eUn fmtD ea) := by
  obtain ⟨t, p, m⟩ := h
  refine ⟨_, pe_fmt p, fun as F H S ρ σ I R q x h Q hq hx => ?_⟩
  refine m as F H S ρ σ I R _ x h _ (fun u S1 bs F1 H1 v h1 g r => ?_) hx
  obtain ⟨d, h2, h3⟩ := onS_ok h1
  unfold fmtD at h2
  split at h2
  · split at h2
    · rename_i y hs
      cases h2
      cases r
      exact .inl ⟨y, rfl, small_le hs, hq _ S1 bs F1 H1 _ h3 g (.str y)⟩
    · cases h2
  · split at h2
    · rename_i i hs
      cases h2
      cases r
      exact .inr ⟨i, rfl, hs, hq _ S1 bs F1 H1 _ h3 g (.str _)⟩
    · cases h2
  · cases h2
abbrev MJ := Env → Str → WS → (Str → WS → Prop) → Xq → Prop
structure GJ (X : Cx) (W : WX) (es : List Expr) (m : MJ) : Prop where
  ex : ∃ ts, PJ X es ts ∧ ∀ (as : List Addr) (F H : Hp) (S : WS) (ρ : Env) (σ : L2.St) (acc : Str), Sit X.K as F H S → RpE X.K as F ρ σ → ∀ q x, m ρ acc S q x →
    ∀ Q : Str → Hp → Prop, (∀ out S' bs F' H', q out S' → Grow X.K as F H bs F' H' S' → Q out H') → XQ X.K as F H x (WE W σ) → tJs ts acc σ H Q
def jNil : MJ := fun _ acc S q _ => q acc S
def jCons (ea : Env → M) (jr : MJ) : MJ := fun ρ acc S q x => ea ρ S (fun d S1 => onT d fun y => small (acc.length + y.length) = true ∧ jr ρ (acc ++ y) S1 q x) x
theorem gj_nil : GJ X W [] jNil := ⟨[], .nil, fun as F H S ρ σ acc I R q x h Q hq _ => hq acc S as F H h (Grow.refl I)⟩
theorem gj_cons {jr : MJ} (h : GE X W e ea) (r : GJ X W es jr) : GJ X W (e :: es) (jCons ea jr) := by
  obtain ⟨t, p, m⟩ := h
  obtain ⟨ts, ps, ms⟩ := r
  refine ⟨t :: ts, .cons p ps, fun as F H S ρ σ acc I R q x h Q hq hx => ?_⟩
  refine m as F H S ρ σ I R _ x h _ (fun u S1 bs F1 H1 v h1 g r => ?_) hx
  cases r with
  | str y => exact ⟨y, rfl, by rw [strLen_append]; exact small_le h1.1, ms bs F1 H1 S1 ρ σ _ g.sit (R.grow g) q x h1.2 Q (fun out S' cs F' H' a g2 => hq out S' cs F' H' a (g.trans g2)) (hx.step g)⟩
  | _ => exact h1.elim
def eJoin (m : MJ) : Env → M := fun ρ S q x => m ρ Str.empty S (fun t S1 => q (.str t) S1) x
theorem ge_joined {v1 v2 : Expr} {rest : List Expr} {m : MJ} (h : GJ X W (v1 :: v2 :: rest) m) : GE X W (.JoinedStr (v1 :: v2 :: rest) pos) (eJoin m) := by
  obtain ⟨ts, ps, ms⟩ := h
  exact ⟨_, pe_joined ps, fun as F H S ρ σ I R q x h Q hq hx => ms as F H S ρ σ Str.empty I R _ x h _ (fun out S' bs F' H' a g => hq _ S' bs F' H' _ a g (.str _)) hx⟩
theorem ge_joined1 (h : GE X W e ea) : GE X W (.JoinedStr [e] pos) ea := by
  obtain ⟨t, p, m⟩ := h
  exact ⟨_, pe_joined1 p, m⟩
/-! ### starred arguments -/
def aStar (ea : Env → M) (er : Env → ML) : Env → ML := fun ρ S q x => ea ρ S (fun u S1 => onS (itemsD S1 u) fun ds => er ρ S1 (fun es S2 => q (ds ++ es) S2) x) x
theorem ga_star {p : Pos} (h : GE X W e ea) (r : GA X W es er) (hs : starEach (.Starred e p :: es) X.env = (true, eval e X.env) :: starEach es X.env := by rfl) : GA X W (.Starred e p :: es) (aStar ea er) := by
  obtain ⟨t, p, m⟩ := h
  obtain ⟨t2, p2, m2⟩ := r
  refine ⟨_, StX.pa_star p p2 hs, fun as F H S ρ σ I R q x h Q hq hx => ?_⟩
  refine m as F H S ρ σ I R _ x h _ (fun u S1 bs F1 H1 v h1 g r => ?_) hx
  obtain ⟨xs, h2, h3⟩ := onS_ok h1
  obtain ⟨a, ys, rfl, sq, rl⟩ := items_v g.sit r h2
  refine ⟨a, ys, rfl, sq.symm, ?_⟩
  refine m2 bs F1 H1 S1 ρ σ g.sit (R.grow g) _ x h3 _ (fun es S2 cs F2 H2 vs h4 g2 r2 => ?_) (hx.step g)
  exact hq _ S2 cs F2 H2 _ h4 (g.trans g2) ((rl.mono g2.ex g2.pre).append r2)
end
end RV
end
section
/-! Own __len__, __str__; classmethods; cls(..); x is None. -/
namespace RV
open PySem L2
variable {nn : Bool}
section
variable {K : PySem.W.Frag} {X : Cx} {W : WX} {o e a b : Expr} {es : List Expr} {pos apos p : Pos} {eo ee ea eb : Env → M} {er ek : Env → ML}
/-! ### calls that run a def of the text's own, which raises nothing -/
def RCM (K : PySem.W.Frag) (r : List V → Hp → VK → Prop) (f : List D → M) : Prop := ∀ (as : List Addr) (F H : Hp) (S : WS) (ds : List D) (vs : List V), Sit K as F H S → RpL K as F ds vs → ∀ q x, f ds S q x →
  ∀ Q : VK, NQ K as F H q Q → r vs H Q
def eCallM (f : List D → M) (er : Env → ML) : Env → M := fun ρ S q x => er ρ S (fun ds S1 => f ds S1 q x) x
theorem me_cbM {r : List V → Hp → VK → Prop} {f : List D → M} {t : TA} (hr : RCM K r f) (h : MA K W t er) : ME K W (tCB r t) (eCallM f er) := fun as F H S ρ σ I R q x e Q hq hx =>
  h as F H S ρ σ I R _ x e _ (fun ds S1 bs F1 H1 vs h1 g1 r1 => hr bs F1 H1 S1 ds vs g1.sit r1 q x h1 Q (hq.step g1)) hx
theorem ge_callBM {x : Str} {id : String} {r : List V → Hp → VK → Prop} {f : List D → M} (hc : CallR X (.builtin id) r) (hr : RCM X.K r f) (hm : X.mg x = none) (hv : bootBuiltins x = some (.builtin id)) (ha : GA X W (e :: es) er)
    (hg : Gl X x := by rfl) (hn : x ≠ "__name__" := by decide) (hdb : (x == ("__debug__" : Str)) = false := by decide) (h1 : starEach (e :: es) X.env = (false, eval e X.env) :: starEach es X.env := by rfl) (h2 : (backTo pos (starEach es X.env)).any (·.1) = false := by rfl) :
    GE X W (.Call (.Name x p) (e :: es) [] pos) (eCallM f er) := by
  obtain ⟨t, p, m⟩ := ha
  exact ⟨_, pe_callB hc hg hm hv p hn hdb h1 h2, me_cbM hr m⟩
theorem ge_callTyM {x : Str} {T : String} {r : List V → Hp → VK → Prop} {f : List D → M} (hc : CallR X (.type T) r) (hr : RCM X.K r f) (hm : X.mg x = none) (hv : bootBuiltins x = some (.type T)) (ha : GA X W (e :: es) er)
    (hg : Gl X x := by rfl) (hn : x ≠ "__name__" := by decide) (hdb : (x == ("__debug__" : Str)) = false := by decide) (h1 : starEach (e :: es) X.env = (false, eval e X.env) :: starEach es X.env := by rfl) (h2 : (backTo pos (starEach es X.env)).any (·.1) = false := by rfl) :
    GE X W (.Call (.Name x p) (e :: es) [] pos) (eCallM f er) := by
  obtain ⟨t, p, m⟩ := ha
  exact ⟨_, pe_callTy hc hg hm hv p hn hdb h1 h2, me_cbM hr m⟩
/-! ### own methods that Python calls -/
theorem run_own {f : Addr} {fd : FuncData} {ps : List Str} {sp : Sp} {k : Nat} {A : Around} {pins : List (Addr × Obj)} {s : Shared} {σ : L2.St} {H : Hp} {vs : List V} {us : List Value} {R : VK} (Fn : FnX ⟨false, nn, false⟩ X.prog X.w X.K X.mg X.base k f fd ps sp) (hr : Room k A) (hfr : A.frames = X.A.frames) (hb : Binds X.K fd ps []) (I : Inv X pins σ H s) (rv : Vals vs us)
    (h : sp vs H R E0) : wpAny (model X.prog X.w) A (call (.ref f) us) (EP X pins σ R) X.xe s := by
  have e0 : Env0 X.prog X.w X.K X.mg X.base A X.stack s H := by
    have z := I.env0
    exact ⟨by rw [hfr]; exact z.frames, z.mod, z.bs, z.bsz, z.funs, z.frf, z.hok, z.bare⟩
  have hl : us.length = ps.length := rv.length.symm.trans (Fn.len _ _ _ _ h)
  refine wpAny_call (codeAny_mono (Fn.ok.run A X.stack s H ⟨us, []⟩ us vs R E0 hr e0 (by
    have z := hb s us I.kIn (by simpa using hl)
    simpa using z) rv h) fun r s' hq => ?_)
  cases r with
  | error e =>
    exact (cxm_no hq).elim
  | ok fl =>
    cases fl with
    | ret w => exact I.after hq
    | next => exact hq.elim
    | brk => exact hq.elim
    | cont => exact hq.elim
def rLenOwn (C : Addr) (sp : Sp) : List V → Hp → VK → Prop := fun xs H Q => ∃ a dx fs, xs = [.ref a] ∧ H a = some (.ins C dx fs) ∧ sp xs H (fun v H' => ∃ n : Int, v = .int n ∧ 0 ≤ n ∧ n < 2 ^ 62 ∧ Q (.int n) H') E0
theorem call_lenOwn {C f : Addr} {fd : FuncData} {ps : List Str} {sp : Sp} {k j : Nat} (Fn : FnX ⟨false, nn, false⟩ X.prog X.w X.K X.mg X.base k f fd ps sp) (hr : Room j X.A) (hj : k + 1 ≤ j) (hs : PySem.W.findIn X.K (.ref C) "__len__" = some (some (.ref f))) (hf : PySem.W.isFn X.K (.ref f) = true) (hb : Binds X.K fd ps []) :
    CallR X (.builtin "len") (rLenOwn C sp) := fun pins s σ H xs us Q I rv q => by
  obtain ⟨a, dx, fs, rfl, ha, q⟩ := q
  obtain ⟨u, rfl, ru⟩ := rv.one
  cases ru
  obtain ⟨mA, J, _⟩ := ins_get I.hok ha
  obtain ⟨od, J, _⟩ := J.look
  obtain ⟨m, hF⟩ := I.fr
  refine PySem.W.len_K hF I.ok.mod.kin J hs hf ?_
  refine thn (run_own Fn (hr.mono hj).in1 rfl hb I (vs := [.ref a]) (.cons rfl .nil) q) fun w s' hw => ?_
  obtain ⟨z, H', I', rz, n, rfl, h0, h1, qn⟩ := hw
  obtain ⟨t, rfl⟩ := rz
  refine ⟨⟨h0, by omega⟩, .int n, H', I'.tok _, ⟨_, rfl⟩, qn⟩
def rStrOwn (C : Addr) (sp : Sp) : List V → Hp → VK → Prop := fun xs H Q => ∃ a dx fs, xs = [.ref a] ∧ H a = some (.ins C dx fs) ∧ sp xs H (fun v H' => ∃ t : Str, v = .str t ∧ Q (.str t) H') E0
theorem call_strOwn {C f : Addr} {fd : FuncData} {ps : List Str} {sp : Sp} {k j : Nat} (Fn : FnX ⟨false, nn, false⟩ X.prog X.w X.K X.mg X.base k f fd ps sp) (hr : Room j X.A) (hj : k + 2 ≤ j) (hs : PySem.W.findIn X.K (.ref C) "__str__" = some (some (.ref f))) (hf : PySem.W.isFn X.K (.ref f) = true) (hb : Binds X.K fd ps []) :
    CallR X (.type "str") (rStrOwn C sp) := fun pins s σ H xs us Q I rv q => by
  obtain ⟨a, dx, fs, rfl, ha, q⟩ := q
  obtain ⟨u, rfl, ru⟩ := rv.one
  cases ru
  obtain ⟨mA, J, _⟩ := ins_get I.hok ha
  obtain ⟨od, J, _⟩ := J.look
  have hr2 := (hr.mono hj).in1.in1
  refine PySem.W.kso_call hr2.units0 I.kIn J hs hf ?_
  refine thn (run_own Fn hr2 rfl hb I (vs := [.ref a]) (.cons rfl .nil) q) fun w s' hw => ?_
  obtain ⟨z, H', I', rz, t, rfl, qn⟩ := hw
  obtain ⟨tk, rfl⟩ := rz
  exact ⟨.str t, H', I', ⟨_, rfl⟩, qn⟩
def lenOwnD (C : Addr) (G : List D → M) : List D → M := fun ds S q _ => on1 ds fun d => isOb C S d ∧ G [d] S (fun r S' => onI r fun n => (0 ≤ n ∧ n < 2 ^ 62) ∧ q (.int n) S') noX
theorem rcm_len {C : Addr} {G : List D → M} : RCM K (rLenOwn C (spG K 1 G)) (lenOwnD C G) := fun as F H S ds vs I r q x h Q hq => by
  obtain ⟨d0, rfl, h⟩ := on1_ok h
  · obtain ⟨v, ws, rfl, rv, rn⟩ := r.unsn
    obtain rfl := rn.unnil
    obtain ⟨a, dx, vfs, rfl, ha⟩ := isOb_at I rv h.1
    refine ⟨a, dx, vfs, rfl, ha, as, F, S, _, _, noX, I, .cons rv .nil, rfl, h.2, fun d S' bs F' H' v h3 g r2 => ?_, XQ.no⟩
    cases r2 with
    | int n => exact ⟨n, rfl, h3.1.1, h3.1.2, hq _ S' bs F' H' _ h3.2 g (.int n)⟩
    | _ => exact h3.elim
def strOwnD (C : Addr) (G : List D → M) : List D → M := fun ds S q _ => on1 ds fun d => isOb C S d ∧ G [d] S (fun r S' => onT r fun t => q (.str t) S') noX
theorem rcm_str {C : Addr} {G : List D → M} : RCM K (rStrOwn C (spG K 1 G)) (strOwnD C G) := fun as F H S ds vs I r q x h Q hq => by
  obtain ⟨d0, rfl, h⟩ := on1_ok h
  · obtain ⟨v, ws, rfl, rv, rn⟩ := r.unsn
    obtain rfl := rn.unnil
    obtain ⟨a, dx, vfs, rfl, ha⟩ := isOb_at I rv h.1
    refine ⟨a, dx, vfs, rfl, ha, as, F, S, _, _, noX, I, .cons rv .nil, rfl, h.2, fun d S' bs F' H' v h3 g r2 => ?_, XQ.no⟩
    cases r2 with
    | str t => exact ⟨t, rfl, hq _ S' bs F' H' _ h3 g (.str t)⟩
    | _ => exact h3.elim
/-! ### x is None -/
def isND (neg : Bool) : WS → D → D → Option D := fun _ x y => match y with
  | .non => (match x with
    | .non => some (.bl (!neg))
    | _ => some (.bl neg))
  | _ => none
theorem rp_non {as : List Addr} {F : Hp} {x : D} {v : V} (r : Rp K as F x v) : (v = .non ↔ x = .non) := by
  cases r <;> simp
theorem ro_isN : RO K (fun x y H Q => y = .non ∧ Q (.bl (decide (x = .non))) H) (isND false) := fun as F H S x y d vx vy I rx ry h Q q => by
  unfold isND at h
  split at h
  · cases ry
    refine ⟨rfl, ?_⟩
    split at h
    · cases h
      cases rx
      exact keep I q (.bl true)
    · rename_i hn
      cases h
      have : decide (vx = V.non) = false := decide_eq_false fun z => hn ((rp_non rx).mp z)
      rw [this]
      exact keep I q (.bl false)
  · cases h
theorem ro_notN : RO K (fun x y H Q => y = .non ∧ Q (.bl (!decide (x = .non))) H) (isND true) := fun as F H S x y d vx vy I rx ry h Q q => by
  unfold isND at h
  split at h
  · cases ry
    refine ⟨rfl, ?_⟩
    split at h
    · cases h
      cases rx
      exact keep I q (.bl false)
    · rename_i hn
      cases h
      have : decide (vx = V.non) = false := decide_eq_false fun z => hn ((rp_non rx).mp z)
      rw [this]
      exact keep I q (.bl true)
  · cases h
end
/-! ### facts about a class's own methods -/
section
variable (P : Program) (w : World) (K : PySem.W.Frag) (mg : Str → Option Value) (base : Heap)
/-- the class at C has the special method m that computes G (n values) -/
def Sc (nn : Bool) (C : Addr) (m : Str) (k n : Nat) (G : List D → M) : Prop := ∃ (f : Addr) (fd : FuncData) (ps : List Str), FnX ⟨false, nn, false⟩ P w K mg base k f fd ps (spG K n G) ∧ Binds K fd ps [] ∧ PySem.W.findIn K (.ref C) m = some (some (.ref f)) ∧ PySem.W.isFn K (.ref f) = true
/-- m is a classmethod of the class at C that computes G (n values: the class, the arguments) -/
def Cm (nn : Bool) (C : Addr) (m : Str) (k n : Nat) (G : List D → M) : Prop := ∃ (q g : Addr) (fd : FuncData) (ps : List Str), ClX.CRead K C (.type "type") ∧ ClX.CMet K C (.type "type") m q g ∧ FnX ⟨false, nn, false⟩ P w K mg base k g fd ps (spG K n G) ∧ Binds K fd ps []
/-- .. called with keywords ks alone -/
def CmK (nn : Bool) (C : Addr) (m : Str) (k n : Nat) (ks : List Str) (G : List D → M) (gD : List D → List D → List D) : Prop := ∃ (q g : Addr) (fd : FuncData) (ps : List Str) (gg : List Value → List Value → List Value) (gV : List V → List V → List V), ClX.CRead K C (.type "type") ∧ ClX.CMet K C (.type "type") m q g ∧ FnX ⟨false, nn, false⟩ P w K mg base k g fd ps (spG K n G) ∧ KBn K fd ps 1 ks gg gV ∧
  ∀ as F (zs : List D) (ws : List V), RpL K as F zs ws → zs.length = ks.length → ∃ us, gV [.ref C] ws = .ref C :: us ∧ RpL K as F (gD [] zs) us
end
section
variable {X : Cx} {W : WX} {o e : Expr} {es : List Expr} {pos apos p : Pos} {ea : Env → M} {er ek : Env → ML} {C : Addr} {m x : Str} {k j n : Nat} {G : List D → M} {pl : Sem Bool} {dvs : List D}
theorem call_lenF (c : Sc X.prog X.w X.K X.mg X.base nn C "__len__" k 1 G) (hr : Room j X.A) (hj : k + 1 ≤ j := by decide) : CallR X (.builtin "len") (rLenOwn C (spG X.K 1 G)) := by
  obtain ⟨f, fd, ps, F, hb, hs, hf⟩ := c
  exact call_lenOwn F hr hj hs hf hb
theorem call_strF (c : Sc X.prog X.w X.K X.mg X.base nn C "__str__" k 1 G) (hr : Room j X.A) (hj : k + 2 ≤ j := by decide) : CallR X (.type "str") (rStrOwn C (spG X.K 1 G)) := by
  obtain ⟨f, fd, ps, F, hb, hs, hf⟩ := c
  exact call_strOwn F hr hj hs hf hb
/-- C.m(e, ..) -/
def eCm (C : Addr) (n : Nat) (G : List D → M) (ea : Env → M) (er : Env → ML) : Env → M := fun ρ S q x => ea ρ S (fun u S1 => u = .adr C ∧ er ρ S1 (fun ds S2 => ds.length + 1 = n ∧ G (.adr C :: ds) S2 q x) x) x
def tCmX (C : Addr) (sp : Sp) (E : L2.St → XK) (ta : TE) (t : TA) : TE := fun σ H Q => ta σ H fun z H1 => z = .ref C ∧ t σ H1 fun vs H2 => sp (.ref C :: vs) H2 Q (E σ)
/-- the call of the bound classmethod -/
theorem run_cm {q0 g : Addr} {fd : FuncData} {ps : List Str} {sp : Sp} {Q : VK} {pins : List (Addr × Obj)} {σ : L2.St} {H : Hp} {s : Shared} {pa : Addr} {args : Args} {us : List Value} {vs : List V} (tk : Tk nn X W) (Fn : FnX ⟨false, nn, false⟩ X.prog X.w X.K X.mg X.base k g fd ps sp) (hr : Room k X.A)
    (I : Inv X ((pa, PySem.W.methodObj (.ref g) (.ref C)) :: pins) σ H s) (hb : BindsTo s fd ⟨.ref C :: args.pos, args.kw⟩ (ps.zip us)) (r : Vals vs us) (h : sp vs H Q (WE W σ)) :
    wpAny (model X.prog X.w) X.A (PySem.call (.ref pa) args.pos args.kw) (EP X ((pa, PySem.W.methodObj (.ref g) (.ref C)) :: pins) σ Q) X.xe s := by
  refine wpAny_call (PySem.W.method_call (ClX.pin_at I) (codeAny_mono (Fn.ok.run X.A X.stack s H _ us vs Q (WE W σ) hr I.env0 hb r h) fun r s' hq => ?_))
  cases r with
  | error e => exact tk.pass σ _ H s e s' I hq
  | ok fl =>
    cases fl with
    | ret w => exact I.after hq
    | next => exact hq.elim
    | brk => exact hq.elim
    | cont => exact hq.elim
theorem ge_cmeth (tk : Tk nn X W) (c : Cm X.prog X.w X.K X.mg X.base nn C m k n G) (hr : Room j X.A) (ho : GE X W o ea) (ha : GA X W (e :: es) er) (hj : k ≤ j := by decide)
    (hst : starEach (e :: es) X.env = (false, eval e X.env) :: starEach es X.env := by rfl) (hpl : (backTo pos (starEach es X.env)).any (·.1) = false := by rfl)
    (ht : eval (.Call (.Attribute o m apos) (e :: es) [] pos) X.env = (do
      let ov ← eval o X.env
      standAt apos.atName
      let (f, first) ← holding [ov] (getMethod ov m pl)
      callWith pos f first (backTo pos (starEach (e :: es) X.env)) (backToKw pos (keywordEach [] X.env))) := by rfl) :
    GE X W (.Call (.Attribute o m apos) (e :: es) [] pos) (eCm C n G ea er) := by
  obtain ⟨q, g, fd, ps, rd, cm, F, hb⟩ := c
  obtain ⟨to, po, mo⟩ := ho
  obtain ⟨t, pa, ma⟩ := ha
  refine ⟨tCmX C (spG X.K n G) (WE W) to t, ⟨fun pins s σ H Q I h => ?_⟩, fun as F H S ρ σ I R q x h Q hq hx => ?_⟩
  · refine PySem.W.methodCall_KW (pl := pl) (thn (po.run pins s σ H _ I h) fun u s1 hh => ?_) ht
    obtain ⟨z, H1, I1, rx, ex, q1⟩ := hh
    subst ex
    obtain rfl : u = Value.ref C := rx
    refine ClX.getmethcm_ok I1 rd cm fun s2 I2 => ?_
    refine ClX.callwith_cm I2 (ClX.base_none I1 (Nat.le_refl _)) cm.fi (thn (pa.run pos _ s2 σ H1 _ I2 q1) fun us s3 hh => ?_) hst hpl
    obtain ⟨vs, H2, I3, rv, q2⟩ := hh
    refine ⟨⟨ClX.pin_at I3, I3.kIn⟩, ?_⟩
    have r2 : Vals (V.ref C :: vs) (Value.ref C :: us) := .cons rfl rv
    have hl : (Value.ref C :: us).length = ps.length := r2.length.symm.trans (F.len _ _ _ _ q2)
    have bb := hb s3 (Value.ref C :: us) I3.kIn (by simpa using hl)
    rw [List.append_nil] at bb
    exact thn (run_cm (q0 := q) (args := ⟨us, []⟩) tk F (hr.mono hj) I3 bb r2 q2) fun _ _ y => ClX.unpinE y
  · refine mo as F H S ρ σ I R _ x h _ (fun u S1 bs F1 H1 v h1 g1 r1 => ?_) hx
    obtain ⟨e1, h1⟩ := h1
    subst e1
    cases r1
    refine ⟨rfl, ?_⟩
    refine ma bs F1 H1 S1 ρ σ g1.sit (R.grow g1) _ x h1 _ (fun ds S2 cs F2 H2 vs h2 g2 r2 => ?_) (hx.step g1)
    have g12 := g1.trans g2
    exact ⟨cs, F2, S2, _, q, x, g2.sit, .cons (.adr _) r2, by simpa using h2.1, h2.2, hq.step g12, hx.step g12⟩
/-- C.m(k = v, ..) -/
def eCmK (C : Addr) (n nk : Nat) (G : List D → M) (gD : List D → List D → List D) (ea : Env → M) (ek : Env → ML) : Env → M := fun ρ S q x => ea ρ S (fun u S1 => u = .adr C ∧ ek ρ S1 (fun zs S2 => (zs.length = nk ∧ (gD [] zs).length + 1 = n) ∧ G (.adr C :: gD [] zs) S2 q x) x) x
def tCmKX (C : Addr) (nk : Nat) (sp : Sp) (gV : List V → List V → List V) (E : L2.St → XK) (ta : TE) (t : TA) : TE := fun σ H Q => ta σ H fun x H1 => x = .ref C ∧ t σ H1 fun zs H2 => zs.length = nk ∧ sp (gV [.ref C] zs) H2 Q (E σ)
theorem ge_cmethK {ks : List Str} {gD : List D → List D → List D} {kws : List Keyword} (tk : Tk nn X W) (c : CmK X.prog X.w X.K X.mg X.base nn C m k n ks G gD) (hr : Room j X.A) (ho : GE X W o ea) (hk : GK X W kws ek) (hj : k ≤ j := by decide)
    (hall : (backToKw pos (keywordEach kws X.env)).all (·.1.isSome) = true := by rfl) (hks : (backToKw pos (keywordEach kws X.env)).filterMap (·.1) = ks := by rfl) (hpl : ((backTo pos (starEach [] X.env)).any (·.1) || (backToKw pos (keywordEach kws X.env)).any (·.1.isNone)) = false := by rfl)
    (ht : eval (.Call (.Attribute o m apos) [] kws pos) X.env = (do
      let ov ← eval o X.env
      standAt apos.atName
      let (f, first) ← holding [ov] (getMethod ov m pl)
      callWith pos f first (backTo pos (starEach [] X.env)) (backToKw pos (keywordEach kws X.env))) := by rfl) :
    GE X W (.Call (.Attribute o m apos) [] kws pos) (eCmK C n ks.length G gD ea ek) := by
  obtain ⟨q, g, fd, ps, gg, gV, rd, cm, F, kb, hg⟩ := c
  obtain ⟨to, po, mo⟩ := ho
  obtain ⟨t, pk, mk⟩ := hk
  refine ⟨tCmKX C ks.length (spG X.K n G) gV (WE W) to t, ⟨fun pins s σ H Q I h => ?_⟩, fun as F H S ρ σ I R q x h Q hq hx => ?_⟩
  · refine PySem.W.methodCall_KW (pl := pl) (thn (po.run pins s σ H _ I h) fun u s1 hh => ?_) ht
    obtain ⟨z, H1, I1, rx, ex, q1⟩ := hh
    subst ex
    obtain rfl : u = Value.ref C := rx
    refine ClX.getmethcm_ok I1 rd cm fun s2 I2 => ?_
    have hq0 : X.base.get? s1.heap.objs.size = none := ClX.base_none I1 (Nat.le_refl _)
    refine PySem.W.callWith_of (P := PySem.W.MethP X.K s1.heap.objs.size g (.ref C)) hpl (PySem.W.keeps_M cm.fi) (PyProof.Rows.evalArgs_kw2_nil hall ?_)
    refine thn (pk.run pos _ s2 σ H1 _ I2 q1) fun ws s3 hh => ?_
    obtain ⟨zs, H2, I3, rz, l2, q2⟩ := hh
    refine ⟨⟨ClX.pin_at I3, I3.kIn⟩, ?_⟩
    rw [hks]
    have hl : ws.length = ks.length := rz.length.symm.trans l2
    have z := run_cm (X := X) (q0 := q) (args := ⟨[], ks.zip ws⟩) tk F (hr.mono hj) I3 (kb.to s3 [.ref C] ws I3.kIn rfl hl) (kb.rel (vs := [.ref C]) (.cons rfl .nil) rz) q2
    exact thn z fun _ _ y => ClX.unpinE y
  · refine mo as F H S ρ σ I R _ x h _ (fun u S1 bs F1 H1 v h1 g1 r1 => ?_) hx
    obtain ⟨e1, h1⟩ := h1
    subst e1
    cases r1
    refine ⟨rfl, ?_⟩
    refine mk bs F1 H1 S1 ρ σ g1.sit (R.grow g1) _ x h1 _ (fun zs S2 cs F2 H2 vs h2 g2 r2 => ?_) (hx.step g1)
    have g12 := g1.trans g2
    obtain ⟨us, eu, ru⟩ := hg cs F2 zs vs r2 h2.1.1
    refine ⟨r2.length.symm.trans h2.1.1, ?_⟩
    rw [eu]
    exact ⟨cs, F2, S2, _, q, x, g2.sit, .cons (.adr _) ru, by simpa using h2.1.2, h2.2, hq.step g12, hx.step g12⟩
/-! ### cls(e, ..), the class held by a slot -/
def eMakeL (i : Nat) (l : Lk) (C : Addr) (n : Nat) (G : List D → M) (dvs : List D) (er : Env → ML) : Env → M := fun ρ S q x => look ρ i = some (.adr C) ∧ eMake l C n G dvs er ρ S q x
theorem ge_makeLF (i : Nat) {l : Lk} {y : Str} (tk : Tk nn X W) (c : Mc X.prog X.w X.K X.mg X.base nn y C k n G dvs) (hr : Room j X.A) (ha : GA X W (e :: es) er) (hj : k + 1 ≤ j := by decide) (hN : X.N[i]? = some x := by rfl) (hv : Vis X.env.scope x := by first | exact .inl rfl | exact .inr (.inl rfl) | exact .inr (.inr rfl) | exact .inr rfl)
    (hdb : (x == ("__debug__" : Str)) = false := by decide) (hcd : (x == ("__classdict__" : Str)) = false := by decide) (h1 : starEach (e :: es) X.env = (false, eval e X.env) :: starEach es X.env := by rfl) (h2 : (backTo pos (starEach es X.env)).any (·.1) = false := by rfl) :
    GE X W (.Call (.Name x p) (e :: es) [] pos) (eMakeL i l C n G dvs er) := by
  obtain ⟨f, fd, ps, dv, ds, Mm, Fn, hb, hd, hdv, hm⟩ := c
  obtain ⟨t, pa, ma⟩ := ha
  refine ⟨fun σ H Q => σ[i]? = some (some (.ref C)) ∧ tMakeX C (spG X.K n G) dv (WE W) t σ H Q, ⟨fun pins s σ H Q I h => ?_⟩, fun as F H S ρ σ I R q x h Q hq hx => ?_⟩
  · obtain ⟨hs, ht⟩ := h
    refine wpAny_Call_Name_kw (thn ((pe_var (pos := p) hN hv hdb hcd).run pins s σ H (fun v H1 => v = .ref C ∧ H1 = H) I ⟨.ref C, hs, rfl, rfl⟩) fun u s1 hh => ?_)
    obtain ⟨v, H1, I1, r1, q1⟩ := hh
    obtain ⟨rfl, rfl⟩ := q1
    cases r1
    refine PySem.W.callWith_K (h₀ := X.base) I.ok.mod.kin Mm.kp (thn (pa.run pos pins s1 σ _ _ I1 ht) fun us s2 hh => ?_) h1 h2
    obtain ⟨vs, H2, I2, r, q2⟩ := hh
    exact ⟨I2.kIn, run_makeX Mm Fn (hr.mono hj) hb hd tk I2 r q2⟩
  · obtain ⟨v, hv2, rv⟩ := R.at_ i _ (look_at h.1)
    cases rv
    exact ⟨hv2, me_make hdv ma as F H S ρ σ I R q x h.2 Q hq hx⟩
end
end RV
end
section
/-! The head's facts: classes, properties, own ==, tables; keywords without defaults. -/
namespace RV
open PySem L2
variable {nn : Bool}
open He (eqO eqO_ok ba ga ma)
def hookB (n : Nat) (fa : List He.Fa) (fn : List He5.DefA) (ex : PySem.W.Frag → Bool) : PySem.W.Hook where
  α := He.AlD × Bool
  obs := fun s => (He5.obsAG n fa fn s.heap.get?, ex (He.frG s.heap.get? (He5.asA s.heap.get? n)))
  val := fun _ => (He5.valA fn, true)
  says := fun _ h => ∃ K : PySem.W.Frag, K.In h ∧ He5.SaysA fa fn K ∧ ex K = true
  of := fun _ _ e => ⟨_, He.frG_in, congrArg Prod.fst e, congrArg Prod.snd e⟩
  keeps := fun _ _ _ ⟨K, hK, c⟩ k => ⟨K, PySem.W.Frag.In.keeps hK k, c⟩
def obB (n : Nat) (fa : List He.Fa) (fn : List He5.DefA) (ex : PySem.W.Frag → Bool) (g : Addr → Option Obj) : He.AlD × Bool := (He5.obsAG n fa fn g, ex (He.frG g (He5.asA g n)))
theorem obB_eq {n : Nat} {fa : List He.Fa} {fn : List He5.DefA} {ex : PySem.W.Frag → Bool} {g : Addr → Option Obj} {s : Shared} (h : ∀ a, g a = s.heap.get? a) : obB n fa fn ex g = (hookB n fa fn ex).obs s := by
  have e : g = s.heap.get? := funext h
  rw [e] <;> rfl
section
variable {K : PySem.W.Frag}
def kindB (K : PySem.W.Frag) (C : Addr) : Bool := eqO (PySem.W.findIn K (.ref C) "__class__") (some (some (.builtin "object.__class__"))) && (eqO (PySem.W.specialIn K (.builtin "object.__class__") "__get__") (some (some (.builtin "getset_descriptor.__get__"))) &&
  (decide (PySem.W.takesIn K (.builtin "object.__class__") = some true) && decide (PySem.W.mroIn K C (.type "object") = some true)))
theorem kindB_ok {C : Addr} (cl : Cls K C) (h : kindB K C = true) : KindC K C := by
  obtain ⟨h1, h⟩ := ba h
  obtain ⟨h2, h⟩ := ba h
  obtain ⟨h3, h4⟩ := ba h
  exact ⟨cl, eqO_ok h1, eqO_ok h2, of_decide_eq_true h3, of_decide_eq_true h4⟩
def propB (K : PySem.W.Frag) (C : Addr) (f : Str) : Bool := eqO (PySem.W.findIn K (.ref C) f) (some (some (.ref (ma K C f)))) && (eqO (PySem.W.specialIn K (.ref (ma K C f)) "__get__") (some (some (.builtin "property.__get__"))) &&
  (decide (PySem.W.takesIn K (.ref (ma K C f)) = some true) && (match PySem.W.recIn K (ma K C f) "property" with
    | some (.ref g :: _) => decide (g = He5.wf K C "property" f)
    | _ => false)))
theorem propB_ok {C : Addr} {f : Str} (h : propB K C f = true) : PropOf K C f (ma K C f) (He5.wf K C "property" f) := by
  obtain ⟨h1, h⟩ := ba h
  obtain ⟨h2, h⟩ := ba h
  obtain ⟨h3, h4⟩ := ba h
  refine ⟨eqO_ok h1, eqO_ok h2, of_decide_eq_true h3, ?_⟩
  split at h4
  · rename_i g r e
    have := of_decide_eq_true h4
    subst this
    exact ⟨r, e⟩
  · cases h4
def eqB (K : PySem.W.Frag) (C : Addr) : Bool := eqO (PySem.W.findIn K (.ref C) "__eq__") (some (some (.ref (ma K C "__eq__")))) && (PySem.W.isFn K (.ref (ma K C "__eq__")) && (eqO (PySem.W.findIn K (.ref C) "__ne__") (some (some (.builtin "object.__ne__"))) && decide (PySem.W.mroIn K C (.type "object") = some true)))
theorem ec_of {P : Program} {w : World} {mg : Str → Option Value} {base : Heap} {C : Addr} {k : Nat} {G : List D → M} {fd : FuncData} {ps : List Str} (h : eqB K C = true) (F : FnX ⟨false, nn, false⟩ P w K mg base k (ma K C "__eq__") fd ps (spG K 2 G)) (b : Binds K fd ps []) : Ec P w K mg base nn C k G := by
  obtain ⟨h1, h⟩ := ba h
  obtain ⟨h2, h⟩ := ba h
  obtain ⟨h3, h4⟩ := ba h
  exact ⟨_, fd, ps, F, b, eqO_ok h1, h2, eqO_ok h3, of_decide_eq_true h4⟩
def bareB (K : PySem.W.Frag) (C : Addr) : Bool := eqO (PySem.W.findIn K (.ref C) "__bool__") (some none) && eqO (PySem.W.findIn K (.ref C) "__len__") (some none)
theorem bareB_ok {C : Addr} (h : bareB K C = true) : PySem.W.findIn K (.ref C) "__bool__" = some none ∧ PySem.W.findIn K (.ref C) "__len__" = some none := ⟨eqO_ok (ba h).1, eqO_ok (ba h).2⟩
/-- isinstance among ts (kinds) and us (classes): sub tells -/
def tabD (ts us : List Value) (sub : Value → Value → Bool) (t u : Value) : Option Bool := if t ∈ ts ∧ u ∈ us then some (sub t u) else none
def tabB (K : PySem.W.Frag) (ts us : List Value) (sub : Value → Value → Bool) : Bool := ts.all fun t => us.all fun u => decide (PySem.W.kitOne K t u = some (sub t u))
theorem tabB_ok {ts us : List Value} {sub : Value → Value → Bool} (h : tabB K ts us sub = true) (t u : Value) (b : Bool) (e : tabD ts us sub t u = some b) : PySem.W.kitOne K t u = some b := by
  unfold tabD at e
  split at e
  · rename_i hm
    cases e
    exact of_decide_eq_true (List.all_eq_true.mp (List.all_eq_true.mp h t hm.1) u hm.2)
  · cases e
def nfB (K : PySem.W.Frag) (C : Addr) (ts : List Value) : Bool := ts.all fun t => PySem.W.notFirst K C t
def nfD (ts : List Value) (t : Value) : Bool := decide (t ∈ ts)
theorem nfB_ok {C : Addr} {ts : List Value} (h : nfB K C ts = true) (t : Value) (e : nfD ts t = true) : PySem.W.notFirst K C t = true := List.all_eq_true.mp h t (of_decide_eq_true e)
theorem kbn0 {x qual : Str} {params : Arguments} {body : List Stmt} {scope : Scope} {kws : List (Str × V)} {f : Addr} {fd : FuncData} {ps : List Str} (F : FunD K x qual params body scope [] kws f fd) (n : Nat) (ks : List Str) (g : {α : Type} → List α → List α → List α)
    (hrel : ∀ {vs zs : List V} {us ws : List Value}, Vals vs us → Vals zs ws → Vals (g vs zs) (g us ws))
    (h : ∀ (kV doc pm : Value) (an : Option Addr) (cdv ct : Value) (us ws : List Value), us.length = n → ws.length = ks.length → bindArgs (PySem.W.fnOf x qual params body scope .none kV doc pm an cdv ct) ⟨us, ks.zip ws⟩ = pure (ps.zip (g us ws))) : KBn K fd ps n ks g g := by
  obtain ⟨oc, od, dV, kV, doc, pm, an, cdv, ct, osl, rfl, lk, hcd, hD, hK⟩ := F.ex
  rcases hD with ⟨_, rfl⟩ | ⟨e, _⟩
  · exact ⟨fun s us ws X l1 l2 => BindsTo.of_eq (h kV doc pm an cdv ct us ws l1 l2), fun r1 r2 => hrel r1 r2⟩
  · exact absurd rfl e
end
end RV
namespace RV
open PySem L2
open He (eqO eqO_ok ba ga ma)
/-- keywords' values into the parameters' order -/
def perm {α : Type} (m : List Nat) (us ws : List α) : List α := us ++ m.flatMap fun i => (ws.drop i).take 1
theorem vals_take1 {vs : List V} {us : List Value} (h : Vals vs us) : Vals (vs.take 1) (us.take 1) := by
  cases h with
  | nil => exact .nil
  | cons a _ => exact .cons a .nil
theorem vals_perm {m : List Nat} {vs zs : List V} {us ws : List Value} (r1 : Vals vs us) (r2 : Vals zs ws) : Vals (perm m vs zs) (perm m us ws) := by
  refine r1.append ?_
  induction m with
  | nil => exact .nil
  | cons i m ih =>
    rw [List.flatMap_cons, List.flatMap_cons]
    exact (vals_take1 (r2.drop i)).append ih
theorem rpl_drop {K : PySem.W.Frag} {as : List Addr} {F : Hp} : ∀ (n : Nat) {ds : List D} {vs : List V}, RpL K as F ds vs → RpL K as F (ds.drop n) (vs.drop n)
  | 0, _, _, h => h
  | _ + 1, _, _, .nil => .nil
  | n + 1, _, _, .cons _ r => rpl_drop n r
theorem rpl_take1 {K : PySem.W.Frag} {as : List Addr} {F : Hp} {ds : List D} {vs : List V} (h : RpL K as F ds vs) : RpL K as F (ds.take 1) (vs.take 1) := by
  cases h with
  | nil => exact .nil
  | cons a _ => exact .cons a .nil
theorem rpl_perm {K : PySem.W.Frag} {as : List Addr} {F : Hp} {m : List Nat} {ds zs : List D} {vs ws : List V} (r1 : RpL K as F ds vs) (r2 : RpL K as F zs ws) : RpL K as F (perm m ds zs) (perm m vs ws) := by
  refine r1.append ?_
  induction m with
  | nil => exact .nil
  | cons i m ih =>
    rw [List.flatMap_cons, List.flatMap_cons]
    exact (rpl_take1 (rpl_drop i r2)).append ih
theorem mkK_of {P : Program} {w : World} {K : PySem.W.Frag} {mg : Str → Option Value} {base : Heap} {x y qual : Str} {params : Arguments} {body : List Stmt} {scope : Scope} {kws : List (Str × V)} {f C : Addr} {fd : FuncData} {ps : List Str} {k n : Nat} {G : List D → M} (m1 : Nat) (ks : List Str) (m : List Nat) (F : FunD K x qual params body scope [] kws f fd) (M : Mk K C f) (ok : FnX ⟨false, nn, false⟩ P w K mg base k f fd ps (spG K n G)) (hm : mg y = some (.ref C))
    (h : ∀ (kV doc pm : Value) (an : Option Addr) (cdv ct : Value) (us ws : List Value), us.length = m1 + 1 → ws.length = ks.length → bindArgs (PySem.W.fnOf x qual params body scope .none kV doc pm an cdv ct) ⟨us, ks.zip ws⟩ = pure (ps.zip (perm m us ws))) :
    Mk_ P w K mg base nn y C k n m1 ks G (perm m) :=
  ⟨f, fd, ps, perm m, perm m, M, ok, kbn0 F (m1 + 1) ks (perm m) vals_perm h, fun as F ds zs vs ws s r1 r2 _ _ => ⟨perm m vs ws, rfl, rpl_perm r1 r2⟩, hm⟩
end RV
namespace RV
open PySem L2
/-! ### the head -/
section
open He (eqO eqO_ok ba ga ma)
variable {P : Program} {w : World} {K : PySem.W.Frag} {mg : Str → Option Value} {base : Heap} {C : Addr} {k n : Nat} {G : List D → M} {fd : FuncData} {ps : List Str}
def specB (K : PySem.W.Frag) (C : Addr) (m : Str) : Bool := eqO (PySem.W.findIn K (.ref C) m) (some (some (.ref (ma K C m)))) && PySem.W.isFn K (.ref (ma K C m))
theorem sc_of {m : Str} (h : specB K C m = true) (F : FnX ⟨false, nn, false⟩ P w K mg base k (ma K C m) fd ps (spG K n G)) (b : Binds K fd ps []) : Sc P w K mg base nn C m k n G :=
  ⟨_, fd, ps, F, b, eqO_ok (ba h).1, (ba h).2⟩
def readB (K : PySem.W.Frag) (C : Addr) : Bool := PySem.W.readsIn K C (.type "type") && eqO (PySem.W.specialIn K (.ref C) "__getattribute__") (some (some (.builtin "type.__getattribute__")))
def cmetB (K : PySem.W.Frag) (C : Addr) (m : Str) : Bool := He5.wrapB K C "classmethod" "classmethod.__get__" m && PySem.W.fnIn K (He5.wf K C "classmethod" m)
theorem cm_of {m : Str} (h0 : readB K C = true) (h : cmetB K C m = true) (F : FnX ⟨false, nn, false⟩ P w K mg base k (He5.wf K C "classmethod" m) fd ps (spG K n G)) (b : Binds K fd ps []) : Cm P w K mg base nn C m k n G :=
  ⟨_, _, fd, ps, ⟨(ba h0).1, eqO_ok (ba h0).2⟩, He5.cmet_of (ba h).1 (ba h).2, F, b⟩
theorem cmK_of {m x qual : Str} {params : Arguments} {body : List Stmt} {scope : Scope} {kws : List (Str × V)} (ks : List Str) (pm : List Nat) (h0 : readB K C = true) (h : cmetB K C m = true) (Fd : FunD K x qual params body scope [] kws (He5.wf K C "classmethod" m) fd) (F : FnX ⟨false, nn, false⟩ P w K mg base k (He5.wf K C "classmethod" m) fd ps (spG K n G))
    (hb : ∀ (kV doc pm_ : Value) (an : Option Addr) (cdv ct : Value) (us ws : List Value), us.length = 1 → ws.length = ks.length → bindArgs (PySem.W.fnOf x qual params body scope .none kV doc pm_ an cdv ct) ⟨us, ks.zip ws⟩ = pure (ps.zip (perm pm us ws))) : CmK P w K mg base nn C m k n ks G (perm pm) :=
  ⟨_, _, fd, ps, perm pm, perm pm, ⟨(ba h0).1, eqO_ok (ba h0).2⟩, He5.cmet_of (ba h).1 (ba h).2, F, kbn0 Fd 1 ks (perm pm) vals_perm hb, fun as F zs ws r _ => ⟨perm pm [] ws, rfl, rpl_perm .nil r⟩⟩
/-- the empty tuple that is a default -/
def tup0B (K : PySem.W.Frag) (a : Addr) : Bool := match K.lookup a with
  | some ⟨.type T, none, .seq its _, _⟩ => decide (T = "tuple") && its.isEmpty
  | _ => false
end
end RV
end
section
/-! The own classes of a text; small things for the printed proofs. -/
namespace RV
open PySem L2
variable {nn : Bool}
/-- where the own classes stand; those that are there -/
structure Ad where
  c : String → Addr
  here : List String
  t : String → Addr := fun _ => 0
structure AdOk (A : Ad) (cs : List String) : Prop where
  here : A.here = cs
  nd : (cs.map A.c).Nodup
def own (A : Ad) (C : Addr) : Bool := A.here.any fun n => A.c n == C
def kinds (A : Ad) : List Value := [.type "NoneType", .type "bool", .type "int", .type "str", .type "tuple", .type "list", .type "dict"] ++ A.here.map fun n => .ref (A.c n)
def clss (A : Ad) : List Value := [.type "bool", .type "int", .type "str", .type "tuple", .type "list", .type "dict"] ++ A.here.map fun n => .ref (A.c n)
def sub (_ : Ad) (t u : Value) : Bool := decide (t = u) || (decide (t = .type "bool") && decide (u = .type "int"))
def tab (A : Ad) : Value → Value → Option Bool := tabD (kinds A) (clss A) (sub A)
def nf (A : Ad) : Value → Bool := nfD (kinds A)
theorem own_of {K : PySem.W.Frag} {A : Ad} (h : ∀ n ∈ A.here, KindC K (A.c n)) (C : Addr) (e : own A C = true) : KindC K C := by
  unfold own at e
  obtain ⟨n, hn, e⟩ := List.any_eq_true.mp e
  rw [← beq_iff_eq.mp e]
  exact h n hn
theorem nogd {p : Prop} : false = true → p := fun h => nomatch h
theorem FnX.up {P : Program} {w : World} {K : PySem.W.Frag} {mg : Str → Option Value} {base : Heap} {k : Nat} {f : Addr} {fd : FuncData} {ps : List Str} {sp : Sp} (F : FnX ⟨false, nn, false⟩ P w K mg base k f fd ps sp) : FnX ⟨true, nn, false⟩ P w K mg base k f fd ps sp :=
  ⟨F.len, fun A outer s H args us vs Q E _ => F.run A outer s H args us vs Q E nogd⟩
section
variable {X : Cx} {W : WX} {pos : Pos}
/-- a try whose body raises nothing -/
def sCalm (m : Env → MS) : Env → MS := fun ρ S k => m ρ S ⟨k.nx, k.rt, k.bk, k.ct, fun _ _ _ => False⟩
theorem gs_tryThru {body : List Stmt} {h0 : ExceptHandler} {hs : List ExceptHandler} {m : Env → MS} (h : GSs X.nox WF body m) : GS X W (.Try body (h0 :: hs) [] [] pos) (sCalm m) := by
  obtain ⟨t, p, m⟩ := h
  exact ⟨_, ps_try_thru0 p, fun as F H S ρ σ I R k h E q => m as F H S ρ σ I R _ h E ⟨q.nx, q.rt, q.bk, q.ct, fun _ _ _ _ _ _ _ _ _ h => h.elim⟩⟩
end
end RV
end
section
/-! An own error is raised: its __init__ keeps the one value that it is given. -/
namespace RV
open PySem L2
variable {nn h : Bool}
/-- what such an __init__ does -/
def spX (K : PySem.W.Frag) (f : Str) : Sp := fun vs H Q _ => ∃ (a C : Addr) (y : V), vs = [.ref a, y] ∧ OexC K C ∧ PySem.W.findIn K (.ref C) f = some none ∧ H a = some (exo a C none) ∧
  ∀ dx, H dx = none → dx ≠ a → Q .non (upd (upd H dx (exd dx [(f, y)])) a (exo a C (some dx)))
section
variable {P : Program} {w : World} {K : PySem.W.Frag} {mg : Str → Option Value} {base : Heap}
theorem fn_X {x qual : Str} {params : Arguments} {body : List Stmt} {scope : Scope} {dvs : List V} {kws : List (Str × V)} {f : Addr} {fd : FuncData} {ps : List Str} {g : Str} (F : FunD K x qual params body scope dvs kws f fd) (S : FnScope ps ps scope) (h2 : ps.length = 2)
    (hb : ∀ (cdv : Value) (A : Around) (outer : List PySem.Env) (s : Shared) (H : Hp) (E : XK) (pp : Addr × Obj), PSs (cxG nn h P w K mg base ps qual scope f cdv A outer s H E pp) body (tOst K g (tVar 0) (tVar 1))) : FnX ⟨false, nn, h⟩ P w K mg base 1 f fd ps (spX K g) := by
  refine fnX_of F S (fun vs H Q E h => ?_) (fun cdv A outer s H vs Q E pp _ hg hr h => ?_)
  · obtain ⟨a, C, y, rfl, _⟩ := h
    exact h2.symm
  · refine ⟨_, hb cdv A outer s H E pp, ?_⟩
    obtain ⟨a, C, y, rfl, T, hn, ha, q⟩ := h
    match ps, h2 with
    | [p0, p1], _ => exact ⟨y, rfl, .ref a, rfl, a, C, rfl, T, hn, .inl ⟨ha, q⟩⟩
/-- the module's name x is the class at C of own errors that keep their value as g -/
def Xc (P : Program) (w : World) (K : PySem.W.Frag) (mg : Str → Option Value) (base : Heap) (x : Str) (C : Addr) (g : Str) : Prop := ∃ (f : Addr) (fd : FuncData) (ps : List Str), OexC K C ∧ PySem.W.findIn K (.ref C) "__init__" = some (some (.ref f)) ∧ PySem.W.typeIn K (.ref f) = some (.type "function") ∧
  PySem.W.findIn K (.ref C) g = some none ∧ (∀ nn h, FnX ⟨false, nn, h⟩ P w K mg base 1 f fd ps (spX K g)) ∧ Binds K fd ps [] ∧ mg x = some (.ref C)
end
/-- C(e): the error's dict is new -/
def tMkX (C : Addr) (g : Str) (te : TE) : L2.St → Hp → XK → Prop := fun σ H Q => te σ H fun y H1 => ∀ d, H1 d = none → Q (.ref C) (some d) (upd H1 d (.xd [(g, y)]))
def oneX (C : Addr) (g : Str) (Q : XK) (vs : List V) (H1 : Hp) : Prop := match vs with
  | [y] => ∀ d, H1 d = none → Q (.ref C) (some d) (upd H1 d (.xd [(g, y)]))
  | _ => False
theorem oneX_ok {C : Addr} {g : Str} {Q : XK} {vs : List V} {H1 : Hp} (h : oneX C g Q vs H1) : ∃ y, vs = [y] ∧ ∀ d, H1 d = none → Q (.ref C) (some d) (upd H1 d (.xd [(g, y)])) := by
  match vs, h with
  | [y], h => exact ⟨y, rfl, h⟩
theorem spX_new {K : PySem.W.Frag} {C a : Addr} {g : Str} {y : V} {H1 : Hp} {Q : XK} (T : OexC K C) (hno : PySem.W.findIn K (.ref C) g = some none) (fr : H1 a = none) (q1 : ∀ d, H1 d = none → Q (.ref C) (some d) (upd H1 d (.xd [(g, y)]))) :
    spX K g [.ref a, y] (upd H1 a (exo a C none)) (fun v H2 => v = .non ∧ ∃ (d : Addr) (fs : List (Str × V)), H2 a = some (exo a C (some d)) ∧ H2 d = some (exd d fs) ∧ H1 d = none ∧ Q (.ref C) (some d) (upd (del H2 a) d (.xd fs))) (fun _ _ _ => False) := by
    refine ⟨a, C, y, rfl, T, hno, upd_same, fun dx hdx hne => ⟨rfl, dx, [(g, y)], upd_same, by rw [upd_ne hne, upd_same], ?_, ?_⟩⟩
    · rwa [upd_ne hne] at hdx
    · have z : upd (del (upd (upd (upd H1 a (exo a C none)) dx (exd dx [(g, y)])) a (exo a C (some dx))) a) dx (.xd [(g, y)]) = upd H1 dx (.xd [(g, y)]) := by
        funext b
        by_cases hb : b = dx
        · subst hb
          rw [upd_same, upd_same]
        · rw [upd_ne hb, upd_ne hb]
          by_cases hb2 : b = a
          · subst hb2
            rw [del_same, fr]
          · rw [del_ne hb2, upd_ne hb2, upd_ne hb, upd_ne hb2]
      rw [z]
      rw [upd_ne hne] at hdx
      exact q1 dx hdx
section
variable {X : Cx} {W : WX} {e : Expr} {te : TE} {pos p : Pos} {x g : Str} {C : Addr} {j : Nat}
theorem pmk_x (c : Xc X.prog X.w X.K X.mg X.base x C g) (hr : Room j X.A) (ha : PE X e te) (hj : 2 ≤ j := by decide) (hg : Gl X x := by rfl) (hdb : (x == ("__debug__" : Str)) = false := by decide)
    (he : starEach [e] X.env = [(false, eval e X.env)] := by rfl) : L2N.PMk X (.Call (.Name x p) [e] [] pos) (tMkX C g te) := by
  obtain ⟨f, fd, ps, T, iC, tI, hno, F0, hb, hm⟩ := c
  have F1 := F0 true false
  intro pins s σ H Q I h
  obtain ⟨nm, qn, N, bs, bm, sn, sub, ab, col, dd, k0, k1, k2, k3, k5, hC, hbm⟩ := T.cls
  refine wpAny_Call_Name_kw (ld_glob I hg hm ?_ hdb)
  refine PySem.W.callWith_K (h₀ := X.base) I.ok.mod.kin T.kC (thn ((pa_cons ha pa_nil he).run pos pins s σ H (oneX C g Q) I h) fun us s1 hh => ?_) he rfl
  obtain ⟨vs, H1, I1, r1, q0⟩ := hh
  obtain ⟨y, rfl, q1⟩ := oneX_ok q0
  refine ⟨I1.kIn, ?_⟩
  show wpAny _ _ (call (.ref C) us) _ _ _
  match us, r1 with
  | [u], .cons ru .nil =>
  obtain ⟨hp, gg, dr, tk1, os⟩ := s1
  have up : hp.objs.size ≤ hp.objs.size + 1 := Nat.le_succ _
  have fr : H1 (hp.objs.size + 1) = none := I1.hok.fresh up
  generalize ea : hp.objs.size + 1 = a at up fr
  have old : ∀ b o, hp.get? b = some o → ((hp.push (PySem.W.kdv_tup [u])).push (PySem.HandSPX.excO C hp.objs.size)).get? b = some o := fun b o z => Heap.get?_push_of_some _ (Heap.get?_push_of_some _ z)
  have new : ((hp.push (PySem.W.kdv_tup [u])).push (PySem.HandSPX.excO C hp.objs.size)).get? a = some (PySem.HandSPX.excO C hp.objs.size) := by
    rw [← ea]
    heap_get
  have J : Inv X pins σ (upd H1 a (exo a C none)) ⟨(hp.push (PySem.W.kdv_tup [u])).push (PySem.HandSPX.excO C hp.objs.size), gg, dr, tk1, os⟩ := I1.laid (t' := tk1) (a := a) (o := exo a C none) old up (exo_ok new)
  have rr : Vals [V.ref a, y] [Value.ref a, u] := .cons rfl (.cons ru .nil)
  have sp := spX_new (Q := Q) T hno fr q1
  have hlen : ([Value.ref a, u] ++ []).length = ps.length := by
    have := F1.len _ _ _ _ sp
    exact this
  have bb := hb _ [Value.ref a, u] J.kIn hlen
  have hus : [u].length ≤ sizeLine := by show 1 ≤ sizeLine; decide
  have hr1 : Room (1 + 1) X.A := hr.mono hj
  subst ea
  refine wpAny_call (PySem.HandSPX.call_own F.excBase_ValueError (fun Y => PySem.HandSPX.refsVE_contains Y bm hbm) (I1.kIn _ _ hC) (PySem.W.looks_findIn I1.kIn iC) (fun self => PySem.W.bind_fn I1.kIn self tI) hus
    (codeAny_mono (F1.ok.run _ X.stack _ _ ⟨[Value.ref (hp.objs.size + 1), u], []⟩ [Value.ref (hp.objs.size + 1), u] _ _ (fun _ _ _ => False) (hr1.make C [u] []) (J.env0.make C [u] []) bb rr sp) fun r s' hq => ?_))
  cases r with
  | error er =>
    exact (cxm_no (n := true) hq).elim
  | ok fl =>
    cases fl with
    | ret v =>
      obtain ⟨v1, H2, os2, bare2, un2, hok2, rv, ev, d, fs, e1, e2, hd1, q2⟩ := hq
      subst ev
      obtain ⟨h2, g2, d2, t2, os'⟩ := s'
      obtain ⟨t0, G, J2, kG, gn, there, na⟩ := mk_end0 (d2 := d2) (t2 := t2) I1 up old un2 hok2 os2 bare2 e1 e2 hd1
      refine ⟨rv, hp.objs.size + 1, _, _, ⟨G, g2, d2, t2, os'⟩, _, .ref C, some d, rfl, J2, kG, gn, there, ⟨rfl, rfl, fun zs hz => ?_⟩, rfl, rfl, na, rfl, bare2, raises_own T.exC T.tyC, q2⟩
      cases hz
      rfl
    | next => exact hq.elim
    | brk => exact hq.elim
    | cont => exact hq.elim
/-! ### the statement -/
theorem ps_raiseM {t : L2.St → Hp → XK → Prop} {pos : Pos} (hc : X.calm = true) (tk : Tk nn X W) (he : L2N.PMk X e t) : PS X (.Raise (some e) none pos) (fun _ σ H => t σ H fun cls d H' => W cls d σ H') := by
  cases nn
  · refine L2.ps_raise hc tk fun pins s σ H Q I q => thn (he pins s σ H Q I q) fun u s1 hu => ?_
    obtain ⟨a, oe, vs, sI, H', cls, d, z1, z2, z3, z4, z5, z6, z7⟩ := hu
    exact ⟨a, oe, vs, sI, H', cls, d, z1, z2, z3, z4, z5, z6.zc, z7⟩
  · exact L2N.ps_raise hc tk he
def sRaise (C : Addr) (g : Str) (ea : Env → M) : Env → MS := fun ρ S k => ea ρ S (fun d S' => k.ex (.exc C [(g, d)]) ρ S') fun e S' => k.ex e ρ S'
theorem gs_raise {ea : Env → M} {pos' : Pos} (hc : X.calm = true) (tk : Tk nn X W) (c : Xc X.prog X.w X.K X.mg X.base x C g) (hr : Room j X.A) (ha : GE X W e ea) (hj : 2 ≤ j := by decide) (hg : Gl X x := by rfl) (hdb : (x == ("__debug__" : Str)) = false := by decide)
    (he : starEach [e] X.env = [(false, eval e X.env)] := by rfl) : GS X W (.Raise (some (.Call (.Name x p) [e] [] pos)) none pos') (sRaise C g ea) := by
  obtain ⟨t, p, m⟩ := ha
  refine ⟨_, ps_raiseM hc tk (pmk_x c hr p hj hg hdb he), fun as F H S ρ σ I R k h E q => ?_⟩
  refine m as F H S ρ σ I R _ _ h _ (fun d S1 bs F1 H1 v h1 g1 r1 => ?_) (q.xq R)
  intro dd hdd
  have g2 := g1.sit.grow (o := .xd [(g, v)]) hdd
  have g12 := g1.trans g2
  exact q.ex _ ρ S1 bs _ _ σ _ _ h1 g12 (R.grow g12) ⟨C, dd, [(g, d)], [(g, v)], rfl, rfl, rfl, upd_same, .cons (RpE_aux g2 r1) .nil⟩
end
end RV
end
section
/-! try .. except C: a suite that raises nothing and calls nothing. -/
namespace RV
open PySem L2
def onX (e : D) (k : Addr → List (Str × D) → Prop) : Prop := match e with
  | .exc C fs => k C fs
  | _ => False
theorem onX_e {C : Addr} {fs : List (Str × D)} {k : Addr → List (Str × D) → Prop} : onX (.exc C fs) k = k C fs := rfl
/-- what runs, whatever it is -/
def tWp (X : Cx) (sts : List Stmt) : TS := fun E σ H => ∀ (pins : List (Addr × Obj)) (s : Shared), Inv X pins σ H s → wpAny (model X.prog X.w) X.A (execs sts X.env) (SP X pins E) X.xe s
theorem pss_wp {X : Cx} {sts : List Stmt} : PSs X sts (tWp X sts) := ⟨fun pins s σ H E I h => h pins s I⟩
def sTry1 (L : List Addr) (mb ms : Env → MS) : Env → MS := fun ρ S k => mb ρ S ⟨k.nx, k.rt, k.bk, k.ct, fun e ρ' S' => onX e fun C _ => C ∈ L ∧ ms ρ' S' ⟨k.nx, k.rt, k.bk, k.ct, fun _ _ _ => False⟩⟩
section
variable {X : Cx} {W : WX} {x : Str} {c : Value} {body suite : List Stmt} {b0 : Stmt} {np pos pos' : Pos} {mb ms : Env → MS} {L : List Addr}
theorem gs_try1 (hc : Names X x c) (hL : ∀ C ∈ L, PySem.W.exmOne X.K (.ref C) c = some true)
    (hb : ∀ (W : WX) (pn : List (Addr × Obj)) (xe : Value → Shared → Prop), Tk false (X.tr pn xe) W → GSs (X.tr pn xe) W body mb)
    (hsu : ∀ (a : Addr) (oe : Obj) (pn : List (Addr × Obj)), GSs (X.suite a ((a, oe) :: pn)) WF (b0 :: suite) ms)
    (hs : X.stack = X.env :: X.outer := by rfl) (hf : X.env.frame = some X.env.locals := by rfl) :
    GS X W (.Try body [.ExceptHandler (some (.Name x np)) none (b0 :: suite) pos'] [] [] pos) (sTry1 L mb ms) := by
  let tb : WX → TS := fun W E σ H => ∀ (pn : List (Addr × Obj)) (xe : Value → Shared → Prop), Tk false (X.tr pn xe) W → tWp (X.tr pn xe) body E σ H
  let tsu : Addr → Value → Option Addr → TS := fun a cls d E σ H => ∀ (oe : Obj) (pn : List (Addr × Obj)), tWp (X.suite a ((a, oe) :: pn)) (b0 :: suite) E σ H
  refine ⟨_, ps_try_only (tb := tb) (ts := tsu) (Wout := WF) hs hf hc (tkF (nn := false)) (fun W pn xe tk _ => ⟨fun pins s σ H E I h => h pn xe tk pins s I⟩) (fun a oe cls d pn _ _ => ⟨fun pins s σ H E I h => h oe pn pins s I⟩), fun as F H S ρ σ I R k h E q => ?_⟩
  intro pn xe tk
  obtain ⟨t, p, m⟩ := hb _ pn xe tk
  intro pins s J
  refine p.run pins s σ H E J (m as F H S ρ σ I R _ h E ⟨q.nx, q.rt, q.bk, q.ct, fun e ρ' S' bs F' H' σ' cls dd hx g R' r => ?_⟩)
  obtain ⟨C, d, fs, vfs, rfl, rfl, rfl, r4, r5⟩ := r
  refine ⟨true, hL C hx.1, fun _ a ha oe pn2 pins2 s2 J2 => ?_, fun z => nomatch z⟩
  obtain ⟨t2, p2, m2⟩ := hsu a oe pn2
  exact p2.run pins2 s2 σ' H' E J2 (m2 bs F' H' S' ρ' σ' g.sit R' _ hx.2 E ⟨(q.step g).nx, (q.step g).rt, (q.step g).bk, (q.step g).ct, fun _ _ _ _ _ _ _ _ _ z => z.elim⟩)
/-! ### a suite that raises another error -/
def sTry2 (L : List Addr) (mb : Env → MS) (C : Addr) (g : Str) (ea : Env → M) : Env → MS := fun ρ S k => mb ρ S ⟨k.nx, k.rt, k.bk, k.ct, fun e ρ' S' => onX e fun C' _ => C' ∈ L ∧ sRaise C g ea ρ' S' k⟩
theorem FnX.hot {nn : Bool} {P : Program} {w : World} {K : PySem.W.Frag} {mg : Str → Option Value} {base : Heap} {k : Nat} {f : Addr} {fd : FuncData} {ps : List Str} {sp : Sp} (F : FnX ⟨false, nn, true⟩ P w K mg base k f fd ps sp) : L2H.FnH P w K mg base (CXm nn P w) k f fd ps sp :=
  ⟨F.len, fun A outer s H args us vs Q E p hr hot hp e0 hb r h => F.run A outer s H args us vs Q E (fun z => nomatch z) ⟨hr, p, hp, hot.1⟩ e0 hb r h⟩
theorem gs_try2 {y g : Str} {C : Addr} {j : Nat} {e : Expr} {ea : Env → M} {p1 p2 p3 p4 : Pos} {n1 : Nat} (hc : Names X x c) (hL : ∀ C ∈ L, PySem.W.exmOne X.K (.ref C) c = some true) (tk : Tk false X W) (hr : Room j X.A) (cx : Xc X.prog X.w X.K X.mg X.base y C g)
    (hb : ∀ (W : WX) (pn : List (Addr × Obj)) (xe : Value → Shared → Prop), Tk true (X.tr pn xe) W → GSs (X.tr pn xe) W body mb)
    (hsu : ∀ (a : Addr) (oe : Obj) (pn : List (Addr × Obj)), GE (L2H.suiteX X a ((a, oe) :: pn)) W e ea)
    (hpa : ∀ hd : Option Value, PassesOwnAt (model X.prog X.w) (X.A.mark hd) X.A X.env X.xe) (hj : 2 ≤ j := by decide) (hg : Gl X y := by rfl) (hdb : (y == ("__debug__" : Str)) = false := by decide)
    (he : ∀ (a : Addr) (pn : List (Addr × Obj)), starEach [e] (L2H.suiteX X a pn).env = [(false, eval e (L2H.suiteX X a pn).env)] := by intros; rfl)
    (hs : X.stack = X.env :: X.outer := by rfl) (hf : X.env.frame = some X.env.locals := by rfl) :
    GS X W (.Try body [.ExceptHandler (some (.Name x np)) none [.Raise (some (.Call (.Name y p1) [e] [] p2)) (some (.Constant .none n1 p3)) p4] pos'] [] [] pos) (sTry2 L mb C g ea) := by
  obtain ⟨f, fd, ps, T, iC, tI, hno, F0, hbd, hm⟩ := cx
  let tb : WX → TS := fun W E σ H => ∀ (pn : List (Addr × Obj)) (xe : Value → Shared → Prop), Tk true (X.tr pn xe) W → tWp (X.tr pn xe) body E σ H
  let tsu : Addr → Value → Option Addr → TS := fun a cls d E σ H => ∀ (oe : Obj) (pn : List (Addr × Obj)), L2N.Zn cls d oe → (∃ vs, oe.data = .fields vs) → L2.Takes (L2H.suiteX X a ((a, oe) :: pn)) W → L2H.HotC (L2H.suiteX X a ((a, oe) :: pn)) →
    tWp (L2H.suiteX X a ((a, oe) :: pn)) [.Raise (some (.Call (.Name y p1) [e] [] p2)) (some (.Constant .none n1 p3)) p4] E σ H
  refine ⟨_, L2H.ps_try_onlyX (tb := tb) (ts := tsu) (Wout := W) hs hf hc hpa tk (fun W pn xe tk _ _ => ⟨fun pins s σ H E I h => h pn xe tk pins s I⟩) (fun a oe cls d pn z1 z2 z3 z4 => ⟨fun pins s σ H E I h => h oe pn z1 z2 z3 z4 pins s I⟩), fun as F H S ρ σ I R k h E q => ?_⟩
  intro pn xe tk2
  obtain ⟨t, p, m⟩ := hb _ pn xe tk2
  intro pins s J
  refine p.run pins s σ H E J (m as F H S ρ σ I R _ h E ⟨q.nx, q.rt, q.bk, q.ct, fun e0 ρ' S' bs F' H' σ' cls dd hx gg R' r => ?_⟩)
  obtain ⟨C', d, fs, vfs, rfl, rfl, rfl, r4, r5⟩ := r
  refine ⟨true, hL C' hx.1, fun _ a ha oe pn2 z1 z2 z3 z4 pins2 s2 J2 => ?_, fun z => nomatch z⟩
  obtain ⟨t2, pp2, m2⟩ := hsu a oe pn2
  have pk := L2H.pmk5_oexH (X := L2H.suiteX X a ((a, oe) :: pn2)) (p := p1) (pos := p2) T iC tI (F0 true true).hot (L2H.roomH_mark (hr.mono hj) _) z4 hbd (fun pins σ H s e s' I c => (cxm_no (n := true) c).elim) hg hm (pa_cons pp2 pa_nil (he a _)) hdb (he a _) rfl
  refine (pss_one (L2H.ps_raiseHN z4 z3 pk)).run pins2 s2 σ' H' E J2 ?_
  refine m2 bs F' H' S' ρ' σ' gg.sit R' _ _ hx.2 _ (fun d0 S1 cs F1 H1 v h1 g1 r1 => ⟨by show 1 ≤ 1000; decide, fun a0 fr => spX_new (y := v) (Q := fun cls d H' => W cls d σ' H') T hno fr fun d2 hd2 => ?_⟩) ((q.step gg).xq R')
  have g2 := g1.sit.grow (o := .xd [(g, v)]) hd2
  have g12 := g1.trans g2
  exact (q.step gg).ex _ ρ' S1 cs _ _ σ' _ _ h1 g12 (R'.grow g12) ⟨C, d2, [(g, d0)], [(g, v)], rfl, rfl, rfl, upd_same, .cons (RpE_aux g2 r1) .nil⟩
end
end RV
end
section
/-! try .. except (A, B, C) as n: every error of the body is one of them. -/
namespace RV
open PySem L2 PySem.Spec PyProof.Rows
theorem fly_keep {h h' B : Heap} {l : List PySem.Env} {a : Addr} {Z : Obj → Prop} (x : HandSPX.FlyingZ B l a Z h) (k : ∀ b o, h.get? b = some o → h'.get? b = some o) : HandSPX.FlyingZ B l a Z h' := by
  obtain ⟨x1, x2, x3, oe, vs, T, oT, ts, y1, y2, y3, y4, y5, y6, y7, y8, y9⟩ := x
  exact ⟨fun b o e => k b o (x1 b o e), x2, Heap.FunFrames.of_keeps (fun b o e _ => ⟨o, k b o e, rfl⟩) x3, oe, vs, T, oT, ts, k _ _ y1, y2, y3, y4, y5, y6, k _ _ y7, y8, y9⟩
/-- the ends of a suite whose name n (slot i) is gone behind it -/
def endsAs (i : Nat) (E : Ends) : Ends := { nx := fun σ H => E.nx (σ.set i none) H, rt := E.rt, bk := fun σ H => E.bk (σ.set i none) H, ct := fun σ H => E.ct (σ.set i none) H }
def w3 (K : PySem.W.Frag) (cs : List Value) (i : Nat) (ts : Addr → Value → Option Addr → TS) (E : Ends) : WX := fun cls d σ H => PySem.W.exmAny K cls cs = some true ∧ ∀ a, H a = none → ts a cls d (endsAs i E) (σ.set i (some (.ref a))) H
section
variable {X : Cx} {x1 x2 x3 n : Str} {c1 c2 c3 : Value} {i : Nat} {body suite : List Stmt} {b0 : Stmt} {p1 p2 p3 p4 pos pos' : Pos} {k4 : Nat} {tb : WX → TS} {ts : Addr → Value → Option Addr → TS}
theorem ps_try3 (hs : X.stack = X.env :: X.outer) (hf : X.env.frame = some X.env.locals) (hN : X.N.Nodup) (hi : X.N[i]? = some n) (hln : X.env.kindOf n = some .local) (hc1 : Names X x1 c1) (hc2 : Names X x2 c2) (hc3 : Names X x3 c3)
    (hst : starEach [.Name x1 p1, .Name x2 p2, .Name x3 p3] X.env = [(false, eval (.Name x1 p1) X.env), (false, eval (.Name x2 p2) X.env), (false, eval (.Name x3 p3) X.env)])
    (hb : ∀ (W : WX) (pn : List (Addr × Obj)) (xe : Value → Shared → Prop), L2.Takes (X.tr pn xe) W → PSs (X.tr pn xe) body (tb W))
    (hsu : ∀ (a : Addr) (oe : Obj) (cls : Value) (d : Option Addr) (pn : List (Addr × Obj)), Zc cls d oe → (∃ vs, oe.data = .fields vs) → PSs (X.suite a ((a, oe) :: pn)) (b0 :: suite) (ts a cls d)) :
    PS X (.Try body [.ExceptHandler (some (.Tuple [.Name x1 p1, .Name x2 p2, .Name x3 p3] k4 p4)) (some n) (b0 :: suite) pos'] [] [] pos) (fun E σ H => tb (w3 X.K [c1, c2, c3] i ts E) E σ H) := by
  refine ⟨fun pins s σ H E I h => ?_⟩
  have ok := I.ok
  have top : X.A.frames = some (X.env :: X.outer) := ok.frames.trans (by rw [hs])
  refine wpAny_Try_except ?_
  refine wpAny_mono ((hb (w3 X.K [c1, c2, c3] i ts E) (X.pn ++ pins) (fun e s1 => wpAny (model X.prog X.w) X.A (noteFrame e X.env) (fun _ s2 => wpAny (model X.prog X.w) X.A (setFlight e none) (fun _ s3 =>
    wpAny (model X.prog X.w) X.A (handleBy e X.env [.ExceptHandler (some (.Tuple [.Name x1 p1, .Name x2 p2, .Name x3 p3] k4 p4)) (some n) (b0 :: suite) pos']) (SP X pins E) X.xe s3) X.xe s2) X.xe s1) (fun u s' xx => ?_)).run [] s σ H E (I.toTry _) h) (fun fl s1 hsp => ?_) (fun e s1 he => he)
  · obtain ⟨a, B, sI, pq, σ1, H1, cls, d, rfl, J0, nb, up, sky, na, os, ag, hm, hyes⟩ := xx
    have J : Inv X pins σ1 H1 sI := J0.ofTry ok
    have sky1 : Sky B (X.env :: X.outer) a (Zc cls d) X.env.locals s'.heap := by
      rw [← hs]
      exact sky
    show wpAny (model X.prog X.w) X.A (noteFrame (.ref a) X.env) _ _ _
    refine Sky.land Zc.steady top hf sky1 fun h3 fl3 up3 => ?_
    have J3 : Inv X pins σ1 H1 { s' with heap := h3 } := J.landed nb fl3.1 (up.trans up3) os ag
    obtain ⟨oe3, vs3, he3, hz3, hd3⟩ := fl3.there
    have nfr : a ∉ frs (X.env :: X.outer) := fun hmm => by
      obtain ⟨_, o', e', hnf⟩ := fl3.2.2.1.mem hmm
      rw [he3] at e'
      cases e'
      exact hnf _ hd3
    have nL : a ≠ X.env.locals := fun z => nfr (List.mem_filterMap.mpr ⟨X.env, List.mem_cons_self, by rw [hf, z]⟩)
    have nF : a ∉ X.fs := fun hmm => by
      obtain ⟨e, he, q⟩ := List.mem_filterMap.mp hmm
      exact nfr (List.mem_filterMap.mpr ⟨e, List.mem_cons_of_mem _ he, q⟩)
    have S3 := J3.suite he3 hd3 na nL nF
    refine wpAny_handleBy_cons (codeAny_handlers_test ?_) (by intro q; cases q)
    have ld : ∀ {x : Str} {c : Value} {np : Pos} {Q : Value → Shared → Prop} {E' : Value → Shared → Prop}, Names X x c → Q c { s' with heap := h3 } → wpAny (model X.prog X.w) (X.A.mark (some (.ref a))) (eval (.Name x np) X.env) Q E' { s' with heap := h3 } := fun {x c np Q E'} hc q => by
      obtain ⟨hg, hdbg, hm | ⟨hm, hv, hnn⟩⟩ := hc
      · exact ld_glob (X := X.suite a ((a, oe3) :: (X.pn ++ pins))) S3 hg hm q hdbg
      · exact ld_blt (X := X.suite a ((a, oe3) :: (X.pn ++ pins))) S3 hg hm hv q hnn hdbg
    refine wpAny_Tuple_spliced ?_
    rw [hst]
    refine Calls.spliced_cons (ld hc1 ?_)
    refine Calls.spliced_cons (ld hc2 ?_)
    refine Calls.spliced_cons (ld hc3 ?_)
    refine Calls.spliced_nil ⟨by show 3 ≤ sizeLine; decide, ?_⟩
    have kp : ∀ b o, h3.get? b = some o → (h3.push { cls := .type "tuple", data := .seq [c1, c2, c3].toArray }).get? b = some o := fun b o e => Heap.get?_push_of_some _ e
    have LT : PySem.W.Looks (model X.prog X.w) (h3.push { cls := .type "tuple", data := .seq [c1, c2, c3].toArray }) (typeOf (.ref a)) cls := fun A Q E s k q => wpAny_typeOf_ref (k _ _ (kp _ _ he3)) (by rw [hz3.1]; exact q)
    have LM := PySem.W.exm_tup3 (M := model X.prog X.w) (J3.kIn.keeps kp) LT (Heap.get?_push_size _ rfl) hm
    refine LM.here ?_
    refine codeAny_handlers_suite_as ?_
    refine HandSPX.lands_againZ (fly_keep fl3 kp) fun h4 fl4 up4 => ?_
    have J4 : Inv X pins σ1 H1 { s' with heap := h4 } := J.landed nb fl4.1 (((up.trans up3).trans (Heap.UpToSlots.of_keeps kp)).trans up4) os ag
    obtain ⟨oe4, vs4, he4, hz4, hd4⟩ := fl4.there
    have S4 := J4.suite he4 hd4 na nL nF
    refine store_ok (X := X.suite a ((a, oe4) :: (X.pn ++ pins))) (v := .ref a) S4 hN hi (.inl hln) rfl (fun s5 S5 => ?_) (.inr hln)
    refine wpAny_mono ((hsu a oe4 cls d (X.pn ++ pins) hz4 ⟨_, hd4⟩).run [] s5 _ H1 _ S5 (hyes a na)) (fun f s6 hsp => ?_) (fun _ _ z => False.elim z)
    have gone : ∀ {σ6 : L2.St} {H6 : Hp} {Q : Shared → Prop}, Inv (X.suite a ((a, oe4) :: (X.pn ++ pins))) [] σ6 H6 s6 → (∀ s7, Inv X pins (σ6.set i none) H6 s7 → Q s7) →
        wpAny (model X.prog X.w) X.A (do bindName X.env n .none; unbindBehindTheSuite X.env n pos') (fun _ s7 => Q s7) X.xe s6 := fun {σ6 H6 Q} S6 hq => gone_ok (S6.unsuite ok) hN hi hln hq
    cases f with
    | next =>
      obtain ⟨σ6, H6, S6, q6⟩ := hsp
      exact gone S6 fun s7 J7 => ⟨_, _, J7, q6⟩
    | brk =>
      obtain ⟨σ6, H6, S6, q6⟩ := hsp
      exact gone S6 fun s7 J7 => ⟨_, _, J7, q6⟩
    | cont =>
      obtain ⟨σ6, H6, S6, q6⟩ := hsp
      exact gone S6 fun s7 J7 => ⟨_, _, J7, q6⟩
    | ret u =>
      obtain ⟨v6, σ6, H6, S6, r6, q6⟩ := hsp
      exact gone S6 fun s7 J7 => ⟨_, _, _, J7, r6, q6⟩
  · cases fl with
    | next =>
      obtain ⟨σ1, H1, J1, q⟩ := hsp
      exact wpAny_execs_nil ⟨σ1, H1, J1.ofTry ok, q⟩
    | brk =>
      obtain ⟨σ1, H1, J1, q⟩ := hsp
      exact ⟨σ1, H1, J1.ofTry ok, q⟩
    | cont =>
      obtain ⟨σ1, H1, J1, q⟩ := hsp
      exact ⟨σ1, H1, J1.ofTry ok, q⟩
    | ret u =>
      obtain ⟨v, σ1, H1, J1, r, q⟩ := hsp
      exact ⟨v, σ1, H1, J1.ofTry ok, r, q⟩
end
theorem RpE.unset {K : PySem.W.Frag} {as : List Addr} {F : Hp} {ρ : Env} {σ : L2.St} {i : Nat} (r : RpE K as F ρ σ) : RpE K as F (ρ.set i none) (σ.set i none) := by
  refine ⟨by rw [List.length_set, List.length_set]; exact r.len, fun j e q => ?_⟩
  by_cases hj : i = j
  · subst hj
    have hl : i < ρ.length := by
      have := (List.getElem?_eq_some_iff.mp q).1
      rwa [List.length_set] at this
    rw [List.getElem?_set_self hl] at q
    cases q
  · rw [List.getElem?_set_ne hj] at q ⊢
    exact r.at_ j e q
def ktAs (i : Nat) (k : Kt) : Kt := ⟨fun ρ S => k.nx (ρ.set i none) S, k.rt, fun ρ S => k.bk (ρ.set i none) S, fun ρ S => k.ct (ρ.set i none) S, fun _ _ _ => False⟩
def sTryAs (L : List Addr) (i : Nat) (mb : Env → MS) (ms : Addr → Addr → Addr → Env → MS) : Env → MS := fun ρ S k => mb ρ S ⟨k.nx, k.rt, k.bk, k.ct, fun e ρ' S' => onX e fun C fs => C ∈ L ∧ ∀ a d, ms a C d (ρ'.set i (some (.exv a C d fs))) S' (ktAs i k)⟩
section
variable {X : Cx} {W : WX} {x1 x2 x3 n : Str} {c1 c2 c3 : Value} {body suite : List Stmt} {b0 : Stmt} {p1 p2 p3 p4 pos pos' : Pos} {k4 : Nat} {mb : Env → MS} {ms : Addr → Addr → Addr → Env → MS} {L : List Addr}
theorem gs_tryAs (i : Nat) (hN : X.N.Nodup) (hc1 : Names X x1 c1) (hc2 : Names X x2 c2) (hc3 : Names X x3 c3) (hL : ∀ C ∈ L, PySem.W.exmAny X.K (.ref C) [c1, c2, c3] = some true)
    (hb : ∀ (W : WX) (pn : List (Addr × Obj)) (xe : Value → Shared → Prop), Tk false (X.tr pn xe) W → GSs (X.tr pn xe) W body mb)
    (hsu : ∀ (a C d : Addr) (oe : Obj) (pn : List (Addr × Obj)), Zc (.ref C) (some d) oe → (∃ vs, oe.data = .fields vs) → GSs (X.suite a ((a, oe) :: pn)) WF (b0 :: suite) (ms a C d))
    (hi : X.N[i]? = some n := by rfl) (hln : X.env.kindOf n = some .local := by rfl) (hst : starEach [.Name x1 p1, .Name x2 p2, .Name x3 p3] X.env = [(false, eval (.Name x1 p1) X.env), (false, eval (.Name x2 p2) X.env), (false, eval (.Name x3 p3) X.env)] := by rfl)
    (hs : X.stack = X.env :: X.outer := by rfl) (hf : X.env.frame = some X.env.locals := by rfl) :
    GS X W (.Try body [.ExceptHandler (some (.Tuple [.Name x1 p1, .Name x2 p2, .Name x3 p3] k4 p4)) (some n) (b0 :: suite) pos'] [] [] pos) (sTryAs L i mb ms) := by
  let tb : WX → TS := fun W E σ H => ∀ (pn : List (Addr × Obj)) (xe : Value → Shared → Prop), Tk false (X.tr pn xe) W → tWp (X.tr pn xe) body E σ H
  let tsu : Addr → Value → Option Addr → TS := fun a cls d E σ H => ∀ (oe : Obj) (pn : List (Addr × Obj)), Zc cls d oe → (∃ vs, oe.data = .fields vs) → tWp (X.suite a ((a, oe) :: pn)) (b0 :: suite) E σ H
  refine ⟨_, ps_try3 (tb := tb) (ts := tsu) hs hf hN hi hln hc1 hc2 hc3 hst (fun W pn xe tk => ⟨fun pins s σ H E I h => h pn xe tk pins s I⟩) (fun a oe cls d pn z1 z2 => ⟨fun pins s σ H E I h => h oe pn z1 z2 pins s I⟩), fun as F H S ρ σ I R k h E q => ?_⟩
  intro pn xe tk
  obtain ⟨t, p, m⟩ := hb _ pn xe tk
  intro pins s J
  refine p.run pins s σ H E J (m as F H S ρ σ I R _ h E ⟨q.nx, q.rt, q.bk, q.ct, fun e ρ' S' bs F' H' σ' cls dd hx g R' r => ?_⟩)
  obtain ⟨C, d, fs, vfs, rfl, rfl, rfl, r4, r5⟩ := r
  refine ⟨hL C hx.1, fun a ha oe pn2 z1 z2 pins2 s2 J2 => ?_⟩
  obtain ⟨t2, pp2, m2⟩ := hsu a C d oe pn2 z1 z2
  have q2 := q.step g
  exact pp2.run pins2 s2 _ H' _ J2 (m2 bs F' H' S' _ _ g.sit (R'.set (Rp.exv r4 r5)) _ (hx.2 a d) _ ⟨fun ρ1 S1 cs F1 H1 σ1 h1 g1 R1 => q2.nx _ S1 cs F1 H1 _ h1 g1 R1.unset, q2.rt, fun ρ1 S1 cs F1 H1 σ1 h1 g1 R1 => q2.bk _ S1 cs F1 H1 _ h1 g1 R1.unset,
    fun ρ1 S1 cs F1 H1 σ1 h1 g1 R1 => q2.ct _ S1 cs F1 H1 _ h1 g1 R1.unset, fun _ _ _ _ _ _ _ _ _ z => z.elim⟩)
end
end RV
end
section
/-! The error that is handled, as a value: its fields; isinstance. -/
namespace RV
open PySem PySem.W PySem.Spec PySem.Calls PyProof.Rows
section
variable {prog : Program} {w : World} {A : Around} {E : Value → Shared → Prop} {s : Shared} {K : Frag} {x D : Addr} {ox : Obj} {od : Option Obj}
theorem find_data {C : Addr} {name : Str} {a g : Value} (hc : (clsIn K C).isSome = true) (ha : findIn K (.ref C) name = some (some a)) (hg : specialIn K a "__get__" = some (some g)) (ht : takesIn K a = some true) : findObj K C od name = some (.bind g a) := by
  obtain ⟨cd, hcd⟩ := Option.isSome_iff_exists.mp hc
  unfold findObj
  rw [hcd, Option.bind_some, ha, Option.bind_some]
  simp [hg, ht]
theorem class_ofE {Q : Option Value → Shared → Prop} (C : L2.ExcC K D) (X : K.In s.heap) (I : InstAt s.heap x ox D od) (h : Q (some (.ref D)) { s with toks := s.toks + 1 }) : wpAny (model prog w) A (getAttr? (.ref x) "__class__") Q E s := by
  have hf : findObj K D od "__class__" = some (.bind (.builtin "getset_descriptor.__get__") (.builtin "object.__class__")) := find_data (by obtain ⟨cd, hc, _⟩ := any_some C.hd; rw [hc]; rfl) C.ha C.hn C.ht
  obtain ⟨hp, g, d, t, os⟩ := s
  have T0 := I.type (M := model prog w)
  have T1 := looks_findIn (M := model prog w) X C.hg
  have T2 := looks_findIn (M := model prog w) X C.hk
  have T3 := looks_find (M := model prog w) X I hf
  have sub : Looks (model prog w) hp (isInstance (.ref x) (.type "BaseException")) true := T0.andThen (looks_subIn X C.hs)
  have z0 : (false && onTheHeap (Value.builtin "BaseException.__getattribute__")) = false := rfl
  have z2 : (Value.builtin "BaseException.__getattribute__" == Value.builtin "object.__getattribute__") = false := by decide +kernel
  have z1 : (onTheHeap (Value.ref D) && Value.builtin "BaseException.__getattribute__" == Value.builtin "object.__getattribute__") = false := by rw [z2]; rfl
  unfold getAttr? getAttrBy? getAttrBy
  refine wpAny_bind (wpAny_mkText (wpAny_bind (wpAny_attempt (wpAny_holding (wpAny_bind (T0.at (wpAny_bind (T1.at ?_))))))))
  show wpAny _ _ (if (onTheHeap (Value.ref D) && Value.builtin "BaseException.__getattribute__" == Value.builtin "object.__getattribute__") = true then _ else _) _ _ _
  rw [z1, if_neg Bool.false_ne_true]
  unfold getAttrByItsOwn hookBefore
  refine wpAny_bind ?_
  rw [if_pos (show onTheHeap (Value.ref D) = true from rfl)]
  refine T2.at (wpAny_bind (wpAny_attempt (wpAny_holding ?_)))
  unfold callGetattribute
  rw [z0, if_neg Bool.false_ne_true]
  unfold boundAndCalled
  rw [PySem.F.excAttr_ValueError.ga.bind (.ref x)]
  refine wpAny_bind (wpAny_pure ?_)
  show wpAny _ _ (call (.builtin "BaseException.__getattribute__") [.ref x, .str "__class__" t]) _ _ _
  refine wpAny_call (codeAny_call_builtin PySem.F.excAttr_ValueError.ga.plain PySem.F.entry_bexc_ga ?_)
  refine @check_slot (model prog w) _ _ ⟨hp, g, d, t + 1, os⟩ "BaseException.__getattribute__" "BaseException" "__getattribute__" (.ref x) [.str "__class__" t] [] _ (by decide +kernel) (by decide +kernel) sub (PySem.F.args_bexc_ga (.ref x) (.str "__class__" t)) ?_
  unfold Builtin.«object.__getattribute__»
  refine wpAny_bind (wpAny_of_eq (a := ((Value.ref x : Value), [Value.str "__class__" t])) (by first | rfl | (simp only [slotArgs]; rfl)) ?_)
  refine wpAny_bind (wpAny_pure (wpAny_bind (T0.at (wpAny_bind (T3.at ?_)))))
  show wpAny _ _ (holding [Value.builtin "object.__class__"] (call (.builtin "getset_descriptor.__get__") [.builtin "object.__class__", .ref x, .ref D]) >>= ret) _ _ _
  refine wpAny_bind (wpAny_holding (wpAny_call (class_get (s := ⟨hp, g, d, t + 1, os⟩) (ox := ox) (od := od) X I C.hm ?_)))
  refine wpAny_pure ?_
  show wpAny _ _ (handedOut (.ref D)) _ _ _
  rw [handedOut_of (v := .ref D) rfl]
  first
    | exact wpAny_pure (wpAny_pure h)
    | exact wpAny_pure h
    | exact wpAny_pure (wpAny_bind (wpAny_pure (wpAny_pure h)))
theorem kitE (C : L2.ExcC K D) : KitX K (.ref x) (.ref D) (fun h => ∃ od, InstAt h x ox D od) where
  ty := fun _ _ _ ⟨_, I⟩ => I.type
  it := fun _ _ X _ => by
    obtain ⟨cdD, hcD, _⟩ := any_some C.hd
    unfold clsIn at hcD
    split at hcD
    · rename_i c1 d1 cd1 sl1 ho
      intro A1 Q1 E1 s1 k q
      unfold isType loadHead
      exact wpAny_bind (wpAny_loadPart (k _ _ (X _ _ ho)) (wpAny_pure q))
    · cases hcD
  ne := fun h tp dd its n sl X htp => by
    obtain ⟨cdD, hcD, _⟩ := any_some C.hd
    refine Bool.eq_false_iff.mpr fun q => ?_
    have e : D = tp := Value.ref.inj (beq_iff_eq.mp q)
    subst e
    unfold clsIn at hcD
    split at hcD
    · rename_i c1 d1 cd1 sl1 ho
      have z := (X _ _ ho).symm.trans htp
      cases z
    · cases hcD
  ca := fun X ⟨_, I⟩ k => class_ofE C X I k
end
open L2
section
variable {X : Cx} {a C d : Addr} {oe : Obj}
/-- the pin's object, as an instance -/
theorem inst_pin {pins : List (Addr × Obj)} {s : Shared} {σ : L2.St} {H : Hp} {fs : List (Str × V)} (hp : (a, oe) ∈ X.pn) (hz : Zc (.ref C) (some d) oe) (hf : ∃ vs, oe.data = .fields vs) (I : Inv X pins σ H s) (hd : H d = some (.xd fs)) :
    ∃ (od : Obj) (mA : Str → Option Value), PySem.W.InstAt s.heap a oe C (some od) ∧ (∀ name, PySem.W.lookIn name od = some (mA name)) ∧ ∀ f, RelO (fs.lookup f) (mA f) := by
  obtain ⟨ha, _⟩ := I.pin (a, oe) (List.mem_append_left _ hp)
  obtain ⟨vs, hv⟩ := hf
  have hx : ObjOk X.prog X.w H s.heap d (.xd fs) := I.hok d _ hd
  obtain ⟨mA, hns, hr⟩ := hx
  obtain ⟨od, ho, hl⟩ := lookIn_ns hns
  exact ⟨od, mA, ⟨ha, hz.1, by unfold PySem.W.notCls; rw [hv] <;> rfl, by rw [hz.2]; exact ho⟩, hl, hr⟩
/-- e.f, e the handled error -/
def tXg (a C d : Addr) (f : Str) (te : TE) : TE := fun σ H Q => te σ H fun x H1 => x = .ref a ∧ ∃ (fs : List (Str × V)) (v : V), H1 d = some (.xd fs) ∧ fs.lookup f = some v ∧ Q v H1
theorem pe_xg {e : Expr} {te : TE} {pos : Pos} {f : Str} (T : XfC X.K C) (hno : PySem.W.findIn X.K (.ref C) f = some none) (hp : (a, oe) ∈ X.pn) (hz : Zc (.ref C) (some d) oe) (hf : ∃ vs, oe.data = .fields vs) (he : PE X e te)
    (hb : attributeBase e f X.env (eval e X.env) = eval e X.env := by rfl) : PE X (.Attribute e f pos) (tXg a C d f te) := by
  refine ⟨fun pins s σ H Q I h => attr_of hb (thn (he.run pins s σ H _ I h) fun u s1 hh => ?_)⟩
  obtain ⟨y, H1, I1, ry, rfl, fs, v, hd, hl, q⟩ := hh
  obtain rfl : u = Value.ref a := ry
  obtain ⟨od, mA, J, lk, rel⟩ := inst_pin hp hz hf I1 hd
  obtain ⟨u, hu, ru⟩ := RelO.some_of (v := v) (o := mA f) (by rw [← hl]; exact rel f)
  exact HandSPX.exc_get I1.kIn J T.ga T.gg T.exC (PySem.W.findObj_own T.hdC hno rfl (by rw [lk, hu])) (handed_of ru) ⟨v, H1, I1.tok _, ru, q⟩
/-- isinstance(e, c) -/
def rIsG (K : PySem.W.Frag) (a C d : Addr) : List V → Hp → VK → Prop := fun xs H Q => ∃ (c : V) (cv : Value) (b : Bool) (fs : List (Str × V)), xs = [.ref a, c] ∧ H d = some (.xd fs) ∧ (∀ u, RelV c u → u = cv) ∧ PySem.W.kitOne K (.ref C) cv = some b ∧ Q (.bl b) H
theorem call_isG (T : ExcC X.K C) (hp : (a, oe) ∈ X.pn) (hz : Zc (.ref C) (some d) oe) (hf : ∃ vs, oe.data = .fields vs) : CallR X (.builtin "isinstance") (rIsG X.K a C d) := by
  intro pins s σ H xs us Q I r h
  obtain ⟨c, cv, b, fs, rfl, hd, hcv, e, q⟩ := h
  match us, r with
  | [u0, u1], .cons rx (.cons rt .nil) =>
    obtain rfl : u0 = Value.ref a := rx
    obtain rfl := hcv _ rt
    obtain ⟨od, mA, J, _, _⟩ := inst_pin hp hz hf I hd
    exact PySem.W.kia_one (kitE (ox := oe) T) I.kIn ⟨some od, J⟩ e (fun z => nomatch z) fun tk => ⟨.bl b, H, I.kept (t' := tk) fun _ _ z => z, rfl, q⟩
def onV (a C d : Addr) (u : D) (k : List (Str × D) → Prop) : Prop := match u with
  | .exv a1 C1 d1 fs => (a1 = a ∧ C1 = C ∧ d1 = d) ∧ k fs
  | _ => False
theorem onV_v {fs : List (Str × D)} {k : List (Str × D) → Prop} : onV a C d (.exv a C d fs) k = k fs := by simp [onV]
def eXg (a C d : Addr) (f : Str) (ea : RV.Env → M) : RV.Env → M := fun ρ S q x => ea ρ S (fun u S1 => onV a C d u fun fs => onS (fs.lookup f) fun y => q y S1) x
theorem ge_xg {W : WX} {e : Expr} {ea : RV.Env → M} {pos : Pos} {f : Str} (T : XfC X.K C) (hno : PySem.W.findIn X.K (.ref C) f = some none) (hp : (a, oe) ∈ X.pn) (hz : Zc (.ref C) (some d) oe) (hf : ∃ vs, oe.data = .fields vs) (he : GE X W e ea)
    (hb : attributeBase e f X.env (eval e X.env) = eval e X.env := by rfl) : GE X W (.Attribute e f pos) (eXg a C d f ea) := by
  obtain ⟨t, p, m⟩ := he
  refine ⟨_, pe_xg T hno hp hz hf p hb, fun as F H S ρ σ I R q x h Q hq hx => ?_⟩
  refine m as F H S ρ σ I R _ x h _ (fun u S1 bs F1 H1 v h1 g r => ?_) hx
  cases r with
  | exv z1 z2 =>
    obtain ⟨⟨rfl, rfl, rfl⟩, h2⟩ := h1
    obtain ⟨y, h3, h4⟩ := onS_ok h2
    obtain ⟨w, h5, h6⟩ := z2.look h3
    exact ⟨rfl, _, w, g.sit.ex _ _ z1, h5, hq y S1 bs F1 H1 w h4 g h6⟩
  | _ => exact h1.elim
def isXD (a C d : Addr) (tb : Value → Option Bool) : WS → List D → Option D := fun _ xs => match xs with
  | [.exv a1 C1 d1 _, c] => if a1 = a ∧ C1 = C ∧ d1 = d then (clsD c).bind fun u => (tb u).map D.bl else none
  | _ => none
theorem rc_isX {K : PySem.W.Frag} {tb : Value → Option Bool} (ht : ∀ u b, tb u = some b → PySem.W.kitOne K (.ref C) u = some b) : RC K (rIsG K a C d) (isXD a C d tb) := fun as F H S ds z vs I r h Q q => by
  unfold isXD at h
  split at h
  · split at h
    · rename_i hh
      obtain ⟨rfl, rfl, rfl⟩ := hh
      simp only [Option.bind_eq_some_iff, Option.map_eq_some_iff] at h
      obtain ⟨u, h2, b, h3, rfl⟩ := h
      obtain ⟨v, ws, rfl, rv, rn⟩ := r.unsn
      obtain ⟨w, ys, rfl, rw1, rn⟩ := rn.unsn
      obtain rfl := rn.unnil
      cases rv with
      | exv z1 z2 =>
        refine ⟨w, u, b, _, rfl, I.ex _ _ z1, ?_, ht u b h3, keep I q (.bl _)⟩
        cases rw1 with
        | ty n =>
          cases h2
          exact fun u1 hu => hu
        | adr p =>
          cases h2
          exact fun u1 hu => hu
        | _ => cases h2
    · cases h
  · cases h
end
end RV
end
section
/-! A def that is called with the error that is handled. -/
namespace RV
open PySem L2
structure FnE (g : Bool) (P : Program) (w : World) (K : PySem.W.Frag) (mg : Str → Option Value) (base : Heap) (k : Nat) (f : Addr) (fd : FuncData) (ps : List Str) (sp : Addr → Addr → Addr → Sp) : Prop where
  len : ∀ a C d vs H Q E, sp a C d vs H Q E → vs.length = ps.length
  run : ∀ (A : Around) (outer : List PySem.Env) (s : Shared) (H : Hp) (args : Args) (us : List Value) (vs : List V) (Q : VK) (a C d : Addr) (oe : Obj), (g = true → A.guards = some []) → L2H.RoomH k A → A.handled = some (.ref a) → L2H.PinOk outer H s (a, oe) → Zc (.ref C) (some d) oe → (∃ zs, oe.data = .fields zs) →
    Env0 P w K mg base A outer s H → BindsTo s fd args (ps.zip us) → Vals vs us → sp a C d vs H Q E0 → codeAny (model P w) A (.call (.ref f) args) (CR (CXm false P w) outer P w H s Q E0) s
section
variable {P : Program} {w : World} {K : PySem.W.Frag} {mg : Str → Option Value} {base : Heap}
theorem fn_E {g : Bool} {x qual : Str} {params : Arguments} {body : List Stmt} {scope : Scope} {dvs : List V} {kws : List (Str × V)} {f : Addr} {fd : FuncData} {N ps : List Str} {k : Nat} {m : Addr → Addr → Addr → Env → MS} (F : FunD K x qual params body scope dvs kws f fd) (S : FnScope N ps scope)
    (hb : ∀ (cdv : Value) (A : Around) (outer : List PySem.Env) (s : Shared) (H : Hp) (a C d : Addr) (oe : Obj), (g = true → (cxG false true P w K mg base N qual scope f cdv A outer s H E0 (a, oe)).A.guards = some []) → Rx true k (cxG false true P w K mg base N qual scope f cdv A outer s H E0 (a, oe)) → Zc (.ref C) (some d) oe → (∃ zs, oe.data = .fields zs) →
      GSs (cxG false true P w K mg base N qual scope f cdv A outer s H E0 (a, oe)) WF body (m a C d)) : FnE g P w K mg base (k + 1) f fd ps (fun a C d => spG K ps.length (fnD N.length (m a C d))) := by
  obtain ⟨oc, od, dV, kV, doc, pm, an, cdv, ct, osl, rfl, lk, hcd, _, _⟩ := F.ex
  refine ⟨fun a C d => spG_len, fun A outer s H args us vs Q a C d oe hg hr hd hp hz hf e0 hbn r hsp => ?_⟩
  have still : ∀ b o, base.get? b = some o → s.heap.get? b = some o := fun b o e => (e0.bs b o e).1
  have KX : K.In s.heap := e0.mod.kin.keeps still
  have bound : ∀ y ∈ ps.zip us, scope.names.lookup y.1 = some .local ∨ (scope.names.lookup y.1 = some .cell ∧ ((cellsFrom (s.heap.objs.size + 1) scope.names []).lookup y.1).isSome = true) := by
    rintro ⟨n, v⟩ hy
    rcases S.par n (List.of_mem_zip hy).1 with q | q
    · exact Or.inl q
    · exact Or.inr ⟨q, PySem.W.cellsFrom_some _ _ _ (.inl q)⟩
  refine codeAny_call_function hr.depth (KX _ _ lk) rfl S.co S.gen rfl (PySem.W.codeRec_of KX hcd) (hbn _ _ _ _ ?_)
  refine wpAny_newFunctionEnv_cells S.kind bound fun env he s1 x => ?_
  subst he
  refine ⟨(e0.mod.nolimit.keeps still).keeps x.toInCall.keep, codeAny_func ?_⟩
  have I : Inv (cxG false true P w K mg base N qual scope f cdv A outer s H E0 (a, oe)) [] (L2.start N vs) H s1 := L2H.inv_startH (CX := CXm false P w) (E := E0) (f := f) (cd := cdv) (qual := qual) S hp e0 (spG_len _ _ _ _ hsp) r x
  obtain ⟨t, ht, hm⟩ := hb cdv A outer s H a C d oe hg ⟨hr.deeper _, (a, oe), List.mem_cons_self .., hd⟩ hz hf
  refine wpAny_mono (ht.run [] s1 (L2.start N vs) H _ I (fnD_run (E := E0) hm hsp)) (fun fl s' hs => ?_) fun e s' hs => hs
  cases fl with
  | ret u =>
    obtain ⟨v, σ', H', J, rv, q⟩ := hs
    exact ⟨v, H', J.os, J.bare, J.base, J.hok, rv, q⟩
  | next =>
    obtain ⟨σ', H', J, q⟩ := hs
    exact ⟨V.non, H', J.os, J.bare, J.base, J.hok, rfl, q⟩
  | brk =>
    obtain ⟨_, _, _, q⟩ := hs
    exact q.elim
  | cont =>
    obtain ⟨_, _, _, q⟩ := hs
    exact q.elim
/-- the module's name x is such a def -/
def Fe (P : Program) (w : World) (K : PySem.W.Frag) (mg : Str → Option Value) (base : Heap) (g : Bool) (x : Str) (k n : Nat) (G : Addr → Addr → Addr → List D → M) : Prop := ∃ (f : Addr) (fd : FuncData) (ps : List Str), FnE g P w K mg base k f fd ps (fun a C d => spG K n (G a C d)) ∧ Binds K fd ps [] ∧ PySem.W.keepIn K (.ref f) = true ∧ mg x = some (.ref f)
end
section
variable {X : Cx} {W : WX} {e : Expr} {es : List Expr} {pos p : Pos} {er : Env → ML} {x : Str} {k j n : Nat} {g : Bool} {G : Addr → Addr → Addr → List D → M} {a C d : Addr} {oe : Obj}
theorem ge_callE (c : Fe X.prog X.w X.K X.mg X.base g x k n G) (hgd : g = true → X.A.guards = some []) (hr : L2H.RoomH j X.A) (hh : X.A.handled = some (.ref a)) (hp : (a, oe) ∈ X.pn) (hz : Zc (.ref C) (some d) oe) (hf : ∃ zs, oe.data = .fields zs) (ha : GA X W (e :: es) er) (hj : k ≤ j := by decide) (hg : Gl X x := by rfl) (hdb : (x == ("__debug__" : Str)) = false := by decide)
    (h1 : starEach (e :: es) X.env = (false, eval e X.env) :: starEach es X.env := by rfl) (h2 : (backTo pos (starEach es X.env)).any (·.1) = false := by rfl) : GE X W (.Call (.Name x p) (e :: es) [] pos) (fun ρ S q x => er ρ S (fun ds S1 => ds.length = n ∧ G a C d ds S1 q noX) x) := by
  obtain ⟨f, fd, ps, F, hb, hk, hm⟩ := c
  obtain ⟨t, pa, m⟩ := ha
  refine ⟨tFn (spG X.K n (G a C d)) [] (fun _ => E0) t, ⟨fun pins s σ H Q I h => ?_⟩, fun as F H S ρ σ I R q x h Q hq hx => ?_⟩
  · refine wpAny_Call_Name_kw (ld_glob I hg hm ?_ hdb)
    refine PySem.W.callWith_K (h₀ := X.base) I.ok.mod.kin hk (thn (pa.run pos pins s σ H _ I h) fun us s1 hh1 => ?_) h1 h2
    obtain ⟨vs, H1, I1, r1, q1⟩ := hh1
    refine ⟨I1.kIn, ?_⟩
    rw [List.append_nil] at q1
    have hl : (us ++ []).length = ps.length := by
      rw [List.append_nil]
      exact r1.length.symm.trans (F.len _ _ _ _ _ _ _ q1)
    have b := hb s1 us I1.kIn hl
    rw [List.append_nil] at b
    have P1 := I1.pin (a, oe) (List.mem_append_left _ hp)
    have pin : L2H.PinOk X.stack H1 s1 (a, oe) := ⟨P1.1, P1.2.1, fun hm => (List.mem_cons.mp (I1.stkSub a hm)).elim P1.2.2.1 P1.2.2.2.1, P1.2.2.2.2⟩
    refine wpAny_call (codeAny_mono (F.run X.A X.stack s1 H1 ⟨us, []⟩ us vs Q a C d oe hgd (hr.mono hj) hh pin hz hf I1.env0 b r1 q1) fun r s' hq => ?_)
    cases r with
    | error er => exact (cxm_no (n := false) hq).elim
    | ok fl =>
      cases fl with
      | ret u => exact I1.after hq
      | next => exact hq.elim
      | brk => exact hq.elim
      | cont => exact hq.elim
  · refine m as F H S ρ σ I R _ x h _ (fun ds S1 bs F1 H1 vs h1 g1 r1 => ?_) hx
    rw [List.append_nil]
    exact ⟨bs, F1, S1, ds, q, noX, g1.sit, r1, h1.1, h1.2, hq.step g1, XQ.no⟩
end
end RV
end
section
/-! count and index of a list of flat things. -/
namespace RV
open PySem L2 PySem.Spec PyProof.Rows
section
variable {X : Cx}
def rCntF (K : PySem.W.Frag) : V → List V → Hp → VK → Prop := fun x xs H Q => ∃ (a : Addr) (ys : List V) (y : V), x = V.ref a ∧ xs = [y] ∧ SqL K H a ys ∧ flatV y = true ∧ ys.all flatV = true ∧ Q (.int ((ys.countP fun z => eqV z y : Nat) : Int)) H
theorem count_eq {y : V} : ∀ {ys : List V} {us : List Value}, Vals ys us → ys.all flatV = true → us.countP (eqU y) = ys.countP fun z => eqV z y
  | _, _, .nil, _ => rfl
  | _, _, .cons h r, f => by
    simp only [List.all_cons, Bool.and_eq_true] at f
    rw [List.countP_cons, List.countP_cons, count_eq r f.2, eqU_of h f.1]
theorem mt_countF : MtR X "list.count" (rCntF X.K) := by
  intro pins s σ H x xs v us Q I rx rxs h
  obtain ⟨a, ys, y, rfl, rfl, hs, fy, fys, q⟩ := h
  cases rx
  obtain ⟨u, rfl, ru⟩ := rxs.one
  obtain ⟨its, rv, ⟨⟨cls, dd, data, sl⟩, n, ho, hc, hdn, hd⟩, hlen⟩ := I.list hs
  simp only at hc hd
  subst hc hd
  refine call_meets PySem.F.slot_list_count ⟨_, ho, rfl⟩ PySem.F.entry_list_count (PySem.F.args_list_count_2 _ _)
    (SeqAt.list_countAt a its.toArray n dd sl u (eqU y)) ⟨ho, fun w hw => mem_eqAt ru fy rv fys w (by simpa using hw), ?_⟩
  have ec : its.toArray.toList.countP (eqU y) = ys.countP fun z => eqV z y := count_eq rv fys
  refine ⟨.int ((ys.countP fun z => eqV z y : Nat) : Int), H, I.tok _, ⟨s.toks, ?_⟩, q⟩
  show Value.int ((its.toArray.toList.countP (eqU y) : Nat) : Int) s.toks = _
  rw [ec]
end
def onLs (u : D) (k : List D → Prop) : Prop := match u with
  | .lst ds => k ds
  | _ => False
theorem onLs_l {ds : List D} {k : List D → Prop} : onLs (.lst ds) k = k ds := rfl
/-- a method of a list that stands still -/
def eLm (f : List D → D → Option D) (ea eb : RV.Env → M) : RV.Env → M := fun ρ S q x => ea ρ S (fun u S1 => onLs u fun ds => eb ρ S1 (fun v S2 => onS (f ds v) fun d => q d S2) x) x
def countF (ds : List D) (v : D) : Option D := if flatD v = true ∧ ds.all flatD = true then some (.int ((ds.countP fun y => eqFl y v : Nat) : Int)) else none
def indexF (ds : List D) (v : D) : Option D := if flatD v = true ∧ ds.all flatD = true then (ds.findIdx? fun y => eqFl y v).map fun j => .int ((j : Nat) : Int) else none
section
variable {X : Cx} {W : WX} {o e : Expr} {eo ee : RV.Env → M} {apos cpos : Pos}
theorem countP_v {K : PySem.W.Frag} {as : List Addr} {F : Hp} {x : D} {vx : V} (rx : Rp K as F x vx) (hx : flatD x = true) : ∀ {ds : List D} {vs : List V}, RpL K as F ds vs → ds.all flatD = true → (vs.countP fun z => eqV z vx) = ds.countP fun y => eqFl y x
  | _, _, .nil, _ => rfl
  | _, _, .cons h r, f => by
    simp only [List.all_cons, Bool.and_eq_true] at f
    rw [List.countP_cons, List.countP_cons, countP_v rx hx r f.2, eqFl_v h rx f.1 hx]
/-- a list's method with a rule r that is told by f -/
theorem ge_lm {name : Str} {id : String} {r : V → List V → Hp → VK → Prop} {f : List D → D → Option D} (slot : Slot "list" name id) (hty : typeOf (.builtin id) = pure (.type "method_descriptor")) (hm : MtR X id r)
    (hr : ∀ as F H S ds v d a xs vv, Sit X.K as F H S → SqL X.K H a xs → RpL X.K as F ds xs → Rp X.K as F v vv → f ds v = some d → ∀ Q : VK, (∀ F' H' u, Grow X.K as F H as F' H' S → Rp X.K as F' d u → Q u H') → r (.ref a) [vv] H Q)
    (ho : GE X W o eo) (he : GE X W e ee) (hbase : attributeBase o name X.env (eval o X.env) = eval o X.env := by rfl)
    (hfew : ((backTo cpos (starEach [e] X.env)).all (fun x => !x.1) && (backToKw cpos (keywordEach [] X.env)).all (fun x => x.1.isSome)
      && decide (([e] : List Expr).length + ([] : List Keyword).length + (if ([] : List Keyword).isEmpty then 0 else 1) < 30)) = true := by rfl)
    (hline : (apos.endLine == cpos.line) = true := by rfl) (hs : starEach [e] X.env = (false, eval e X.env) :: starEach [] X.env := by rfl) (hplain : (backTo cpos (starEach [] X.env)).any (·.1) = false := by rfl) :
    GE X W (.Call (.Attribute o name apos) [e] [] cpos) (eLm f eo ee) := by
  obtain ⟨to, po, mo⟩ := ho
  obtain ⟨te, pe, me⟩ := he
  refine ⟨_, pe_bm PySem.F.plainAttrs_list slot hty hm po (pa_cons pe pa_nil hs) hbase hfew hline hs hplain, fun as F H S ρ σ I R q x h Q hq hx => ?_⟩
  refine mo as F H S ρ σ I R _ x h _ (fun u S1 bs F1 H1 v1 h1 g1 r1 => ?_) hx
  cases r1 with
  | lst z1 z2 =>
    have hH := g1.sit.ex _ _ z1
    refine ⟨tyV_lst hH, ?_⟩
    refine me bs F1 H1 S1 ρ σ g1.sit (R.grow g1) _ x h1 _ (fun v S2 cs F2 H2 v2 h2 g2 r2 => ?_) (hx.step g1)
    obtain ⟨d, h3, h4⟩ := onS_ok h2
    have hl : Rp X.K cs F2 (.lst _) _ := RpE_aux g2 (Rp.lst z1 z2)
    cases hl with
    | lst y1 y2 =>
      exact hr cs F2 H2 S2 _ v d _ _ v2 g2.sit (SqL.of (g2.sit.ex _ _ y1)) y2 r2 h3 Q fun F3 H3 u g3 r3 => hq d S2 cs F3 H3 u h4 ((g1.trans g2).trans g3) r3
  | _ => exact h1.elim
theorem ge_count (ho : GE X W o eo) (he : GE X W e ee) (hbase : attributeBase o "count" X.env (eval o X.env) = eval o X.env := by rfl)
    (hfew : ((backTo cpos (starEach [e] X.env)).all (fun x => !x.1) && (backToKw cpos (keywordEach [] X.env)).all (fun x => x.1.isSome)
      && decide (([e] : List Expr).length + ([] : List Keyword).length + (if ([] : List Keyword).isEmpty then 0 else 1) < 30)) = true := by rfl)
    (hline : (apos.endLine == cpos.line) = true := by rfl) (hs : starEach [e] X.env = (false, eval e X.env) :: starEach [] X.env := by rfl) (hplain : (backTo cpos (starEach [] X.env)).any (·.1) = false := by rfl) :
    GE X W (.Call (.Attribute o "count" apos) [e] [] cpos) (eLm countF eo ee) :=
  ge_lm PySem.F.slot_list_count PySem.F.type_list_count mt_countF (fun as F H S ds v d a xs vv I hs r rv h Q q => by
    unfold countF at h
    split at h
    · rename_i hh
      cases h
      refine ⟨a, xs, vv, rfl, rfl, hs, flat_v rv hh.1, flat_all r hh.2, ?_⟩
      rw [countP_v rv hh.1 r hh.2]
      exact keep I q (.int _)
    · cases h) ho he hbase hfew hline hs hplain
theorem find_at {α : Type} {p : α → Bool} : ∀ {l : List α} {j : Nat}, l.findIdx? p = some j → (∃ a, l[j]? = some a ∧ p a = true) ∧ ∀ m b, m < j → l[m]? = some b → p b = false
  | [], j, h => by simp at h
  | c :: l, j, h => by
    rw [List.findIdx?_cons] at h
    cases hc : p c with
    | true =>
      rw [hc] at h
      simp at h
      subst h
      exact ⟨⟨c, rfl, hc⟩, fun m b hm => absurd hm (Nat.not_lt_zero _)⟩
    | false =>
      rw [hc] at h
      simp only [Bool.false_eq_true, if_false, Option.map_eq_some_iff] at h
      obtain ⟨i, hi, rfl⟩ := h
      obtain ⟨⟨a, h1, h2⟩, h3⟩ := find_at hi
      refine ⟨⟨a, h1, h2⟩, fun m b hm hb => ?_⟩
      cases m with
      | zero =>
        cases hb
        exact hc
      | succ m => exact h3 m b (Nat.lt_of_succ_lt_succ hm) hb
theorem ge_index (ho : GE X W o eo) (he : GE X W e ee) (hbase : attributeBase o "index" X.env (eval o X.env) = eval o X.env := by rfl)
    (hfew : ((backTo cpos (starEach [e] X.env)).all (fun x => !x.1) && (backToKw cpos (keywordEach [] X.env)).all (fun x => x.1.isSome)
      && decide (([e] : List Expr).length + ([] : List Keyword).length + (if ([] : List Keyword).isEmpty then 0 else 1) < 30)) = true := by rfl)
    (hline : (apos.endLine == cpos.line) = true := by rfl) (hs : starEach [e] X.env = (false, eval e X.env) :: starEach [] X.env := by rfl) (hplain : (backTo cpos (starEach [] X.env)).any (·.1) = false := by rfl) :
    GE X W (.Call (.Attribute o "index" apos) [e] [] cpos) (eLm indexF eo ee) :=
  ge_lm PySem.F.slot_list_index PySem.F.type_list_index mt_index (fun as F H S ds v d a xs vv I hs r rv h Q q => by
    unfold indexF at h
    split at h
    · rename_i hh
      simp only [Option.map_eq_some_iff] at h
      obtain ⟨j, hj, rfl⟩ := h
      obtain ⟨⟨z0, h1, h2⟩, h3⟩ := find_at hj
      obtain ⟨z, y1, y2⟩ := r.get h1
      have fl : ∀ {m : Nat} {b : D}, ds[m]? = some b → flatD b = true := fun hb => List.all_eq_true.mp hh.2 _ (List.mem_of_getElem? hb)
      refine ⟨a, xs, vv, j, z, rfl, rfl, hs, flat_v rv hh.1, flat_all r hh.2, y1, ?_, fun m z1 hm hz1 => ?_, keep I q (.int _)⟩
      · rw [eqFl_v y2 rv (fl h1) hh.1]
        exact h2
      · obtain ⟨b, hb, rb⟩ := r.get' hz1
        rw [eqFl_v rb rv (fl hb) hh.1]
        exact h3 m b hm hb
    · cases h) ho he hbase hfew hline hs hplain
end
end RV
end
section
/-! str of an integer. -/
namespace RV
open PySem L2
def strID : WS → List D → Option D := fun _ xs => match xs with
  | [.int i] => if i.natAbs.log2 < 1920 then some (.str (toString i)) else none
  | _ => none
theorem rc_strI {K : PySem.W.Frag} : RC K (fun xs H Q => ∃ i, xs = [.int i] ∧ i.natAbs.log2 < 1920 ∧ Q (.str (toString i)) H) strID := fun as F H S ds d vs I r h Q q => by
  unfold strID at h
  split at h
  · split at h
    · rename_i i hi
      cases h
      obtain ⟨v, ws, rfl, rv, rn⟩ := r.unsn
      obtain rfl := rn.unnil
      cases rv with
      | int i => exact ⟨i, rfl, hi, keep I q (.str _)⟩
    · cases h
  · cases h
end RV
end
section
/-! A lambda without parameters, made where a table of code objects is a cell; its call. -/
namespace RV
open PySem PySem.Spec PyProof.Rows L2
section
variable {X : Cx} {pins : List (Addr × Obj)} {σ : L2.St} {H : Hp} {s : Shared}
/-- what the heap's table looks like behind the making -/
def LamStep (H : Hp) (P c : Addr) (q : Str) (ps : Array Value) (pos : Pos) (H1 : Hp) : Prop := (H1 = H ∧ codeAmong pos ps.toList = some (.ref c)) ∨ (H c = none ∧ H1 = upd (upd H P (.tbl (ps ++ #[rawInt pos.line, rawInt pos.col, .ref c]))) c (LamX.CodeO c q))
theorem lam_mk {c P : Addr} {ps : Array Value} {params : Arguments} {body : Expr} {scope : Scope} {pos : Pos} {E : Value → Shared → Prop} {Q : Value → Shared → Prop} (I : Inv X pins σ H s) (TB : LamX.TabB X.base X.mg c P) (hcode : X.env.code = .ref c)
    (hP : H P = some (.tbl ps)) (ht : TriplesOk ps.toList) (hin : ∀ (pos : Pos) (cv : Value), codeAmong pos ps.toList = some cv → ∃ c, cv = .ref c ∧ H c = some (LamX.CodeO c (X.env.qual ++ "<lambda>")))
    (hdef : defaultsOf params X.env = ([], [])) (hfree : ∀ y ∈ scope.names, y.2 = .free → ∃ c, X.env.cells.lookup y.1 = some c)
    (h : ∀ (f c1 : Addr) (pm ctv : Value) (H1 : Hp) (s1 : Shared), Inv X pins σ H1 s1 → LamStep H P c1 (X.env.qual ++ "<lambda>") ps pos H1 →
      s1.heap.get? f = some (PySem.W.kla_obj "<lambda>" (X.env.qual ++ "<lambda>") params body scope (cloFrom X.env.cells scope.names []) pm c1 ctv) → H1 f = none → f ∉ frs X.stack → H1 c1 = some (LamX.CodeO c1 (X.env.qual ++ "<lambda>")) → Q (.ref f) s1) :
    wpAny (model X.prog X.w) X.A (eval (.Lambda params body scope pos) X.env) Q E s := by
  refine PySem.W.kla_eval hdef ?_
  have blt : s.heap.BuiltinsAt X.mg P := TB.bm.keeps I.bk
  have at0 : s.heap.get? P = some { cls := .none, data := .fields ps } := I.hok P _ hP
  have nofr : ∀ g, s.heap.objs.size ≤ g → g ∉ frs X.stack := fun g hg z => (List.mem_cons.mp (I.stkSub _ z)).elim (fun e => by have l := I.lt; rw [← e] at l; exact absurd (Nat.lt_of_lt_of_le l hg) (Nat.lt_irrefl _)) fun e => I.nofs hg e
  cases hc : codeAmong pos ps.toList with
  | some cv =>
    obtain ⟨c1, rfl, hco⟩ := hin pos cv hc
    refine PySem.W.kla_makeFunctionHit (mg := X.mg) (c := c) (P := P) (ps := ps) (closure_ok hfree) I.ok.glob (I.mod.glob.keeps I.bk) hcode (TB.code.keeps I.bk) at0 ht hc blt fun ctv hp1 tk1 kx sz => ?_
    exact h _ c1 _ ctv H _ (I.kept (t' := tk1) fun b o e => Heap.get?_push_of_some _ (kx b o e)) (.inl ⟨rfl, hc⟩) (Heap.get?_push_size _ rfl) (I.hok.fresh sz) (nofr _ sz) hco
  | none =>
    refine PySem.W.kla_makeFunction (mg := X.mg) (c := c) (P := P) (ps := ps) (closure_ok hfree) I.ok.glob (I.mod.glob.keeps I.bk) hcode (TB.code.keeps I.bk) at0 ht hc TB.gP blt fun c1 ctv hp1 tk1 kx ge lt hrec htb => ?_
    obtain ⟨c2, oc, vs, t, e2, hoc, hd, hv⟩ := hrec
    cases e2
    have sz : s.heap.objs.size ≤ hp1.objs.size := Nat.le_trans ge (Nat.le_of_lt lt)
    have J := LamX.inv_table (t' := tk1) (q := X.env.qual ++ "<lambda>") (more := #[rawInt pos.line, rawInt pos.col, .ref c1]) (h' := hp1.push (PySem.W.kla_obj "<lambda>" (X.env.qual ++ "<lambda>") params body scope (cloFrom X.env.cells scope.names []) ((X.mg "__name__").getD .none) c1 ctv)) I hP
      (fun b o hb e => Heap.get?_push_of_some _ (kx b o hb e)) (Heap.get?_push_of_some _ htb) ge ⟨oc, vs, t, Heap.get?_push_of_some _ hoc, hd, hv⟩
    refine h hp1.objs.size c1 _ ctv _ _ J (.inr ⟨I.hok.fresh ge, rfl⟩) (Heap.get?_push_size _ rfl) ?_ (nofr _ sz) upd_same
    rw [upd_ne (Nat.ne_of_gt lt), upd_ne (Nat.ne_of_gt (Nat.lt_of_lt_of_le (Heap.lt_size at0) sz))]
    exact I.hok.fresh sz
end
theorem LamStep.grow {K : PySem.W.Frag} {as : List Addr} {F H H1 : Hp} {S : WS} {i : Nat} {P p c : Addr} {q : Str} {ps : Array Value} {pos : Pos} (x : LamStep H P c q ps pos H1) (I : Sit K as F H S) (ha : as[i]? = some p) (hS : S[i]? = some (.tab P q)) (hP : H P = some (.tbl ps)) :
    ∃ F1, Grow K as F H as F1 H1 S ∧ F1 c = some (LamX.CodeO c q) := by
  obtain ⟨z1, o, z2, z3⟩ := I.cell i p _ ha hS
  cases o with
  | tbl ps0 =>
    obtain ⟨rfl, t1, t2⟩ := z3
    rw [hP] at z2
    cases z2
    rcases x with ⟨rfl, hit⟩ | ⟨hn, rfl⟩
    · obtain ⟨c0, e1, e2⟩ := t2 pos _ hit
      cases e1
      exact ⟨F, Grow.refl I, e2⟩
    · have nP : p ≠ c := ne_of_none hP hn
      have g1 := I.grow (o := LamX.CodeO c q) hn
      have eL : (ps ++ #[rawInt pos.line, rawInt pos.col, .ref c]).toList = ps.toList ++ [rawInt pos.line, rawInt pos.col, .ref c] := by simp
      have ok : CellOf K (upd F c (LamX.CodeO c q)) p (.tab p q) (.tbl (ps ++ #[rawInt pos.line, rawInt pos.col, .ref c])) := by
        refine ⟨rfl, by rw [eL]; exact PySem.TriplesOk_snoc _ _ _ _ t1, fun pos1 cv e => ?_⟩
        rw [eL] at e
        rcases LamX.among_app _ t1 e with z | z
        · obtain ⟨c0, e1, e2⟩ := t2 pos1 cv z
          exact ⟨c0, e1, g1.ex _ _ e2⟩
        · exact ⟨c, z, upd_same⟩
      have g2 := g1.sit.put ha hS rfl rfl ok
      have eS : S.set i (.tab p q) = S := by
        apply List.ext_getElem?
        intro j
        by_cases hj : i = j
        · subst hj
          rw [List.getElem?_set_self (List.getElem?_eq_some_iff.mp hS).1, hS]
        · rw [List.getElem?_set_ne hj]
      have eH : upd (upd H c (LamX.CodeO c q)) p (.tbl (ps ++ #[rawInt pos.line, rawInt pos.col, .ref c])) = upd (upd H p (.tbl (ps ++ #[rawInt pos.line, rawInt pos.col, .ref c]))) c (LamX.CodeO c q) := by
        funext b
        by_cases h1 : b = c
        · subst h1
          rw [upd_same, upd_ne (Ne.symm nP), upd_same]
        · by_cases h2 : b = p
          · subst h2
            rw [upd_same, upd_ne h1, upd_same]
          · rw [upd_ne h2, upd_ne h1, upd_ne h1, upd_ne h2]
      rw [eS, eH] at g2
      exact ⟨_, g1.trans g2, upd_same⟩
  | _ => exact z3.elim
/-! ### the lambda is called -/
section
variable {X : Cx} {pins : List (Addr × Obj)} {σ : L2.St} {H : Hp} {s : Shared}
/-- the context of the def that got the lambda -/
abbrev cxA (X : Cx) (Ng : List Str) (qg : Str) (sg : Scope) (g : Addr) (cdg : Value) (s : Shared) (H : Hp) : Cx := cxOf (CXm false X.prog X.w) X.prog X.w X.K X.mg X.base Ng qg sg g cdg X.A X.stack s H E0
theorem pe_act2 {Ng : List Str} {qg : Str} {sg : Scope} {g f c1 : Addr} {cdg pm ctv : Value} {params : Arguments} {body : Expr} {scope : Scope} {k i : Nat} {a : Str} {pn : List (Addr × Obj)} {xe : Value → Shared → Prop} {W : WX} {tb : XK → TE} {p1 p2 : Pos}
    (I : Inv X pins σ H s) (L : LamX.LamS X.env.scope scope) (hf : s.heap.get? f = some (PySem.W.kla_obj "<lambda>" (X.env.qual ++ "<lambda>") params body scope (cloFrom X.env.cells scope.names []) pm c1 ctv)) (hfn : H f = none) (hfr : f ∉ frs X.stack)
    (hbind : bindArgs (PySem.W.kla_fn "<lambda>" (X.env.qual ++ "<lambda>") params body scope (cloFrom X.env.cells scope.names []) pm (.ref c1) ctv) ⟨[], []⟩ = pure [])
    (tk : Tk false ((cxA X Ng qg sg g cdg s H).tr pn xe) W) (hr : Room (k + 1) (X.A.deeper (envOfC qg sg s.heap.objs.size g cdg)))
    (hbody : ∀ (E : XK) (A : Around) (outer : List PySem.Env) (s : Shared) (H : Hp), A.guards = X.A.guards → Room k (A.deeper (LamX.lamEnv X scope s.heap.objs.size f c1)) → PE (LamX.lamCx X A outer s H E scope f c1) body (tb E))
    (hN : Ng[i]? = some a) (hv : Vis sg a) (hd : (a == ("__debug__" : Str)) = false := by decide) (hcd : (a == ("__classdict__" : Str)) = false := by decide) :
    PE ((cxA X Ng qg sg g cdg s H).tr pn xe) (.Call (.Name a p1) [] [] p2) (fun τ HZ Q => τ[i]? = some (some (.ref f)) ∧ HZ c1 = some (LamX.CodeO c1 (X.env.qual ++ "<lambda>")) ∧ tb (WE W τ) σ HZ Q) := by
  refine ⟨fun qs sZ τ HZ Q IZ h => ?_⟩
  obtain ⟨hs, hc, ht⟩ := h
  refine wpAny_Call_Name_kw (thn ((pe_var (pos := p1) (i := i) hN hv hd hcd).run qs sZ τ HZ (fun v H1 => v = .ref f ∧ H1 = HZ) IZ ⟨.ref f, hs, rfl, rfl⟩) fun u s1 hh => ?_)
  obtain ⟨v, H1, I1, r1, rfl, rfl⟩ := hh
  obtain rfl : u = Value.ref f := r1
  have of1 : s1.heap.get? f = some (PySem.W.kla_obj "<lambda>" (X.env.qual ++ "<lambda>") params body scope (cloFrom X.env.cells scope.names []) pm c1 ctv) := I1.base.keep f _ hf hfn hfr (fun z => nomatch (show f ∈ ([] : List Addr) from z))
  refine PySem.W.callWith_F0 ⟨_, _, _, _, of1⟩ ?_
  have un : Un (frs X.stack) [] H H1 s.heap s1.heap := I1.base
  obtain ⟨⟨oc, vs, t, hoc, hdc, hvc⟩, _, _⟩ := I1.hok c1 _ hc
  have rc : codeAny (model X.prog X.w) (X.A.deeper (envOfC qg sg s.heap.objs.size g cdg)) (.call (.ref f) ⟨[], []⟩) (CR (L2.CX X.prog X.w) (envOfC qg sg s.heap.objs.size g cdg :: X.stack) X.prog X.w H1 s1 Q (WE W τ)) s1 := by
    refine PySem.W.kla_callFunE hr.depth of1 rfl L.co L.gen rfl ⟨c1, oc, vs, t, rfl, hoc, hdc, hvc⟩ ?_
    rw [hbind]
    refine wpAny_pure (wpAny_newFunctionEnv (fun y hy => (L.own y hy).2) (fun y hy => absurd hy (by simp)) (fun hp1 hns hsb => ⟨I1.nolimit.fresh _ hsb, ?_⟩) L.kind)
    show codeAny _ _ (.expr body (LamX.lamEnv X scope s1.heap.objs.size f c1)) _ _
    have kp : ∀ b o, s1.heap.get? b = some o → hp1.get? b = some o := fun b o e => hsb.extBut b o (Nat.ne_of_lt (Heap.lt_size e)) (Heap.get?_push_of_some _ e)
    have J := LamX.lam_start2 (E := WE W τ) (f := f) (c' := c1) (tk := s1.toks + ([] : List (Str × Value)).length) I L I1.env0 hr.hd un hns kp
    refine PySem.W.kla_codeExpr (wpAny_mono ((hbody (WE W τ) (X.A.deeper (envOfC qg sg s.heap.objs.size g cdg)) _ s1 H1 rfl (hr.deeper _)).run [] _ _ H1 Q J ht) (fun v s2 hq => ?_) fun e s2 hq => hq)
    obtain ⟨y, H2, J2, rv, q⟩ := hq
    exact ⟨y, H2, J2.os, J2.bare, J2.base, J2.hok, rv, q⟩
  refine wpAny_call (codeAny_mono rc fun r s2 hq => ?_)
  cases r with
  | error e => exact tk.pass τ qs H1 s1 e s2 I1 hq
  | ok fl =>
    cases fl with
    | ret u => exact I1.after hq
    | next => exact hq.elim
    | brk => exact hq.elim
    | cont => exact hq.elim
end
end RV
end
section
/-! x(lambda: body), x a def that catches what its argument's call raises. -/
namespace RV
open PySem PySem.Spec PyProof.Rows L2
def ktC (n : Nat) (q : D → WS → Prop) : Kt := ⟨fun _ _ => False, fun d S2 => fin n d S2 q, fun _ _ => False, fun _ _ => False, fun _ _ _ => False⟩
def qTold (N i : Nat) (f : Addr) (mt : RV.Env → M) (n : Nat) (q : D → WS → Prop) : D → WS → Prop := fun d S' => mt ((startE N [.adr f]).set i (some d)) S' (fun d2 S2 => fin n d2 S2 q) noX
def xSaid (L : List Addr) (N j : Nat) (f : Addr) (ms : Addr → Addr → Addr → RV.Env → MS) (n : Nat) (q : D → WS → Prop) : Xq := fun e S' => onX e fun C fs => C ∈ L ∧ ∀ a d, ms a C d ((startE N [.adr f]).set j (some (.exv a C d fs))) S' (ktC n q)
/-- the def's own part; ta: what the call of its argument does -/
structure CcB (P : Program) (w : World) (K : PySem.W.Frag) (mg : Str → Option Value) (base : Heap) (x a : Str) (kc : Nat) (L : List Addr) (N i j : Nat) (mt : RV.Env → M) (ms : Addr → Addr → Addr → RV.Env → MS) (g : Addr) (Ng : List Str) (bg : List Stmt) (sg : Scope) (cdv : Value) : Prop where
  run : ∀ (A : Around) (outer : List PySem.Env) (s : Shared) (H : Hp), A.guards = some [] → Room kc (A.deeper (envOfC x sg s.heap.objs.size g cdv)) → ∀ ta : WX → TE,
    (∀ (W : WX) (pn : List (Addr × Obj)) (xe : Value → Shared → Prop) (p1 p2 : Pos), Tk false ((cxOf (CXm false P w) P w K mg base Ng x sg g cdv A outer s H E0).tr pn xe) W → PE ((cxOf (CXm false P w) P w K mg base Ng x sg g cdv A outer s H E0).tr pn xe) (.Call (.Name a p1) [] [] p2) (ta W)) →
    ∃ t, PSs (cxOf (CXm false P w) P w K mg base Ng x sg g cdv A outer s H E0) bg t ∧ ∀ (f : Addr) (as : List Addr) (F H1 : Hp) (S : WS) (q : D → WS → Prop) (Q : VK), Sit K as F H1 S → NQ K as F H1 q Q →
      (∀ (W : WX) (Qn : VK), NQ K as F H1 (qTold N i f mt S.length q) Qn → XQ K as F H1 (xSaid L N j f ms S.length q) (WE W (L2.start Ng [.ref f])) → ta W (L2.start Ng [.ref f]) H1 Qn) → t { nx := fun _ H' => Q .non H', rt := Q } (L2.start Ng [.ref f]) H1
/-- the module's name x is such a def -/
def Cc (P : Program) (w : World) (K : PySem.W.Frag) (mg : Str → Option Value) (base : Heap) (x : Str) (kc : Nat) (L : List Addr) (N i j : Nat) (mt : RV.Env → M) (ms : Addr → Addr → Addr → RV.Env → MS) : Prop :=
  ∃ (a : Str) (g : Addr) (Ng : List Str) (pg : Arguments) (bg : List Stmt) (sg : Scope) (dV kV doc pm cdv ct oc : Value) (an od : Option Addr) (osl : Array (Option Value)), K.lookup g = some ⟨oc, od, .func (PySem.W.fnOf x x pg bg sg dV kV doc pm an cdv ct), osl⟩ ∧ PySem.W.codeIn K cdv x = true ∧
    L2.Binds K (PySem.W.fnOf x x pg bg sg dV kV doc pm an cdv ct) [a] [] ∧ FnScope Ng [a] sg ∧ Ng[0]? = some a ∧ Vis sg a ∧ (a == ("__debug__" : Str)) = false ∧ (a == ("__classdict__" : Str)) = false ∧ PySem.W.keepIn K (.ref g) = true ∧ mg x = some (.ref g) ∧ CcB P w K mg base x a kc L N i j mt ms g Ng bg sg cdv
section
variable {P : Program} {w : World} {K : PySem.W.Frag} {mg : Str → Option Value} {base : Heap}
theorem start_ok {as : List Addr} {F : Hp} {Ng : List Str} {f : Addr} : RpE K as F (startE Ng.length [.adr f]) (L2.start Ng [.ref f]) := startE_ok (.cons (.adr f) .nil)
theorem cc_body {x a t n x1 x2 x3 : Str} {c1 c2 c3 : Value} {kc : Nat} {L : List Addr} {i j : Nat} {mt : RV.Env → M} {ms : Addr → Addr → Addr → RV.Env → MS} {g : Addr} {Ng : List Str} {sg : Scope} {cdv : Value} {R : Expr} {b0 : Stmt} {suite : List Stmt} {pt q1 q2 q3 p1 p2 p3 p4 p5 p6 p7 : Pos} {k4 : Nat}
    (hN : Ng.Nodup) (hi : Ng[i]? = some t) (hlt : Loc sg t) (hj : Ng[j]? = some n) (hL : ∀ C ∈ L, PySem.W.exmAny K (.ref C) [c1, c2, c3] = some true)
    (hln : ∀ (A : Around) (outer : List PySem.Env) (s : Shared) (H : Hp), (cxOf (CXm false P w) P w K mg base Ng x sg g cdv A outer s H E0).env.kindOf n = some .local)
    (hc1 : ∀ (A : Around) (outer : List PySem.Env) (s : Shared) (H : Hp), Names (cxOf (CXm false P w) P w K mg base Ng x sg g cdv A outer s H E0) x1 c1)
    (hc2 : ∀ (A : Around) (outer : List PySem.Env) (s : Shared) (H : Hp), Names (cxOf (CXm false P w) P w K mg base Ng x sg g cdv A outer s H E0) x2 c2)
    (hc3 : ∀ (A : Around) (outer : List PySem.Env) (s : Shared) (H : Hp), Names (cxOf (CXm false P w) P w K mg base Ng x sg g cdv A outer s H E0) x3 c3)
    (hst : ∀ (A : Around) (outer : List PySem.Env) (s : Shared) (H : Hp), starEach [.Name x1 q1, .Name x2 q2, .Name x3 q3] (cxOf (CXm false P w) P w K mg base Ng x sg g cdv A outer s H E0).env = [(false, eval (.Name x1 q1) (cxOf (CXm false P w) P w K mg base Ng x sg g cdv A outer s H E0).env), (false, eval (.Name x2 q2) (cxOf (CXm false P w) P w K mg base Ng x sg g cdv A outer s H E0).env), (false, eval (.Name x3 q3) (cxOf (CXm false P w) P w K mg base Ng x sg g cdv A outer s H E0).env)])
    (hsw : ∀ (A : Around) (outer : List PySem.Env) (s : Shared) (H : Hp), swapsWith (.Call (.Name a p1) [] [] p2) (some (.Name t pt)) p3.line (cxOf (CXm false P w) P w K mg base Ng x sg g cdv A outer s H E0).env = pure false)
    (hT : ∀ (A : Around) (outer : List PySem.Env) (s : Shared) (H : Hp), A.guards = some [] → Room kc (A.deeper (envOfC x sg s.heap.objs.size g cdv)) → GE (cxOf (CXm false P w) P w K mg base Ng x sg g cdv A outer s H E0) WF R mt)
    (hS : ∀ (A : Around) (outer : List PySem.Env) (s : Shared) (H : Hp) (b C d : Addr) (oe : Obj) (pn : List (Addr × Obj)), A.guards = some [] → Room kc (A.deeper (envOfC x sg s.heap.objs.size g cdv)) → Zc (.ref C) (some d) oe → (∃ vs, oe.data = .fields vs) → GSs ((cxOf (CXm false P w) P w K mg base Ng x sg g cdv A outer s H E0).suite b ((b, oe) :: pn)) WF (b0 :: suite) (ms b C d)) :
    CcB P w K mg base x a kc L Ng.length i j mt ms g Ng [.Try [.Assign [.Name t pt] (.Call (.Name a p1) [] [] p2) p3] [.ExceptHandler (some (.Tuple [.Name x1 q1, .Name x2 q2, .Name x3 q3] k4 p4)) (some n) (b0 :: suite) p5] [] [] p6, .Return (some R) p7] sg cdv := by
  refine ⟨fun A outer s H hg hr ta act => ?_⟩
  obtain ⟨te, pT, mT⟩ := hT A outer s H hg hr
  let Z : Cx := cxOf (CXm false P w) P w K mg base Ng x sg g cdv A outer s H E0
  let tb : WX → TS := fun W => tAsg (ta W) (gName i)
  let tsu : Addr → Value → Option Addr → TS := fun b cls d E σ H => ∀ (oe : Obj) (pn : List (Addr × Obj)), Zc cls d oe → (∃ vs, oe.data = .fields vs) → tWp (Z.suite b ((b, oe) :: pn)) (b0 :: suite) E σ H
  refine ⟨_, pss_cons (ps_try3 (X := Z) (tb := tb) (ts := tsu) rfl rfl hN hj (hln A outer s H) (hc1 A outer s H) (hc2 A outer s H) (hc3 A outer s H) (hst A outer s H) (fun W pn xe tk => pss_one (ps_set (X := Z.tr pn xe) hN hi hlt (act W pn xe p1 p2 tk) (hsw A outer s H) (.inl rfl)))
    (fun b oe cls d pn z1 z2 => ⟨fun pins s σ H E I h => h oe pn z1 z2 pins s I⟩)) (pss_one (ps_ret pT)), fun f as F H1 S q Q I nq h => ?_⟩
  refine h _ _ (fun d S1 bs F1 H2 v hd g1 r1 => ?_) (fun e S1 bs F1 H2 cls dd he g1 r1 => ?_)
  · exact mT bs F1 H2 S1 _ _ g1.sit (RpE.set start_ok r1) _ _ hd Q (fun d2 S2 cs F2 H3 v2 h2 g2 r2 => fin_ok I nq (g1.trans g2) r2 h2) XQ.no
  · obtain ⟨C, d, fs, vfs, rfl, rfl, rfl, r4, r5⟩ := r1
    refine ⟨hL C he.1, fun b hb oe pn z1 z2 pins2 s2 J2 => ?_⟩
    obtain ⟨t2, pp2, m2⟩ := hS A outer s H b C d oe pn hg hr z1 z2
    exact pp2.run pins2 s2 _ H2 _ J2 (m2 bs F1 H2 S1 _ _ g1.sit (RpE.set start_ok (Rp.exv r4 r5)) _ (he.2 b d) _ ⟨fun _ _ _ _ _ _ z => z.elim, fun d2 S2 cs F2 H3 v2 h2 g2 r2 => fin_ok I nq (g1.trans g2) r2 h2, fun _ _ _ _ _ _ z => z.elim, fun _ _ _ _ _ _ z => z.elim, fun _ _ _ _ _ _ _ _ _ z => z.elim⟩)
end
/-- its reading; ti: where the table is -/
def eCaught (ti : Nat) (T : Addr) (qn : Str) (L : List Addr) (N i j : Nat) (mt : RV.Env → M) (ms : Addr → Addr → Addr → RV.Env → MS) (eb : RV.Env → M) : RV.Env → M := fun ρ S q _ => S[ti]? = some (.tab T qn) ∧ ∀ f, eb ρ S (qTold N i f mt S.length q) (xSaid L N j f ms S.length q)
section
variable {X : Cx} {W : WX}
theorem ge_caught {x qn : Str} {c T : Addr} {k kc ti : Nat} {L : List Addr} {N i j : Nat} {mt : RV.Env → M} {ms : Addr → Addr → Addr → RV.Env → MS} {params : Arguments} {body : Expr} {scope : Scope} {eb : RV.Env → M} {p lpos pos : Pos} (cc : Cc X.prog X.w X.K X.mg X.base x kc L N i j mt ms)
    (TB : LamX.TabB X.base X.mg c T) (hcode : X.env.code = .ref c) (hgd : X.A.guards = some []) (hr : Room k X.A) (Lm : LamX.LamS X.env.scope scope)
    (hbody : ∀ (A : Around) (outer : List PySem.Env) (s : Shared) (H : Hp) (E : XK) (f c1 : Addr), A.guards = X.A.guards → Room (k - 2) (A.deeper (LamX.lamEnv X scope s.heap.objs.size f c1)) → Tk false (LamX.lamCx X A outer s H E scope f c1) (WofE E) → GE (LamX.lamCx X A outer s H E scope f c1) (WofE E) body eb)
    (hj : kc + 1 ≤ k ∧ 2 ≤ k := by decide) (hqn : X.env.qual ++ "<lambda>" = qn := by rfl) (hg : Gl X x := by rfl) (hdef : defaultsOf params X.env = ([], []) := by rfl) (hbind : ∀ (q : Str) (cl : List (Str × Addr)) (pm cv ctv : Value), bindArgs (PySem.W.kla_fn "<lambda>" q params body scope cl pm cv ctv) ⟨[], []⟩ = pure [] := by intros; rfl) (hdb : (x == ("__debug__" : Str)) = false := by decide) :
    GE X W (.Call (.Name x p) [.Lambda params body scope lpos] [] pos) (eCaught ti T qn L N i j mt ms eb) := by
  subst hqn
  obtain ⟨a, g, Ng, pg, bg, sg, dV, kV, doc, pm, cdv, ct, oc, an, od, osl, lk, hcg, hb, Sg, hNg, hva, hd, hcd, hk, hm, cb⟩ := cc
  refine ⟨fun σ H Q => ∀ (pins : List (Addr × Obj)) (s : Shared), Inv X pins σ H s → wpAny (model X.prog X.w) X.A (eval (.Call (.Name x p) [.Lambda params body scope lpos] [] pos) X.env) (EP X pins σ Q) X.xe s, ⟨fun pins s σ H Q I h => h pins s I⟩, ?_⟩
  intro as F H S ρ σ I R q xq h Q nq _ pins s J
  obtain ⟨hS, h⟩ := h
  obtain ⟨pT, haT, z1, o, z2, z3⟩ := I.at_ hS
  cases o with
  | tbl ps =>
    obtain ⟨rfl, t1, t2⟩ := z3
    refine wpAny_Call_Name_kw (ld_glob J hg hm ?_ hdb)
    refine PySem.W.callWith_K (h₀ := X.base) J.ok.mod.kin hk ?_ (by rfl) (by rfl)
    show wpAny _ _ (spliced ((false, eval (.Lambda params body scope lpos) X.env) :: backTo pos (starEach [] X.env))) _ _ s
    refine Calls.spliced_cons (lam_mk J TB hcode z2 t1 (fun pos cv e => let ⟨c, e1, e2⟩ := t2 pos cv e; ⟨c, e1, I.ex _ _ e2⟩) hdef (Lm.has J.ok) fun f c1 pm1 ctv H1 s1 J1 stp hf hfn hfr hco => ?_)
    refine Calls.spliced_nil ⟨J1.kIn, ?_⟩
    obtain ⟨F1, g1, hF1⟩ := stp.grow I haT hS z2
    have hr1 : Room (k - 1 + 1) X.A := hr.mono (by omega)
    have rc : codeAny (model X.prog X.w) X.A (.call (.ref g) ⟨[.ref f], []⟩) (CR (CXm false X.prog X.w) X.stack X.prog X.w H1 s1 Q E0) s1 := by
      refine LamX.run_ofS (N := Ng) (ps := [a]) (us := [.ref f]) (vs := [.ref f]) lk hcg Sg hr1 J1.env0 (hb s1 [.ref f] J1.kIn rfl) (.cons rfl .nil) rfl fun hr2 => ?_
      have hr3 : Room (k - 2 + 1) (X.A.deeper (envOfC x sg s1.heap.objs.size g cdv)) := hr2.mono (by omega)
      let tl : XK → TE := fun E τ HH Qn => ∀ (A : Around) (outer : List PySem.Env) (s0 : Shared) (H0 : Hp), A.guards = X.A.guards → Room (k - 2) (A.deeper (LamX.lamEnv X scope s0.heap.objs.size f c1)) → ∀ (pins : List (Addr × Obj)) (s : Shared), Inv (LamX.lamCx X A outer s0 H0 E scope f c1) pins τ HH s →
        wpAny (model X.prog X.w) (LamX.lamCx X A outer s0 H0 E scope f c1).A (eval body (LamX.lamCx X A outer s0 H0 E scope f c1).env) (EP (LamX.lamCx X A outer s0 H0 E scope f c1) pins τ Qn) (LamX.lamCx X A outer s0 H0 E scope f c1).xe s
      obtain ⟨t, pt, ht⟩ := cb.run X.A X.stack s1 H1 hgd (hr2.mono (by omega)) (fun W τ HZ Qn => τ[0]? = some (some (.ref f)) ∧ HZ c1 = some (LamX.CodeO c1 (X.env.qual ++ "<lambda>")) ∧ tl (WE W τ) σ HZ Qn)
        (fun W pn xe p1 p2 tk => pe_act2 (i := 0) (tb := tl) J1 Lm hf hfn hfr (hbind _ _ _ _ _) tk hr3 (fun E A outer s0 H0 hgA hrA => ⟨fun pins s τ HH Qn II hh => hh A outer s0 H0 hgA hrA pins s II⟩) hNg hva hd hcd)
      refine ⟨t, pt, ht f as F1 H1 S q Q g1.sit (nq.step g1) fun W1 Qn nq1 xq1 => ⟨?_, hco, fun A outer s0 H0 hgA hrA pins2 s2 J2 => ?_⟩⟩
      · have hl0 : 0 < Ng.length := (List.getElem?_eq_some_iff.mp hNg).1
        exact (start_ok (K := X.K) (as := []) (F := H1) (Ng := Ng) (f := f)).at_ 0 (.adr f) (by simp [startE]) |>.elim fun v hv => by cases hv.2; exact hv.1
      · obtain ⟨te, pe, me⟩ := hbody A outer s0 H0 (WE W1 (L2.start Ng [.ref f])) f c1 hgA hrA (L2.takes_of rfl rfl rfl rfl)
        exact pe.run pins2 s2 σ H1 Qn J2 (me as F1 H1 S ρ σ g1.sit (R.grow g1) _ _ (h f) Qn nq1 xq1)
    refine wpAny_call (codeAny_mono rc fun r s2 hq => ?_)
    cases r with
    | error e => exact (cxm_no (n := false) hq).elim
    | ok fl =>
      cases fl with
      | ret u => exact J1.after hq
      | next => exact hq.elim
      | brk => exact hq.elim
      | cont => exact hq.elim
  | _ => exact z3.elim
end
end RV
end
section
/-! dicts that stand still; repr with dicts, also while an error is handled; str of flat things; list * int. -/
namespace RV
open PySem L2
section
variable {K : PySem.W.Frag} {as : List Addr} {F H : Hp} {S : WS} {X : Cx} {W : WX} {pos : Pos}
/-! ### displays -/
def flatVV : List (V × V) → List V
  | [] => []
  | p :: r => p.1 :: p.2 :: flatVV r
def keyOfD : D → Option Key
  | .int i => some (.inl i)
  | .str s => some (.inr s)
  | _ => none
def pairD : List D → Option (List (Key × D))
  | [] => some []
  | k :: v :: r => (keyOfD k).bind fun k' => (pairD r).map fun l => (k', v) :: l
  | _ => none
def putKD (kvs : List (Key × D)) (k : Key) (v : D) : List (Key × D) :=
  if (kvs.any fun kv => decide (kv.1 = k)) = true then kvs.map (fun kv => if kv.1 = k then (kv.1, v) else kv) else kvs ++ [(k, v)]
def mergeD (kvs more : List (Key × D)) : List (Key × D) := more.foldl (fun acc kv => putKD acc kv.1 kv.2) kvs
theorem RpK.app : ∀ {a b : List (Key × D)} {va vb : List (Key × V)}, RpK K as F a va → RpK K as F b vb → RpK K as F (a ++ b) (va ++ vb)
  | _, _, _, _, .nil, s => s
  | _, _, _, _, .cons h r, s => .cons h (r.app s)
theorem RpK.any1 {k : Key} : ∀ {kvs : List (Key × D)} {vkv : List (Key × V)}, RpK K as F kvs vkv → (kvs.any fun kv => decide (kv.1 = k)) = (vkv.any fun kv => decide (kv.1 = k))
  | _, _, .nil => rfl
  | _, _, .cons _ r => by simp only [List.any_cons, r.any1]
theorem RpK.map1 {k : Key} {d : D} {v : V} (h : Rp K as F d v) : ∀ {kvs : List (Key × D)} {vkv : List (Key × V)}, RpK K as F kvs vkv → RpK K as F (kvs.map fun kv => if kv.1 = k then (kv.1, d) else kv) (vkv.map fun kv => if kv.1 = k then (kv.1, v) else kv)
  | _, _, .nil => .nil
  | _, _, .cons (n := n) h1 r => by
    simp only [List.map_cons]
    by_cases e : n = k
    · simp only [e, if_true]
      exact .cons h (r.map1 h)
    · simp only [e, if_false]
      exact .cons h1 (r.map1 h)
theorem RpK.put {k : Key} {d : D} {v : V} (h : Rp K as F d v) {kvs : List (Key × D)} {vkv : List (Key × V)} (r : RpK K as F kvs vkv) : RpK K as F (putKD kvs k d) (putK vkv k v) := by
  unfold putKD putK
  rw [r.any1]
  split
  · exact r.map1 h
  · exact r.app (.cons h .nil)
theorem RpK.merge : ∀ {more kvs : List (Key × D)} {vmore vkv : List (Key × V)}, RpK K as F more vmore → RpK K as F kvs vkv → RpK K as F (mergeD kvs more) (mergeK vkv vmore)
  | _, _, _, _, .nil, r => r
  | _, _, _, _, .cons h m, r => m.merge (r.put h)
theorem pair_ok : ∀ {ds : List D} {kvs : List (Key × D)} {ps : List (V × V)}, pairD ds = some kvs → RpL K as F ds (flatVV ps) → ∃ vkv : List (Key × V), ps = vkv.map (fun kv => (kV kv.1, kv.2)) ∧ RpK K as F kvs vkv ∧ kvs.length = vkv.length := by
  intro ds
  induction ds using pairD.induct with
  | case1 =>
    intro kvs ps e r
    cases e
    match ps, r with
    | [], _ => exact ⟨[], rfl, .nil, rfl⟩
  | case2 k v r ih =>
    intro kvs ps e rr
    unfold pairD at e
    simp only [Option.bind_eq_some_iff, Option.map_eq_some_iff] at e
    obtain ⟨k', hk, l, hl, rfl⟩ := e
    match ps, rr with
    | (p1, p2) :: ps, .cons h1 (.cons h2 h3) =>
      obtain ⟨vkv, e1, e2, e3⟩ := ih hl h3
      refine ⟨(k', p2) :: vkv, ?_, .cons h2 e2, by simp [e3]⟩
      have : p1 = kV k' := by
        simp only at h1
        cases h1 with
        | int i => cases hk; rfl
        | str s => cases hk; rfl
        | _ => cases hk
      rw [List.map_cons, e1, ← this]
  | case3 ds h1 h2 =>
    intro kvs ps e rr
    match ds, h1, h2, e with
    | [], h1, _, _ => exact absurd rfl h1
    | [d], _, _, e => cases e
    | a :: b :: c, _, h2, _ => exact absurd rfl (h2 a b c)
structure GP (X : Cx) (W : WX) (pos : Pos) (keys : List (Option Expr)) (values : List Expr) (m : RV.Env → ML) : Prop where
  ex : ∃ trs, PPs X pos keys values trs ∧ ∀ (as : List Addr) (F H : Hp) (S : WS) (ρ : RV.Env) (σ : L2.St), Sit X.K as F H S → RpE X.K as F ρ σ → ∀ q x, m ρ S q x →
    ∀ Q : List (V × V) → Hp → Prop, (∀ ds S' bs F' H' ps, q ds S' → Grow X.K as F H bs F' H' S' → RpL X.K bs F' ds (flatVV ps) → Q ps H') → XQ X.K as F H x (WE W σ) → tPairs trs σ H Q
theorem gp_nil : GP X W pos [] [] aNil := ⟨[], pps_nil, fun as F H S ρ σ I R q x h Q hq hx => hq [] S as F H [] h (Grow.refl I) .nil⟩
theorem gp_cons {k v : Expr} {ks : List (Option Expr)} {vs : List Expr} {ek ev : RV.Env → M} {er : RV.Env → ML} (hk : GE X W k ek) (hv : GE X W v ev) (hr : GP X W pos ks vs er) : GP X W pos (some k :: ks) (v :: vs) (aCons ek (aCons ev er)) := by
  obtain ⟨tk, pk, mk⟩ := hk
  obtain ⟨tv, pv, mv⟩ := hv
  obtain ⟨trs, pr, mr⟩ := hr
  refine ⟨(tk, tv) :: trs, pps_cons pk pv pr, fun as F H S ρ σ I R q x h Q hq hx => ?_⟩
  refine mk as F H S ρ σ I R _ x h _ (fun u S1 bs F1 H1 v1 h1 g1 r1 => ?_) hx
  refine mv bs F1 H1 S1 ρ σ g1.sit (R.grow g1) _ x h1 _ (fun w S2 cs F2 H2 v2 h2 g2 r2 => ?_) (hx.step g1)
  have g12 := g1.trans g2
  refine mr cs F2 H2 S2 ρ σ g2.sit (R.grow g12) _ x h2 _ (fun ds S3 es F3 H3 ps h3 g3 r3 => ?_) (hx.step g12)
  exact hq (u :: w :: ds) S3 es F3 H3 ((v1, v2) :: ps) h3 (g12.trans g3) (.cons (RpE_aux (g2.trans g3) r1) (.cons (RpE_aux g3 r2) r3))
def eDisp (l : Lk) (er : RV.Env → ML) : RV.Env → M := fun ρ S q x => er ρ S (fun ds S1 => onS (pairD ds) fun kvs => decide (kvs.length ≤ 15) = true ∧ match l with
  | .still => q (.dic (mergeD [] kvs)) S1
  | .new => False) x
theorem ge_disp {keys : List (Option Expr)} {values : List Expr} {er : RV.Env → ML} (h : GP X W pos keys values er) (hall : keys.all (·.isSome) = true := by rfl) (hl : keys.length = values.length := by rfl) (h0 : keys ≠ [] := by simp) (h15 : keys.length ≤ 15 := by decide) : GE X W (.Dict keys values pos) (eDisp .still er) := by
  obtain ⟨trs, p, m⟩ := h
  refine ⟨_, pe_disp p hall hl h0 h15, fun as F H S ρ σ I R q x e Q hq hx => ?_⟩
  intro a ha
  have fa := I.out ha
  have na : a ∉ as := fun z => I.there z ha
  have I0 : Sit X.K as F (upd H a (.dK [])) S := I.other fa na
  have gg : ∀ {bs F' H' S'}, Grow X.K as F (upd H a (.dK [])) bs F' H' S' → Grow X.K as F H bs F' H' S' := fun g => ⟨g.sit, g.pre, g.ex, fun b hb => (g.new b hb).imp id fun z => by
      by_cases e2 : b = a
      · subst e2; exact ha
      · rwa [upd_ne e2] at z, fun b hb => (g.newc b hb).imp id fun z => by
      by_cases e2 : b = a
      · subst e2; exact ha
      · rwa [upd_ne e2] at z, fun b o nb hb => g.old b o nb (by rw [upd_ne (ne_of_none hb ha)]; exact hb), fun b hb => g.there b (upd_there hb)⟩
  refine m as F _ S ρ σ I0 R _ x e _ (fun ds S1 bs F1 H1 ps h1 g1 r1 => ?_) (fun e2 S' bs F' H' cls dd a1 g a3 => hx e2 S' bs F' H' cls dd a1 (gg g) a3)
  obtain ⟨kvs, h2, h3⟩ := onS_ok h1
  obtain ⟨vkv, e1, e2, e3⟩ := pair_ok h2 r1
  have at1 : H1 a = some (.dK []) := g1.old a _ na upd_same
  have nb : a ∉ bs := fun z => by
    rcases g1.newc a z with z | z
    · exact na z
    · rw [upd_same] at z; cases z
  have fb : F1 a = none := by
    cases q2 : F1 a with
    | none => rfl
    | some o =>
      rcases g1.new a (by rw [q2]; simp) with z | z
      · exact absurd fa z
      · rw [upd_same] at z; cases z
  refine ⟨at1, vkv, e1, by rw [← e3]; exact of_decide_eq_true h3.1, ?_⟩
  have g2 := gg g1
  have I2 : Sit X.K bs F1 (upd H1 a (.dK (mergeK [] vkv))) S1 := g1.sit.other fb nb
  have I3 := I2.freeze fb nb upd_same
  refine hq _ S1 bs (upd F1 a (.dK (mergeK [] vkv))) _ (.ref a) h3.2 ⟨I3, g2.pre, g2.ex.trans (Ex.new fb), fun b hb => ?_, g2.newc, fun b o nb2 hb => ?_, fun b hb => upd_there (g2.there b hb)⟩ (.dic upd_same (RpK.mono (Ex.new fb) (Pre.refl _) (e2.merge .nil)))
  · by_cases e4 : b = a
    · subst e4; exact .inr ha
    · rw [upd_ne e4] at hb
      exact g2.new b hb
  · rw [upd_ne (ne_of_none hb ha)]
    exact g2.old b o nb2 hb
def eDic0 : RV.Env → M := fun _ S q _ => q (.dic []) S
theorem ge_dic0 : GE X W (.Dict [] [] pos) eDic0 := ⟨_, pe_dnewK, fun as F H S ρ σ I R q x h Q hq _ a ha => hq _ S as _ _ _ h (I.grow ha) (.dic upd_same .nil)⟩
/-! ### repr -/
def flatPy : D → Option PyData
  | .non => some .none
  | .bl b => some (.bool b)
  | .int i => some (.int i)
  | .str s => some (.str s)
  | _ => none
def keyPy : Key → PyData
  | .inl i => .int i
  | .inr s => .str s
def kvPy : List (Key × D) → Option (List (PyData × PyData))
  | [] => some []
  | (k, d) :: r => (flatPy d).bind fun p => (kvPy r).map fun l => (keyPy k, p) :: l
def D.pyd : D → Option PyData
  | .dic kvs => (kvPy kvs).map PyData.dict
  | d => D.py d
theorem flat_reads {h : Heap} {d : D} {v : V} {u : Value} {p : PyData} (r : Rp K as F d v) (e : flatPy d = some p) (ru : RelV v u) : Reads h u p [] := by
  cases r with
  | non => cases e; cases ru; exact .none
  | bl b => cases e; cases ru; exact .bool b
  | int i => cases e; obtain ⟨t, rfl⟩ := ru; exact .int i t
  | str s => cases e; obtain ⟨t, rfl⟩ := ru; exact .str s t
  | _ => cases e
theorem kv_reads {P : Program} {w : World} {h : Heap} : ∀ {kvs : List (Key × D)} {vkv : List (Key × V)} {us : List (Key × Value)} {es : List DictEntry} {ps : List (PyData × PyData)}, RpK K as F kvs vkv → KV vkv us → Pairs (mixKind P w) es us → kvPy kvs = some ps →
    ReadsAll h (es.map (·.key)) (ps.map (·.1)) [] ∧ ReadsAll h (es.map (·.val)) (ps.map (·.2)) []
  | _, _, _, _, _, .nil, .nil, .nil, e => by cases e; exact ⟨.nil, .nil⟩
  | _, _, _, _, _, .cons (n := k) h1 r, .cons h2 t, .cons h3 h4 t2, e => by
    unfold kvPy at e
    simp only [Option.bind_eq_some_iff, Option.map_eq_some_iff] at e
    obtain ⟨p, e1, l, e2, rfl⟩ := e
    obtain ⟨a1, a2⟩ := kv_reads r t t2 e2
    have hk := h3
    rw [← h2.1] at hk
    refine ⟨?_, ?_⟩
    · rcases keyIs_shape hk with ⟨i, tt, z1, z2⟩ | ⟨y, tt, z1, z2⟩
      · simp only at z1
        subst z1
        rw [List.map_cons, z2]
        exact ReadsAll.cons (as := []) (bs := []) (.int i tt) a1
      · simp only at z1
        subst z1
        rw [List.map_cons, z2]
        exact ReadsAll.cons (as := []) (bs := []) (.str y tt) a1
    · rw [List.map_cons, h4]
      exact ReadsAll.cons (as := []) (bs := []) (flat_reads h1 e1 h2.2) a2
/-- the data of a dict at a -/
def DicAt (K : PySem.W.Frag) (H : Hp) (a : Addr) (p : PyData) : Prop := ∃ (as : List Addr) (F : Hp) (kvs : List (Key × D)) (vkv : List (Key × V)) (ps : List (PyData × PyData)), H a = some (.dK vkv) ∧ RpK K as F kvs vkv ∧ kvPy kvs = some ps ∧ p = .dict ps
def rRepr2 (K : PySem.W.Frag) : List V → Hp → VK → Prop := fun xs H Q => rRepr K xs H Q ∨ ∃ a p, xs = [.ref a] ∧ DicAt K H a p ∧ p.showable = true ∧ p.depth ≤ 64 ∧ p.shown.length ≤ sizeLine ∧ Q (.str p.shown) H
theorem Rx.units {h : Bool} {k : Nat} (hr : Rx h k X) : X.A.units + 65 < cLine := by
  cases h
  · have := hr.un; omega
  · have := hr.1.un; omega
end
end RV
end
section
namespace RV
open PySem L2
section
variable {K : PySem.W.Frag} {as : List Addr} {F H : Hp} {S : WS} {X : Cx} {W : WX} {pos : Pos}
theorem call_repr2 {h : Bool} {k : Nat} (hg : X.A.guards = some []) (hr : Rx h k X) : CallR X (.builtin "repr") (rRepr2 X.K) := fun pins s σ H xs us Q I rv hh => by
  have hu := hr.units
  rcases hh with ⟨x, d, rfl, hd, hs, hnd, hde, hz, q⟩ | ⟨a, p, rfl, ⟨as, F, kvs, vkv, ps, ha, rk, ek, rfl⟩, hs, hde, hz, q⟩
  · obtain ⟨u, rfl, ru⟩ := vals1 rv
    have heap : ∀ p, x = .ref p → wpAny (model X.prog X.w) X.A (call (.builtin "repr") [u]) (EP X pins σ Q) X.xe s := fun p ex => by
      subst ex
      cases ru
      obtain ⟨as, rd⟩ := hd.reads I d _ _ rfl
      refine PySem.repr_of_reads' rd hs (fun z => by rw [hnd] at z; cases z) hg (by omega) (fun b o e => e) (fun h' u tk hk => ?_) hz
      exact ⟨.str d.shown, H, I.kept hk, ⟨u, rfl⟩, q⟩
    cases hd with
    | lst _ _ => exact heap _ rfl
    | tup _ _ => exact heap _ rfl
    | non => cases ru; exact PySem.P.repr_of_none ⟨.str _, H, I.tok _, ⟨_, rfl⟩, q⟩
    | bl b => cases ru; exact PySem.P.repr_of_bool ⟨.str _, H, I.tok _, ⟨_, rfl⟩, q⟩
    | int i =>
      obtain ⟨t, rfl⟩ := ru
      exact PySem.P.repr_of_int (of_decide_eq_true (by simpa [PyData.showable] using hs)) ⟨.str _, H, I.tok _, ⟨_, rfl⟩, q⟩
    | str z =>
      obtain ⟨t, rfl⟩ := ru
      exact PySem.P.repr_of_str ⟨.str _, H, I.tok _, ⟨_, rfl⟩, q⟩ hz
  · obtain ⟨u, rfl, ru⟩ := vals1 rv
    cases ru
    obtain ⟨_, hsm, us, hkv, o, es, ep, e1, e2, e3, _, e4, _⟩ := dk_of I.hok ha
    obtain ⟨r1, r2⟩ := kv_reads (h := s.heap) rk hkv e4 ek
    have rd : Reads s.heap (.ref a) (.dict ps) [a] := Reads.dict (as := []) (bs := []) e1 e2.1 e3 r1 r2
    refine PySem.repr_of_reads' rd hs (fun _ z => ?_) hg (by omega) (fun b o e => e) (fun h' u tk hk => ?_) hz
    · rw [List.mem_singleton] at z
      rw [z] at hsm
      simp at hsm
    · exact ⟨.str _, H, I.kept hk, ⟨u, rfl⟩, q⟩
def reprD2 : WS → List D → Option D := fun S xs => match xs with
  | [.dic kvs] => (kvPy kvs).bind fun ps => if (PyData.dict ps).showable = true ∧ (PyData.dict ps).depth ≤ 64 ∧ (PyData.dict ps).shown.length ≤ sizeLine then some (.str (PyData.dict ps).shown) else none
  | xs => reprD S xs
theorem rc_repr2 : RC K (rRepr2 K) reprD2 := fun as F H S ds d vs I r h Q q => by
  unfold reprD2 at h
  split at h
  · simp only [Option.bind_eq_some_iff] at h
    obtain ⟨ps, h1, h2⟩ := h
    split at h2
    · rename_i hh
      cases h2
      obtain ⟨v, ws, rfl, rv, rn⟩ := r.unsn
      obtain rfl := rn.unnil
      cases rv with
      | dic z1 z2 => exact .inr ⟨_, _, rfl, ⟨as, F, _, _, ps, I.ex _ _ z1, z2, h1, rfl⟩, hh.1, hh.2.1, hh.2.2, keep I q (.str _)⟩
    · cases h2
  · exact .inl (rc_repr as F H S _ d vs I r h Q q)
/-! ### str of flat things -/
def rStrF : List V → Hp → VK → Prop := fun xs H Q => (∃ i, xs = [.int i] ∧ i.natAbs.log2 < 1920 ∧ Q (.str (toString i)) H) ∨ (∃ a, xs = [.str a] ∧ Q (.str a) H) ∨ ∃ b : Bool, xs = [.bl b] ∧ Q (.str (if b then "True" else "False")) H
theorem call_strFl : CallR X (.type "str") rStrF := fun pins s σ H xs us Q I r h => by
  rcases h with h | h | ⟨b, rfl, q⟩
  · exact call_str_int pins s σ H xs us Q I r h
  · obtain ⟨a, rfl, q⟩ := h
    obtain ⟨u, rfl, t, rfl⟩ := vals1 r
    exact PySem.P.str_of_str ⟨.str a, H, I, ⟨t, rfl⟩, q⟩
  · obtain ⟨u, rfl, rfl⟩ := vals1 r
    exact PySem.P.str_of_bool ⟨.str _, H, I.tok _, ⟨_, rfl⟩, q⟩
def strFD : WS → List D → Option D := fun _ xs => match xs with
  | [.int i] => if i.natAbs.log2 < 1920 then some (.str (toString i)) else none
  | [.str s] => some (.str s)
  | [.bl b] => some (.str (if b then "True" else "False"))
  | _ => none
theorem rc_strFl : RC K rStrF strFD := fun as F H S ds d vs I r h Q q => by
  unfold strFD at h
  split at h
  · split at h
    · rename_i i hi
      cases h
      obtain ⟨v, ws, rfl, rv, rn⟩ := r.unsn
      obtain rfl := rn.unnil
      cases rv
      exact .inl ⟨i, rfl, hi, keep I q (.str _)⟩
    · cases h
  · cases h
    obtain ⟨v, ws, rfl, rv, rn⟩ := r.unsn
    obtain rfl := rn.unnil
    cases rv
    exact .inr (.inl ⟨_, rfl, keep I q (.str _)⟩)
  · cases h
    obtain ⟨v, ws, rfl, rv, rn⟩ := r.unsn
    obtain rfl := rn.unnil
    cases rv
    exact .inr (.inr ⟨_, rfl, keep I q (.str _)⟩)
  · cases h
/-! ### list * int -/
def repLD : WS → D → D → Option D := fun _ x y => match x, y with
  | .lst ds, .int k => if 0 ≤ k ∧ k < 1000 ∧ small (ds.length * k.toNat) = true then some (.lst (List.replicate k.toNat ds).flatten) else none
  | _, _ => none
theorem RpL.rep {ds : List D} {vs : List V} (r : RpL K as F ds vs) : ∀ n : Nat, RpL K as F (List.replicate n ds).flatten (List.replicate n vs).flatten
  | 0 => .nil
  | n + 1 => by
    rw [List.replicate_succ, List.replicate_succ, List.flatten_cons, List.flatten_cons]
    exact r.append (r.rep n)
theorem ro_repL : RO K rRep repLD := fun as F H S x y d vx vy I rx ry h Q q => by
  unfold repLD at h
  split at h
  · rename_i ds k
    split at h
    · rename_i hh
      cases h
      cases rx with
      | @lst a0 xs0 _ z1 z2 =>
        cases ry
        have hl := z2.length
        refine ⟨_, k, _, rfl, rfl, I.ex _ _ z1, by omega, by omega, by rw [← hl]; exact small_le hh.2.2, fun p hp => ?_⟩
        have g := I.grow (o := .lst (List.replicate k.toNat xs0).flatten) hp
        exact q _ _ _ g (.lst upd_same ((z2.mono g.ex g.pre).rep _))
    · cases h
  · cases h
end
end RV
end
section
/-! The law's end with tables of code objects; the head that tells of them. -/
namespace RV
open PySem L2
variable {nn : Bool}
def noTab : Obj := { cls := .none, data := .fields #[] }
/-- the law's def, called with the script; ts: code objects and their tables -/
theorem script_runT {P : Program} {w : World} {K : PySem.W.Frag} {mg mb : Str → Option Value} {k : Nat} {fa a : Addr} {fd : FuncData} {x : Str} {sp : Sp} {s1 : Shared} {vs : List Value} {ns : List Int} {ts : List (Addr × Addr)}
    (KX : K.In s1.heap) (hns : s1.heap.Ns mainGlobals mg) (hb : s1.heap.Ns builtinsNs mb) (hbb : ∀ x : Str, x ≠ "__name__" → mb x = bootBuiltins x) (hlim : s1.heap.NoLimit) (hg : s1.gens = #[])
    (tE : ∀ t ∈ ts, s1.heap.get? t.2 = some noTab) (tK : ∀ t ∈ ts, K.lookup t.2 = none) (tC : ∀ t ∈ ts, PySem.W.CodeHd s1.heap t.1 t.2)
    (tB : ∃ (bm : Addr) (ob : Obj), mg "__builtins__" = some (.ref bm) ∧ bm ≠ builtinsNs ∧ s1.heap.get? bm = some ob ∧ ob.cls = .type "module" ∧ ob.dict = some builtinsNs ∧ ob.data = .plain)
    (ha : s1.heap.get? a = some { cls := .type "list", data := .seq vs.toArray }) (hi : PyProof.Rows.IntsAre vs ns) (hl : ns.length ≤ sizeLine) (hr : Room k callerA)
    (F : ∀ base : Heap, K.In base → base.Ns mainGlobals mg → (∀ t ∈ ts, LamX.TabB base mg t.1 t.2) → FnX ⟨true, nn, false⟩ P w K mg base k fa fd [x] sp) (hbind : ∀ (s : Shared) (u : Value), BindsTo s fd ⟨[u], []⟩ [(x, u)])
    (hsp : ∀ H : Hp, (∀ t ∈ ts, H t.2 = some (.tbl #[])) → SqL K H a (ns.map V.int) → sp [.ref a] H (fun v _ => v = .bl true) fun _ _ _ => False) :
    codeAny (model P w) callerA (.call (.ref fa) ⟨[.ref a], []⟩) (fun r s' => r = .ok (.ret (.bool true)) ∧ OldK s1.heap s'.heap ∧ s'.os = s1.os ∧ PyProof.Rows.AllBare s'.gens) s1 := by
  have rv := vals_ints hi
  let isT : Addr → Prop := fun b => ∃ t ∈ ts, t.2 = b
  have atT : ∀ b, isT b → s1.heap.get? b = some noTab := fun b ⟨t, h1, h2⟩ => h2 ▸ tE t h1
  have aT : ¬ isT a := fun z => by
    have q := (atT a z).symm.trans ha
    have := congrArg Obj.data (Option.some.inj q)
    cases this
  have core : ∀ H : Hp, (∀ b, isT b → H b = some (.tbl #[])) → (∀ b, ¬ isT b → H b = none ∨ (b = a ∧ ∃ o xs, H b = some (.frz o (.lst xs)))) → SqL K H a (ns.map V.int) → HOk P w H s1.heap → (H a ≠ none → K.lookup a = none) →
      codeAny (model P w) callerA (.call (.ref fa) ⟨[.ref a], []⟩) (fun r s' => r = .ok (.ret (.bool true)) ∧ OldK s1.heap s'.heap ∧ s'.os = s1.os ∧ PyProof.Rows.AllBare s'.gens) s1 := by
    intro H hT hO hS hok hK
    -- what is no table and no list is out of sight
    have out : ∀ {b : Addr} {o : Obj}, s1.heap.get? b = some o → o ≠ noTab → (∀ vs n, o.data ≠ .seq vs n) → H b = none := fun {b o} e h1 h2 => by
      by_cases z : isT b
      · rw [atT b z] at e
        exact absurd (Option.some.inj e).symm h1
      · rcases hO b z with y | ⟨rfl, _⟩
        · exact y
        · rw [ha] at e
          exact absurd rfl (by rw [← Option.some.inj e] at h2; exact h2 _ _)
    have dictOut : ∀ {c : Addr} {m : Str → Option Value}, s1.heap.Ns c m → (hidT s1.heap H).Ns c m := fun {c m} ⟨o, es, ep, e, d, r⟩ => by
      refine ⟨o, es, ep, hidT_get e (out e (fun z => ?_) fun vs n z => ?_), d, r⟩
      · rw [z] at d; cases d
      · rw [z] at d; cases d
    have KB : K.In (hidT s1.heap H) := fun c o e => by
      refine hidT_get (KX c o e) ?_
      by_cases z : isT c
      · obtain ⟨t, h1, h2⟩ := z
        rw [← h2, tK t h1] at e
        cases e
      · rcases hO c z with y | ⟨rfl, oo, xs, y⟩
        · exact y
        · rw [hK (by rw [y]; simp)] at e
          cases e
    have md : Mod K mg (hidT s1.heap H) := by
      obtain ⟨mc, l1, l2⟩ := hlim
      exact ⟨KB, dictOut hns, ⟨mb, dictOut hb, hbb⟩, ⟨mc, dictOut l1, l2⟩⟩
    have TB : ∀ t ∈ ts, LamX.TabB (hidT s1.heap H) mg t.1 t.2 := fun t ht => by
      have e0 := tE t ht
      refine ⟨?_, ?_, fun z => ?_⟩
      · obtain ⟨o, us, fl, tf, fg, tg, inF, tx, tt, e1, r1, r2, rest⟩ := tC t ht
        refine ⟨o, us, fl, tf, fg, tg, inF, tx, tt, hidT_get e1 (out e1 (fun z => ?_) fun vs n z => ?_), r1, r2, rest⟩
        · rw [z] at r1; cases r1
        · rw [r2] at z; cases z
      · obtain ⟨bm, ob, b1, b2, b3, b4, b5, b6⟩ := tB
        refine ⟨bm, ob, b1, b2, fun q => ?_, fun q => ?_, hidT_get b3 (out b3 (fun z => ?_) fun vs n z => ?_), b4, b5, b6⟩
        · obtain ⟨o, es, ep, e, hd, _⟩ := hns
          rw [q, e] at b3
          cases b3
          rw [hd] at b6; cases b6
        · rw [q, e0] at b3
          cases b3; cases b6
        · rw [z] at b6; cases b6
        · rw [b6] at z; cases z
      · obtain ⟨o, es, ep, e, hd, _⟩ := hns
        rw [z, e0] at e
        cases e; cases hd
    have e0 : Env0 P w K mg (hidT s1.heap H) callerA [] s1 H := by
      refine ⟨rfl, md, fun c o e => of_hidT e, Nat.le_of_eq (hidT_size _ _), trivial, fun c hc => ?_, hok, .of_eq hg⟩
      exact absurd hc (by simp [frs])
    refine codeAny_mono ((F _ KB (dictOut hns) TB).run callerA [] s1 H ⟨[.ref a], []⟩ [.ref a] [.ref a] _ _ (fun _ => rfl) hr e0 (hbind s1 (.ref a)) (.cons rfl .nil) (hsp H (fun t ht => hT _ ⟨t, ht, rfl⟩) hS)) fun r s' h => ?_
    cases r with
    | error e => exact (cxm_no h).elim
    | ok fl =>
      cases fl with
      | next => exact h.elim
      | brk => exact h.elim
      | cont => exact h.elim
      | ret u =>
        obtain ⟨v, H', os, bare, un, hok', r', q⟩ := h
        have q' : v = .bl true := q
        subst q'
        obtain rfl : u = Value.bool true := r'
        have same : ∀ b o, ¬ isT b → s1.heap.get? b = some o → s'.heap.get? b = some o := fun b o nb e => by
          rcases hO b nb with z | ⟨_, ob, xs, z⟩
          · exact un.keep b o e z (by simp [frs]) (by simp)
          · obtain ⟨e1, _⟩ := hok b _ z
            obtain ⟨e2, _⟩ := hok' b _ (un.frzs b ob _ z)
            rw [e] at e1
            cases e1
            exact e2
        have more : ∀ b, isT b → ∃ m : Array Value, s'.heap.get? b = some { cls := .none, data := .fields m } := fun b hb => by
          obtain ⟨m, z⟩ := un.tbls b #[] (hT b hb)
          exact ⟨_, hok' b _ z⟩
        refine ⟨rfl, ⟨fun b o e => ?_, fun b o e => ?_⟩, os, bare⟩
        · by_cases hb : isT b
          · obtain ⟨m, hm⟩ := more b hb
            have eb := atT b hb
            obtain ⟨t, h1, rfl⟩ := hb
            rw [eb] at e
            cases e
            refine .inr (.inl ⟨((tC t h1).tab eb).isCodeTable, rfl, #[], m, rfl, ?_⟩)
            rw [Array.empty_append]
            exact hm
          · exact .inl (same b o hb e)
        · by_cases hb : isT b
          · obtain ⟨m, hm⟩ := more b hb
            exact ⟨_, hm⟩
          · exact ⟨o, same b o hb e⟩
  have dec : ∀ b, isT b ∨ ¬ isT b := fun b => Classical.em _
  open Classical in
  cases hk : K.lookup a with
  | some o =>
    have e := KX a o hk
    rw [ha] at e
    cases e
    refine core (fun b => if isT b then some (.tbl #[]) else none) (fun b hb => if_pos hb) (fun b hb => .inl (if_neg hb)) ?_ (fun b u z => ?_) fun z => absurd (if_neg aT) z
    · refine .inr ⟨_, vs.toArray, _, hk, rfl, rfl, rfl, ?_, by simpa using rv⟩
      rw [List.size_toArray, hi.length]
      exact hl
    · by_cases hb : isT b
      · have z' := (if_pos hb).symm.trans z
        cases z'
        exact atT b hb
      · have z' := (if_neg hb).symm.trans z
        cases z'
  | none =>
    let lock : HO := .frz { cls := .type "list", data := .seq vs.toArray } (.lst (ns.map V.int))
    have at1 : (fun c => if c = a then some lock else if isT c then some (.tbl #[]) else none : Hp) a = some lock := if_pos rfl
    refine core (fun c => if c = a then some lock else if isT c then some (.tbl #[]) else none) (fun b hb => (if_neg (show ¬ b = a from fun z => aT (z ▸ hb))).trans (if_pos hb)) (fun b hb => ?_) (.inl (.inr ⟨_, at1⟩)) (fun c u z => ?_) fun _ => hk
    · by_cases e : b = a
      · exact .inr ⟨e, _, _, if_pos e⟩
      · exact .inl ((if_neg e).trans (if_neg hb))
    · by_cases hc : c = a
      · have z' : some lock = some u := (if_pos hc).symm.trans z
        cases z'
        subst hc
        exact ⟨ha, by rw [List.length_map]; exact hl, vs, _, rv, ha⟩
      · have z1 := (if_neg hc).symm.trans z
        by_cases hb : isT c
        · have z' := (if_pos hb).symm.trans z1
          cases z'
          exact atT c hb
        · have z' := (if_neg hb).symm.trans z1
          cases z'
/-- the cells that stand at the law's start -/
def tabS (ts : List (Addr × Addr)) (qs : List Str) : WS := (ts.zip qs).map fun p => .tab p.1.2 p.2
theorem tabS_len : ∀ {ts : List (Addr × Addr)} {qs : List Str}, ts.length = qs.length → (tabS ts qs).length = ts.length := fun {ts qs} h => by simp [tabS, h]
theorem walk_GT {l : PySem.W.OpenLaw} {n k : Nat} {q : Program} {loose : List Str} {XP : (Str → Option Value) → Heap → Prop} {YP : World → Heap → Prop} {d : DefRec} {x : Str}
    (hn : l.most = some n) (hn2 : n ≤ sizeLine) (hdf : d.params.defaults = []) (hr : Room k callerA)
    (F : ∀ (w : World) (mg : Str → Option Value) (fa : Addr) (h : Heap), YP w h → h.Ns mainGlobals mg → mg d.name = some (.ref fa) →
      ∃ (K : PySem.W.Frag) (fd : FuncData) (G : List D → M) (ts : List (Addr × Addr)) (qs : List Str), K.In h ∧ (∀ t ∈ ts, h.get? t.2 = some noTab) ∧ (∀ t ∈ ts, K.lookup t.2 = none) ∧ (∀ t ∈ ts, PySem.W.CodeHd h t.1 t.2) ∧ (ts.map (·.2)).Nodup ∧ ts.length = qs.length ∧ (∀ (s : Shared) (u : Value), BindsTo s fd ⟨[u], []⟩ [(x, u)]) ∧
        (∀ (ns : List Int) (q : D → WS → Prop) (x : Xq), ns.length ≤ n → q (.bl true) (tabS ts qs) → G [.scr ns] (tabS ts qs) q x) ∧
        ∀ base : Heap, K.In base → base.Ns mainGlobals mg → (∀ t ∈ ts, LamX.TabB base mg t.1 t.2) → FnX ⟨true, nn, false⟩ l.prog w K mg base k fa fd [x] (spG K 1 G)) :
    PySem.W.WalkO q loose XP YP l.row.toRowW d [] (fun f vs => PySem.call f vs) := by
  refine Att.attach_call hn hdf fun w s0 s1 mg mb fa o pm cd doc a vs ns Gr Y ho hd hcd hmg hobj hints hlen hg => ?_
  obtain ⟨K, fd, G, ts, qs, KX, tE, tK, tC, tN, tL, hb, hG, hF⟩ := F w mg fa _ Y Gr.T.g hmg
  refine script_runT KX Gr.T.g Gr.T.b Gr.T.builtins Gr.T.nolimit hg tE tK tC Gr.T.bmain hobj hints (Nat.le_trans hlen hn2) hr hF hb fun H hT hS => ?_
  open Classical in
  let F0 : Hp := fun b => if b ∈ ts.map (·.2) then none else H b
  have hF0 : ∀ b, b ∈ ts.map (·.2) → F0 b = none := fun b hb => if_pos hb
  have hF1 : ∀ b, b ∉ ts.map (·.2) → F0 b = H b := fun b hb => if_neg hb
  have ex : Ex F0 H := fun b o e => by
    by_cases hb : b ∈ ts.map (·.2)
    · rw [hF0 b hb] at e; cases e
    · rwa [hF1 b hb] at e
  have hS0 : SqL K F0 a (ns.map V.int) := by
    have ne : ∀ o, H a = some o → (∀ ps, o ≠ .tbl ps) → a ∉ ts.map (·.2) := fun o e n z => by
      obtain ⟨t, h1, h2⟩ := List.mem_map.mp z
      have := hT t h1
      rw [h2, e] at this
      exact n _ (Option.some.inj this)
    rcases hS with hS | hS
    · rcases hS with hS | ⟨ob, hS⟩
      · exact .inl (.inl (by rw [hF1 _ (ne _ hS (fun _ z => by cases z))]; exact hS))
      · exact .inl (.inr ⟨ob, by rw [hF1 _ (ne _ hS (fun _ z => by cases z))]; exact hS⟩)
    · exact .inr hS
  have sit : Sit K (ts.map (·.2)) F0 H (tabS ts qs) := by
    refine ⟨by rw [tabS_len tL, List.length_map], ex, tN, fun i p c h1 h2 => ?_⟩
    have hp := List.mem_of_getElem? h1
    refine ⟨fun _ => hF0 p hp, .tbl #[], ?_, ?_⟩
    · obtain ⟨t, h3, h4⟩ := List.mem_map.mp hp
      rw [← h4]
      exact hT t h3
    · unfold tabS at h2
      simp only [List.getElem?_map, Option.map_eq_some_iff] at h1 h2
      obtain ⟨t, h3, h4⟩ := h1
      obtain ⟨z, h5, h6⟩ := h2
      rw [List.getElem?_zip_eq_some] at h5
      rw [h3] at h5
      have e := Option.some.inj h5.1
      subst h6
      refine ⟨by rw [← e, h4], trivial, fun pos cv e => ?_⟩
      have e : codeAmong pos [] = some cv := e
      simp [codeAmong] at e
  refine ⟨ts.map (·.2), F0, tabS ts qs, [.scr ns], fun d _ => d = .bl true, noX, sit, .cons (.scr hS0) .nil, rfl, hG ns _ _ hlen rfl, fun d S' bs F' H' v e _ r => ?_, XQ.no⟩
  have e : d = .bl true := e
  subst e
  cases r
  rfl
/-! ### the head's word -/
structure TabsAt (tf : List He.Defn) (h : Heap) (K : PySem.W.Frag) : Prop where
  hd : ∀ p ∈ tf, PySem.W.codeHdIn K (He.cT K p).1 (He.cT K p).2 = true
  out : ∀ p ∈ tf, K.lookup (He.cT K p).2 = none
  empty : ∀ p ∈ tf, h.get? (He.cT K p).2 = some noTab
theorem tabsAt_of {g : Addr → Option Obj} {h : Heap} {tf : List He.Defn} {as : List Addr} (hg : g = h.get?) (e : He.tabsB g tf (He.frT g (as)) = true) : TabsAt tf h (He.frT g (as)) := by
  subst hg
  have key : ∀ p ∈ tf, PySem.W.codeHdIn (He.frT h.get? (as)) (He.cT (He.frT h.get? (as)) p).1 (He.cT (He.frT h.get? (as)) p).2 = true ∧ ∃ o, h.get? (He.cT (He.frT h.get? (as)) p).2 = some o ∧ He.emptyTab o = true := fun p hp => by
    obtain ⟨h3, h4⟩ := He.ba (List.all_eq_true.mp e p hp)
    refine ⟨h3, ?_⟩
    split at h4
    · rename_i o q
      exact ⟨o, q, h4⟩
    · cases h4
  refine ⟨fun p hp => (key p hp).1, fun p hp => ?_, fun p hp => ?_⟩
  · obtain ⟨_, o, q, z⟩ := key p hp
    exact He.frT_none q z
  · obtain ⟨_, o, q, z⟩ := key p hp
    rw [q, He.emptyTab_eq z]
    rfl
/-! the addresses within n steps of the globals, each once -/
def newB : List Addr → Nat → Nat × List Addr
  | [], s => (s, [])
  | a :: r, s => match Nat.beq (Nat.land (Nat.shiftRight s a) 1) 0 with
    | true => match newB r (Nat.lor s (Nat.shiftLeft 1 a)) with
      | (s', l) => (s', a :: l)
    | false => newB r s
def refsB (g : Addr → Option Obj) (fr : List Addr) : List Addr := fr.flatMap fun a => match g a with
  | some o => He.refsD o
  | none => []
def levB (g : Addr → Option Obj) : Nat → List Addr → Nat → List Addr
  | 0, _, _ => []
  | n + 1, fr, s => match newB (refsB g fr) s with
    | (s', fr') => fr' ++ levB g n fr' s'
def asB (g : Addr → Option Obj) (n : Nat) : List Addr := mainGlobals :: (levB g n [mainGlobals] (Nat.shiftLeft 1 mainGlobals) ++ [PySem.cStatics])
def hookT (n : Nat) (fa : List He.Fa) (fn : List He5.DefA) (tf : List He.Defn) (ex : PySem.W.Frag → Bool) : PySem.W.Hook where
  α := He.AlD × Bool
  obs := fun s => (He5.obsA fa fn (He.frT s.heap.get? (asB s.heap.get? n)), ex (He.frT s.heap.get? (asB s.heap.get? n)) && He.tabsB s.heap.get? tf (He.frT s.heap.get? (asB s.heap.get? n)))
  val := fun _ => (He5.valA fn, true)
  says := fun _ h => ∃ K : PySem.W.Frag, K.In h ∧ He5.SaysA fa fn K ∧ ex K = true ∧ TabsAt tf h K
  of := fun _ _ e => ⟨_, He.frT_in, congrArg Prod.fst e, (He.ba (congrArg Prod.snd e)).1, tabsAt_of rfl (He.ba (congrArg Prod.snd e)).2⟩
  keeps := fun _ _ _ ⟨K, hK, c, cx, ct⟩ k => ⟨K, PySem.W.Frag.In.keeps hK k, c, cx, ct.hd, ct.out, fun p hp => k _ _ (ct.empty p hp)⟩
def obT (n : Nat) (fa : List He.Fa) (fn : List He5.DefA) (tf : List He.Defn) (ex : PySem.W.Frag → Bool) (g : Addr → Option Obj) : He.AlD × Bool := (He5.obsA fa fn (He.frT g (asB g n)), ex (He.frT g (asB g n)) && He.tabsB g tf (He.frT g (asB g n)))
theorem obT_eq {n : Nat} {fa : List He.Fa} {fn : List He5.DefA} {tf : List He.Defn} {ex : PySem.W.Frag → Bool} {g : Addr → Option Obj} {s : Shared} (h : ∀ a, g a = s.heap.get? a) : obT n fa fn tf ex g = (hookT n fa fn tf ex).obs s := by
  have e : g = s.heap.get? := funext h
  rw [e] <;> rfl
/-- the table of the def at f -/
def TabD (K : PySem.W.Frag) (base : Heap) (mg : Str → Option Value) (f : Addr) (qual : Str) (T : Addr) : Prop := ∀ cdv : Value, CdOf K f qual cdv → ∃ c, cdv = .ref c ∧ LamX.TabB base mg c T
theorem tabD_of {K : PySem.W.Frag} {base : Heap} {mg : Str → Option Value} {p : He.Defn} {qual : Str} (h : LamX.TabB base mg (He.cT K p).1 (He.cT K p).2) : TabD K base mg (He.fAd K p) qual (He.cT K p).2 := fun cdv hc => by
  obtain ⟨oc, od, fd, osl, lk, e, hq⟩ := hc
  obtain ⟨c, rfl⟩ := He.codeIn_ref hq
  have e2 : He.codeOf K p = c := He.codeOf_eq lk e
  refine ⟨c, rfl, ?_⟩
  rw [← e2]
  exact h
end RV
end
section
/-! Errors: what the written part must say; their kinds; modes. -/
namespace RV
open PySem L2
open He (eqO eqO_ok ba ga ma)
section
variable {K : PySem.W.Frag} {C : Addr}
def oexB (K : PySem.W.Frag) (C : Addr) : Bool := (match K.lookup C with
  | some ⟨.type "type", _, .cls cd, sl⟩ => (match cd.mro, sl.toList with
    | .ref C1 :: bm, [_, _, _, _, some (.builtin n), _] => C1 == C && (n == "ValueError.__new__" && (!cd.hasDel && (cd.hasDict && PySem.HandSPX.refsVE bm)))
    | _, _ => false)
  | _ => false) && (eqO (PySem.W.findIn K (.ref C) "__setattr__") (some (some (.builtin "object.__setattr__"))) && (decide (PySem.W.subIn K (.ref C) (.type "BaseException") = some true) && (decide (PySem.W.typeIn K (.ref C) = some (.type "type")) && PySem.W.keepIn K (.ref C))))
theorem oexB_ok (h : oexB K C = true) : OexC K C := by
  obtain ⟨h1, h⟩ := ba h
  obtain ⟨h2, h⟩ := ba h
  obtain ⟨h3, h⟩ := ba h
  obtain ⟨h4, h5⟩ := ba h
  refine ⟨?_, eqO_ok h2, of_decide_eq_true h3, of_decide_eq_true h4, h5⟩
  split at h1
  · rename_i dd cd sl lk
    split at h1
    · rename_i C1 bm k0 k1 k2 k3 n k5 hm hs
      obtain ⟨e1, h1⟩ := ba h1
      obtain ⟨e2, h1⟩ := ba h1
      obtain ⟨e3, h1⟩ := ba h1
      obtain ⟨e4, e5⟩ := ba h1
      have e1 := beq_iff_eq.mp e1
      have e2 := beq_iff_eq.mp e2
      subst e1 e2
      obtain ⟨nm, bs, mro, ns, qn, hd, sn, sb, ab, col, del⟩ := cd
      simp only [Bool.not_eq_true'] at hm e3 e4
      subst hm e3 e4
      obtain ⟨l⟩ := sl
      simp only at hs
      subst hs
      exact ⟨nm, qn, ns, bs, bm, sn, sb, ab, col, dd, k0, k1, k2, k3, k5, lk, e5⟩
    · cases h1
  · cases h1
def excB (K : PySem.W.Frag) (C : Addr) : Bool := eqO (PySem.W.findIn K (.ref C) "__getattribute__") (some (some (.builtin "BaseException.__getattribute__"))) && (eqO (PySem.W.findIn K (.ref C) "__getattr__") (some none) && (decide (PySem.W.subIn K (.ref C) (.type "BaseException") = some true) && (PySem.W.hasDictIn K C && kindB K C)))
theorem excB_ok (h : excB K C = true) : ExcC K C := by
  obtain ⟨h1, h⟩ := ba h
  obtain ⟨h2, h⟩ := ba h
  obtain ⟨h3, h⟩ := ba h
  obtain ⟨h4, h⟩ := ba h
  obtain ⟨h5, h⟩ := ba h
  obtain ⟨h6, h⟩ := ba h
  obtain ⟨h7, h8⟩ := ba h
  exact ⟨eqO_ok h1, eqO_ok h2, of_decide_eq_true h3, h4, eqO_ok h5, eqO_ok h6, of_decide_eq_true h7, of_decide_eq_true h8⟩
theorem excC_xf (c : ExcC K C) : XfC K C := ⟨c.hg, c.hk, c.hs, c.hd⟩
/-- an error's kinds; anc: names of error classes with those of their classes and bases -/
def tbX (A : Ad) (all : List String) (anc : List (String × List String)) (C : Addr) (u : Value) : Option Bool := (anc.find? fun p => A.c p.1 == C).bind fun p => if u ∈ all.map (fun n => Value.ref (A.c n)) then some (p.2.any fun m => u == .ref (A.c m)) else none
def tbXB (K : PySem.W.Frag) (A : Ad) (all : List String) (anc : List (String × List String)) : Bool := anc.all fun p => all.all fun n => decide (PySem.W.kitOne K (.ref (A.c p.1)) (.ref (A.c n)) = some (p.2.any fun m => Value.ref (A.c n) == .ref (A.c m)))
theorem tbX_ok {A : Ad} {all : List String} {anc : List (String × List String)} (h : tbXB K A all anc = true) (u : Value) (b : Bool) (e : tbX A all anc C u = some b) : PySem.W.kitOne K (.ref C) u = some b := by
  unfold tbX at e
  simp only [Option.bind_eq_some_iff] at e
  obtain ⟨p, h1, h2⟩ := e
  split at h2
  · rename_i hu
    cases h2
    have hm := List.mem_of_find?_eq_some h1
    have hc : A.c p.1 = C := by
      have z := List.find?_some h1
      exact beq_iff_eq.mp z
    obtain ⟨n, hn, rfl⟩ := List.mem_map.mp hu
    rw [← hc]
    exact of_decide_eq_true (List.all_eq_true.mp (List.all_eq_true.mp h p hm) n hn)
  · cases h2
def errL (A : Ad) (ns : List String) : List Addr := ns.map A.c
theorem errL_all {A : Ad} {ns : List String} {f : Addr → Bool} (h : (ns.all fun n => f (A.c n)) = true) : ∀ C ∈ errL A ns, f C = true := fun C hC => by
  obtain ⟨n, hn, rfl⟩ := List.mem_map.mp hC
  exact List.all_eq_true.mp h n hn
def xcB (K : PySem.W.Frag) (C : Addr) (g : Str) : Bool := oexB K C && (eqO (PySem.W.findIn K (.ref C) "__init__") (some (some (.ref (ma K C "__init__")))) && (decide (PySem.W.typeIn K (.ref (ma K C "__init__")) = some (.type "function")) && eqO (PySem.W.findIn K (.ref C) g) (some none)))
theorem xc_of {P : Program} {w : World} {mg : Str → Option Value} {base : Heap} {x g y qual : Str} {params : Arguments} {body : List Stmt} {scope : Scope} {dvs : List V} {kws : List (Str × V)} {fd : FuncData} {ps : List Str} (F : FunD K y qual params body scope dvs kws (ma K C "__init__") fd) (S : FnScope ps ps scope) (h2 : ps.length = 2) (h : xcB K C g = true)
    (hb : ∀ (nn h : Bool) (cdv : Value) (A : Around) (outer : List PySem.Env) (s : Shared) (H : Hp) (E : XK) (pp : Addr × Obj), PSs (cxG nn h P w K mg base ps qual scope (ma K C "__init__") cdv A outer s H E pp) body (tOst K g (tVar 0) (tVar 1))) (b : Binds K fd ps []) (hm : mg x = some (.ref C)) : Xc P w K mg base x C g := by
  obtain ⟨h1, h⟩ := ba h
  obtain ⟨h3, h⟩ := ba h
  obtain ⟨h4, h5⟩ := ba h
  exact ⟨_, fd, ps, oexB_ok h1, eqO_ok h3, of_decide_eq_true h4, eqO_ok h5, fun nn h => fn_X F S h2 (hb nn h), b, hm⟩
end
section
variable {X : Cx} {W : WX} {body : List Stmt} {m : RV.Env → MS} {K : PySem.W.Frag} {j : Nat}
/-- a reading under a wish -/
def sWish (p : Prop) (m : RV.Env → MS) : RV.Env → MS := fun ρ S k => p ∧ m ρ S k
theorem gss_wish {p : Prop} (h : p → GSs X W body m) : GSs X W body (sWish p m) := by
  by_cases hp : p
  · obtain ⟨t, a, b⟩ := h hp
    exact ⟨t, a, fun as F H S ρ σ I R k e E q => b as F H S ρ σ I R k e.2 E q⟩
  · exact ⟨fun _ _ _ => False, ⟨fun _ _ _ _ _ _ h => h.elim⟩, fun _ _ _ _ _ _ _ _ _ e => absurd e.1 hp⟩
def eFnE (n : Nat) (G : List D → M) (er : RV.Env → ML) : RV.Env → M := fun ρ S q x => er ρ S (fun ds S1 => ds.length = n ∧ G ds S1 q noX) x
def eChain (f g : WS → D → D → Option D) (ea eb ec : RV.Env → M) : RV.Env → M := fun ρ S q x => bChain f g ea eb ec ρ S (fun b S' => q (.bl b) S') x
theorem ge_chain {a b c : Expr} {pos : Pos} {ea eb ec : RV.Env → M} {op op' : CmpOp} {r r' : R2} {f g : WS → D → D → Option D} (ho : OpR X (compareOp op) r) (ho' : OpR X (compareOp op') r') (hr : RO X.K r f) (hr' : RO X.K r' g) (ha : GE X W a ea) (hb : GE X W b eb) (hc : GE X W c ec) (hm : lastMarks [op, op'] [b, c] = false := by with_unfolding_all rfl) :
    GE X W (.Compare a [op, op'] [b, c] pos) (eChain f g ea eb ec) := by
  obtain ⟨ta, pa, ma⟩ := ha
  obtain ⟨tb, pb, mb⟩ := hb
  obtain ⟨tc, pc, mc⟩ := hc
  refine ⟨_, pe_chain ho ho' pa pb pc hm, fun as F H S ρ σ I R q x h Q hq hx => ?_⟩
  refine ma as F H S ρ σ I R _ x h _ (fun u S1 bs F1 H1 v1 h1 g1 r1 => ?_) hx
  refine mb bs F1 H1 S1 ρ σ g1.sit (R.grow g1) _ x h1 _ (fun w S2 cs F2 H2 v2 h2 g2 r2 => ?_) (hx.step g1)
  obtain ⟨d, hf, h3⟩ := onS_ok h2
  have g12 := g1.trans g2
  refine hr cs F2 H2 S2 u w d v1 v2 g2.sit (RpE_aux g2 r1) r2 hf _ fun F3 H3 v3 g3 r3 => ?_
  have g13 := g12.trans g3
  cases r3 with
  | bl c =>
    refine ⟨c, rfl, ?_⟩
    cases c with
    | true =>
      refine mc cs F3 H3 S2 ρ σ g3.sit (R.grow g13) _ x h3 _ (fun y S4 ls F4 H4 v4 h4 g4 r4 => ?_) (hx.step g13)
      obtain ⟨d', hg, h5⟩ := onS_ok h4
      refine hr' ls F4 H4 S4 w y d' v2 v4 g4.sit (RpE_aux g4 (RpE_aux g3 r2)) r4 hg _ fun F5 H5 v5 g5 r5 => ?_
      cases r5 with
      | bl c' => exact hq _ S4 ls F5 H5 _ h5 ((g13.trans g4).trans g5) (.bl c')
      | _ => exact h5.elim
    | false => exact hq _ S2 cs F3 H3 _ h3 g13 (.bl false)
  | _ => exact h3.elim
theorem op_eqAH {h : Bool} (hr : Rx h j X) : OpR X (compareOp .Eq) (rEqA X.K) := OpR.or op_eq (OpR.or (op_eqD (by have := hr.units; omega)) (op_eqLen (by have := hr.units; omega)))
theorem op_neAH {h : Bool} (hr : Rx h j X) : OpR X (compareOp .NotEq) (rNeA X.K) := OpR.or op_ne (OpR.or (op_neD (by have := hr.units; omega)) (op_neLen (by have := hr.units; omega)))
end
end RV
end
section
/-! Words for running the readings: one statement at a time; states with a well. -/
namespace RV
open PySem L2
theorem onS_some {α : Type} {a : α} {k : α → Prop} : onS (some a) k = k a := rfl
theorem onB_bl {b : Bool} {k : Bool → Prop} : onB (.bl b) k = k b := rfl
theorem iteB_t {p q : Prop} : iteB true p q = p := rfl
theorem iteB_f {p q : Prop} : iteB false p q = q := rfl
theorem iteB_by {b : Bool} {p q : Prop} (h1 : b = true → p) (h2 : b = false → q) : iteB b p q := by
  cases b
  · exact h2 rfl
  · exact h1 rfl
theorem iteB_dec {c : Prop} [Decidable c] {p q : Prop} (h1 : c → p) (h2 : ¬ c → q) : iteB (decide c) p q := iteB_by (fun h => h1 (of_decide_eq_true h)) (fun h => h2 (of_decide_eq_false h))
theorem look0 {d : Option D} {r : Env} : look (d :: r) 0 = d := rfl
theorem look1 {a0 a1 : Option D} {r : Env} : look (a0 :: a1 :: r) 1 = a1 := rfl
theorem look2 {a0 a1 a2 : Option D} {r : Env} : look (a0 :: a1 :: a2 :: r) 2 = a2 := rfl
theorem look3 {a0 a1 a2 a3 : Option D} {r : Env} : look (a0 :: a1 :: a2 :: a3 :: r) 3 = a3 := rfl
theorem look4 {a0 a1 a2 a3 a4 : Option D} {r : Env} : look (a0 :: a1 :: a2 :: a3 :: a4 :: r) 4 = a4 := rfl
theorem look5 {a0 a1 a2 a3 a4 a5 : Option D} {r : Env} : look (a0 :: a1 :: a2 :: a3 :: a4 :: a5 :: r) 5 = a5 := rfl
theorem look6 {a0 a1 a2 a3 a4 a5 a6 : Option D} {r : Env} : look (a0 :: a1 :: a2 :: a3 :: a4 :: a5 :: a6 :: r) 6 = a6 := rfl
theorem look7 {a0 a1 a2 a3 a4 a5 a6 a7 : Option D} {r : Env} : look (a0 :: a1 :: a2 :: a3 :: a4 :: a5 :: a6 :: a7 :: r) 7 = a7 := rfl
theorem look8 {a0 a1 a2 a3 a4 a5 a6 a7 a8 : Option D} {r : Env} : look (a0 :: a1 :: a2 :: a3 :: a4 :: a5 :: a6 :: a7 :: a8 :: r) 8 = a8 := rfl
theorem look9 {a0 a1 a2 a3 a4 a5 a6 a7 a8 a9 : Option D} {r : Env} : look (a0 :: a1 :: a2 :: a3 :: a4 :: a5 :: a6 :: a7 :: a8 :: a9 :: r) 9 = a9 := rfl
theorem look10 {a0 a1 a2 a3 a4 a5 a6 a7 a8 a9 a10 : Option D} {r : Env} : look (a0 :: a1 :: a2 :: a3 :: a4 :: a5 :: a6 :: a7 :: a8 :: a9 :: a10 :: r) 10 = a10 := rfl
theorem look11 {a0 a1 a2 a3 a4 a5 a6 a7 a8 a9 a10 a11 : Option D} {r : Env} : look (a0 :: a1 :: a2 :: a3 :: a4 :: a5 :: a6 :: a7 :: a8 :: a9 :: a10 :: a11 :: r) 11 = a11 := rfl
theorem look12 {a0 a1 a2 a3 a4 a5 a6 a7 a8 a9 a10 a11 a12 : Option D} {r : Env} : look (a0 :: a1 :: a2 :: a3 :: a4 :: a5 :: a6 :: a7 :: a8 :: a9 :: a10 :: a11 :: a12 :: r) 12 = a12 := rfl
theorem look13 {a0 a1 a2 a3 a4 a5 a6 a7 a8 a9 a10 a11 a12 a13 : Option D} {r : Env} : look (a0 :: a1 :: a2 :: a3 :: a4 :: a5 :: a6 :: a7 :: a8 :: a9 :: a10 :: a11 :: a12 :: a13 :: r) 13 = a13 := rfl
theorem look14 {a0 a1 a2 a3 a4 a5 a6 a7 a8 a9 a10 a11 a12 a13 a14 : Option D} {r : Env} : look (a0 :: a1 :: a2 :: a3 :: a4 :: a5 :: a6 :: a7 :: a8 :: a9 :: a10 :: a11 :: a12 :: a13 :: a14 :: r) 14 = a14 := rfl
theorem look15 {a0 a1 a2 a3 a4 a5 a6 a7 a8 a9 a10 a11 a12 a13 a14 a15 : Option D} {r : Env} : look (a0 :: a1 :: a2 :: a3 :: a4 :: a5 :: a6 :: a7 :: a8 :: a9 :: a10 :: a11 :: a12 :: a13 :: a14 :: a15 :: r) 15 = a15 := rfl
theorem seq_gen {m1 m2 : Env → MS} {ρ : Env} {S : WS} {k : Kt} (h : ∀ N : Env → WS → Prop, (N = fun ρ' S' => m2 ρ' S' k) → m1 ρ S ⟨N, k.rt, k.bk, k.ct, k.ex⟩) : sSeq m1 m2 ρ S k := h _ rfl
theorem onI_i {i : Int} {k : Int → Prop} : onI (.int i) k = k i := rfl
theorem onT_s {i : Str} {k : Str → Prop} : onT (.str i) k = k i := rfl
theorem onTu_t {i : List D} {k : List D → Prop} : onTu (.tup i) k = k i := rfl
theorem onCe_c {i : Nat} {k : Nat → Prop} : onCe (.cell i) k = k i := rfl
theorem on1_ {a : D} {k : D → Prop} : on1 [a] k = k a := rfl
theorem on2_ {a b : D} {k : D → D → Prop} : on2 [a, b] k = k a b := rfl
theorem on3_ {a b c : D} {k : D → D → D → Prop} : on3 [a, b, c] k = k a b c := rfl
theorem onLst_l {ds : List D} {k : List D → Prop} : onLst (.lst ds) k = k ds := rfl
theorem onOb_o {C : Addr} {fs : List (Str × D)} {k : Addr → List (Str × D) → Prop} : onOb (.ob C fs) k = k C fs := rfl
theorem onSeq_l {ds : List D} {S : WS} {q : List D → (WS → Prop) → WS → Prop} : onSeq (.lst ds) S q = q ds any_ S := rfl
theorem onSeq_r {ns : List Int} {S : WS} {q : List D → (WS → Prop) → WS → Prop} : onSeq (.scr ns) S q = q (ns.map D.int) any_ S := rfl
theorem onSeq_c {i : Nat} {S : WS} {q : List D → (WS → Prop) → WS → Prop} : onSeq (.cell i) S q = onS S[i]? fun c => onLst c fun ds => q ds (Holds i ds) S := rfl
theorem lkD_s {ds : List D} {S : WS} {q : D → WS → Prop} : lkD .still ds S q = q (.lst ds) S := rfl
theorem lkD_n {ds : List D} {S : WS} {q : D → WS → Prop} : lkD .new ds S q = (D.cleanL 0 ds = true ∧ q (.cell S.length) (S ++ [.lst ds])) := rfl
theorem lkO_s {C : Addr} {fs : List (Str × D)} {n : Nat} {S : WS} {q : D → WS → Prop} : lkO .still C fs n S q = q (.obj C fs) (S.take n) := rfl
theorem lkO_n {C : Addr} {fs : List (Str × D)} {n : Nat} {S : WS} {q : D → WS → Prop} : lkO .new C fs n S q = q (.cell n) (S.take n ++ [.ob C fs]) := rfl
theorem tTup_t {n : Nat} {g : List D → Env → Option Env} {ds : List D} {ρ : Env} : tTupD n g (.tup ds) ρ = if ds.length = n then g ds ρ else none := rfl
theorem tsCons_c {f : D → Env → Option Env} {g : List D → Env → Option Env} {d : D} {r : List D} {ρ : Env} : tsCons f g (d :: r) ρ = (f d ρ).bind fun ρ' => g r ρ' := rfl
theorem tsNil_n {ρ : Env} : tsNil [] ρ = some ρ := rfl
theorem any_t {S : WS} : any_ S = True := rfl
theorem eC_ {d : D} {ρ : Env} {S : WS} {q : D → WS → Prop} {x : Xq} : eC d ρ S q x = q d S := rfl
theorem isOb_obj {C C' : Addr} {S : WS} {fs : List (Str × D)} : isOb C S (.obj C' fs) = (C' = C) := rfl
theorem isN_non {neg : Bool} {S : WS} : isND neg S .non .non = some (.bl (!neg)) := rfl
theorem truD_bl {S : WS} {b : Bool} : truD S (.bl b) = some b := rfl
theorem small_0 : small 0 = true := rfl
theorem small_1 : small 1 = true := rfl
theorem small_2 : small 2 = true := rfl
theorem small_3 : small 3 = true := rfl
theorem small_4 : small 4 = true := rfl
theorem small_5 : small 5 = true := rfl
theorem small_6 : small 6 = true := rfl
theorem small_7 : small 7 = true := rfl
theorem small_8 : small 8 = true := rfl
theorem small_of {n : Nat} (h : n ≤ 100000) : small n = true := decide_eq_true h
theorem mulD_int {S : WS} {i j : Int} (h : mulOk i j = true) : mulD S (.int i) (.int j) = some (.int (i * j)) := if_pos h
theorem powD_int {S : WS} {i j : Int} (h : powOk i j = true) : powD S (.int i) (.int j) = some (.int (i ^ j.toNat)) := if_pos h
theorem modD_int {S : WS} {i j : Int} (h : 0 < j) : modD S (.int i) (.int j) = some (.int (i % j)) := if_pos (decide_eq_true h)
theorem fdivD_int {S : WS} {i j : Int} (h : divOk i j = true) : fdivD S (.int i) (.int j) = some (.int (i / j)) := if_pos h
theorem ltD_int {S : WS} {i j : Int} : ltD S (.int i) (.int j) = some (.bl (decide (i < j))) := rfl
theorem leD_int {S : WS} {i j : Int} : leD S (.int i) (.int j) = some (.bl (decide (i ≤ j))) := rfl
theorem gtD_int {S : WS} {i j : Int} : gtD S (.int i) (.int j) = some (.bl (decide (j < i))) := rfl
theorem geD_int {S : WS} {i j : Int} : geD S (.int i) (.int j) = some (.bl (decide (j ≤ i))) := rfl
theorem subD_int {S : WS} {i j : Int} : subD S (.int i) (.int j) = some (.int (i - j)) := rfl
theorem addD_int {S : WS} {i j : Int} : addD S (.int i) (.int j) = some (.int (i + j)) := rfl
theorem addD_str {S : WS} {a b : Str} (h : small (a.length + b.length) = true) : addD S (.str a) (.str b) = some (.str (a ++ b)) := if_pos h
theorem addD_lst {S : WS} {a b : List D} (h : small (a.length + b.length) = true) : addD S (.lst a) (.lst b) = some (.lst (a ++ b)) := if_pos h
theorem intOf_int {S : WS} {i : Int} : intOfD S [.int i] = some (.int i) := rfl
theorem absD_int {S : WS} {i : Int} : absD S [.int i] = some (.int (if i < 0 then -i else i)) := rfl
theorem eqD_int {S : WS} {i j : Int} : eqD S (.int i) (.int j) = some (.bl (decide (i = j))) := rfl
theorem neD_int {S : WS} {i j : Int} : neD S (.int i) (.int j) = some (.bl (!decide (i = j))) := rfl
theorem eqD_str {S : WS} {i j : Str} : eqD S (.str i) (.str j) = some (.bl (decide (i = j))) := rfl
theorem neD_str {S : WS} {i j : Str} : neD S (.str i) (.str j) = some (.bl (!decide (i = j))) := rfl
theorem eqD_bl {S : WS} {i j : Bool} : eqD S (.bl i) (.bl j) = some (.bl (decide (i = j))) := rfl
theorem neD_bl {S : WS} {i j : Bool} : neD S (.bl i) (.bl j) = some (.bl (!decide (i = j))) := rfl
theorem mulOk_l {i j : Int} (h : 0 ≤ i) (h1 : i < 18446744073709551616) : mulOk i j = true := decide_eq_true (.inl ⟨by omega, by simpa using h1⟩)
theorem mulOk_r {i j : Int} (h : 0 ≤ j) (h1 : j < 18446744073709551616) : mulOk i j = true := decide_eq_true (.inr ⟨by omega, by simpa using h1⟩)
theorem fin_self {S : WS} {d : D} {q : D → WS → Prop} : fin S.length d S q = q d S := if_pos rfl
theorem finX_self {S : WS} {d : D} {x : Xq} : finX S.length d S x = x d S := if_pos rfl
theorem atI_nat {α : Type} {xs : List α} {i : Int} (h0 : 0 ≤ i) (h1 : i < xs.length) : atI xs i = xs[i.toNat]? := by
  unfold atI ixN
  rw [if_pos h0, if_pos h1, Option.bind_some]
/-! ### a well -/
structure W where
  a : Int
  b : Int
  c : Int
def W.d (w : W) : Cell := .lst [.int w.a, .int w.b, .int w.c]
structure Good (n : Int) (w : W) : Prop where
  a0 : 0 ≤ w.a
  a1 : w.a < 2147483629
  b0 : 0 ≤ w.b
  c0 : 0 ≤ w.c
  c1 : w.c ≤ n
theorem Good.mono {n m : Int} {w : W} (h : Good n w) (e : n ≤ m) : Good m w := ⟨h.a0, h.a1, h.b0, h.c0, by have := h.c1; omega⟩
/-- the cells S with the well w at k, then T -/
def st (S : WS) (k : Nat) (w : W) (T : WS) : WS := S.set k w.d ++ T
section
variable {S T : WS} {k : Nat} {w w' : W} {c c' : Cell} {r : WS} {d : D} {q : D → WS → Prop}
theorem st_len : (st S k w T).length = S.length + T.length := by simp [st]
theorem st_app : st S k w T ++ r = st S k w (T ++ r) := by simp [st]
theorem st_at (hk : k < S.length) : (st S k w T)[k]? = some w.d := by
  unfold st
  rw [List.getElem?_append_left (by simpa using hk)]
  simp [hk]
theorem st_put (hk : k < S.length) {x y z : Int} : (st S k w T).set k (.lst [.int x, .int y, .int z]) = st S k ⟨x, y, z⟩ T := by
  unfold st W.d
  rw [List.set_append_left _ _ (by simpa using hk)]
  simp
theorem st_at0 : (st S k w (T ++ c :: r))[S.length + T.length]? = some c := by
  unfold st
  rw [← List.append_assoc, List.getElem?_append_right (by simp)]
  simp
theorem st_set0 : (st S k w (T ++ c :: r)).set (S.length + T.length) c' = st S k w (T ++ c' :: r) := by
  unfold st
  rw [← List.append_assoc, List.set_append_right _ _ (by simp)]
  simp
theorem st_at1 {b : Cell} : (st S k w (T ++ b :: c :: r))[S.length + T.length + 1]? = some c := by
  unfold st
  rw [← List.append_assoc, List.getElem?_append_right (by simp)]
  have : S.length + T.length + 1 - (List.set S k w.d ++ T).length = 1 := by simp
  rw [this]
  rfl
theorem st_set1 {b : Cell} : (st S k w (T ++ b :: c :: r)).set (S.length + T.length + 1) c' = st S k w (T ++ b :: c' :: r) := by
  unfold st
  rw [← List.append_assoc, List.set_append_right _ _ (by simp)]
  have : S.length + T.length + 1 - (List.set S k w.d ++ T).length = 1 := by simp
  rw [this]
  simp
theorem fin_st : fin (S.length + T.length) d (st S k w T) q = q d (st S k w T) := if_pos st_len
/-- a def's own cells are gone at its end -/
theorem fin_stT (h : D.clean (S.length + T.length) d = true) (hn : ∀ i, d ≠ .cell i) : fin (S.length + T.length) d (st S k w (T ++ c :: r)) q = q d (st S k w T) := by
  have hl : ¬ (st S k w (T ++ c :: r)).length = S.length + T.length := by
    rw [st_len]
    simp
  have ht : (st S k w (T ++ c :: r)).take (S.length + T.length) = st S k w T := by
    unfold st
    rw [← List.append_assoc, List.take_append_of_le_length (by simp), List.take_of_length_le (by simp)]
  unfold fin
  rw [if_neg hl]
  split
  · exact absurd rfl (hn _)
  · rw [ht, h]
    simp
/-- a list of its own is handed back -/
theorem fin_stL {ds : List D} : fin (S.length + T.length) (.cell (S.length + T.length)) (st S k w (T ++ .lst ds :: r)) q = q (.lst ds) (st S k w T) := by
  have hl : ¬ (st S k w (T ++ .lst ds :: r)).length = S.length + T.length := by
    rw [st_len]
    simp
  have ht : (st S k w (T ++ .lst ds :: r)).take (S.length + T.length) = st S k w T := by
    unfold st
    rw [← List.append_assoc, List.take_append_of_le_length (by simp), List.take_of_length_le (by simp)]
  unfold fin
  rw [if_neg hl]
  simp only [Nat.lt_irrefl, if_false, st_at0, onS_some, onLst_l, ht]
end
/-! the same for a state without a well -/
section
variable {S : WS} {c c' : Cell} {r : WS} {d : D} {q : D → WS → Prop}
theorem app_at0 : (S ++ c :: r)[S.length]? = some c := by simp
theorem app_set0 : (S ++ c :: r).set S.length c' = S ++ c' :: r := by simp
theorem app_at1 {b : Cell} : (S ++ b :: c :: r)[S.length + 1]? = some c := by simp
theorem app_set1 {b : Cell} : (S ++ b :: c :: r).set (S.length + 1) c' = S ++ b :: c' :: r := by
  rw [List.set_append_right _ _ (by omega)]
  simp
theorem fin_app (h : D.clean S.length d = true) (hn : ∀ i, d ≠ .cell i) : fin S.length d (S ++ c :: r) q = q d S := by
  have hl : ¬ (S ++ c :: r).length = S.length := by simp
  unfold fin
  rw [if_neg hl]
  split
  · exact absurd rfl (hn _)
  · rw [h]
    simp
theorem fin_appL {ds : List D} : fin S.length (.cell S.length) (S ++ .lst ds :: r) q = q (.lst ds) S := by
  have hl : ¬ (S ++ Cell.lst ds :: r).length = S.length := by simp
  unfold fin
  rw [if_neg hl]
  simp [onS, onLst]
end
theorem fin_appS {S : WS} {c c' : Cell} {d : D} {q : D → WS → Prop} : fin (S ++ [c']).length d (S ++ [c]) q = q d (S ++ [c]) := if_pos (by simp)
theorem atI_cons {α : Type} {a : α} {l : List α} : atI (a :: l) 0 = some a := by
  unfold atI ixN
  simp
theorem take_app {S r : WS} : (S ++ r).take S.length = S := by simp
/-! ### loops and comprehensions -/
section
variable {N : WS → Prop} {f : D → Env → Option Env} {mb : Env → MS} {mc : Env → MB} {me : Env → M} {ρ : Env} {S : WS} {k : Kt}
theorem for_nil : forD N f mb [] ρ S k = (N S ∧ k.nx ρ S) := rfl
theorem for_cons {d : D} {ds : List D} : forD N f mb (d :: ds) ρ S k = (N S ∧ onS (f d ρ) fun ρ1 => mb ρ1 S ⟨fun ρ2 S2 => forD N f mb ds ρ2 S2 k, k.rt, k.nx, fun ρ2 S2 => forD N f mb ds ρ2 S2 k, k.ex⟩) := rfl
theorem for_name {N : WS → Prop} {i : Nat} {mb : RV.Env → MS} {ρ : RV.Env} {S : WS} {d : D} {ds : List D} {kt : Kt} (hN : N S) (h : mb (ρ.set i (some d)) S ⟨fun ρ2 S2 => forD N (tName i) mb ds ρ2 S2 kt, kt.rt, kt.nx, fun ρ2 S2 => forD N (tName i) mb ds ρ2 S2 kt, kt.ex⟩) : forD N (tName i) mb (d :: ds) ρ S kt := ⟨hN, h⟩
/-- a comprehension whose parts leave the state alone -/
theorem lc_eq {α : Type} {inj : α → D} {p : α → Bool} {g : α → D} {q : List D → WS → Prop} : ∀ (xs : List α) (acc : List D), N S → (∀ a ∈ xs, ∃ ρ1, f (inj a) ρ = some ρ1 ∧ (∀ q x, mc ρ1 S q x = q (p a) S) ∧ (p a = true → ∀ q x, me ρ1 S q x = q (g a) S)) →
    lcD N f mc me ρ (xs.map inj) acc S q = q (acc ++ (xs.filter p).map g) S
  | [], acc, hN, _ => by simp [lcD, hN]
  | a :: xs, acc, hN, hs => by
    obtain ⟨ρ1, h1, h2, h3⟩ := hs a (List.mem_cons_self ..)
    have ih := fun acc => lc_eq (q := q) xs acc hN (fun b hb => hs b (List.mem_cons_of_mem _ hb))
    rw [List.map_cons]
    unfold lcD
    rw [h1, onS_some, h2]
    cases hp : p a with
    | true =>
      rw [iteB_t, h3 hp, ih]
      simp [hN, hp]
    | false =>
      rw [iteB_f, ih]
      simp [hN, hp]
theorem lc_pure {α : Type} {inj : α → D} {p : α → Bool} {g : α → D} {q : List D → WS → Prop} (xs : List α) (acc : List D) (hN : N S) (hs : ∀ a ∈ xs, ∃ ρ1, f (inj a) ρ = some ρ1 ∧ (∀ q x, mc ρ1 S q x = q (p a) S) ∧ (p a = true → ∀ q x, me ρ1 S q x = q (g a) S))
    (h : q (acc ++ (xs.filter p).map g) S) : lcD N f mc me ρ (xs.map inj) acc S q := by
  rw [lc_eq xs acc hN hs]
  exact h
theorem lc_mapEq {α : Type} {inj : α → D} {g : α → D} {q : List D → WS → Prop} (xs : List α) (hN : N S) (h : ∀ a ∈ xs, ∃ ρ1, f (inj a) ρ = some ρ1 ∧ ∀ q x, me ρ1 S q x = q (g a) S) : lcD N f bYes me ρ (xs.map inj) [] S q = q (xs.map g) S := by
  rw [lc_eq (p := fun _ => true) (g := g) xs [] hN (fun a ha => by
    obtain ⟨ρ1, h1, h2⟩ := h a ha
    exact ⟨ρ1, h1, fun _ _ => rfl, fun _ => h2⟩), List.nil_append, List.filter_eq_self.mpr fun _ _ => rfl]
/-- .. without a test -/
theorem lc_map {α : Type} {inj : α → D} {g : α → D} {q : List D → WS → Prop} (xs : List α) (hN : N S) (h : ∀ a ∈ xs, ∃ ρ1, f (inj a) ρ = some ρ1 ∧ ∀ q x, me ρ1 S q x = q (g a) S) (hq : q (xs.map g) S) : lcD N f bYes me ρ (xs.map inj) [] S q :=
  lc_pure (p := fun _ => true) xs [] hN (fun a ha => by
    obtain ⟨ρ1, h1, h2⟩ := h a ha
    exact ⟨ρ1, h1, fun _ _ => rfl, fun _ => h2⟩) (by rw [List.nil_append, List.filter_eq_self.mpr fun _ _ => rfl]; exact hq)
end
theorem allD_true {S : WS} {n : Nat} : allD S [.lst (List.replicate n (.bl true))] = some (.bl true) := by
  have : boolsD (List.replicate n (.bl true)) = some (List.replicate n true) := by
    induction n with
    | zero => rfl
    | succ n ih => simp [List.replicate_succ, boolsD, ih]
  simp [allD, this]
theorem bools_map {α : Type} {p : α → Bool} : ∀ xs : List α, boolsD (xs.map fun a => D.bl (p a)) = some (xs.map p)
  | [] => rfl
  | a :: xs => by simp [boolsD, bools_map xs]
theorem allD_map {α : Type} {S : WS} {p : α → Bool} {xs : List α} : allD S [.lst (xs.map fun a => D.bl (p a))] = some (.bl (xs.all p)) := by
  simp [allD, bools_map, Function.comp_def]
theorem anyD_map {α : Type} {S : WS} {p : α → Bool} {xs : List α} : anyD S [.lst (xs.map fun a => D.bl (p a))] = some (.bl (xs.any p)) := by
  simp [anyD, bools_map, Function.comp_def]
end RV
end
section
/-! Names, in plain Lean. -/
namespace RV
open PySem L2
def letters : Str := "abcdefghijklmnopqrstuvwxyz"
def digits : Str := "0123456789"
def signs : Str := "abcdefghijklmnopqrstuvwxyz0123456789"
def isLt (c : Nat) : Bool := decide (c ∈ letters.cps.toList)
def isDg (c : Nat) : Bool := decide (c ∈ digits.cps.toList)
def nmL : List Nat → Bool
  | [] => false
  | c :: r => isLt c && (decide (r.length ≤ 7) && r.all fun x => isLt x || isDg x)
def Nm (s : Str) : Prop := nmL s.cps.toList = true
theorem signs_at {i : Nat} (h : i < 36) : ∃ c, signs.cps.toList[i]? = some c ∧ (isLt c || isDg c) = true ∧ (i < 26 → isLt c = true) := by
  have : ∀ i : Fin 36, (match signs.cps.toList[i.val]? with
    | some c => (isLt c || isDg c) && (decide (26 ≤ i.val) || isLt c)
    | none => false) = true := by decide +kernel
  have t := this ⟨i, h⟩
  simp only at t
  split at t
  · rename_i c e
    simp only [Bool.and_eq_true, Bool.or_eq_true, decide_eq_true_eq] at t
    exact ⟨c, e, by simpa using t.1, fun hi => by rcases t.2 with z | z; omega; exact z⟩
  · cases t
theorem signs_atI {r : Int} (h0 : 0 ≤ r) (h : r < 36) : ∃ c, atI signs.cps.toList r = some c ∧ (isLt c || isDg c) = true ∧ (r < 26 → isLt c = true) := by
  obtain ⟨c, e, h1, h2⟩ := signs_at (i := r.toNat) (by omega)
  refine ⟨c, ?_, h1, fun z => h2 (by omega)⟩
  unfold atI ixN
  rw [if_pos h0, if_pos (show r < ((signs.cps.toList.length : Nat) : Int) from h), Option.bind_some]
  exact e
theorem cat_cps (a b : Str) : (a ++ b).cps.toList = a.cps.toList ++ b.cps.toList := by
  show (a.cps ++ b.cps).toList = _
  simp
theorem len_cps (a : Str) : a.length = a.cps.toList.length := by
  show a.cps.size = _
  simp
theorem nm_len {s : Str} (h : Nm s) : 1 ≤ s.length ∧ s.length ≤ 8 := by
  rw [len_cps]
  unfold Nm nmL at h
  split at h
  · cases h
  · rename_i c r e
    simp only [Bool.and_eq_true, decide_eq_true_eq] at h
    rw [e]
    simp
    omega
theorem nm_snoc {s : Str} {c : Nat} (h : Nm s) (hl : s.length ≤ 7) (hc : (isLt c || isDg c) = true) : Nm (s ++ ⟨#[c]⟩) := by
  rw [len_cps] at hl
  unfold Nm at h ⊢
  rw [cat_cps]
  unfold nmL at h
  split at h
  · cases h
  · rename_i a r e
    rw [e] at hl ⊢
    simp only [Bool.and_eq_true, decide_eq_true_eq] at h
    simp only [List.length_cons] at hl
    show (isLt a && (decide ((r ++ [c]).length ≤ 7) && (r ++ [c]).all fun x => isLt x || isDg x)) = true
    simp only [Bool.and_eq_true, decide_eq_true_eq, List.length_append, List.length_singleton, List.all_append]
    refine ⟨h.1, by omega, h.2.2, by simpa using hc⟩
theorem nm_take {l : List Nat} (m : Nat) (h : nmL l = true) (hm : 0 < m) : nmL (l.take m) = true := by
  cases l with
  | nil => cases h
  | cons a r =>
    obtain ⟨m, rfl⟩ : ∃ j, m = j + 1 := ⟨m - 1, by omega⟩
    rw [List.take_succ_cons]
    simp only [nmL, Bool.and_eq_true, decide_eq_true_eq, List.all_eq_true] at h ⊢
    refine ⟨h.1, ?_, fun x hx => h.2.2 x (List.mem_of_mem_take hx)⟩
    rw [List.length_take]
    omega
def words : List D := [.str "pipe", .str "meter", .str "sealed", .str "self", .str "net", .str "tell", .str "if", .str "a"]
theorem words_at {r : Int} (h0 : 0 ≤ r) (h : r < 8) : ∃ s, atI words r = some (.str s) ∧ Nm s := by
  have : r = 0 ∨ r = 1 ∨ r = 2 ∨ r = 3 ∨ r = 4 ∨ r = 5 ∨ r = 6 ∨ r = 7 := by omega
  rcases this with e | e | e | e | e | e | e | e <;> subst e <;> exact ⟨_, rfl, by unfold Nm; decide +kernel⟩
theorem nm_one {c : Nat} (h : isLt c = true) : Nm ⟨#[c]⟩ := by
  unfold Nm
  show (isLt c && (decide (([] : List Nat).length ≤ 7) && ([] : List Nat).all fun x => isLt x || isDg x)) = true
  rw [h]
  rfl
theorem isAl_lt {c : Nat} (h : (isLt c || isDg c) = true) : c < 128 := by
  simp only [Bool.or_eq_true, isLt, isDg, decide_eq_true_eq] at h
  have h1 : ∀ c ∈ letters.cps.toList, c < 128 := by decide +kernel
  have h2 : ∀ c ∈ digits.cps.toList, c < 128 := by decide +kernel
  rcases h with h | h
  · exact h1 c h
  · exact h2 c h
theorem nm_all {s : Str} (h : Nm s) : ∀ c ∈ s.cps.toList, (isLt c || isDg c) = true := by
  unfold Nm nmL at h
  split at h
  · cases h
  · rename_i a r e
    rw [e]
    simp only [Bool.and_eq_true, decide_eq_true_eq, List.all_eq_true] at h
    intro c hc
    rcases List.mem_cons.mp hc with z | z
    · subst z
      rw [h.1]
      rfl
    · exact h.2.2 c z
theorem nm_strOk {s : Str} (h : Nm s) : PyData.strOk s = true := by
  unfold PyData.strOk
  rw [← Array.all_toList, List.all_eq_true]
  intro c hc
  exact decide_eq_true (Nat.lt_trans (isAl_lt (nm_all h c hc)) (by decide))
theorem nm_small {s : Str} (h : Nm s) : small s.length = true := decide_eq_true (by have := (nm_len h).2; omega)
theorem pyL_str : ∀ ts : List Str, D.pyL (ts.map D.str) = some (ts.map PyData.str)
  | [] => rfl
  | t :: ts => by simp [D.pyL, D.py, pyL_str ts]
theorem lay_strs : ∀ ts : List Str, (∀ t ∈ ts, PyData.strOk t = true) → PyData.canLayAll0 (ts.map PyData.str) = true
  | [], _ => rfl
  | t :: ts, h => by simp [PyData.canLayAll0, PyData.canLay0, h t (List.mem_cons_self ..), lay_strs ts fun u hu => h u (List.mem_cons_of_mem _ hu)]
theorem depth_strs : ∀ ts : List Str, PyData.depthAll (ts.map PyData.str) = 0
  | [] => rfl
  | t :: ts => by simp [PyData.depthAll, PyData.depth, depth_strs ts]
theorem shaped_strs {ts : List Str} (h : ∀ t ∈ ts, PyData.strOk t = true) : SeqAt.shaped (.list (ts.map PyData.str)) = true := by
  simp [SeqAt.shaped, PyData.canLay0, lay_strs ts h, PyData.depth, depth_strs]
theorem ne_nil {S : WS} {ts : List Str} (h : ∀ t ∈ ts, PyData.strOk t = true) : neD S (.lst (ts.map D.str)) (.lst []) = some (.bl (!ts.isEmpty)) := by
  have h2 : SeqAt.shaped (.list []) = true := rfl
  unfold neD eqAny eqPyS
  simp only [eqScal, pyS, D.py, pyL_str, D.pyL, Option.map_some, Option.bind_some, shaped_strs h, h2, and_self, if_true, Option.orElse]
  cases ts <;> rfl
theorem notIn_strs {S : WS} {t : Str} {ts : List Str} : inD true S (.str t) (.lst (ts.map D.str)) = some (.bl (decide (t ∉ ts))) := by
  have h1 : (ts.map D.str).all flatD = true := by
    rw [List.all_eq_true]
    intro x hx
    obtain ⟨u, _, rfl⟩ := List.mem_map.mp hx
    rfl
  have h2 : ((ts.map D.str).any fun y => eqFl y (.str t)) = decide (t ∈ ts) := by
    rw [Bool.eq_iff_iff, List.any_eq_true, decide_eq_true_eq]
    constructor
    · rintro ⟨x, hx, e⟩
      obtain ⟨u, hu, rfl⟩ := List.mem_map.mp hx
      have : u = t := eq_of_beq (show (u == t) = true from e)
      exact this ▸ hu
    · exact fun h => ⟨.str t, List.mem_map.mpr ⟨t, h, rfl⟩, (beq_self_eq_true t : (t == t) = true)⟩
  simp only [inD, itemsD, Option.bind_some, flatD, h1, and_self, if_true, h2]
  simp
theorem cut_to {z : Str} {m : Nat} : (cutS z none (some (m : Int))).cps.toList = z.cps.toList.take m := by
  unfold cutS
  rw [HT.sIx_none, HT.sIx_nat]
  simp only [List.drop_zero, Nat.sub_zero, len_cps]
  rw [List.take_eq_take_iff]
  simp
theorem nm_cut {z : Str} {m : Nat} (h : nmL (z.cps.toList.take m) = true) : Nm (cutS z none (some (m : Int))) := by
  unfold Nm
  rw [cut_to]
  exact h
theorem nm_cat8 {s t : Str} (hs : Nm s) (ht : Nm t) : Nm (cutS (s ++ t) none (some (8 : Int))) := by
  refine nm_cut (m := 8) ?_
  rw [cat_cps]
  have ha := nm_all ht
  unfold Nm nmL at hs
  split at hs
  · cases hs
  · rename_i a r e
    rw [e]
    simp only [Bool.and_eq_true, decide_eq_true_eq, List.all_eq_true] at hs
    show nmL ((a :: (r ++ t.cps.toList)).take 8) = true
    rw [List.take_succ_cons]
    simp only [nmL, Bool.and_eq_true, decide_eq_true_eq, List.all_eq_true]
    refine ⟨hs.1, by rw [List.length_take]; omega, fun x hx => ?_⟩
    rcases List.mem_append.mp (List.mem_of_mem_take hx) with z | z
    · exact hs.2.2 x z
    · exact ha x z
theorem nodup_le {α : Type} [DecidableEq α] : ∀ (l ts : List α), l.Nodup → (∀ x ∈ l, x ∈ ts) → l.length ≤ ts.length
  | [], _, _, _ => Nat.zero_le _
  | x :: l, ts, hn, h => by
    have hx := h x (List.mem_cons_self ..)
    have hn2 := List.nodup_cons.mp hn
    have := nodup_le l (ts.erase x) hn2.2 fun y hy => (List.mem_erase_of_ne (fun e : y = x => hn2.1 (e ▸ hy))).mpr (h y (List.mem_cons_of_mem _ hy))
    rw [List.length_erase_of_mem hx] at this
    have : 0 < ts.length := List.length_pos_of_mem hx
    simp only [List.length_cons]
    omega
/-- title[:7] and a sign -/
def alt (t : Str) (c : Nat) : Str := cutS t none (some (7 : Int)) ++ ⟨#[c]⟩
theorem alt_inj {t : Str} {c d : Nat} (h : alt t c = alt t d) : c = d := by
  have e : (alt t c).cps.toList = (alt t d).cps.toList := by rw [h]
  unfold alt at e
  rw [cat_cps, cat_cps] at e
  have := List.append_cancel_left e
  simpa using this
theorem nm_alt {t : Str} {c : Nat} (h : Nm t) (hc : (isLt c || isDg c) = true) : Nm (alt t c) := by
  refine nm_snoc (nm_cut (m := 7) (nm_take 7 h (by decide))) ?_ hc
  rw [len_cps, show cutS t none (some (7 : Int)) = cutS t none (some ((7 : Nat) : Int)) from rfl, cut_to, List.length_take]
  omega
theorem signs_all : ∀ c ∈ signs.cps.toList, (isLt c || isDg c) = true := by decide +kernel
theorem signs_nodup : signs.cps.toList.Nodup := by decide +kernel
/-- the first of them that is not taken -/
theorem alt_first {t : Str} {ts : List Str} (ht : Nm t) (hl : ts.length < 36) : ∃ c l, (isLt c || isDg c) = true ∧ alt t c ∉ ts ∧ (signs.cps.toList.map (alt t)).filter (fun z => decide (z ∉ ts)) = alt t c :: l := by
  cases e : (signs.cps.toList.map (alt t)).filter (fun z => decide (z ∉ ts)) with
  | nil =>
    exfalso
    rw [List.filter_eq_nil_iff] at e
    have nd : (signs.cps.toList.map (alt t)).Nodup := List.Pairwise.map _ (fun a b h e => h (alt_inj e)) signs_nodup
    have := nodup_le _ ts nd fun x hx => by simpa using e x hx
    rw [List.length_map] at this
    have : signs.cps.toList.length = 36 := by decide +kernel
    omega
  | cons z l =>
    have hm : z ∈ (signs.cps.toList.map (alt t)).filter (fun z => decide (z ∉ ts)) := by rw [e]; exact List.mem_cons_self ..
    obtain ⟨hm, hz⟩ := List.mem_filter.mp hm
    obtain ⟨c, hc, rfl⟩ := List.mem_map.mp hm
    exact ⟨c, l, signs_all c hc, of_decide_eq_true hz, rfl⟩
theorem strs_at {ts : List Str} {r : Int} (h0 : 0 ≤ r) (h : r < ts.length) : ∃ t, atI (ts.map D.str) r = some (.str t) ∧ t ∈ ts := by
  refine ⟨ts[r.toNat]'(by omega), ?_, List.getElem_mem _⟩
  unfold atI ixN
  rw [if_pos h0, if_pos (by rw [List.length_map]; exact h), Option.bind_some, List.getElem?_map, List.getElem?_eq_getElem (by omega)]
  rfl
theorem str_ext {a b : Str} (h : a.cps.toList = b.cps.toList) : a = b := by
  obtain ⟨⟨x⟩⟩ := a
  obtain ⟨⟨y⟩⟩ := b
  have : x = y := h
  rw [this]
theorem in_strs {S : WS} {x : D} {neg : Bool} {t : Str} {ts : List Str} (h : itemsD S x = some (ts.map D.str)) : inD neg S (.str t) x = some (.bl (if neg then decide (t ∉ ts) else decide (t ∈ ts))) := by
  have h1 : (ts.map D.str).all flatD = true := by
    rw [List.all_eq_true]
    intro x hx
    obtain ⟨u, _, rfl⟩ := List.mem_map.mp hx
    rfl
  have h2 : ((ts.map D.str).any fun y => eqFl y (.str t)) = decide (t ∈ ts) := by
    rw [Bool.eq_iff_iff, List.any_eq_true, decide_eq_true_eq]
    constructor
    · rintro ⟨x, hx, e⟩
      obtain ⟨u, hu, rfl⟩ := List.mem_map.mp hx
      have : u = t := eq_of_beq (show (u == t) = true from e)
      exact this ▸ hu
    · exact fun h => ⟨.str t, List.mem_map.mpr ⟨t, h, rfl⟩, (beq_self_eq_true t : (t == t) = true)⟩
  simp only [inD, h, Option.bind_some, flatD, h1, and_self, if_true, h2]
  cases neg <;> simp
theorem snoc_len {s : Str} {c : Nat} : (s ++ ⟨#[c]⟩ : Str).length = s.length + 1 := by
  rw [len_cps, cat_cps, List.length_append, len_cps]
  rfl
theorem cat_len {s t : Str} : (s ++ t).length = s.length + t.length := by
  rw [len_cps, cat_cps, List.length_append, len_cps, len_cps]
theorem one_len {c : Nat} : Str.length ⟨#[c]⟩ = 1 := rfl
/-- x is the list of texts ts: one that stands still, or a cell -/
inductive TkOk (S : WS) : D → List Str → Prop where
  | lst {ts : List Str} : TkOk S (.lst (ts.map D.str)) ts
  | cell {j : Nat} {ts : List Str} : S[j]? = some (.lst (ts.map D.str)) → TkOk S (.cell j) ts
section
variable {S : WS} {x : D} {ts : List Str}
theorem TkOk.items (h : TkOk S x ts) : itemsD S x = some (ts.map D.str) := by
  cases h with
  | lst => rfl
  | cell h => simp only [itemsD, h]
theorem TkOk.ne (h : TkOk S x ts) (hs : ∀ t ∈ ts, Nm t) : neD S x (.lst []) = some (.bl (!ts.isEmpty)) := by
  have e := ne_nil (S := S) (ts := ts) fun t ht => nm_strOk (hs t ht)
  cases h with
  | lst => exact e
  | cell h =>
    unfold neD eqAny eqPyS at e ⊢
    simp only [eqScal, pyS, D.py, h, eqLen, lstOf] at e ⊢
    exact e
theorem TkOk.len (h : TkOk S x ts) : lenD S [x] = some (.int (ts.length : Nat)) := by
  cases h with
  | lst => simp [lenD, itemsD]
  | cell h => simp [lenD, itemsD, h]
theorem TkOk.ix (h : TkOk S x ts) {r : Int} {d : D} (hd : atI (ts.map D.str) r = some d) : ixD S x (.int r) = some d := by
  cases h with
  | lst => simp only [ixD, hd]
  | cell h => simp only [ixD, h, hd]
end
end RV
end
section
namespace RV
open PySem L2
def errNames : List String := ["InvalidEnd", "InvalidFlag", "InvalidName"]
def errAll : List String := ["BadName", "BadValue", "InvalidEnd", "InvalidFlag", "InvalidMeters", "InvalidName", "InvalidPipes", "InvalidText", "NoAnswer", "NotAMeter", "UnknownName"]
def errAnc : List (String × List String) := [("InvalidEnd", ["InvalidEnd", "BadValue"]), ("InvalidFlag", ["InvalidFlag", "BadValue"]), ("InvalidName", ["InvalidName", "BadValue"])]
def tabs (A : Ad) : WS := [.tab (A.t "law") "law.<locals>.<lambda>", .tab (A.t "_law_pipe_right") "_law_pipe_right.<locals>.<lambda>", .tab (A.t "_law_meter_right") "_law_meter_right.<locals>.<lambda>"]
/-! Pipe.name -/
noncomputable def B_Pipe_name (A : Ad) : RV.Env → MS := sRet (eOp ixD (eUn (fldD (A.c "Pipe") "kept") (eVar 0)) (eC (.int 0)))
theorem E_Pipe_name (A : Ad) : ∃ g : List D → M, g = fnD 1 (B_Pipe_name A) := ⟨_, rfl⟩
noncomputable def G_Pipe_name (A : Ad) : List D → M := (E_Pipe_name A).choose
theorem D_Pipe_name (A : Ad) : G_Pipe_name A = fnD 1 (B_Pipe_name A) := (E_Pipe_name A).choose_spec
/-! Pipe.start -/
noncomputable def B_Pipe_start (A : Ad) : RV.Env → MS := sRet (eOp ixD (eUn (fldD (A.c "Pipe") "kept") (eVar 0)) (eC (.int 1)))
theorem E_Pipe_start (A : Ad) : ∃ g : List D → M, g = fnD 1 (B_Pipe_start A) := ⟨_, rfl⟩
noncomputable def G_Pipe_start (A : Ad) : List D → M := (E_Pipe_start A).choose
theorem D_Pipe_start (A : Ad) : G_Pipe_start A = fnD 1 (B_Pipe_start A) := (E_Pipe_start A).choose_spec
/-! Pipe.end -/
noncomputable def B_Pipe_end (A : Ad) : RV.Env → MS := sRet (eOp ixD (eUn (fldD (A.c "Pipe") "kept") (eVar 0)) (eC (.int 2)))
theorem E_Pipe_end (A : Ad) : ∃ g : List D → M, g = fnD 1 (B_Pipe_end A) := ⟨_, rfl⟩
noncomputable def G_Pipe_end (A : Ad) : List D → M := (E_Pipe_end A).choose
theorem D_Pipe_end (A : Ad) : G_Pipe_end A = fnD 1 (B_Pipe_end A) := (E_Pipe_end A).choose_spec
/-! Meter.name -/
noncomputable def B_Meter_name (A : Ad) : RV.Env → MS := sRet (eOp ixD (eUn (fldD (A.c "Meter") "kept") (eVar 0)) (eC (.int 0)))
theorem E_Meter_name (A : Ad) : ∃ g : List D → M, g = fnD 1 (B_Meter_name A) := ⟨_, rfl⟩
noncomputable def G_Meter_name (A : Ad) : List D → M := (E_Meter_name A).choose
theorem D_Meter_name (A : Ad) : G_Meter_name A = fnD 1 (B_Meter_name A) := (E_Meter_name A).choose_spec
/-! Meter.at -/
noncomputable def B_Meter_at (A : Ad) : RV.Env → MS := sRet (eOp ixD (eUn (fldD (A.c "Meter") "kept") (eVar 0)) (eC (.int 1)))
theorem E_Meter_at (A : Ad) : ∃ g : List D → M, g = fnD 1 (B_Meter_at A) := ⟨_, rfl⟩
noncomputable def G_Meter_at (A : Ad) : List D → M := (E_Meter_at A).choose
theorem D_Meter_at (A : Ad) : G_Meter_at A = fnD 1 (B_Meter_at A) := (E_Meter_at A).choose_spec
/-! Meter.sealed -/
noncomputable def B_Meter_sealed (A : Ad) : RV.Env → MS := sRet (eOp ixD (eUn (fldD (A.c "Meter") "kept") (eVar 0)) (eC (.int 2)))
theorem E_Meter_sealed (A : Ad) : ∃ g : List D → M, g = fnD 1 (B_Meter_sealed A) := ⟨_, rfl⟩
noncomputable def G_Meter_sealed (A : Ad) : List D → M := (E_Meter_sealed A).choose
theorem D_Meter_sealed (A : Ad) : G_Meter_sealed A = fnD 1 (B_Meter_sealed A) := (E_Meter_sealed A).choose_spec
/-! _law_seen -/
noncomputable def B_seen_k10 (A : Ad) : RV.Env → MS := sSeq (sIf (bTru truD (eCall (isiD (own A) (tab A)) (aCons (eVar 0) (aCons (eC (.adr (A.c "Pipe"))) (aNil))))) (sRet (eOp addD (eOp addD (eOp addD (eOp addD (eOp addD (eC (.str "pipe ")) (eProp (A.c "Pipe") (G_Pipe_name A) (eVar 0))) (eC (.str " "))) (eProp (A.c "Pipe") (G_Pipe_start A) (eVar 0))) (eC (.str " "))) (eProp (A.c "Pipe") (G_Pipe_end A) (eVar 0)))) (sNil)) (sSeq (sIf (bTru truD (eCall (isiD (own A) (tab A)) (aCons (eVar 0) (aCons (eC (.adr (A.c "Meter"))) (aNil))))) (sRet (eOp addD (eOp addD (eOp addD (eOp addD (eOp addD (eC (.str "meter ")) (eProp (A.c "Meter") (G_Meter_name A) (eVar 0))) (eC (.str " "))) (eProp (A.c "Meter") (G_Meter_at A) (eVar 0))) (eC (.str " "))) (eCall strFD (aCons (eProp (A.c "Meter") (G_Meter_sealed A) (eVar 0)) (aNil))))) (sNil)) (sSeq (sIf (bTru truD (eCall (isiD (own A) (tab A)) (aCons (eVar 0) (aCons (eC (.adr (A.c "Net"))) (aNil))))) (sRet (eOp addD (eC (.str "net ")) (eNever))) (sNil)) (sRet (eIf (bTru truD (eCall (isiD (own A) (tab A)) (aCons (eVar 0) (aCons (eC (.adr (A.c "Sum"))) (aNil))))) (eOp addD (eC (.str "sum ")) (eNever)) (eCall reprD2 (aCons (eVar 0) (aNil)))))))
theorem E_seen_k10 (A : Ad) : ∃ g : List D → M, g = fnD 1 (B_seen_k10 A) := ⟨_, rfl⟩
noncomputable def G_seen_k10 (A : Ad) : List D → M := (E_seen_k10 A).choose
theorem D_seen_k10 (A : Ad) : G_seen_k10 A = fnD 1 (B_seen_k10 A) := (E_seen_k10 A).choose_spec
/-! _law_seen -/
noncomputable def B_seen_k10_h (A : Ad) : RV.Env → MS := sSeq (sIf (bTru truD (eCall (isiD (own A) (tab A)) (aCons (eVar 0) (aCons (eC (.adr (A.c "Pipe"))) (aNil))))) (sRet (eOp addD (eOp addD (eOp addD (eOp addD (eOp addD (eC (.str "pipe ")) (eNever)) (eC (.str " "))) (eNever)) (eC (.str " "))) (eNever))) (sNil)) (sSeq (sIf (bTru truD (eCall (isiD (own A) (tab A)) (aCons (eVar 0) (aCons (eC (.adr (A.c "Meter"))) (aNil))))) (sRet (eOp addD (eOp addD (eOp addD (eOp addD (eOp addD (eC (.str "meter ")) (eNever)) (eC (.str " "))) (eNever)) (eC (.str " "))) (eCall strFD (aCons (eNever) (aNil))))) (sNil)) (sSeq (sIf (bTru truD (eCall (isiD (own A) (tab A)) (aCons (eVar 0) (aCons (eC (.adr (A.c "Net"))) (aNil))))) (sRet (eOp addD (eC (.str "net ")) (eNever))) (sNil)) (sRet (eIf (bTru truD (eCall (isiD (own A) (tab A)) (aCons (eVar 0) (aCons (eC (.adr (A.c "Sum"))) (aNil))))) (eOp addD (eC (.str "sum ")) (eNever)) (eCall reprD2 (aCons (eVar 0) (aNil)))))))
theorem E_seen_k10_h (A : Ad) : ∃ g : List D → M, g = fnD 1 (B_seen_k10_h A) := ⟨_, rfl⟩
noncomputable def G_seen_k10_h (A : Ad) : List D → M := (E_seen_k10_h A).choose
theorem D_seen_k10_h (A : Ad) : G_seen_k10_h A = fnD 1 (B_seen_k10_h A) := (E_seen_k10_h A).choose_spec
/-! _law_said -/
noncomputable def B_said_k10 (A : Ad) (a C d : Addr) : RV.Env → MS := sWish (C ∈ errL A errNames) (sSeq (sAsg 1 (eSeq .lst (aCons (eCall (isXD a C d (tbX A errAll errAnc C)) (aCons (eVar 0) (aCons (eC (.adr (A.c "InvalidPipes"))) (aNil)))) (aCons (eCall (isXD a C d (tbX A errAll errAnc C)) (aCons (eVar 0) (aCons (eC (.adr (A.c "InvalidMeters"))) (aNil)))) (aCons (eCall (isXD a C d (tbX A errAll errAnc C)) (aCons (eVar 0) (aCons (eC (.adr (A.c "InvalidName"))) (aNil)))) (aNil)))))) (sSeq (sAsg 1 (eOp addD (eVar 1) (eSeq .lst (aCons (eCall (isXD a C d (tbX A errAll errAnc C)) (aCons (eVar 0) (aCons (eC (.adr (A.c "InvalidEnd"))) (aNil)))) (aCons (eCall (isXD a C d (tbX A errAll errAnc C)) (aCons (eVar 0) (aCons (eC (.adr (A.c "InvalidFlag"))) (aNil)))) (aCons (eCall (isXD a C d (tbX A errAll errAnc C)) (aCons (eVar 0) (aCons (eC (.adr (A.c "InvalidText"))) (aNil)))) (aNil))))))) (sSeq (sAsg 1 (eOp addD (eVar 1) (eSeq .lst (aCons (eCall (isXD a C d (tbX A errAll errAnc C)) (aCons (eVar 0) (aCons (eC (.adr (A.c "NotAMeter"))) (aNil)))) (aCons (eCall (isXD a C d (tbX A errAll errAnc C)) (aCons (eVar 0) (aCons (eC (.adr (A.c "UnknownName"))) (aNil)))) (aNil)))))) (sSeq (sIf (bOr (bBl (eOp neD (eLm countF (eVar 1) (eC (.bl true))) (eC (.int 1)))) (bOr (bBl (eOp neD (eCall (isXD a C d (tbX A errAll errAnc C)) (aCons (eVar 0) (aCons (eC (.adr (A.c "BadName"))) (aNil)))) (eOp ixD (eVar 1) (eC (.int 7))))) (bBl (eOp eqD (eCall (isXD a C d (tbX A errAll errAnc C)) (aCons (eVar 0) (aCons (eC (.adr (A.c "BadValue"))) (aNil)))) (eOp ixD (eVar 1) (eC (.int 7))))))) (sRet (eSeq .lst (aCons (eC (.str "another error")) (aNil)))) (sNil)) (sSeq (sAsg 2 (eLm indexF (eVar 1) (eC (.bl true)))) (sRet (eSeq .lst (aCons (eVar 2) (aCons (eIf (bBl (eOp ltD (eVar 2) (eC (.int 2)))) (eCall reprD2 (aCons (eXg a C d "index" (eVar 0)) (aNil))) (eFn 1 (G_seen_k10_h A) [] (aCons (eXg a C d "given" (eVar 0)) (aNil)))) (aNil))))))))))
theorem E_said_k10 (A : Ad) : ∃ g : Addr → Addr → Addr → List D → M, g = fun a C d => fnD 3 (B_said_k10 A a C d) := ⟨_, rfl⟩
noncomputable def G_said_k10 (A : Ad) : Addr → Addr → Addr → List D → M := (E_said_k10 A).choose
theorem D_said_k10 (A : Ad) : G_said_k10 A = fun a C d => fnD 3 (B_said_k10 A a C d) := (E_said_k10 A).choose_spec
/-! _law_caught -/
noncomputable def T_caught_k10 (A : Ad) : RV.Env → M := eSeq .lst (aCons (eC (.str "told")) (aCons (eFn 1 (G_seen_k10 A) [] (aCons (eVar 1) (aNil))) (aNil)))
noncomputable def S_caught_k10 (A : Ad) (a C d : Addr) : RV.Env → MS := sRet (eFnE 1 (G_said_k10 A a C d) (aCons (eVar 2) (aNil)))
/-! is_name -/
noncomputable def B_is_name (A : Ad) : RV.Env → MS := sSeq (sIf (bOr (bNot (bTru truD (eCall (isiD (own A) (tab A)) (aCons (eVar 0) (aCons (eC (.ty "str")) (aNil)))))) (bOr (bNot (bChain leD leD (eC (.int 1)) (eCall lenD (aCons (eVar 0) (aNil))) (eC (.int 8)))) (bBl (eOp (inSD true) (eOp ixD (eVar 0) (eC (.int 0))) (eC (.str "abcdefghijklmnopqrstuvwxyz")))))) (sRet (eC (.bl false))) (sNil)) (sRet (eCall allD (aCons (eLc .still (iStrD (eVar 0)) (tName 1) (bYes) (eOr (eOp (inSD false) (eVar 1) (eC (.str "abcdefghijklmnopqrstuvwxyz"))) (eOp (inSD false) (eVar 1) (eC (.str "0123456789")))) [1]) (aNil))))
theorem E_is_name (A : Ad) : ∃ g : List D → M, g = fnD 2 (B_is_name A) := ⟨_, rfl⟩
noncomputable def G_is_name (A : Ad) : List D → M := (E_is_name A).choose
theorem D_is_name (A : Ad) : G_is_name A = fnD 2 (B_is_name A) := (E_is_name A).choose_spec
/-! check_name -/
noncomputable def B_check_name (A : Ad) : RV.Env → MS := sIf (bNot (bTru truD (eFn 1 (G_is_name A) [] (aCons (eVar 0) (aNil))))) (sRaise (A.c "InvalidName") "given" (eVar 0)) (sNil)
theorem E_check_name (A : Ad) : ∃ g : List D → M, g = fnD 1 (B_check_name A) := ⟨_, rfl⟩
noncomputable def G_check_name (A : Ad) : List D → M := (E_check_name A).choose
theorem D_check_name (A : Ad) : G_check_name A = fnD 1 (B_check_name A) := (E_check_name A).choose_spec
/-! Meter.__init__ -/
noncomputable def B_Meter_init (A : Ad) : RV.Env → MS := sSeq (sDrop (eFn 1 (G_check_name A) [] (aCons (eVar 1) (aNil)))) (sSeq (sDrop (eFn 1 (G_check_name A) [] (aCons (eVar 2) (aNil)))) (sSeq (sIf (bNot (bTru truD (eCall (isiD (own A) (tab A)) (aCons (eVar 3) (aCons (eC (.ty "bool")) (aNil)))))) (sRaise (A.c "InvalidFlag") "given" (eVar 3)) (sNil)) (sFldD (A.c "Meter") "kept" (eVar 0) (eSeq .tup (aCons (eVar 1) (aCons (eVar 2) (aCons (eVar 3) (aNil))))))))
theorem E_Meter_init (A : Ad) : ∃ g : List D → M, g = fnD 4 (B_Meter_init A) := ⟨_, rfl⟩
noncomputable def G_Meter_init (A : Ad) : List D → M := (E_Meter_init A).choose
theorem D_Meter_init (A : Ad) : G_Meter_init A = fnD 4 (B_Meter_init A) := (E_Meter_init A).choose_spec
/-! _law_well -/
noncomputable def B_well_k01 (A : Ad) : RV.Env → MS := sSeq (sAsg 2 (eIf (bBl (eOp ltD (eVar 1) (eCall lenD (aCons (eVar 0) (aNil))))) (eOp ixD (eVar 0) (eVar 1)) (eOp mulD (eOp mulD (eC (.int 90017)) (eOp addD (eVar 1) (eC (.int 3)))) (eOp addD (eVar 1) (eC (.int 5)))))) (sSeq (sIf (bBl (eOp geD (eVar 1) (eCall lenD (aCons (eVar 0) (aNil))))) (sFor (iSeq (eVar 0)) (tName 3) (sAsg 2 (eOp modD (eCall intOfD (aCons (eOp addD (eOp mulD (eVar 2) (eC (.int 52711))) (eVar 3)) (aNil))) (eC (.int 2147483629))))) (sNil)) (sRet (eNew (aCons (eOp modD (eCall intOfD (aCons (eVar 2) (aNil))) (eC (.int 2147483629))) (aCons (eIf (bBl (eOp geD (eCall absD (aCons (eVar 2) (aNil))) (eOp powD (eC (.int 10)) (eC (.int 18))))) (eCall absD (aCons (eVar 2) (aNil))) (eC (.int 0))) (aCons (eC (.int 0)) (aNil)))))))
theorem E_well_k01 (A : Ad) : ∃ g : List D → M, g = fnN 4 (B_well_k01 A) := ⟨_, rfl⟩
noncomputable def G_well_k01 (A : Ad) : List D → M := (E_well_k01 A).choose
theorem D_well_k01 (A : Ad) : G_well_k01 A = fnN 4 (B_well_k01 A) := (E_well_k01 A).choose_spec
/-! _law_dip -/
noncomputable def B_dip_k01 (A : Ad) : RV.Env → MS := sSeq (sSetIx (eVar 0) (eC (.int 2)) (eOp addD (eOp ixD (eVar 0) (eC (.int 2))) (eC (.int 1)))) (sSeq (sIf (bBl (eOp gtD (eOp ixD (eVar 0) (eC (.int 1))) (eC (.int 0)))) (sSeq (sPairSet 2 (eVar 0) (eC (.int 1)) (eCall divmodD (aCons (eOp ixD (eVar 0) (eC (.int 1))) (aCons (eVar 1) (aNil))))) (sRet (eVar 2))) (sNil)) (sSeq (sSetIx (eVar 0) (eC (.int 0)) (eOp modD (eCall intOfD (aCons (eOp addD (eOp addD (eOp mulD (eOp ixD (eVar 0) (eC (.int 0))) (eC (.int 69621))) (eOp mulD (eOp mulD (eC (.int 31)) (eOp ixD (eVar 0) (eC (.int 2)))) (eOp ixD (eVar 0) (eC (.int 2))))) (eC (.int 40503))) (aNil))) (eC (.int 2147483629)))) (sSeq (sAsg 3 (eOp modD (eCall intOfD (aCons (eOp mulD (eOp ixD (eVar 0) (eC (.int 0))) (eOp addD (eOp modD (eCall intOfD (aCons (eOp ixD (eVar 0) (eC (.int 0))) (aNil))) (eC (.int 30011))) (eC (.int 17)))) (aNil))) (eC (.int 2147483587)))) (sRet (eOp modD (eCall intOfD (aCons (eOp fdivD (eVar 3) (eC (.int 64))) (aNil))) (eVar 1))))))
theorem E_dip_k01 (A : Ad) : ∃ g : List D → M, g = fnD 4 (B_dip_k01 A) := ⟨_, rfl⟩
noncomputable def G_dip_k01 (A : Ad) : List D → M := (E_dip_k01 A).choose
theorem D_dip_k01 (A : Ad) : G_dip_k01 A = fnD 4 (B_dip_k01 A) := (E_dip_k01 A).choose_spec
/-! _law_odd -/
noncomputable def B_odd_k04 (A : Ad) : RV.Env → MS := sSeq (sAsg 1 (eFn 2 (G_dip_k01 A) [] (aCons (eVar 0) (aCons (eC (.int 20)) (aNil))))) (sSeq (sAsg 2 (eSeq .lst (aCons (eC .non) (aCons (eC (.bl true)) (aCons (eC (.bl false)) (aCons (eC (.int 0)) (aCons (eC (.int 1)) (aCons (eUn negD (eC (.int 1))) (aCons (eC (.int 3)) (aCons (eOp powD (eC (.int 10)) (eC (.int 30))) (aCons (eC (.str "")) (aCons (eC (.str "A")) (aCons (eC (.str "1a")) (aCons (eC (.str "a b")) (aCons (eC (.str "a_b")) (aCons (eC (.str "abcdefghi")) (aCons (eSeq .tup (aNil)) (aCons (eSeq .tup (aCons (eC (.str "a")) (aNil))) (aCons (eSeq .lst (aNil)) (aCons (eSeq .lst (aCons (eC (.str "a")) (aNil))) (aNil))))))))))))))))))))) (sRet (eOp ixD (eOp addD (eVar 2) (eSeq .lst (aCons (eDic0) (aCons (eDisp .still (aCons (eC (.str "a")) (aCons (eC (.int 1)) (aNil)))) (aNil))))) (eVar 1))))
theorem E_odd_k04 (A : Ad) : ∃ g : List D → M, g = fnD 3 (B_odd_k04 A) := ⟨_, rfl⟩
noncomputable def G_odd_k04 (A : Ad) : List D → M := (E_odd_k04 A).choose
theorem D_odd_k04 (A : Ad) : G_odd_k04 A = fnD 3 (B_odd_k04 A) := (E_odd_k04 A).choose_spec
/-! _law_name -/
noncomputable def B_name_k02 (A : Ad) : RV.Env → MS := sSeq (sIf (bBl (eOp eqD (eFn 2 (G_dip_k01 A) [] (aCons (eVar 0) (aCons (eC (.int 6)) (aNil)))) (eC (.int 0)))) (sRet (eOp ixD (eSeq .lst (aCons (eC (.str "pipe")) (aCons (eC (.str "meter")) (aCons (eC (.str "sealed")) (aCons (eC (.str "self")) (aCons (eC (.str "net")) (aCons (eC (.str "tell")) (aCons (eC (.str "if")) (aCons (eC (.str "a")) (aNil)))))))))) (eFn 2 (G_dip_k01 A) [] (aCons (eVar 0) (aCons (eC (.int 8)) (aNil)))))) (sNil)) (sSeq (sAsg 1 (eC (.str "abcdefghijklmnopqrstuvwxyz0123456789"))) (sSeq (sAsg 2 (eOp ixD (eVar 1) (eFn 2 (G_dip_k01 A) [] (aCons (eVar 0) (aCons (eC (.int 26)) (aNil)))))) (sSeq (sFor (iRange1 (aCons (eFn 2 (G_dip_k01 A) [] (aCons (eVar 0) (aCons (eC (.int 8)) (aNil)))) (aNil))) (tName 3) (sAsg 2 (eOp addD (eVar 2) (eOp ixD (eVar 1) (eFn 2 (G_dip_k01 A) [] (aCons (eVar 0) (aCons (eC (.int 36)) (aNil)))))))) (sRet (eVar 2)))))
theorem E_name_k02 (A : Ad) : ∃ g : List D → M, g = fnD 4 (B_name_k02 A) := ⟨_, rfl⟩
noncomputable def G_name_k02 (A : Ad) : List D → M := (E_name_k02 A).choose
theorem D_name_k02 (A : Ad) : G_name_k02 A = fnD 4 (B_name_k02 A) := (E_name_k02 A).choose_spec
/-! _law_sign -/
noncomputable def B_sign_k04 (A : Ad) : RV.Env → MS := sSeq (sIf (bBl (eOp eqD (eFn 2 (G_dip_k01 A) [] (aCons (eVar 0) (aCons (eC (.int 2)) (aNil)))) (eC (.int 0)))) (sRet (eOp ixD (eVar 1) (eFn 2 (G_dip_k01 A) [] (aCons (eVar 0) (aCons (eCall lenD (aCons (eVar 1) (aNil))) (aNil)))))) (sNil)) (sSeq (sAsg 2 (eC (.str " !#$&'()*+,-./0123456789:;<=>?@ABCDEFGHIJKLMNOPQRSTUVWXYZ[]^_`"))) (sSeq (sAsg 2 (eOp addD (eVar 2) (eC (.str "abcdefghijklmnopqrstuvwxyz{|}~\"\\\n")))) (sRet (eOp ixD (eVar 2) (eFn 2 (G_dip_k01 A) [] (aCons (eVar 0) (aCons (eCall lenD (aCons (eVar 2) (aNil))) (aNil))))))))
theorem E_sign_k04 (A : Ad) : ∃ g : List D → M, g = fnD 3 (B_sign_k04 A) := ⟨_, rfl⟩
noncomputable def G_sign_k04 (A : Ad) : List D → M := (E_sign_k04 A).choose
theorem D_sign_k04 (A : Ad) : G_sign_k04 A = fnD 3 (B_sign_k04 A) := (E_sign_k04 A).choose_spec
/-! _law_bent_name -/
noncomputable def B_bent_name_k10 (A : Ad) : RV.Env → MS := sSeq (sPar3 1 2 3 (aCons (eFn 1 (G_name_k02 A) [] (aCons (eVar 0) (aNil))) (aCons (eFn 2 (G_dip_k01 A) [] (aCons (eVar 0) (aCons (eC (.int 9)) (aNil)))) (aCons (eFn 2 (G_dip_k01 A) [] (aCons (eVar 0) (aCons (eC (.int 2)) (aNil)))) (aNil))))) (sRet (eOp addD (eOp addD (eSl slD (eVar 1) (oNone) (oSome (eVar 2))) (eFn 2 (G_sign_k04 A) [] (aCons (eVar 0) (aCons (eC (.str "A_ -9z")) (aNil))))) (eSl slD (eVar 1) (oSome (eOp addD (eVar 2) (eVar 3))) (oNone))))
theorem E_bent_name_k10 (A : Ad) : ∃ g : List D → M, g = fnD 4 (B_bent_name_k10 A) := ⟨_, rfl⟩
noncomputable def G_bent_name_k10 (A : Ad) : List D → M := (E_bent_name_k10 A).choose
theorem D_bent_name_k10 (A : Ad) : G_bent_name_k10 A = fnD 4 (B_bent_name_k10 A) := (E_bent_name_k10 A).choose_spec
/-! _law_value -/
noncomputable def B_value_k10 (A : Ad) : RV.Env → MS := sSeq (sAsg 1 (eFn 2 (G_dip_k01 A) [] (aCons (eVar 0) (aCons (eC (.int 8)) (aNil))))) (sSeq (sIf (bBl (eOp eqD (eVar 1) (eC (.int 0)))) (sRet (eFn 1 (G_odd_k04 A) [] (aCons (eVar 0) (aNil)))) (sNil)) (sRet (eIf (bBl (eOp eqD (eVar 1) (eC (.int 1)))) (eFn 1 (G_bent_name_k10 A) [] (aCons (eVar 0) (aNil))) (eFn 1 (G_name_k02 A) [] (aCons (eVar 0) (aNil))))))
theorem E_value_k10 (A : Ad) : ∃ g : List D → M, g = fnD 2 (B_value_k10 A) := ⟨_, rfl⟩
noncomputable def G_value_k10 (A : Ad) : List D → M := (E_value_k10 A).choose
theorem D_value_k10 (A : Ad) : G_value_k10 A = fnD 2 (B_value_k10 A) := (E_value_k10 A).choose_spec
/-! _law_is_name -/
noncomputable def B_is_name_k04 (A : Ad) : RV.Env → MS := sSeq (sAsg 1 (eC (.str "abcdefghijklmnopqrstuvwxyz0123456789"))) (sRet (eAnd (eChain ltD ltD (eC (.int 0)) (eCall lenD (aCons (eVar 0) (aNil))) (eC (.int 9))) (eAnd (eOp (inSD false) (eOp ixD (eVar 0) (eC (.int 0))) (eSl slD (eVar 1) (oNone) (oSome (eC (.int 26))))) (eCall allD (aCons (eLc .still (iStrD (eVar 0)) (tName 2) (bYes) (eOp (inSD false) (eVar 2) (eVar 1)) [2]) (aNil))))))
theorem E_is_name_k04 (A : Ad) : ∃ g : List D → M, g = fnD 3 (B_is_name_k04 A) := ⟨_, rfl⟩
noncomputable def G_is_name_k04 (A : Ad) : List D → M := (E_is_name_k04 A).choose
theorem D_is_name_k04 (A : Ad) : G_is_name_k04 A = fnD 3 (B_is_name_k04 A) := (E_is_name_k04 A).choose_spec
/-! _law_first_bad -/
noncomputable def B_first_bad_k10 (A : Ad) : RV.Env → MS := sRet (eSl slD (eLc .still (iSeq (eVar 0)) (tName 1) (bOr (bNot (bTru truD (eCall (isiD (own A) (tab A)) (aCons (eVar 1) (aCons (eC (.ty "str")) (aNil)))))) (bNot (bTru truD (eFn 1 (G_is_name_k04 A) [] (aCons (eVar 1) (aNil)))))) (eVar 1) [1]) (oNone) (oSome (eC (.int 1))))
theorem E_first_bad_k10 (A : Ad) : ∃ g : List D → M, g = fnD 2 (B_first_bad_k10 A) := ⟨_, rfl⟩
noncomputable def G_first_bad_k10 (A : Ad) : List D → M := (E_first_bad_k10 A).choose
theorem D_first_bad_k10 (A : Ad) : G_first_bad_k10 A = fnD 2 (B_first_bad_k10 A) := (E_first_bad_k10 A).choose_spec
/-! Pipe.__init__ -/
noncomputable def B_Pipe_init (A : Ad) : RV.Env → MS := sSeq (sDrop (eFn 1 (G_check_name A) [] (aCons (eVar 1) (aNil)))) (sSeq (sDrop (eFn 1 (G_check_name A) [] (aCons (eVar 2) (aNil)))) (sSeq (sDrop (eFn 1 (G_check_name A) [] (aCons (eVar 3) (aNil)))) (sSeq (sIf (bBl (eOp eqD (eVar 3) (eVar 2))) (sRaise (A.c "InvalidEnd") "given" (eVar 3)) (sNil)) (sFldD (A.c "Pipe") "kept" (eVar 0) (eSeq .tup (aCons (eVar 1) (aCons (eVar 2) (aCons (eVar 3) (aNil)))))))))
theorem E_Pipe_init (A : Ad) : ∃ g : List D → M, g = fnD 4 (B_Pipe_init A) := ⟨_, rfl⟩
noncomputable def G_Pipe_init (A : Ad) : List D → M := (E_Pipe_init A).choose
theorem D_Pipe_init (A : Ad) : G_Pipe_init A = fnD 4 (B_Pipe_init A) := (E_Pipe_init A).choose_spec
/-! _law_pipe_right -/
noncomputable def B_pipe_right_k10 (A : Ad) : RV.Env → MS := sSeq (sAsgG (tTupD 3 (tsCons (tName 1) (tsCons (tName 2) (tsCons (tName 3) (tsNil))))) (eSeq .tup (aCons (eFn 1 (G_value_k10 A) [] (aCons (eVar 0) (aNil))) (aCons (eFn 1 (G_value_k10 A) [] (aCons (eVar 0) (aNil))) (aCons (eFn 1 (G_value_k10 A) [] (aCons (eVar 0) (aNil))) (aNil)))))) (sSeq (sIf (bBl (eOp eqD (eFn 2 (G_dip_k01 A) [] (aCons (eVar 0) (aCons (eC (.int 4)) (aNil)))) (eC (.int 0)))) (sAsg 3 (eVar 2)) (sNil)) (sSeq (sAsg 4 (eFn 1 (G_first_bad_k10 A) [] (aCons (eSeq .lst (aCons (eVar 1) (aCons (eVar 2) (aCons (eVar 3) (aNil))))) (aNil)))) (sSeq (sAsg 5 (eNew (aCons (eCaught 1 (A.t "_law_pipe_right") "_law_pipe_right.<locals>.<lambda>" (errL A errNames) 3 1 2 (T_caught_k10 A) (S_caught_k10 A) (eMake .still (A.c "Pipe") 4 (G_Pipe_init A) [] (aCons (eVar 1) (aCons (eVar 2) (aCons (eVar 3) (aNil)))))) (aNil)))) (sSeq (sAppend (eVar 5) (eCaught 1 (A.t "_law_pipe_right") "_law_pipe_right.<locals>.<lambda>" (errL A errNames) 3 1 2 (T_caught_k10 A) (S_caught_k10 A) (eMakeK .still (A.c "Pipe") 4 0 3 (G_Pipe_init A) (perm [2, 0, 1]) aNil (aCons (eVar 2) (aCons (eVar 3) (aCons (eVar 1) (aNil))))))) (sSeq (sIf (bBl (eOp neD (eVar 4) (eSeq .lst (aNil)))) (sRet (eOp eqD (eVar 5) (eOp repLD (eSeq .lst (aCons (eSeq .lst (aCons (eC (.int 2)) (aCons (eFn 1 (G_seen_k10 A) [] (aCons (eOp ixD (eVar 4) (eC (.int 0))) (aNil))) (aNil)))) (aNil))) (eC (.int 2))))) (sNil)) (sSeq (sAsg 6 (eIf (bBl (eOp eqD (eVar 2) (eVar 3))) (eSeq .lst (aCons (eC (.int 3)) (aCons (eCall reprD2 (aCons (eVar 3) (aNil))) (aNil)))) (eSeq .lst (aCons (eC (.str "told")) (aCons (eOp addD (eOp addD (eOp addD (eOp addD (eOp addD (eC (.str "pipe ")) (eVar 1)) (eC (.str " "))) (eVar 2)) (eC (.str " "))) (eVar 3)) (aNil)))))) (sRet (eOp eqD (eVar 5) (eSeq .lst (aCons (eVar 6) (aCons (eVar 6) (aNil))))))))))))
theorem E_pipe_right_k10 (A : Ad) : ∃ g : List D → M, g = fnD 7 (B_pipe_right_k10 A) := ⟨_, rfl⟩
noncomputable def G_pipe_right_k10 (A : Ad) : List D → M := (E_pipe_right_k10 A).choose
theorem D_pipe_right_k10 (A : Ad) : G_pipe_right_k10 A = fnD 7 (B_pipe_right_k10 A) := (E_pipe_right_k10 A).choose_spec
/-! _law_meter_right -/
noncomputable def B_meter_right_k10 (A : Ad) : RV.Env → MS := sSeq (sAsgG (tTupD 3 (tsCons (tName 1) (tsCons (tName 2) (tsCons (tName 3) (tsNil))))) (eSeq .tup (aCons (eFn 1 (G_value_k10 A) [] (aCons (eVar 0) (aNil))) (aCons (eFn 1 (G_value_k10 A) [] (aCons (eVar 0) (aNil))) (aCons (eFn 2 (G_dip_k01 A) [] (aCons (eVar 0) (aCons (eC (.int 3)) (aNil)))) (aNil)))))) (sSeq (sAsg 4 (eIf (bBl (eOp eqD (eVar 3) (eC (.int 0)))) (eFn 1 (G_odd_k04 A) [] (aCons (eVar 0) (aNil))) (eOp ixD (eSeq .lst (aCons (eC (.bl true)) (aCons (eC (.bl false)) (aNil)))) (eFn 2 (G_dip_k01 A) [] (aCons (eVar 0) (aCons (eC (.int 2)) (aNil))))))) (sSeq (sAsg 5 (eFn 1 (G_first_bad_k10 A) [] (aCons (eSeq .lst (aCons (eVar 1) (aCons (eVar 2) (aNil)))) (aNil)))) (sSeq (sAsg 6 (eNew (aCons (eCaught 2 (A.t "_law_meter_right") "_law_meter_right.<locals>.<lambda>" (errL A errNames) 3 1 2 (T_caught_k10 A) (S_caught_k10 A) (eMakeK .still (A.c "Meter") 4 2 1 (G_Meter_init A) (perm [0]) (aCons (eVar 1) (aCons (eVar 2) (aNil))) (aCons (eVar 4) (aNil)))) (aNil)))) (sSeq (sAppend (eVar 6) (eCaught 2 (A.t "_law_meter_right") "_law_meter_right.<locals>.<lambda>" (errL A errNames) 3 1 2 (T_caught_k10 A) (S_caught_k10 A) (eMakeK .still (A.c "Meter") 4 0 3 (G_Meter_init A) (perm [2, 1, 0]) aNil (aCons (eVar 4) (aCons (eVar 2) (aCons (eVar 1) (aNil))))))) (sSeq (sIf (bBl (eOp neD (eVar 5) (eSeq .lst (aNil)))) (sRet (eOp eqD (eVar 6) (eOp repLD (eSeq .lst (aCons (eSeq .lst (aCons (eC (.int 2)) (aCons (eFn 1 (G_seen_k10 A) [] (aCons (eOp ixD (eVar 5) (eC (.int 0))) (aNil))) (aNil)))) (aNil))) (eC (.int 2))))) (sNil)) (sSeq (sAsg 7 (eIf (bTru truD (eCall (isiD (own A) (tab A)) (aCons (eVar 4) (aCons (eC (.ty "bool")) (aNil))))) (eSeq .lst (aCons (eC (.str "told")) (aCons (eOp addD (eOp addD (eOp addD (eOp addD (eOp addD (eC (.str "meter ")) (eVar 1)) (eC (.str " "))) (eVar 2)) (eC (.str " "))) (eCall strFD (aCons (eVar 4) (aNil)))) (aNil)))) (eSeq .lst (aCons (eC (.int 4)) (aCons (eCall reprD2 (aCons (eVar 4) (aNil))) (aNil)))))) (sRet (eOp eqD (eVar 6) (eSeq .lst (aCons (eVar 7) (aCons (eVar 7) (aNil))))))))))))
theorem E_meter_right_k10 (A : Ad) : ∃ g : List D → M, g = fnD 8 (B_meter_right_k10 A) := ⟨_, rfl⟩
noncomputable def G_meter_right_k10 (A : Ad) : List D → M := (E_meter_right_k10 A).choose
theorem D_meter_right_k10 (A : Ad) : G_meter_right_k10 A = fnD 8 (B_meter_right_k10 A) := (E_meter_right_k10 A).choose_spec
/-! law -/
noncomputable def B_law_k10 (A : Ad) : RV.Env → MS := sSeq (sIf (bBl (eOp neD (eCaught 0 (A.t "law") "law.<locals>.<lambda>" (errL A errNames) 3 1 2 (T_caught_k10 A) (S_caught_k10 A) (eMakeK .still (A.c "Meter") 4 2 1 (G_Meter_init A) (perm [0]) (aCons (eC (.str "a")) (aCons (eC (.str "b")) (aNil))) (aCons (eC (.int 1)) (aNil)))) (eSeq .lst (aCons (eC (.int 4)) (aCons (eC (.str "1")) (aNil)))))) (sRet (eC (.bl false))) (sNil)) (sSeq (sFor (iRange1 (aCons (eCall max2D (aCons (eC (.int 2)) (aCons (eCall min2D (aCons (eCall lenD (aCons (eVar 0) (aNil))) (aCons (eC (.int 5)) (aNil)))) (aNil)))) (aNil))) (tName 1) (sSeq (sAsg 2 (eFn 2 (G_well_k01 A) [] (aCons (eVar 0) (aCons (eVar 1) (aNil))))) (sIf (bNot (bTru truD (eCall allD (aCons (eLc .still (iRange1 (aCons (eC (.int 10)) (aNil))) (tName 3) (bYes) (eAnd (eFn 1 (G_pipe_right_k10 A) [] (aCons (eVar 2) (aNil))) (eFn 1 (G_meter_right_k10 A) [] (aCons (eVar 2) (aNil)))) [3]) (aNil))))) (sRet (eC (.bl false))) (sNil)))) (sRet (eC (.bl true))))
theorem E_law_k10 (A : Ad) : ∃ g : List D → M, g = fnD 4 (B_law_k10 A) := ⟨_, rfl⟩
noncomputable def G_law_k10 (A : Ad) : List D → M := (E_law_k10 A).choose
theorem D_law_k10 (A : Ad) : G_law_k10 A = fnD 4 (B_law_k10 A) := (E_law_k10 A).choose_spec
end RV
end
section
/-! Draws. -/
namespace RV
open PySem L2
theorem ixD_cell {S : WS} {k : Nat} {ds : List D} {i : Int} (h : S[k]? = some (.lst ds)) : ixD S (.cell k) (.int i) = atI ds i := by simp only [ixD, h]
theorem setIx_cell {S : WS} {k : Nat} {ds : List D} {i : Int} {d : D} (h : S[k]? = some (.lst ds)) (hc : D.clean 0 d = true) : setIxD (.cell k) (.int i) d S = (ixN ds.length i).map fun j => S.set k (.lst (ds.set j d)) := by simp only [setIxD, h, hc, if_true]
section
variable {A : Ad} {S T : WS} {k : Nat} {n m : Int} {w : W} {q : D → WS → Prop} {x : Xq}
theorem dip_ok (hk : k < S.length) (g : Good n w) (hm : 0 < m) (hm2 : m < 1000000000000000000000000000000000000000000000000000000000000) (hn : n < 1000000000000000000) (h : ∀ d w', 0 ≤ d → d < m → Good (n + 1) w' → q (.int d) (st S k w' T)) : G_dip_k01 A [.cell k, .int m] (st S k w T) q x := by
  obtain ⟨a, b, c⟩ := w
  obtain ⟨a0, a1, b0, c0, c1⟩ := g
  simp only at a0 a1 b0 c0 c1
  have at_ : ∀ w : W, (st S k w T)[k]? = some (.lst [.int w.a, .int w.b, .int w.c]) := fun w => st_at hk
  have i0 : ∀ (w : W), ixD (st S k w T) (.cell k) (.int 0) = some (.int w.a) := fun w => by rw [ixD_cell (at_ w)]; rfl
  have i1 : ∀ (w : W), ixD (st S k w T) (.cell k) (.int 1) = some (.int w.b) := fun w => by rw [ixD_cell (at_ w)]; rfl
  have i2 : ∀ (w : W), ixD (st S k w T) (.cell k) (.int 2) = some (.int w.c) := fun w => by rw [ixD_cell (at_ w)]; rfl
  have s0 : ∀ (w : W) (v : Int), setIxD (.cell k) (.int 0) (.int v) (st S k w T) = some (st S k ⟨v, w.b, w.c⟩ T) := fun w v => by rw [setIx_cell (at_ w) rfl]; exact congrArg some (st_put hk)
  have s1 : ∀ (w : W) (v : Int), setIxD (.cell k) (.int 1) (.int v) (st S k w T) = some (st S k ⟨w.a, v, w.c⟩ T) := fun w v => by rw [setIx_cell (at_ w) rfl]; exact congrArg some (st_put hk)
  have s2 : ∀ (w : W) (v : Int), setIxD (.cell k) (.int 2) (.int v) (st S k w T) = some (st S k ⟨w.a, w.b, v⟩ T) := fun w v => by rw [setIx_cell (at_ w) rfl]; exact congrArg some (st_put hk)
  have hd : dmOk m = true := decide_eq_true ⟨hm, Nat.lt_of_lt_of_le (m := 1000000000000000000000000000000000000000000000000000000000000) (by omega) (by decide +kernel)⟩
  have dm : ∀ S (v : Int), divmodD S [.int v, .int m] = some (.tup [.int (v / m), .int (v % m)]) := fun S v => by simp only [divmodD, hd, if_true]
  rw [D_dip_k01]
  unfold fnD startE
  simp only [List.map_cons, List.map_nil, List.length_cons, List.length_nil, Nat.reduceAdd, Nat.reduceSub, List.replicate, List.cons_append, List.nil_append, List.append_nil, Nat.zero_add]
  unfold B_dip_k01
  refine seq_gen fun N_ hN_ => ?_
  try simp -implicitDefEqProofs only [eVar, eC, eOp, eUn, aNil, aCons, eSeq, eCall, eFn, bBl, onB_bl, bTru, eNotT, bAnd, bOr, bNot, eAnd, eOr, eIf, bChain, iteB_t, iteB_f, sNil, sSeq, sRet, sDrop, sAsg, sIf, sBreak, sCont, sAsgG, sPar2, sPar3, sSetIx, sPairSet, sAppend, onL, onI_i, onT_s, onTu_t, onCe_c, on1_, on2_, on3_, onLst_l, onOb_o, onSeq_l, onSeq_r, onSeq_c, lkD_s, lkD_n, lkO_s, lkO_n, finO, sFldD, setFD, eProp, isOb_obj, eMake, eMakeK, eMakeL, eLc, eNew, eSl, oNone, oSome, eOpM, eCallM, eCm, eCmK, eOpT, jNil, jCons, eJoin, aStar, sCalm, sFor, iRange1, iSeq, iTupD, iStrD, iEnumT, tName, tTup_t, tsCons_c, tsNil_n, any_t, onS_some, look0, look1, look2, look3, look4, look5, look6, look7, look8, look9, look10, look11, look12, look13, look14, look15, bYes, wipeE, List.set_cons_zero, List.set_cons_succ, List.length_cons, List.length_nil, List.append_nil, List.nil_append, List.cons_append, List.append_assoc, Nat.zero_add, Nat.reduceAdd, Nat.reduceSub, Nat.reduceEqDiff, Nat.reduceLT, Nat.reduceLeDiff, Int.reduceNeg, true_and, and_true, and_self, if_true, if_false, Bool.not_true, Bool.not_false, Bool.false_eq_true, reduceIte, reduceCtorEq, decide_true, decide_false, ltD_int, leD_int, gtD_int, geD_int, subD_int, addD_int, intOf_int, absD_int, eqD_int, eqD_str, neD_str, neD_int, isN_non, truD_bl, eqD_bl, neD_bl, Option.map_some, Option.bind_some, small_0, small_1, small_2, small_3, small_4, small_5, small_6, small_7, small_8, eCaught, onX_e, sRaise, eLm, onLs_l, eFnE, eXg, onV_v, sWish, eDic0, eDisp, eChain, finX_self, st_app, st_len, fin_st, fin_stT, fin_self, ite_self, i2, s2]
  subst hN_
  refine seq_gen fun N_ hN_ => ?_
  try simp -implicitDefEqProofs only [eVar, eC, eOp, eUn, aNil, aCons, eSeq, eCall, eFn, bBl, onB_bl, bTru, eNotT, bAnd, bOr, bNot, eAnd, eOr, eIf, bChain, iteB_t, iteB_f, sNil, sSeq, sRet, sDrop, sAsg, sIf, sBreak, sCont, sAsgG, sPar2, sPar3, sSetIx, sPairSet, sAppend, onL, onI_i, onT_s, onTu_t, onCe_c, on1_, on2_, on3_, onLst_l, onOb_o, onSeq_l, onSeq_r, onSeq_c, lkD_s, lkD_n, lkO_s, lkO_n, finO, sFldD, setFD, eProp, isOb_obj, eMake, eMakeK, eMakeL, eLc, eNew, eSl, oNone, oSome, eOpM, eCallM, eCm, eCmK, eOpT, jNil, jCons, eJoin, aStar, sCalm, sFor, iRange1, iSeq, iTupD, iStrD, iEnumT, tName, tTup_t, tsCons_c, tsNil_n, any_t, onS_some, look0, look1, look2, look3, look4, look5, look6, look7, look8, look9, look10, look11, look12, look13, look14, look15, bYes, wipeE, List.set_cons_zero, List.set_cons_succ, List.length_cons, List.length_nil, List.append_nil, List.nil_append, List.cons_append, List.append_assoc, Nat.zero_add, Nat.reduceAdd, Nat.reduceSub, Nat.reduceEqDiff, Nat.reduceLT, Nat.reduceLeDiff, Int.reduceNeg, true_and, and_true, and_self, if_true, if_false, Bool.not_true, Bool.not_false, Bool.false_eq_true, reduceIte, reduceCtorEq, decide_true, decide_false, ltD_int, leD_int, gtD_int, geD_int, subD_int, addD_int, intOf_int, absD_int, eqD_int, eqD_str, neD_str, neD_int, isN_non, truD_bl, eqD_bl, neD_bl, Option.map_some, Option.bind_some, small_0, small_1, small_2, small_3, small_4, small_5, small_6, small_7, small_8, eCaught, onX_e, sRaise, eLm, onLs_l, eFnE, eXg, onV_v, sWish, eDic0, eDisp, eChain, finX_self, st_app, st_len, fin_st, fin_stT, fin_self, ite_self, i1]
  refine iteB_dec (fun hb => ?_) (fun hb => ?_)
  · try simp -implicitDefEqProofs only [eVar, eC, eOp, eUn, aNil, aCons, eSeq, eCall, eFn, bBl, onB_bl, bTru, eNotT, bAnd, bOr, bNot, eAnd, eOr, eIf, bChain, iteB_t, iteB_f, sNil, sSeq, sRet, sDrop, sAsg, sIf, sBreak, sCont, sAsgG, sPar2, sPar3, sSetIx, sPairSet, sAppend, onL, onI_i, onT_s, onTu_t, onCe_c, on1_, on2_, on3_, onLst_l, onOb_o, onSeq_l, onSeq_r, onSeq_c, lkD_s, lkD_n, lkO_s, lkO_n, finO, sFldD, setFD, eProp, isOb_obj, eMake, eMakeK, eMakeL, eLc, eNew, eSl, oNone, oSome, eOpM, eCallM, eCm, eCmK, eOpT, jNil, jCons, eJoin, aStar, sCalm, sFor, iRange1, iSeq, iTupD, iStrD, iEnumT, tName, tTup_t, tsCons_c, tsNil_n, any_t, onS_some, look0, look1, look2, look3, look4, look5, look6, look7, look8, look9, look10, look11, look12, look13, look14, look15, bYes, wipeE, List.set_cons_zero, List.set_cons_succ, List.length_cons, List.length_nil, List.append_nil, List.nil_append, List.cons_append, List.append_assoc, Nat.zero_add, Nat.reduceAdd, Nat.reduceSub, Nat.reduceEqDiff, Nat.reduceLT, Nat.reduceLeDiff, Int.reduceNeg, true_and, and_true, and_self, if_true, if_false, Bool.not_true, Bool.not_false, Bool.false_eq_true, reduceIte, reduceCtorEq, decide_true, decide_false, ltD_int, leD_int, gtD_int, geD_int, subD_int, addD_int, intOf_int, absD_int, eqD_int, eqD_str, neD_str, neD_int, isN_non, truD_bl, eqD_bl, neD_bl, Option.map_some, Option.bind_some, small_0, small_1, small_2, small_3, small_4, small_5, small_6, small_7, small_8, eCaught, onX_e, sRaise, eLm, onLs_l, eFnE, eXg, onV_v, sWish, eDic0, eDisp, eChain, finX_self, st_app, st_len, fin_st, fin_stT, fin_self, ite_self, i1, dm, s1]
    exact h _ _ (Int.emod_nonneg _ (by omega)) (Int.emod_lt_of_pos _ hm) ⟨a0, a1, Int.ediv_nonneg b0 (by omega), by show 0 ≤ c + 1; omega, by show c + 1 ≤ n + 1; omega⟩
  · subst hN_
    refine seq_gen fun N_ hN_ => ?_
    have e1 : mulOk a 69621 = true := mulOk_l a0 (by omega)
    have e2 : mulOk 31 (c + 1) = true := mulOk_l (by omega) (by omega)
    have e3 : mulOk (31 * (c + 1)) (c + 1) = true := mulOk_r (by omega) (by omega)
    try simp -implicitDefEqProofs only [eVar, eC, eOp, eUn, aNil, aCons, eSeq, eCall, eFn, bBl, onB_bl, bTru, eNotT, bAnd, bOr, bNot, eAnd, eOr, eIf, bChain, iteB_t, iteB_f, sNil, sSeq, sRet, sDrop, sAsg, sIf, sBreak, sCont, sAsgG, sPar2, sPar3, sSetIx, sPairSet, sAppend, onL, onI_i, onT_s, onTu_t, onCe_c, on1_, on2_, on3_, onLst_l, onOb_o, onSeq_l, onSeq_r, onSeq_c, lkD_s, lkD_n, lkO_s, lkO_n, finO, sFldD, setFD, eProp, isOb_obj, eMake, eMakeK, eMakeL, eLc, eNew, eSl, oNone, oSome, eOpM, eCallM, eCm, eCmK, eOpT, jNil, jCons, eJoin, aStar, sCalm, sFor, iRange1, iSeq, iTupD, iStrD, iEnumT, tName, tTup_t, tsCons_c, tsNil_n, any_t, onS_some, look0, look1, look2, look3, look4, look5, look6, look7, look8, look9, look10, look11, look12, look13, look14, look15, bYes, wipeE, List.set_cons_zero, List.set_cons_succ, List.length_cons, List.length_nil, List.append_nil, List.nil_append, List.cons_append, List.append_assoc, Nat.zero_add, Nat.reduceAdd, Nat.reduceSub, Nat.reduceEqDiff, Nat.reduceLT, Nat.reduceLeDiff, Int.reduceNeg, true_and, and_true, and_self, if_true, if_false, Bool.not_true, Bool.not_false, Bool.false_eq_true, reduceIte, reduceCtorEq, decide_true, decide_false, ltD_int, leD_int, gtD_int, geD_int, subD_int, addD_int, intOf_int, absD_int, eqD_int, eqD_str, neD_str, neD_int, isN_non, truD_bl, eqD_bl, neD_bl, Option.map_some, Option.bind_some, small_0, small_1, small_2, small_3, small_4, small_5, small_6, small_7, small_8, eCaught, onX_e, sRaise, eLm, onLs_l, eFnE, eXg, onV_v, sWish, eDic0, eDisp, eChain, finX_self, st_app, st_len, fin_st, fin_stT, fin_self, ite_self, i0, i2, mulD_int e1, mulD_int e2, mulD_int e3, modD_int (show (0 : Int) < 2147483629 by decide), s0]
    subst hN_
    refine seq_gen fun N_ hN_ => ?_
    have y1 : 0 ≤ (a * 69621 + 31 * (c + 1) * (c + 1) + 40503) % 2147483629 := Int.emod_nonneg _ (by omega)
    have y2 : (a * 69621 + 31 * (c + 1) * (c + 1) + 40503) % 2147483629 < 2147483629 := Int.emod_lt_of_pos _ (by omega)
    generalize (a * 69621 + 31 * (c + 1) * (c + 1) + 40503) % 2147483629 = y at y1 y2
    have e4 : mulOk y (y % 30011 + 17) = true := mulOk_l y1 (by omega)
    try simp -implicitDefEqProofs only [eVar, eC, eOp, eUn, aNil, aCons, eSeq, eCall, eFn, bBl, onB_bl, bTru, eNotT, bAnd, bOr, bNot, eAnd, eOr, eIf, bChain, iteB_t, iteB_f, sNil, sSeq, sRet, sDrop, sAsg, sIf, sBreak, sCont, sAsgG, sPar2, sPar3, sSetIx, sPairSet, sAppend, onL, onI_i, onT_s, onTu_t, onCe_c, on1_, on2_, on3_, onLst_l, onOb_o, onSeq_l, onSeq_r, onSeq_c, lkD_s, lkD_n, lkO_s, lkO_n, finO, sFldD, setFD, eProp, isOb_obj, eMake, eMakeK, eMakeL, eLc, eNew, eSl, oNone, oSome, eOpM, eCallM, eCm, eCmK, eOpT, jNil, jCons, eJoin, aStar, sCalm, sFor, iRange1, iSeq, iTupD, iStrD, iEnumT, tName, tTup_t, tsCons_c, tsNil_n, any_t, onS_some, look0, look1, look2, look3, look4, look5, look6, look7, look8, look9, look10, look11, look12, look13, look14, look15, bYes, wipeE, List.set_cons_zero, List.set_cons_succ, List.length_cons, List.length_nil, List.append_nil, List.nil_append, List.cons_append, List.append_assoc, Nat.zero_add, Nat.reduceAdd, Nat.reduceSub, Nat.reduceEqDiff, Nat.reduceLT, Nat.reduceLeDiff, Int.reduceNeg, true_and, and_true, and_self, if_true, if_false, Bool.not_true, Bool.not_false, Bool.false_eq_true, reduceIte, reduceCtorEq, decide_true, decide_false, ltD_int, leD_int, gtD_int, geD_int, subD_int, addD_int, intOf_int, absD_int, eqD_int, eqD_str, neD_str, neD_int, isN_non, truD_bl, eqD_bl, neD_bl, Option.map_some, Option.bind_some, small_0, small_1, small_2, small_3, small_4, small_5, small_6, small_7, small_8, eCaught, onX_e, sRaise, eLm, onLs_l, eFnE, eXg, onV_v, sWish, eDic0, eDisp, eChain, finX_self, st_app, st_len, fin_st, fin_stT, fin_self, ite_self, i0, modD_int (show (0 : Int) < 30011 by decide), mulD_int e4, modD_int (show (0 : Int) < 2147483587 by decide)]
    subst hN_
    try simp -implicitDefEqProofs only [eVar, eC, eOp, eUn, aNil, aCons, eSeq, eCall, eFn, bBl, onB_bl, bTru, eNotT, bAnd, bOr, bNot, eAnd, eOr, eIf, bChain, iteB_t, iteB_f, sNil, sSeq, sRet, sDrop, sAsg, sIf, sBreak, sCont, sAsgG, sPar2, sPar3, sSetIx, sPairSet, sAppend, onL, onI_i, onT_s, onTu_t, onCe_c, on1_, on2_, on3_, onLst_l, onOb_o, onSeq_l, onSeq_r, onSeq_c, lkD_s, lkD_n, lkO_s, lkO_n, finO, sFldD, setFD, eProp, isOb_obj, eMake, eMakeK, eMakeL, eLc, eNew, eSl, oNone, oSome, eOpM, eCallM, eCm, eCmK, eOpT, jNil, jCons, eJoin, aStar, sCalm, sFor, iRange1, iSeq, iTupD, iStrD, iEnumT, tName, tTup_t, tsCons_c, tsNil_n, any_t, onS_some, look0, look1, look2, look3, look4, look5, look6, look7, look8, look9, look10, look11, look12, look13, look14, look15, bYes, wipeE, List.set_cons_zero, List.set_cons_succ, List.length_cons, List.length_nil, List.append_nil, List.nil_append, List.cons_append, List.append_assoc, Nat.zero_add, Nat.reduceAdd, Nat.reduceSub, Nat.reduceEqDiff, Nat.reduceLT, Nat.reduceLeDiff, Int.reduceNeg, true_and, and_true, and_self, if_true, if_false, Bool.not_true, Bool.not_false, Bool.false_eq_true, reduceIte, reduceCtorEq, decide_true, decide_false, ltD_int, leD_int, gtD_int, geD_int, subD_int, addD_int, intOf_int, absD_int, eqD_int, eqD_str, neD_str, neD_int, isN_non, truD_bl, eqD_bl, neD_bl, Option.map_some, Option.bind_some, small_0, small_1, small_2, small_3, small_4, small_5, small_6, small_7, small_8, eCaught, onX_e, sRaise, eLm, onLs_l, eFnE, eXg, onV_v, sWish, eDic0, eDisp, eChain, finX_self, st_app, st_len, fin_st, fin_stT, fin_self, ite_self, fdivD_int (show divOk ((y * (y % 30011 + 17)) % 2147483587) 64 = true from rfl), modD_int hm]
    exact h _ _ (Int.emod_nonneg _ (by omega)) (Int.emod_lt_of_pos _ hm) ⟨y1, y2, by show 0 ≤ b; omega, by show 0 ≤ c + 1; omega, by show c + 1 ≤ n + 1; omega⟩
/-- the well of a cell: a new one, behind all others -/
theorem well_ok {S : WS} {ns : List Int} {i : Int} (h0 : 0 ≤ i) (h1 : i < 1000000) (h : ∀ w : W, Good 0 w → q (.cell S.length) (S ++ [w.d])) : G_well_k01 A [.scr ns, .int i] S q x := by
  have hp : ∀ i : Int, posR i 2147483629 = true := fun _ => rfl
  have hpw : powOk 10 18 = true := by decide +kernel
  have he : ((10 : Int) ^ (18 : Int).toNat) = 1000000000000000000 := by decide +kernel
  have e1 : mulOk 90017 (i + 3) = true := mulOk_l (by omega) (by omega)
  have e2 : mulOk (90017 * (i + 3)) (i + 5) = true := mulOk_l (by omega) (by omega)
  have ln : lenD S [.scr ns] = some (.int (ns.length : Int)) := by simp [lenD, itemsD]
  rw [D_well_k01]
  unfold fnN startE
  simp only [List.map_cons, List.map_nil, List.length_cons, List.length_nil, Nat.reduceAdd, Nat.reduceSub, List.replicate, List.cons_append, List.nil_append]
  unfold B_well_k01
  have last : ∀ (v : Int) (o : Option D), (sRet (eNew (aCons (eOp modD (eCall intOfD (aCons (eVar 2) (aNil))) (eC (.int 2147483629))) (aCons (eIf (bBl (eOp geD (eCall absD (aCons (eVar 2) (aNil))) (eOp powD (eC (.int 10)) (eC (.int 18))))) (eCall absD (aCons (eVar 2) (aNil))) (eC (.int 0))) (aCons (eC (.int 0)) (aNil)))))) [some (.scr ns), some (.int i), some (.int v), o] S
      ⟨fun _ _ => False, fun d S' => finN S.length d S' q, fun _ _ => False, fun _ _ => False, fun e _ S' => finX S.length e S' x⟩ := fun v o => by
    have fn : ∀ c : Cell, finN S.length (.cell S.length) (S ++ [c]) q = q (.cell S.length) (S ++ [c]) := fun c => by simp [finN, onS]
    try simp -implicitDefEqProofs only [eVar, eC, eOp, eUn, aNil, aCons, eSeq, eCall, eFn, bBl, onB_bl, bTru, eNotT, bAnd, bOr, bNot, eAnd, eOr, eIf, bChain, iteB_t, iteB_f, sNil, sSeq, sRet, sDrop, sAsg, sIf, sBreak, sCont, sAsgG, sPar2, sPar3, sSetIx, sPairSet, sAppend, onL, onI_i, onT_s, onTu_t, onCe_c, on1_, on2_, on3_, onLst_l, onOb_o, onSeq_l, onSeq_r, onSeq_c, lkD_s, lkD_n, lkO_s, lkO_n, finO, sFldD, setFD, eProp, isOb_obj, eMake, eMakeK, eMakeL, eLc, eNew, eSl, oNone, oSome, eOpM, eCallM, eCm, eCmK, eOpT, jNil, jCons, eJoin, aStar, sCalm, sFor, iRange1, iSeq, iTupD, iStrD, iEnumT, tName, tTup_t, tsCons_c, tsNil_n, any_t, onS_some, look0, look1, look2, look3, look4, look5, look6, look7, look8, look9, look10, look11, look12, look13, look14, look15, bYes, wipeE, List.set_cons_zero, List.set_cons_succ, List.length_cons, List.length_nil, List.append_nil, List.nil_append, List.cons_append, List.append_assoc, Nat.zero_add, Nat.reduceAdd, Nat.reduceSub, Nat.reduceEqDiff, Nat.reduceLT, Nat.reduceLeDiff, Int.reduceNeg, true_and, and_true, and_self, if_true, if_false, Bool.not_true, Bool.not_false, Bool.false_eq_true, reduceIte, reduceCtorEq, decide_true, decide_false, ltD_int, leD_int, gtD_int, geD_int, subD_int, addD_int, intOf_int, absD_int, eqD_int, eqD_str, neD_str, neD_int, isN_non, truD_bl, eqD_bl, neD_bl, Option.map_some, Option.bind_some, small_0, small_1, small_2, small_3, small_4, small_5, small_6, small_7, small_8, eCaught, onX_e, sRaise, eLm, onLs_l, eFnE, eXg, onV_v, sWish, eDic0, eDisp, eChain, finX_self, st_app, st_len, fin_st, fin_stT, fin_self, ite_self, modD_int (show (0 : Int) < 2147483629 by decide), powD_int hpw, he]
    refine iteB_dec (fun hv => ?_) (fun hv => ?_)
    · try simp -implicitDefEqProofs only [eVar, eC, eOp, eUn, aNil, aCons, eSeq, eCall, eFn, bBl, onB_bl, bTru, eNotT, bAnd, bOr, bNot, eAnd, eOr, eIf, bChain, iteB_t, iteB_f, sNil, sSeq, sRet, sDrop, sAsg, sIf, sBreak, sCont, sAsgG, sPar2, sPar3, sSetIx, sPairSet, sAppend, onL, onI_i, onT_s, onTu_t, onCe_c, on1_, on2_, on3_, onLst_l, onOb_o, onSeq_l, onSeq_r, onSeq_c, lkD_s, lkD_n, lkO_s, lkO_n, finO, sFldD, setFD, eProp, isOb_obj, eMake, eMakeK, eMakeL, eLc, eNew, eSl, oNone, oSome, eOpM, eCallM, eCm, eCmK, eOpT, jNil, jCons, eJoin, aStar, sCalm, sFor, iRange1, iSeq, iTupD, iStrD, iEnumT, tName, tTup_t, tsCons_c, tsNil_n, any_t, onS_some, look0, look1, look2, look3, look4, look5, look6, look7, look8, look9, look10, look11, look12, look13, look14, look15, bYes, wipeE, List.set_cons_zero, List.set_cons_succ, List.length_cons, List.length_nil, List.append_nil, List.nil_append, List.cons_append, List.append_assoc, Nat.zero_add, Nat.reduceAdd, Nat.reduceSub, Nat.reduceEqDiff, Nat.reduceLT, Nat.reduceLeDiff, Int.reduceNeg, true_and, and_true, and_self, if_true, if_false, Bool.not_true, Bool.not_false, Bool.false_eq_true, reduceIte, reduceCtorEq, decide_true, decide_false, ltD_int, leD_int, gtD_int, geD_int, subD_int, addD_int, intOf_int, absD_int, eqD_int, eqD_str, neD_str, neD_int, isN_non, truD_bl, eqD_bl, neD_bl, Option.map_some, Option.bind_some, small_0, small_1, small_2, small_3, small_4, small_5, small_6, small_7, small_8, eCaught, onX_e, sRaise, eLm, onLs_l, eFnE, eXg, onV_v, sWish, eDic0, eDisp, eChain, finX_self, st_app, st_len, fin_st, fin_stT, fin_self, ite_self, fn, D.cleanL, D.clean, Bool.and_self]
      exact h ⟨v % 2147483629, if v < 0 then -v else v, 0⟩ ⟨Int.emod_nonneg _ (by omega), Int.emod_lt_of_pos _ (by omega), by show 0 ≤ (if v < 0 then -v else v); split <;> omega, Int.le_refl _, Int.le_refl _⟩
    · try simp -implicitDefEqProofs only [eVar, eC, eOp, eUn, aNil, aCons, eSeq, eCall, eFn, bBl, onB_bl, bTru, eNotT, bAnd, bOr, bNot, eAnd, eOr, eIf, bChain, iteB_t, iteB_f, sNil, sSeq, sRet, sDrop, sAsg, sIf, sBreak, sCont, sAsgG, sPar2, sPar3, sSetIx, sPairSet, sAppend, onL, onI_i, onT_s, onTu_t, onCe_c, on1_, on2_, on3_, onLst_l, onOb_o, onSeq_l, onSeq_r, onSeq_c, lkD_s, lkD_n, lkO_s, lkO_n, finO, sFldD, setFD, eProp, isOb_obj, eMake, eMakeK, eMakeL, eLc, eNew, eSl, oNone, oSome, eOpM, eCallM, eCm, eCmK, eOpT, jNil, jCons, eJoin, aStar, sCalm, sFor, iRange1, iSeq, iTupD, iStrD, iEnumT, tName, tTup_t, tsCons_c, tsNil_n, any_t, onS_some, look0, look1, look2, look3, look4, look5, look6, look7, look8, look9, look10, look11, look12, look13, look14, look15, bYes, wipeE, List.set_cons_zero, List.set_cons_succ, List.length_cons, List.length_nil, List.append_nil, List.nil_append, List.cons_append, List.append_assoc, Nat.zero_add, Nat.reduceAdd, Nat.reduceSub, Nat.reduceEqDiff, Nat.reduceLT, Nat.reduceLeDiff, Int.reduceNeg, true_and, and_true, and_self, if_true, if_false, Bool.not_true, Bool.not_false, Bool.false_eq_true, reduceIte, reduceCtorEq, decide_true, decide_false, ltD_int, leD_int, gtD_int, geD_int, subD_int, addD_int, intOf_int, absD_int, eqD_int, eqD_str, neD_str, neD_int, isN_non, truD_bl, eqD_bl, neD_bl, Option.map_some, Option.bind_some, small_0, small_1, small_2, small_3, small_4, small_5, small_6, small_7, small_8, eCaught, onX_e, sRaise, eLm, onLs_l, eFnE, eXg, onV_v, sWish, eDic0, eDisp, eChain, finX_self, st_app, st_len, fin_st, fin_stT, fin_self, ite_self, fn, D.cleanL, D.clean, Bool.and_self]
      exact h ⟨v % 2147483629, 0, 0⟩ ⟨Int.emod_nonneg _ (by omega), Int.emod_lt_of_pos _ (by omega), Int.le_refl _, Int.le_refl _, Int.le_refl _⟩
  refine seq_gen fun N_ hN_ => ?_
  try simp -implicitDefEqProofs only [eVar, eC, eOp, eUn, aNil, aCons, eSeq, eCall, eFn, bBl, onB_bl, bTru, eNotT, bAnd, bOr, bNot, eAnd, eOr, eIf, bChain, iteB_t, iteB_f, sNil, sSeq, sRet, sDrop, sAsg, sIf, sBreak, sCont, sAsgG, sPar2, sPar3, sSetIx, sPairSet, sAppend, onL, onI_i, onT_s, onTu_t, onCe_c, on1_, on2_, on3_, onLst_l, onOb_o, onSeq_l, onSeq_r, onSeq_c, lkD_s, lkD_n, lkO_s, lkO_n, finO, sFldD, setFD, eProp, isOb_obj, eMake, eMakeK, eMakeL, eLc, eNew, eSl, oNone, oSome, eOpM, eCallM, eCm, eCmK, eOpT, jNil, jCons, eJoin, aStar, sCalm, sFor, iRange1, iSeq, iTupD, iStrD, iEnumT, tName, tTup_t, tsCons_c, tsNil_n, any_t, onS_some, look0, look1, look2, look3, look4, look5, look6, look7, look8, look9, look10, look11, look12, look13, look14, look15, bYes, wipeE, List.set_cons_zero, List.set_cons_succ, List.length_cons, List.length_nil, List.append_nil, List.nil_append, List.cons_append, List.append_assoc, Nat.zero_add, Nat.reduceAdd, Nat.reduceSub, Nat.reduceEqDiff, Nat.reduceLT, Nat.reduceLeDiff, Int.reduceNeg, true_and, and_true, and_self, if_true, if_false, Bool.not_true, Bool.not_false, Bool.false_eq_true, reduceIte, reduceCtorEq, decide_true, decide_false, ltD_int, leD_int, gtD_int, geD_int, subD_int, addD_int, intOf_int, absD_int, eqD_int, eqD_str, neD_str, neD_int, isN_non, truD_bl, eqD_bl, neD_bl, Option.map_some, Option.bind_some, small_0, small_1, small_2, small_3, small_4, small_5, small_6, small_7, small_8, eCaught, onX_e, sRaise, eLm, onLs_l, eFnE, eXg, onV_v, sWish, eDic0, eDisp, eChain, finX_self, st_app, st_len, fin_st, fin_stT, fin_self, ite_self, ln]
  refine iteB_dec (fun hi => ?_) (fun hi => ?_)
  · have ha : atI ns i = some (ns[i.toNat]'(by omega)) := by
      rw [atI_nat h0 hi]
      exact List.getElem?_eq_getElem _
    have hx : ixD S (.scr ns) (.int i) = some (.int (ns[i.toNat]'(by omega))) := by simp only [ixD, ha, Option.map_some]
    try simp -implicitDefEqProofs only [eVar, eC, eOp, eUn, aNil, aCons, eSeq, eCall, eFn, bBl, onB_bl, bTru, eNotT, bAnd, bOr, bNot, eAnd, eOr, eIf, bChain, iteB_t, iteB_f, sNil, sSeq, sRet, sDrop, sAsg, sIf, sBreak, sCont, sAsgG, sPar2, sPar3, sSetIx, sPairSet, sAppend, onL, onI_i, onT_s, onTu_t, onCe_c, on1_, on2_, on3_, onLst_l, onOb_o, onSeq_l, onSeq_r, onSeq_c, lkD_s, lkD_n, lkO_s, lkO_n, finO, sFldD, setFD, eProp, isOb_obj, eMake, eMakeK, eMakeL, eLc, eNew, eSl, oNone, oSome, eOpM, eCallM, eCm, eCmK, eOpT, jNil, jCons, eJoin, aStar, sCalm, sFor, iRange1, iSeq, iTupD, iStrD, iEnumT, tName, tTup_t, tsCons_c, tsNil_n, any_t, onS_some, look0, look1, look2, look3, look4, look5, look6, look7, look8, look9, look10, look11, look12, look13, look14, look15, bYes, wipeE, List.set_cons_zero, List.set_cons_succ, List.length_cons, List.length_nil, List.append_nil, List.nil_append, List.cons_append, List.append_assoc, Nat.zero_add, Nat.reduceAdd, Nat.reduceSub, Nat.reduceEqDiff, Nat.reduceLT, Nat.reduceLeDiff, Int.reduceNeg, true_and, and_true, and_self, if_true, if_false, Bool.not_true, Bool.not_false, Bool.false_eq_true, reduceIte, reduceCtorEq, decide_true, decide_false, ltD_int, leD_int, gtD_int, geD_int, subD_int, addD_int, intOf_int, absD_int, eqD_int, eqD_str, neD_str, neD_int, isN_non, truD_bl, eqD_bl, neD_bl, Option.map_some, Option.bind_some, small_0, small_1, small_2, small_3, small_4, small_5, small_6, small_7, small_8, eCaught, onX_e, sRaise, eLm, onLs_l, eFnE, eXg, onV_v, sWish, eDic0, eDisp, eChain, finX_self, st_app, st_len, fin_st, fin_stT, fin_self, ite_self, hx]
    subst hN_
    refine seq_gen fun N_ hN_ => ?_
    try simp -implicitDefEqProofs only [eVar, eC, eOp, eUn, aNil, aCons, eSeq, eCall, eFn, bBl, onB_bl, bTru, eNotT, bAnd, bOr, bNot, eAnd, eOr, eIf, bChain, iteB_t, iteB_f, sNil, sSeq, sRet, sDrop, sAsg, sIf, sBreak, sCont, sAsgG, sPar2, sPar3, sSetIx, sPairSet, sAppend, onL, onI_i, onT_s, onTu_t, onCe_c, on1_, on2_, on3_, onLst_l, onOb_o, onSeq_l, onSeq_r, onSeq_c, lkD_s, lkD_n, lkO_s, lkO_n, finO, sFldD, setFD, eProp, isOb_obj, eMake, eMakeK, eMakeL, eLc, eNew, eSl, oNone, oSome, eOpM, eCallM, eCm, eCmK, eOpT, jNil, jCons, eJoin, aStar, sCalm, sFor, iRange1, iSeq, iTupD, iStrD, iEnumT, tName, tTup_t, tsCons_c, tsNil_n, any_t, onS_some, look0, look1, look2, look3, look4, look5, look6, look7, look8, look9, look10, look11, look12, look13, look14, look15, bYes, wipeE, List.set_cons_zero, List.set_cons_succ, List.length_cons, List.length_nil, List.append_nil, List.nil_append, List.cons_append, List.append_assoc, Nat.zero_add, Nat.reduceAdd, Nat.reduceSub, Nat.reduceEqDiff, Nat.reduceLT, Nat.reduceLeDiff, Int.reduceNeg, true_and, and_true, and_self, if_true, if_false, Bool.not_true, Bool.not_false, Bool.false_eq_true, reduceIte, reduceCtorEq, decide_true, decide_false, ltD_int, leD_int, gtD_int, geD_int, subD_int, addD_int, intOf_int, absD_int, eqD_int, eqD_str, neD_str, neD_int, isN_non, truD_bl, eqD_bl, neD_bl, Option.map_some, Option.bind_some, small_0, small_1, small_2, small_3, small_4, small_5, small_6, small_7, small_8, eCaught, onX_e, sRaise, eLm, onLs_l, eFnE, eXg, onV_v, sWish, eDic0, eDisp, eChain, finX_self, st_app, st_len, fin_st, fin_stT, fin_self, ite_self, ln, show decide ((ns.length : Int) ≤ i) = false from decide_eq_false (by omega)]
    subst hN_
    exact last _ _
  · try simp -implicitDefEqProofs only [eVar, eC, eOp, eUn, aNil, aCons, eSeq, eCall, eFn, bBl, onB_bl, bTru, eNotT, bAnd, bOr, bNot, eAnd, eOr, eIf, bChain, iteB_t, iteB_f, sNil, sSeq, sRet, sDrop, sAsg, sIf, sBreak, sCont, sAsgG, sPar2, sPar3, sSetIx, sPairSet, sAppend, onL, onI_i, onT_s, onTu_t, onCe_c, on1_, on2_, on3_, onLst_l, onOb_o, onSeq_l, onSeq_r, onSeq_c, lkD_s, lkD_n, lkO_s, lkO_n, finO, sFldD, setFD, eProp, isOb_obj, eMake, eMakeK, eMakeL, eLc, eNew, eSl, oNone, oSome, eOpM, eCallM, eCm, eCmK, eOpT, jNil, jCons, eJoin, aStar, sCalm, sFor, iRange1, iSeq, iTupD, iStrD, iEnumT, tName, tTup_t, tsCons_c, tsNil_n, any_t, onS_some, look0, look1, look2, look3, look4, look5, look6, look7, look8, look9, look10, look11, look12, look13, look14, look15, bYes, wipeE, List.set_cons_zero, List.set_cons_succ, List.length_cons, List.length_nil, List.append_nil, List.nil_append, List.cons_append, List.append_assoc, Nat.zero_add, Nat.reduceAdd, Nat.reduceSub, Nat.reduceEqDiff, Nat.reduceLT, Nat.reduceLeDiff, Int.reduceNeg, true_and, and_true, and_self, if_true, if_false, Bool.not_true, Bool.not_false, Bool.false_eq_true, reduceIte, reduceCtorEq, decide_true, decide_false, ltD_int, leD_int, gtD_int, geD_int, subD_int, addD_int, intOf_int, absD_int, eqD_int, eqD_str, neD_str, neD_int, isN_non, truD_bl, eqD_bl, neD_bl, Option.map_some, Option.bind_some, small_0, small_1, small_2, small_3, small_4, small_5, small_6, small_7, small_8, eCaught, onX_e, sRaise, eLm, onLs_l, eFnE, eXg, onV_v, sWish, eDic0, eDisp, eChain, finX_self, st_app, st_len, fin_st, fin_stT, fin_self, ite_self, mulD_int e1, mulD_int e2]
    subst hN_
    refine seq_gen fun N_ hN_ => ?_
    try simp -implicitDefEqProofs only [eVar, eC, eOp, eUn, aNil, aCons, eSeq, eCall, eFn, bBl, onB_bl, bTru, eNotT, bAnd, bOr, bNot, eAnd, eOr, eIf, bChain, iteB_t, iteB_f, sNil, sSeq, sRet, sDrop, sAsg, sIf, sBreak, sCont, sAsgG, sPar2, sPar3, sSetIx, sPairSet, sAppend, onL, onI_i, onT_s, onTu_t, onCe_c, on1_, on2_, on3_, onLst_l, onOb_o, onSeq_l, onSeq_r, onSeq_c, lkD_s, lkD_n, lkO_s, lkO_n, finO, sFldD, setFD, eProp, isOb_obj, eMake, eMakeK, eMakeL, eLc, eNew, eSl, oNone, oSome, eOpM, eCallM, eCm, eCmK, eOpT, jNil, jCons, eJoin, aStar, sCalm, sFor, iRange1, iSeq, iTupD, iStrD, iEnumT, tName, tTup_t, tsCons_c, tsNil_n, any_t, onS_some, look0, look1, look2, look3, look4, look5, look6, look7, look8, look9, look10, look11, look12, look13, look14, look15, bYes, wipeE, List.set_cons_zero, List.set_cons_succ, List.length_cons, List.length_nil, List.append_nil, List.nil_append, List.cons_append, List.append_assoc, Nat.zero_add, Nat.reduceAdd, Nat.reduceSub, Nat.reduceEqDiff, Nat.reduceLT, Nat.reduceLeDiff, Int.reduceNeg, true_and, and_true, and_self, if_true, if_false, Bool.not_true, Bool.not_false, Bool.false_eq_true, reduceIte, reduceCtorEq, decide_true, decide_false, ltD_int, leD_int, gtD_int, geD_int, subD_int, addD_int, intOf_int, absD_int, eqD_int, eqD_str, neD_str, neD_int, isN_non, truD_bl, eqD_bl, neD_bl, Option.map_some, Option.bind_some, small_0, small_1, small_2, small_3, small_4, small_5, small_6, small_7, small_8, eCaught, onX_e, sRaise, eLm, onLs_l, eFnE, eXg, onV_v, sWish, eDic0, eDisp, eChain, finX_self, st_app, st_len, fin_st, fin_stT, fin_self, ite_self, ln, show decide ((ns.length : Int) ≤ i) = true from decide_eq_true (by omega)]
    subst hN_
    generalize 90017 * (i + 3) * (i + 5) = v
    have go : ∀ (ms : List Int) (v : Int) (o : Option D) (Q : Env → WS → Prop) (k : Kt), (∀ v o, Q [some (.scr ns), some (.int i), some (.int v), o] S) → k.nx = Q →
        forD any_ (tName 3) (sAsg 2 (eOp modD (eCall intOfD (aCons (eOp addD (eOp mulD (eVar 2) (eC (.int 52711))) (eVar 3)) (aNil))) (eC (.int 2147483629)))) (ms.map D.int) [some (.scr ns), some (.int i), some (.int v), o] S k := fun ms => by
      induction ms with
      | nil =>
        intro v o Q k hQ hk
        refine ⟨trivial, ?_⟩
        rw [hk]
        exact hQ _ _
      | cons m ms ih =>
        intro v o Q k hQ hk
        have e3 : mulOk v 52711 = true := mulOk_r (by decide) (by decide)
        rw [List.map_cons, for_cons]
        try simp -implicitDefEqProofs only [eVar, eC, eOp, eUn, aNil, aCons, eSeq, eCall, eFn, bBl, onB_bl, bTru, eNotT, bAnd, bOr, bNot, eAnd, eOr, eIf, bChain, iteB_t, iteB_f, sNil, sSeq, sRet, sDrop, sAsg, sIf, sBreak, sCont, sAsgG, sPar2, sPar3, sSetIx, sPairSet, sAppend, onL, onI_i, onT_s, onTu_t, onCe_c, on1_, on2_, on3_, onLst_l, onOb_o, onSeq_l, onSeq_r, onSeq_c, lkD_s, lkD_n, lkO_s, lkO_n, finO, sFldD, setFD, eProp, isOb_obj, eMake, eMakeK, eMakeL, eLc, eNew, eSl, oNone, oSome, eOpM, eCallM, eCm, eCmK, eOpT, jNil, jCons, eJoin, aStar, sCalm, sFor, iRange1, iSeq, iTupD, iStrD, iEnumT, tName, tTup_t, tsCons_c, tsNil_n, any_t, onS_some, look0, look1, look2, look3, look4, look5, look6, look7, look8, look9, look10, look11, look12, look13, look14, look15, bYes, wipeE, List.set_cons_zero, List.set_cons_succ, List.length_cons, List.length_nil, List.append_nil, List.nil_append, List.cons_append, List.append_assoc, Nat.zero_add, Nat.reduceAdd, Nat.reduceSub, Nat.reduceEqDiff, Nat.reduceLT, Nat.reduceLeDiff, Int.reduceNeg, true_and, and_true, and_self, if_true, if_false, Bool.not_true, Bool.not_false, Bool.false_eq_true, reduceIte, reduceCtorEq, decide_true, decide_false, ltD_int, leD_int, gtD_int, geD_int, subD_int, addD_int, intOf_int, absD_int, eqD_int, eqD_str, neD_str, neD_int, isN_non, truD_bl, eqD_bl, neD_bl, Option.map_some, Option.bind_some, small_0, small_1, small_2, small_3, small_4, small_5, small_6, small_7, small_8, eCaught, onX_e, sRaise, eLm, onLs_l, eFnE, eXg, onV_v, sWish, eDic0, eDisp, eChain, finX_self, st_app, st_len, fin_st, fin_stT, fin_self, ite_self, mulD_int e3, modD_int (show (0 : Int) < 2147483629 by decide)]
        exact ih _ _ Q k hQ hk
    exact go ns v none _ _ (fun v o => last v o) rfl
theorem signs_ix {S : WS} {r : Int} (h0 : 0 ≤ r) (h : r < 36) : ∃ c, ixD S (.str "abcdefghijklmnopqrstuvwxyz0123456789") (.int r) = some (.str ⟨#[c]⟩) ∧ (isLt c || isDg c) = true ∧ (r < 26 → isLt c = true) := by
  obtain ⟨c, hc, h1, h2⟩ := signs_atI h0 h
  have sg : ("abcdefghijklmnopqrstuvwxyz0123456789" : Str) = signs := rfl
  have hss : small signs.length = true := by decide +kernel
  exact ⟨c, by simp only [ixD, sg, hss, if_true, hc, Option.map_some], h1, h2⟩
theorem name_ok (hk : k < S.length) (g : Good n w) (hn : n < 100000000000000000) (h : ∀ s w', Nm s → Good (n + 10) w' → q (.str s) (st S k w' T)) : G_name_k02 A [.cell k] (st S k w T) q x := by
  rw [D_name_k02]
  unfold fnD startE
  simp only [List.map_cons, List.map_nil, List.length_cons, List.length_nil, Nat.reduceAdd, Nat.reduceSub, List.replicate, List.cons_append, List.nil_append, List.append_nil, Nat.zero_add]
  unfold B_name_k02
  refine seq_gen fun N_ hN_ => ?_
  try simp -implicitDefEqProofs only [eVar, eC, eOp, eUn, aNil, aCons, eSeq, eCall, eFn, bBl, onB_bl, bTru, eNotT, bAnd, bOr, bNot, eAnd, eOr, eIf, bChain, iteB_t, iteB_f, sNil, sSeq, sRet, sDrop, sAsg, sIf, sBreak, sCont, sAsgG, sPar2, sPar3, sSetIx, sPairSet, sAppend, onL, onI_i, onT_s, onTu_t, onCe_c, on1_, on2_, on3_, onLst_l, onOb_o, onSeq_l, onSeq_r, onSeq_c, lkD_s, lkD_n, lkO_s, lkO_n, finO, sFldD, setFD, eProp, isOb_obj, eMake, eMakeK, eMakeL, eLc, eNew, eSl, oNone, oSome, eOpM, eCallM, eCm, eCmK, eOpT, jNil, jCons, eJoin, aStar, sCalm, sFor, iRange1, iSeq, iTupD, iStrD, iEnumT, tName, tTup_t, tsCons_c, tsNil_n, any_t, onS_some, look0, look1, look2, look3, look4, look5, look6, look7, look8, look9, look10, look11, look12, look13, look14, look15, bYes, wipeE, List.set_cons_zero, List.set_cons_succ, List.length_cons, List.length_nil, List.append_nil, List.nil_append, List.cons_append, List.append_assoc, Nat.zero_add, Nat.reduceAdd, Nat.reduceSub, Nat.reduceEqDiff, Nat.reduceLT, Nat.reduceLeDiff, Int.reduceNeg, true_and, and_true, and_self, if_true, if_false, Bool.not_true, Bool.not_false, Bool.false_eq_true, reduceIte, reduceCtorEq, decide_true, decide_false, ltD_int, leD_int, gtD_int, geD_int, subD_int, addD_int, intOf_int, absD_int, eqD_int, eqD_str, neD_str, neD_int, isN_non, truD_bl, eqD_bl, neD_bl, Option.map_some, Option.bind_some, small_0, small_1, small_2, small_3, small_4, small_5, small_6, small_7, small_8, eCaught, onX_e, sRaise, eLm, onLs_l, eFnE, eXg, onV_v, sWish, eDic0, eDisp, eChain, finX_self, st_app, st_len, fin_st, fin_stT, fin_self, ite_self]
  refine dip_ok hk g (by omega) (by omega) (by omega) fun d w1 d0 d1 g1 => ?_
  try simp -implicitDefEqProofs only [eVar, eC, eOp, eUn, aNil, aCons, eSeq, eCall, eFn, bBl, onB_bl, bTru, eNotT, bAnd, bOr, bNot, eAnd, eOr, eIf, bChain, iteB_t, iteB_f, sNil, sSeq, sRet, sDrop, sAsg, sIf, sBreak, sCont, sAsgG, sPar2, sPar3, sSetIx, sPairSet, sAppend, onL, onI_i, onT_s, onTu_t, onCe_c, on1_, on2_, on3_, onLst_l, onOb_o, onSeq_l, onSeq_r, onSeq_c, lkD_s, lkD_n, lkO_s, lkO_n, finO, sFldD, setFD, eProp, isOb_obj, eMake, eMakeK, eMakeL, eLc, eNew, eSl, oNone, oSome, eOpM, eCallM, eCm, eCmK, eOpT, jNil, jCons, eJoin, aStar, sCalm, sFor, iRange1, iSeq, iTupD, iStrD, iEnumT, tName, tTup_t, tsCons_c, tsNil_n, any_t, onS_some, look0, look1, look2, look3, look4, look5, look6, look7, look8, look9, look10, look11, look12, look13, look14, look15, bYes, wipeE, List.set_cons_zero, List.set_cons_succ, List.length_cons, List.length_nil, List.append_nil, List.nil_append, List.cons_append, List.append_assoc, Nat.zero_add, Nat.reduceAdd, Nat.reduceSub, Nat.reduceEqDiff, Nat.reduceLT, Nat.reduceLeDiff, Int.reduceNeg, true_and, and_true, and_self, if_true, if_false, Bool.not_true, Bool.not_false, Bool.false_eq_true, reduceIte, reduceCtorEq, decide_true, decide_false, ltD_int, leD_int, gtD_int, geD_int, subD_int, addD_int, intOf_int, absD_int, eqD_int, eqD_str, neD_str, neD_int, isN_non, truD_bl, eqD_bl, neD_bl, Option.map_some, Option.bind_some, small_0, small_1, small_2, small_3, small_4, small_5, small_6, small_7, small_8, eCaught, onX_e, sRaise, eLm, onLs_l, eFnE, eXg, onV_v, sWish, eDic0, eDisp, eChain, finX_self, st_app, st_len, fin_st, fin_stT, fin_self, ite_self]
  refine iteB_dec (fun hd => ?_) (fun hd => ?_)
  · refine dip_ok hk g1 (by omega) (by omega) (by omega) fun d w2 d0 d1 g2 => ?_
    obtain ⟨s, hs, ns⟩ := words_at d0 d1
    have hx : ixD (st S k w2 T) (.lst words) (.int d) = some (.str s) := by simp only [ixD, hs]
    unfold words at hx
    try simp -implicitDefEqProofs only [eVar, eC, eOp, eUn, aNil, aCons, eSeq, eCall, eFn, bBl, onB_bl, bTru, eNotT, bAnd, bOr, bNot, eAnd, eOr, eIf, bChain, iteB_t, iteB_f, sNil, sSeq, sRet, sDrop, sAsg, sIf, sBreak, sCont, sAsgG, sPar2, sPar3, sSetIx, sPairSet, sAppend, onL, onI_i, onT_s, onTu_t, onCe_c, on1_, on2_, on3_, onLst_l, onOb_o, onSeq_l, onSeq_r, onSeq_c, lkD_s, lkD_n, lkO_s, lkO_n, finO, sFldD, setFD, eProp, isOb_obj, eMake, eMakeK, eMakeL, eLc, eNew, eSl, oNone, oSome, eOpM, eCallM, eCm, eCmK, eOpT, jNil, jCons, eJoin, aStar, sCalm, sFor, iRange1, iSeq, iTupD, iStrD, iEnumT, tName, tTup_t, tsCons_c, tsNil_n, any_t, onS_some, look0, look1, look2, look3, look4, look5, look6, look7, look8, look9, look10, look11, look12, look13, look14, look15, bYes, wipeE, List.set_cons_zero, List.set_cons_succ, List.length_cons, List.length_nil, List.append_nil, List.nil_append, List.cons_append, List.append_assoc, Nat.zero_add, Nat.reduceAdd, Nat.reduceSub, Nat.reduceEqDiff, Nat.reduceLT, Nat.reduceLeDiff, Int.reduceNeg, true_and, and_true, and_self, if_true, if_false, Bool.not_true, Bool.not_false, Bool.false_eq_true, reduceIte, reduceCtorEq, decide_true, decide_false, ltD_int, leD_int, gtD_int, geD_int, subD_int, addD_int, intOf_int, absD_int, eqD_int, eqD_str, neD_str, neD_int, isN_non, truD_bl, eqD_bl, neD_bl, Option.map_some, Option.bind_some, small_0, small_1, small_2, small_3, small_4, small_5, small_6, small_7, small_8, eCaught, onX_e, sRaise, eLm, onLs_l, eFnE, eXg, onV_v, sWish, eDic0, eDisp, eChain, finX_self, st_app, st_len, fin_st, fin_stT, fin_self, ite_self, hx]
    exact h s w2 ns (g2.mono (by omega))
  · subst hN_
    refine seq_gen fun N_ hN_ => ?_
    try simp -implicitDefEqProofs only [eVar, eC, eOp, eUn, aNil, aCons, eSeq, eCall, eFn, bBl, onB_bl, bTru, eNotT, bAnd, bOr, bNot, eAnd, eOr, eIf, bChain, iteB_t, iteB_f, sNil, sSeq, sRet, sDrop, sAsg, sIf, sBreak, sCont, sAsgG, sPar2, sPar3, sSetIx, sPairSet, sAppend, onL, onI_i, onT_s, onTu_t, onCe_c, on1_, on2_, on3_, onLst_l, onOb_o, onSeq_l, onSeq_r, onSeq_c, lkD_s, lkD_n, lkO_s, lkO_n, finO, sFldD, setFD, eProp, isOb_obj, eMake, eMakeK, eMakeL, eLc, eNew, eSl, oNone, oSome, eOpM, eCallM, eCm, eCmK, eOpT, jNil, jCons, eJoin, aStar, sCalm, sFor, iRange1, iSeq, iTupD, iStrD, iEnumT, tName, tTup_t, tsCons_c, tsNil_n, any_t, onS_some, look0, look1, look2, look3, look4, look5, look6, look7, look8, look9, look10, look11, look12, look13, look14, look15, bYes, wipeE, List.set_cons_zero, List.set_cons_succ, List.length_cons, List.length_nil, List.append_nil, List.nil_append, List.cons_append, List.append_assoc, Nat.zero_add, Nat.reduceAdd, Nat.reduceSub, Nat.reduceEqDiff, Nat.reduceLT, Nat.reduceLeDiff, Int.reduceNeg, true_and, and_true, and_self, if_true, if_false, Bool.not_true, Bool.not_false, Bool.false_eq_true, reduceIte, reduceCtorEq, decide_true, decide_false, ltD_int, leD_int, gtD_int, geD_int, subD_int, addD_int, intOf_int, absD_int, eqD_int, eqD_str, neD_str, neD_int, isN_non, truD_bl, eqD_bl, neD_bl, Option.map_some, Option.bind_some, small_0, small_1, small_2, small_3, small_4, small_5, small_6, small_7, small_8, eCaught, onX_e, sRaise, eLm, onLs_l, eFnE, eXg, onV_v, sWish, eDic0, eDisp, eChain, finX_self, st_app, st_len, fin_st, fin_stT, fin_self, ite_self]
    subst hN_
    refine seq_gen fun N_ hN_ => ?_
    try simp -implicitDefEqProofs only [eVar, eC, eOp, eUn, aNil, aCons, eSeq, eCall, eFn, bBl, onB_bl, bTru, eNotT, bAnd, bOr, bNot, eAnd, eOr, eIf, bChain, iteB_t, iteB_f, sNil, sSeq, sRet, sDrop, sAsg, sIf, sBreak, sCont, sAsgG, sPar2, sPar3, sSetIx, sPairSet, sAppend, onL, onI_i, onT_s, onTu_t, onCe_c, on1_, on2_, on3_, onLst_l, onOb_o, onSeq_l, onSeq_r, onSeq_c, lkD_s, lkD_n, lkO_s, lkO_n, finO, sFldD, setFD, eProp, isOb_obj, eMake, eMakeK, eMakeL, eLc, eNew, eSl, oNone, oSome, eOpM, eCallM, eCm, eCmK, eOpT, jNil, jCons, eJoin, aStar, sCalm, sFor, iRange1, iSeq, iTupD, iStrD, iEnumT, tName, tTup_t, tsCons_c, tsNil_n, any_t, onS_some, look0, look1, look2, look3, look4, look5, look6, look7, look8, look9, look10, look11, look12, look13, look14, look15, bYes, wipeE, List.set_cons_zero, List.set_cons_succ, List.length_cons, List.length_nil, List.append_nil, List.nil_append, List.cons_append, List.append_assoc, Nat.zero_add, Nat.reduceAdd, Nat.reduceSub, Nat.reduceEqDiff, Nat.reduceLT, Nat.reduceLeDiff, Int.reduceNeg, true_and, and_true, and_self, if_true, if_false, Bool.not_true, Bool.not_false, Bool.false_eq_true, reduceIte, reduceCtorEq, decide_true, decide_false, ltD_int, leD_int, gtD_int, geD_int, subD_int, addD_int, intOf_int, absD_int, eqD_int, eqD_str, neD_str, neD_int, isN_non, truD_bl, eqD_bl, neD_bl, Option.map_some, Option.bind_some, small_0, small_1, small_2, small_3, small_4, small_5, small_6, small_7, small_8, eCaught, onX_e, sRaise, eLm, onLs_l, eFnE, eXg, onV_v, sWish, eDic0, eDisp, eChain, finX_self, st_app, st_len, fin_st, fin_stT, fin_self, ite_self]
    refine dip_ok hk g1 (by omega) (by omega) (by omega) fun d w2 d0 d1 g2 => ?_
    obtain ⟨c, hc, _, hl⟩ := signs_ix (S := st S k w2 T) d0 (by omega)
    try simp -implicitDefEqProofs only [eVar, eC, eOp, eUn, aNil, aCons, eSeq, eCall, eFn, bBl, onB_bl, bTru, eNotT, bAnd, bOr, bNot, eAnd, eOr, eIf, bChain, iteB_t, iteB_f, sNil, sSeq, sRet, sDrop, sAsg, sIf, sBreak, sCont, sAsgG, sPar2, sPar3, sSetIx, sPairSet, sAppend, onL, onI_i, onT_s, onTu_t, onCe_c, on1_, on2_, on3_, onLst_l, onOb_o, onSeq_l, onSeq_r, onSeq_c, lkD_s, lkD_n, lkO_s, lkO_n, finO, sFldD, setFD, eProp, isOb_obj, eMake, eMakeK, eMakeL, eLc, eNew, eSl, oNone, oSome, eOpM, eCallM, eCm, eCmK, eOpT, jNil, jCons, eJoin, aStar, sCalm, sFor, iRange1, iSeq, iTupD, iStrD, iEnumT, tName, tTup_t, tsCons_c, tsNil_n, any_t, onS_some, look0, look1, look2, look3, look4, look5, look6, look7, look8, look9, look10, look11, look12, look13, look14, look15, bYes, wipeE, List.set_cons_zero, List.set_cons_succ, List.length_cons, List.length_nil, List.append_nil, List.nil_append, List.cons_append, List.append_assoc, Nat.zero_add, Nat.reduceAdd, Nat.reduceSub, Nat.reduceEqDiff, Nat.reduceLT, Nat.reduceLeDiff, Int.reduceNeg, true_and, and_true, and_self, if_true, if_false, Bool.not_true, Bool.not_false, Bool.false_eq_true, reduceIte, reduceCtorEq, decide_true, decide_false, ltD_int, leD_int, gtD_int, geD_int, subD_int, addD_int, intOf_int, absD_int, eqD_int, eqD_str, neD_str, neD_int, isN_non, truD_bl, eqD_bl, neD_bl, Option.map_some, Option.bind_some, small_0, small_1, small_2, small_3, small_4, small_5, small_6, small_7, small_8, eCaught, onX_e, sRaise, eLm, onLs_l, eFnE, eXg, onV_v, sWish, eDic0, eDisp, eChain, finX_self, st_app, st_len, fin_st, fin_stT, fin_self, ite_self, hc]
    subst hN_
    refine seq_gen fun N_ hN_ => ?_
    try simp -implicitDefEqProofs only [eVar, eC, eOp, eUn, aNil, aCons, eSeq, eCall, eFn, bBl, onB_bl, bTru, eNotT, bAnd, bOr, bNot, eAnd, eOr, eIf, bChain, iteB_t, iteB_f, sNil, sSeq, sRet, sDrop, sAsg, sIf, sBreak, sCont, sAsgG, sPar2, sPar3, sSetIx, sPairSet, sAppend, onL, onI_i, onT_s, onTu_t, onCe_c, on1_, on2_, on3_, onLst_l, onOb_o, onSeq_l, onSeq_r, onSeq_c, lkD_s, lkD_n, lkO_s, lkO_n, finO, sFldD, setFD, eProp, isOb_obj, eMake, eMakeK, eMakeL, eLc, eNew, eSl, oNone, oSome, eOpM, eCallM, eCm, eCmK, eOpT, jNil, jCons, eJoin, aStar, sCalm, sFor, iRange1, iSeq, iTupD, iStrD, iEnumT, tName, tTup_t, tsCons_c, tsNil_n, any_t, onS_some, look0, look1, look2, look3, look4, look5, look6, look7, look8, look9, look10, look11, look12, look13, look14, look15, bYes, wipeE, List.set_cons_zero, List.set_cons_succ, List.length_cons, List.length_nil, List.append_nil, List.nil_append, List.cons_append, List.append_assoc, Nat.zero_add, Nat.reduceAdd, Nat.reduceSub, Nat.reduceEqDiff, Nat.reduceLT, Nat.reduceLeDiff, Int.reduceNeg, true_and, and_true, and_self, if_true, if_false, Bool.not_true, Bool.not_false, Bool.false_eq_true, reduceIte, reduceCtorEq, decide_true, decide_false, ltD_int, leD_int, gtD_int, geD_int, subD_int, addD_int, intOf_int, absD_int, eqD_int, eqD_str, neD_str, neD_int, isN_non, truD_bl, eqD_bl, neD_bl, Option.map_some, Option.bind_some, small_0, small_1, small_2, small_3, small_4, small_5, small_6, small_7, small_8, eCaught, onX_e, sRaise, eLm, onLs_l, eFnE, eXg, onV_v, sWish, eDic0, eDisp, eChain, finX_self, st_app, st_len, fin_st, fin_stT, fin_self, ite_self]
    refine dip_ok hk g2 (by omega) (by omega) (by omega) fun m w3 m0 m1 g3 => ?_
    try simp -implicitDefEqProofs only [eVar, eC, eOp, eUn, aNil, aCons, eSeq, eCall, eFn, bBl, onB_bl, bTru, eNotT, bAnd, bOr, bNot, eAnd, eOr, eIf, bChain, iteB_t, iteB_f, sNil, sSeq, sRet, sDrop, sAsg, sIf, sBreak, sCont, sAsgG, sPar2, sPar3, sSetIx, sPairSet, sAppend, onL, onI_i, onT_s, onTu_t, onCe_c, on1_, on2_, on3_, onLst_l, onOb_o, onSeq_l, onSeq_r, onSeq_c, lkD_s, lkD_n, lkO_s, lkO_n, finO, sFldD, setFD, eProp, isOb_obj, eMake, eMakeK, eMakeL, eLc, eNew, eSl, oNone, oSome, eOpM, eCallM, eCm, eCmK, eOpT, jNil, jCons, eJoin, aStar, sCalm, sFor, iRange1, iSeq, iTupD, iStrD, iEnumT, tName, tTup_t, tsCons_c, tsNil_n, any_t, onS_some, look0, look1, look2, look3, look4, look5, look6, look7, look8, look9, look10, look11, look12, look13, look14, look15, bYes, wipeE, List.set_cons_zero, List.set_cons_succ, List.length_cons, List.length_nil, List.append_nil, List.nil_append, List.cons_append, List.append_assoc, Nat.zero_add, Nat.reduceAdd, Nat.reduceSub, Nat.reduceEqDiff, Nat.reduceLT, Nat.reduceLeDiff, Int.reduceNeg, true_and, and_true, and_self, if_true, if_false, Bool.not_true, Bool.not_false, Bool.false_eq_true, reduceIte, reduceCtorEq, decide_true, decide_false, ltD_int, leD_int, gtD_int, geD_int, subD_int, addD_int, intOf_int, absD_int, eqD_int, eqD_str, neD_str, neD_int, isN_non, truD_bl, eqD_bl, neD_bl, Option.map_some, Option.bind_some, small_0, small_1, small_2, small_3, small_4, small_5, small_6, small_7, small_8, eCaught, onX_e, sRaise, eLm, onLs_l, eFnE, eXg, onV_v, sWish, eDic0, eDisp, eChain, finX_self, st_app, st_len, fin_st, fin_stT, fin_self, ite_self]
    refine ⟨⟨by omega, by omega⟩, ?_⟩
    have go : ∀ (js : List Nat) (s : Str) (o : Option D) (n : Int) (w : W) (kt : Kt), Nm s → s.length + js.length ≤ 8 → Good n w → n + js.length < 200000000000000000 → (∀ s o w', Nm s → Good (n + js.length) w' → kt.nx [some (.cell k), some (.str "abcdefghijklmnopqrstuvwxyz0123456789"), some (.str s), o] (st S k w' T)) →
        forD any_ (tName 3) (sAsg 2 (eOp addD (eVar 2) (eOp ixD (eVar 1) (eFn 2 (G_dip_k01 A) [] (aCons (eVar 0) (aCons (eC (.int 36)) (aNil))))))) (js.map fun (i : Nat) => D.int (0 + (i : Int))) [some (.cell k), some (.str "abcdefghijklmnopqrstuvwxyz0123456789"), some (.str s), o] (st S k w T) kt := fun js => by
      induction js with
      | nil =>
        intro s o n w kt hs hl g hn hq
        exact ⟨trivial, hq _ _ _ hs (g.mono (by simp))⟩
      | cons j js ih =>
        intro s o n w kt hs hl g hn hq
        simp only [List.length_cons] at hl hn
        rw [List.map_cons, for_cons]
        try simp -implicitDefEqProofs only [eVar, eC, eOp, eUn, aNil, aCons, eSeq, eCall, eFn, bBl, onB_bl, bTru, eNotT, bAnd, bOr, bNot, eAnd, eOr, eIf, bChain, iteB_t, iteB_f, sNil, sSeq, sRet, sDrop, sAsg, sIf, sBreak, sCont, sAsgG, sPar2, sPar3, sSetIx, sPairSet, sAppend, onL, onI_i, onT_s, onTu_t, onCe_c, on1_, on2_, on3_, onLst_l, onOb_o, onSeq_l, onSeq_r, onSeq_c, lkD_s, lkD_n, lkO_s, lkO_n, finO, sFldD, setFD, eProp, isOb_obj, eMake, eMakeK, eMakeL, eLc, eNew, eSl, oNone, oSome, eOpM, eCallM, eCm, eCmK, eOpT, jNil, jCons, eJoin, aStar, sCalm, sFor, iRange1, iSeq, iTupD, iStrD, iEnumT, tName, tTup_t, tsCons_c, tsNil_n, any_t, onS_some, look0, look1, look2, look3, look4, look5, look6, look7, look8, look9, look10, look11, look12, look13, look14, look15, bYes, wipeE, List.set_cons_zero, List.set_cons_succ, List.length_cons, List.length_nil, List.append_nil, List.nil_append, List.cons_append, List.append_assoc, Nat.zero_add, Nat.reduceAdd, Nat.reduceSub, Nat.reduceEqDiff, Nat.reduceLT, Nat.reduceLeDiff, Int.reduceNeg, true_and, and_true, and_self, if_true, if_false, Bool.not_true, Bool.not_false, Bool.false_eq_true, reduceIte, reduceCtorEq, decide_true, decide_false, ltD_int, leD_int, gtD_int, geD_int, subD_int, addD_int, intOf_int, absD_int, eqD_int, eqD_str, neD_str, neD_int, isN_non, truD_bl, eqD_bl, neD_bl, Option.map_some, Option.bind_some, small_0, small_1, small_2, small_3, small_4, small_5, small_6, small_7, small_8, eCaught, onX_e, sRaise, eLm, onLs_l, eFnE, eXg, onV_v, sWish, eDic0, eDisp, eChain, finX_self, st_app, st_len, fin_st, fin_stT, fin_self, ite_self]
        refine dip_ok hk g (by omega) (by omega) (by omega) fun d w2 d0 d1 g2 => ?_
        obtain ⟨c, hc, ha, _⟩ := signs_ix (S := st S k w2 T) d0 d1
        have hsm : small (s.length + Str.length ⟨#[c]⟩) = true := small_of (by
          rw [one_len]
          have := (nm_len hs).2
          omega)
        try simp -implicitDefEqProofs only [eVar, eC, eOp, eUn, aNil, aCons, eSeq, eCall, eFn, bBl, onB_bl, bTru, eNotT, bAnd, bOr, bNot, eAnd, eOr, eIf, bChain, iteB_t, iteB_f, sNil, sSeq, sRet, sDrop, sAsg, sIf, sBreak, sCont, sAsgG, sPar2, sPar3, sSetIx, sPairSet, sAppend, onL, onI_i, onT_s, onTu_t, onCe_c, on1_, on2_, on3_, onLst_l, onOb_o, onSeq_l, onSeq_r, onSeq_c, lkD_s, lkD_n, lkO_s, lkO_n, finO, sFldD, setFD, eProp, isOb_obj, eMake, eMakeK, eMakeL, eLc, eNew, eSl, oNone, oSome, eOpM, eCallM, eCm, eCmK, eOpT, jNil, jCons, eJoin, aStar, sCalm, sFor, iRange1, iSeq, iTupD, iStrD, iEnumT, tName, tTup_t, tsCons_c, tsNil_n, any_t, onS_some, look0, look1, look2, look3, look4, look5, look6, look7, look8, look9, look10, look11, look12, look13, look14, look15, bYes, wipeE, List.set_cons_zero, List.set_cons_succ, List.length_cons, List.length_nil, List.append_nil, List.nil_append, List.cons_append, List.append_assoc, Nat.zero_add, Nat.reduceAdd, Nat.reduceSub, Nat.reduceEqDiff, Nat.reduceLT, Nat.reduceLeDiff, Int.reduceNeg, true_and, and_true, and_self, if_true, if_false, Bool.not_true, Bool.not_false, Bool.false_eq_true, reduceIte, reduceCtorEq, decide_true, decide_false, ltD_int, leD_int, gtD_int, geD_int, subD_int, addD_int, intOf_int, absD_int, eqD_int, eqD_str, neD_str, neD_int, isN_non, truD_bl, eqD_bl, neD_bl, Option.map_some, Option.bind_some, small_0, small_1, small_2, small_3, small_4, small_5, small_6, small_7, small_8, eCaught, onX_e, sRaise, eLm, onLs_l, eFnE, eXg, onV_v, sWish, eDic0, eDisp, eChain, finX_self, st_app, st_len, fin_st, fin_stT, fin_self, ite_self, hc, addD_str hsm]
        refine ih _ _ (n + 1) w2 kt (nm_snoc hs (by omega) ha) ?_ g2 (by omega) fun s o w' hs g' => hq s o w' hs (g'.mono (by simp only [List.length_cons]; omega))
        rw [snoc_len]
        omega
    refine go (List.range m.toNat) ⟨#[c]⟩ none (n + 1 + 1 + 1) w3 _ (nm_one (hl d1)) ?_ g3 (by rw [List.length_range]; omega) fun s o w' hs g' => ?_
    · rw [List.length_range]
      show 1 + m.toNat ≤ 8
      omega
    · subst hN_
      try simp -implicitDefEqProofs only [eVar, eC, eOp, eUn, aNil, aCons, eSeq, eCall, eFn, bBl, onB_bl, bTru, eNotT, bAnd, bOr, bNot, eAnd, eOr, eIf, bChain, iteB_t, iteB_f, sNil, sSeq, sRet, sDrop, sAsg, sIf, sBreak, sCont, sAsgG, sPar2, sPar3, sSetIx, sPairSet, sAppend, onL, onI_i, onT_s, onTu_t, onCe_c, on1_, on2_, on3_, onLst_l, onOb_o, onSeq_l, onSeq_r, onSeq_c, lkD_s, lkD_n, lkO_s, lkO_n, finO, sFldD, setFD, eProp, isOb_obj, eMake, eMakeK, eMakeL, eLc, eNew, eSl, oNone, oSome, eOpM, eCallM, eCm, eCmK, eOpT, jNil, jCons, eJoin, aStar, sCalm, sFor, iRange1, iSeq, iTupD, iStrD, iEnumT, tName, tTup_t, tsCons_c, tsNil_n, any_t, onS_some, look0, look1, look2, look3, look4, look5, look6, look7, look8, look9, look10, look11, look12, look13, look14, look15, bYes, wipeE, List.set_cons_zero, List.set_cons_succ, List.length_cons, List.length_nil, List.append_nil, List.nil_append, List.cons_append, List.append_assoc, Nat.zero_add, Nat.reduceAdd, Nat.reduceSub, Nat.reduceEqDiff, Nat.reduceLT, Nat.reduceLeDiff, Int.reduceNeg, true_and, and_true, and_self, if_true, if_false, Bool.not_true, Bool.not_false, Bool.false_eq_true, reduceIte, reduceCtorEq, decide_true, decide_false, ltD_int, leD_int, gtD_int, geD_int, subD_int, addD_int, intOf_int, absD_int, eqD_int, eqD_str, neD_str, neD_int, isN_non, truD_bl, eqD_bl, neD_bl, Option.map_some, Option.bind_some, small_0, small_1, small_2, small_3, small_4, small_5, small_6, small_7, small_8, eCaught, onX_e, sRaise, eLm, onLs_l, eFnE, eXg, onV_v, sWish, eDic0, eDisp, eChain, finX_self, st_app, st_len, fin_st, fin_stT, fin_self, ite_self]
      exact h s w' hs (g'.mono (by rw [List.length_range]; omega))
end
end RV
end
section
/-! isinstance; names are judged; pipes and meters. -/
namespace RV
open PySem L2
section
variable {A : Ad} {S : WS} {x c : D} {t u : Value} {m n : String} {fs : List (Str × D)}
theorem isi_of (h1 : kindD (own A) x = some t) (h2 : clsD c = some u) (h3 : t ∈ kinds A) (h4 : u ∈ clss A) : isiD (own A) (tab A) S [x, c] = some (.bl (sub A t u)) := by
  simp only [isiD, h1, h2, Option.bind_some, tab, tabD, h3, h4, and_self, if_true, Option.map_some]
theorem own_here (h : m ∈ A.here) : own A (A.c m) = true := List.any_eq_true.mpr ⟨m, h, beq_self_eq_true _⟩
theorem kind_here (h : m ∈ A.here) : kindD (own A) (.obj (A.c m) fs) = some (.ref (A.c m)) := by simp only [kindD, own_here h, if_true]
theorem ref_kinds (h : m ∈ A.here) : Value.ref (A.c m) ∈ kinds A := List.mem_append_right _ (List.mem_map.mpr ⟨m, h, rfl⟩)
theorem ref_clss (h : m ∈ A.here) : Value.ref (A.c m) ∈ clss A := List.mem_append_right _ (List.mem_map.mpr ⟨m, h, rfl⟩)
theorem isi_own (h : m ∈ A.here) (h' : n ∈ A.here) : isiD (own A) (tab A) S [.obj (A.c m) fs, .adr (A.c n)] = some (.bl (decide (A.c m = A.c n))) := by
  rw [isi_of (kind_here h) rfl (ref_kinds h) (ref_clss h')]
  simp [sub]
theorem isi_str {s : Str} : isiD (own A) (tab A) S [.str s, .ty "str"] = some (.bl true) := by
  rw [isi_of (t := .type "str") (u := .type "str") rfl rfl (by simp [kinds]) (by simp [clss])]
  simp [sub]
theorem isi_tup {ds : List D} : isiD (own A) (tab A) S [.tup ds, .ty "tuple"] = some (.bl true) := by
  rw [isi_of (t := .type "tuple") (u := .type "tuple") rfl rfl (by simp [kinds]) (by simp [clss])]
  simp [sub]
theorem isi_bool {b : Bool} : isiD (own A) (tab A) S [.bl b, .ty "bool"] = some (.bl true) := by
  rw [isi_of (t := .type "bool") (u := .type "bool") rfl rfl (by simp [kinds]) (by simp [clss])]
  simp [sub]
end
/-- the classes of nets are there -/
structure NetsA (A : Ad) : Prop where
  p : "Pipe" ∈ A.here
  m : "Meter" ∈ A.here
  n : "Net" ∈ A.here
  pm : A.c "Pipe" ≠ A.c "Meter"
  pn : A.c "Pipe" ≠ A.c "Net"
  mn : A.c "Meter" ≠ A.c "Net"
section
variable {A : Ad} {S : WS} {q : D → WS → Prop} {x : Xq} {s a b c : Str} {f : Bool}
/-! ### names -/
def nmB (s : Str) : Bool := nmL s.cps.toList
theorem inS_letters {neg : Bool} {ch : Nat} : inSD neg S (.str ⟨#[ch]⟩) (.str "abcdefghijklmnopqrstuvwxyz") = some (.bl (if neg then !isLt ch else isLt ch)) := by
  cases neg <;> simp [inSD, isLt, letters]
theorem inS_digits {neg : Bool} {ch : Nat} : inSD neg S (.str ⟨#[ch]⟩) (.str "0123456789") = some (.bl (if neg then !isDg ch else isDg ch)) := by
  cases neg <;> simp [inSD, isDg, digits]
theorem isName_eq (hs : small s.length = true) : G_is_name A [.str s] S q x = q (.bl (nmB s)) S := by
  have hln : lenD S [.str s] = some (.int (s.length : Nat)) := by simp only [lenD, hs, if_true]
  have hlc : ∀ q : List D → WS → Prop, lcD any_ (tName 1) bYes (eOr (eOp (inSD false) (eVar 1) (eC (.str "abcdefghijklmnopqrstuvwxyz"))) (eOp (inSD false) (eVar 1) (eC (.str "0123456789")))) [some (.str s), none] (s.cps.toList.map fun c => D.str ⟨#[c]⟩) [] S q = q (s.cps.toList.map fun c => D.bl (isLt c || isDg c)) S := fun q => by
    refine lc_mapEq _ trivial fun c hc => ⟨_, rfl, fun q x => ?_⟩
    try simp -implicitDefEqProofs only [eVar, eC, eOp, eUn, aNil, aCons, eSeq, eCall, eFn, bBl, onB_bl, bTru, eNotT, bAnd, bOr, bNot, eAnd, eOr, eIf, bChain, iteB_t, iteB_f, sNil, sSeq, sRet, sDrop, sAsg, sIf, sBreak, sCont, sAsgG, sPar2, sPar3, sSetIx, sPairSet, sAppend, onL, onI_i, onT_s, onTu_t, onCe_c, on1_, on2_, on3_, onLst_l, onOb_o, onSeq_l, onSeq_r, onSeq_c, lkD_s, lkD_n, lkO_s, lkO_n, finO, sFldD, setFD, eProp, isOb_obj, eMake, eMakeK, eMakeL, eLc, eNew, eSl, oNone, oSome, eOpM, eCallM, eCm, eCmK, eOpT, jNil, jCons, eJoin, aStar, sCalm, sFor, iRange1, iSeq, iTupD, iStrD, iEnumT, tName, tTup_t, tsCons_c, tsNil_n, any_t, onS_some, look0, look1, look2, look3, look4, look5, look6, look7, look8, look9, look10, look11, look12, look13, look14, look15, bYes, wipeE, List.set_cons_zero, List.set_cons_succ, List.length_cons, List.length_nil, List.append_nil, List.nil_append, List.cons_append, List.append_assoc, Nat.zero_add, Nat.reduceAdd, Nat.reduceSub, Nat.reduceEqDiff, Nat.reduceLT, Nat.reduceLeDiff, Int.reduceNeg, true_and, and_true, and_self, if_true, if_false, Bool.not_true, Bool.not_false, Bool.false_eq_true, reduceIte, reduceCtorEq, decide_true, decide_false, ltD_int, leD_int, gtD_int, geD_int, subD_int, addD_int, intOf_int, absD_int, eqD_int, eqD_str, neD_str, neD_int, isN_non, truD_bl, eqD_bl, neD_bl, Option.map_some, Option.bind_some, small_0, small_1, small_2, small_3, small_4, small_5, small_6, small_7, small_8, eCaught, onX_e, sRaise, eLm, onLs_l, eFnE, eXg, onV_v, sWish, eDic0, eDisp, eChain, finX_self, st_app, st_len, fin_st, fin_stT, fin_self, ite_self, inS_letters, inS_digits]
    cases isLt c <;> rfl
  have hsm : small (s.cps.toList.map fun c => D.str ⟨#[c]⟩).length = true := by rw [List.length_map, ← len_cps]; exact hs
  rw [D_is_name]
  unfold fnD startE
  simp only [List.map_cons, List.map_nil, List.length_cons, List.length_nil, Nat.reduceAdd, Nat.reduceSub, List.replicate, List.cons_append, List.nil_append, List.append_nil, Nat.zero_add]
  unfold B_is_name
  try simp -implicitDefEqProofs only [eVar, eC, eOp, eUn, aNil, aCons, eSeq, eCall, eFn, bBl, onB_bl, bTru, eNotT, bAnd, bOr, bNot, eAnd, eOr, eIf, bChain, iteB_t, iteB_f, sNil, sSeq, sRet, sDrop, sAsg, sIf, sBreak, sCont, sAsgG, sPar2, sPar3, sSetIx, sPairSet, sAppend, onL, onI_i, onT_s, onTu_t, onCe_c, on1_, on2_, on3_, onLst_l, onOb_o, onSeq_l, onSeq_r, onSeq_c, lkD_s, lkD_n, lkO_s, lkO_n, finO, sFldD, setFD, eProp, isOb_obj, eMake, eMakeK, eMakeL, eLc, eNew, eSl, oNone, oSome, eOpM, eCallM, eCm, eCmK, eOpT, jNil, jCons, eJoin, aStar, sCalm, sFor, iRange1, iSeq, iTupD, iStrD, iEnumT, tName, tTup_t, tsCons_c, tsNil_n, any_t, onS_some, look0, look1, look2, look3, look4, look5, look6, look7, look8, look9, look10, look11, look12, look13, look14, look15, bYes, wipeE, List.set_cons_zero, List.set_cons_succ, List.length_cons, List.length_nil, List.append_nil, List.nil_append, List.cons_append, List.append_assoc, Nat.zero_add, Nat.reduceAdd, Nat.reduceSub, Nat.reduceEqDiff, Nat.reduceLT, Nat.reduceLeDiff, Int.reduceNeg, true_and, and_true, and_self, if_true, if_false, Bool.not_true, Bool.not_false, Bool.false_eq_true, reduceIte, reduceCtorEq, decide_true, decide_false, ltD_int, leD_int, gtD_int, geD_int, subD_int, addD_int, intOf_int, absD_int, eqD_int, eqD_str, neD_str, neD_int, isN_non, truD_bl, eqD_bl, neD_bl, Option.map_some, Option.bind_some, small_0, small_1, small_2, small_3, small_4, small_5, small_6, small_7, small_8, eCaught, onX_e, sRaise, eLm, onLs_l, eFnE, eXg, onV_v, sWish, eDic0, eDisp, eChain, finX_self, st_app, st_len, fin_st, fin_stT, fin_self, ite_self, isi_str, hln, hsm, hlc, allD_map]
  unfold nmB
  rcases hc : s.cps.toList with _ | ⟨ch, r⟩
  · have h0 : s.length = 0 := by rw [len_cps, hc]; rfl
    try simp -implicitDefEqProofs only [eVar, eC, eOp, eUn, aNil, aCons, eSeq, eCall, eFn, bBl, onB_bl, bTru, eNotT, bAnd, bOr, bNot, eAnd, eOr, eIf, bChain, iteB_t, iteB_f, sNil, sSeq, sRet, sDrop, sAsg, sIf, sBreak, sCont, sAsgG, sPar2, sPar3, sSetIx, sPairSet, sAppend, onL, onI_i, onT_s, onTu_t, onCe_c, on1_, on2_, on3_, onLst_l, onOb_o, onSeq_l, onSeq_r, onSeq_c, lkD_s, lkD_n, lkO_s, lkO_n, finO, sFldD, setFD, eProp, isOb_obj, eMake, eMakeK, eMakeL, eLc, eNew, eSl, oNone, oSome, eOpM, eCallM, eCm, eCmK, eOpT, jNil, jCons, eJoin, aStar, sCalm, sFor, iRange1, iSeq, iTupD, iStrD, iEnumT, tName, tTup_t, tsCons_c, tsNil_n, any_t, onS_some, look0, look1, look2, look3, look4, look5, look6, look7, look8, look9, look10, look11, look12, look13, look14, look15, bYes, wipeE, List.set_cons_zero, List.set_cons_succ, List.length_cons, List.length_nil, List.append_nil, List.nil_append, List.cons_append, List.append_assoc, Nat.zero_add, Nat.reduceAdd, Nat.reduceSub, Nat.reduceEqDiff, Nat.reduceLT, Nat.reduceLeDiff, Int.reduceNeg, true_and, and_true, and_self, if_true, if_false, Bool.not_true, Bool.not_false, Bool.false_eq_true, reduceIte, reduceCtorEq, decide_true, decide_false, ltD_int, leD_int, gtD_int, geD_int, subD_int, addD_int, intOf_int, absD_int, eqD_int, eqD_str, neD_str, neD_int, isN_non, truD_bl, eqD_bl, neD_bl, Option.map_some, Option.bind_some, small_0, small_1, small_2, small_3, small_4, small_5, small_6, small_7, small_8, eCaught, onX_e, sRaise, eLm, onLs_l, eFnE, eXg, onV_v, sWish, eDic0, eDisp, eChain, finX_self, st_app, st_len, fin_st, fin_stT, fin_self, ite_self, show decide ((1 : Int) ≤ ((s.length : Nat) : Int)) = false from decide_eq_false (by omega)]
    simp [nmL]
  · have h1 : s.length = r.length + 1 := by rw [len_cps, hc]; rfl
    have h0 : ixD S (.str s) (.int 0) = some (.str ⟨#[ch]⟩) := by
      simp only [ixD, hs, if_true, hc, atI_cons, Option.map_some]
    try simp -implicitDefEqProofs only [eVar, eC, eOp, eUn, aNil, aCons, eSeq, eCall, eFn, bBl, onB_bl, bTru, eNotT, bAnd, bOr, bNot, eAnd, eOr, eIf, bChain, iteB_t, iteB_f, sNil, sSeq, sRet, sDrop, sAsg, sIf, sBreak, sCont, sAsgG, sPar2, sPar3, sSetIx, sPairSet, sAppend, onL, onI_i, onT_s, onTu_t, onCe_c, on1_, on2_, on3_, onLst_l, onOb_o, onSeq_l, onSeq_r, onSeq_c, lkD_s, lkD_n, lkO_s, lkO_n, finO, sFldD, setFD, eProp, isOb_obj, eMake, eMakeK, eMakeL, eLc, eNew, eSl, oNone, oSome, eOpM, eCallM, eCm, eCmK, eOpT, jNil, jCons, eJoin, aStar, sCalm, sFor, iRange1, iSeq, iTupD, iStrD, iEnumT, tName, tTup_t, tsCons_c, tsNil_n, any_t, onS_some, look0, look1, look2, look3, look4, look5, look6, look7, look8, look9, look10, look11, look12, look13, look14, look15, bYes, wipeE, List.set_cons_zero, List.set_cons_succ, List.length_cons, List.length_nil, List.append_nil, List.nil_append, List.cons_append, List.append_assoc, Nat.zero_add, Nat.reduceAdd, Nat.reduceSub, Nat.reduceEqDiff, Nat.reduceLT, Nat.reduceLeDiff, Int.reduceNeg, true_and, and_true, and_self, if_true, if_false, Bool.not_true, Bool.not_false, Bool.false_eq_true, reduceIte, reduceCtorEq, decide_true, decide_false, ltD_int, leD_int, gtD_int, geD_int, subD_int, addD_int, intOf_int, absD_int, eqD_int, eqD_str, neD_str, neD_int, isN_non, truD_bl, eqD_bl, neD_bl, Option.map_some, Option.bind_some, small_0, small_1, small_2, small_3, small_4, small_5, small_6, small_7, small_8, eCaught, onX_e, sRaise, eLm, onLs_l, eFnE, eXg, onV_v, sWish, eDic0, eDisp, eChain, finX_self, st_app, st_len, fin_st, fin_stT, fin_self, ite_self, show decide ((1 : Int) ≤ ((s.length : Nat) : Int)) = true from decide_eq_true (by omega), h0, inS_letters]
    by_cases h8 : s.length ≤ 8
    · try simp -implicitDefEqProofs only [eVar, eC, eOp, eUn, aNil, aCons, eSeq, eCall, eFn, bBl, onB_bl, bTru, eNotT, bAnd, bOr, bNot, eAnd, eOr, eIf, bChain, iteB_t, iteB_f, sNil, sSeq, sRet, sDrop, sAsg, sIf, sBreak, sCont, sAsgG, sPar2, sPar3, sSetIx, sPairSet, sAppend, onL, onI_i, onT_s, onTu_t, onCe_c, on1_, on2_, on3_, onLst_l, onOb_o, onSeq_l, onSeq_r, onSeq_c, lkD_s, lkD_n, lkO_s, lkO_n, finO, sFldD, setFD, eProp, isOb_obj, eMake, eMakeK, eMakeL, eLc, eNew, eSl, oNone, oSome, eOpM, eCallM, eCm, eCmK, eOpT, jNil, jCons, eJoin, aStar, sCalm, sFor, iRange1, iSeq, iTupD, iStrD, iEnumT, tName, tTup_t, tsCons_c, tsNil_n, any_t, onS_some, look0, look1, look2, look3, look4, look5, look6, look7, look8, look9, look10, look11, look12, look13, look14, look15, bYes, wipeE, List.set_cons_zero, List.set_cons_succ, List.length_cons, List.length_nil, List.append_nil, List.nil_append, List.cons_append, List.append_assoc, Nat.zero_add, Nat.reduceAdd, Nat.reduceSub, Nat.reduceEqDiff, Nat.reduceLT, Nat.reduceLeDiff, Int.reduceNeg, true_and, and_true, and_self, if_true, if_false, Bool.not_true, Bool.not_false, Bool.false_eq_true, reduceIte, reduceCtorEq, decide_true, decide_false, ltD_int, leD_int, gtD_int, geD_int, subD_int, addD_int, intOf_int, absD_int, eqD_int, eqD_str, neD_str, neD_int, isN_non, truD_bl, eqD_bl, neD_bl, Option.map_some, Option.bind_some, small_0, small_1, small_2, small_3, small_4, small_5, small_6, small_7, small_8, eCaught, onX_e, sRaise, eLm, onLs_l, eFnE, eXg, onV_v, sWish, eDic0, eDisp, eChain, finX_self, st_app, st_len, fin_st, fin_stT, fin_self, ite_self, show decide (((s.length : Nat) : Int) ≤ 8) = true from decide_eq_true (by omega)]
      cases hl : isLt ch
      · try simp -implicitDefEqProofs only [eVar, eC, eOp, eUn, aNil, aCons, eSeq, eCall, eFn, bBl, onB_bl, bTru, eNotT, bAnd, bOr, bNot, eAnd, eOr, eIf, bChain, iteB_t, iteB_f, sNil, sSeq, sRet, sDrop, sAsg, sIf, sBreak, sCont, sAsgG, sPar2, sPar3, sSetIx, sPairSet, sAppend, onL, onI_i, onT_s, onTu_t, onCe_c, on1_, on2_, on3_, onLst_l, onOb_o, onSeq_l, onSeq_r, onSeq_c, lkD_s, lkD_n, lkO_s, lkO_n, finO, sFldD, setFD, eProp, isOb_obj, eMake, eMakeK, eMakeL, eLc, eNew, eSl, oNone, oSome, eOpM, eCallM, eCm, eCmK, eOpT, jNil, jCons, eJoin, aStar, sCalm, sFor, iRange1, iSeq, iTupD, iStrD, iEnumT, tName, tTup_t, tsCons_c, tsNil_n, any_t, onS_some, look0, look1, look2, look3, look4, look5, look6, look7, look8, look9, look10, look11, look12, look13, look14, look15, bYes, wipeE, List.set_cons_zero, List.set_cons_succ, List.length_cons, List.length_nil, List.append_nil, List.nil_append, List.cons_append, List.append_assoc, Nat.zero_add, Nat.reduceAdd, Nat.reduceSub, Nat.reduceEqDiff, Nat.reduceLT, Nat.reduceLeDiff, Int.reduceNeg, true_and, and_true, and_self, if_true, if_false, Bool.not_true, Bool.not_false, Bool.false_eq_true, reduceIte, reduceCtorEq, decide_true, decide_false, ltD_int, leD_int, gtD_int, geD_int, subD_int, addD_int, intOf_int, absD_int, eqD_int, eqD_str, neD_str, neD_int, isN_non, truD_bl, eqD_bl, neD_bl, Option.map_some, Option.bind_some, small_0, small_1, small_2, small_3, small_4, small_5, small_6, small_7, small_8, eCaught, onX_e, sRaise, eLm, onLs_l, eFnE, eXg, onV_v, sWish, eDic0, eDisp, eChain, finX_self, st_app, st_len, fin_st, fin_stT, fin_self, ite_self]
        simp [nmL, hl]
      · try simp -implicitDefEqProofs only [eVar, eC, eOp, eUn, aNil, aCons, eSeq, eCall, eFn, bBl, onB_bl, bTru, eNotT, bAnd, bOr, bNot, eAnd, eOr, eIf, bChain, iteB_t, iteB_f, sNil, sSeq, sRet, sDrop, sAsg, sIf, sBreak, sCont, sAsgG, sPar2, sPar3, sSetIx, sPairSet, sAppend, onL, onI_i, onT_s, onTu_t, onCe_c, on1_, on2_, on3_, onLst_l, onOb_o, onSeq_l, onSeq_r, onSeq_c, lkD_s, lkD_n, lkO_s, lkO_n, finO, sFldD, setFD, eProp, isOb_obj, eMake, eMakeK, eMakeL, eLc, eNew, eSl, oNone, oSome, eOpM, eCallM, eCm, eCmK, eOpT, jNil, jCons, eJoin, aStar, sCalm, sFor, iRange1, iSeq, iTupD, iStrD, iEnumT, tName, tTup_t, tsCons_c, tsNil_n, any_t, onS_some, look0, look1, look2, look3, look4, look5, look6, look7, look8, look9, look10, look11, look12, look13, look14, look15, bYes, wipeE, List.set_cons_zero, List.set_cons_succ, List.length_cons, List.length_nil, List.append_nil, List.nil_append, List.cons_append, List.append_assoc, Nat.zero_add, Nat.reduceAdd, Nat.reduceSub, Nat.reduceEqDiff, Nat.reduceLT, Nat.reduceLeDiff, Int.reduceNeg, true_and, and_true, and_self, if_true, if_false, Bool.not_true, Bool.not_false, Bool.false_eq_true, reduceIte, reduceCtorEq, decide_true, decide_false, ltD_int, leD_int, gtD_int, geD_int, subD_int, addD_int, intOf_int, absD_int, eqD_int, eqD_str, neD_str, neD_int, isN_non, truD_bl, eqD_bl, neD_bl, Option.map_some, Option.bind_some, small_0, small_1, small_2, small_3, small_4, small_5, small_6, small_7, small_8, eCaught, onX_e, sRaise, eLm, onLs_l, eFnE, eXg, onV_v, sWish, eDic0, eDisp, eChain, finX_self, st_app, st_len, fin_st, fin_stT, fin_self, ite_self]
        have : decide (r.length ≤ 7) = true := decide_eq_true (by omega)
        simp [nmL, hl, this]
    · try simp -implicitDefEqProofs only [eVar, eC, eOp, eUn, aNil, aCons, eSeq, eCall, eFn, bBl, onB_bl, bTru, eNotT, bAnd, bOr, bNot, eAnd, eOr, eIf, bChain, iteB_t, iteB_f, sNil, sSeq, sRet, sDrop, sAsg, sIf, sBreak, sCont, sAsgG, sPar2, sPar3, sSetIx, sPairSet, sAppend, onL, onI_i, onT_s, onTu_t, onCe_c, on1_, on2_, on3_, onLst_l, onOb_o, onSeq_l, onSeq_r, onSeq_c, lkD_s, lkD_n, lkO_s, lkO_n, finO, sFldD, setFD, eProp, isOb_obj, eMake, eMakeK, eMakeL, eLc, eNew, eSl, oNone, oSome, eOpM, eCallM, eCm, eCmK, eOpT, jNil, jCons, eJoin, aStar, sCalm, sFor, iRange1, iSeq, iTupD, iStrD, iEnumT, tName, tTup_t, tsCons_c, tsNil_n, any_t, onS_some, look0, look1, look2, look3, look4, look5, look6, look7, look8, look9, look10, look11, look12, look13, look14, look15, bYes, wipeE, List.set_cons_zero, List.set_cons_succ, List.length_cons, List.length_nil, List.append_nil, List.nil_append, List.cons_append, List.append_assoc, Nat.zero_add, Nat.reduceAdd, Nat.reduceSub, Nat.reduceEqDiff, Nat.reduceLT, Nat.reduceLeDiff, Int.reduceNeg, true_and, and_true, and_self, if_true, if_false, Bool.not_true, Bool.not_false, Bool.false_eq_true, reduceIte, reduceCtorEq, decide_true, decide_false, ltD_int, leD_int, gtD_int, geD_int, subD_int, addD_int, intOf_int, absD_int, eqD_int, eqD_str, neD_str, neD_int, isN_non, truD_bl, eqD_bl, neD_bl, Option.map_some, Option.bind_some, small_0, small_1, small_2, small_3, small_4, small_5, small_6, small_7, small_8, eCaught, onX_e, sRaise, eLm, onLs_l, eFnE, eXg, onV_v, sWish, eDic0, eDisp, eChain, finX_self, st_app, st_len, fin_st, fin_stT, fin_self, ite_self, show decide (((s.length : Nat) : Int) ≤ 8) = false from decide_eq_false (by omega)]
      have : decide (r.length ≤ 7) = false := decide_eq_false (by omega)
      simp [nmL, this]
theorem checkName_ok (h : Nm s) : G_check_name A [.str s] S q x = q .non S := by
  have e : nmB s = true := h
  rw [D_check_name]
  unfold fnD startE
  simp only [List.map_cons, List.map_nil, List.length_cons, List.length_nil, Nat.reduceAdd, Nat.reduceSub, List.replicate, List.cons_append, List.nil_append, List.append_nil, Nat.zero_add]
  unfold B_check_name
  try simp -implicitDefEqProofs only [eVar, eC, eOp, eUn, aNil, aCons, eSeq, eCall, eFn, bBl, onB_bl, bTru, eNotT, bAnd, bOr, bNot, eAnd, eOr, eIf, bChain, iteB_t, iteB_f, sNil, sSeq, sRet, sDrop, sAsg, sIf, sBreak, sCont, sAsgG, sPar2, sPar3, sSetIx, sPairSet, sAppend, onL, onI_i, onT_s, onTu_t, onCe_c, on1_, on2_, on3_, onLst_l, onOb_o, onSeq_l, onSeq_r, onSeq_c, lkD_s, lkD_n, lkO_s, lkO_n, finO, sFldD, setFD, eProp, isOb_obj, eMake, eMakeK, eMakeL, eLc, eNew, eSl, oNone, oSome, eOpM, eCallM, eCm, eCmK, eOpT, jNil, jCons, eJoin, aStar, sCalm, sFor, iRange1, iSeq, iTupD, iStrD, iEnumT, tName, tTup_t, tsCons_c, tsNil_n, any_t, onS_some, look0, look1, look2, look3, look4, look5, look6, look7, look8, look9, look10, look11, look12, look13, look14, look15, bYes, wipeE, List.set_cons_zero, List.set_cons_succ, List.length_cons, List.length_nil, List.append_nil, List.nil_append, List.cons_append, List.append_assoc, Nat.zero_add, Nat.reduceAdd, Nat.reduceSub, Nat.reduceEqDiff, Nat.reduceLT, Nat.reduceLeDiff, Int.reduceNeg, true_and, and_true, and_self, if_true, if_false, Bool.not_true, Bool.not_false, Bool.false_eq_true, reduceIte, reduceCtorEq, decide_true, decide_false, ltD_int, leD_int, gtD_int, geD_int, subD_int, addD_int, intOf_int, absD_int, eqD_int, eqD_str, neD_str, neD_int, isN_non, truD_bl, eqD_bl, neD_bl, Option.map_some, Option.bind_some, small_0, small_1, small_2, small_3, small_4, small_5, small_6, small_7, small_8, eCaught, onX_e, sRaise, eLm, onLs_l, eFnE, eXg, onV_v, sWish, eDic0, eDisp, eChain, finX_self, st_app, st_len, fin_st, fin_stT, fin_self, ite_self, isName_eq (nm_small h), e]
/-! ### pipes and meters -/
def pipeV (A : Ad) (a b c : Str) : D := .obj (A.c "Pipe") [("kept", .tup [.str a, .str b, .str c])]
def meterV (A : Ad) (a b : Str) (f : Bool) : D := .obj (A.c "Meter") [("kept", .tup [.str a, .str b, .bl f])]
theorem pipe_init_ok (ha : Nm a) (hb : Nm b) (hc : Nm c) (h : c ≠ b) : makeD .still (A.c "Pipe") 4 (G_Pipe_init A) [.str a, .str b, .str c] S q x = q (pipeV A a b c) S := by
  unfold makeD
  rw [D_Pipe_init]
  unfold fnD startE
  simp only [List.map_cons, List.map_nil, List.length_cons, List.length_nil, Nat.reduceAdd, Nat.reduceSub, List.replicate, List.cons_append, List.nil_append, List.append_nil, Nat.zero_add]
  unfold B_Pipe_init
  have cl : D.clean 0 (.tup [.str a, .str b, .str c]) = true := rfl
  have e : decide (c = b) = false := decide_eq_false h
  try simp -implicitDefEqProofs only [eVar, eC, eOp, eUn, aNil, aCons, eSeq, eCall, eFn, bBl, onB_bl, bTru, eNotT, bAnd, bOr, bNot, eAnd, eOr, eIf, bChain, iteB_t, iteB_f, sNil, sSeq, sRet, sDrop, sAsg, sIf, sBreak, sCont, sAsgG, sPar2, sPar3, sSetIx, sPairSet, sAppend, onL, onI_i, onT_s, onTu_t, onCe_c, on1_, on2_, on3_, onLst_l, onOb_o, onSeq_l, onSeq_r, onSeq_c, lkD_s, lkD_n, lkO_s, lkO_n, finO, sFldD, setFD, eProp, isOb_obj, eMake, eMakeK, eMakeL, eLc, eNew, eSl, oNone, oSome, eOpM, eCallM, eCm, eCmK, eOpT, jNil, jCons, eJoin, aStar, sCalm, sFor, iRange1, iSeq, iTupD, iStrD, iEnumT, tName, tTup_t, tsCons_c, tsNil_n, any_t, onS_some, look0, look1, look2, look3, look4, look5, look6, look7, look8, look9, look10, look11, look12, look13, look14, look15, bYes, wipeE, List.set_cons_zero, List.set_cons_succ, List.length_cons, List.length_nil, List.append_nil, List.nil_append, List.cons_append, List.append_assoc, Nat.zero_add, Nat.reduceAdd, Nat.reduceSub, Nat.reduceEqDiff, Nat.reduceLT, Nat.reduceLeDiff, Int.reduceNeg, true_and, and_true, and_self, if_true, if_false, Bool.not_true, Bool.not_false, Bool.false_eq_true, reduceIte, reduceCtorEq, decide_true, decide_false, ltD_int, leD_int, gtD_int, geD_int, subD_int, addD_int, intOf_int, absD_int, eqD_int, eqD_str, neD_str, neD_int, isN_non, truD_bl, eqD_bl, neD_bl, Option.map_some, Option.bind_some, small_0, small_1, small_2, small_3, small_4, small_5, small_6, small_7, small_8, eCaught, onX_e, sRaise, eLm, onLs_l, eFnE, eXg, onV_v, sWish, eDic0, eDisp, eChain, finX_self, st_app, st_len, fin_st, fin_stT, fin_self, ite_self, checkName_ok ha, checkName_ok hb, checkName_ok hc, e, app_at0, app_set0, cl, putD, fin_appS, take_app, Nat.lt_irrefl, show (0 : Nat) < 1000 from by decide]
  rfl
theorem meter_init_ok (ha : Nm a) (hb : Nm b) : makeD .still (A.c "Meter") 4 (G_Meter_init A) [.str a, .str b, .bl f] S q x = q (meterV A a b f) S := by
  unfold makeD
  rw [D_Meter_init]
  unfold fnD startE
  simp only [List.map_cons, List.map_nil, List.length_cons, List.length_nil, Nat.reduceAdd, Nat.reduceSub, List.replicate, List.cons_append, List.nil_append, List.append_nil, Nat.zero_add]
  unfold B_Meter_init
  have cl : D.clean 0 (.tup [.str a, .str b, .bl f]) = true := rfl
  try simp -implicitDefEqProofs only [eVar, eC, eOp, eUn, aNil, aCons, eSeq, eCall, eFn, bBl, onB_bl, bTru, eNotT, bAnd, bOr, bNot, eAnd, eOr, eIf, bChain, iteB_t, iteB_f, sNil, sSeq, sRet, sDrop, sAsg, sIf, sBreak, sCont, sAsgG, sPar2, sPar3, sSetIx, sPairSet, sAppend, onL, onI_i, onT_s, onTu_t, onCe_c, on1_, on2_, on3_, onLst_l, onOb_o, onSeq_l, onSeq_r, onSeq_c, lkD_s, lkD_n, lkO_s, lkO_n, finO, sFldD, setFD, eProp, isOb_obj, eMake, eMakeK, eMakeL, eLc, eNew, eSl, oNone, oSome, eOpM, eCallM, eCm, eCmK, eOpT, jNil, jCons, eJoin, aStar, sCalm, sFor, iRange1, iSeq, iTupD, iStrD, iEnumT, tName, tTup_t, tsCons_c, tsNil_n, any_t, onS_some, look0, look1, look2, look3, look4, look5, look6, look7, look8, look9, look10, look11, look12, look13, look14, look15, bYes, wipeE, List.set_cons_zero, List.set_cons_succ, List.length_cons, List.length_nil, List.append_nil, List.nil_append, List.cons_append, List.append_assoc, Nat.zero_add, Nat.reduceAdd, Nat.reduceSub, Nat.reduceEqDiff, Nat.reduceLT, Nat.reduceLeDiff, Int.reduceNeg, true_and, and_true, and_self, if_true, if_false, Bool.not_true, Bool.not_false, Bool.false_eq_true, reduceIte, reduceCtorEq, decide_true, decide_false, ltD_int, leD_int, gtD_int, geD_int, subD_int, addD_int, intOf_int, absD_int, eqD_int, eqD_str, neD_str, neD_int, isN_non, truD_bl, eqD_bl, neD_bl, Option.map_some, Option.bind_some, small_0, small_1, small_2, small_3, small_4, small_5, small_6, small_7, small_8, eCaught, onX_e, sRaise, eLm, onLs_l, eFnE, eXg, onV_v, sWish, eDic0, eDisp, eChain, finX_self, st_app, st_len, fin_st, fin_stT, fin_self, ite_self, checkName_ok ha, checkName_ok hb, isi_bool, app_at0, app_set0, cl, putD, fin_appS, take_app, show (0 : Nat) < 1000 from by decide]
  rfl
theorem kept_at {d : D} : List.lookup ("kept" : Str) [(("kept" : Str), d)] = some d := by simp [List.lookup]
theorem fld_pipe : fldD (A.c "Pipe") "kept" S (pipeV A a b c) = some (.tup [.str a, .str b, .str c]) := by simp only [fldD, pipeV, if_true, kept_at]
theorem fld_meter : fldD (A.c "Meter") "kept" S (meterV A a b f) = some (.tup [.str a, .str b, .bl f]) := by simp only [fldD, meterV, if_true, kept_at]
theorem ixT0 {a b c : D} : ixD S (.tup [a, b, c]) (.int 0) = some a := rfl
theorem ixT1 {a b c : D} : ixD S (.tup [a, b, c]) (.int 1) = some b := rfl
theorem ixT2 {a b c : D} : ixD S (.tup [a, b, c]) (.int 2) = some c := rfl
theorem p_name : G_Pipe_name A [pipeV A a b c] S q x = q (.str a) S := by
  rw [D_Pipe_name]
  unfold fnD startE
  simp only [List.map_cons, List.map_nil, List.length_cons, List.length_nil, Nat.reduceAdd, Nat.reduceSub, List.replicate, List.cons_append, List.nil_append, List.append_nil, Nat.zero_add]
  unfold B_Pipe_name
  try simp -implicitDefEqProofs only [eVar, eC, eOp, eUn, aNil, aCons, eSeq, eCall, eFn, bBl, onB_bl, bTru, eNotT, bAnd, bOr, bNot, eAnd, eOr, eIf, bChain, iteB_t, iteB_f, sNil, sSeq, sRet, sDrop, sAsg, sIf, sBreak, sCont, sAsgG, sPar2, sPar3, sSetIx, sPairSet, sAppend, onL, onI_i, onT_s, onTu_t, onCe_c, on1_, on2_, on3_, onLst_l, onOb_o, onSeq_l, onSeq_r, onSeq_c, lkD_s, lkD_n, lkO_s, lkO_n, finO, sFldD, setFD, eProp, isOb_obj, eMake, eMakeK, eMakeL, eLc, eNew, eSl, oNone, oSome, eOpM, eCallM, eCm, eCmK, eOpT, jNil, jCons, eJoin, aStar, sCalm, sFor, iRange1, iSeq, iTupD, iStrD, iEnumT, tName, tTup_t, tsCons_c, tsNil_n, any_t, onS_some, look0, look1, look2, look3, look4, look5, look6, look7, look8, look9, look10, look11, look12, look13, look14, look15, bYes, wipeE, List.set_cons_zero, List.set_cons_succ, List.length_cons, List.length_nil, List.append_nil, List.nil_append, List.cons_append, List.append_assoc, Nat.zero_add, Nat.reduceAdd, Nat.reduceSub, Nat.reduceEqDiff, Nat.reduceLT, Nat.reduceLeDiff, Int.reduceNeg, true_and, and_true, and_self, if_true, if_false, Bool.not_true, Bool.not_false, Bool.false_eq_true, reduceIte, reduceCtorEq, decide_true, decide_false, ltD_int, leD_int, gtD_int, geD_int, subD_int, addD_int, intOf_int, absD_int, eqD_int, eqD_str, neD_str, neD_int, isN_non, truD_bl, eqD_bl, neD_bl, Option.map_some, Option.bind_some, small_0, small_1, small_2, small_3, small_4, small_5, small_6, small_7, small_8, eCaught, onX_e, sRaise, eLm, onLs_l, eFnE, eXg, onV_v, sWish, eDic0, eDisp, eChain, finX_self, st_app, st_len, fin_st, fin_stT, fin_self, ite_self, fld_pipe, ixT0]
theorem p_start : G_Pipe_start A [pipeV A a b c] S q x = q (.str b) S := by
  rw [D_Pipe_start]
  unfold fnD startE
  simp only [List.map_cons, List.map_nil, List.length_cons, List.length_nil, Nat.reduceAdd, Nat.reduceSub, List.replicate, List.cons_append, List.nil_append, List.append_nil, Nat.zero_add]
  unfold B_Pipe_start
  try simp -implicitDefEqProofs only [eVar, eC, eOp, eUn, aNil, aCons, eSeq, eCall, eFn, bBl, onB_bl, bTru, eNotT, bAnd, bOr, bNot, eAnd, eOr, eIf, bChain, iteB_t, iteB_f, sNil, sSeq, sRet, sDrop, sAsg, sIf, sBreak, sCont, sAsgG, sPar2, sPar3, sSetIx, sPairSet, sAppend, onL, onI_i, onT_s, onTu_t, onCe_c, on1_, on2_, on3_, onLst_l, onOb_o, onSeq_l, onSeq_r, onSeq_c, lkD_s, lkD_n, lkO_s, lkO_n, finO, sFldD, setFD, eProp, isOb_obj, eMake, eMakeK, eMakeL, eLc, eNew, eSl, oNone, oSome, eOpM, eCallM, eCm, eCmK, eOpT, jNil, jCons, eJoin, aStar, sCalm, sFor, iRange1, iSeq, iTupD, iStrD, iEnumT, tName, tTup_t, tsCons_c, tsNil_n, any_t, onS_some, look0, look1, look2, look3, look4, look5, look6, look7, look8, look9, look10, look11, look12, look13, look14, look15, bYes, wipeE, List.set_cons_zero, List.set_cons_succ, List.length_cons, List.length_nil, List.append_nil, List.nil_append, List.cons_append, List.append_assoc, Nat.zero_add, Nat.reduceAdd, Nat.reduceSub, Nat.reduceEqDiff, Nat.reduceLT, Nat.reduceLeDiff, Int.reduceNeg, true_and, and_true, and_self, if_true, if_false, Bool.not_true, Bool.not_false, Bool.false_eq_true, reduceIte, reduceCtorEq, decide_true, decide_false, ltD_int, leD_int, gtD_int, geD_int, subD_int, addD_int, intOf_int, absD_int, eqD_int, eqD_str, neD_str, neD_int, isN_non, truD_bl, eqD_bl, neD_bl, Option.map_some, Option.bind_some, small_0, small_1, small_2, small_3, small_4, small_5, small_6, small_7, small_8, eCaught, onX_e, sRaise, eLm, onLs_l, eFnE, eXg, onV_v, sWish, eDic0, eDisp, eChain, finX_self, st_app, st_len, fin_st, fin_stT, fin_self, ite_self, fld_pipe, ixT1]
theorem p_end : G_Pipe_end A [pipeV A a b c] S q x = q (.str c) S := by
  rw [D_Pipe_end]
  unfold fnD startE
  simp only [List.map_cons, List.map_nil, List.length_cons, List.length_nil, Nat.reduceAdd, Nat.reduceSub, List.replicate, List.cons_append, List.nil_append, List.append_nil, Nat.zero_add]
  unfold B_Pipe_end
  try simp -implicitDefEqProofs only [eVar, eC, eOp, eUn, aNil, aCons, eSeq, eCall, eFn, bBl, onB_bl, bTru, eNotT, bAnd, bOr, bNot, eAnd, eOr, eIf, bChain, iteB_t, iteB_f, sNil, sSeq, sRet, sDrop, sAsg, sIf, sBreak, sCont, sAsgG, sPar2, sPar3, sSetIx, sPairSet, sAppend, onL, onI_i, onT_s, onTu_t, onCe_c, on1_, on2_, on3_, onLst_l, onOb_o, onSeq_l, onSeq_r, onSeq_c, lkD_s, lkD_n, lkO_s, lkO_n, finO, sFldD, setFD, eProp, isOb_obj, eMake, eMakeK, eMakeL, eLc, eNew, eSl, oNone, oSome, eOpM, eCallM, eCm, eCmK, eOpT, jNil, jCons, eJoin, aStar, sCalm, sFor, iRange1, iSeq, iTupD, iStrD, iEnumT, tName, tTup_t, tsCons_c, tsNil_n, any_t, onS_some, look0, look1, look2, look3, look4, look5, look6, look7, look8, look9, look10, look11, look12, look13, look14, look15, bYes, wipeE, List.set_cons_zero, List.set_cons_succ, List.length_cons, List.length_nil, List.append_nil, List.nil_append, List.cons_append, List.append_assoc, Nat.zero_add, Nat.reduceAdd, Nat.reduceSub, Nat.reduceEqDiff, Nat.reduceLT, Nat.reduceLeDiff, Int.reduceNeg, true_and, and_true, and_self, if_true, if_false, Bool.not_true, Bool.not_false, Bool.false_eq_true, reduceIte, reduceCtorEq, decide_true, decide_false, ltD_int, leD_int, gtD_int, geD_int, subD_int, addD_int, intOf_int, absD_int, eqD_int, eqD_str, neD_str, neD_int, isN_non, truD_bl, eqD_bl, neD_bl, Option.map_some, Option.bind_some, small_0, small_1, small_2, small_3, small_4, small_5, small_6, small_7, small_8, eCaught, onX_e, sRaise, eLm, onLs_l, eFnE, eXg, onV_v, sWish, eDic0, eDisp, eChain, finX_self, st_app, st_len, fin_st, fin_stT, fin_self, ite_self, fld_pipe, ixT2]
theorem m_name : G_Meter_name A [meterV A a b f] S q x = q (.str a) S := by
  rw [D_Meter_name]
  unfold fnD startE
  simp only [List.map_cons, List.map_nil, List.length_cons, List.length_nil, Nat.reduceAdd, Nat.reduceSub, List.replicate, List.cons_append, List.nil_append, List.append_nil, Nat.zero_add]
  unfold B_Meter_name
  try simp -implicitDefEqProofs only [eVar, eC, eOp, eUn, aNil, aCons, eSeq, eCall, eFn, bBl, onB_bl, bTru, eNotT, bAnd, bOr, bNot, eAnd, eOr, eIf, bChain, iteB_t, iteB_f, sNil, sSeq, sRet, sDrop, sAsg, sIf, sBreak, sCont, sAsgG, sPar2, sPar3, sSetIx, sPairSet, sAppend, onL, onI_i, onT_s, onTu_t, onCe_c, on1_, on2_, on3_, onLst_l, onOb_o, onSeq_l, onSeq_r, onSeq_c, lkD_s, lkD_n, lkO_s, lkO_n, finO, sFldD, setFD, eProp, isOb_obj, eMake, eMakeK, eMakeL, eLc, eNew, eSl, oNone, oSome, eOpM, eCallM, eCm, eCmK, eOpT, jNil, jCons, eJoin, aStar, sCalm, sFor, iRange1, iSeq, iTupD, iStrD, iEnumT, tName, tTup_t, tsCons_c, tsNil_n, any_t, onS_some, look0, look1, look2, look3, look4, look5, look6, look7, look8, look9, look10, look11, look12, look13, look14, look15, bYes, wipeE, List.set_cons_zero, List.set_cons_succ, List.length_cons, List.length_nil, List.append_nil, List.nil_append, List.cons_append, List.append_assoc, Nat.zero_add, Nat.reduceAdd, Nat.reduceSub, Nat.reduceEqDiff, Nat.reduceLT, Nat.reduceLeDiff, Int.reduceNeg, true_and, and_true, and_self, if_true, if_false, Bool.not_true, Bool.not_false, Bool.false_eq_true, reduceIte, reduceCtorEq, decide_true, decide_false, ltD_int, leD_int, gtD_int, geD_int, subD_int, addD_int, intOf_int, absD_int, eqD_int, eqD_str, neD_str, neD_int, isN_non, truD_bl, eqD_bl, neD_bl, Option.map_some, Option.bind_some, small_0, small_1, small_2, small_3, small_4, small_5, small_6, small_7, small_8, eCaught, onX_e, sRaise, eLm, onLs_l, eFnE, eXg, onV_v, sWish, eDic0, eDisp, eChain, finX_self, st_app, st_len, fin_st, fin_stT, fin_self, ite_self, fld_meter, ixT0]
theorem m_at : G_Meter_at A [meterV A a b f] S q x = q (.str b) S := by
  rw [D_Meter_at]
  unfold fnD startE
  simp only [List.map_cons, List.map_nil, List.length_cons, List.length_nil, Nat.reduceAdd, Nat.reduceSub, List.replicate, List.cons_append, List.nil_append, List.append_nil, Nat.zero_add]
  unfold B_Meter_at
  try simp -implicitDefEqProofs only [eVar, eC, eOp, eUn, aNil, aCons, eSeq, eCall, eFn, bBl, onB_bl, bTru, eNotT, bAnd, bOr, bNot, eAnd, eOr, eIf, bChain, iteB_t, iteB_f, sNil, sSeq, sRet, sDrop, sAsg, sIf, sBreak, sCont, sAsgG, sPar2, sPar3, sSetIx, sPairSet, sAppend, onL, onI_i, onT_s, onTu_t, onCe_c, on1_, on2_, on3_, onLst_l, onOb_o, onSeq_l, onSeq_r, onSeq_c, lkD_s, lkD_n, lkO_s, lkO_n, finO, sFldD, setFD, eProp, isOb_obj, eMake, eMakeK, eMakeL, eLc, eNew, eSl, oNone, oSome, eOpM, eCallM, eCm, eCmK, eOpT, jNil, jCons, eJoin, aStar, sCalm, sFor, iRange1, iSeq, iTupD, iStrD, iEnumT, tName, tTup_t, tsCons_c, tsNil_n, any_t, onS_some, look0, look1, look2, look3, look4, look5, look6, look7, look8, look9, look10, look11, look12, look13, look14, look15, bYes, wipeE, List.set_cons_zero, List.set_cons_succ, List.length_cons, List.length_nil, List.append_nil, List.nil_append, List.cons_append, List.append_assoc, Nat.zero_add, Nat.reduceAdd, Nat.reduceSub, Nat.reduceEqDiff, Nat.reduceLT, Nat.reduceLeDiff, Int.reduceNeg, true_and, and_true, and_self, if_true, if_false, Bool.not_true, Bool.not_false, Bool.false_eq_true, reduceIte, reduceCtorEq, decide_true, decide_false, ltD_int, leD_int, gtD_int, geD_int, subD_int, addD_int, intOf_int, absD_int, eqD_int, eqD_str, neD_str, neD_int, isN_non, truD_bl, eqD_bl, neD_bl, Option.map_some, Option.bind_some, small_0, small_1, small_2, small_3, small_4, small_5, small_6, small_7, small_8, eCaught, onX_e, sRaise, eLm, onLs_l, eFnE, eXg, onV_v, sWish, eDic0, eDisp, eChain, finX_self, st_app, st_len, fin_st, fin_stT, fin_self, ite_self, fld_meter, ixT1]
theorem m_sealed : G_Meter_sealed A [meterV A a b f] S q x = q (.bl f) S := by
  rw [D_Meter_sealed]
  unfold fnD startE
  simp only [List.map_cons, List.map_nil, List.length_cons, List.length_nil, Nat.reduceAdd, Nat.reduceSub, List.replicate, List.cons_append, List.nil_append, List.append_nil, Nat.zero_add]
  unfold B_Meter_sealed
  try simp -implicitDefEqProofs only [eVar, eC, eOp, eUn, aNil, aCons, eSeq, eCall, eFn, bBl, onB_bl, bTru, eNotT, bAnd, bOr, bNot, eAnd, eOr, eIf, bChain, iteB_t, iteB_f, sNil, sSeq, sRet, sDrop, sAsg, sIf, sBreak, sCont, sAsgG, sPar2, sPar3, sSetIx, sPairSet, sAppend, onL, onI_i, onT_s, onTu_t, onCe_c, on1_, on2_, on3_, onLst_l, onOb_o, onSeq_l, onSeq_r, onSeq_c, lkD_s, lkD_n, lkO_s, lkO_n, finO, sFldD, setFD, eProp, isOb_obj, eMake, eMakeK, eMakeL, eLc, eNew, eSl, oNone, oSome, eOpM, eCallM, eCm, eCmK, eOpT, jNil, jCons, eJoin, aStar, sCalm, sFor, iRange1, iSeq, iTupD, iStrD, iEnumT, tName, tTup_t, tsCons_c, tsNil_n, any_t, onS_some, look0, look1, look2, look3, look4, look5, look6, look7, look8, look9, look10, look11, look12, look13, look14, look15, bYes, wipeE, List.set_cons_zero, List.set_cons_succ, List.length_cons, List.length_nil, List.append_nil, List.nil_append, List.cons_append, List.append_assoc, Nat.zero_add, Nat.reduceAdd, Nat.reduceSub, Nat.reduceEqDiff, Nat.reduceLT, Nat.reduceLeDiff, Int.reduceNeg, true_and, and_true, and_self, if_true, if_false, Bool.not_true, Bool.not_false, Bool.false_eq_true, reduceIte, reduceCtorEq, decide_true, decide_false, ltD_int, leD_int, gtD_int, geD_int, subD_int, addD_int, intOf_int, absD_int, eqD_int, eqD_str, neD_str, neD_int, isN_non, truD_bl, eqD_bl, neD_bl, Option.map_some, Option.bind_some, small_0, small_1, small_2, small_3, small_4, small_5, small_6, small_7, small_8, eCaught, onX_e, sRaise, eLm, onLs_l, eFnE, eXg, onV_v, sWish, eDic0, eDisp, eChain, finX_self, st_app, st_len, fin_st, fin_stT, fin_self, ite_self, fld_meter, ixT2]
theorem isOb_p : isOb (A.c "Pipe") S (pipeV A a b c) = True := by simp [isOb, pipeV]
theorem isOb_m : isOb (A.c "Meter") S (meterV A a b f) = True := by simp [isOb, meterV]
end
end RV
end
section
/-! repr of plain data. -/
namespace RV
open PySem L2
structure ShOk (k w : Nat) (p : PyData) : Prop where
  sh : p.showable = true
  nd : p.hasDict = false
  dp : p.depth ≤ k
  ls : p.leavesShort 60 = true
  wt : p.weight ≤ w
section
variable {k w : Nat} {xs : List PyData}
structure ShAll (k w : Nat) (xs : List PyData) : Prop where
  sh : PyData.showableAll xs = true
  nd : PyData.hasDictAll xs = false
  dp : PyData.depthAll xs ≤ k
  ls : PyData.leavesShortAll 60 xs = true
  wt : PyData.weightAll xs ≤ (w + 1) * xs.length
theorem ShAll.of : ∀ {xs : List PyData}, (∀ x ∈ xs, ShOk k w x) → ShAll k w xs
  | [], _ => ⟨rfl, rfl, Nat.zero_le _, rfl, Nat.zero_le _⟩
  | x :: xs, h => by
    have a := h x (List.mem_cons_self ..)
    have b := ShAll.of fun y hy => h y (List.mem_cons_of_mem _ hy)
    refine ⟨?_, ?_, ?_, ?_, ?_⟩
    · simp [PyData.showableAll, a.sh, b.sh]
    · simp [PyData.hasDictAll, a.nd, b.nd]
    · have := a.dp
      have := b.dp
      simp only [PyData.depthAll]
      omega
    · simp [PyData.leavesShortAll, a.ls, b.ls]
    · have h1 := a.wt
      have h2 := b.wt
      simp only [PyData.weightAll, List.length_cons, Nat.mul_succ]
      omega
theorem ShOk.list (h : ∀ x ∈ xs, ShOk k w x) : ShOk (k + 1) ((w + 1) * xs.length) (.list xs) := by
  have a := ShAll.of h
  refine ⟨?_, ?_, ?_, ?_, ?_⟩
  · simpa only [PyData.showable] using a.sh
  · simpa only [PyData.hasDict] using a.nd
  · have := a.dp
    simp only [PyData.depth]
    omega
  · simpa only [PyData.leavesShort] using a.ls
  · simpa only [PyData.weight] using a.wt
theorem ShOk.tuple (h : ∀ x ∈ xs, ShOk k w x) : ShOk (k + 1) ((w + 1) * xs.length) (.tuple xs) := by
  have a := ShAll.of h
  refine ⟨?_, ?_, ?_, ?_, ?_⟩
  · simpa only [PyData.showable] using a.sh
  · simpa only [PyData.hasDict] using a.nd
  · have := a.dp
    simp only [PyData.depth]
    omega
  · simpa only [PyData.leavesShort] using a.ls
  · simpa only [PyData.weight] using a.wt
theorem ShOk.mono {k' w' : Nat} {p : PyData} (h : ShOk k w p) (hk : k ≤ k') (hw : w ≤ w') : ShOk k' w' p := ⟨h.sh, h.nd, Nat.le_trans h.dp hk, h.ls, Nat.le_trans h.wt hw⟩
theorem ShOk.bool {b : Bool} : ShOk k w (.bool b) := ⟨rfl, rfl, Nat.zero_le _, rfl, Nat.zero_le _⟩
theorem ShOk.str {s : Str} (hs : PyData.strOk s = true) (hl : s.length ≤ w) : ShOk k w (.str s) := by
  refine ⟨rfl, rfl, Nat.zero_le _, ?_, hl⟩
  unfold PyData.strOk at hs
  rw [← Array.all_toList, List.all_eq_true] at hs
  simp only [PyData.leavesShort, List.all_eq_true]
  intro c hc
  have := of_decide_eq_true (hs c hc)
  exact decide_eq_true (Nat.lt_of_lt_of_le this (by decide))
theorem ShOk.nm {s : Str} (h : Nm s) : ShOk k 8 (.str s) := ShOk.str (nm_strOk h) (nm_len h).2
theorem repr_ok {S : WS} {d : D} {p : PyData} (hp : D.py d = some p) (h : ShOk k w p) (hk : k ≤ 64) (hw : w ≤ 200000) : reprD S [d] = some (.str p.shown) := by
  have h1 := PyData.shown_le 60 (by decide) p h.ls
  have h2 : p.shown.length ≤ sizeLine := by
    have e : sizeLine = 16777216 := by decide
    have := h.wt
    omega
  have h3 : p.depth ≤ 64 := Nat.le_trans h.dp hk
  simp only [reprD, hp, Option.bind_some, h.sh, h.nd, h2, h3, and_self, if_true]
theorem pyL_map {α : Type} {g : α → D} {g' : α → PyData} (h : ∀ a, D.py (g a) = some (g' a)) : ∀ xs : List α, D.pyL (xs.map g) = some (xs.map g')
  | [] => rfl
  | a :: xs => by simp [D.pyL, h a, pyL_map h xs]
end
end RV
end
section
/-! Plain values and their texts. -/
namespace RV
open PySem L2
/-! ### the text of a text has good signs -/
theorem char_lt (c : Char) : c.toNat < 0x110000 := by
  have := c.valid
  unfold Char.toNat
  rcases this with h | h
  · have : c.val.toNat < 0xd800 := h
    omega
  · exact h.2
theorem reprChar_lt {q c d : Nat} (hq : q < 128) (hc : c < 0x110000) (h : d ∈ Builtin.Str.reprChar q c) : d < 0x110000 := by
  have hex : ∀ w, d ∈ List.replicate (w - ((Nat.toDigits 16 c).map Char.toNat).length) 48 ++ (Nat.toDigits 16 c).map Char.toNat → d < 0x110000 := fun w h => by
    rcases List.mem_append.mp h with h | h
    · rw [(List.mem_replicate.mp h).2]
      decide
    · obtain ⟨e, _, rfl⟩ := List.mem_map.mp h
      exact char_lt e
  unfold Builtin.Str.reprChar at h
  dsimp only at h
  repeat' split at h
  all_goals first
    | (simp only [List.mem_cons, List.not_mem_nil, or_false] at h
       omega)
    | (rcases List.mem_append.mp h with z | z
       · simp only [List.mem_cons, List.not_mem_nil, or_false] at z
         omega
       · exact hex _ z)
theorem foldl_mem {q d : Nat} : ∀ (l : List Nat) (acc : Array Nat), d ∈ (l.foldl (fun out c => out ++ (Builtin.Str.reprChar q c).toArray) acc) → d ∈ acc ∨ ∃ c ∈ l, d ∈ Builtin.Str.reprChar q c
  | [], acc, h => .inl h
  | c :: r, acc, h => by
    rw [List.foldl_cons] at h
    rcases foldl_mem r _ h with z | ⟨e, he, z⟩
    · rcases Array.mem_append.mp z with z | z
      · exact .inl z
      · exact .inr ⟨c, List.mem_cons_self .., by simpa using z⟩
    · exact .inr ⟨e, List.mem_cons_of_mem _ he, z⟩
theorem quote_lt {x : Str} : reprQuote x < 128 := by
  unfold reprQuote
  split <;> decide
theorem strOk_lt {x : Str} (h : PyData.strOk x = true) : ∀ c ∈ x.cps.toList, c < 0x110000 := fun c hc => by
  unfold PyData.strOk at h
  rw [← Array.all_toList, List.all_eq_true] at h
  exact of_decide_eq_true (h c hc)
theorem strOk_of {x : Str} (h : ∀ c ∈ x.cps.toList, c < 0x110000) : PyData.strOk x = true := by
  unfold PyData.strOk
  rw [← Array.all_toList, List.all_eq_true]
  exact fun c hc => decide_eq_true (h c hc)
theorem strOk_repr {x : Str} (h : PyData.strOk x = true) : PyData.strOk (PyData.str x).shown = true := by
  refine strOk_of fun d hd => ?_
  have hd : d ∈ (reprText x).cps.toList := hd
  unfold reprText at hd
  simp only [Array.toList_push, List.mem_append, List.mem_singleton] at hd
  rcases hd with hd | hd
  · rw [← Array.foldl_toList] at hd
    rcases foldl_mem _ _ (Array.mem_toList_iff.mp hd) with z | ⟨c, hc, z⟩
    · have : d = reprQuote x := by simpa using z
      rw [this]
      exact Nat.lt_trans quote_lt (by decide)
    · exact reprChar_lt quote_lt (strOk_lt h c hc) z
  · rw [hd]
    exact Nat.lt_trans quote_lt (by decide)
/-! ### plain values -/
def plainT : List Value := [.type "NoneType", .type "bool", .type "int", .type "str", .type "tuple", .type "list", .type "dict"]
/-- a plain value, its kind, its text -/
structure Vl (A : Ad) (d : D) (t : Value) (r : Str) : Prop where
  k : kindD (own A) d = some t
  p : t ∈ plainT
  rp : ∀ S, reprD2 S [d] = some (.str r)
  ok : PyData.strOk r = true
  cl : ∀ n, D.clean n d = true
  sm : ∀ s, d = .str s → small s.length = true
  st : t = .type "str" → ∃ s, d = .str s
section
variable {A : Ad} {S : WS} {d : D} {t : Value} {r : Str} {n : String} {q : D → WS → Prop} {x : Xq}
theorem plain_kinds (h : t ∈ plainT) : t ∈ kinds A := List.mem_append_left _ h
theorem plain_ref (h : t ∈ plainT) (a : Addr) : t ≠ .ref a := fun z => by
  subst z
  simp [plainT] at h
theorem isi_plain (h : Vl A d t r) (hn : n ∈ A.here) : isiD (own A) (tab A) S [d, .adr (A.c n)] = some (.bl false) := by
  rw [isi_of h.k rfl (plain_kinds h.p) (ref_clss hn)]
  simp [sub, plain_ref h.p]
theorem Vl.str {s : Str} (h1 : PyData.strOk s = true) (h2 : s.length ≤ 1000) : Vl A (.str s) (.type "str") (PyData.str s).shown :=
  ⟨rfl, by simp [plainT], fun S => (show reprD2 S [.str s] = reprD S [.str s] from rfl).trans (repr_ok (k := 0) (w := 1000) (p := .str s) rfl (ShOk.str h1 h2) (by decide) (by decide)), strOk_repr h1, fun _ => rfl, fun s' e => by cases e; exact small_of (by omega), fun _ => ⟨s, rfl⟩⟩
/-! ### is it a name -/
def nmD : D → Bool
  | .str s => nmB s
  | _ => false
theorem isi_ty (h : Vl A d t r) {u : String} (hu : Value.type u ∈ clss A) : isiD (own A) (tab A) S [d, .ty u] = some (.bl (sub A t (.type u))) := isi_of h.k rfl (plain_kinds h.p) hu
theorem isi_nostr (h : Vl A d t r) (hs : t ≠ .type "str") : isiD (own A) (tab A) S [d, .ty "str"] = some (.bl false) := by
  rw [isi_ty h (by simp [clss])]
  simp [sub, hs]
theorem nmD_no (h : Vl A d t r) (hs : t ≠ .type "str") : nmD d = false := by
  cases d with
  | str s => cases h.k; exact absurd rfl hs
  | _ => rfl
theorem isNameV (h : Vl A d t r) : G_is_name A [d] S q x = q (.bl (nmD d)) S := by
  by_cases hs : t = .type "str"
  · obtain ⟨s, rfl⟩ := h.st hs
    exact isName_eq (h.sm s rfl)
  · rw [nmD_no h hs]
    rw [D_is_name]
    unfold fnD startE
    simp only [List.map_cons, List.map_nil, List.length_cons, List.length_nil, Nat.reduceAdd, Nat.reduceSub, List.replicate, List.cons_append, List.nil_append, List.append_nil, Nat.zero_add]
    unfold B_is_name
    try simp -implicitDefEqProofs only [eVar, eC, eOp, eUn, aNil, aCons, eSeq, eCall, eFn, bBl, onB_bl, bTru, eNotT, bAnd, bOr, bNot, eAnd, eOr, eIf, bChain, iteB_t, iteB_f, sNil, sSeq, sRet, sDrop, sAsg, sIf, sBreak, sCont, sAsgG, sPar2, sPar3, sSetIx, sPairSet, sAppend, onL, onI_i, onT_s, onTu_t, onCe_c, on1_, on2_, on3_, onLst_l, onOb_o, onSeq_l, onSeq_r, onSeq_c, lkD_s, lkD_n, lkO_s, lkO_n, finO, sFldD, setFD, eProp, isOb_obj, eMake, eMakeK, eMakeL, eLc, eNew, eSl, oNone, oSome, eOpM, eCallM, eCm, eCmK, eOpT, jNil, jCons, eJoin, aStar, sCalm, sFor, iRange1, iSeq, iTupD, iStrD, iEnumT, tName, tTup_t, tsCons_c, tsNil_n, any_t, onS_some, look0, look1, look2, look3, look4, look5, look6, look7, look8, look9, look10, look11, look12, look13, look14, look15, bYes, wipeE, List.set_cons_zero, List.set_cons_succ, List.length_cons, List.length_nil, List.append_nil, List.nil_append, List.cons_append, List.append_assoc, Nat.zero_add, Nat.reduceAdd, Nat.reduceSub, Nat.reduceEqDiff, Nat.reduceLT, Nat.reduceLeDiff, Int.reduceNeg, true_and, and_true, and_self, if_true, if_false, Bool.not_true, Bool.not_false, Bool.false_eq_true, reduceIte, reduceCtorEq, decide_true, decide_false, ltD_int, leD_int, gtD_int, geD_int, subD_int, addD_int, intOf_int, absD_int, eqD_int, eqD_str, neD_str, neD_int, isN_non, truD_bl, eqD_bl, neD_bl, Option.map_some, Option.bind_some, small_0, small_1, small_2, small_3, small_4, small_5, small_6, small_7, small_8, eCaught, onX_e, sRaise, eLm, onLs_l, eFnE, eXg, onV_v, sWish, eDic0, eDisp, eChain, finX_self, st_app, st_len, fin_st, fin_stT, fin_self, ite_self, isi_nostr h hs]
theorem checkNameT (h : Vl A d t r) (hn : nmD d = true) : G_check_name A [d] S q x = q .non S := by
  rw [D_check_name]
  unfold fnD startE
  simp only [List.map_cons, List.map_nil, List.length_cons, List.length_nil, Nat.reduceAdd, Nat.reduceSub, List.replicate, List.cons_append, List.nil_append, List.append_nil, Nat.zero_add]
  unfold B_check_name
  try simp -implicitDefEqProofs only [eVar, eC, eOp, eUn, aNil, aCons, eSeq, eCall, eFn, bBl, onB_bl, bTru, eNotT, bAnd, bOr, bNot, eAnd, eOr, eIf, bChain, iteB_t, iteB_f, sNil, sSeq, sRet, sDrop, sAsg, sIf, sBreak, sCont, sAsgG, sPar2, sPar3, sSetIx, sPairSet, sAppend, onL, onI_i, onT_s, onTu_t, onCe_c, on1_, on2_, on3_, onLst_l, onOb_o, onSeq_l, onSeq_r, onSeq_c, lkD_s, lkD_n, lkO_s, lkO_n, finO, sFldD, setFD, eProp, isOb_obj, eMake, eMakeK, eMakeL, eLc, eNew, eSl, oNone, oSome, eOpM, eCallM, eCm, eCmK, eOpT, jNil, jCons, eJoin, aStar, sCalm, sFor, iRange1, iSeq, iTupD, iStrD, iEnumT, tName, tTup_t, tsCons_c, tsNil_n, any_t, onS_some, look0, look1, look2, look3, look4, look5, look6, look7, look8, look9, look10, look11, look12, look13, look14, look15, bYes, wipeE, List.set_cons_zero, List.set_cons_succ, List.length_cons, List.length_nil, List.append_nil, List.nil_append, List.cons_append, List.append_assoc, Nat.zero_add, Nat.reduceAdd, Nat.reduceSub, Nat.reduceEqDiff, Nat.reduceLT, Nat.reduceLeDiff, Int.reduceNeg, true_and, and_true, and_self, if_true, if_false, Bool.not_true, Bool.not_false, Bool.false_eq_true, reduceIte, reduceCtorEq, decide_true, decide_false, ltD_int, leD_int, gtD_int, geD_int, subD_int, addD_int, intOf_int, absD_int, eqD_int, eqD_str, neD_str, neD_int, isN_non, truD_bl, eqD_bl, neD_bl, Option.map_some, Option.bind_some, small_0, small_1, small_2, small_3, small_4, small_5, small_6, small_7, small_8, eCaught, onX_e, sRaise, eLm, onLs_l, eFnE, eXg, onV_v, sWish, eDic0, eDisp, eChain, finX_self, st_app, st_len, fin_st, fin_stT, fin_self, ite_self, isNameV h, hn]
theorem checkNameF (h : Vl A d t r) (hn : nmD d = false) : G_check_name A [d] S q x = x (.exc (A.c "InvalidName") [("given", d)]) S := by
  rw [D_check_name]
  unfold fnD startE
  simp only [List.map_cons, List.map_nil, List.length_cons, List.length_nil, Nat.reduceAdd, Nat.reduceSub, List.replicate, List.cons_append, List.nil_append, List.append_nil, Nat.zero_add]
  unfold B_check_name
  try simp -implicitDefEqProofs only [eVar, eC, eOp, eUn, aNil, aCons, eSeq, eCall, eFn, bBl, onB_bl, bTru, eNotT, bAnd, bOr, bNot, eAnd, eOr, eIf, bChain, iteB_t, iteB_f, sNil, sSeq, sRet, sDrop, sAsg, sIf, sBreak, sCont, sAsgG, sPar2, sPar3, sSetIx, sPairSet, sAppend, onL, onI_i, onT_s, onTu_t, onCe_c, on1_, on2_, on3_, onLst_l, onOb_o, onSeq_l, onSeq_r, onSeq_c, lkD_s, lkD_n, lkO_s, lkO_n, finO, sFldD, setFD, eProp, isOb_obj, eMake, eMakeK, eMakeL, eLc, eNew, eSl, oNone, oSome, eOpM, eCallM, eCm, eCmK, eOpT, jNil, jCons, eJoin, aStar, sCalm, sFor, iRange1, iSeq, iTupD, iStrD, iEnumT, tName, tTup_t, tsCons_c, tsNil_n, any_t, onS_some, look0, look1, look2, look3, look4, look5, look6, look7, look8, look9, look10, look11, look12, look13, look14, look15, bYes, wipeE, List.set_cons_zero, List.set_cons_succ, List.length_cons, List.length_nil, List.append_nil, List.nil_append, List.cons_append, List.append_assoc, Nat.zero_add, Nat.reduceAdd, Nat.reduceSub, Nat.reduceEqDiff, Nat.reduceLT, Nat.reduceLeDiff, Int.reduceNeg, true_and, and_true, and_self, if_true, if_false, Bool.not_true, Bool.not_false, Bool.false_eq_true, reduceIte, reduceCtorEq, decide_true, decide_false, ltD_int, leD_int, gtD_int, geD_int, subD_int, addD_int, intOf_int, absD_int, eqD_int, eqD_str, neD_str, neD_int, isN_non, truD_bl, eqD_bl, neD_bl, Option.map_some, Option.bind_some, small_0, small_1, small_2, small_3, small_4, small_5, small_6, small_7, small_8, eCaught, onX_e, sRaise, eLm, onLs_l, eFnE, eXg, onV_v, sWish, eDic0, eDisp, eChain, finX_self, st_app, st_len, fin_st, fin_stT, fin_self, ite_self, isNameV h, hn]
end
end RV
end
section
/-! What the law sees of a value, says of an error, catches. -/
namespace RV
open PySem L2
/-- the classes of errors are told apart -/
def ErrsA (A : Ad) : Prop := ∀ m n, m ∈ errAll → n ∈ errAll → A.c m = A.c n → m = n
theorem inj_of_nodup {A : Ad} : ∀ {l : List String}, (l.map A.c).Nodup → ∀ m n, m ∈ l → n ∈ l → A.c m = A.c n → m = n
  | [], _, m, n, hm, _, _ => nomatch hm
  | a :: l, h, m, n, hm, hn, e => by
    rw [List.map_cons, List.nodup_cons] at h
    rcases List.mem_cons.mp hm with rfl | hm'
    · rcases List.mem_cons.mp hn with rfl | hn'
      · rfl
      · exact absurd (List.mem_map.mpr ⟨n, hn', e.symm⟩) h.1
    · rcases List.mem_cons.mp hn with rfl | hn'
      · exact absurd (List.mem_map.mpr ⟨m, hm', e⟩) h.1
      · exact inj_of_nodup h.2 m n hm' hn' e
theorem find_inj {A : Ad} {m : String} {l : List String} : ∀ {anc : List (String × List String)}, (∀ p ∈ anc, A.c p.1 = A.c m → p.1 = m) → anc.find? (fun p => p.1 == m) = some (m, l) → anc.find? (fun p => A.c p.1 == A.c m) = some (m, l)
  | [], _, h => nomatch h
  | p :: anc, hi, h => by
    by_cases e : p.1 = m
    · rw [List.find?_cons_of_pos (by simpa using e)] at h
      rw [List.find?_cons_of_pos (by simp [e])]
      exact h
    · rw [List.find?_cons_of_neg (by simpa using e)] at h
      rw [List.find?_cons_of_neg (by simpa using fun z => e (hi p (List.mem_cons_self ..) z))]
      exact find_inj (fun q hq => hi q (List.mem_cons_of_mem _ hq)) h
/-- an error's class m, with its bases l -/
structure ErrC (m : String) (l : List String) : Prop where
  at_ : errAnc.find? (fun p => p.1 == m) = some (m, l)
  mem : m ∈ errNames
  anc : ∀ k ∈ l, k ∈ errAll
theorem anc_all : ∀ p ∈ errAnc, p.1 ∈ errAll := by decide +kernel
theorem names_all : ∀ p ∈ errNames, p ∈ errAll := by decide +kernel
section
variable {A : Ad} {S : WS} {m n : String} {l : List String} {a d : Addr} {fs : List (Str × D)} {q : D → WS → Prop} {x : Xq}
theorem isX_eq (hE : ErrsA A) (hm : ErrC m l) (hn : n ∈ errAll) : isXD a (A.c m) d (tbX A errAll errAnc (A.c m)) S [.exv a (A.c m) d fs, .adr (A.c n)] = some (.bl (decide (n ∈ l))) := by
  have h1 := find_inj (A := A) (fun p hp e => hE _ _ (anc_all p hp) (names_all _ hm.mem) e) hm.at_
  have h2 : Value.ref (A.c n) ∈ errAll.map fun n => Value.ref (A.c n) := List.mem_map.mpr ⟨n, hn, rfl⟩
  have h3 : (l.any fun k => Value.ref (A.c n) == Value.ref (A.c k)) = decide (n ∈ l) := by
    rw [Bool.eq_iff_iff, List.any_eq_true, decide_eq_true_eq]
    constructor
    · rintro ⟨k, hk, e⟩
      have e : A.c n = A.c k := by
        have := beq_iff_eq.mp e
        injection this
      rw [hE n k hn (hm.anc k hk) e]
      exact hk
    · exact fun h => ⟨n, h, beq_self_eq_true _⟩
  unfold isXD
  simp only [clsD, tbX, h1, Option.bind_some, h2, if_true, h3, and_self, Option.map_some]
end
/-! ### seen -/
/-- the classes of nets and sums are there -/
structure NetsS (A : Ad) : Prop extends NetsA A where
  s : "Sum" ∈ A.here
  sp : A.c "Sum" ≠ A.c "Pipe"
  sm : A.c "Sum" ≠ A.c "Meter"
  sn : A.c "Sum" ≠ A.c "Net"
section
variable {A : Ad} {S : WS} {v : D} {t : Value} {r a b c : Str} {f : Bool} {q : D → WS → Prop} {x : Xq}
theorem seen_plain (hA : NetsS A) (h : Vl A v t r) : G_seen_k10 A [v] S q x = q (.str r) S := by
  rw [D_seen_k10]
  unfold fnD startE
  simp only [List.map_cons, List.map_nil, List.length_cons, List.length_nil, Nat.reduceAdd, Nat.reduceSub, List.replicate, List.cons_append, List.nil_append, List.append_nil, Nat.zero_add]
  unfold B_seen_k10
  try simp -implicitDefEqProofs only [eVar, eC, eOp, eUn, aNil, aCons, eSeq, eCall, eFn, bBl, onB_bl, bTru, eNotT, bAnd, bOr, bNot, eAnd, eOr, eIf, bChain, iteB_t, iteB_f, sNil, sSeq, sRet, sDrop, sAsg, sIf, sBreak, sCont, sAsgG, sPar2, sPar3, sSetIx, sPairSet, sAppend, onL, onI_i, onT_s, onTu_t, onCe_c, on1_, on2_, on3_, onLst_l, onOb_o, onSeq_l, onSeq_r, onSeq_c, lkD_s, lkD_n, lkO_s, lkO_n, finO, sFldD, setFD, eProp, isOb_obj, eMake, eMakeK, eMakeL, eLc, eNew, eSl, oNone, oSome, eOpM, eCallM, eCm, eCmK, eOpT, jNil, jCons, eJoin, aStar, sCalm, sFor, iRange1, iSeq, iTupD, iStrD, iEnumT, tName, tTup_t, tsCons_c, tsNil_n, any_t, onS_some, look0, look1, look2, look3, look4, look5, look6, look7, look8, look9, look10, look11, look12, look13, look14, look15, bYes, wipeE, List.set_cons_zero, List.set_cons_succ, List.length_cons, List.length_nil, List.append_nil, List.nil_append, List.cons_append, List.append_assoc, Nat.zero_add, Nat.reduceAdd, Nat.reduceSub, Nat.reduceEqDiff, Nat.reduceLT, Nat.reduceLeDiff, Int.reduceNeg, true_and, and_true, and_self, if_true, if_false, Bool.not_true, Bool.not_false, Bool.false_eq_true, reduceIte, reduceCtorEq, decide_true, decide_false, ltD_int, leD_int, gtD_int, geD_int, subD_int, addD_int, intOf_int, absD_int, eqD_int, eqD_str, neD_str, neD_int, isN_non, truD_bl, eqD_bl, neD_bl, Option.map_some, Option.bind_some, small_0, small_1, small_2, small_3, small_4, small_5, small_6, small_7, small_8, eCaught, onX_e, sRaise, eLm, onLs_l, eFnE, eXg, onV_v, sWish, eDic0, eDisp, eChain, finX_self, st_app, st_len, fin_st, fin_stT, fin_self, ite_self, isi_plain h hA.p, isi_plain h hA.m, isi_plain h hA.n, isi_plain h hA.s, h.rp]
theorem seen_plain_h (hA : NetsS A) (h : Vl A v t r) : G_seen_k10_h A [v] S q x = q (.str r) S := by
  rw [D_seen_k10_h]
  unfold fnD startE
  simp only [List.map_cons, List.map_nil, List.length_cons, List.length_nil, Nat.reduceAdd, Nat.reduceSub, List.replicate, List.cons_append, List.nil_append, List.append_nil, Nat.zero_add]
  unfold B_seen_k10_h
  try simp -implicitDefEqProofs only [eVar, eC, eOp, eUn, aNil, aCons, eSeq, eCall, eFn, bBl, onB_bl, bTru, eNotT, bAnd, bOr, bNot, eAnd, eOr, eIf, bChain, iteB_t, iteB_f, sNil, sSeq, sRet, sDrop, sAsg, sIf, sBreak, sCont, sAsgG, sPar2, sPar3, sSetIx, sPairSet, sAppend, onL, onI_i, onT_s, onTu_t, onCe_c, on1_, on2_, on3_, onLst_l, onOb_o, onSeq_l, onSeq_r, onSeq_c, lkD_s, lkD_n, lkO_s, lkO_n, finO, sFldD, setFD, eProp, isOb_obj, eMake, eMakeK, eMakeL, eLc, eNew, eSl, oNone, oSome, eOpM, eCallM, eCm, eCmK, eOpT, jNil, jCons, eJoin, aStar, sCalm, sFor, iRange1, iSeq, iTupD, iStrD, iEnumT, tName, tTup_t, tsCons_c, tsNil_n, any_t, onS_some, look0, look1, look2, look3, look4, look5, look6, look7, look8, look9, look10, look11, look12, look13, look14, look15, bYes, wipeE, List.set_cons_zero, List.set_cons_succ, List.length_cons, List.length_nil, List.append_nil, List.nil_append, List.cons_append, List.append_assoc, Nat.zero_add, Nat.reduceAdd, Nat.reduceSub, Nat.reduceEqDiff, Nat.reduceLT, Nat.reduceLeDiff, Int.reduceNeg, true_and, and_true, and_self, if_true, if_false, Bool.not_true, Bool.not_false, Bool.false_eq_true, reduceIte, reduceCtorEq, decide_true, decide_false, ltD_int, leD_int, gtD_int, geD_int, subD_int, addD_int, intOf_int, absD_int, eqD_int, eqD_str, neD_str, neD_int, isN_non, truD_bl, eqD_bl, neD_bl, Option.map_some, Option.bind_some, small_0, small_1, small_2, small_3, small_4, small_5, small_6, small_7, small_8, eCaught, onX_e, sRaise, eLm, onLs_l, eFnE, eXg, onV_v, sWish, eDic0, eDisp, eChain, finX_self, st_app, st_len, fin_st, fin_stT, fin_self, ite_self, isi_plain h hA.p, isi_plain h hA.m, isi_plain h hA.n, isi_plain h hA.s, h.rp]
theorem addS {a b : Str} (h : a.length + b.length ≤ 100000) : addD S (.str a) (.str b) = some (.str (a ++ b)) := addD_str (small_of h)
def pipeT (a b c : Str) : Str := "pipe " ++ a ++ " " ++ b ++ " " ++ c
def blT (f : Bool) : Str := if f then "True" else "False"
def meterT (a b : Str) (f : Bool) : Str := "meter " ++ a ++ " " ++ b ++ " " ++ blT f
theorem lens : ("pipe " : Str).length = 5 ∧ ("meter " : Str).length = 6 ∧ (" " : Str).length = 1 := by decide +kernel
theorem bl_len : (blT f).length ≤ 5 := by cases f <;> decide +kernel
theorem seen_pipe (hA : NetsS A) (ha : a.length ≤ 8) (hb : b.length ≤ 8) (hc : c.length ≤ 8) : G_seen_k10 A [pipeV A a b c] S q x = q (.str (pipeT a b c)) S := by
  obtain ⟨l1, l2, l3⟩ := lens
  have e1 : addD S (.str "pipe ") (.str a) = some (.str ("pipe " ++ a)) := addS (by omega)
  have e2 : addD S (.str ("pipe " ++ a)) (.str " ") = some (.str ("pipe " ++ a ++ " ")) := addS (by simp only [cat_len]; omega)
  have e3 : addD S (.str ("pipe " ++ a ++ " ")) (.str b) = some (.str ("pipe " ++ a ++ " " ++ b)) := addS (by simp only [cat_len]; omega)
  have e4 : addD S (.str ("pipe " ++ a ++ " " ++ b)) (.str " ") = some (.str ("pipe " ++ a ++ " " ++ b ++ " ")) := addS (by simp only [cat_len]; omega)
  have e5 : addD S (.str ("pipe " ++ a ++ " " ++ b ++ " ")) (.str c) = some (.str ("pipe " ++ a ++ " " ++ b ++ " " ++ c)) := addS (by simp only [cat_len]; omega)
  have hi : isiD (own A) (tab A) S [pipeV A a b c, .adr (A.c "Pipe")] = some (.bl true) := by simp only [pipeV, isi_own hA.p hA.p, decide_true]
  rw [D_seen_k10]
  unfold fnD startE
  simp only [List.map_cons, List.map_nil, List.length_cons, List.length_nil, Nat.reduceAdd, Nat.reduceSub, List.replicate, List.cons_append, List.nil_append, List.append_nil, Nat.zero_add]
  unfold B_seen_k10
  try simp -implicitDefEqProofs only [eVar, eC, eOp, eUn, aNil, aCons, eSeq, eCall, eFn, bBl, onB_bl, bTru, eNotT, bAnd, bOr, bNot, eAnd, eOr, eIf, bChain, iteB_t, iteB_f, sNil, sSeq, sRet, sDrop, sAsg, sIf, sBreak, sCont, sAsgG, sPar2, sPar3, sSetIx, sPairSet, sAppend, onL, onI_i, onT_s, onTu_t, onCe_c, on1_, on2_, on3_, onLst_l, onOb_o, onSeq_l, onSeq_r, onSeq_c, lkD_s, lkD_n, lkO_s, lkO_n, finO, sFldD, setFD, eProp, isOb_obj, eMake, eMakeK, eMakeL, eLc, eNew, eSl, oNone, oSome, eOpM, eCallM, eCm, eCmK, eOpT, jNil, jCons, eJoin, aStar, sCalm, sFor, iRange1, iSeq, iTupD, iStrD, iEnumT, tName, tTup_t, tsCons_c, tsNil_n, any_t, onS_some, look0, look1, look2, look3, look4, look5, look6, look7, look8, look9, look10, look11, look12, look13, look14, look15, bYes, wipeE, List.set_cons_zero, List.set_cons_succ, List.length_cons, List.length_nil, List.append_nil, List.nil_append, List.cons_append, List.append_assoc, Nat.zero_add, Nat.reduceAdd, Nat.reduceSub, Nat.reduceEqDiff, Nat.reduceLT, Nat.reduceLeDiff, Int.reduceNeg, true_and, and_true, and_self, if_true, if_false, Bool.not_true, Bool.not_false, Bool.false_eq_true, reduceIte, reduceCtorEq, decide_true, decide_false, ltD_int, leD_int, gtD_int, geD_int, subD_int, addD_int, intOf_int, absD_int, eqD_int, eqD_str, neD_str, neD_int, isN_non, truD_bl, eqD_bl, neD_bl, Option.map_some, Option.bind_some, small_0, small_1, small_2, small_3, small_4, small_5, small_6, small_7, small_8, eCaught, onX_e, sRaise, eLm, onLs_l, eFnE, eXg, onV_v, sWish, eDic0, eDisp, eChain, finX_self, st_app, st_len, fin_st, fin_stT, fin_self, ite_self, hi, isOb_p, p_name, p_start, p_end, e1, e2, e3, e4, e5]
  rfl
theorem strF_bl : strFD S [.bl f] = some (.str (blT f)) := rfl
theorem seen_meter (hA : NetsS A) (ha : a.length ≤ 8) (hb : b.length ≤ 8) : G_seen_k10 A [meterV A a b f] S q x = q (.str (meterT a b f)) S := by
  obtain ⟨l1, l2, l3⟩ := lens
  have l4 := bl_len (f := f)
  have e1 : addD S (.str "meter ") (.str a) = some (.str ("meter " ++ a)) := addS (by omega)
  have e2 : addD S (.str ("meter " ++ a)) (.str " ") = some (.str ("meter " ++ a ++ " ")) := addS (by simp only [cat_len]; omega)
  have e3 : addD S (.str ("meter " ++ a ++ " ")) (.str b) = some (.str ("meter " ++ a ++ " " ++ b)) := addS (by simp only [cat_len]; omega)
  have e4 : addD S (.str ("meter " ++ a ++ " " ++ b)) (.str " ") = some (.str ("meter " ++ a ++ " " ++ b ++ " ")) := addS (by simp only [cat_len]; omega)
  have e5 : addD S (.str ("meter " ++ a ++ " " ++ b ++ " ")) (.str (blT f)) = some (.str (meterT a b f)) := addS (by simp only [cat_len]; omega)
  have hi : isiD (own A) (tab A) S [meterV A a b f, .adr (A.c "Meter")] = some (.bl true) := by simp only [meterV, isi_own hA.m hA.m, decide_true]
  have hj : isiD (own A) (tab A) S [meterV A a b f, .adr (A.c "Pipe")] = some (.bl false) := by simp only [meterV, isi_own hA.m hA.p, decide_eq_false hA.pm.symm]
  rw [D_seen_k10]
  unfold fnD startE
  simp only [List.map_cons, List.map_nil, List.length_cons, List.length_nil, Nat.reduceAdd, Nat.reduceSub, List.replicate, List.cons_append, List.nil_append, List.append_nil, Nat.zero_add]
  unfold B_seen_k10
  try simp -implicitDefEqProofs only [eVar, eC, eOp, eUn, aNil, aCons, eSeq, eCall, eFn, bBl, onB_bl, bTru, eNotT, bAnd, bOr, bNot, eAnd, eOr, eIf, bChain, iteB_t, iteB_f, sNil, sSeq, sRet, sDrop, sAsg, sIf, sBreak, sCont, sAsgG, sPar2, sPar3, sSetIx, sPairSet, sAppend, onL, onI_i, onT_s, onTu_t, onCe_c, on1_, on2_, on3_, onLst_l, onOb_o, onSeq_l, onSeq_r, onSeq_c, lkD_s, lkD_n, lkO_s, lkO_n, finO, sFldD, setFD, eProp, isOb_obj, eMake, eMakeK, eMakeL, eLc, eNew, eSl, oNone, oSome, eOpM, eCallM, eCm, eCmK, eOpT, jNil, jCons, eJoin, aStar, sCalm, sFor, iRange1, iSeq, iTupD, iStrD, iEnumT, tName, tTup_t, tsCons_c, tsNil_n, any_t, onS_some, look0, look1, look2, look3, look4, look5, look6, look7, look8, look9, look10, look11, look12, look13, look14, look15, bYes, wipeE, List.set_cons_zero, List.set_cons_succ, List.length_cons, List.length_nil, List.append_nil, List.nil_append, List.cons_append, List.append_assoc, Nat.zero_add, Nat.reduceAdd, Nat.reduceSub, Nat.reduceEqDiff, Nat.reduceLT, Nat.reduceLeDiff, Int.reduceNeg, true_and, and_true, and_self, if_true, if_false, Bool.not_true, Bool.not_false, Bool.false_eq_true, reduceIte, reduceCtorEq, decide_true, decide_false, ltD_int, leD_int, gtD_int, geD_int, subD_int, addD_int, intOf_int, absD_int, eqD_int, eqD_str, neD_str, neD_int, isN_non, truD_bl, eqD_bl, neD_bl, Option.map_some, Option.bind_some, small_0, small_1, small_2, small_3, small_4, small_5, small_6, small_7, small_8, eCaught, onX_e, sRaise, eLm, onLs_l, eFnE, eXg, onV_v, sWish, eDic0, eDisp, eChain, finX_self, st_app, st_len, fin_st, fin_stT, fin_self, ite_self, hi, hj, isOb_m, m_name, m_at, m_sealed, strF_bl, e1, e2, e3, e4, e5]
end
/-! ### said -/
def sorts8 : List String := ["InvalidPipes", "InvalidMeters", "InvalidName", "InvalidEnd", "InvalidFlag", "InvalidText", "NotAMeter", "UnknownName"]
def bs8 (l : List String) : List Bool := sorts8.map fun n => decide (n ∈ l)
/-- an error of class m (bases l) is said as number i -/
structure Said (m : String) (l : List String) (i : Nat) : Prop extends ErrC m l where
  one : (bs8 l).count true = 1
  ix : (bs8 l).findIdx? (· == true) = some i
  bn : (bs8 l)[7]? = some (decide ("BadName" ∈ l))
  bv : decide ("BadValue" ∈ l) = !decide ("BadName" ∈ l)
theorem flat_bls (bs : List Bool) : (bs.map D.bl).all flatD = true := by
  rw [List.all_map]
  exact List.all_eq_true.mpr fun _ _ => rfl
theorem count_bls (bs : List Bool) : countF (bs.map D.bl) (.bl true) = some (.int ((bs.count true : Nat) : Int)) := by
  have h : ((bs.map D.bl).countP fun y => eqFl y (.bl true)) = bs.count true := by
    rw [List.countP_map, List.count]
    congr 1
  simp only [countF, flat_bls, flatD, and_self, if_true, h]
theorem index_bls {bs : List Bool} {i : Nat} (h : bs.findIdx? (· == true) = some i) : indexF (bs.map D.bl) (.bl true) = some (.int (i : Int)) := by
  have h : ((bs.map D.bl).findIdx? fun y => eqFl y (.bl true)) = some i := by
    rw [List.findIdx?_map, ← h]
    congr 1
  simp only [indexF, flat_bls, flatD, and_self, if_true, h, Option.map_some]
section
variable {A : Ad} {S : WS} {v : D} {t : Value} {r : Str} {m : String} {l : List String} {i : Nat} {a d f : Addr} {q : D → WS → Prop} {x : Xq} {T : Addr}
theorem said_given (hA : NetsS A) (hE : ErrsA A) (h : Said m l i) (h2 : 2 ≤ i) (hv : Vl A v t r) (hq : q (.lst [.int (i : Int), .str r]) S) : G_said_k10 A a (A.c m) d [.exv a (A.c m) d [("given", v)]] S q x := by
  have e := fun n hn => isX_eq (A := A) (S := S) (a := a) (d := d) (fs := [("given", v)]) hE h.toErrC (n := n) hn
  have e0 := e "InvalidPipes" (by decide +kernel)
  have e1 := e "InvalidMeters" (by decide +kernel)
  have e2 := e "InvalidName" (by decide +kernel)
  have e3 := e "InvalidEnd" (by decide +kernel)
  have e4 := e "InvalidFlag" (by decide +kernel)
  have e5 := e "InvalidText" (by decide +kernel)
  have e6 := e "NotAMeter" (by decide +kernel)
  have e7 := e "UnknownName" (by decide +kernel)
  have eB := e "BadName" (by decide +kernel)
  have eV := e "BadValue" (by decide +kernel)
  have a1 : addD S (.lst [.bl (decide ("InvalidPipes" ∈ l)), .bl (decide ("InvalidMeters" ∈ l)), .bl (decide ("InvalidName" ∈ l))]) (.lst [.bl (decide ("InvalidEnd" ∈ l)), .bl (decide ("InvalidFlag" ∈ l)), .bl (decide ("InvalidText" ∈ l))]) = some (.lst [.bl (decide ("InvalidPipes" ∈ l)), .bl (decide ("InvalidMeters" ∈ l)), .bl (decide ("InvalidName" ∈ l)), .bl (decide ("InvalidEnd" ∈ l)), .bl (decide ("InvalidFlag" ∈ l)), .bl (decide ("InvalidText" ∈ l))]) := rfl
  have a2 : addD S (.lst [.bl (decide ("InvalidPipes" ∈ l)), .bl (decide ("InvalidMeters" ∈ l)), .bl (decide ("InvalidName" ∈ l)), .bl (decide ("InvalidEnd" ∈ l)), .bl (decide ("InvalidFlag" ∈ l)), .bl (decide ("InvalidText" ∈ l))]) (.lst [.bl (decide ("NotAMeter" ∈ l)), .bl (decide ("UnknownName" ∈ l))]) = some (.lst ((bs8 l).map D.bl)) := rfl
  have c1 : countF ((bs8 l).map D.bl) (.bl true) = some (.int 1) := by rw [count_bls, h.one]; rfl
  have c2 := index_bls h.ix
  have c3 : ixD S (.lst ((bs8 l).map D.bl)) (.int 7) = some (.bl (decide ("BadName" ∈ l))) := by
    have hb := h.bn
    have hl : (bs8 l).length = 8 := rfl
    simp only [ixD]
    rw [atI_nat (by decide) (by rw [List.length_map, hl]; decide)]
    rw [show (7 : Int).toNat = 7 from rfl, List.getElem?_map, hb]
    rfl
  have hlk : List.lookup ("given" : Str) [(("given" : Str), v)] = some v := by simp [List.lookup]
  have lt : decide (((i : Nat) : Int) < 2) = false := decide_eq_false (by omega)
  have hm : A.c m ∈ errL A errNames := List.mem_map.mpr ⟨m, h.mem, rfl⟩
  have hbv := h.bv
  rw [D_said_k10]
  unfold fnD startE
  simp only [List.map_cons, List.map_nil, List.length_cons, List.length_nil, Nat.reduceAdd, Nat.reduceSub, List.replicate, List.cons_append, List.nil_append, List.append_nil, Nat.zero_add]
  unfold B_said_k10
  refine ⟨hm, ?_⟩
  try simp -implicitDefEqProofs only [eVar, eC, eOp, eUn, aNil, aCons, eSeq, eCall, eFn, bBl, onB_bl, bTru, eNotT, bAnd, bOr, bNot, eAnd, eOr, eIf, bChain, iteB_t, iteB_f, sNil, sSeq, sRet, sDrop, sAsg, sIf, sBreak, sCont, sAsgG, sPar2, sPar3, sSetIx, sPairSet, sAppend, onL, onI_i, onT_s, onTu_t, onCe_c, on1_, on2_, on3_, onLst_l, onOb_o, onSeq_l, onSeq_r, onSeq_c, lkD_s, lkD_n, lkO_s, lkO_n, finO, sFldD, setFD, eProp, isOb_obj, eMake, eMakeK, eMakeL, eLc, eNew, eSl, oNone, oSome, eOpM, eCallM, eCm, eCmK, eOpT, jNil, jCons, eJoin, aStar, sCalm, sFor, iRange1, iSeq, iTupD, iStrD, iEnumT, tName, tTup_t, tsCons_c, tsNil_n, any_t, onS_some, look0, look1, look2, look3, look4, look5, look6, look7, look8, look9, look10, look11, look12, look13, look14, look15, bYes, wipeE, List.set_cons_zero, List.set_cons_succ, List.length_cons, List.length_nil, List.append_nil, List.nil_append, List.cons_append, List.append_assoc, Nat.zero_add, Nat.reduceAdd, Nat.reduceSub, Nat.reduceEqDiff, Nat.reduceLT, Nat.reduceLeDiff, Int.reduceNeg, true_and, and_true, and_self, if_true, if_false, Bool.not_true, Bool.not_false, Bool.false_eq_true, reduceIte, reduceCtorEq, decide_true, decide_false, ltD_int, leD_int, gtD_int, geD_int, subD_int, addD_int, intOf_int, absD_int, eqD_int, eqD_str, neD_str, neD_int, isN_non, truD_bl, eqD_bl, neD_bl, Option.map_some, Option.bind_some, small_0, small_1, small_2, small_3, small_4, small_5, small_6, small_7, small_8, eCaught, onX_e, sRaise, eLm, onLs_l, eFnE, eXg, onV_v, sWish, eDic0, eDisp, eChain, finX_self, st_app, st_len, fin_st, fin_stT, fin_self, ite_self, e0, e1, e2, e3, e4, e5, e6, e7, eB, eV, a1, a2, c1, c2, c3, lt, hlk, seen_plain_h hA hv, hbv]
  cases decide ("BadName" ∈ l) <;> try simp -implicitDefEqProofs only [eVar, eC, eOp, eUn, aNil, aCons, eSeq, eCall, eFn, bBl, onB_bl, bTru, eNotT, bAnd, bOr, bNot, eAnd, eOr, eIf, bChain, iteB_t, iteB_f, sNil, sSeq, sRet, sDrop, sAsg, sIf, sBreak, sCont, sAsgG, sPar2, sPar3, sSetIx, sPairSet, sAppend, onL, onI_i, onT_s, onTu_t, onCe_c, on1_, on2_, on3_, onLst_l, onOb_o, onSeq_l, onSeq_r, onSeq_c, lkD_s, lkD_n, lkO_s, lkO_n, finO, sFldD, setFD, eProp, isOb_obj, eMake, eMakeK, eMakeL, eLc, eNew, eSl, oNone, oSome, eOpM, eCallM, eCm, eCmK, eOpT, jNil, jCons, eJoin, aStar, sCalm, sFor, iRange1, iSeq, iTupD, iStrD, iEnumT, tName, tTup_t, tsCons_c, tsNil_n, any_t, onS_some, look0, look1, look2, look3, look4, look5, look6, look7, look8, look9, look10, look11, look12, look13, look14, look15, bYes, wipeE, List.set_cons_zero, List.set_cons_succ, List.length_cons, List.length_nil, List.append_nil, List.nil_append, List.cons_append, List.append_assoc, Nat.zero_add, Nat.reduceAdd, Nat.reduceSub, Nat.reduceEqDiff, Nat.reduceLT, Nat.reduceLeDiff, Int.reduceNeg, true_and, and_true, and_self, if_true, if_false, Bool.not_true, Bool.not_false, Bool.false_eq_true, reduceIte, reduceCtorEq, decide_true, decide_false, ltD_int, leD_int, gtD_int, geD_int, subD_int, addD_int, intOf_int, absD_int, eqD_int, eqD_str, neD_str, neD_int, isN_non, truD_bl, eqD_bl, neD_bl, Option.map_some, Option.bind_some, small_0, small_1, small_2, small_3, small_4, small_5, small_6, small_7, small_8, eCaught, onX_e, sRaise, eLm, onLs_l, eFnE, eXg, onV_v, sWish, eDic0, eDisp, eChain, finX_self, st_app, st_len, fin_st, fin_stT, fin_self, ite_self, decide_true, decide_false] <;> exact hq
/-! ### caught -/
theorem told_eq {s : Str} (h : ∀ q x, G_seen_k10 A [v] S q x = q (.str s) S) : qTold 3 1 f (T_caught_k10 A) S.length q v S = q (.lst [.str "told", .str s]) S := by
  unfold qTold T_caught_k10 startE
  simp only [List.map_cons, List.map_nil, List.length_cons, List.length_nil, Nat.reduceAdd, Nat.reduceSub, List.replicate, List.cons_append, List.nil_append, List.append_nil, Nat.zero_add]
  try simp -implicitDefEqProofs only [eVar, eC, eOp, eUn, aNil, aCons, eSeq, eCall, eFn, bBl, onB_bl, bTru, eNotT, bAnd, bOr, bNot, eAnd, eOr, eIf, bChain, iteB_t, iteB_f, sNil, sSeq, sRet, sDrop, sAsg, sIf, sBreak, sCont, sAsgG, sPar2, sPar3, sSetIx, sPairSet, sAppend, onL, onI_i, onT_s, onTu_t, onCe_c, on1_, on2_, on3_, onLst_l, onOb_o, onSeq_l, onSeq_r, onSeq_c, lkD_s, lkD_n, lkO_s, lkO_n, finO, sFldD, setFD, eProp, isOb_obj, eMake, eMakeK, eMakeL, eLc, eNew, eSl, oNone, oSome, eOpM, eCallM, eCm, eCmK, eOpT, jNil, jCons, eJoin, aStar, sCalm, sFor, iRange1, iSeq, iTupD, iStrD, iEnumT, tName, tTup_t, tsCons_c, tsNil_n, any_t, onS_some, look0, look1, look2, look3, look4, look5, look6, look7, look8, look9, look10, look11, look12, look13, look14, look15, bYes, wipeE, List.set_cons_zero, List.set_cons_succ, List.length_cons, List.length_nil, List.append_nil, List.nil_append, List.cons_append, List.append_assoc, Nat.zero_add, Nat.reduceAdd, Nat.reduceSub, Nat.reduceEqDiff, Nat.reduceLT, Nat.reduceLeDiff, Int.reduceNeg, true_and, and_true, and_self, if_true, if_false, Bool.not_true, Bool.not_false, Bool.false_eq_true, reduceIte, reduceCtorEq, decide_true, decide_false, ltD_int, leD_int, gtD_int, geD_int, subD_int, addD_int, intOf_int, absD_int, eqD_int, eqD_str, neD_str, neD_int, isN_non, truD_bl, eqD_bl, neD_bl, Option.map_some, Option.bind_some, small_0, small_1, small_2, small_3, small_4, small_5, small_6, small_7, small_8, eCaught, onX_e, sRaise, eLm, onLs_l, eFnE, eXg, onV_v, sWish, eDic0, eDisp, eChain, finX_self, st_app, st_len, fin_st, fin_stT, fin_self, ite_self, h]
theorem said_x (hA : NetsS A) (hE : ErrsA A) (h : Said m l i) (h2 : 2 ≤ i) (hv : Vl A v t r) (hq : q (.lst [.int (i : Int), .str r]) S) : xSaid (errL A errNames) 3 2 f (S_caught_k10 A) S.length q (.exc (A.c m) [("given", v)]) S := by
  have hm : A.c m ∈ errL A errNames := List.mem_map.mpr ⟨m, h.mem, rfl⟩
  unfold xSaid
  rw [onX_e]
  refine ⟨hm, fun b d => ?_⟩
  unfold S_caught_k10 startE ktC
  simp only [List.map_cons, List.map_nil, List.length_cons, List.length_nil, Nat.reduceAdd, Nat.reduceSub, List.replicate, List.cons_append, List.nil_append, List.append_nil, Nat.zero_add]
  try simp -implicitDefEqProofs only [eVar, eC, eOp, eUn, aNil, aCons, eSeq, eCall, eFn, bBl, onB_bl, bTru, eNotT, bAnd, bOr, bNot, eAnd, eOr, eIf, bChain, iteB_t, iteB_f, sNil, sSeq, sRet, sDrop, sAsg, sIf, sBreak, sCont, sAsgG, sPar2, sPar3, sSetIx, sPairSet, sAppend, onL, onI_i, onT_s, onTu_t, onCe_c, on1_, on2_, on3_, onLst_l, onOb_o, onSeq_l, onSeq_r, onSeq_c, lkD_s, lkD_n, lkO_s, lkO_n, finO, sFldD, setFD, eProp, isOb_obj, eMake, eMakeK, eMakeL, eLc, eNew, eSl, oNone, oSome, eOpM, eCallM, eCm, eCmK, eOpT, jNil, jCons, eJoin, aStar, sCalm, sFor, iRange1, iSeq, iTupD, iStrD, iEnumT, tName, tTup_t, tsCons_c, tsNil_n, any_t, onS_some, look0, look1, look2, look3, look4, look5, look6, look7, look8, look9, look10, look11, look12, look13, look14, look15, bYes, wipeE, List.set_cons_zero, List.set_cons_succ, List.length_cons, List.length_nil, List.append_nil, List.nil_append, List.cons_append, List.append_assoc, Nat.zero_add, Nat.reduceAdd, Nat.reduceSub, Nat.reduceEqDiff, Nat.reduceLT, Nat.reduceLeDiff, Int.reduceNeg, true_and, and_true, and_self, if_true, if_false, Bool.not_true, Bool.not_false, Bool.false_eq_true, reduceIte, reduceCtorEq, decide_true, decide_false, ltD_int, leD_int, gtD_int, geD_int, subD_int, addD_int, intOf_int, absD_int, eqD_int, eqD_str, neD_str, neD_int, isN_non, truD_bl, eqD_bl, neD_bl, Option.map_some, Option.bind_some, small_0, small_1, small_2, small_3, small_4, small_5, small_6, small_7, small_8, eCaught, onX_e, sRaise, eLm, onLs_l, eFnE, eXg, onV_v, sWish, eDic0, eDisp, eChain, finX_self, st_app, st_len, fin_st, fin_stT, fin_self, ite_self]
  refine said_given hA hE h h2 hv ?_
  try simp -implicitDefEqProofs only [eVar, eC, eOp, eUn, aNil, aCons, eSeq, eCall, eFn, bBl, onB_bl, bTru, eNotT, bAnd, bOr, bNot, eAnd, eOr, eIf, bChain, iteB_t, iteB_f, sNil, sSeq, sRet, sDrop, sAsg, sIf, sBreak, sCont, sAsgG, sPar2, sPar3, sSetIx, sPairSet, sAppend, onL, onI_i, onT_s, onTu_t, onCe_c, on1_, on2_, on3_, onLst_l, onOb_o, onSeq_l, onSeq_r, onSeq_c, lkD_s, lkD_n, lkO_s, lkO_n, finO, sFldD, setFD, eProp, isOb_obj, eMake, eMakeK, eMakeL, eLc, eNew, eSl, oNone, oSome, eOpM, eCallM, eCm, eCmK, eOpT, jNil, jCons, eJoin, aStar, sCalm, sFor, iRange1, iSeq, iTupD, iStrD, iEnumT, tName, tTup_t, tsCons_c, tsNil_n, any_t, onS_some, look0, look1, look2, look3, look4, look5, look6, look7, look8, look9, look10, look11, look12, look13, look14, look15, bYes, wipeE, List.set_cons_zero, List.set_cons_succ, List.length_cons, List.length_nil, List.append_nil, List.nil_append, List.cons_append, List.append_assoc, Nat.zero_add, Nat.reduceAdd, Nat.reduceSub, Nat.reduceEqDiff, Nat.reduceLT, Nat.reduceLeDiff, Int.reduceNeg, true_and, and_true, and_self, if_true, if_false, Bool.not_true, Bool.not_false, Bool.false_eq_true, reduceIte, reduceCtorEq, decide_true, decide_false, ltD_int, leD_int, gtD_int, geD_int, subD_int, addD_int, intOf_int, absD_int, eqD_int, eqD_str, neD_str, neD_int, isN_non, truD_bl, eqD_bl, neD_bl, Option.map_some, Option.bind_some, small_0, small_1, small_2, small_3, small_4, small_5, small_6, small_7, small_8, eCaught, onX_e, sRaise, eLm, onLs_l, eFnE, eXg, onV_v, sWish, eDic0, eDisp, eChain, finX_self, st_app, st_len, fin_st, fin_stT, fin_self, ite_self]
  exact hq
end
end RV
end
section
/-! Drawn values: of any kind, names, bent names. -/
namespace RV
open PySem L2
/-! ### texts with signs below 128 -/
def low (s : Str) : Prop := ∀ c ∈ s.cps.toList, c < 128
theorem low_ok {s : Str} (h : low s) : PyData.strOk s = true := strOk_of fun c hc => Nat.lt_trans (h c hc) (by decide)
theorem low_nm {s : Str} (h : Nm s) : low s := fun c hc => isAl_lt (nm_all h c hc)
theorem low_cat {a b : Str} (ha : low a) (hb : low b) : low (a ++ b) := fun c hc => by
  rw [cat_cps] at hc
  exact (List.mem_append.mp hc).elim (ha c) (hb c)
theorem low_cut {s : Str} {lo hi : Option Int} (h : low s) : low (cutS s lo hi) := fun c hc => h c (List.mem_of_mem_drop (List.mem_of_mem_take hc))
theorem cut_len {s : Str} {lo hi : Option Int} : (cutS s lo hi).length ≤ s.length := by
  rw [len_cps, len_cps]
  show ((s.cps.toList.drop _).take _).length ≤ _
  rw [List.length_take, List.length_drop]
  omega
section
variable {A : Ad} {S T : WS} {k : Nat} {n m : Int} {w : W} {q : D → WS → Prop} {x : Xq} {s : Str}
theorem ix_str {r : Int} (hs : small s.length = true) (h0 : 0 ≤ r) (h1 : r < (s.length : Nat)) : ∃ c ∈ s.cps.toList, ixD S (.str s) (.int r) = some (.str ⟨#[c]⟩) := by
  rw [len_cps] at h1
  have hl : r.toNat < s.cps.toList.length := by omega
  refine ⟨s.cps.toList[r.toNat], List.getElem_mem _, ?_⟩
  simp only [ixD, hs, if_true, atI_nat h0 h1, List.getElem?_eq_getElem hl, Option.map_some]
theorem len_str (hs : small s.length = true) : lenD S [.str s] = some (.int (s.length : Nat)) := by simp only [lenD, hs, if_true]
theorem sl_str (hs : small s.length = true) {lo hi : Option Int} : slD S (.str s) lo hi = some (.str (cutS s lo hi)) := if_pos hs
/-! ### a value of any kind -/
def odds : List D := [.non, .bl true, .bl false, .int 0, .int 1, .int (-1), .int 3, .int 1000000000000000000000000000000, .str "", .str "A", .str "1a", .str "a b", .str "a_b", .str "abcdefghi", .tup [], .tup [.str "a"], .lst [], .lst [.str "a"], .dic [], .dic [(.inr "a", .int 1)]]
theorem vl_py {d : D} {p : PyData} {t : Value} (hk : kindD (own A) d = some t) (hp : t ∈ plainT) (h : D.py d = some p) (hd : ∀ kvs, d ≠ .dic kvs) (hs : ShOk 3 1000 p) (ho : PyData.strOk p.shown = true) (hc : ∀ n, D.clean n d = true) (h1 : ∀ s, d = .str s → small s.length = true) (h2 : t = .type "str" → ∃ s, d = .str s) : Vl A d t p.shown :=
  ⟨hk, hp, fun S => by
    have e : reprD2 S [d] = reprD S [d] := by
      unfold reprD2
      split
      · rename_i kvs e
        cases e
        exact absurd rfl (hd kvs)
      · rfl
    rw [e]
    exact repr_ok h hs (by decide) (by decide), ho, hc, h1, h2⟩
theorem odd_vl : ∀ d ∈ odds, ∃ t r, Vl A d t r := fun d hd => by
  simp only [odds, List.mem_cons, List.not_mem_nil, or_false] at hd
  rcases hd with e | e | e | e | e | e | e | e | e | e | e | e | e | e | e | e | e | e | e | e <;> subst e
  · exact ⟨_, _, vl_py (p := .none) rfl (by simp [plainT]) rfl (fun _ z => nomatch z) ⟨by decide +kernel, by decide +kernel, by decide +kernel, by decide +kernel, by decide +kernel⟩ (by decide +kernel) (fun _ => rfl) (fun _ z => nomatch z) (fun z => nomatch z)⟩
  · exact ⟨_, _, vl_py (p := .bool true) rfl (by simp [plainT]) rfl (fun _ z => nomatch z) ⟨by decide +kernel, by decide +kernel, by decide +kernel, by decide +kernel, by decide +kernel⟩ (by decide +kernel) (fun _ => rfl) (fun _ z => nomatch z) (fun z => by simp at z)⟩
  · exact ⟨_, _, vl_py (p := .bool false) rfl (by simp [plainT]) rfl (fun _ z => nomatch z) ⟨by decide +kernel, by decide +kernel, by decide +kernel, by decide +kernel, by decide +kernel⟩ (by decide +kernel) (fun _ => rfl) (fun _ z => nomatch z) (fun z => by simp at z)⟩
  · exact ⟨_, _, vl_py (p := .int 0) rfl (by simp [plainT]) rfl (fun _ z => nomatch z) ⟨by decide +kernel, by decide +kernel, by decide +kernel, by decide +kernel, by decide +kernel⟩ (by decide +kernel) (fun _ => rfl) (fun _ z => nomatch z) (fun z => by simp at z)⟩
  · exact ⟨_, _, vl_py (p := .int 1) rfl (by simp [plainT]) rfl (fun _ z => nomatch z) ⟨by decide +kernel, by decide +kernel, by decide +kernel, by decide +kernel, by decide +kernel⟩ (by decide +kernel) (fun _ => rfl) (fun _ z => nomatch z) (fun z => by simp at z)⟩
  · exact ⟨_, _, vl_py (p := .int (-1)) rfl (by simp [plainT]) rfl (fun _ z => nomatch z) ⟨by decide +kernel, by decide +kernel, by decide +kernel, by decide +kernel, by decide +kernel⟩ (by decide +kernel) (fun _ => rfl) (fun _ z => nomatch z) (fun z => by simp at z)⟩
  · exact ⟨_, _, vl_py (p := .int 3) rfl (by simp [plainT]) rfl (fun _ z => nomatch z) ⟨by decide +kernel, by decide +kernel, by decide +kernel, by decide +kernel, by decide +kernel⟩ (by decide +kernel) (fun _ => rfl) (fun _ z => nomatch z) (fun z => by simp at z)⟩
  · exact ⟨_, _, vl_py (p := .int 1000000000000000000000000000000) rfl (by simp [plainT]) rfl (fun _ z => nomatch z) ⟨by decide +kernel, by decide +kernel, by decide +kernel, by decide +kernel, by decide +kernel⟩ (by decide +kernel) (fun _ => rfl) (fun _ z => nomatch z) (fun z => by simp at z)⟩
  · exact ⟨_, _, Vl.str (by decide +kernel) (by decide +kernel)⟩
  · exact ⟨_, _, Vl.str (by decide +kernel) (by decide +kernel)⟩
  · exact ⟨_, _, Vl.str (by decide +kernel) (by decide +kernel)⟩
  · exact ⟨_, _, Vl.str (by decide +kernel) (by decide +kernel)⟩
  · exact ⟨_, _, Vl.str (by decide +kernel) (by decide +kernel)⟩
  · exact ⟨_, _, Vl.str (by decide +kernel) (by decide +kernel)⟩
  · exact ⟨_, _, vl_py (p := .tuple []) rfl (by simp [plainT]) rfl (fun _ z => nomatch z) ⟨by decide +kernel, by decide +kernel, by decide +kernel, by decide +kernel, by decide +kernel⟩ (by decide +kernel) (fun _ => rfl) (fun _ z => nomatch z) (fun z => by simp at z)⟩
  · exact ⟨_, _, vl_py (p := .tuple [.str "a"]) rfl (by simp [plainT]) rfl (fun _ z => nomatch z) ⟨by decide +kernel, by decide +kernel, by decide +kernel, by decide +kernel, by decide +kernel⟩ (by decide +kernel) (fun _ => rfl) (fun _ z => nomatch z) (fun z => by simp at z)⟩
  · exact ⟨_, _, vl_py (p := .list []) rfl (by simp [plainT]) rfl (fun _ z => nomatch z) ⟨by decide +kernel, by decide +kernel, by decide +kernel, by decide +kernel, by decide +kernel⟩ (by decide +kernel) (fun _ => rfl) (fun _ z => nomatch z) (fun z => by simp at z)⟩
  · exact ⟨_, _, vl_py (p := .list [.str "a"]) rfl (by simp [plainT]) rfl (fun _ z => nomatch z) ⟨by decide +kernel, by decide +kernel, by decide +kernel, by decide +kernel, by decide +kernel⟩ (by decide +kernel) (fun _ => rfl) (fun _ z => nomatch z) (fun z => by simp at z)⟩
  · exact ⟨.type "dict", (PyData.dict []).shown, rfl, by simp [plainT], fun S => (show reprD2 S [.dic []] = (if (PyData.dict []).showable = true ∧ (PyData.dict []).depth ≤ 64 ∧ (PyData.dict []).shown.length ≤ sizeLine then some (.str (PyData.dict []).shown) else none) from rfl).trans (if_pos ⟨by decide +kernel, by decide +kernel, by decide +kernel⟩), by decide +kernel, fun _ => rfl, fun _ z => (nomatch z), fun z => by simp at z⟩
  · exact ⟨.type "dict", (PyData.dict [(.str "a", .int 1)]).shown, rfl, by simp [plainT], fun S => (show reprD2 S [.dic [(.inr "a", .int 1)]] = (if (PyData.dict [(.str "a", .int 1)]).showable = true ∧ (PyData.dict [(.str "a", .int 1)]).depth ≤ 64 ∧ (PyData.dict [(.str "a", .int 1)]).shown.length ≤ sizeLine then some (.str (PyData.dict [(.str "a", .int 1)]).shown) else none) from rfl).trans (if_pos ⟨by decide +kernel, by decide +kernel, by decide +kernel⟩), by decide +kernel, fun _ => rfl, fun _ z => (nomatch z), fun z => by simp at z⟩
theorem odd_ok (hk : k < S.length) (g : Good n w) (hn : n < 100000000000000000) (h : ∀ d t r w', d ∈ odds → Vl A d t r → Good (n + 1) w' → q d (st S k w' T)) : G_odd_k04 A [.cell k] (st S k w T) q x := by
  have hpw : powOk 10 30 = true := by decide +kernel
  have he : ((10 : Int) ^ (30 : Int).toNat) = 1000000000000000000000000000000 := by decide +kernel
  have ng : ∀ S, negD S (.int 1) = some (.int (-1)) := fun _ => rfl
  have s18 : small 18 = true := rfl
  have pd : pairD [.str "a", .int 1] = some [(.inr "a", .int 1)] := rfl
  have ad : ∀ S, addD S (.lst [.non, .bl true, .bl false, .int 0, .int 1, .int (-1), .int 3, .int 1000000000000000000000000000000, .str "", .str "A", .str "1a", .str "a b", .str "a_b", .str "abcdefghi", .tup [], .tup [.str "a"], .lst [], .lst [.str "a"]]) (.lst [.dic [], .dic (mergeD [] [(.inr "a", .int 1)])]) = some (.lst odds) := fun _ => rfl
  rw [D_odd_k04]
  unfold fnD startE
  simp only [List.map_cons, List.map_nil, List.length_cons, List.length_nil, Nat.reduceAdd, Nat.reduceSub, List.replicate, List.cons_append, List.nil_append, List.append_nil, Nat.zero_add]
  unfold B_odd_k04
  refine seq_gen fun N_ hN_ => ?_
  try simp -implicitDefEqProofs only [eVar, eC, eOp, eUn, aNil, aCons, eSeq, eCall, eFn, bBl, onB_bl, bTru, eNotT, bAnd, bOr, bNot, eAnd, eOr, eIf, bChain, iteB_t, iteB_f, sNil, sSeq, sRet, sDrop, sAsg, sIf, sBreak, sCont, sAsgG, sPar2, sPar3, sSetIx, sPairSet, sAppend, onL, onI_i, onT_s, onTu_t, onCe_c, on1_, on2_, on3_, onLst_l, onOb_o, onSeq_l, onSeq_r, onSeq_c, lkD_s, lkD_n, lkO_s, lkO_n, finO, sFldD, setFD, eProp, isOb_obj, eMake, eMakeK, eMakeL, eLc, eNew, eSl, oNone, oSome, eOpM, eCallM, eCm, eCmK, eOpT, jNil, jCons, eJoin, aStar, sCalm, sFor, iRange1, iSeq, iTupD, iStrD, iEnumT, tName, tTup_t, tsCons_c, tsNil_n, any_t, onS_some, look0, look1, look2, look3, look4, look5, look6, look7, look8, look9, look10, look11, look12, look13, look14, look15, bYes, wipeE, List.set_cons_zero, List.set_cons_succ, List.length_cons, List.length_nil, List.append_nil, List.nil_append, List.cons_append, List.append_assoc, Nat.zero_add, Nat.reduceAdd, Nat.reduceSub, Nat.reduceEqDiff, Nat.reduceLT, Nat.reduceLeDiff, Int.reduceNeg, true_and, and_true, and_self, if_true, if_false, Bool.not_true, Bool.not_false, Bool.false_eq_true, reduceIte, reduceCtorEq, decide_true, decide_false, ltD_int, leD_int, gtD_int, geD_int, subD_int, addD_int, intOf_int, absD_int, eqD_int, eqD_str, neD_str, neD_int, isN_non, truD_bl, eqD_bl, neD_bl, Option.map_some, Option.bind_some, small_0, small_1, small_2, small_3, small_4, small_5, small_6, small_7, small_8, eCaught, onX_e, sRaise, eLm, onLs_l, eFnE, eXg, onV_v, sWish, eDic0, eDisp, eChain, finX_self, st_app, st_len, fin_st, fin_stT, fin_self, ite_self]
  refine dip_ok hk g (by omega) (by omega) (by omega) fun d w1 d0 d1 g1 => ?_
  try simp -implicitDefEqProofs only [eVar, eC, eOp, eUn, aNil, aCons, eSeq, eCall, eFn, bBl, onB_bl, bTru, eNotT, bAnd, bOr, bNot, eAnd, eOr, eIf, bChain, iteB_t, iteB_f, sNil, sSeq, sRet, sDrop, sAsg, sIf, sBreak, sCont, sAsgG, sPar2, sPar3, sSetIx, sPairSet, sAppend, onL, onI_i, onT_s, onTu_t, onCe_c, on1_, on2_, on3_, onLst_l, onOb_o, onSeq_l, onSeq_r, onSeq_c, lkD_s, lkD_n, lkO_s, lkO_n, finO, sFldD, setFD, eProp, isOb_obj, eMake, eMakeK, eMakeL, eLc, eNew, eSl, oNone, oSome, eOpM, eCallM, eCm, eCmK, eOpT, jNil, jCons, eJoin, aStar, sCalm, sFor, iRange1, iSeq, iTupD, iStrD, iEnumT, tName, tTup_t, tsCons_c, tsNil_n, any_t, onS_some, look0, look1, look2, look3, look4, look5, look6, look7, look8, look9, look10, look11, look12, look13, look14, look15, bYes, wipeE, List.set_cons_zero, List.set_cons_succ, List.length_cons, List.length_nil, List.append_nil, List.nil_append, List.cons_append, List.append_assoc, Nat.zero_add, Nat.reduceAdd, Nat.reduceSub, Nat.reduceEqDiff, Nat.reduceLT, Nat.reduceLeDiff, Int.reduceNeg, true_and, and_true, and_self, if_true, if_false, Bool.not_true, Bool.not_false, Bool.false_eq_true, reduceIte, reduceCtorEq, decide_true, decide_false, ltD_int, leD_int, gtD_int, geD_int, subD_int, addD_int, intOf_int, absD_int, eqD_int, eqD_str, neD_str, neD_int, isN_non, truD_bl, eqD_bl, neD_bl, Option.map_some, Option.bind_some, small_0, small_1, small_2, small_3, small_4, small_5, small_6, small_7, small_8, eCaught, onX_e, sRaise, eLm, onLs_l, eFnE, eXg, onV_v, sWish, eDic0, eDisp, eChain, finX_self, st_app, st_len, fin_st, fin_stT, fin_self, ite_self]
  subst hN_
  refine seq_gen fun N_ hN_ => ?_
  try simp -implicitDefEqProofs only [eVar, eC, eOp, eUn, aNil, aCons, eSeq, eCall, eFn, bBl, onB_bl, bTru, eNotT, bAnd, bOr, bNot, eAnd, eOr, eIf, bChain, iteB_t, iteB_f, sNil, sSeq, sRet, sDrop, sAsg, sIf, sBreak, sCont, sAsgG, sPar2, sPar3, sSetIx, sPairSet, sAppend, onL, onI_i, onT_s, onTu_t, onCe_c, on1_, on2_, on3_, onLst_l, onOb_o, onSeq_l, onSeq_r, onSeq_c, lkD_s, lkD_n, lkO_s, lkO_n, finO, sFldD, setFD, eProp, isOb_obj, eMake, eMakeK, eMakeL, eLc, eNew, eSl, oNone, oSome, eOpM, eCallM, eCm, eCmK, eOpT, jNil, jCons, eJoin, aStar, sCalm, sFor, iRange1, iSeq, iTupD, iStrD, iEnumT, tName, tTup_t, tsCons_c, tsNil_n, any_t, onS_some, look0, look1, look2, look3, look4, look5, look6, look7, look8, look9, look10, look11, look12, look13, look14, look15, bYes, wipeE, List.set_cons_zero, List.set_cons_succ, List.length_cons, List.length_nil, List.append_nil, List.nil_append, List.cons_append, List.append_assoc, Nat.zero_add, Nat.reduceAdd, Nat.reduceSub, Nat.reduceEqDiff, Nat.reduceLT, Nat.reduceLeDiff, Int.reduceNeg, true_and, and_true, and_self, if_true, if_false, Bool.not_true, Bool.not_false, Bool.false_eq_true, reduceIte, reduceCtorEq, decide_true, decide_false, ltD_int, leD_int, gtD_int, geD_int, subD_int, addD_int, intOf_int, absD_int, eqD_int, eqD_str, neD_str, neD_int, isN_non, truD_bl, eqD_bl, neD_bl, Option.map_some, Option.bind_some, small_0, small_1, small_2, small_3, small_4, small_5, small_6, small_7, small_8, eCaught, onX_e, sRaise, eLm, onLs_l, eFnE, eXg, onV_v, sWish, eDic0, eDisp, eChain, finX_self, st_app, st_len, fin_st, fin_stT, fin_self, ite_self, ng, powD_int hpw, he, s18]
  subst hN_
  have hl : d < ((odds.length : Nat) : Int) := d1
  have hx : ixD (st S k w1 T) (.lst odds) (.int d) = some (odds[d.toNat]'(by omega)) := by
    simp only [ixD, atI_nat d0 hl, List.getElem?_eq_getElem (show d.toNat < odds.length by omega)]
  try simp -implicitDefEqProofs only [eVar, eC, eOp, eUn, aNil, aCons, eSeq, eCall, eFn, bBl, onB_bl, bTru, eNotT, bAnd, bOr, bNot, eAnd, eOr, eIf, bChain, iteB_t, iteB_f, sNil, sSeq, sRet, sDrop, sAsg, sIf, sBreak, sCont, sAsgG, sPar2, sPar3, sSetIx, sPairSet, sAppend, onL, onI_i, onT_s, onTu_t, onCe_c, on1_, on2_, on3_, onLst_l, onOb_o, onSeq_l, onSeq_r, onSeq_c, lkD_s, lkD_n, lkO_s, lkO_n, finO, sFldD, setFD, eProp, isOb_obj, eMake, eMakeK, eMakeL, eLc, eNew, eSl, oNone, oSome, eOpM, eCallM, eCm, eCmK, eOpT, jNil, jCons, eJoin, aStar, sCalm, sFor, iRange1, iSeq, iTupD, iStrD, iEnumT, tName, tTup_t, tsCons_c, tsNil_n, any_t, onS_some, look0, look1, look2, look3, look4, look5, look6, look7, look8, look9, look10, look11, look12, look13, look14, look15, bYes, wipeE, List.set_cons_zero, List.set_cons_succ, List.length_cons, List.length_nil, List.append_nil, List.nil_append, List.cons_append, List.append_assoc, Nat.zero_add, Nat.reduceAdd, Nat.reduceSub, Nat.reduceEqDiff, Nat.reduceLT, Nat.reduceLeDiff, Int.reduceNeg, true_and, and_true, and_self, if_true, if_false, Bool.not_true, Bool.not_false, Bool.false_eq_true, reduceIte, reduceCtorEq, decide_true, decide_false, ltD_int, leD_int, gtD_int, geD_int, subD_int, addD_int, intOf_int, absD_int, eqD_int, eqD_str, neD_str, neD_int, isN_non, truD_bl, eqD_bl, neD_bl, Option.map_some, Option.bind_some, small_0, small_1, small_2, small_3, small_4, small_5, small_6, small_7, small_8, eCaught, onX_e, sRaise, eLm, onLs_l, eFnE, eXg, onV_v, sWish, eDic0, eDisp, eChain, finX_self, st_app, st_len, fin_st, fin_stT, fin_self, ite_self, pd, ad, hx]
  obtain ⟨t, r, hv⟩ := odd_vl (A := A) (odds[d.toNat]'(by omega)) (List.getElem_mem _)
  exact h _ t r w1 (List.getElem_mem _) hv g1
/-! ### a drawn sign -/
theorem sign_ok {often : Str} (hk : k < S.length) (g : Good n w) (hn : n < 100000000000000000) (ho : low often) (h1 : 1 ≤ often.length) (h2 : often.length ≤ 100) (h : ∀ c w', c < 128 → Good (n + 2) w' → q (.str ⟨#[c]⟩) (st S k w' T)) : G_sign_k04 A [.cell k, .str often] (st S k w T) q x := by
  have so : small often.length = true := small_of (by omega)
  rw [D_sign_k04]
  unfold fnD startE
  simp only [List.map_cons, List.map_nil, List.length_cons, List.length_nil, Nat.reduceAdd, Nat.reduceSub, List.replicate, List.cons_append, List.nil_append, List.append_nil, Nat.zero_add]
  unfold B_sign_k04
  refine seq_gen fun N_ hN_ => ?_
  try simp -implicitDefEqProofs only [eVar, eC, eOp, eUn, aNil, aCons, eSeq, eCall, eFn, bBl, onB_bl, bTru, eNotT, bAnd, bOr, bNot, eAnd, eOr, eIf, bChain, iteB_t, iteB_f, sNil, sSeq, sRet, sDrop, sAsg, sIf, sBreak, sCont, sAsgG, sPar2, sPar3, sSetIx, sPairSet, sAppend, onL, onI_i, onT_s, onTu_t, onCe_c, on1_, on2_, on3_, onLst_l, onOb_o, onSeq_l, onSeq_r, onSeq_c, lkD_s, lkD_n, lkO_s, lkO_n, finO, sFldD, setFD, eProp, isOb_obj, eMake, eMakeK, eMakeL, eLc, eNew, eSl, oNone, oSome, eOpM, eCallM, eCm, eCmK, eOpT, jNil, jCons, eJoin, aStar, sCalm, sFor, iRange1, iSeq, iTupD, iStrD, iEnumT, tName, tTup_t, tsCons_c, tsNil_n, any_t, onS_some, look0, look1, look2, look3, look4, look5, look6, look7, look8, look9, look10, look11, look12, look13, look14, look15, bYes, wipeE, List.set_cons_zero, List.set_cons_succ, List.length_cons, List.length_nil, List.append_nil, List.nil_append, List.cons_append, List.append_assoc, Nat.zero_add, Nat.reduceAdd, Nat.reduceSub, Nat.reduceEqDiff, Nat.reduceLT, Nat.reduceLeDiff, Int.reduceNeg, true_and, and_true, and_self, if_true, if_false, Bool.not_true, Bool.not_false, Bool.false_eq_true, reduceIte, reduceCtorEq, decide_true, decide_false, ltD_int, leD_int, gtD_int, geD_int, subD_int, addD_int, intOf_int, absD_int, eqD_int, eqD_str, neD_str, neD_int, isN_non, truD_bl, eqD_bl, neD_bl, Option.map_some, Option.bind_some, small_0, small_1, small_2, small_3, small_4, small_5, small_6, small_7, small_8, eCaught, onX_e, sRaise, eLm, onLs_l, eFnE, eXg, onV_v, sWish, eDic0, eDisp, eChain, finX_self, st_app, st_len, fin_st, fin_stT, fin_self, ite_self]
  refine dip_ok hk g (by omega) (by omega) (by omega) fun d w1 d0 d1 g1 => ?_
  try simp -implicitDefEqProofs only [eVar, eC, eOp, eUn, aNil, aCons, eSeq, eCall, eFn, bBl, onB_bl, bTru, eNotT, bAnd, bOr, bNot, eAnd, eOr, eIf, bChain, iteB_t, iteB_f, sNil, sSeq, sRet, sDrop, sAsg, sIf, sBreak, sCont, sAsgG, sPar2, sPar3, sSetIx, sPairSet, sAppend, onL, onI_i, onT_s, onTu_t, onCe_c, on1_, on2_, on3_, onLst_l, onOb_o, onSeq_l, onSeq_r, onSeq_c, lkD_s, lkD_n, lkO_s, lkO_n, finO, sFldD, setFD, eProp, isOb_obj, eMake, eMakeK, eMakeL, eLc, eNew, eSl, oNone, oSome, eOpM, eCallM, eCm, eCmK, eOpT, jNil, jCons, eJoin, aStar, sCalm, sFor, iRange1, iSeq, iTupD, iStrD, iEnumT, tName, tTup_t, tsCons_c, tsNil_n, any_t, onS_some, look0, look1, look2, look3, look4, look5, look6, look7, look8, look9, look10, look11, look12, look13, look14, look15, bYes, wipeE, List.set_cons_zero, List.set_cons_succ, List.length_cons, List.length_nil, List.append_nil, List.nil_append, List.cons_append, List.append_assoc, Nat.zero_add, Nat.reduceAdd, Nat.reduceSub, Nat.reduceEqDiff, Nat.reduceLT, Nat.reduceLeDiff, Int.reduceNeg, true_and, and_true, and_self, if_true, if_false, Bool.not_true, Bool.not_false, Bool.false_eq_true, reduceIte, reduceCtorEq, decide_true, decide_false, ltD_int, leD_int, gtD_int, geD_int, subD_int, addD_int, intOf_int, absD_int, eqD_int, eqD_str, neD_str, neD_int, isN_non, truD_bl, eqD_bl, neD_bl, Option.map_some, Option.bind_some, small_0, small_1, small_2, small_3, small_4, small_5, small_6, small_7, small_8, eCaught, onX_e, sRaise, eLm, onLs_l, eFnE, eXg, onV_v, sWish, eDic0, eDisp, eChain, finX_self, st_app, st_len, fin_st, fin_stT, fin_self, ite_self]
  refine iteB_dec (fun hd => ?_) (fun hd => ?_)
  · try simp -implicitDefEqProofs only [eVar, eC, eOp, eUn, aNil, aCons, eSeq, eCall, eFn, bBl, onB_bl, bTru, eNotT, bAnd, bOr, bNot, eAnd, eOr, eIf, bChain, iteB_t, iteB_f, sNil, sSeq, sRet, sDrop, sAsg, sIf, sBreak, sCont, sAsgG, sPar2, sPar3, sSetIx, sPairSet, sAppend, onL, onI_i, onT_s, onTu_t, onCe_c, on1_, on2_, on3_, onLst_l, onOb_o, onSeq_l, onSeq_r, onSeq_c, lkD_s, lkD_n, lkO_s, lkO_n, finO, sFldD, setFD, eProp, isOb_obj, eMake, eMakeK, eMakeL, eLc, eNew, eSl, oNone, oSome, eOpM, eCallM, eCm, eCmK, eOpT, jNil, jCons, eJoin, aStar, sCalm, sFor, iRange1, iSeq, iTupD, iStrD, iEnumT, tName, tTup_t, tsCons_c, tsNil_n, any_t, onS_some, look0, look1, look2, look3, look4, look5, look6, look7, look8, look9, look10, look11, look12, look13, look14, look15, bYes, wipeE, List.set_cons_zero, List.set_cons_succ, List.length_cons, List.length_nil, List.append_nil, List.nil_append, List.cons_append, List.append_assoc, Nat.zero_add, Nat.reduceAdd, Nat.reduceSub, Nat.reduceEqDiff, Nat.reduceLT, Nat.reduceLeDiff, Int.reduceNeg, true_and, and_true, and_self, if_true, if_false, Bool.not_true, Bool.not_false, Bool.false_eq_true, reduceIte, reduceCtorEq, decide_true, decide_false, ltD_int, leD_int, gtD_int, geD_int, subD_int, addD_int, intOf_int, absD_int, eqD_int, eqD_str, neD_str, neD_int, isN_non, truD_bl, eqD_bl, neD_bl, Option.map_some, Option.bind_some, small_0, small_1, small_2, small_3, small_4, small_5, small_6, small_7, small_8, eCaught, onX_e, sRaise, eLm, onLs_l, eFnE, eXg, onV_v, sWish, eDic0, eDisp, eChain, finX_self, st_app, st_len, fin_st, fin_stT, fin_self, ite_self, len_str so]
    refine dip_ok hk g1 (by omega) (by omega) (by omega) fun e w2 e0 e1 g2 => ?_
    obtain ⟨c, hc, hx⟩ := ix_str (S := st S k w2 T) so e0 e1
    try simp -implicitDefEqProofs only [eVar, eC, eOp, eUn, aNil, aCons, eSeq, eCall, eFn, bBl, onB_bl, bTru, eNotT, bAnd, bOr, bNot, eAnd, eOr, eIf, bChain, iteB_t, iteB_f, sNil, sSeq, sRet, sDrop, sAsg, sIf, sBreak, sCont, sAsgG, sPar2, sPar3, sSetIx, sPairSet, sAppend, onL, onI_i, onT_s, onTu_t, onCe_c, on1_, on2_, on3_, onLst_l, onOb_o, onSeq_l, onSeq_r, onSeq_c, lkD_s, lkD_n, lkO_s, lkO_n, finO, sFldD, setFD, eProp, isOb_obj, eMake, eMakeK, eMakeL, eLc, eNew, eSl, oNone, oSome, eOpM, eCallM, eCm, eCmK, eOpT, jNil, jCons, eJoin, aStar, sCalm, sFor, iRange1, iSeq, iTupD, iStrD, iEnumT, tName, tTup_t, tsCons_c, tsNil_n, any_t, onS_some, look0, look1, look2, look3, look4, look5, look6, look7, look8, look9, look10, look11, look12, look13, look14, look15, bYes, wipeE, List.set_cons_zero, List.set_cons_succ, List.length_cons, List.length_nil, List.append_nil, List.nil_append, List.cons_append, List.append_assoc, Nat.zero_add, Nat.reduceAdd, Nat.reduceSub, Nat.reduceEqDiff, Nat.reduceLT, Nat.reduceLeDiff, Int.reduceNeg, true_and, and_true, and_self, if_true, if_false, Bool.not_true, Bool.not_false, Bool.false_eq_true, reduceIte, reduceCtorEq, decide_true, decide_false, ltD_int, leD_int, gtD_int, geD_int, subD_int, addD_int, intOf_int, absD_int, eqD_int, eqD_str, neD_str, neD_int, isN_non, truD_bl, eqD_bl, neD_bl, Option.map_some, Option.bind_some, small_0, small_1, small_2, small_3, small_4, small_5, small_6, small_7, small_8, eCaught, onX_e, sRaise, eLm, onLs_l, eFnE, eXg, onV_v, sWish, eDic0, eDisp, eChain, finX_self, st_app, st_len, fin_st, fin_stT, fin_self, ite_self, hx]
    exact h c w2 (ho c hc) (g2.mono (by omega))
  · subst hN_
    refine seq_gen fun N_ hN_ => ?_
    try simp -implicitDefEqProofs only [eVar, eC, eOp, eUn, aNil, aCons, eSeq, eCall, eFn, bBl, onB_bl, bTru, eNotT, bAnd, bOr, bNot, eAnd, eOr, eIf, bChain, iteB_t, iteB_f, sNil, sSeq, sRet, sDrop, sAsg, sIf, sBreak, sCont, sAsgG, sPar2, sPar3, sSetIx, sPairSet, sAppend, onL, onI_i, onT_s, onTu_t, onCe_c, on1_, on2_, on3_, onLst_l, onOb_o, onSeq_l, onSeq_r, onSeq_c, lkD_s, lkD_n, lkO_s, lkO_n, finO, sFldD, setFD, eProp, isOb_obj, eMake, eMakeK, eMakeL, eLc, eNew, eSl, oNone, oSome, eOpM, eCallM, eCm, eCmK, eOpT, jNil, jCons, eJoin, aStar, sCalm, sFor, iRange1, iSeq, iTupD, iStrD, iEnumT, tName, tTup_t, tsCons_c, tsNil_n, any_t, onS_some, look0, look1, look2, look3, look4, look5, look6, look7, look8, look9, look10, look11, look12, look13, look14, look15, bYes, wipeE, List.set_cons_zero, List.set_cons_succ, List.length_cons, List.length_nil, List.append_nil, List.nil_append, List.cons_append, List.append_assoc, Nat.zero_add, Nat.reduceAdd, Nat.reduceSub, Nat.reduceEqDiff, Nat.reduceLT, Nat.reduceLeDiff, Int.reduceNeg, true_and, and_true, and_self, if_true, if_false, Bool.not_true, Bool.not_false, Bool.false_eq_true, reduceIte, reduceCtorEq, decide_true, decide_false, ltD_int, leD_int, gtD_int, geD_int, subD_int, addD_int, intOf_int, absD_int, eqD_int, eqD_str, neD_str, neD_int, isN_non, truD_bl, eqD_bl, neD_bl, Option.map_some, Option.bind_some, small_0, small_1, small_2, small_3, small_4, small_5, small_6, small_7, small_8, eCaught, onX_e, sRaise, eLm, onLs_l, eFnE, eXg, onV_v, sWish, eDic0, eDisp, eChain, finX_self, st_app, st_len, fin_st, fin_stT, fin_self, ite_self]
    subst hN_
    refine seq_gen fun N_ hN_ => ?_
    have ha : addD (st S k w1 T) (.str " !#$&'()*+,-./0123456789:;<=>?@ABCDEFGHIJKLMNOPQRSTUVWXYZ[]^_`") (.str "abcdefghijklmnopqrstuvwxyz{|}~\"\\\n") = some (.str (" !#$&'()*+,-./0123456789:;<=>?@ABCDEFGHIJKLMNOPQRSTUVWXYZ[]^_`" ++ "abcdefghijklmnopqrstuvwxyz{|}~\"\\\n")) := addD_str (by decide +kernel)
    try simp -implicitDefEqProofs only [eVar, eC, eOp, eUn, aNil, aCons, eSeq, eCall, eFn, bBl, onB_bl, bTru, eNotT, bAnd, bOr, bNot, eAnd, eOr, eIf, bChain, iteB_t, iteB_f, sNil, sSeq, sRet, sDrop, sAsg, sIf, sBreak, sCont, sAsgG, sPar2, sPar3, sSetIx, sPairSet, sAppend, onL, onI_i, onT_s, onTu_t, onCe_c, on1_, on2_, on3_, onLst_l, onOb_o, onSeq_l, onSeq_r, onSeq_c, lkD_s, lkD_n, lkO_s, lkO_n, finO, sFldD, setFD, eProp, isOb_obj, eMake, eMakeK, eMakeL, eLc, eNew, eSl, oNone, oSome, eOpM, eCallM, eCm, eCmK, eOpT, jNil, jCons, eJoin, aStar, sCalm, sFor, iRange1, iSeq, iTupD, iStrD, iEnumT, tName, tTup_t, tsCons_c, tsNil_n, any_t, onS_some, look0, look1, look2, look3, look4, look5, look6, look7, look8, look9, look10, look11, look12, look13, look14, look15, bYes, wipeE, List.set_cons_zero, List.set_cons_succ, List.length_cons, List.length_nil, List.append_nil, List.nil_append, List.cons_append, List.append_assoc, Nat.zero_add, Nat.reduceAdd, Nat.reduceSub, Nat.reduceEqDiff, Nat.reduceLT, Nat.reduceLeDiff, Int.reduceNeg, true_and, and_true, and_self, if_true, if_false, Bool.not_true, Bool.not_false, Bool.false_eq_true, reduceIte, reduceCtorEq, decide_true, decide_false, ltD_int, leD_int, gtD_int, geD_int, subD_int, addD_int, intOf_int, absD_int, eqD_int, eqD_str, neD_str, neD_int, isN_non, truD_bl, eqD_bl, neD_bl, Option.map_some, Option.bind_some, small_0, small_1, small_2, small_3, small_4, small_5, small_6, small_7, small_8, eCaught, onX_e, sRaise, eLm, onLs_l, eFnE, eXg, onV_v, sWish, eDic0, eDisp, eChain, finX_self, st_app, st_len, fin_st, fin_stT, fin_self, ite_self, ha]
    subst hN_
    have hl : low (" !#$&'()*+,-./0123456789:;<=>?@ABCDEFGHIJKLMNOPQRSTUVWXYZ[]^_`" ++ "abcdefghijklmnopqrstuvwxyz{|}~\"\\\n") := by
      unfold low
      decide +kernel
    have hn2 : ((" !#$&'()*+,-./0123456789:;<=>?@ABCDEFGHIJKLMNOPQRSTUVWXYZ[]^_`" ++ "abcdefghijklmnopqrstuvwxyz{|}~\"\\\n") : Str).length = 95 := by decide +kernel
    generalize ((" !#$&'()*+,-./0123456789:;<=>?@ABCDEFGHIJKLMNOPQRSTUVWXYZ[]^_`" ++ "abcdefghijklmnopqrstuvwxyz{|}~\"\\\n") : Str) = z at hl hn2
    have sz : small z.length = true := by rw [hn2]; rfl
    try simp -implicitDefEqProofs only [eVar, eC, eOp, eUn, aNil, aCons, eSeq, eCall, eFn, bBl, onB_bl, bTru, eNotT, bAnd, bOr, bNot, eAnd, eOr, eIf, bChain, iteB_t, iteB_f, sNil, sSeq, sRet, sDrop, sAsg, sIf, sBreak, sCont, sAsgG, sPar2, sPar3, sSetIx, sPairSet, sAppend, onL, onI_i, onT_s, onTu_t, onCe_c, on1_, on2_, on3_, onLst_l, onOb_o, onSeq_l, onSeq_r, onSeq_c, lkD_s, lkD_n, lkO_s, lkO_n, finO, sFldD, setFD, eProp, isOb_obj, eMake, eMakeK, eMakeL, eLc, eNew, eSl, oNone, oSome, eOpM, eCallM, eCm, eCmK, eOpT, jNil, jCons, eJoin, aStar, sCalm, sFor, iRange1, iSeq, iTupD, iStrD, iEnumT, tName, tTup_t, tsCons_c, tsNil_n, any_t, onS_some, look0, look1, look2, look3, look4, look5, look6, look7, look8, look9, look10, look11, look12, look13, look14, look15, bYes, wipeE, List.set_cons_zero, List.set_cons_succ, List.length_cons, List.length_nil, List.append_nil, List.nil_append, List.cons_append, List.append_assoc, Nat.zero_add, Nat.reduceAdd, Nat.reduceSub, Nat.reduceEqDiff, Nat.reduceLT, Nat.reduceLeDiff, Int.reduceNeg, true_and, and_true, and_self, if_true, if_false, Bool.not_true, Bool.not_false, Bool.false_eq_true, reduceIte, reduceCtorEq, decide_true, decide_false, ltD_int, leD_int, gtD_int, geD_int, subD_int, addD_int, intOf_int, absD_int, eqD_int, eqD_str, neD_str, neD_int, isN_non, truD_bl, eqD_bl, neD_bl, Option.map_some, Option.bind_some, small_0, small_1, small_2, small_3, small_4, small_5, small_6, small_7, small_8, eCaught, onX_e, sRaise, eLm, onLs_l, eFnE, eXg, onV_v, sWish, eDic0, eDisp, eChain, finX_self, st_app, st_len, fin_st, fin_stT, fin_self, ite_self, len_str sz]
    refine dip_ok hk g1 (by omega) (by omega) (by omega) fun e w2 e0 e1 g2 => ?_
    obtain ⟨c, hc, hx⟩ := ix_str (S := st S k w2 T) sz e0 e1
    try simp -implicitDefEqProofs only [eVar, eC, eOp, eUn, aNil, aCons, eSeq, eCall, eFn, bBl, onB_bl, bTru, eNotT, bAnd, bOr, bNot, eAnd, eOr, eIf, bChain, iteB_t, iteB_f, sNil, sSeq, sRet, sDrop, sAsg, sIf, sBreak, sCont, sAsgG, sPar2, sPar3, sSetIx, sPairSet, sAppend, onL, onI_i, onT_s, onTu_t, onCe_c, on1_, on2_, on3_, onLst_l, onOb_o, onSeq_l, onSeq_r, onSeq_c, lkD_s, lkD_n, lkO_s, lkO_n, finO, sFldD, setFD, eProp, isOb_obj, eMake, eMakeK, eMakeL, eLc, eNew, eSl, oNone, oSome, eOpM, eCallM, eCm, eCmK, eOpT, jNil, jCons, eJoin, aStar, sCalm, sFor, iRange1, iSeq, iTupD, iStrD, iEnumT, tName, tTup_t, tsCons_c, tsNil_n, any_t, onS_some, look0, look1, look2, look3, look4, look5, look6, look7, look8, look9, look10, look11, look12, look13, look14, look15, bYes, wipeE, List.set_cons_zero, List.set_cons_succ, List.length_cons, List.length_nil, List.append_nil, List.nil_append, List.cons_append, List.append_assoc, Nat.zero_add, Nat.reduceAdd, Nat.reduceSub, Nat.reduceEqDiff, Nat.reduceLT, Nat.reduceLeDiff, Int.reduceNeg, true_and, and_true, and_self, if_true, if_false, Bool.not_true, Bool.not_false, Bool.false_eq_true, reduceIte, reduceCtorEq, decide_true, decide_false, ltD_int, leD_int, gtD_int, geD_int, subD_int, addD_int, intOf_int, absD_int, eqD_int, eqD_str, neD_str, neD_int, isN_non, truD_bl, eqD_bl, neD_bl, Option.map_some, Option.bind_some, small_0, small_1, small_2, small_3, small_4, small_5, small_6, small_7, small_8, eCaught, onX_e, sRaise, eLm, onLs_l, eFnE, eXg, onV_v, sWish, eDic0, eDisp, eChain, finX_self, st_app, st_len, fin_st, fin_stT, fin_self, ite_self, hx]
    exact h c w2 (hl c hc) (g2.mono (by omega))
/-! ### names, bent -/
theorem low_one {c : Nat} (h : c < 128) : low ⟨#[c]⟩ := fun d hd => by
  have : d = c := by simpa using hd
  omega
theorem often_low : low "A_ -9z" := by
  unfold low
  decide +kernel
theorem often_len : ("A_ -9z" : Str).length = 6 := by decide +kernel
theorem bent_ok (hk : k < S.length) (g : Good n w) (hn : n < 10000000000000000) (h : ∀ s w', low s → s.length ≤ 17 → Good (n + 20) w' → q (.str s) (st S k w' T)) : G_bent_name_k10 A [.cell k] (st S k w T) q x := by
  rw [D_bent_name_k10]
  unfold fnD startE
  simp only [List.map_cons, List.map_nil, List.length_cons, List.length_nil, Nat.reduceAdd, Nat.reduceSub, List.replicate, List.cons_append, List.nil_append, List.append_nil, Nat.zero_add]
  unfold B_bent_name_k10
  refine seq_gen fun N_ hN_ => ?_
  try simp -implicitDefEqProofs only [eVar, eC, eOp, eUn, aNil, aCons, eSeq, eCall, eFn, bBl, onB_bl, bTru, eNotT, bAnd, bOr, bNot, eAnd, eOr, eIf, bChain, iteB_t, iteB_f, sNil, sSeq, sRet, sDrop, sAsg, sIf, sBreak, sCont, sAsgG, sPar2, sPar3, sSetIx, sPairSet, sAppend, onL, onI_i, onT_s, onTu_t, onCe_c, on1_, on2_, on3_, onLst_l, onOb_o, onSeq_l, onSeq_r, onSeq_c, lkD_s, lkD_n, lkO_s, lkO_n, finO, sFldD, setFD, eProp, isOb_obj, eMake, eMakeK, eMakeL, eLc, eNew, eSl, oNone, oSome, eOpM, eCallM, eCm, eCmK, eOpT, jNil, jCons, eJoin, aStar, sCalm, sFor, iRange1, iSeq, iTupD, iStrD, iEnumT, tName, tTup_t, tsCons_c, tsNil_n, any_t, onS_some, look0, look1, look2, look3, look4, look5, look6, look7, look8, look9, look10, look11, look12, look13, look14, look15, bYes, wipeE, List.set_cons_zero, List.set_cons_succ, List.length_cons, List.length_nil, List.append_nil, List.nil_append, List.cons_append, List.append_assoc, Nat.zero_add, Nat.reduceAdd, Nat.reduceSub, Nat.reduceEqDiff, Nat.reduceLT, Nat.reduceLeDiff, Int.reduceNeg, true_and, and_true, and_self, if_true, if_false, Bool.not_true, Bool.not_false, Bool.false_eq_true, reduceIte, reduceCtorEq, decide_true, decide_false, ltD_int, leD_int, gtD_int, geD_int, subD_int, addD_int, intOf_int, absD_int, eqD_int, eqD_str, neD_str, neD_int, isN_non, truD_bl, eqD_bl, neD_bl, Option.map_some, Option.bind_some, small_0, small_1, small_2, small_3, small_4, small_5, small_6, small_7, small_8, eCaught, onX_e, sRaise, eLm, onLs_l, eFnE, eXg, onV_v, sWish, eDic0, eDisp, eChain, finX_self, st_app, st_len, fin_st, fin_stT, fin_self, ite_self]
  refine name_ok hk g (by omega) fun s w1 hs g1 => ?_
  try simp -implicitDefEqProofs only [eVar, eC, eOp, eUn, aNil, aCons, eSeq, eCall, eFn, bBl, onB_bl, bTru, eNotT, bAnd, bOr, bNot, eAnd, eOr, eIf, bChain, iteB_t, iteB_f, sNil, sSeq, sRet, sDrop, sAsg, sIf, sBreak, sCont, sAsgG, sPar2, sPar3, sSetIx, sPairSet, sAppend, onL, onI_i, onT_s, onTu_t, onCe_c, on1_, on2_, on3_, onLst_l, onOb_o, onSeq_l, onSeq_r, onSeq_c, lkD_s, lkD_n, lkO_s, lkO_n, finO, sFldD, setFD, eProp, isOb_obj, eMake, eMakeK, eMakeL, eLc, eNew, eSl, oNone, oSome, eOpM, eCallM, eCm, eCmK, eOpT, jNil, jCons, eJoin, aStar, sCalm, sFor, iRange1, iSeq, iTupD, iStrD, iEnumT, tName, tTup_t, tsCons_c, tsNil_n, any_t, onS_some, look0, look1, look2, look3, look4, look5, look6, look7, look8, look9, look10, look11, look12, look13, look14, look15, bYes, wipeE, List.set_cons_zero, List.set_cons_succ, List.length_cons, List.length_nil, List.append_nil, List.nil_append, List.cons_append, List.append_assoc, Nat.zero_add, Nat.reduceAdd, Nat.reduceSub, Nat.reduceEqDiff, Nat.reduceLT, Nat.reduceLeDiff, Int.reduceNeg, true_and, and_true, and_self, if_true, if_false, Bool.not_true, Bool.not_false, Bool.false_eq_true, reduceIte, reduceCtorEq, decide_true, decide_false, ltD_int, leD_int, gtD_int, geD_int, subD_int, addD_int, intOf_int, absD_int, eqD_int, eqD_str, neD_str, neD_int, isN_non, truD_bl, eqD_bl, neD_bl, Option.map_some, Option.bind_some, small_0, small_1, small_2, small_3, small_4, small_5, small_6, small_7, small_8, eCaught, onX_e, sRaise, eLm, onLs_l, eFnE, eXg, onV_v, sWish, eDic0, eDisp, eChain, finX_self, st_app, st_len, fin_st, fin_stT, fin_self, ite_self]
  refine dip_ok hk g1 (by omega) (by omega) (by omega) fun d w2 d0 d1 g2 => ?_
  try simp -implicitDefEqProofs only [eVar, eC, eOp, eUn, aNil, aCons, eSeq, eCall, eFn, bBl, onB_bl, bTru, eNotT, bAnd, bOr, bNot, eAnd, eOr, eIf, bChain, iteB_t, iteB_f, sNil, sSeq, sRet, sDrop, sAsg, sIf, sBreak, sCont, sAsgG, sPar2, sPar3, sSetIx, sPairSet, sAppend, onL, onI_i, onT_s, onTu_t, onCe_c, on1_, on2_, on3_, onLst_l, onOb_o, onSeq_l, onSeq_r, onSeq_c, lkD_s, lkD_n, lkO_s, lkO_n, finO, sFldD, setFD, eProp, isOb_obj, eMake, eMakeK, eMakeL, eLc, eNew, eSl, oNone, oSome, eOpM, eCallM, eCm, eCmK, eOpT, jNil, jCons, eJoin, aStar, sCalm, sFor, iRange1, iSeq, iTupD, iStrD, iEnumT, tName, tTup_t, tsCons_c, tsNil_n, any_t, onS_some, look0, look1, look2, look3, look4, look5, look6, look7, look8, look9, look10, look11, look12, look13, look14, look15, bYes, wipeE, List.set_cons_zero, List.set_cons_succ, List.length_cons, List.length_nil, List.append_nil, List.nil_append, List.cons_append, List.append_assoc, Nat.zero_add, Nat.reduceAdd, Nat.reduceSub, Nat.reduceEqDiff, Nat.reduceLT, Nat.reduceLeDiff, Int.reduceNeg, true_and, and_true, and_self, if_true, if_false, Bool.not_true, Bool.not_false, Bool.false_eq_true, reduceIte, reduceCtorEq, decide_true, decide_false, ltD_int, leD_int, gtD_int, geD_int, subD_int, addD_int, intOf_int, absD_int, eqD_int, eqD_str, neD_str, neD_int, isN_non, truD_bl, eqD_bl, neD_bl, Option.map_some, Option.bind_some, small_0, small_1, small_2, small_3, small_4, small_5, small_6, small_7, small_8, eCaught, onX_e, sRaise, eLm, onLs_l, eFnE, eXg, onV_v, sWish, eDic0, eDisp, eChain, finX_self, st_app, st_len, fin_st, fin_stT, fin_self, ite_self]
  refine dip_ok hk g2 (by omega) (by omega) (by omega) fun e w3 e0 e1 g3 => ?_
  try simp -implicitDefEqProofs only [eVar, eC, eOp, eUn, aNil, aCons, eSeq, eCall, eFn, bBl, onB_bl, bTru, eNotT, bAnd, bOr, bNot, eAnd, eOr, eIf, bChain, iteB_t, iteB_f, sNil, sSeq, sRet, sDrop, sAsg, sIf, sBreak, sCont, sAsgG, sPar2, sPar3, sSetIx, sPairSet, sAppend, onL, onI_i, onT_s, onTu_t, onCe_c, on1_, on2_, on3_, onLst_l, onOb_o, onSeq_l, onSeq_r, onSeq_c, lkD_s, lkD_n, lkO_s, lkO_n, finO, sFldD, setFD, eProp, isOb_obj, eMake, eMakeK, eMakeL, eLc, eNew, eSl, oNone, oSome, eOpM, eCallM, eCm, eCmK, eOpT, jNil, jCons, eJoin, aStar, sCalm, sFor, iRange1, iSeq, iTupD, iStrD, iEnumT, tName, tTup_t, tsCons_c, tsNil_n, any_t, onS_some, look0, look1, look2, look3, look4, look5, look6, look7, look8, look9, look10, look11, look12, look13, look14, look15, bYes, wipeE, List.set_cons_zero, List.set_cons_succ, List.length_cons, List.length_nil, List.append_nil, List.nil_append, List.cons_append, List.append_assoc, Nat.zero_add, Nat.reduceAdd, Nat.reduceSub, Nat.reduceEqDiff, Nat.reduceLT, Nat.reduceLeDiff, Int.reduceNeg, true_and, and_true, and_self, if_true, if_false, Bool.not_true, Bool.not_false, Bool.false_eq_true, reduceIte, reduceCtorEq, decide_true, decide_false, ltD_int, leD_int, gtD_int, geD_int, subD_int, addD_int, intOf_int, absD_int, eqD_int, eqD_str, neD_str, neD_int, isN_non, truD_bl, eqD_bl, neD_bl, Option.map_some, Option.bind_some, small_0, small_1, small_2, small_3, small_4, small_5, small_6, small_7, small_8, eCaught, onX_e, sRaise, eLm, onLs_l, eFnE, eXg, onV_v, sWish, eDic0, eDisp, eChain, finX_self, st_app, st_len, fin_st, fin_stT, fin_self, ite_self]
  subst hN_
  have sm := nm_small hs
  try simp -implicitDefEqProofs only [eVar, eC, eOp, eUn, aNil, aCons, eSeq, eCall, eFn, bBl, onB_bl, bTru, eNotT, bAnd, bOr, bNot, eAnd, eOr, eIf, bChain, iteB_t, iteB_f, sNil, sSeq, sRet, sDrop, sAsg, sIf, sBreak, sCont, sAsgG, sPar2, sPar3, sSetIx, sPairSet, sAppend, onL, onI_i, onT_s, onTu_t, onCe_c, on1_, on2_, on3_, onLst_l, onOb_o, onSeq_l, onSeq_r, onSeq_c, lkD_s, lkD_n, lkO_s, lkO_n, finO, sFldD, setFD, eProp, isOb_obj, eMake, eMakeK, eMakeL, eLc, eNew, eSl, oNone, oSome, eOpM, eCallM, eCm, eCmK, eOpT, jNil, jCons, eJoin, aStar, sCalm, sFor, iRange1, iSeq, iTupD, iStrD, iEnumT, tName, tTup_t, tsCons_c, tsNil_n, any_t, onS_some, look0, look1, look2, look3, look4, look5, look6, look7, look8, look9, look10, look11, look12, look13, look14, look15, bYes, wipeE, List.set_cons_zero, List.set_cons_succ, List.length_cons, List.length_nil, List.append_nil, List.nil_append, List.cons_append, List.append_assoc, Nat.zero_add, Nat.reduceAdd, Nat.reduceSub, Nat.reduceEqDiff, Nat.reduceLT, Nat.reduceLeDiff, Int.reduceNeg, true_and, and_true, and_self, if_true, if_false, Bool.not_true, Bool.not_false, Bool.false_eq_true, reduceIte, reduceCtorEq, decide_true, decide_false, ltD_int, leD_int, gtD_int, geD_int, subD_int, addD_int, intOf_int, absD_int, eqD_int, eqD_str, neD_str, neD_int, isN_non, truD_bl, eqD_bl, neD_bl, Option.map_some, Option.bind_some, small_0, small_1, small_2, small_3, small_4, small_5, small_6, small_7, small_8, eCaught, onX_e, sRaise, eLm, onLs_l, eFnE, eXg, onV_v, sWish, eDic0, eDisp, eChain, finX_self, st_app, st_len, fin_st, fin_stT, fin_self, ite_self, sl_str sm]
  refine sign_ok hk g3 (by omega) often_low (by rw [often_len]; omega) (by rw [often_len]; omega) fun c w4 hc g4 => ?_
  have l8 := (nm_len hs).2
  have l1 := cut_len (s := s) (lo := none) (hi := some d)
  have l2 := cut_len (s := s) (lo := some (d + e)) (hi := none)
  have a1 : addD (st S k w4 T) (.str (cutS s none (some d))) (.str ⟨#[c]⟩) = some (.str (cutS s none (some d) ++ ⟨#[c]⟩)) := addS (by rw [one_len]; omega)
  have a2 : addD (st S k w4 T) (.str (cutS s none (some d) ++ ⟨#[c]⟩)) (.str (cutS s (some (d + e)) none)) = some (.str (cutS s none (some d) ++ ⟨#[c]⟩ ++ cutS s (some (d + e)) none)) := addS (by rw [cat_len, one_len]; omega)
  try simp -implicitDefEqProofs only [eVar, eC, eOp, eUn, aNil, aCons, eSeq, eCall, eFn, bBl, onB_bl, bTru, eNotT, bAnd, bOr, bNot, eAnd, eOr, eIf, bChain, iteB_t, iteB_f, sNil, sSeq, sRet, sDrop, sAsg, sIf, sBreak, sCont, sAsgG, sPar2, sPar3, sSetIx, sPairSet, sAppend, onL, onI_i, onT_s, onTu_t, onCe_c, on1_, on2_, on3_, onLst_l, onOb_o, onSeq_l, onSeq_r, onSeq_c, lkD_s, lkD_n, lkO_s, lkO_n, finO, sFldD, setFD, eProp, isOb_obj, eMake, eMakeK, eMakeL, eLc, eNew, eSl, oNone, oSome, eOpM, eCallM, eCm, eCmK, eOpT, jNil, jCons, eJoin, aStar, sCalm, sFor, iRange1, iSeq, iTupD, iStrD, iEnumT, tName, tTup_t, tsCons_c, tsNil_n, any_t, onS_some, look0, look1, look2, look3, look4, look5, look6, look7, look8, look9, look10, look11, look12, look13, look14, look15, bYes, wipeE, List.set_cons_zero, List.set_cons_succ, List.length_cons, List.length_nil, List.append_nil, List.nil_append, List.cons_append, List.append_assoc, Nat.zero_add, Nat.reduceAdd, Nat.reduceSub, Nat.reduceEqDiff, Nat.reduceLT, Nat.reduceLeDiff, Int.reduceNeg, true_and, and_true, and_self, if_true, if_false, Bool.not_true, Bool.not_false, Bool.false_eq_true, reduceIte, reduceCtorEq, decide_true, decide_false, ltD_int, leD_int, gtD_int, geD_int, subD_int, addD_int, intOf_int, absD_int, eqD_int, eqD_str, neD_str, neD_int, isN_non, truD_bl, eqD_bl, neD_bl, Option.map_some, Option.bind_some, small_0, small_1, small_2, small_3, small_4, small_5, small_6, small_7, small_8, eCaught, onX_e, sRaise, eLm, onLs_l, eFnE, eXg, onV_v, sWish, eDic0, eDisp, eChain, finX_self, st_app, st_len, fin_st, fin_stT, fin_self, ite_self, a1, a2, sl_str sm]
  exact h _ w4 (low_cat (low_cat (low_cut (low_nm hs)) (low_one hc)) (low_cut (low_nm hs))) (by rw [cat_len, cat_len, one_len]; omega) (g4.mono (by omega))
theorem value_ok (hk : k < S.length) (g : Good n w) (hn : n < 1000000000000000) (h : ∀ d t r w', Vl A d t r → Good (n + 30) w' → q d (st S k w' T)) : G_value_k10 A [.cell k] (st S k w T) q x := by
  rw [D_value_k10]
  unfold fnD startE
  simp only [List.map_cons, List.map_nil, List.length_cons, List.length_nil, Nat.reduceAdd, Nat.reduceSub, List.replicate, List.cons_append, List.nil_append, List.append_nil, Nat.zero_add]
  unfold B_value_k10
  refine seq_gen fun N_ hN_ => ?_
  try simp -implicitDefEqProofs only [eVar, eC, eOp, eUn, aNil, aCons, eSeq, eCall, eFn, bBl, onB_bl, bTru, eNotT, bAnd, bOr, bNot, eAnd, eOr, eIf, bChain, iteB_t, iteB_f, sNil, sSeq, sRet, sDrop, sAsg, sIf, sBreak, sCont, sAsgG, sPar2, sPar3, sSetIx, sPairSet, sAppend, onL, onI_i, onT_s, onTu_t, onCe_c, on1_, on2_, on3_, onLst_l, onOb_o, onSeq_l, onSeq_r, onSeq_c, lkD_s, lkD_n, lkO_s, lkO_n, finO, sFldD, setFD, eProp, isOb_obj, eMake, eMakeK, eMakeL, eLc, eNew, eSl, oNone, oSome, eOpM, eCallM, eCm, eCmK, eOpT, jNil, jCons, eJoin, aStar, sCalm, sFor, iRange1, iSeq, iTupD, iStrD, iEnumT, tName, tTup_t, tsCons_c, tsNil_n, any_t, onS_some, look0, look1, look2, look3, look4, look5, look6, look7, look8, look9, look10, look11, look12, look13, look14, look15, bYes, wipeE, List.set_cons_zero, List.set_cons_succ, List.length_cons, List.length_nil, List.append_nil, List.nil_append, List.cons_append, List.append_assoc, Nat.zero_add, Nat.reduceAdd, Nat.reduceSub, Nat.reduceEqDiff, Nat.reduceLT, Nat.reduceLeDiff, Int.reduceNeg, true_and, and_true, and_self, if_true, if_false, Bool.not_true, Bool.not_false, Bool.false_eq_true, reduceIte, reduceCtorEq, decide_true, decide_false, ltD_int, leD_int, gtD_int, geD_int, subD_int, addD_int, intOf_int, absD_int, eqD_int, eqD_str, neD_str, neD_int, isN_non, truD_bl, eqD_bl, neD_bl, Option.map_some, Option.bind_some, small_0, small_1, small_2, small_3, small_4, small_5, small_6, small_7, small_8, eCaught, onX_e, sRaise, eLm, onLs_l, eFnE, eXg, onV_v, sWish, eDic0, eDisp, eChain, finX_self, st_app, st_len, fin_st, fin_stT, fin_self, ite_self]
  refine dip_ok hk g (by omega) (by omega) (by omega) fun d w1 d0 d1 g1 => ?_
  try simp -implicitDefEqProofs only [eVar, eC, eOp, eUn, aNil, aCons, eSeq, eCall, eFn, bBl, onB_bl, bTru, eNotT, bAnd, bOr, bNot, eAnd, eOr, eIf, bChain, iteB_t, iteB_f, sNil, sSeq, sRet, sDrop, sAsg, sIf, sBreak, sCont, sAsgG, sPar2, sPar3, sSetIx, sPairSet, sAppend, onL, onI_i, onT_s, onTu_t, onCe_c, on1_, on2_, on3_, onLst_l, onOb_o, onSeq_l, onSeq_r, onSeq_c, lkD_s, lkD_n, lkO_s, lkO_n, finO, sFldD, setFD, eProp, isOb_obj, eMake, eMakeK, eMakeL, eLc, eNew, eSl, oNone, oSome, eOpM, eCallM, eCm, eCmK, eOpT, jNil, jCons, eJoin, aStar, sCalm, sFor, iRange1, iSeq, iTupD, iStrD, iEnumT, tName, tTup_t, tsCons_c, tsNil_n, any_t, onS_some, look0, look1, look2, look3, look4, look5, look6, look7, look8, look9, look10, look11, look12, look13, look14, look15, bYes, wipeE, List.set_cons_zero, List.set_cons_succ, List.length_cons, List.length_nil, List.append_nil, List.nil_append, List.cons_append, List.append_assoc, Nat.zero_add, Nat.reduceAdd, Nat.reduceSub, Nat.reduceEqDiff, Nat.reduceLT, Nat.reduceLeDiff, Int.reduceNeg, true_and, and_true, and_self, if_true, if_false, Bool.not_true, Bool.not_false, Bool.false_eq_true, reduceIte, reduceCtorEq, decide_true, decide_false, ltD_int, leD_int, gtD_int, geD_int, subD_int, addD_int, intOf_int, absD_int, eqD_int, eqD_str, neD_str, neD_int, isN_non, truD_bl, eqD_bl, neD_bl, Option.map_some, Option.bind_some, small_0, small_1, small_2, small_3, small_4, small_5, small_6, small_7, small_8, eCaught, onX_e, sRaise, eLm, onLs_l, eFnE, eXg, onV_v, sWish, eDic0, eDisp, eChain, finX_self, st_app, st_len, fin_st, fin_stT, fin_self, ite_self]
  subst hN_
  refine seq_gen fun N_ hN_ => ?_
  try simp -implicitDefEqProofs only [eVar, eC, eOp, eUn, aNil, aCons, eSeq, eCall, eFn, bBl, onB_bl, bTru, eNotT, bAnd, bOr, bNot, eAnd, eOr, eIf, bChain, iteB_t, iteB_f, sNil, sSeq, sRet, sDrop, sAsg, sIf, sBreak, sCont, sAsgG, sPar2, sPar3, sSetIx, sPairSet, sAppend, onL, onI_i, onT_s, onTu_t, onCe_c, on1_, on2_, on3_, onLst_l, onOb_o, onSeq_l, onSeq_r, onSeq_c, lkD_s, lkD_n, lkO_s, lkO_n, finO, sFldD, setFD, eProp, isOb_obj, eMake, eMakeK, eMakeL, eLc, eNew, eSl, oNone, oSome, eOpM, eCallM, eCm, eCmK, eOpT, jNil, jCons, eJoin, aStar, sCalm, sFor, iRange1, iSeq, iTupD, iStrD, iEnumT, tName, tTup_t, tsCons_c, tsNil_n, any_t, onS_some, look0, look1, look2, look3, look4, look5, look6, look7, look8, look9, look10, look11, look12, look13, look14, look15, bYes, wipeE, List.set_cons_zero, List.set_cons_succ, List.length_cons, List.length_nil, List.append_nil, List.nil_append, List.cons_append, List.append_assoc, Nat.zero_add, Nat.reduceAdd, Nat.reduceSub, Nat.reduceEqDiff, Nat.reduceLT, Nat.reduceLeDiff, Int.reduceNeg, true_and, and_true, and_self, if_true, if_false, Bool.not_true, Bool.not_false, Bool.false_eq_true, reduceIte, reduceCtorEq, decide_true, decide_false, ltD_int, leD_int, gtD_int, geD_int, subD_int, addD_int, intOf_int, absD_int, eqD_int, eqD_str, neD_str, neD_int, isN_non, truD_bl, eqD_bl, neD_bl, Option.map_some, Option.bind_some, small_0, small_1, small_2, small_3, small_4, small_5, small_6, small_7, small_8, eCaught, onX_e, sRaise, eLm, onLs_l, eFnE, eXg, onV_v, sWish, eDic0, eDisp, eChain, finX_self, st_app, st_len, fin_st, fin_stT, fin_self, ite_self]
  refine iteB_dec (fun hd => ?_) (fun hd => ?_)
  · refine odd_ok hk g1 (by omega) fun d t r w2 _ hv g2 => ?_
    try simp -implicitDefEqProofs only [eVar, eC, eOp, eUn, aNil, aCons, eSeq, eCall, eFn, bBl, onB_bl, bTru, eNotT, bAnd, bOr, bNot, eAnd, eOr, eIf, bChain, iteB_t, iteB_f, sNil, sSeq, sRet, sDrop, sAsg, sIf, sBreak, sCont, sAsgG, sPar2, sPar3, sSetIx, sPairSet, sAppend, onL, onI_i, onT_s, onTu_t, onCe_c, on1_, on2_, on3_, onLst_l, onOb_o, onSeq_l, onSeq_r, onSeq_c, lkD_s, lkD_n, lkO_s, lkO_n, finO, sFldD, setFD, eProp, isOb_obj, eMake, eMakeK, eMakeL, eLc, eNew, eSl, oNone, oSome, eOpM, eCallM, eCm, eCmK, eOpT, jNil, jCons, eJoin, aStar, sCalm, sFor, iRange1, iSeq, iTupD, iStrD, iEnumT, tName, tTup_t, tsCons_c, tsNil_n, any_t, onS_some, look0, look1, look2, look3, look4, look5, look6, look7, look8, look9, look10, look11, look12, look13, look14, look15, bYes, wipeE, List.set_cons_zero, List.set_cons_succ, List.length_cons, List.length_nil, List.append_nil, List.nil_append, List.cons_append, List.append_assoc, Nat.zero_add, Nat.reduceAdd, Nat.reduceSub, Nat.reduceEqDiff, Nat.reduceLT, Nat.reduceLeDiff, Int.reduceNeg, true_and, and_true, and_self, if_true, if_false, Bool.not_true, Bool.not_false, Bool.false_eq_true, reduceIte, reduceCtorEq, decide_true, decide_false, ltD_int, leD_int, gtD_int, geD_int, subD_int, addD_int, intOf_int, absD_int, eqD_int, eqD_str, neD_str, neD_int, isN_non, truD_bl, eqD_bl, neD_bl, Option.map_some, Option.bind_some, small_0, small_1, small_2, small_3, small_4, small_5, small_6, small_7, small_8, eCaught, onX_e, sRaise, eLm, onLs_l, eFnE, eXg, onV_v, sWish, eDic0, eDisp, eChain, finX_self, st_app, st_len, fin_st, fin_stT, fin_self, ite_self]
    exact h d t r w2 hv (g2.mono (by omega))
  · subst hN_
    try simp -implicitDefEqProofs only [eVar, eC, eOp, eUn, aNil, aCons, eSeq, eCall, eFn, bBl, onB_bl, bTru, eNotT, bAnd, bOr, bNot, eAnd, eOr, eIf, bChain, iteB_t, iteB_f, sNil, sSeq, sRet, sDrop, sAsg, sIf, sBreak, sCont, sAsgG, sPar2, sPar3, sSetIx, sPairSet, sAppend, onL, onI_i, onT_s, onTu_t, onCe_c, on1_, on2_, on3_, onLst_l, onOb_o, onSeq_l, onSeq_r, onSeq_c, lkD_s, lkD_n, lkO_s, lkO_n, finO, sFldD, setFD, eProp, isOb_obj, eMake, eMakeK, eMakeL, eLc, eNew, eSl, oNone, oSome, eOpM, eCallM, eCm, eCmK, eOpT, jNil, jCons, eJoin, aStar, sCalm, sFor, iRange1, iSeq, iTupD, iStrD, iEnumT, tName, tTup_t, tsCons_c, tsNil_n, any_t, onS_some, look0, look1, look2, look3, look4, look5, look6, look7, look8, look9, look10, look11, look12, look13, look14, look15, bYes, wipeE, List.set_cons_zero, List.set_cons_succ, List.length_cons, List.length_nil, List.append_nil, List.nil_append, List.cons_append, List.append_assoc, Nat.zero_add, Nat.reduceAdd, Nat.reduceSub, Nat.reduceEqDiff, Nat.reduceLT, Nat.reduceLeDiff, Int.reduceNeg, true_and, and_true, and_self, if_true, if_false, Bool.not_true, Bool.not_false, Bool.false_eq_true, reduceIte, reduceCtorEq, decide_true, decide_false, ltD_int, leD_int, gtD_int, geD_int, subD_int, addD_int, intOf_int, absD_int, eqD_int, eqD_str, neD_str, neD_int, isN_non, truD_bl, eqD_bl, neD_bl, Option.map_some, Option.bind_some, small_0, small_1, small_2, small_3, small_4, small_5, small_6, small_7, small_8, eCaught, onX_e, sRaise, eLm, onLs_l, eFnE, eXg, onV_v, sWish, eDic0, eDisp, eChain, finX_self, st_app, st_len, fin_st, fin_stT, fin_self, ite_self]
    refine iteB_dec (fun hd => ?_) (fun hd => ?_)
    · refine bent_ok hk g1 (by omega) fun s w2 hs hl g2 => ?_
      try simp -implicitDefEqProofs only [eVar, eC, eOp, eUn, aNil, aCons, eSeq, eCall, eFn, bBl, onB_bl, bTru, eNotT, bAnd, bOr, bNot, eAnd, eOr, eIf, bChain, iteB_t, iteB_f, sNil, sSeq, sRet, sDrop, sAsg, sIf, sBreak, sCont, sAsgG, sPar2, sPar3, sSetIx, sPairSet, sAppend, onL, onI_i, onT_s, onTu_t, onCe_c, on1_, on2_, on3_, onLst_l, onOb_o, onSeq_l, onSeq_r, onSeq_c, lkD_s, lkD_n, lkO_s, lkO_n, finO, sFldD, setFD, eProp, isOb_obj, eMake, eMakeK, eMakeL, eLc, eNew, eSl, oNone, oSome, eOpM, eCallM, eCm, eCmK, eOpT, jNil, jCons, eJoin, aStar, sCalm, sFor, iRange1, iSeq, iTupD, iStrD, iEnumT, tName, tTup_t, tsCons_c, tsNil_n, any_t, onS_some, look0, look1, look2, look3, look4, look5, look6, look7, look8, look9, look10, look11, look12, look13, look14, look15, bYes, wipeE, List.set_cons_zero, List.set_cons_succ, List.length_cons, List.length_nil, List.append_nil, List.nil_append, List.cons_append, List.append_assoc, Nat.zero_add, Nat.reduceAdd, Nat.reduceSub, Nat.reduceEqDiff, Nat.reduceLT, Nat.reduceLeDiff, Int.reduceNeg, true_and, and_true, and_self, if_true, if_false, Bool.not_true, Bool.not_false, Bool.false_eq_true, reduceIte, reduceCtorEq, decide_true, decide_false, ltD_int, leD_int, gtD_int, geD_int, subD_int, addD_int, intOf_int, absD_int, eqD_int, eqD_str, neD_str, neD_int, isN_non, truD_bl, eqD_bl, neD_bl, Option.map_some, Option.bind_some, small_0, small_1, small_2, small_3, small_4, small_5, small_6, small_7, small_8, eCaught, onX_e, sRaise, eLm, onLs_l, eFnE, eXg, onV_v, sWish, eDic0, eDisp, eChain, finX_self, st_app, st_len, fin_st, fin_stT, fin_self, ite_self]
      exact h _ _ _ w2 (Vl.str (low_ok hs) (by omega)) (g2.mono (by omega))
    · refine name_ok hk g1 (by omega) fun s w2 hs g2 => ?_
      have := (nm_len hs).2
      try simp -implicitDefEqProofs only [eVar, eC, eOp, eUn, aNil, aCons, eSeq, eCall, eFn, bBl, onB_bl, bTru, eNotT, bAnd, bOr, bNot, eAnd, eOr, eIf, bChain, iteB_t, iteB_f, sNil, sSeq, sRet, sDrop, sAsg, sIf, sBreak, sCont, sAsgG, sPar2, sPar3, sSetIx, sPairSet, sAppend, onL, onI_i, onT_s, onTu_t, onCe_c, on1_, on2_, on3_, onLst_l, onOb_o, onSeq_l, onSeq_r, onSeq_c, lkD_s, lkD_n, lkO_s, lkO_n, finO, sFldD, setFD, eProp, isOb_obj, eMake, eMakeK, eMakeL, eLc, eNew, eSl, oNone, oSome, eOpM, eCallM, eCm, eCmK, eOpT, jNil, jCons, eJoin, aStar, sCalm, sFor, iRange1, iSeq, iTupD, iStrD, iEnumT, tName, tTup_t, tsCons_c, tsNil_n, any_t, onS_some, look0, look1, look2, look3, look4, look5, look6, look7, look8, look9, look10, look11, look12, look13, look14, look15, bYes, wipeE, List.set_cons_zero, List.set_cons_succ, List.length_cons, List.length_nil, List.append_nil, List.nil_append, List.cons_append, List.append_assoc, Nat.zero_add, Nat.reduceAdd, Nat.reduceSub, Nat.reduceEqDiff, Nat.reduceLT, Nat.reduceLeDiff, Int.reduceNeg, true_and, and_true, and_self, if_true, if_false, Bool.not_true, Bool.not_false, Bool.false_eq_true, reduceIte, reduceCtorEq, decide_true, decide_false, ltD_int, leD_int, gtD_int, geD_int, subD_int, addD_int, intOf_int, absD_int, eqD_int, eqD_str, neD_str, neD_int, isN_non, truD_bl, eqD_bl, neD_bl, Option.map_some, Option.bind_some, small_0, small_1, small_2, small_3, small_4, small_5, small_6, small_7, small_8, eCaught, onX_e, sRaise, eLm, onLs_l, eFnE, eXg, onV_v, sWish, eDic0, eDisp, eChain, finX_self, st_app, st_len, fin_st, fin_stT, fin_self, ite_self]
      exact h _ _ _ w2 (Vl.str (low_ok (low_nm hs)) (by omega)) (g2.mono (by omega))
end
end RV
end
section
/-! Names judged by the law; pipes and meters of any values. -/
namespace RV
open PySem L2
section
variable {A : Ad} {S T : WS} {k : Nat} {n m : Int} {w : W} {q : D → WS → Prop} {x : Xq} {s : Str} {v v1 v2 v3 : D} {t t1 t2 t3 : Value} {r r1 r2 r3 : Str} {f : Addr}
theorem signs_26 : cutS ("abcdefghijklmnopqrstuvwxyz0123456789" : Str) none (some 26) = "abcdefghijklmnopqrstuvwxyz" := by decide +kernel
theorem in_signs {ch : Nat} : inSD false S (.str ⟨#[ch]⟩) (.str "abcdefghijklmnopqrstuvwxyz0123456789") = some (.bl (isLt ch || isDg ch)) := by
  have e : (("abcdefghijklmnopqrstuvwxyz0123456789" : Str)).cps.toList = letters.cps.toList ++ digits.cps.toList := by decide +kernel
  have h : decide (ch ∈ ("abcdefghijklmnopqrstuvwxyz0123456789" : Str).cps.toList) = (isLt ch || isDg ch) := by
    rw [e]
    unfold isLt isDg
    rw [← Bool.decide_or]
    simp only [List.mem_append]
  rw [← h]
  simp [inSD]
theorem lawName_eq (hs : small s.length = true) : G_is_name_k04 A [.str s] S q x = q (.bl (nmB s)) S := by
  have hln := len_str (S := S) hs
  have s36 : small ("abcdefghijklmnopqrstuvwxyz0123456789" : Str).length = true := by decide +kernel
  have hlc : ∀ q : List D → WS → Prop, lcD any_ (tName 2) bYes (eOp (inSD false) (eVar 2) (eVar 1)) [some (.str s), some (.str "abcdefghijklmnopqrstuvwxyz0123456789"), none] (s.cps.toList.map fun c => D.str ⟨#[c]⟩) [] S q = q (s.cps.toList.map fun c => D.bl (isLt c || isDg c)) S := fun q => by
    refine lc_mapEq _ trivial fun c hc => ⟨_, rfl, fun q x => ?_⟩
    try simp -implicitDefEqProofs only [eVar, eC, eOp, eUn, aNil, aCons, eSeq, eCall, eFn, bBl, onB_bl, bTru, eNotT, bAnd, bOr, bNot, eAnd, eOr, eIf, bChain, iteB_t, iteB_f, sNil, sSeq, sRet, sDrop, sAsg, sIf, sBreak, sCont, sAsgG, sPar2, sPar3, sSetIx, sPairSet, sAppend, onL, onI_i, onT_s, onTu_t, onCe_c, on1_, on2_, on3_, onLst_l, onOb_o, onSeq_l, onSeq_r, onSeq_c, lkD_s, lkD_n, lkO_s, lkO_n, finO, sFldD, setFD, eProp, isOb_obj, eMake, eMakeK, eMakeL, eLc, eNew, eSl, oNone, oSome, eOpM, eCallM, eCm, eCmK, eOpT, jNil, jCons, eJoin, aStar, sCalm, sFor, iRange1, iSeq, iTupD, iStrD, iEnumT, tName, tTup_t, tsCons_c, tsNil_n, any_t, onS_some, look0, look1, look2, look3, look4, look5, look6, look7, look8, look9, look10, look11, look12, look13, look14, look15, bYes, wipeE, List.set_cons_zero, List.set_cons_succ, List.length_cons, List.length_nil, List.append_nil, List.nil_append, List.cons_append, List.append_assoc, Nat.zero_add, Nat.reduceAdd, Nat.reduceSub, Nat.reduceEqDiff, Nat.reduceLT, Nat.reduceLeDiff, Int.reduceNeg, true_and, and_true, and_self, if_true, if_false, Bool.not_true, Bool.not_false, Bool.false_eq_true, reduceIte, reduceCtorEq, decide_true, decide_false, ltD_int, leD_int, gtD_int, geD_int, subD_int, addD_int, intOf_int, absD_int, eqD_int, eqD_str, neD_str, neD_int, isN_non, truD_bl, eqD_bl, neD_bl, Option.map_some, Option.bind_some, small_0, small_1, small_2, small_3, small_4, small_5, small_6, small_7, small_8, eCaught, onX_e, sRaise, eLm, onLs_l, eFnE, eXg, onV_v, sWish, eDic0, eDisp, eChain, finX_self, st_app, st_len, fin_st, fin_stT, fin_self, ite_self, in_signs]
  have hsm : small (s.cps.toList.map fun c => D.str ⟨#[c]⟩).length = true := by rw [List.length_map, ← len_cps]; exact hs
  rw [D_is_name_k04]
  unfold fnD startE
  simp only [List.map_cons, List.map_nil, List.length_cons, List.length_nil, Nat.reduceAdd, Nat.reduceSub, List.replicate, List.cons_append, List.nil_append, List.append_nil, Nat.zero_add]
  unfold B_is_name_k04
  try simp -implicitDefEqProofs only [eVar, eC, eOp, eUn, aNil, aCons, eSeq, eCall, eFn, bBl, onB_bl, bTru, eNotT, bAnd, bOr, bNot, eAnd, eOr, eIf, bChain, iteB_t, iteB_f, sNil, sSeq, sRet, sDrop, sAsg, sIf, sBreak, sCont, sAsgG, sPar2, sPar3, sSetIx, sPairSet, sAppend, onL, onI_i, onT_s, onTu_t, onCe_c, on1_, on2_, on3_, onLst_l, onOb_o, onSeq_l, onSeq_r, onSeq_c, lkD_s, lkD_n, lkO_s, lkO_n, finO, sFldD, setFD, eProp, isOb_obj, eMake, eMakeK, eMakeL, eLc, eNew, eSl, oNone, oSome, eOpM, eCallM, eCm, eCmK, eOpT, jNil, jCons, eJoin, aStar, sCalm, sFor, iRange1, iSeq, iTupD, iStrD, iEnumT, tName, tTup_t, tsCons_c, tsNil_n, any_t, onS_some, look0, look1, look2, look3, look4, look5, look6, look7, look8, look9, look10, look11, look12, look13, look14, look15, bYes, wipeE, List.set_cons_zero, List.set_cons_succ, List.length_cons, List.length_nil, List.append_nil, List.nil_append, List.cons_append, List.append_assoc, Nat.zero_add, Nat.reduceAdd, Nat.reduceSub, Nat.reduceEqDiff, Nat.reduceLT, Nat.reduceLeDiff, Int.reduceNeg, true_and, and_true, and_self, if_true, if_false, Bool.not_true, Bool.not_false, Bool.false_eq_true, reduceIte, reduceCtorEq, decide_true, decide_false, ltD_int, leD_int, gtD_int, geD_int, subD_int, addD_int, intOf_int, absD_int, eqD_int, eqD_str, neD_str, neD_int, isN_non, truD_bl, eqD_bl, neD_bl, Option.map_some, Option.bind_some, small_0, small_1, small_2, small_3, small_4, small_5, small_6, small_7, small_8, eCaught, onX_e, sRaise, eLm, onLs_l, eFnE, eXg, onV_v, sWish, eDic0, eDisp, eChain, finX_self, st_app, st_len, fin_st, fin_stT, fin_self, ite_self, hln, hsm, hlc, allD_map, sl_str s36, signs_26]
  unfold nmB
  rcases hc : s.cps.toList with _ | ⟨ch, r⟩
  · have h0 : s.length = 0 := by rw [len_cps, hc]; rfl
    try simp -implicitDefEqProofs only [eVar, eC, eOp, eUn, aNil, aCons, eSeq, eCall, eFn, bBl, onB_bl, bTru, eNotT, bAnd, bOr, bNot, eAnd, eOr, eIf, bChain, iteB_t, iteB_f, sNil, sSeq, sRet, sDrop, sAsg, sIf, sBreak, sCont, sAsgG, sPar2, sPar3, sSetIx, sPairSet, sAppend, onL, onI_i, onT_s, onTu_t, onCe_c, on1_, on2_, on3_, onLst_l, onOb_o, onSeq_l, onSeq_r, onSeq_c, lkD_s, lkD_n, lkO_s, lkO_n, finO, sFldD, setFD, eProp, isOb_obj, eMake, eMakeK, eMakeL, eLc, eNew, eSl, oNone, oSome, eOpM, eCallM, eCm, eCmK, eOpT, jNil, jCons, eJoin, aStar, sCalm, sFor, iRange1, iSeq, iTupD, iStrD, iEnumT, tName, tTup_t, tsCons_c, tsNil_n, any_t, onS_some, look0, look1, look2, look3, look4, look5, look6, look7, look8, look9, look10, look11, look12, look13, look14, look15, bYes, wipeE, List.set_cons_zero, List.set_cons_succ, List.length_cons, List.length_nil, List.append_nil, List.nil_append, List.cons_append, List.append_assoc, Nat.zero_add, Nat.reduceAdd, Nat.reduceSub, Nat.reduceEqDiff, Nat.reduceLT, Nat.reduceLeDiff, Int.reduceNeg, true_and, and_true, and_self, if_true, if_false, Bool.not_true, Bool.not_false, Bool.false_eq_true, reduceIte, reduceCtorEq, decide_true, decide_false, ltD_int, leD_int, gtD_int, geD_int, subD_int, addD_int, intOf_int, absD_int, eqD_int, eqD_str, neD_str, neD_int, isN_non, truD_bl, eqD_bl, neD_bl, Option.map_some, Option.bind_some, small_0, small_1, small_2, small_3, small_4, small_5, small_6, small_7, small_8, eCaught, onX_e, sRaise, eLm, onLs_l, eFnE, eXg, onV_v, sWish, eDic0, eDisp, eChain, finX_self, st_app, st_len, fin_st, fin_stT, fin_self, ite_self, show decide ((0 : Int) < ((s.length : Nat) : Int)) = false from decide_eq_false (by omega)]
    simp [nmL]
  · have h1 : s.length = r.length + 1 := by rw [len_cps, hc]; rfl
    have h0 : ixD S (.str s) (.int 0) = some (.str ⟨#[ch]⟩) := by
      simp only [ixD, hs, if_true, hc, atI_cons, Option.map_some]
    try simp -implicitDefEqProofs only [eVar, eC, eOp, eUn, aNil, aCons, eSeq, eCall, eFn, bBl, onB_bl, bTru, eNotT, bAnd, bOr, bNot, eAnd, eOr, eIf, bChain, iteB_t, iteB_f, sNil, sSeq, sRet, sDrop, sAsg, sIf, sBreak, sCont, sAsgG, sPar2, sPar3, sSetIx, sPairSet, sAppend, onL, onI_i, onT_s, onTu_t, onCe_c, on1_, on2_, on3_, onLst_l, onOb_o, onSeq_l, onSeq_r, onSeq_c, lkD_s, lkD_n, lkO_s, lkO_n, finO, sFldD, setFD, eProp, isOb_obj, eMake, eMakeK, eMakeL, eLc, eNew, eSl, oNone, oSome, eOpM, eCallM, eCm, eCmK, eOpT, jNil, jCons, eJoin, aStar, sCalm, sFor, iRange1, iSeq, iTupD, iStrD, iEnumT, tName, tTup_t, tsCons_c, tsNil_n, any_t, onS_some, look0, look1, look2, look3, look4, look5, look6, look7, look8, look9, look10, look11, look12, look13, look14, look15, bYes, wipeE, List.set_cons_zero, List.set_cons_succ, List.length_cons, List.length_nil, List.append_nil, List.nil_append, List.cons_append, List.append_assoc, Nat.zero_add, Nat.reduceAdd, Nat.reduceSub, Nat.reduceEqDiff, Nat.reduceLT, Nat.reduceLeDiff, Int.reduceNeg, true_and, and_true, and_self, if_true, if_false, Bool.not_true, Bool.not_false, Bool.false_eq_true, reduceIte, reduceCtorEq, decide_true, decide_false, ltD_int, leD_int, gtD_int, geD_int, subD_int, addD_int, intOf_int, absD_int, eqD_int, eqD_str, neD_str, neD_int, isN_non, truD_bl, eqD_bl, neD_bl, Option.map_some, Option.bind_some, small_0, small_1, small_2, small_3, small_4, small_5, small_6, small_7, small_8, eCaught, onX_e, sRaise, eLm, onLs_l, eFnE, eXg, onV_v, sWish, eDic0, eDisp, eChain, finX_self, st_app, st_len, fin_st, fin_stT, fin_self, ite_self, show decide ((0 : Int) < ((s.length : Nat) : Int)) = true from decide_eq_true (by omega), h0, inS_letters]
    by_cases h8 : s.length ≤ 8
    · try simp -implicitDefEqProofs only [eVar, eC, eOp, eUn, aNil, aCons, eSeq, eCall, eFn, bBl, onB_bl, bTru, eNotT, bAnd, bOr, bNot, eAnd, eOr, eIf, bChain, iteB_t, iteB_f, sNil, sSeq, sRet, sDrop, sAsg, sIf, sBreak, sCont, sAsgG, sPar2, sPar3, sSetIx, sPairSet, sAppend, onL, onI_i, onT_s, onTu_t, onCe_c, on1_, on2_, on3_, onLst_l, onOb_o, onSeq_l, onSeq_r, onSeq_c, lkD_s, lkD_n, lkO_s, lkO_n, finO, sFldD, setFD, eProp, isOb_obj, eMake, eMakeK, eMakeL, eLc, eNew, eSl, oNone, oSome, eOpM, eCallM, eCm, eCmK, eOpT, jNil, jCons, eJoin, aStar, sCalm, sFor, iRange1, iSeq, iTupD, iStrD, iEnumT, tName, tTup_t, tsCons_c, tsNil_n, any_t, onS_some, look0, look1, look2, look3, look4, look5, look6, look7, look8, look9, look10, look11, look12, look13, look14, look15, bYes, wipeE, List.set_cons_zero, List.set_cons_succ, List.length_cons, List.length_nil, List.append_nil, List.nil_append, List.cons_append, List.append_assoc, Nat.zero_add, Nat.reduceAdd, Nat.reduceSub, Nat.reduceEqDiff, Nat.reduceLT, Nat.reduceLeDiff, Int.reduceNeg, true_and, and_true, and_self, if_true, if_false, Bool.not_true, Bool.not_false, Bool.false_eq_true, reduceIte, reduceCtorEq, decide_true, decide_false, ltD_int, leD_int, gtD_int, geD_int, subD_int, addD_int, intOf_int, absD_int, eqD_int, eqD_str, neD_str, neD_int, isN_non, truD_bl, eqD_bl, neD_bl, Option.map_some, Option.bind_some, small_0, small_1, small_2, small_3, small_4, small_5, small_6, small_7, small_8, eCaught, onX_e, sRaise, eLm, onLs_l, eFnE, eXg, onV_v, sWish, eDic0, eDisp, eChain, finX_self, st_app, st_len, fin_st, fin_stT, fin_self, ite_self, show decide (((s.length : Nat) : Int) < 9) = true from decide_eq_true (by omega)]
      cases hl : isLt ch
      · try simp -implicitDefEqProofs only [eVar, eC, eOp, eUn, aNil, aCons, eSeq, eCall, eFn, bBl, onB_bl, bTru, eNotT, bAnd, bOr, bNot, eAnd, eOr, eIf, bChain, iteB_t, iteB_f, sNil, sSeq, sRet, sDrop, sAsg, sIf, sBreak, sCont, sAsgG, sPar2, sPar3, sSetIx, sPairSet, sAppend, onL, onI_i, onT_s, onTu_t, onCe_c, on1_, on2_, on3_, onLst_l, onOb_o, onSeq_l, onSeq_r, onSeq_c, lkD_s, lkD_n, lkO_s, lkO_n, finO, sFldD, setFD, eProp, isOb_obj, eMake, eMakeK, eMakeL, eLc, eNew, eSl, oNone, oSome, eOpM, eCallM, eCm, eCmK, eOpT, jNil, jCons, eJoin, aStar, sCalm, sFor, iRange1, iSeq, iTupD, iStrD, iEnumT, tName, tTup_t, tsCons_c, tsNil_n, any_t, onS_some, look0, look1, look2, look3, look4, look5, look6, look7, look8, look9, look10, look11, look12, look13, look14, look15, bYes, wipeE, List.set_cons_zero, List.set_cons_succ, List.length_cons, List.length_nil, List.append_nil, List.nil_append, List.cons_append, List.append_assoc, Nat.zero_add, Nat.reduceAdd, Nat.reduceSub, Nat.reduceEqDiff, Nat.reduceLT, Nat.reduceLeDiff, Int.reduceNeg, true_and, and_true, and_self, if_true, if_false, Bool.not_true, Bool.not_false, Bool.false_eq_true, reduceIte, reduceCtorEq, decide_true, decide_false, ltD_int, leD_int, gtD_int, geD_int, subD_int, addD_int, intOf_int, absD_int, eqD_int, eqD_str, neD_str, neD_int, isN_non, truD_bl, eqD_bl, neD_bl, Option.map_some, Option.bind_some, small_0, small_1, small_2, small_3, small_4, small_5, small_6, small_7, small_8, eCaught, onX_e, sRaise, eLm, onLs_l, eFnE, eXg, onV_v, sWish, eDic0, eDisp, eChain, finX_self, st_app, st_len, fin_st, fin_stT, fin_self, ite_self]
        simp [nmL, hl]
      · try simp -implicitDefEqProofs only [eVar, eC, eOp, eUn, aNil, aCons, eSeq, eCall, eFn, bBl, onB_bl, bTru, eNotT, bAnd, bOr, bNot, eAnd, eOr, eIf, bChain, iteB_t, iteB_f, sNil, sSeq, sRet, sDrop, sAsg, sIf, sBreak, sCont, sAsgG, sPar2, sPar3, sSetIx, sPairSet, sAppend, onL, onI_i, onT_s, onTu_t, onCe_c, on1_, on2_, on3_, onLst_l, onOb_o, onSeq_l, onSeq_r, onSeq_c, lkD_s, lkD_n, lkO_s, lkO_n, finO, sFldD, setFD, eProp, isOb_obj, eMake, eMakeK, eMakeL, eLc, eNew, eSl, oNone, oSome, eOpM, eCallM, eCm, eCmK, eOpT, jNil, jCons, eJoin, aStar, sCalm, sFor, iRange1, iSeq, iTupD, iStrD, iEnumT, tName, tTup_t, tsCons_c, tsNil_n, any_t, onS_some, look0, look1, look2, look3, look4, look5, look6, look7, look8, look9, look10, look11, look12, look13, look14, look15, bYes, wipeE, List.set_cons_zero, List.set_cons_succ, List.length_cons, List.length_nil, List.append_nil, List.nil_append, List.cons_append, List.append_assoc, Nat.zero_add, Nat.reduceAdd, Nat.reduceSub, Nat.reduceEqDiff, Nat.reduceLT, Nat.reduceLeDiff, Int.reduceNeg, true_and, and_true, and_self, if_true, if_false, Bool.not_true, Bool.not_false, Bool.false_eq_true, reduceIte, reduceCtorEq, decide_true, decide_false, ltD_int, leD_int, gtD_int, geD_int, subD_int, addD_int, intOf_int, absD_int, eqD_int, eqD_str, neD_str, neD_int, isN_non, truD_bl, eqD_bl, neD_bl, Option.map_some, Option.bind_some, small_0, small_1, small_2, small_3, small_4, small_5, small_6, small_7, small_8, eCaught, onX_e, sRaise, eLm, onLs_l, eFnE, eXg, onV_v, sWish, eDic0, eDisp, eChain, finX_self, st_app, st_len, fin_st, fin_stT, fin_self, ite_self]
        have : decide (r.length ≤ 7) = true := decide_eq_true (by omega)
        simp [nmL, hl, this]
    · try simp -implicitDefEqProofs only [eVar, eC, eOp, eUn, aNil, aCons, eSeq, eCall, eFn, bBl, onB_bl, bTru, eNotT, bAnd, bOr, bNot, eAnd, eOr, eIf, bChain, iteB_t, iteB_f, sNil, sSeq, sRet, sDrop, sAsg, sIf, sBreak, sCont, sAsgG, sPar2, sPar3, sSetIx, sPairSet, sAppend, onL, onI_i, onT_s, onTu_t, onCe_c, on1_, on2_, on3_, onLst_l, onOb_o, onSeq_l, onSeq_r, onSeq_c, lkD_s, lkD_n, lkO_s, lkO_n, finO, sFldD, setFD, eProp, isOb_obj, eMake, eMakeK, eMakeL, eLc, eNew, eSl, oNone, oSome, eOpM, eCallM, eCm, eCmK, eOpT, jNil, jCons, eJoin, aStar, sCalm, sFor, iRange1, iSeq, iTupD, iStrD, iEnumT, tName, tTup_t, tsCons_c, tsNil_n, any_t, onS_some, look0, look1, look2, look3, look4, look5, look6, look7, look8, look9, look10, look11, look12, look13, look14, look15, bYes, wipeE, List.set_cons_zero, List.set_cons_succ, List.length_cons, List.length_nil, List.append_nil, List.nil_append, List.cons_append, List.append_assoc, Nat.zero_add, Nat.reduceAdd, Nat.reduceSub, Nat.reduceEqDiff, Nat.reduceLT, Nat.reduceLeDiff, Int.reduceNeg, true_and, and_true, and_self, if_true, if_false, Bool.not_true, Bool.not_false, Bool.false_eq_true, reduceIte, reduceCtorEq, decide_true, decide_false, ltD_int, leD_int, gtD_int, geD_int, subD_int, addD_int, intOf_int, absD_int, eqD_int, eqD_str, neD_str, neD_int, isN_non, truD_bl, eqD_bl, neD_bl, Option.map_some, Option.bind_some, small_0, small_1, small_2, small_3, small_4, small_5, small_6, small_7, small_8, eCaught, onX_e, sRaise, eLm, onLs_l, eFnE, eXg, onV_v, sWish, eDic0, eDisp, eChain, finX_self, st_app, st_len, fin_st, fin_stT, fin_self, ite_self, show decide (((s.length : Nat) : Int) < 9) = false from decide_eq_false (by omega)]
      have : decide (r.length ≤ 7) = false := decide_eq_false (by omega)
      simp [nmL, this]
theorem lc_filt {N : WS → Prop} {f : D → RV.Env → Option RV.Env} {mc : RV.Env → MB} {me : RV.Env → M} {ρ : RV.Env} {p : D → Bool} {q : List D → WS → Prop} (ds : List D) (hN : N S) (hs : ∀ a ∈ ds, ∃ ρ1, f a ρ = some ρ1 ∧ (∀ q x, mc ρ1 S q x = q (p a) S) ∧ (p a = true → ∀ q x, me ρ1 S q x = q a S)) :
    lcD N f mc me ρ ds [] S q = q (ds.filter p) S := by
  have e := lc_eq (inj := fun d : D => d) (p := p) (g := fun d : D => d) (q := q) (S := S) (N := N) (f := f) (mc := mc) (me := me) (ρ := ρ) ds [] hN hs
  simpa using e
theorem cut_1 {ds : List D} : cutD ds none (some 1) = ds.take 1 := by
  cases ds with
  | nil => rfl
  | cons d ds => simp [cutD, HT.sIx]
theorem firstBad_eq {ds : List D} (hs : small ds.length = true) (hv : ∀ d ∈ ds, ∃ t r, Vl A d t r) : G_first_bad_k10 A [.lst ds] S q x = q (.lst ((ds.filter fun d => !nmD d).take 1)) S := by
  have hlc : ∀ q : List D → WS → Prop, lcD any_ (tName 1) (bOr (bNot (bTru truD (eCall (isiD (own A) (tab A)) (aCons (eVar 1) (aCons (eC (.ty "str")) (aNil)))))) (bNot (bTru truD (eFn 1 (G_is_name_k04 A) [] (aCons (eVar 1) (aNil)))))) (eVar 1) [some (.lst ds), none] ds [] S q = q (ds.filter fun d => !nmD d) S := fun q => by
    refine lc_filt ds trivial fun d hd => ⟨_, rfl, fun q x => ?_, fun _ q x => ?_⟩
    · obtain ⟨t, r, h⟩ := hv d hd
      by_cases hs : t = .type "str"
      · obtain ⟨s, rfl⟩ := h.st hs
        try simp -implicitDefEqProofs only [eVar, eC, eOp, eUn, aNil, aCons, eSeq, eCall, eFn, bBl, onB_bl, bTru, eNotT, bAnd, bOr, bNot, eAnd, eOr, eIf, bChain, iteB_t, iteB_f, sNil, sSeq, sRet, sDrop, sAsg, sIf, sBreak, sCont, sAsgG, sPar2, sPar3, sSetIx, sPairSet, sAppend, onL, onI_i, onT_s, onTu_t, onCe_c, on1_, on2_, on3_, onLst_l, onOb_o, onSeq_l, onSeq_r, onSeq_c, lkD_s, lkD_n, lkO_s, lkO_n, finO, sFldD, setFD, eProp, isOb_obj, eMake, eMakeK, eMakeL, eLc, eNew, eSl, oNone, oSome, eOpM, eCallM, eCm, eCmK, eOpT, jNil, jCons, eJoin, aStar, sCalm, sFor, iRange1, iSeq, iTupD, iStrD, iEnumT, tName, tTup_t, tsCons_c, tsNil_n, any_t, onS_some, look0, look1, look2, look3, look4, look5, look6, look7, look8, look9, look10, look11, look12, look13, look14, look15, bYes, wipeE, List.set_cons_zero, List.set_cons_succ, List.length_cons, List.length_nil, List.append_nil, List.nil_append, List.cons_append, List.append_assoc, Nat.zero_add, Nat.reduceAdd, Nat.reduceSub, Nat.reduceEqDiff, Nat.reduceLT, Nat.reduceLeDiff, Int.reduceNeg, true_and, and_true, and_self, if_true, if_false, Bool.not_true, Bool.not_false, Bool.false_eq_true, reduceIte, reduceCtorEq, decide_true, decide_false, ltD_int, leD_int, gtD_int, geD_int, subD_int, addD_int, intOf_int, absD_int, eqD_int, eqD_str, neD_str, neD_int, isN_non, truD_bl, eqD_bl, neD_bl, Option.map_some, Option.bind_some, small_0, small_1, small_2, small_3, small_4, small_5, small_6, small_7, small_8, eCaught, onX_e, sRaise, eLm, onLs_l, eFnE, eXg, onV_v, sWish, eDic0, eDisp, eChain, finX_self, st_app, st_len, fin_st, fin_stT, fin_self, ite_self, isi_str, lawName_eq (h.sm s rfl)]
        rfl
      · try simp -implicitDefEqProofs only [eVar, eC, eOp, eUn, aNil, aCons, eSeq, eCall, eFn, bBl, onB_bl, bTru, eNotT, bAnd, bOr, bNot, eAnd, eOr, eIf, bChain, iteB_t, iteB_f, sNil, sSeq, sRet, sDrop, sAsg, sIf, sBreak, sCont, sAsgG, sPar2, sPar3, sSetIx, sPairSet, sAppend, onL, onI_i, onT_s, onTu_t, onCe_c, on1_, on2_, on3_, onLst_l, onOb_o, onSeq_l, onSeq_r, onSeq_c, lkD_s, lkD_n, lkO_s, lkO_n, finO, sFldD, setFD, eProp, isOb_obj, eMake, eMakeK, eMakeL, eLc, eNew, eSl, oNone, oSome, eOpM, eCallM, eCm, eCmK, eOpT, jNil, jCons, eJoin, aStar, sCalm, sFor, iRange1, iSeq, iTupD, iStrD, iEnumT, tName, tTup_t, tsCons_c, tsNil_n, any_t, onS_some, look0, look1, look2, look3, look4, look5, look6, look7, look8, look9, look10, look11, look12, look13, look14, look15, bYes, wipeE, List.set_cons_zero, List.set_cons_succ, List.length_cons, List.length_nil, List.append_nil, List.nil_append, List.cons_append, List.append_assoc, Nat.zero_add, Nat.reduceAdd, Nat.reduceSub, Nat.reduceEqDiff, Nat.reduceLT, Nat.reduceLeDiff, Int.reduceNeg, true_and, and_true, and_self, if_true, if_false, Bool.not_true, Bool.not_false, Bool.false_eq_true, reduceIte, reduceCtorEq, decide_true, decide_false, ltD_int, leD_int, gtD_int, geD_int, subD_int, addD_int, intOf_int, absD_int, eqD_int, eqD_str, neD_str, neD_int, isN_non, truD_bl, eqD_bl, neD_bl, Option.map_some, Option.bind_some, small_0, small_1, small_2, small_3, small_4, small_5, small_6, small_7, small_8, eCaught, onX_e, sRaise, eLm, onLs_l, eFnE, eXg, onV_v, sWish, eDic0, eDisp, eChain, finX_self, st_app, st_len, fin_st, fin_stT, fin_self, ite_self, isi_nostr h hs]
        rw [nmD_no h hs]
        rfl
    · try simp -implicitDefEqProofs only [eVar, eC, eOp, eUn, aNil, aCons, eSeq, eCall, eFn, bBl, onB_bl, bTru, eNotT, bAnd, bOr, bNot, eAnd, eOr, eIf, bChain, iteB_t, iteB_f, sNil, sSeq, sRet, sDrop, sAsg, sIf, sBreak, sCont, sAsgG, sPar2, sPar3, sSetIx, sPairSet, sAppend, onL, onI_i, onT_s, onTu_t, onCe_c, on1_, on2_, on3_, onLst_l, onOb_o, onSeq_l, onSeq_r, onSeq_c, lkD_s, lkD_n, lkO_s, lkO_n, finO, sFldD, setFD, eProp, isOb_obj, eMake, eMakeK, eMakeL, eLc, eNew, eSl, oNone, oSome, eOpM, eCallM, eCm, eCmK, eOpT, jNil, jCons, eJoin, aStar, sCalm, sFor, iRange1, iSeq, iTupD, iStrD, iEnumT, tName, tTup_t, tsCons_c, tsNil_n, any_t, onS_some, look0, look1, look2, look3, look4, look5, look6, look7, look8, look9, look10, look11, look12, look13, look14, look15, bYes, wipeE, List.set_cons_zero, List.set_cons_succ, List.length_cons, List.length_nil, List.append_nil, List.nil_append, List.cons_append, List.append_assoc, Nat.zero_add, Nat.reduceAdd, Nat.reduceSub, Nat.reduceEqDiff, Nat.reduceLT, Nat.reduceLeDiff, Int.reduceNeg, true_and, and_true, and_self, if_true, if_false, Bool.not_true, Bool.not_false, Bool.false_eq_true, reduceIte, reduceCtorEq, decide_true, decide_false, ltD_int, leD_int, gtD_int, geD_int, subD_int, addD_int, intOf_int, absD_int, eqD_int, eqD_str, neD_str, neD_int, isN_non, truD_bl, eqD_bl, neD_bl, Option.map_some, Option.bind_some, small_0, small_1, small_2, small_3, small_4, small_5, small_6, small_7, small_8, eCaught, onX_e, sRaise, eLm, onLs_l, eFnE, eXg, onV_v, sWish, eDic0, eDisp, eChain, finX_self, st_app, st_len, fin_st, fin_stT, fin_self, ite_self]
  have hsl : ∀ S ds, slD S (.lst ds) none (some 1) = some (.lst (cutD ds none (some 1))) := fun _ _ => rfl
  rw [D_first_bad_k10]
  unfold fnD startE
  simp only [List.map_cons, List.map_nil, List.length_cons, List.length_nil, Nat.reduceAdd, Nat.reduceSub, List.replicate, List.cons_append, List.nil_append, List.append_nil, Nat.zero_add]
  unfold B_first_bad_k10
  try simp -implicitDefEqProofs only [eVar, eC, eOp, eUn, aNil, aCons, eSeq, eCall, eFn, bBl, onB_bl, bTru, eNotT, bAnd, bOr, bNot, eAnd, eOr, eIf, bChain, iteB_t, iteB_f, sNil, sSeq, sRet, sDrop, sAsg, sIf, sBreak, sCont, sAsgG, sPar2, sPar3, sSetIx, sPairSet, sAppend, onL, onI_i, onT_s, onTu_t, onCe_c, on1_, on2_, on3_, onLst_l, onOb_o, onSeq_l, onSeq_r, onSeq_c, lkD_s, lkD_n, lkO_s, lkO_n, finO, sFldD, setFD, eProp, isOb_obj, eMake, eMakeK, eMakeL, eLc, eNew, eSl, oNone, oSome, eOpM, eCallM, eCm, eCmK, eOpT, jNil, jCons, eJoin, aStar, sCalm, sFor, iRange1, iSeq, iTupD, iStrD, iEnumT, tName, tTup_t, tsCons_c, tsNil_n, any_t, onS_some, look0, look1, look2, look3, look4, look5, look6, look7, look8, look9, look10, look11, look12, look13, look14, look15, bYes, wipeE, List.set_cons_zero, List.set_cons_succ, List.length_cons, List.length_nil, List.append_nil, List.nil_append, List.cons_append, List.append_assoc, Nat.zero_add, Nat.reduceAdd, Nat.reduceSub, Nat.reduceEqDiff, Nat.reduceLT, Nat.reduceLeDiff, Int.reduceNeg, true_and, and_true, and_self, if_true, if_false, Bool.not_true, Bool.not_false, Bool.false_eq_true, reduceIte, reduceCtorEq, decide_true, decide_false, ltD_int, leD_int, gtD_int, geD_int, subD_int, addD_int, intOf_int, absD_int, eqD_int, eqD_str, neD_str, neD_int, isN_non, truD_bl, eqD_bl, neD_bl, Option.map_some, Option.bind_some, small_0, small_1, small_2, small_3, small_4, small_5, small_6, small_7, small_8, eCaught, onX_e, sRaise, eLm, onLs_l, eFnE, eXg, onV_v, sWish, eDic0, eDisp, eChain, finX_self, st_app, st_len, fin_st, fin_stT, fin_self, ite_self, hs, hlc, hsl, cut_1]
/-! ### made of any values -/
def strD : D → Str
  | .str s => s
  | _ => ""
theorem strD_nm (h : nmD v = true) : v = .str (strD v) ∧ Nm (strD v) := by
  cases v with
  | str s => exact ⟨rfl, h⟩
  | _ => cases h
theorem finX_appV {c : Cell} {C : Addr} {g : Str} (h : ∀ n, D.clean n v = true) : finX S.length (.exc C [(g, v)]) (S ++ [c]) x = x (.exc C [(g, v)]) S := by
  unfold finX
  rw [if_neg (by simp)]
  simp [D.clean, D.cleanF, h]
theorem pipe_x1 (h1 : Vl A v1 t1 r1) (n1 : nmD v1 = false) : makeD .still (A.c "Pipe") 4 (G_Pipe_init A) [v1, v2, v3] S q x = x (.exc (A.c "InvalidName") [("given", v1)]) S := by
  unfold makeD
  rw [D_Pipe_init]
  unfold fnD startE
  simp only [List.map_cons, List.map_nil, List.length_cons, List.length_nil, Nat.reduceAdd, Nat.reduceSub, List.replicate, List.cons_append, List.nil_append, List.append_nil, Nat.zero_add]
  unfold B_Pipe_init
  try simp -implicitDefEqProofs only [eVar, eC, eOp, eUn, aNil, aCons, eSeq, eCall, eFn, bBl, onB_bl, bTru, eNotT, bAnd, bOr, bNot, eAnd, eOr, eIf, bChain, iteB_t, iteB_f, sNil, sSeq, sRet, sDrop, sAsg, sIf, sBreak, sCont, sAsgG, sPar2, sPar3, sSetIx, sPairSet, sAppend, onL, onI_i, onT_s, onTu_t, onCe_c, on1_, on2_, on3_, onLst_l, onOb_o, onSeq_l, onSeq_r, onSeq_c, lkD_s, lkD_n, lkO_s, lkO_n, finO, sFldD, setFD, eProp, isOb_obj, eMake, eMakeK, eMakeL, eLc, eNew, eSl, oNone, oSome, eOpM, eCallM, eCm, eCmK, eOpT, jNil, jCons, eJoin, aStar, sCalm, sFor, iRange1, iSeq, iTupD, iStrD, iEnumT, tName, tTup_t, tsCons_c, tsNil_n, any_t, onS_some, look0, look1, look2, look3, look4, look5, look6, look7, look8, look9, look10, look11, look12, look13, look14, look15, bYes, wipeE, List.set_cons_zero, List.set_cons_succ, List.length_cons, List.length_nil, List.append_nil, List.nil_append, List.cons_append, List.append_assoc, Nat.zero_add, Nat.reduceAdd, Nat.reduceSub, Nat.reduceEqDiff, Nat.reduceLT, Nat.reduceLeDiff, Int.reduceNeg, true_and, and_true, and_self, if_true, if_false, Bool.not_true, Bool.not_false, Bool.false_eq_true, reduceIte, reduceCtorEq, decide_true, decide_false, ltD_int, leD_int, gtD_int, geD_int, subD_int, addD_int, intOf_int, absD_int, eqD_int, eqD_str, neD_str, neD_int, isN_non, truD_bl, eqD_bl, neD_bl, Option.map_some, Option.bind_some, small_0, small_1, small_2, small_3, small_4, small_5, small_6, small_7, small_8, eCaught, onX_e, sRaise, eLm, onLs_l, eFnE, eXg, onV_v, sWish, eDic0, eDisp, eChain, finX_self, st_app, st_len, fin_st, fin_stT, fin_self, ite_self, checkNameF h1 n1, finX_appV h1.cl]
theorem pipe_x2 (h1 : Vl A v1 t1 r1) (n1 : nmD v1 = true) (h2 : Vl A v2 t2 r2) (n2 : nmD v2 = false) : makeD .still (A.c "Pipe") 4 (G_Pipe_init A) [v1, v2, v3] S q x = x (.exc (A.c "InvalidName") [("given", v2)]) S := by
  unfold makeD
  rw [D_Pipe_init]
  unfold fnD startE
  simp only [List.map_cons, List.map_nil, List.length_cons, List.length_nil, Nat.reduceAdd, Nat.reduceSub, List.replicate, List.cons_append, List.nil_append, List.append_nil, Nat.zero_add]
  unfold B_Pipe_init
  try simp -implicitDefEqProofs only [eVar, eC, eOp, eUn, aNil, aCons, eSeq, eCall, eFn, bBl, onB_bl, bTru, eNotT, bAnd, bOr, bNot, eAnd, eOr, eIf, bChain, iteB_t, iteB_f, sNil, sSeq, sRet, sDrop, sAsg, sIf, sBreak, sCont, sAsgG, sPar2, sPar3, sSetIx, sPairSet, sAppend, onL, onI_i, onT_s, onTu_t, onCe_c, on1_, on2_, on3_, onLst_l, onOb_o, onSeq_l, onSeq_r, onSeq_c, lkD_s, lkD_n, lkO_s, lkO_n, finO, sFldD, setFD, eProp, isOb_obj, eMake, eMakeK, eMakeL, eLc, eNew, eSl, oNone, oSome, eOpM, eCallM, eCm, eCmK, eOpT, jNil, jCons, eJoin, aStar, sCalm, sFor, iRange1, iSeq, iTupD, iStrD, iEnumT, tName, tTup_t, tsCons_c, tsNil_n, any_t, onS_some, look0, look1, look2, look3, look4, look5, look6, look7, look8, look9, look10, look11, look12, look13, look14, look15, bYes, wipeE, List.set_cons_zero, List.set_cons_succ, List.length_cons, List.length_nil, List.append_nil, List.nil_append, List.cons_append, List.append_assoc, Nat.zero_add, Nat.reduceAdd, Nat.reduceSub, Nat.reduceEqDiff, Nat.reduceLT, Nat.reduceLeDiff, Int.reduceNeg, true_and, and_true, and_self, if_true, if_false, Bool.not_true, Bool.not_false, Bool.false_eq_true, reduceIte, reduceCtorEq, decide_true, decide_false, ltD_int, leD_int, gtD_int, geD_int, subD_int, addD_int, intOf_int, absD_int, eqD_int, eqD_str, neD_str, neD_int, isN_non, truD_bl, eqD_bl, neD_bl, Option.map_some, Option.bind_some, small_0, small_1, small_2, small_3, small_4, small_5, small_6, small_7, small_8, eCaught, onX_e, sRaise, eLm, onLs_l, eFnE, eXg, onV_v, sWish, eDic0, eDisp, eChain, finX_self, st_app, st_len, fin_st, fin_stT, fin_self, ite_self, checkNameT h1 n1, checkNameF h2 n2, finX_appV h2.cl]
theorem pipe_x3 (h1 : Vl A v1 t1 r1) (n1 : nmD v1 = true) (h2 : Vl A v2 t2 r2) (n2 : nmD v2 = true) (h3 : Vl A v3 t3 r3) (n3 : nmD v3 = false) : makeD .still (A.c "Pipe") 4 (G_Pipe_init A) [v1, v2, v3] S q x = x (.exc (A.c "InvalidName") [("given", v3)]) S := by
  unfold makeD
  rw [D_Pipe_init]
  unfold fnD startE
  simp only [List.map_cons, List.map_nil, List.length_cons, List.length_nil, Nat.reduceAdd, Nat.reduceSub, List.replicate, List.cons_append, List.nil_append, List.append_nil, Nat.zero_add]
  unfold B_Pipe_init
  try simp -implicitDefEqProofs only [eVar, eC, eOp, eUn, aNil, aCons, eSeq, eCall, eFn, bBl, onB_bl, bTru, eNotT, bAnd, bOr, bNot, eAnd, eOr, eIf, bChain, iteB_t, iteB_f, sNil, sSeq, sRet, sDrop, sAsg, sIf, sBreak, sCont, sAsgG, sPar2, sPar3, sSetIx, sPairSet, sAppend, onL, onI_i, onT_s, onTu_t, onCe_c, on1_, on2_, on3_, onLst_l, onOb_o, onSeq_l, onSeq_r, onSeq_c, lkD_s, lkD_n, lkO_s, lkO_n, finO, sFldD, setFD, eProp, isOb_obj, eMake, eMakeK, eMakeL, eLc, eNew, eSl, oNone, oSome, eOpM, eCallM, eCm, eCmK, eOpT, jNil, jCons, eJoin, aStar, sCalm, sFor, iRange1, iSeq, iTupD, iStrD, iEnumT, tName, tTup_t, tsCons_c, tsNil_n, any_t, onS_some, look0, look1, look2, look3, look4, look5, look6, look7, look8, look9, look10, look11, look12, look13, look14, look15, bYes, wipeE, List.set_cons_zero, List.set_cons_succ, List.length_cons, List.length_nil, List.append_nil, List.nil_append, List.cons_append, List.append_assoc, Nat.zero_add, Nat.reduceAdd, Nat.reduceSub, Nat.reduceEqDiff, Nat.reduceLT, Nat.reduceLeDiff, Int.reduceNeg, true_and, and_true, and_self, if_true, if_false, Bool.not_true, Bool.not_false, Bool.false_eq_true, reduceIte, reduceCtorEq, decide_true, decide_false, ltD_int, leD_int, gtD_int, geD_int, subD_int, addD_int, intOf_int, absD_int, eqD_int, eqD_str, neD_str, neD_int, isN_non, truD_bl, eqD_bl, neD_bl, Option.map_some, Option.bind_some, small_0, small_1, small_2, small_3, small_4, small_5, small_6, small_7, small_8, eCaught, onX_e, sRaise, eLm, onLs_l, eFnE, eXg, onV_v, sWish, eDic0, eDisp, eChain, finX_self, st_app, st_len, fin_st, fin_stT, fin_self, ite_self, checkNameT h1 n1, checkNameT h2 n2, checkNameF h3 n3, finX_appV h3.cl]
theorem pipe_x4 {a b : Str} (ha : Nm a) (hb : Nm b) : makeD .still (A.c "Pipe") 4 (G_Pipe_init A) [.str a, .str b, .str b] S q x = x (.exc (A.c "InvalidEnd") [("given", .str b)]) S := by
  unfold makeD
  rw [D_Pipe_init]
  unfold fnD startE
  simp only [List.map_cons, List.map_nil, List.length_cons, List.length_nil, Nat.reduceAdd, Nat.reduceSub, List.replicate, List.cons_append, List.nil_append, List.append_nil, Nat.zero_add]
  unfold B_Pipe_init
  try simp -implicitDefEqProofs only [eVar, eC, eOp, eUn, aNil, aCons, eSeq, eCall, eFn, bBl, onB_bl, bTru, eNotT, bAnd, bOr, bNot, eAnd, eOr, eIf, bChain, iteB_t, iteB_f, sNil, sSeq, sRet, sDrop, sAsg, sIf, sBreak, sCont, sAsgG, sPar2, sPar3, sSetIx, sPairSet, sAppend, onL, onI_i, onT_s, onTu_t, onCe_c, on1_, on2_, on3_, onLst_l, onOb_o, onSeq_l, onSeq_r, onSeq_c, lkD_s, lkD_n, lkO_s, lkO_n, finO, sFldD, setFD, eProp, isOb_obj, eMake, eMakeK, eMakeL, eLc, eNew, eSl, oNone, oSome, eOpM, eCallM, eCm, eCmK, eOpT, jNil, jCons, eJoin, aStar, sCalm, sFor, iRange1, iSeq, iTupD, iStrD, iEnumT, tName, tTup_t, tsCons_c, tsNil_n, any_t, onS_some, look0, look1, look2, look3, look4, look5, look6, look7, look8, look9, look10, look11, look12, look13, look14, look15, bYes, wipeE, List.set_cons_zero, List.set_cons_succ, List.length_cons, List.length_nil, List.append_nil, List.nil_append, List.cons_append, List.append_assoc, Nat.zero_add, Nat.reduceAdd, Nat.reduceSub, Nat.reduceEqDiff, Nat.reduceLT, Nat.reduceLeDiff, Int.reduceNeg, true_and, and_true, and_self, if_true, if_false, Bool.not_true, Bool.not_false, Bool.false_eq_true, reduceIte, reduceCtorEq, decide_true, decide_false, ltD_int, leD_int, gtD_int, geD_int, subD_int, addD_int, intOf_int, absD_int, eqD_int, eqD_str, neD_str, neD_int, isN_non, truD_bl, eqD_bl, neD_bl, Option.map_some, Option.bind_some, small_0, small_1, small_2, small_3, small_4, small_5, small_6, small_7, small_8, eCaught, onX_e, sRaise, eLm, onLs_l, eFnE, eXg, onV_v, sWish, eDic0, eDisp, eChain, finX_self, st_app, st_len, fin_st, fin_stT, fin_self, ite_self, checkName_ok ha, checkName_ok hb, finX_appV (v := .str b) (fun _ => rfl)]
theorem meter_x1 (h1 : Vl A v1 t1 r1) (n1 : nmD v1 = false) : makeD .still (A.c "Meter") 4 (G_Meter_init A) [v1, v2, v3] S q x = x (.exc (A.c "InvalidName") [("given", v1)]) S := by
  unfold makeD
  rw [D_Meter_init]
  unfold fnD startE
  simp only [List.map_cons, List.map_nil, List.length_cons, List.length_nil, Nat.reduceAdd, Nat.reduceSub, List.replicate, List.cons_append, List.nil_append, List.append_nil, Nat.zero_add]
  unfold B_Meter_init
  try simp -implicitDefEqProofs only [eVar, eC, eOp, eUn, aNil, aCons, eSeq, eCall, eFn, bBl, onB_bl, bTru, eNotT, bAnd, bOr, bNot, eAnd, eOr, eIf, bChain, iteB_t, iteB_f, sNil, sSeq, sRet, sDrop, sAsg, sIf, sBreak, sCont, sAsgG, sPar2, sPar3, sSetIx, sPairSet, sAppend, onL, onI_i, onT_s, onTu_t, onCe_c, on1_, on2_, on3_, onLst_l, onOb_o, onSeq_l, onSeq_r, onSeq_c, lkD_s, lkD_n, lkO_s, lkO_n, finO, sFldD, setFD, eProp, isOb_obj, eMake, eMakeK, eMakeL, eLc, eNew, eSl, oNone, oSome, eOpM, eCallM, eCm, eCmK, eOpT, jNil, jCons, eJoin, aStar, sCalm, sFor, iRange1, iSeq, iTupD, iStrD, iEnumT, tName, tTup_t, tsCons_c, tsNil_n, any_t, onS_some, look0, look1, look2, look3, look4, look5, look6, look7, look8, look9, look10, look11, look12, look13, look14, look15, bYes, wipeE, List.set_cons_zero, List.set_cons_succ, List.length_cons, List.length_nil, List.append_nil, List.nil_append, List.cons_append, List.append_assoc, Nat.zero_add, Nat.reduceAdd, Nat.reduceSub, Nat.reduceEqDiff, Nat.reduceLT, Nat.reduceLeDiff, Int.reduceNeg, true_and, and_true, and_self, if_true, if_false, Bool.not_true, Bool.not_false, Bool.false_eq_true, reduceIte, reduceCtorEq, decide_true, decide_false, ltD_int, leD_int, gtD_int, geD_int, subD_int, addD_int, intOf_int, absD_int, eqD_int, eqD_str, neD_str, neD_int, isN_non, truD_bl, eqD_bl, neD_bl, Option.map_some, Option.bind_some, small_0, small_1, small_2, small_3, small_4, small_5, small_6, small_7, small_8, eCaught, onX_e, sRaise, eLm, onLs_l, eFnE, eXg, onV_v, sWish, eDic0, eDisp, eChain, finX_self, st_app, st_len, fin_st, fin_stT, fin_self, ite_self, checkNameF h1 n1, finX_appV h1.cl]
theorem meter_x2 (h1 : Vl A v1 t1 r1) (n1 : nmD v1 = true) (h2 : Vl A v2 t2 r2) (n2 : nmD v2 = false) : makeD .still (A.c "Meter") 4 (G_Meter_init A) [v1, v2, v3] S q x = x (.exc (A.c "InvalidName") [("given", v2)]) S := by
  unfold makeD
  rw [D_Meter_init]
  unfold fnD startE
  simp only [List.map_cons, List.map_nil, List.length_cons, List.length_nil, Nat.reduceAdd, Nat.reduceSub, List.replicate, List.cons_append, List.nil_append, List.append_nil, Nat.zero_add]
  unfold B_Meter_init
  try simp -implicitDefEqProofs only [eVar, eC, eOp, eUn, aNil, aCons, eSeq, eCall, eFn, bBl, onB_bl, bTru, eNotT, bAnd, bOr, bNot, eAnd, eOr, eIf, bChain, iteB_t, iteB_f, sNil, sSeq, sRet, sDrop, sAsg, sIf, sBreak, sCont, sAsgG, sPar2, sPar3, sSetIx, sPairSet, sAppend, onL, onI_i, onT_s, onTu_t, onCe_c, on1_, on2_, on3_, onLst_l, onOb_o, onSeq_l, onSeq_r, onSeq_c, lkD_s, lkD_n, lkO_s, lkO_n, finO, sFldD, setFD, eProp, isOb_obj, eMake, eMakeK, eMakeL, eLc, eNew, eSl, oNone, oSome, eOpM, eCallM, eCm, eCmK, eOpT, jNil, jCons, eJoin, aStar, sCalm, sFor, iRange1, iSeq, iTupD, iStrD, iEnumT, tName, tTup_t, tsCons_c, tsNil_n, any_t, onS_some, look0, look1, look2, look3, look4, look5, look6, look7, look8, look9, look10, look11, look12, look13, look14, look15, bYes, wipeE, List.set_cons_zero, List.set_cons_succ, List.length_cons, List.length_nil, List.append_nil, List.nil_append, List.cons_append, List.append_assoc, Nat.zero_add, Nat.reduceAdd, Nat.reduceSub, Nat.reduceEqDiff, Nat.reduceLT, Nat.reduceLeDiff, Int.reduceNeg, true_and, and_true, and_self, if_true, if_false, Bool.not_true, Bool.not_false, Bool.false_eq_true, reduceIte, reduceCtorEq, decide_true, decide_false, ltD_int, leD_int, gtD_int, geD_int, subD_int, addD_int, intOf_int, absD_int, eqD_int, eqD_str, neD_str, neD_int, isN_non, truD_bl, eqD_bl, neD_bl, Option.map_some, Option.bind_some, small_0, small_1, small_2, small_3, small_4, small_5, small_6, small_7, small_8, eCaught, onX_e, sRaise, eLm, onLs_l, eFnE, eXg, onV_v, sWish, eDic0, eDisp, eChain, finX_self, st_app, st_len, fin_st, fin_stT, fin_self, ite_self, checkNameT h1 n1, checkNameF h2 n2, finX_appV h2.cl]
theorem isi_nobl (h : Vl A v t r) (hb : t ≠ .type "bool") : isiD (own A) (tab A) S [v, .ty "bool"] = some (.bl false) := by
  rw [isi_ty h (by simp [clss])]
  simp [sub, hb]
theorem meter_x3 (h1 : Vl A v1 t1 r1) (n1 : nmD v1 = true) (h2 : Vl A v2 t2 r2) (n2 : nmD v2 = true) (h3 : Vl A v3 t3 r3) (hb : t3 ≠ .type "bool") : makeD .still (A.c "Meter") 4 (G_Meter_init A) [v1, v2, v3] S q x = x (.exc (A.c "InvalidFlag") [("given", v3)]) S := by
  unfold makeD
  rw [D_Meter_init]
  unfold fnD startE
  simp only [List.map_cons, List.map_nil, List.length_cons, List.length_nil, Nat.reduceAdd, Nat.reduceSub, List.replicate, List.cons_append, List.nil_append, List.append_nil, Nat.zero_add]
  unfold B_Meter_init
  try simp -implicitDefEqProofs only [eVar, eC, eOp, eUn, aNil, aCons, eSeq, eCall, eFn, bBl, onB_bl, bTru, eNotT, bAnd, bOr, bNot, eAnd, eOr, eIf, bChain, iteB_t, iteB_f, sNil, sSeq, sRet, sDrop, sAsg, sIf, sBreak, sCont, sAsgG, sPar2, sPar3, sSetIx, sPairSet, sAppend, onL, onI_i, onT_s, onTu_t, onCe_c, on1_, on2_, on3_, onLst_l, onOb_o, onSeq_l, onSeq_r, onSeq_c, lkD_s, lkD_n, lkO_s, lkO_n, finO, sFldD, setFD, eProp, isOb_obj, eMake, eMakeK, eMakeL, eLc, eNew, eSl, oNone, oSome, eOpM, eCallM, eCm, eCmK, eOpT, jNil, jCons, eJoin, aStar, sCalm, sFor, iRange1, iSeq, iTupD, iStrD, iEnumT, tName, tTup_t, tsCons_c, tsNil_n, any_t, onS_some, look0, look1, look2, look3, look4, look5, look6, look7, look8, look9, look10, look11, look12, look13, look14, look15, bYes, wipeE, List.set_cons_zero, List.set_cons_succ, List.length_cons, List.length_nil, List.append_nil, List.nil_append, List.cons_append, List.append_assoc, Nat.zero_add, Nat.reduceAdd, Nat.reduceSub, Nat.reduceEqDiff, Nat.reduceLT, Nat.reduceLeDiff, Int.reduceNeg, true_and, and_true, and_self, if_true, if_false, Bool.not_true, Bool.not_false, Bool.false_eq_true, reduceIte, reduceCtorEq, decide_true, decide_false, ltD_int, leD_int, gtD_int, geD_int, subD_int, addD_int, intOf_int, absD_int, eqD_int, eqD_str, neD_str, neD_int, isN_non, truD_bl, eqD_bl, neD_bl, Option.map_some, Option.bind_some, small_0, small_1, small_2, small_3, small_4, small_5, small_6, small_7, small_8, eCaught, onX_e, sRaise, eLm, onLs_l, eFnE, eXg, onV_v, sWish, eDic0, eDisp, eChain, finX_self, st_app, st_len, fin_st, fin_stT, fin_self, ite_self, checkNameT h1 n1, checkNameT h2 n2, isi_nobl h3 hb, finX_appV h3.cl]
end
end RV
end
section
/-! == of what is caught; comprehensions of checks that draw. -/
namespace RV
open PySem L2
section
variable {S T : WS} {k : Nat} {n m : Int} {w : W} {q : D → WS → Prop} {x : Xq}
theorem eqD_same {u v : D} {p : PyData} (h0 : eqScal u v = none) (hu : pyS S u = some p) (hv : pyS S v = some p) (h : PyData.canLay0 p = true) (hd : p.depth ≤ 64) : eqD S u v = some (.bl true) := by
  have hs : SeqAt.shaped p = true := by
    unfold SeqAt.shaped
    rw [h, decide_eq_true hd]
    rfl
  unfold eqD eqAny eqPyS
  simp only [h0, hu, hv, Option.bind_some, hs, and_self, if_true, SeqAt.eqv_refl p h, Option.orElse, Option.map_some]
theorem neD_same {u v : D} {p : PyData} (h0 : eqScal u v = none) (hu : pyS S u = some p) (hv : pyS S v = some p) (h : PyData.canLay0 p = true) (hd : p.depth ≤ 64) : neD S u v = some (.bl false) := by
  have hs : SeqAt.shaped p = true := by
    unfold SeqAt.shaped
    rw [h, decide_eq_true hd]
    rfl
  unfold neD eqAny eqPyS
  simp only [h0, hu, hv, Option.bind_some, hs, and_self, if_true, SeqAt.eqv_refl p h, Option.orElse, Option.map_some, Bool.not_true]
theorem neD_nil : neD S (.lst []) (.lst []) = some (.bl false) := neD_same (p := .list []) rfl rfl rfl rfl (by decide)
theorem neD_cons {d : D} {ds : List D} : neD S (.lst (d :: ds)) (.lst []) = some (.bl true) := by
  have hl : eqLen S (.lst (d :: ds)) (.lst []) = some false := by simp [eqLen, lstOf]
  unfold neD eqAny
  rw [show eqScal (.lst (d :: ds)) (.lst []) = none from rfl, hl]
  unfold eqPyS
  cases hp : pyS S (.lst (d :: ds)) with
  | none => rfl
  | some p =>
    have e2 : pyS S (.lst []) = some (.list []) := rfl
    rw [e2, Option.bind_some, Option.bind_some]
    split
    · have : PyData.eqv p (.list []) = false := by
        simp only [pyS, D.py, Option.map_eq_some_iff] at hp
        obtain ⟨ps, h1, rfl⟩ := hp
        cases ps with
        | nil => 
          simp only [D.pyL] at h1
          simp [Option.bind_eq_some_iff] at h1
        | cons => rfl
      rw [this]
      rfl
    · rfl
theorem st_tab {i : Nat} {c : Cell} (h : S[i]? = some c) (hk : i ≠ k) : (st S k w T)[i]? = some c := by
  unfold st
  have hl : i < S.length := (List.getElem?_eq_some_iff.mp h).1
  rw [List.getElem?_append_left (by simpa using hl), List.getElem?_set_ne (fun z => hk z.symm)]
  exact h
/-- checks that draw, each of which comes out well -/
theorem lc_well {f : D → RV.Env → Option RV.Env} {me : RV.Env → M} {ρ : RV.Env} {c B : Int} {Q : List D → WS → Prop} (hc : 0 ≤ c) : ∀ (ds acc : List D) (n : Int) (w : W), Good n w → n + c * ds.length ≤ B →
    (∀ d ∈ ds, ∃ ρ1, f d ρ = some ρ1 ∧ ∀ (n : Int) (w : W) (q : D → WS → Prop), Good n w → n + c ≤ B → (∀ w', Good (n + c) w' → q (.bl true) (st S k w' T)) → me ρ1 (st S k w T) q noX) →
    (∀ w', Good (n + c * ds.length) w' → Q (acc ++ List.replicate ds.length (.bl true)) (st S k w' T)) → lcD any_ f bYes me ρ ds acc (st S k w T) Q
  | [], acc, n, w, g, hB, _, h => by
    have := h w (g.mono (by simp))
    simpa [lcD, any_] using this
  | d :: ds, acc, n, w, g, hB, hs, h => by
    have hm : c * ((d :: ds).length : Nat) = c * (ds.length : Nat) + c := by
      rw [List.length_cons, Int.natCast_add, Int.mul_add]
      simp
    have hp : 0 ≤ c * (ds.length : Nat) := Int.mul_nonneg hc (by omega)
    rw [hm] at hB h
    obtain ⟨ρ1, h1, h2⟩ := hs d (List.mem_cons_self ..)
    unfold lcD
    refine ⟨trivial, ?_⟩
    rw [h1]
    show me ρ1 _ _ noX
    refine h2 n w _ g (by omega) fun w' g' => ?_
    refine lc_well hc ds _ (n + c) w' g' (by omega) (fun e he => hs e (List.mem_cons_of_mem _ he)) fun w2 g2 => ?_
    have := h w2 (g2.mono (by omega))
    rw [List.append_assoc]
    rw [List.length_cons, List.replicate_succ] at this
    exact this
theorem st_new {S : WS} {w : W} : S ++ [w.d] = st (S ++ [w.d]) S.length w [] := by simp [st]
theorem st_old {S : WS} {w w' : W} : st (S ++ [w.d]) S.length w' [] = S ++ [w'.d] := by
  unfold st
  rw [List.set_append_right _ _ (Nat.le_refl _)]
  simp
theorem max_min {ns : List Int} {c : Nat} (hc : 2 ≤ c) : ∃ j : Nat, j ≤ c ∧ (if (if (c : Int) < (ns.length : Nat) then (c : Int) else (ns.length : Nat)) > 2 then (if (c : Int) < (ns.length : Nat) then (c : Int) else (ns.length : Nat)) else 2) = ((j : Nat) : Int) := by
  refine ⟨(if (if (c : Int) < (ns.length : Nat) then (c : Int) else (ns.length : Nat)) > 2 then (if (c : Int) < (ns.length : Nat) then (c : Int) else (ns.length : Nat)) else 2).toNat, ?_, ?_⟩ <;> split <;> split at * <;> omega
theorem min2_ {i j : Int} : min2D S [.int i, .int j] = some (.int (if j < i then j else i)) := rfl
theorem max2_ {i j : Int} : max2D S [.int i, .int j] = some (.int (if j > i then j else i)) := rfl
theorem len_scr {ns : List Int} : lenD S [.scr ns] = some (.int (ns.length : Nat)) := by simp [lenD, itemsD]
theorem upto_len {j : Nat} : (upto (j : Int)).length = j := by simp [upto]
end
end RV
end
section
/-! The law of pipes and meters refused. -/
namespace RV
open PySem L2
theorem s_name : Said "InvalidName" ["InvalidName", "BadValue"] 2 := ⟨⟨by decide +kernel, by decide +kernel, by decide +kernel⟩, by decide +kernel, by decide +kernel, by decide +kernel, by decide +kernel⟩
theorem s_end : Said "InvalidEnd" ["InvalidEnd", "BadValue"] 3 := ⟨⟨by decide +kernel, by decide +kernel, by decide +kernel⟩, by decide +kernel, by decide +kernel, by decide +kernel, by decide +kernel⟩
theorem s_flag : Said "InvalidFlag" ["InvalidFlag", "BadValue"] 4 := ⟨⟨by decide +kernel, by decide +kernel, by decide +kernel⟩, by decide +kernel, by decide +kernel, by decide +kernel, by decide +kernel⟩
section
variable {A : Ad} {S T : WS} {k : Nat} {n m : Int} {w : W} {q : D → WS → Prop} {x : Xq} {s : Str} {v v1 v2 v3 : D} {t t1 t2 t3 : Value} {r r1 r2 r3 : Str} {f : Addr}
def outP (v1 v2 v3 : D) (r1 r2 r3 : Str) : D :=
  if nmD v1 then (if nmD v2 then (if nmD v3 then (if strD v3 = strD v2 then .lst [.int 3, .str r3] else .lst [.str "told", .str (pipeT (strD v1) (strD v2) (strD v3))]) else .lst [.int 2, .str r3]) else .lst [.int 2, .str r2]) else .lst [.int 2, .str r1]
def blD : D → Bool
  | .bl b => b
  | _ => false
def outM (v1 v2 v3 : D) (t3 : Value) (r1 r2 r3 : Str) : D :=
  if nmD v1 then (if nmD v2 then (if t3 = .type "bool" then .lst [.str "told", .str (meterT (strD v1) (strD v2) (blD v3))] else .lst [.int 4, .str r3]) else .lst [.int 2, .str r2]) else .lst [.int 2, .str r1]
theorem pipe_caught (hA : NetsS A) (hE : ErrsA A) (h1 : Vl A v1 t1 r1) (h2 : Vl A v2 t2 r2) (h3 : Vl A v3 t3 r3) {N : Nat} (hl : S.length = N) (hq : q (outP v1 v2 v3 r1 r2 r3) S) :
    makeD .still (A.c "Pipe") 4 (G_Pipe_init A) [v1, v2, v3] S (qTold 3 1 f (T_caught_k10 A) N q) (xSaid (errL A errNames) 3 2 f (S_caught_k10 A) N q) := by
  subst hl
  unfold outP at hq
  cases n1 : nmD v1 with
  | false =>
    rw [pipe_x1 h1 n1]
    rw [n1] at hq
    exact said_x hA hE s_name (by decide) h1 hq
  | true =>
    cases n2 : nmD v2 with
    | false =>
      rw [pipe_x2 h1 n1 h2 n2]
      rw [n1, n2] at hq
      exact said_x hA hE s_name (by decide) h2 hq
    | true =>
      cases n3 : nmD v3 with
      | false =>
        rw [pipe_x3 h1 n1 h2 n2 h3 n3]
        rw [n1, n2, n3] at hq
        exact said_x hA hE s_name (by decide) h3 hq
      | true =>
        rw [n1, n2, n3] at hq
        obtain ⟨e1, m1⟩ := strD_nm n1
        obtain ⟨e2, m2⟩ := strD_nm n2
        obtain ⟨e3, m3⟩ := strD_nm n3
        simp only [if_true] at hq
        by_cases he : strD v3 = strD v2
        · rw [if_pos he] at hq
          have e4 : v3 = v2 := by rw [e3, e2, he]
          subst e4
          rw [e1, e2, pipe_x4 m1 m2]
          exact said_x hA hE s_end (by decide) (e2 ▸ h3) hq
        · rw [if_neg he] at hq
          rw [e1, e2, e3, pipe_init_ok m1 m2 m3 he]
          rw [told_eq fun q x => seen_pipe hA (nm_len m1).2 (nm_len m2).2 (nm_len m3).2]
          exact hq
theorem meter_caught (hA : NetsS A) (hE : ErrsA A) (h1 : Vl A v1 t1 r1) (h2 : Vl A v2 t2 r2) (h3 : Vl A v3 t3 r3) {N : Nat} (hl : S.length = N) (hq : q (outM v1 v2 v3 t3 r1 r2 r3) S) :
    makeD .still (A.c "Meter") 4 (G_Meter_init A) [v1, v2, v3] S (qTold 3 1 f (T_caught_k10 A) N q) (xSaid (errL A errNames) 3 2 f (S_caught_k10 A) N q) := by
  subst hl
  unfold outM at hq
  cases n1 : nmD v1 with
  | false =>
    rw [meter_x1 h1 n1]
    rw [n1] at hq
    exact said_x hA hE s_name (by decide) h1 hq
  | true =>
    cases n2 : nmD v2 with
    | false =>
      rw [meter_x2 h1 n1 h2 n2]
      rw [n1, n2] at hq
      exact said_x hA hE s_name (by decide) h2 hq
    | true =>
      rw [n1, n2] at hq
      simp only [if_true] at hq
      by_cases hb : t3 = .type "bool"
      · rw [if_pos hb] at hq
        obtain ⟨e1, m1⟩ := strD_nm n1
        obtain ⟨e2, m2⟩ := strD_nm n2
        have e3 : v3 = .bl (blD v3) := by
          have hk := h3.k
          rw [hb] at hk
          cases v3 with
          | bl b => rfl
          | _ => simp [kindD] at hk
        rw [e1, e2, e3, meter_init_ok m1 m2]
        rw [told_eq fun q x => seen_meter hA (nm_len m1).2 (nm_len m2).2]
        exact hq
      · rw [if_neg hb] at hq
        rw [meter_x3 h1 n1 h2 n2 h3 hb]
        exact said_x hA hE s_flag (by decide) h3 hq
/-! ### what is caught, as data -/
structure Out (o : D) (p : PyData) : Prop where
  py : D.py o = some p
  cl : PyData.canLay0 p = true
  dp : p.depth ≤ 2
  cn : D.clean 0 o = true
theorem out_i {i : Int} (h : PyData.strOk r = true) : Out (.lst [.int i, .str r]) (.list [.int i, .str r]) := by
  refine ⟨rfl, ?_, by simp [PyData.depth, PyData.depthAll], rfl⟩
  simp [PyData.canLay0, PyData.canLayAll0, h]
theorem out_t (h : PyData.strOk r = true) : Out (.lst [.str "told", .str r]) (.list [.str "told", .str r]) := by
  refine ⟨rfl, ?_, by simp [PyData.depth, PyData.depthAll], rfl⟩
  have : PyData.strOk "told" = true := by decide +kernel
  simp [PyData.canLay0, PyData.canLayAll0, h, this]
theorem low_lit : low "pipe " ∧ low "meter " ∧ low " " ∧ low "True" ∧ low "False" := by
  unfold low
  decide +kernel
theorem low_pipe {a b c : Str} (ha : Nm a) (hb : Nm b) (hc : Nm c) : low (pipeT a b c) := by
  obtain ⟨l1, l2, l3, l4, l5⟩ := low_lit
  exact low_cat (low_cat (low_cat (low_cat (low_cat l1 (low_nm ha)) l3) (low_nm hb)) l3) (low_nm hc)
theorem low_meter {a b : Str} {f : Bool} (ha : Nm a) (hb : Nm b) : low (meterT a b f) := by
  obtain ⟨l1, l2, l3, l4, l5⟩ := low_lit
  refine low_cat (low_cat (low_cat (low_cat (low_cat l2 (low_nm ha)) l3) (low_nm hb)) l3) ?_
  cases f
  · exact l5
  · exact l4
theorem outP_ok (h1 : Vl A v1 t1 r1) (h2 : Vl A v2 t2 r2) (h3 : Vl A v3 t3 r3) : ∃ p, Out (outP v1 v2 v3 r1 r2 r3) p := by
  unfold outP
  split
  · rename_i n1
    split
    · rename_i n2
      split
      · rename_i n3
        split
        · exact ⟨_, out_i h3.ok⟩
        · exact ⟨_, out_t (low_ok (low_pipe (strD_nm n1).2 (strD_nm n2).2 (strD_nm n3).2))⟩
      · exact ⟨_, out_i h3.ok⟩
    · exact ⟨_, out_i h2.ok⟩
  · exact ⟨_, out_i h1.ok⟩
theorem outM_ok (h1 : Vl A v1 t1 r1) (h2 : Vl A v2 t2 r2) (h3 : Vl A v3 t3 r3) : ∃ p, Out (outM v1 v2 v3 t3 r1 r2 r3) p := by
  unfold outM
  split
  · rename_i n1
    split
    · rename_i n2
      split
      · exact ⟨_, out_t (low_ok (low_meter (strD_nm n1).2 (strD_nm n2).2))⟩
      · exact ⟨_, out_i h3.ok⟩
    · exact ⟨_, out_i h2.ok⟩
  · exact ⟨_, out_i h1.ok⟩
/-- two of them, in a cell -/
theorem two_eq {o : D} {p : PyData} {j : Nat} (h : Out o p) (hj : S[j]? = some (.lst [o, o])) : eqD S (.cell j) (.lst [o, o]) = some (.bl true) := by
  have hc := h.cl
  have hd := h.dp
  refine eqD_same (p := .list [p, p]) rfl ?_ ?_ ?_ ?_
  · simp [pyS, hj, D.pyL, h.py]
  · simp [pyS, D.py, D.pyL, h.py]
  · simp [PyData.canLay0, PyData.canLayAll0, hc]
  · simp [PyData.depth, PyData.depthAll]
    omega
end
end RV
end
section
/-! The law of pipes and meters refused: its checks. -/
namespace RV
open PySem L2
section
variable {A : Ad} {S T : WS} {k : Nat} {n m : Int} {w : W} {q : D → WS → Prop} {x : Xq} {s : Str} {v v1 v2 v3 : D} {t t1 t2 t3 : Value} {r r1 r2 r3 : Str} {f : Addr}
theorem ix_l0 {d : D} {ds : List D} : ixD S (.lst (d :: ds)) (.int 0) = some d := by simp only [ixD, atI_cons]
theorem rep2 {d : D} : repLD S (.lst [d]) (.int 2) = some (.lst [d, d]) := rfl
theorem nmD_str {s : Str} : nmD (.str s) = nmB s := rfl
theorem pipe_right_ok (hA : NetsS A) (hE : ErrsA A) (hk : k < S.length) (hT : S[1]? = some (.tab (A.t "_law_pipe_right") "_law_pipe_right.<locals>.<lambda>")) (h1k : 1 ≠ k) (g : Good n w) (hn : n < 10000000000000) (h : ∀ w', Good (n + 100) w' → q (.bl true) (st S k w' T)) : G_pipe_right_k10 A [.cell k] (st S k w T) q x := by
  have tab : ∀ w T, (st S k w T)[1]? = some (.tab (A.t "_law_pipe_right") "_law_pipe_right.<locals>.<lambda>") := fun w T => st_tab hT h1k
  rw [D_pipe_right_k10]
  unfold fnD startE
  simp only [List.map_cons, List.map_nil, List.length_cons, List.length_nil, Nat.reduceAdd, Nat.reduceSub, List.replicate, List.cons_append, List.nil_append, List.append_nil, Nat.zero_add]
  unfold B_pipe_right_k10
  refine seq_gen fun N_ hN_ => ?_
  try simp -implicitDefEqProofs only [eVar, eC, eOp, eUn, aNil, aCons, eSeq, eCall, eFn, bBl, onB_bl, bTru, eNotT, bAnd, bOr, bNot, eAnd, eOr, eIf, bChain, iteB_t, iteB_f, sNil, sSeq, sRet, sDrop, sAsg, sIf, sBreak, sCont, sAsgG, sPar2, sPar3, sSetIx, sPairSet, sAppend, onL, onI_i, onT_s, onTu_t, onCe_c, on1_, on2_, on3_, onLst_l, onOb_o, onSeq_l, onSeq_r, onSeq_c, lkD_s, lkD_n, lkO_s, lkO_n, finO, sFldD, setFD, eProp, isOb_obj, eMake, eMakeK, eMakeL, eLc, eNew, eSl, oNone, oSome, eOpM, eCallM, eCm, eCmK, eOpT, jNil, jCons, eJoin, aStar, sCalm, sFor, iRange1, iSeq, iTupD, iStrD, iEnumT, tName, tTup_t, tsCons_c, tsNil_n, any_t, onS_some, look0, look1, look2, look3, look4, look5, look6, look7, look8, look9, look10, look11, look12, look13, look14, look15, bYes, wipeE, List.set_cons_zero, List.set_cons_succ, List.length_cons, List.length_nil, List.append_nil, List.nil_append, List.cons_append, List.append_assoc, Nat.zero_add, Nat.reduceAdd, Nat.reduceSub, Nat.reduceEqDiff, Nat.reduceLT, Nat.reduceLeDiff, Int.reduceNeg, true_and, and_true, and_self, if_true, if_false, Bool.not_true, Bool.not_false, Bool.false_eq_true, reduceIte, reduceCtorEq, decide_true, decide_false, ltD_int, leD_int, gtD_int, geD_int, subD_int, addD_int, intOf_int, absD_int, eqD_int, eqD_str, neD_str, neD_int, isN_non, truD_bl, eqD_bl, neD_bl, Option.map_some, Option.bind_some, small_0, small_1, small_2, small_3, small_4, small_5, small_6, small_7, small_8, eCaught, onX_e, sRaise, eLm, onLs_l, eFnE, eXg, onV_v, sWish, eDic0, eDisp, eChain, finX_self, st_app, st_len, fin_st, fin_stT, fin_self, ite_self]
  refine value_ok hk g (by omega) fun v1 t1 r1 w1 h1 g1 => ?_
  try simp -implicitDefEqProofs only [eVar, eC, eOp, eUn, aNil, aCons, eSeq, eCall, eFn, bBl, onB_bl, bTru, eNotT, bAnd, bOr, bNot, eAnd, eOr, eIf, bChain, iteB_t, iteB_f, sNil, sSeq, sRet, sDrop, sAsg, sIf, sBreak, sCont, sAsgG, sPar2, sPar3, sSetIx, sPairSet, sAppend, onL, onI_i, onT_s, onTu_t, onCe_c, on1_, on2_, on3_, onLst_l, onOb_o, onSeq_l, onSeq_r, onSeq_c, lkD_s, lkD_n, lkO_s, lkO_n, finO, sFldD, setFD, eProp, isOb_obj, eMake, eMakeK, eMakeL, eLc, eNew, eSl, oNone, oSome, eOpM, eCallM, eCm, eCmK, eOpT, jNil, jCons, eJoin, aStar, sCalm, sFor, iRange1, iSeq, iTupD, iStrD, iEnumT, tName, tTup_t, tsCons_c, tsNil_n, any_t, onS_some, look0, look1, look2, look3, look4, look5, look6, look7, look8, look9, look10, look11, look12, look13, look14, look15, bYes, wipeE, List.set_cons_zero, List.set_cons_succ, List.length_cons, List.length_nil, List.append_nil, List.nil_append, List.cons_append, List.append_assoc, Nat.zero_add, Nat.reduceAdd, Nat.reduceSub, Nat.reduceEqDiff, Nat.reduceLT, Nat.reduceLeDiff, Int.reduceNeg, true_and, and_true, and_self, if_true, if_false, Bool.not_true, Bool.not_false, Bool.false_eq_true, reduceIte, reduceCtorEq, decide_true, decide_false, ltD_int, leD_int, gtD_int, geD_int, subD_int, addD_int, intOf_int, absD_int, eqD_int, eqD_str, neD_str, neD_int, isN_non, truD_bl, eqD_bl, neD_bl, Option.map_some, Option.bind_some, small_0, small_1, small_2, small_3, small_4, small_5, small_6, small_7, small_8, eCaught, onX_e, sRaise, eLm, onLs_l, eFnE, eXg, onV_v, sWish, eDic0, eDisp, eChain, finX_self, st_app, st_len, fin_st, fin_stT, fin_self, ite_self]
  refine value_ok hk g1 (by omega) fun v2 t2 r2 w2 h2 g2 => ?_
  try simp -implicitDefEqProofs only [eVar, eC, eOp, eUn, aNil, aCons, eSeq, eCall, eFn, bBl, onB_bl, bTru, eNotT, bAnd, bOr, bNot, eAnd, eOr, eIf, bChain, iteB_t, iteB_f, sNil, sSeq, sRet, sDrop, sAsg, sIf, sBreak, sCont, sAsgG, sPar2, sPar3, sSetIx, sPairSet, sAppend, onL, onI_i, onT_s, onTu_t, onCe_c, on1_, on2_, on3_, onLst_l, onOb_o, onSeq_l, onSeq_r, onSeq_c, lkD_s, lkD_n, lkO_s, lkO_n, finO, sFldD, setFD, eProp, isOb_obj, eMake, eMakeK, eMakeL, eLc, eNew, eSl, oNone, oSome, eOpM, eCallM, eCm, eCmK, eOpT, jNil, jCons, eJoin, aStar, sCalm, sFor, iRange1, iSeq, iTupD, iStrD, iEnumT, tName, tTup_t, tsCons_c, tsNil_n, any_t, onS_some, look0, look1, look2, look3, look4, look5, look6, look7, look8, look9, look10, look11, look12, look13, look14, look15, bYes, wipeE, List.set_cons_zero, List.set_cons_succ, List.length_cons, List.length_nil, List.append_nil, List.nil_append, List.cons_append, List.append_assoc, Nat.zero_add, Nat.reduceAdd, Nat.reduceSub, Nat.reduceEqDiff, Nat.reduceLT, Nat.reduceLeDiff, Int.reduceNeg, true_and, and_true, and_self, if_true, if_false, Bool.not_true, Bool.not_false, Bool.false_eq_true, reduceIte, reduceCtorEq, decide_true, decide_false, ltD_int, leD_int, gtD_int, geD_int, subD_int, addD_int, intOf_int, absD_int, eqD_int, eqD_str, neD_str, neD_int, isN_non, truD_bl, eqD_bl, neD_bl, Option.map_some, Option.bind_some, small_0, small_1, small_2, small_3, small_4, small_5, small_6, small_7, small_8, eCaught, onX_e, sRaise, eLm, onLs_l, eFnE, eXg, onV_v, sWish, eDic0, eDisp, eChain, finX_self, st_app, st_len, fin_st, fin_stT, fin_self, ite_self]
  refine value_ok hk g2 (by omega) fun v3 t3 r3 w3 h3 g3 => ?_
  try simp -implicitDefEqProofs only [eVar, eC, eOp, eUn, aNil, aCons, eSeq, eCall, eFn, bBl, onB_bl, bTru, eNotT, bAnd, bOr, bNot, eAnd, eOr, eIf, bChain, iteB_t, iteB_f, sNil, sSeq, sRet, sDrop, sAsg, sIf, sBreak, sCont, sAsgG, sPar2, sPar3, sSetIx, sPairSet, sAppend, onL, onI_i, onT_s, onTu_t, onCe_c, on1_, on2_, on3_, onLst_l, onOb_o, onSeq_l, onSeq_r, onSeq_c, lkD_s, lkD_n, lkO_s, lkO_n, finO, sFldD, setFD, eProp, isOb_obj, eMake, eMakeK, eMakeL, eLc, eNew, eSl, oNone, oSome, eOpM, eCallM, eCm, eCmK, eOpT, jNil, jCons, eJoin, aStar, sCalm, sFor, iRange1, iSeq, iTupD, iStrD, iEnumT, tName, tTup_t, tsCons_c, tsNil_n, any_t, onS_some, look0, look1, look2, look3, look4, look5, look6, look7, look8, look9, look10, look11, look12, look13, look14, look15, bYes, wipeE, List.set_cons_zero, List.set_cons_succ, List.length_cons, List.length_nil, List.append_nil, List.nil_append, List.cons_append, List.append_assoc, Nat.zero_add, Nat.reduceAdd, Nat.reduceSub, Nat.reduceEqDiff, Nat.reduceLT, Nat.reduceLeDiff, Int.reduceNeg, true_and, and_true, and_self, if_true, if_false, Bool.not_true, Bool.not_false, Bool.false_eq_true, reduceIte, reduceCtorEq, decide_true, decide_false, ltD_int, leD_int, gtD_int, geD_int, subD_int, addD_int, intOf_int, absD_int, eqD_int, eqD_str, neD_str, neD_int, isN_non, truD_bl, eqD_bl, neD_bl, Option.map_some, Option.bind_some, small_0, small_1, small_2, small_3, small_4, small_5, small_6, small_7, small_8, eCaught, onX_e, sRaise, eLm, onLs_l, eFnE, eXg, onV_v, sWish, eDic0, eDisp, eChain, finX_self, st_app, st_len, fin_st, fin_stT, fin_self, ite_self]
  subst hN_
  refine seq_gen fun N_ hN_ => ?_
  have main : ∀ v3 t3 r3 w', Vl A v3 t3 r3 → Good (n + 91) w' → N_ [some (.cell k), some v1, some v2, some v3, none, none, none] (st S k w' T) := by
    intro v3 t3 r3 w4 h3 g4
    subst hN_
    have ⟨p, ho⟩ := outP_ok (A := A) h1 h2 h3
    refine seq_gen fun N_ hN_ => ?_
    have hvs : ∀ d ∈ [v1, v2, v3], ∃ t r, Vl A d t r := fun d hd => by
      simp only [List.mem_cons, List.not_mem_nil, or_false] at hd
      rcases hd with e | e | e <;> subst e
      · exact ⟨_, _, h1⟩
      · exact ⟨_, _, h2⟩
      · exact ⟨_, _, h3⟩
    try simp -implicitDefEqProofs only [eVar, eC, eOp, eUn, aNil, aCons, eSeq, eCall, eFn, bBl, onB_bl, bTru, eNotT, bAnd, bOr, bNot, eAnd, eOr, eIf, bChain, iteB_t, iteB_f, sNil, sSeq, sRet, sDrop, sAsg, sIf, sBreak, sCont, sAsgG, sPar2, sPar3, sSetIx, sPairSet, sAppend, onL, onI_i, onT_s, onTu_t, onCe_c, on1_, on2_, on3_, onLst_l, onOb_o, onSeq_l, onSeq_r, onSeq_c, lkD_s, lkD_n, lkO_s, lkO_n, finO, sFldD, setFD, eProp, isOb_obj, eMake, eMakeK, eMakeL, eLc, eNew, eSl, oNone, oSome, eOpM, eCallM, eCm, eCmK, eOpT, jNil, jCons, eJoin, aStar, sCalm, sFor, iRange1, iSeq, iTupD, iStrD, iEnumT, tName, tTup_t, tsCons_c, tsNil_n, any_t, onS_some, look0, look1, look2, look3, look4, look5, look6, look7, look8, look9, look10, look11, look12, look13, look14, look15, bYes, wipeE, List.set_cons_zero, List.set_cons_succ, List.length_cons, List.length_nil, List.append_nil, List.nil_append, List.cons_append, List.append_assoc, Nat.zero_add, Nat.reduceAdd, Nat.reduceSub, Nat.reduceEqDiff, Nat.reduceLT, Nat.reduceLeDiff, Int.reduceNeg, true_and, and_true, and_self, if_true, if_false, Bool.not_true, Bool.not_false, Bool.false_eq_true, reduceIte, reduceCtorEq, decide_true, decide_false, ltD_int, leD_int, gtD_int, geD_int, subD_int, addD_int, intOf_int, absD_int, eqD_int, eqD_str, neD_str, neD_int, isN_non, truD_bl, eqD_bl, neD_bl, Option.map_some, Option.bind_some, small_0, small_1, small_2, small_3, small_4, small_5, small_6, small_7, small_8, eCaught, onX_e, sRaise, eLm, onLs_l, eFnE, eXg, onV_v, sWish, eDic0, eDisp, eChain, finX_self, st_app, st_len, fin_st, fin_stT, fin_self, ite_self, firstBad_eq (ds := [v1, v2, v3]) rfl hvs]
    subst hN_
    refine seq_gen fun N_ hN_ => ?_
    try simp -implicitDefEqProofs only [eVar, eC, eOp, eUn, aNil, aCons, eSeq, eCall, eFn, bBl, onB_bl, bTru, eNotT, bAnd, bOr, bNot, eAnd, eOr, eIf, bChain, iteB_t, iteB_f, sNil, sSeq, sRet, sDrop, sAsg, sIf, sBreak, sCont, sAsgG, sPar2, sPar3, sSetIx, sPairSet, sAppend, onL, onI_i, onT_s, onTu_t, onCe_c, on1_, on2_, on3_, onLst_l, onOb_o, onSeq_l, onSeq_r, onSeq_c, lkD_s, lkD_n, lkO_s, lkO_n, finO, sFldD, setFD, eProp, isOb_obj, eMake, eMakeK, eMakeL, eLc, eNew, eSl, oNone, oSome, eOpM, eCallM, eCm, eCmK, eOpT, jNil, jCons, eJoin, aStar, sCalm, sFor, iRange1, iSeq, iTupD, iStrD, iEnumT, tName, tTup_t, tsCons_c, tsNil_n, any_t, onS_some, look0, look1, look2, look3, look4, look5, look6, look7, look8, look9, look10, look11, look12, look13, look14, look15, bYes, wipeE, List.set_cons_zero, List.set_cons_succ, List.length_cons, List.length_nil, List.append_nil, List.nil_append, List.cons_append, List.append_assoc, Nat.zero_add, Nat.reduceAdd, Nat.reduceSub, Nat.reduceEqDiff, Nat.reduceLT, Nat.reduceLeDiff, Int.reduceNeg, true_and, and_true, and_self, if_true, if_false, Bool.not_true, Bool.not_false, Bool.false_eq_true, reduceIte, reduceCtorEq, decide_true, decide_false, ltD_int, leD_int, gtD_int, geD_int, subD_int, addD_int, intOf_int, absD_int, eqD_int, eqD_str, neD_str, neD_int, isN_non, truD_bl, eqD_bl, neD_bl, Option.map_some, Option.bind_some, small_0, small_1, small_2, small_3, small_4, small_5, small_6, small_7, small_8, eCaught, onX_e, sRaise, eLm, onLs_l, eFnE, eXg, onV_v, sWish, eDic0, eDisp, eChain, finX_self, st_app, st_len, fin_st, fin_stT, fin_self, ite_self, tab]
    intro f
    refine pipe_caught hA hE h1 h2 h3 st_len ?_
    try simp -implicitDefEqProofs only [eVar, eC, eOp, eUn, aNil, aCons, eSeq, eCall, eFn, bBl, onB_bl, bTru, eNotT, bAnd, bOr, bNot, eAnd, eOr, eIf, bChain, iteB_t, iteB_f, sNil, sSeq, sRet, sDrop, sAsg, sIf, sBreak, sCont, sAsgG, sPar2, sPar3, sSetIx, sPairSet, sAppend, onL, onI_i, onT_s, onTu_t, onCe_c, on1_, on2_, on3_, onLst_l, onOb_o, onSeq_l, onSeq_r, onSeq_c, lkD_s, lkD_n, lkO_s, lkO_n, finO, sFldD, setFD, eProp, isOb_obj, eMake, eMakeK, eMakeL, eLc, eNew, eSl, oNone, oSome, eOpM, eCallM, eCm, eCmK, eOpT, jNil, jCons, eJoin, aStar, sCalm, sFor, iRange1, iSeq, iTupD, iStrD, iEnumT, tName, tTup_t, tsCons_c, tsNil_n, any_t, onS_some, look0, look1, look2, look3, look4, look5, look6, look7, look8, look9, look10, look11, look12, look13, look14, look15, bYes, wipeE, List.set_cons_zero, List.set_cons_succ, List.length_cons, List.length_nil, List.append_nil, List.nil_append, List.cons_append, List.append_assoc, Nat.zero_add, Nat.reduceAdd, Nat.reduceSub, Nat.reduceEqDiff, Nat.reduceLT, Nat.reduceLeDiff, Int.reduceNeg, true_and, and_true, and_self, if_true, if_false, Bool.not_true, Bool.not_false, Bool.false_eq_true, reduceIte, reduceCtorEq, decide_true, decide_false, ltD_int, leD_int, gtD_int, geD_int, subD_int, addD_int, intOf_int, absD_int, eqD_int, eqD_str, neD_str, neD_int, isN_non, truD_bl, eqD_bl, neD_bl, Option.map_some, Option.bind_some, small_0, small_1, small_2, small_3, small_4, small_5, small_6, small_7, small_8, eCaught, onX_e, sRaise, eLm, onLs_l, eFnE, eXg, onV_v, sWish, eDic0, eDisp, eChain, finX_self, st_app, st_len, fin_st, fin_stT, fin_self, ite_self, D.cleanL, ho.cn, Bool.and_self]
    subst hN_
    refine seq_gen fun N_ hN_ => ?_
    have pm : perm [2, 0, 1] [] [v2, v3, v1] = [v1, v2, v3] := rfl
    try simp -implicitDefEqProofs only [eVar, eC, eOp, eUn, aNil, aCons, eSeq, eCall, eFn, bBl, onB_bl, bTru, eNotT, bAnd, bOr, bNot, eAnd, eOr, eIf, bChain, iteB_t, iteB_f, sNil, sSeq, sRet, sDrop, sAsg, sIf, sBreak, sCont, sAsgG, sPar2, sPar3, sSetIx, sPairSet, sAppend, onL, onI_i, onT_s, onTu_t, onCe_c, on1_, on2_, on3_, onLst_l, onOb_o, onSeq_l, onSeq_r, onSeq_c, lkD_s, lkD_n, lkO_s, lkO_n, finO, sFldD, setFD, eProp, isOb_obj, eMake, eMakeK, eMakeL, eLc, eNew, eSl, oNone, oSome, eOpM, eCallM, eCm, eCmK, eOpT, jNil, jCons, eJoin, aStar, sCalm, sFor, iRange1, iSeq, iTupD, iStrD, iEnumT, tName, tTup_t, tsCons_c, tsNil_n, any_t, onS_some, look0, look1, look2, look3, look4, look5, look6, look7, look8, look9, look10, look11, look12, look13, look14, look15, bYes, wipeE, List.set_cons_zero, List.set_cons_succ, List.length_cons, List.length_nil, List.append_nil, List.nil_append, List.cons_append, List.append_assoc, Nat.zero_add, Nat.reduceAdd, Nat.reduceSub, Nat.reduceEqDiff, Nat.reduceLT, Nat.reduceLeDiff, Int.reduceNeg, true_and, and_true, and_self, if_true, if_false, Bool.not_true, Bool.not_false, Bool.false_eq_true, reduceIte, reduceCtorEq, decide_true, decide_false, ltD_int, leD_int, gtD_int, geD_int, subD_int, addD_int, intOf_int, absD_int, eqD_int, eqD_str, neD_str, neD_int, isN_non, truD_bl, eqD_bl, neD_bl, Option.map_some, Option.bind_some, small_0, small_1, small_2, small_3, small_4, small_5, small_6, small_7, small_8, eCaught, onX_e, sRaise, eLm, onLs_l, eFnE, eXg, onV_v, sWish, eDic0, eDisp, eChain, finX_self, st_app, st_len, fin_st, fin_stT, fin_self, ite_self, tab, st_at0, pm]
    intro f
    refine pipe_caught hA hE h1 h2 h3 st_len ?_
    try simp -implicitDefEqProofs only [eVar, eC, eOp, eUn, aNil, aCons, eSeq, eCall, eFn, bBl, onB_bl, bTru, eNotT, bAnd, bOr, bNot, eAnd, eOr, eIf, bChain, iteB_t, iteB_f, sNil, sSeq, sRet, sDrop, sAsg, sIf, sBreak, sCont, sAsgG, sPar2, sPar3, sSetIx, sPairSet, sAppend, onL, onI_i, onT_s, onTu_t, onCe_c, on1_, on2_, on3_, onLst_l, onOb_o, onSeq_l, onSeq_r, onSeq_c, lkD_s, lkD_n, lkO_s, lkO_n, finO, sFldD, setFD, eProp, isOb_obj, eMake, eMakeK, eMakeL, eLc, eNew, eSl, oNone, oSome, eOpM, eCallM, eCm, eCmK, eOpT, jNil, jCons, eJoin, aStar, sCalm, sFor, iRange1, iSeq, iTupD, iStrD, iEnumT, tName, tTup_t, tsCons_c, tsNil_n, any_t, onS_some, look0, look1, look2, look3, look4, look5, look6, look7, look8, look9, look10, look11, look12, look13, look14, look15, bYes, wipeE, List.set_cons_zero, List.set_cons_succ, List.length_cons, List.length_nil, List.append_nil, List.nil_append, List.cons_append, List.append_assoc, Nat.zero_add, Nat.reduceAdd, Nat.reduceSub, Nat.reduceEqDiff, Nat.reduceLT, Nat.reduceLeDiff, Int.reduceNeg, true_and, and_true, and_self, if_true, if_false, Bool.not_true, Bool.not_false, Bool.false_eq_true, reduceIte, reduceCtorEq, decide_true, decide_false, ltD_int, leD_int, gtD_int, geD_int, subD_int, addD_int, intOf_int, absD_int, eqD_int, eqD_str, neD_str, neD_int, isN_non, truD_bl, eqD_bl, neD_bl, Option.map_some, Option.bind_some, small_0, small_1, small_2, small_3, small_4, small_5, small_6, small_7, small_8, eCaught, onX_e, sRaise, eLm, onLs_l, eFnE, eXg, onV_v, sWish, eDic0, eDisp, eChain, finX_self, st_app, st_len, fin_st, fin_stT, fin_self, ite_self, st_at0, st_set0, ho.cn]
    subst hN_
    refine seq_gen fun N_ hN_ => ?_
    have te : ∀ (q : D → WS → Prop) (w : W), fin (S.length + T.length) (.bl true) (st S k w (T ++ [.lst [outP v1 v2 v3 r1 r2 r3, outP v1 v2 v3 r1 r2 r3]])) q = q (.bl true) (st S k w T) := fun q w => fin_stT rfl (fun i z => nomatch z)
    have hh : ∀ w', Good (n + 91) w' → q (.bl true) (st S k w' T) := fun w' g => h w' (g.mono (by omega))
    unfold outP at ho te ⊢
    cases n1 : nmD v1 with
    | false =>
      rw [n1] at ho te
      simp only [Bool.false_eq_true, if_false] at ho te
      simp only [List.filter_cons, n1, Bool.not_false, if_true, List.take_succ_cons, List.take_zero, Bool.false_eq_true, if_false]
      try simp -implicitDefEqProofs only [eVar, eC, eOp, eUn, aNil, aCons, eSeq, eCall, eFn, bBl, onB_bl, bTru, eNotT, bAnd, bOr, bNot, eAnd, eOr, eIf, bChain, iteB_t, iteB_f, sNil, sSeq, sRet, sDrop, sAsg, sIf, sBreak, sCont, sAsgG, sPar2, sPar3, sSetIx, sPairSet, sAppend, onL, onI_i, onT_s, onTu_t, onCe_c, on1_, on2_, on3_, onLst_l, onOb_o, onSeq_l, onSeq_r, onSeq_c, lkD_s, lkD_n, lkO_s, lkO_n, finO, sFldD, setFD, eProp, isOb_obj, eMake, eMakeK, eMakeL, eLc, eNew, eSl, oNone, oSome, eOpM, eCallM, eCm, eCmK, eOpT, jNil, jCons, eJoin, aStar, sCalm, sFor, iRange1, iSeq, iTupD, iStrD, iEnumT, tName, tTup_t, tsCons_c, tsNil_n, any_t, onS_some, look0, look1, look2, look3, look4, look5, look6, look7, look8, look9, look10, look11, look12, look13, look14, look15, bYes, wipeE, List.set_cons_zero, List.set_cons_succ, List.length_cons, List.length_nil, List.append_nil, List.nil_append, List.cons_append, List.append_assoc, Nat.zero_add, Nat.reduceAdd, Nat.reduceSub, Nat.reduceEqDiff, Nat.reduceLT, Nat.reduceLeDiff, Int.reduceNeg, true_and, and_true, and_self, if_true, if_false, Bool.not_true, Bool.not_false, Bool.false_eq_true, reduceIte, reduceCtorEq, decide_true, decide_false, ltD_int, leD_int, gtD_int, geD_int, subD_int, addD_int, intOf_int, absD_int, eqD_int, eqD_str, neD_str, neD_int, isN_non, truD_bl, eqD_bl, neD_bl, Option.map_some, Option.bind_some, small_0, small_1, small_2, small_3, small_4, small_5, small_6, small_7, small_8, eCaught, onX_e, sRaise, eLm, onLs_l, eFnE, eXg, onV_v, sWish, eDic0, eDisp, eChain, finX_self, st_app, st_len, fin_st, fin_stT, fin_self, ite_self, neD_cons, ix_l0, seen_plain hA h1, rep2, two_eq ho st_at0, te]
      exact hh _ g4
    | true =>
      cases n2 : nmD v2 with
      | false =>
        rw [n1, n2] at ho te
        simp only [Bool.false_eq_true, if_false, if_true] at ho te
        simp only [List.filter_cons, n1, n2, Bool.not_false, Bool.not_true, if_true, List.take_succ_cons, List.take_zero, Bool.false_eq_true, if_false]
        try simp -implicitDefEqProofs only [eVar, eC, eOp, eUn, aNil, aCons, eSeq, eCall, eFn, bBl, onB_bl, bTru, eNotT, bAnd, bOr, bNot, eAnd, eOr, eIf, bChain, iteB_t, iteB_f, sNil, sSeq, sRet, sDrop, sAsg, sIf, sBreak, sCont, sAsgG, sPar2, sPar3, sSetIx, sPairSet, sAppend, onL, onI_i, onT_s, onTu_t, onCe_c, on1_, on2_, on3_, onLst_l, onOb_o, onSeq_l, onSeq_r, onSeq_c, lkD_s, lkD_n, lkO_s, lkO_n, finO, sFldD, setFD, eProp, isOb_obj, eMake, eMakeK, eMakeL, eLc, eNew, eSl, oNone, oSome, eOpM, eCallM, eCm, eCmK, eOpT, jNil, jCons, eJoin, aStar, sCalm, sFor, iRange1, iSeq, iTupD, iStrD, iEnumT, tName, tTup_t, tsCons_c, tsNil_n, any_t, onS_some, look0, look1, look2, look3, look4, look5, look6, look7, look8, look9, look10, look11, look12, look13, look14, look15, bYes, wipeE, List.set_cons_zero, List.set_cons_succ, List.length_cons, List.length_nil, List.append_nil, List.nil_append, List.cons_append, List.append_assoc, Nat.zero_add, Nat.reduceAdd, Nat.reduceSub, Nat.reduceEqDiff, Nat.reduceLT, Nat.reduceLeDiff, Int.reduceNeg, true_and, and_true, and_self, if_true, if_false, Bool.not_true, Bool.not_false, Bool.false_eq_true, reduceIte, reduceCtorEq, decide_true, decide_false, ltD_int, leD_int, gtD_int, geD_int, subD_int, addD_int, intOf_int, absD_int, eqD_int, eqD_str, neD_str, neD_int, isN_non, truD_bl, eqD_bl, neD_bl, Option.map_some, Option.bind_some, small_0, small_1, small_2, small_3, small_4, small_5, small_6, small_7, small_8, eCaught, onX_e, sRaise, eLm, onLs_l, eFnE, eXg, onV_v, sWish, eDic0, eDisp, eChain, finX_self, st_app, st_len, fin_st, fin_stT, fin_self, ite_self, neD_cons, ix_l0, seen_plain hA h2, rep2, two_eq ho st_at0, te]
        exact hh _ g4
      | true =>
        cases n3 : nmD v3 with
        | false =>
          rw [n1, n2, n3] at ho te
          simp only [Bool.false_eq_true, if_false, if_true] at ho te
          simp only [List.filter_cons, n1, n2, n3, Bool.not_false, Bool.not_true, if_true, List.take_succ_cons, List.take_zero, Bool.false_eq_true, if_false]
          try simp -implicitDefEqProofs only [eVar, eC, eOp, eUn, aNil, aCons, eSeq, eCall, eFn, bBl, onB_bl, bTru, eNotT, bAnd, bOr, bNot, eAnd, eOr, eIf, bChain, iteB_t, iteB_f, sNil, sSeq, sRet, sDrop, sAsg, sIf, sBreak, sCont, sAsgG, sPar2, sPar3, sSetIx, sPairSet, sAppend, onL, onI_i, onT_s, onTu_t, onCe_c, on1_, on2_, on3_, onLst_l, onOb_o, onSeq_l, onSeq_r, onSeq_c, lkD_s, lkD_n, lkO_s, lkO_n, finO, sFldD, setFD, eProp, isOb_obj, eMake, eMakeK, eMakeL, eLc, eNew, eSl, oNone, oSome, eOpM, eCallM, eCm, eCmK, eOpT, jNil, jCons, eJoin, aStar, sCalm, sFor, iRange1, iSeq, iTupD, iStrD, iEnumT, tName, tTup_t, tsCons_c, tsNil_n, any_t, onS_some, look0, look1, look2, look3, look4, look5, look6, look7, look8, look9, look10, look11, look12, look13, look14, look15, bYes, wipeE, List.set_cons_zero, List.set_cons_succ, List.length_cons, List.length_nil, List.append_nil, List.nil_append, List.cons_append, List.append_assoc, Nat.zero_add, Nat.reduceAdd, Nat.reduceSub, Nat.reduceEqDiff, Nat.reduceLT, Nat.reduceLeDiff, Int.reduceNeg, true_and, and_true, and_self, if_true, if_false, Bool.not_true, Bool.not_false, Bool.false_eq_true, reduceIte, reduceCtorEq, decide_true, decide_false, ltD_int, leD_int, gtD_int, geD_int, subD_int, addD_int, intOf_int, absD_int, eqD_int, eqD_str, neD_str, neD_int, isN_non, truD_bl, eqD_bl, neD_bl, Option.map_some, Option.bind_some, small_0, small_1, small_2, small_3, small_4, small_5, small_6, small_7, small_8, eCaught, onX_e, sRaise, eLm, onLs_l, eFnE, eXg, onV_v, sWish, eDic0, eDisp, eChain, finX_self, st_app, st_len, fin_st, fin_stT, fin_self, ite_self, neD_cons, ix_l0, seen_plain hA h3, rep2, two_eq ho st_at0, te]
          exact hh _ g4
        | true =>
          rw [n1, n2, n3] at ho te
          simp only [if_true] at ho te
          simp only [List.filter_cons, n1, n2, n3, Bool.not_true, if_true, Bool.false_eq_true, if_false, List.filter_nil, List.take_nil]
          try simp -implicitDefEqProofs only [eVar, eC, eOp, eUn, aNil, aCons, eSeq, eCall, eFn, bBl, onB_bl, bTru, eNotT, bAnd, bOr, bNot, eAnd, eOr, eIf, bChain, iteB_t, iteB_f, sNil, sSeq, sRet, sDrop, sAsg, sIf, sBreak, sCont, sAsgG, sPar2, sPar3, sSetIx, sPairSet, sAppend, onL, onI_i, onT_s, onTu_t, onCe_c, on1_, on2_, on3_, onLst_l, onOb_o, onSeq_l, onSeq_r, onSeq_c, lkD_s, lkD_n, lkO_s, lkO_n, finO, sFldD, setFD, eProp, isOb_obj, eMake, eMakeK, eMakeL, eLc, eNew, eSl, oNone, oSome, eOpM, eCallM, eCm, eCmK, eOpT, jNil, jCons, eJoin, aStar, sCalm, sFor, iRange1, iSeq, iTupD, iStrD, iEnumT, tName, tTup_t, tsCons_c, tsNil_n, any_t, onS_some, look0, look1, look2, look3, look4, look5, look6, look7, look8, look9, look10, look11, look12, look13, look14, look15, bYes, wipeE, List.set_cons_zero, List.set_cons_succ, List.length_cons, List.length_nil, List.append_nil, List.nil_append, List.cons_append, List.append_assoc, Nat.zero_add, Nat.reduceAdd, Nat.reduceSub, Nat.reduceEqDiff, Nat.reduceLT, Nat.reduceLeDiff, Int.reduceNeg, true_and, and_true, and_self, if_true, if_false, Bool.not_true, Bool.not_false, Bool.false_eq_true, reduceIte, reduceCtorEq, decide_true, decide_false, ltD_int, leD_int, gtD_int, geD_int, subD_int, addD_int, intOf_int, absD_int, eqD_int, eqD_str, neD_str, neD_int, isN_non, truD_bl, eqD_bl, neD_bl, Option.map_some, Option.bind_some, small_0, small_1, small_2, small_3, small_4, small_5, small_6, small_7, small_8, eCaught, onX_e, sRaise, eLm, onLs_l, eFnE, eXg, onV_v, sWish, eDic0, eDisp, eChain, finX_self, st_app, st_len, fin_st, fin_stT, fin_self, ite_self, neD_nil]
          subst hN_
          obtain ⟨e1, m1⟩ := strD_nm n1
          obtain ⟨e2, m2⟩ := strD_nm n2
          obtain ⟨e3, m3⟩ := strD_nm n3
          generalize strD v1 = s1 at e1 m1 ho te ⊢
          generalize strD v2 = s2 at e2 m2 ho te ⊢
          generalize strD v3 = s3 at e3 m3 ho te ⊢
          subst e1 e2 e3
          refine seq_gen fun N_ hN_ => ?_
          try simp -implicitDefEqProofs only [eVar, eC, eOp, eUn, aNil, aCons, eSeq, eCall, eFn, bBl, onB_bl, bTru, eNotT, bAnd, bOr, bNot, eAnd, eOr, eIf, bChain, iteB_t, iteB_f, sNil, sSeq, sRet, sDrop, sAsg, sIf, sBreak, sCont, sAsgG, sPar2, sPar3, sSetIx, sPairSet, sAppend, onL, onI_i, onT_s, onTu_t, onCe_c, on1_, on2_, on3_, onLst_l, onOb_o, onSeq_l, onSeq_r, onSeq_c, lkD_s, lkD_n, lkO_s, lkO_n, finO, sFldD, setFD, eProp, isOb_obj, eMake, eMakeK, eMakeL, eLc, eNew, eSl, oNone, oSome, eOpM, eCallM, eCm, eCmK, eOpT, jNil, jCons, eJoin, aStar, sCalm, sFor, iRange1, iSeq, iTupD, iStrD, iEnumT, tName, tTup_t, tsCons_c, tsNil_n, any_t, onS_some, look0, look1, look2, look3, look4, look5, look6, look7, look8, look9, look10, look11, look12, look13, look14, look15, bYes, wipeE, List.set_cons_zero, List.set_cons_succ, List.length_cons, List.length_nil, List.append_nil, List.nil_append, List.cons_append, List.append_assoc, Nat.zero_add, Nat.reduceAdd, Nat.reduceSub, Nat.reduceEqDiff, Nat.reduceLT, Nat.reduceLeDiff, Int.reduceNeg, true_and, and_true, and_self, if_true, if_false, Bool.not_true, Bool.not_false, Bool.false_eq_true, reduceIte, reduceCtorEq, decide_true, decide_false, ltD_int, leD_int, gtD_int, geD_int, subD_int, addD_int, intOf_int, absD_int, eqD_int, eqD_str, neD_str, neD_int, isN_non, truD_bl, eqD_bl, neD_bl, Option.map_some, Option.bind_some, small_0, small_1, small_2, small_3, small_4, small_5, small_6, small_7, small_8, eCaught, onX_e, sRaise, eLm, onLs_l, eFnE, eXg, onV_v, sWish, eDic0, eDisp, eChain, finX_self, st_app, st_len, fin_st, fin_stT, fin_self, ite_self]
          refine iteB_dec (fun hs => ?_) (fun hs => ?_)
          · have hs' : s3 = s2 := hs.symm
            rw [if_pos hs'] at ho
            simp only [if_pos hs'] at te ⊢
            try simp -implicitDefEqProofs only [eVar, eC, eOp, eUn, aNil, aCons, eSeq, eCall, eFn, bBl, onB_bl, bTru, eNotT, bAnd, bOr, bNot, eAnd, eOr, eIf, bChain, iteB_t, iteB_f, sNil, sSeq, sRet, sDrop, sAsg, sIf, sBreak, sCont, sAsgG, sPar2, sPar3, sSetIx, sPairSet, sAppend, onL, onI_i, onT_s, onTu_t, onCe_c, on1_, on2_, on3_, onLst_l, onOb_o, onSeq_l, onSeq_r, onSeq_c, lkD_s, lkD_n, lkO_s, lkO_n, finO, sFldD, setFD, eProp, isOb_obj, eMake, eMakeK, eMakeL, eLc, eNew, eSl, oNone, oSome, eOpM, eCallM, eCm, eCmK, eOpT, jNil, jCons, eJoin, aStar, sCalm, sFor, iRange1, iSeq, iTupD, iStrD, iEnumT, tName, tTup_t, tsCons_c, tsNil_n, any_t, onS_some, look0, look1, look2, look3, look4, look5, look6, look7, look8, look9, look10, look11, look12, look13, look14, look15, bYes, wipeE, List.set_cons_zero, List.set_cons_succ, List.length_cons, List.length_nil, List.append_nil, List.nil_append, List.cons_append, List.append_assoc, Nat.zero_add, Nat.reduceAdd, Nat.reduceSub, Nat.reduceEqDiff, Nat.reduceLT, Nat.reduceLeDiff, Int.reduceNeg, true_and, and_true, and_self, if_true, if_false, Bool.not_true, Bool.not_false, Bool.false_eq_true, reduceIte, reduceCtorEq, decide_true, decide_false, ltD_int, leD_int, gtD_int, geD_int, subD_int, addD_int, intOf_int, absD_int, eqD_int, eqD_str, neD_str, neD_int, isN_non, truD_bl, eqD_bl, neD_bl, Option.map_some, Option.bind_some, small_0, small_1, small_2, small_3, small_4, small_5, small_6, small_7, small_8, eCaught, onX_e, sRaise, eLm, onLs_l, eFnE, eXg, onV_v, sWish, eDic0, eDisp, eChain, finX_self, st_app, st_len, fin_st, fin_stT, fin_self, ite_self, h3.rp]
            subst hN_
            try simp -implicitDefEqProofs only [eVar, eC, eOp, eUn, aNil, aCons, eSeq, eCall, eFn, bBl, onB_bl, bTru, eNotT, bAnd, bOr, bNot, eAnd, eOr, eIf, bChain, iteB_t, iteB_f, sNil, sSeq, sRet, sDrop, sAsg, sIf, sBreak, sCont, sAsgG, sPar2, sPar3, sSetIx, sPairSet, sAppend, onL, onI_i, onT_s, onTu_t, onCe_c, on1_, on2_, on3_, onLst_l, onOb_o, onSeq_l, onSeq_r, onSeq_c, lkD_s, lkD_n, lkO_s, lkO_n, finO, sFldD, setFD, eProp, isOb_obj, eMake, eMakeK, eMakeL, eLc, eNew, eSl, oNone, oSome, eOpM, eCallM, eCm, eCmK, eOpT, jNil, jCons, eJoin, aStar, sCalm, sFor, iRange1, iSeq, iTupD, iStrD, iEnumT, tName, tTup_t, tsCons_c, tsNil_n, any_t, onS_some, look0, look1, look2, look3, look4, look5, look6, look7, look8, look9, look10, look11, look12, look13, look14, look15, bYes, wipeE, List.set_cons_zero, List.set_cons_succ, List.length_cons, List.length_nil, List.append_nil, List.nil_append, List.cons_append, List.append_assoc, Nat.zero_add, Nat.reduceAdd, Nat.reduceSub, Nat.reduceEqDiff, Nat.reduceLT, Nat.reduceLeDiff, Int.reduceNeg, true_and, and_true, and_self, if_true, if_false, Bool.not_true, Bool.not_false, Bool.false_eq_true, reduceIte, reduceCtorEq, decide_true, decide_false, ltD_int, leD_int, gtD_int, geD_int, subD_int, addD_int, intOf_int, absD_int, eqD_int, eqD_str, neD_str, neD_int, isN_non, truD_bl, eqD_bl, neD_bl, Option.map_some, Option.bind_some, small_0, small_1, small_2, small_3, small_4, small_5, small_6, small_7, small_8, eCaught, onX_e, sRaise, eLm, onLs_l, eFnE, eXg, onV_v, sWish, eDic0, eDisp, eChain, finX_self, st_app, st_len, fin_st, fin_stT, fin_self, ite_self, two_eq ho st_at0, te]
            exact hh _ g4
          · have hs' : ¬ s3 = s2 := fun z => hs z.symm
            rw [if_neg hs'] at ho
            simp only [if_neg hs'] at te ⊢
            obtain ⟨l1, l2, l3⟩ := lens
            have b1 := (nm_len m1).2
            have b2 := (nm_len m2).2
            have b3 := (nm_len m3).2
            have f1 : ∀ S, addD S (.str "pipe ") (.str s1) = some (.str ("pipe " ++ s1)) := fun S => addS (by omega)
            have f2 : ∀ S, addD S (.str ("pipe " ++ s1)) (.str " ") = some (.str ("pipe " ++ s1 ++ " ")) := fun S => addS (by simp only [cat_len]; omega)
            have f3 : ∀ S, addD S (.str ("pipe " ++ s1 ++ " ")) (.str s2) = some (.str ("pipe " ++ s1 ++ " " ++ s2)) := fun S => addS (by simp only [cat_len]; omega)
            have f4 : ∀ S, addD S (.str ("pipe " ++ s1 ++ " " ++ s2)) (.str " ") = some (.str ("pipe " ++ s1 ++ " " ++ s2 ++ " ")) := fun S => addS (by simp only [cat_len]; omega)
            have f5 : ∀ S, addD S (.str ("pipe " ++ s1 ++ " " ++ s2 ++ " ")) (.str s3) = some (.str (pipeT s1 s2 s3)) := fun S => addS (by simp only [cat_len]; omega)
            try simp -implicitDefEqProofs only [eVar, eC, eOp, eUn, aNil, aCons, eSeq, eCall, eFn, bBl, onB_bl, bTru, eNotT, bAnd, bOr, bNot, eAnd, eOr, eIf, bChain, iteB_t, iteB_f, sNil, sSeq, sRet, sDrop, sAsg, sIf, sBreak, sCont, sAsgG, sPar2, sPar3, sSetIx, sPairSet, sAppend, onL, onI_i, onT_s, onTu_t, onCe_c, on1_, on2_, on3_, onLst_l, onOb_o, onSeq_l, onSeq_r, onSeq_c, lkD_s, lkD_n, lkO_s, lkO_n, finO, sFldD, setFD, eProp, isOb_obj, eMake, eMakeK, eMakeL, eLc, eNew, eSl, oNone, oSome, eOpM, eCallM, eCm, eCmK, eOpT, jNil, jCons, eJoin, aStar, sCalm, sFor, iRange1, iSeq, iTupD, iStrD, iEnumT, tName, tTup_t, tsCons_c, tsNil_n, any_t, onS_some, look0, look1, look2, look3, look4, look5, look6, look7, look8, look9, look10, look11, look12, look13, look14, look15, bYes, wipeE, List.set_cons_zero, List.set_cons_succ, List.length_cons, List.length_nil, List.append_nil, List.nil_append, List.cons_append, List.append_assoc, Nat.zero_add, Nat.reduceAdd, Nat.reduceSub, Nat.reduceEqDiff, Nat.reduceLT, Nat.reduceLeDiff, Int.reduceNeg, true_and, and_true, and_self, if_true, if_false, Bool.not_true, Bool.not_false, Bool.false_eq_true, reduceIte, reduceCtorEq, decide_true, decide_false, ltD_int, leD_int, gtD_int, geD_int, subD_int, addD_int, intOf_int, absD_int, eqD_int, eqD_str, neD_str, neD_int, isN_non, truD_bl, eqD_bl, neD_bl, Option.map_some, Option.bind_some, small_0, small_1, small_2, small_3, small_4, small_5, small_6, small_7, small_8, eCaught, onX_e, sRaise, eLm, onLs_l, eFnE, eXg, onV_v, sWish, eDic0, eDisp, eChain, finX_self, st_app, st_len, fin_st, fin_stT, fin_self, ite_self, f1, f2, f3, f4, f5]
            subst hN_
            try simp -implicitDefEqProofs only [eVar, eC, eOp, eUn, aNil, aCons, eSeq, eCall, eFn, bBl, onB_bl, bTru, eNotT, bAnd, bOr, bNot, eAnd, eOr, eIf, bChain, iteB_t, iteB_f, sNil, sSeq, sRet, sDrop, sAsg, sIf, sBreak, sCont, sAsgG, sPar2, sPar3, sSetIx, sPairSet, sAppend, onL, onI_i, onT_s, onTu_t, onCe_c, on1_, on2_, on3_, onLst_l, onOb_o, onSeq_l, onSeq_r, onSeq_c, lkD_s, lkD_n, lkO_s, lkO_n, finO, sFldD, setFD, eProp, isOb_obj, eMake, eMakeK, eMakeL, eLc, eNew, eSl, oNone, oSome, eOpM, eCallM, eCm, eCmK, eOpT, jNil, jCons, eJoin, aStar, sCalm, sFor, iRange1, iSeq, iTupD, iStrD, iEnumT, tName, tTup_t, tsCons_c, tsNil_n, any_t, onS_some, look0, look1, look2, look3, look4, look5, look6, look7, look8, look9, look10, look11, look12, look13, look14, look15, bYes, wipeE, List.set_cons_zero, List.set_cons_succ, List.length_cons, List.length_nil, List.append_nil, List.nil_append, List.cons_append, List.append_assoc, Nat.zero_add, Nat.reduceAdd, Nat.reduceSub, Nat.reduceEqDiff, Nat.reduceLT, Nat.reduceLeDiff, Int.reduceNeg, true_and, and_true, and_self, if_true, if_false, Bool.not_true, Bool.not_false, Bool.false_eq_true, reduceIte, reduceCtorEq, decide_true, decide_false, ltD_int, leD_int, gtD_int, geD_int, subD_int, addD_int, intOf_int, absD_int, eqD_int, eqD_str, neD_str, neD_int, isN_non, truD_bl, eqD_bl, neD_bl, Option.map_some, Option.bind_some, small_0, small_1, small_2, small_3, small_4, small_5, small_6, small_7, small_8, eCaught, onX_e, sRaise, eLm, onLs_l, eFnE, eXg, onV_v, sWish, eDic0, eDisp, eChain, finX_self, st_app, st_len, fin_st, fin_stT, fin_self, ite_self, two_eq ho st_at0, te]
            exact hh _ g4
  try simp -implicitDefEqProofs only [eVar, eC, eOp, eUn, aNil, aCons, eSeq, eCall, eFn, bBl, onB_bl, bTru, eNotT, bAnd, bOr, bNot, eAnd, eOr, eIf, bChain, iteB_t, iteB_f, sNil, sSeq, sRet, sDrop, sAsg, sIf, sBreak, sCont, sAsgG, sPar2, sPar3, sSetIx, sPairSet, sAppend, onL, onI_i, onT_s, onTu_t, onCe_c, on1_, on2_, on3_, onLst_l, onOb_o, onSeq_l, onSeq_r, onSeq_c, lkD_s, lkD_n, lkO_s, lkO_n, finO, sFldD, setFD, eProp, isOb_obj, eMake, eMakeK, eMakeL, eLc, eNew, eSl, oNone, oSome, eOpM, eCallM, eCm, eCmK, eOpT, jNil, jCons, eJoin, aStar, sCalm, sFor, iRange1, iSeq, iTupD, iStrD, iEnumT, tName, tTup_t, tsCons_c, tsNil_n, any_t, onS_some, look0, look1, look2, look3, look4, look5, look6, look7, look8, look9, look10, look11, look12, look13, look14, look15, bYes, wipeE, List.set_cons_zero, List.set_cons_succ, List.length_cons, List.length_nil, List.append_nil, List.nil_append, List.cons_append, List.append_assoc, Nat.zero_add, Nat.reduceAdd, Nat.reduceSub, Nat.reduceEqDiff, Nat.reduceLT, Nat.reduceLeDiff, Int.reduceNeg, true_and, and_true, and_self, if_true, if_false, Bool.not_true, Bool.not_false, Bool.false_eq_true, reduceIte, reduceCtorEq, decide_true, decide_false, ltD_int, leD_int, gtD_int, geD_int, subD_int, addD_int, intOf_int, absD_int, eqD_int, eqD_str, neD_str, neD_int, isN_non, truD_bl, eqD_bl, neD_bl, Option.map_some, Option.bind_some, small_0, small_1, small_2, small_3, small_4, small_5, small_6, small_7, small_8, eCaught, onX_e, sRaise, eLm, onLs_l, eFnE, eXg, onV_v, sWish, eDic0, eDisp, eChain, finX_self, st_app, st_len, fin_st, fin_stT, fin_self, ite_self]
  refine dip_ok hk g3 (by omega) (by omega) (by omega) fun d w4 d0 d1 g4 => ?_
  try simp -implicitDefEqProofs only [eVar, eC, eOp, eUn, aNil, aCons, eSeq, eCall, eFn, bBl, onB_bl, bTru, eNotT, bAnd, bOr, bNot, eAnd, eOr, eIf, bChain, iteB_t, iteB_f, sNil, sSeq, sRet, sDrop, sAsg, sIf, sBreak, sCont, sAsgG, sPar2, sPar3, sSetIx, sPairSet, sAppend, onL, onI_i, onT_s, onTu_t, onCe_c, on1_, on2_, on3_, onLst_l, onOb_o, onSeq_l, onSeq_r, onSeq_c, lkD_s, lkD_n, lkO_s, lkO_n, finO, sFldD, setFD, eProp, isOb_obj, eMake, eMakeK, eMakeL, eLc, eNew, eSl, oNone, oSome, eOpM, eCallM, eCm, eCmK, eOpT, jNil, jCons, eJoin, aStar, sCalm, sFor, iRange1, iSeq, iTupD, iStrD, iEnumT, tName, tTup_t, tsCons_c, tsNil_n, any_t, onS_some, look0, look1, look2, look3, look4, look5, look6, look7, look8, look9, look10, look11, look12, look13, look14, look15, bYes, wipeE, List.set_cons_zero, List.set_cons_succ, List.length_cons, List.length_nil, List.append_nil, List.nil_append, List.cons_append, List.append_assoc, Nat.zero_add, Nat.reduceAdd, Nat.reduceSub, Nat.reduceEqDiff, Nat.reduceLT, Nat.reduceLeDiff, Int.reduceNeg, true_and, and_true, and_self, if_true, if_false, Bool.not_true, Bool.not_false, Bool.false_eq_true, reduceIte, reduceCtorEq, decide_true, decide_false, ltD_int, leD_int, gtD_int, geD_int, subD_int, addD_int, intOf_int, absD_int, eqD_int, eqD_str, neD_str, neD_int, isN_non, truD_bl, eqD_bl, neD_bl, Option.map_some, Option.bind_some, small_0, small_1, small_2, small_3, small_4, small_5, small_6, small_7, small_8, eCaught, onX_e, sRaise, eLm, onLs_l, eFnE, eXg, onV_v, sWish, eDic0, eDisp, eChain, finX_self, st_app, st_len, fin_st, fin_stT, fin_self, ite_self]
  refine iteB_dec (fun hd => ?_) (fun hd => ?_)
  · exact main _ _ _ _ h2 (g4.mono (by omega))
  · exact main _ _ _ _ h3 (g4.mono (by omega))
end
end RV
end
section
/-! The law of pipes and meters refused: meters; the law. -/
namespace RV
open PySem L2
section
variable {A : Ad} {S T : WS} {k : Nat} {n m : Int} {w : W} {q : D → WS → Prop} {x : Xq} {s : Str} {v v1 v2 v3 : D} {t t1 t2 t3 : Value} {r r1 r2 r3 : Str} {f : Addr}
theorem isi_bl (h : Vl A v t r) (hb : t = .type "bool") : isiD (own A) (tab A) S [v, .ty "bool"] = some (.bl true) := by
  rw [isi_ty h (by simp [clss])]
  simp [sub, hb]
theorem bl_of (h : Vl A v t r) (hb : t = .type "bool") : v = .bl (blD v) := by
  have hk := h.k
  rw [hb] at hk
  cases v with
  | bl b => rfl
  | _ => simp [kindD] at hk
theorem meter_right_ok (hA : NetsS A) (hE : ErrsA A) (hk : k < S.length) (hT : S[2]? = some (.tab (A.t "_law_meter_right") "_law_meter_right.<locals>.<lambda>")) (h1k : 2 ≠ k) (g : Good n w) (hn : n < 10000000000000) (h : ∀ w', Good (n + 100) w' → q (.bl true) (st S k w' T)) : G_meter_right_k10 A [.cell k] (st S k w T) q x := by
  have tab : ∀ w T, (st S k w T)[2]? = some (.tab (A.t "_law_meter_right") "_law_meter_right.<locals>.<lambda>") := fun w T => st_tab hT h1k
  rw [D_meter_right_k10]
  unfold fnD startE
  simp only [List.map_cons, List.map_nil, List.length_cons, List.length_nil, Nat.reduceAdd, Nat.reduceSub, List.replicate, List.cons_append, List.nil_append, List.append_nil, Nat.zero_add]
  unfold B_meter_right_k10
  refine seq_gen fun N_ hN_ => ?_
  try simp -implicitDefEqProofs only [eVar, eC, eOp, eUn, aNil, aCons, eSeq, eCall, eFn, bBl, onB_bl, bTru, eNotT, bAnd, bOr, bNot, eAnd, eOr, eIf, bChain, iteB_t, iteB_f, sNil, sSeq, sRet, sDrop, sAsg, sIf, sBreak, sCont, sAsgG, sPar2, sPar3, sSetIx, sPairSet, sAppend, onL, onI_i, onT_s, onTu_t, onCe_c, on1_, on2_, on3_, onLst_l, onOb_o, onSeq_l, onSeq_r, onSeq_c, lkD_s, lkD_n, lkO_s, lkO_n, finO, sFldD, setFD, eProp, isOb_obj, eMake, eMakeK, eMakeL, eLc, eNew, eSl, oNone, oSome, eOpM, eCallM, eCm, eCmK, eOpT, jNil, jCons, eJoin, aStar, sCalm, sFor, iRange1, iSeq, iTupD, iStrD, iEnumT, tName, tTup_t, tsCons_c, tsNil_n, any_t, onS_some, look0, look1, look2, look3, look4, look5, look6, look7, look8, look9, look10, look11, look12, look13, look14, look15, bYes, wipeE, List.set_cons_zero, List.set_cons_succ, List.length_cons, List.length_nil, List.append_nil, List.nil_append, List.cons_append, List.append_assoc, Nat.zero_add, Nat.reduceAdd, Nat.reduceSub, Nat.reduceEqDiff, Nat.reduceLT, Nat.reduceLeDiff, Int.reduceNeg, true_and, and_true, and_self, if_true, if_false, Bool.not_true, Bool.not_false, Bool.false_eq_true, reduceIte, reduceCtorEq, decide_true, decide_false, ltD_int, leD_int, gtD_int, geD_int, subD_int, addD_int, intOf_int, absD_int, eqD_int, eqD_str, neD_str, neD_int, isN_non, truD_bl, eqD_bl, neD_bl, Option.map_some, Option.bind_some, small_0, small_1, small_2, small_3, small_4, small_5, small_6, small_7, small_8, eCaught, onX_e, sRaise, eLm, onLs_l, eFnE, eXg, onV_v, sWish, eDic0, eDisp, eChain, finX_self, st_app, st_len, fin_st, fin_stT, fin_self, ite_self]
  refine value_ok hk g (by omega) fun v1 t1 r1 w1 h1 g1 => ?_
  try simp -implicitDefEqProofs only [eVar, eC, eOp, eUn, aNil, aCons, eSeq, eCall, eFn, bBl, onB_bl, bTru, eNotT, bAnd, bOr, bNot, eAnd, eOr, eIf, bChain, iteB_t, iteB_f, sNil, sSeq, sRet, sDrop, sAsg, sIf, sBreak, sCont, sAsgG, sPar2, sPar3, sSetIx, sPairSet, sAppend, onL, onI_i, onT_s, onTu_t, onCe_c, on1_, on2_, on3_, onLst_l, onOb_o, onSeq_l, onSeq_r, onSeq_c, lkD_s, lkD_n, lkO_s, lkO_n, finO, sFldD, setFD, eProp, isOb_obj, eMake, eMakeK, eMakeL, eLc, eNew, eSl, oNone, oSome, eOpM, eCallM, eCm, eCmK, eOpT, jNil, jCons, eJoin, aStar, sCalm, sFor, iRange1, iSeq, iTupD, iStrD, iEnumT, tName, tTup_t, tsCons_c, tsNil_n, any_t, onS_some, look0, look1, look2, look3, look4, look5, look6, look7, look8, look9, look10, look11, look12, look13, look14, look15, bYes, wipeE, List.set_cons_zero, List.set_cons_succ, List.length_cons, List.length_nil, List.append_nil, List.nil_append, List.cons_append, List.append_assoc, Nat.zero_add, Nat.reduceAdd, Nat.reduceSub, Nat.reduceEqDiff, Nat.reduceLT, Nat.reduceLeDiff, Int.reduceNeg, true_and, and_true, and_self, if_true, if_false, Bool.not_true, Bool.not_false, Bool.false_eq_true, reduceIte, reduceCtorEq, decide_true, decide_false, ltD_int, leD_int, gtD_int, geD_int, subD_int, addD_int, intOf_int, absD_int, eqD_int, eqD_str, neD_str, neD_int, isN_non, truD_bl, eqD_bl, neD_bl, Option.map_some, Option.bind_some, small_0, small_1, small_2, small_3, small_4, small_5, small_6, small_7, small_8, eCaught, onX_e, sRaise, eLm, onLs_l, eFnE, eXg, onV_v, sWish, eDic0, eDisp, eChain, finX_self, st_app, st_len, fin_st, fin_stT, fin_self, ite_self]
  refine value_ok hk g1 (by omega) fun v2 t2 r2 w2 h2 g2 => ?_
  try simp -implicitDefEqProofs only [eVar, eC, eOp, eUn, aNil, aCons, eSeq, eCall, eFn, bBl, onB_bl, bTru, eNotT, bAnd, bOr, bNot, eAnd, eOr, eIf, bChain, iteB_t, iteB_f, sNil, sSeq, sRet, sDrop, sAsg, sIf, sBreak, sCont, sAsgG, sPar2, sPar3, sSetIx, sPairSet, sAppend, onL, onI_i, onT_s, onTu_t, onCe_c, on1_, on2_, on3_, onLst_l, onOb_o, onSeq_l, onSeq_r, onSeq_c, lkD_s, lkD_n, lkO_s, lkO_n, finO, sFldD, setFD, eProp, isOb_obj, eMake, eMakeK, eMakeL, eLc, eNew, eSl, oNone, oSome, eOpM, eCallM, eCm, eCmK, eOpT, jNil, jCons, eJoin, aStar, sCalm, sFor, iRange1, iSeq, iTupD, iStrD, iEnumT, tName, tTup_t, tsCons_c, tsNil_n, any_t, onS_some, look0, look1, look2, look3, look4, look5, look6, look7, look8, look9, look10, look11, look12, look13, look14, look15, bYes, wipeE, List.set_cons_zero, List.set_cons_succ, List.length_cons, List.length_nil, List.append_nil, List.nil_append, List.cons_append, List.append_assoc, Nat.zero_add, Nat.reduceAdd, Nat.reduceSub, Nat.reduceEqDiff, Nat.reduceLT, Nat.reduceLeDiff, Int.reduceNeg, true_and, and_true, and_self, if_true, if_false, Bool.not_true, Bool.not_false, Bool.false_eq_true, reduceIte, reduceCtorEq, decide_true, decide_false, ltD_int, leD_int, gtD_int, geD_int, subD_int, addD_int, intOf_int, absD_int, eqD_int, eqD_str, neD_str, neD_int, isN_non, truD_bl, eqD_bl, neD_bl, Option.map_some, Option.bind_some, small_0, small_1, small_2, small_3, small_4, small_5, small_6, small_7, small_8, eCaught, onX_e, sRaise, eLm, onLs_l, eFnE, eXg, onV_v, sWish, eDic0, eDisp, eChain, finX_self, st_app, st_len, fin_st, fin_stT, fin_self, ite_self]
  refine dip_ok hk g2 (by omega) (by omega) (by omega) fun d w3 d0 d1 g3 => ?_
  try simp -implicitDefEqProofs only [eVar, eC, eOp, eUn, aNil, aCons, eSeq, eCall, eFn, bBl, onB_bl, bTru, eNotT, bAnd, bOr, bNot, eAnd, eOr, eIf, bChain, iteB_t, iteB_f, sNil, sSeq, sRet, sDrop, sAsg, sIf, sBreak, sCont, sAsgG, sPar2, sPar3, sSetIx, sPairSet, sAppend, onL, onI_i, onT_s, onTu_t, onCe_c, on1_, on2_, on3_, onLst_l, onOb_o, onSeq_l, onSeq_r, onSeq_c, lkD_s, lkD_n, lkO_s, lkO_n, finO, sFldD, setFD, eProp, isOb_obj, eMake, eMakeK, eMakeL, eLc, eNew, eSl, oNone, oSome, eOpM, eCallM, eCm, eCmK, eOpT, jNil, jCons, eJoin, aStar, sCalm, sFor, iRange1, iSeq, iTupD, iStrD, iEnumT, tName, tTup_t, tsCons_c, tsNil_n, any_t, onS_some, look0, look1, look2, look3, look4, look5, look6, look7, look8, look9, look10, look11, look12, look13, look14, look15, bYes, wipeE, List.set_cons_zero, List.set_cons_succ, List.length_cons, List.length_nil, List.append_nil, List.nil_append, List.cons_append, List.append_assoc, Nat.zero_add, Nat.reduceAdd, Nat.reduceSub, Nat.reduceEqDiff, Nat.reduceLT, Nat.reduceLeDiff, Int.reduceNeg, true_and, and_true, and_self, if_true, if_false, Bool.not_true, Bool.not_false, Bool.false_eq_true, reduceIte, reduceCtorEq, decide_true, decide_false, ltD_int, leD_int, gtD_int, geD_int, subD_int, addD_int, intOf_int, absD_int, eqD_int, eqD_str, neD_str, neD_int, isN_non, truD_bl, eqD_bl, neD_bl, Option.map_some, Option.bind_some, small_0, small_1, small_2, small_3, small_4, small_5, small_6, small_7, small_8, eCaught, onX_e, sRaise, eLm, onLs_l, eFnE, eXg, onV_v, sWish, eDic0, eDisp, eChain, finX_self, st_app, st_len, fin_st, fin_stT, fin_self, ite_self]
  subst hN_
  refine seq_gen fun N_ hN_ => ?_
  have main : ∀ v3 t3 r3 w', Vl A v3 t3 r3 → Good (n + 92) w' → N_ [some (.cell k), some v1, some v2, some (.int d), some v3, none, none, none] (st S k w' T) := by
    intro v3 t3 r3 w4 h3 g4
    subst hN_
    have ⟨p, ho⟩ := outM_ok (A := A) h1 h2 h3
    refine seq_gen fun N_ hN_ => ?_
    have hvs : ∀ d ∈ [v1, v2], ∃ t r, Vl A d t r := fun d hd => by
      simp only [List.mem_cons, List.not_mem_nil, or_false] at hd
      rcases hd with e | e <;> subst e
      · exact ⟨_, _, h1⟩
      · exact ⟨_, _, h2⟩
    try simp -implicitDefEqProofs only [eVar, eC, eOp, eUn, aNil, aCons, eSeq, eCall, eFn, bBl, onB_bl, bTru, eNotT, bAnd, bOr, bNot, eAnd, eOr, eIf, bChain, iteB_t, iteB_f, sNil, sSeq, sRet, sDrop, sAsg, sIf, sBreak, sCont, sAsgG, sPar2, sPar3, sSetIx, sPairSet, sAppend, onL, onI_i, onT_s, onTu_t, onCe_c, on1_, on2_, on3_, onLst_l, onOb_o, onSeq_l, onSeq_r, onSeq_c, lkD_s, lkD_n, lkO_s, lkO_n, finO, sFldD, setFD, eProp, isOb_obj, eMake, eMakeK, eMakeL, eLc, eNew, eSl, oNone, oSome, eOpM, eCallM, eCm, eCmK, eOpT, jNil, jCons, eJoin, aStar, sCalm, sFor, iRange1, iSeq, iTupD, iStrD, iEnumT, tName, tTup_t, tsCons_c, tsNil_n, any_t, onS_some, look0, look1, look2, look3, look4, look5, look6, look7, look8, look9, look10, look11, look12, look13, look14, look15, bYes, wipeE, List.set_cons_zero, List.set_cons_succ, List.length_cons, List.length_nil, List.append_nil, List.nil_append, List.cons_append, List.append_assoc, Nat.zero_add, Nat.reduceAdd, Nat.reduceSub, Nat.reduceEqDiff, Nat.reduceLT, Nat.reduceLeDiff, Int.reduceNeg, true_and, and_true, and_self, if_true, if_false, Bool.not_true, Bool.not_false, Bool.false_eq_true, reduceIte, reduceCtorEq, decide_true, decide_false, ltD_int, leD_int, gtD_int, geD_int, subD_int, addD_int, intOf_int, absD_int, eqD_int, eqD_str, neD_str, neD_int, isN_non, truD_bl, eqD_bl, neD_bl, Option.map_some, Option.bind_some, small_0, small_1, small_2, small_3, small_4, small_5, small_6, small_7, small_8, eCaught, onX_e, sRaise, eLm, onLs_l, eFnE, eXg, onV_v, sWish, eDic0, eDisp, eChain, finX_self, st_app, st_len, fin_st, fin_stT, fin_self, ite_self, firstBad_eq (ds := [v1, v2]) rfl hvs]
    subst hN_
    refine seq_gen fun N_ hN_ => ?_
    have pm0 : perm [0] [v1, v2] [v3] = [v1, v2, v3] := rfl
    try simp -implicitDefEqProofs only [eVar, eC, eOp, eUn, aNil, aCons, eSeq, eCall, eFn, bBl, onB_bl, bTru, eNotT, bAnd, bOr, bNot, eAnd, eOr, eIf, bChain, iteB_t, iteB_f, sNil, sSeq, sRet, sDrop, sAsg, sIf, sBreak, sCont, sAsgG, sPar2, sPar3, sSetIx, sPairSet, sAppend, onL, onI_i, onT_s, onTu_t, onCe_c, on1_, on2_, on3_, onLst_l, onOb_o, onSeq_l, onSeq_r, onSeq_c, lkD_s, lkD_n, lkO_s, lkO_n, finO, sFldD, setFD, eProp, isOb_obj, eMake, eMakeK, eMakeL, eLc, eNew, eSl, oNone, oSome, eOpM, eCallM, eCm, eCmK, eOpT, jNil, jCons, eJoin, aStar, sCalm, sFor, iRange1, iSeq, iTupD, iStrD, iEnumT, tName, tTup_t, tsCons_c, tsNil_n, any_t, onS_some, look0, look1, look2, look3, look4, look5, look6, look7, look8, look9, look10, look11, look12, look13, look14, look15, bYes, wipeE, List.set_cons_zero, List.set_cons_succ, List.length_cons, List.length_nil, List.append_nil, List.nil_append, List.cons_append, List.append_assoc, Nat.zero_add, Nat.reduceAdd, Nat.reduceSub, Nat.reduceEqDiff, Nat.reduceLT, Nat.reduceLeDiff, Int.reduceNeg, true_and, and_true, and_self, if_true, if_false, Bool.not_true, Bool.not_false, Bool.false_eq_true, reduceIte, reduceCtorEq, decide_true, decide_false, ltD_int, leD_int, gtD_int, geD_int, subD_int, addD_int, intOf_int, absD_int, eqD_int, eqD_str, neD_str, neD_int, isN_non, truD_bl, eqD_bl, neD_bl, Option.map_some, Option.bind_some, small_0, small_1, small_2, small_3, small_4, small_5, small_6, small_7, small_8, eCaught, onX_e, sRaise, eLm, onLs_l, eFnE, eXg, onV_v, sWish, eDic0, eDisp, eChain, finX_self, st_app, st_len, fin_st, fin_stT, fin_self, ite_self, tab, pm0]
    intro f
    refine meter_caught hA hE h1 h2 h3 st_len ?_
    try simp -implicitDefEqProofs only [eVar, eC, eOp, eUn, aNil, aCons, eSeq, eCall, eFn, bBl, onB_bl, bTru, eNotT, bAnd, bOr, bNot, eAnd, eOr, eIf, bChain, iteB_t, iteB_f, sNil, sSeq, sRet, sDrop, sAsg, sIf, sBreak, sCont, sAsgG, sPar2, sPar3, sSetIx, sPairSet, sAppend, onL, onI_i, onT_s, onTu_t, onCe_c, on1_, on2_, on3_, onLst_l, onOb_o, onSeq_l, onSeq_r, onSeq_c, lkD_s, lkD_n, lkO_s, lkO_n, finO, sFldD, setFD, eProp, isOb_obj, eMake, eMakeK, eMakeL, eLc, eNew, eSl, oNone, oSome, eOpM, eCallM, eCm, eCmK, eOpT, jNil, jCons, eJoin, aStar, sCalm, sFor, iRange1, iSeq, iTupD, iStrD, iEnumT, tName, tTup_t, tsCons_c, tsNil_n, any_t, onS_some, look0, look1, look2, look3, look4, look5, look6, look7, look8, look9, look10, look11, look12, look13, look14, look15, bYes, wipeE, List.set_cons_zero, List.set_cons_succ, List.length_cons, List.length_nil, List.append_nil, List.nil_append, List.cons_append, List.append_assoc, Nat.zero_add, Nat.reduceAdd, Nat.reduceSub, Nat.reduceEqDiff, Nat.reduceLT, Nat.reduceLeDiff, Int.reduceNeg, true_and, and_true, and_self, if_true, if_false, Bool.not_true, Bool.not_false, Bool.false_eq_true, reduceIte, reduceCtorEq, decide_true, decide_false, ltD_int, leD_int, gtD_int, geD_int, subD_int, addD_int, intOf_int, absD_int, eqD_int, eqD_str, neD_str, neD_int, isN_non, truD_bl, eqD_bl, neD_bl, Option.map_some, Option.bind_some, small_0, small_1, small_2, small_3, small_4, small_5, small_6, small_7, small_8, eCaught, onX_e, sRaise, eLm, onLs_l, eFnE, eXg, onV_v, sWish, eDic0, eDisp, eChain, finX_self, st_app, st_len, fin_st, fin_stT, fin_self, ite_self, D.cleanL, ho.cn, Bool.and_self]
    subst hN_
    refine seq_gen fun N_ hN_ => ?_
    have pm : perm [2, 1, 0] [] [v3, v2, v1] = [v1, v2, v3] := rfl
    try simp -implicitDefEqProofs only [eVar, eC, eOp, eUn, aNil, aCons, eSeq, eCall, eFn, bBl, onB_bl, bTru, eNotT, bAnd, bOr, bNot, eAnd, eOr, eIf, bChain, iteB_t, iteB_f, sNil, sSeq, sRet, sDrop, sAsg, sIf, sBreak, sCont, sAsgG, sPar2, sPar3, sSetIx, sPairSet, sAppend, onL, onI_i, onT_s, onTu_t, onCe_c, on1_, on2_, on3_, onLst_l, onOb_o, onSeq_l, onSeq_r, onSeq_c, lkD_s, lkD_n, lkO_s, lkO_n, finO, sFldD, setFD, eProp, isOb_obj, eMake, eMakeK, eMakeL, eLc, eNew, eSl, oNone, oSome, eOpM, eCallM, eCm, eCmK, eOpT, jNil, jCons, eJoin, aStar, sCalm, sFor, iRange1, iSeq, iTupD, iStrD, iEnumT, tName, tTup_t, tsCons_c, tsNil_n, any_t, onS_some, look0, look1, look2, look3, look4, look5, look6, look7, look8, look9, look10, look11, look12, look13, look14, look15, bYes, wipeE, List.set_cons_zero, List.set_cons_succ, List.length_cons, List.length_nil, List.append_nil, List.nil_append, List.cons_append, List.append_assoc, Nat.zero_add, Nat.reduceAdd, Nat.reduceSub, Nat.reduceEqDiff, Nat.reduceLT, Nat.reduceLeDiff, Int.reduceNeg, true_and, and_true, and_self, if_true, if_false, Bool.not_true, Bool.not_false, Bool.false_eq_true, reduceIte, reduceCtorEq, decide_true, decide_false, ltD_int, leD_int, gtD_int, geD_int, subD_int, addD_int, intOf_int, absD_int, eqD_int, eqD_str, neD_str, neD_int, isN_non, truD_bl, eqD_bl, neD_bl, Option.map_some, Option.bind_some, small_0, small_1, small_2, small_3, small_4, small_5, small_6, small_7, small_8, eCaught, onX_e, sRaise, eLm, onLs_l, eFnE, eXg, onV_v, sWish, eDic0, eDisp, eChain, finX_self, st_app, st_len, fin_st, fin_stT, fin_self, ite_self, tab, st_at0, pm]
    intro f
    refine meter_caught hA hE h1 h2 h3 st_len ?_
    try simp -implicitDefEqProofs only [eVar, eC, eOp, eUn, aNil, aCons, eSeq, eCall, eFn, bBl, onB_bl, bTru, eNotT, bAnd, bOr, bNot, eAnd, eOr, eIf, bChain, iteB_t, iteB_f, sNil, sSeq, sRet, sDrop, sAsg, sIf, sBreak, sCont, sAsgG, sPar2, sPar3, sSetIx, sPairSet, sAppend, onL, onI_i, onT_s, onTu_t, onCe_c, on1_, on2_, on3_, onLst_l, onOb_o, onSeq_l, onSeq_r, onSeq_c, lkD_s, lkD_n, lkO_s, lkO_n, finO, sFldD, setFD, eProp, isOb_obj, eMake, eMakeK, eMakeL, eLc, eNew, eSl, oNone, oSome, eOpM, eCallM, eCm, eCmK, eOpT, jNil, jCons, eJoin, aStar, sCalm, sFor, iRange1, iSeq, iTupD, iStrD, iEnumT, tName, tTup_t, tsCons_c, tsNil_n, any_t, onS_some, look0, look1, look2, look3, look4, look5, look6, look7, look8, look9, look10, look11, look12, look13, look14, look15, bYes, wipeE, List.set_cons_zero, List.set_cons_succ, List.length_cons, List.length_nil, List.append_nil, List.nil_append, List.cons_append, List.append_assoc, Nat.zero_add, Nat.reduceAdd, Nat.reduceSub, Nat.reduceEqDiff, Nat.reduceLT, Nat.reduceLeDiff, Int.reduceNeg, true_and, and_true, and_self, if_true, if_false, Bool.not_true, Bool.not_false, Bool.false_eq_true, reduceIte, reduceCtorEq, decide_true, decide_false, ltD_int, leD_int, gtD_int, geD_int, subD_int, addD_int, intOf_int, absD_int, eqD_int, eqD_str, neD_str, neD_int, isN_non, truD_bl, eqD_bl, neD_bl, Option.map_some, Option.bind_some, small_0, small_1, small_2, small_3, small_4, small_5, small_6, small_7, small_8, eCaught, onX_e, sRaise, eLm, onLs_l, eFnE, eXg, onV_v, sWish, eDic0, eDisp, eChain, finX_self, st_app, st_len, fin_st, fin_stT, fin_self, ite_self, st_at0, st_set0, ho.cn]
    subst hN_
    refine seq_gen fun N_ hN_ => ?_
    have te : ∀ (q : D → WS → Prop) (w : W), fin (S.length + T.length) (.bl true) (st S k w (T ++ [.lst [outM v1 v2 v3 t3 r1 r2 r3, outM v1 v2 v3 t3 r1 r2 r3]])) q = q (.bl true) (st S k w T) := fun q w => fin_stT rfl (fun i z => nomatch z)
    have hh : ∀ w', Good (n + 92) w' → q (.bl true) (st S k w' T) := fun w' g => h w' (g.mono (by omega))
    unfold outM at ho te ⊢
    cases n1 : nmD v1 with
    | false =>
      rw [n1] at ho te
      simp only [Bool.false_eq_true, if_false] at ho te
      simp only [List.filter_cons, n1, Bool.not_false, if_true, List.take_succ_cons, List.take_zero, Bool.false_eq_true, if_false]
      try simp -implicitDefEqProofs only [eVar, eC, eOp, eUn, aNil, aCons, eSeq, eCall, eFn, bBl, onB_bl, bTru, eNotT, bAnd, bOr, bNot, eAnd, eOr, eIf, bChain, iteB_t, iteB_f, sNil, sSeq, sRet, sDrop, sAsg, sIf, sBreak, sCont, sAsgG, sPar2, sPar3, sSetIx, sPairSet, sAppend, onL, onI_i, onT_s, onTu_t, onCe_c, on1_, on2_, on3_, onLst_l, onOb_o, onSeq_l, onSeq_r, onSeq_c, lkD_s, lkD_n, lkO_s, lkO_n, finO, sFldD, setFD, eProp, isOb_obj, eMake, eMakeK, eMakeL, eLc, eNew, eSl, oNone, oSome, eOpM, eCallM, eCm, eCmK, eOpT, jNil, jCons, eJoin, aStar, sCalm, sFor, iRange1, iSeq, iTupD, iStrD, iEnumT, tName, tTup_t, tsCons_c, tsNil_n, any_t, onS_some, look0, look1, look2, look3, look4, look5, look6, look7, look8, look9, look10, look11, look12, look13, look14, look15, bYes, wipeE, List.set_cons_zero, List.set_cons_succ, List.length_cons, List.length_nil, List.append_nil, List.nil_append, List.cons_append, List.append_assoc, Nat.zero_add, Nat.reduceAdd, Nat.reduceSub, Nat.reduceEqDiff, Nat.reduceLT, Nat.reduceLeDiff, Int.reduceNeg, true_and, and_true, and_self, if_true, if_false, Bool.not_true, Bool.not_false, Bool.false_eq_true, reduceIte, reduceCtorEq, decide_true, decide_false, ltD_int, leD_int, gtD_int, geD_int, subD_int, addD_int, intOf_int, absD_int, eqD_int, eqD_str, neD_str, neD_int, isN_non, truD_bl, eqD_bl, neD_bl, Option.map_some, Option.bind_some, small_0, small_1, small_2, small_3, small_4, small_5, small_6, small_7, small_8, eCaught, onX_e, sRaise, eLm, onLs_l, eFnE, eXg, onV_v, sWish, eDic0, eDisp, eChain, finX_self, st_app, st_len, fin_st, fin_stT, fin_self, ite_self, neD_cons, ix_l0, seen_plain hA h1, rep2, two_eq ho st_at0, te]
      exact hh _ g4
    | true =>
      cases n2 : nmD v2 with
      | false =>
        rw [n1, n2] at ho te
        simp only [Bool.false_eq_true, if_false, if_true] at ho te
        simp only [List.filter_cons, n1, n2, Bool.not_false, Bool.not_true, if_true, List.take_succ_cons, List.take_zero, Bool.false_eq_true, if_false]
        try simp -implicitDefEqProofs only [eVar, eC, eOp, eUn, aNil, aCons, eSeq, eCall, eFn, bBl, onB_bl, bTru, eNotT, bAnd, bOr, bNot, eAnd, eOr, eIf, bChain, iteB_t, iteB_f, sNil, sSeq, sRet, sDrop, sAsg, sIf, sBreak, sCont, sAsgG, sPar2, sPar3, sSetIx, sPairSet, sAppend, onL, onI_i, onT_s, onTu_t, onCe_c, on1_, on2_, on3_, onLst_l, onOb_o, onSeq_l, onSeq_r, onSeq_c, lkD_s, lkD_n, lkO_s, lkO_n, finO, sFldD, setFD, eProp, isOb_obj, eMake, eMakeK, eMakeL, eLc, eNew, eSl, oNone, oSome, eOpM, eCallM, eCm, eCmK, eOpT, jNil, jCons, eJoin, aStar, sCalm, sFor, iRange1, iSeq, iTupD, iStrD, iEnumT, tName, tTup_t, tsCons_c, tsNil_n, any_t, onS_some, look0, look1, look2, look3, look4, look5, look6, look7, look8, look9, look10, look11, look12, look13, look14, look15, bYes, wipeE, List.set_cons_zero, List.set_cons_succ, List.length_cons, List.length_nil, List.append_nil, List.nil_append, List.cons_append, List.append_assoc, Nat.zero_add, Nat.reduceAdd, Nat.reduceSub, Nat.reduceEqDiff, Nat.reduceLT, Nat.reduceLeDiff, Int.reduceNeg, true_and, and_true, and_self, if_true, if_false, Bool.not_true, Bool.not_false, Bool.false_eq_true, reduceIte, reduceCtorEq, decide_true, decide_false, ltD_int, leD_int, gtD_int, geD_int, subD_int, addD_int, intOf_int, absD_int, eqD_int, eqD_str, neD_str, neD_int, isN_non, truD_bl, eqD_bl, neD_bl, Option.map_some, Option.bind_some, small_0, small_1, small_2, small_3, small_4, small_5, small_6, small_7, small_8, eCaught, onX_e, sRaise, eLm, onLs_l, eFnE, eXg, onV_v, sWish, eDic0, eDisp, eChain, finX_self, st_app, st_len, fin_st, fin_stT, fin_self, ite_self, neD_cons, ix_l0, seen_plain hA h2, rep2, two_eq ho st_at0, te]
        exact hh _ g4
      | true =>
        rw [n1, n2] at ho te
        simp only [if_true] at ho te
        simp only [List.filter_cons, n1, n2, Bool.not_true, if_true, Bool.false_eq_true, if_false, List.filter_nil, List.take_nil]
        try simp -implicitDefEqProofs only [eVar, eC, eOp, eUn, aNil, aCons, eSeq, eCall, eFn, bBl, onB_bl, bTru, eNotT, bAnd, bOr, bNot, eAnd, eOr, eIf, bChain, iteB_t, iteB_f, sNil, sSeq, sRet, sDrop, sAsg, sIf, sBreak, sCont, sAsgG, sPar2, sPar3, sSetIx, sPairSet, sAppend, onL, onI_i, onT_s, onTu_t, onCe_c, on1_, on2_, on3_, onLst_l, onOb_o, onSeq_l, onSeq_r, onSeq_c, lkD_s, lkD_n, lkO_s, lkO_n, finO, sFldD, setFD, eProp, isOb_obj, eMake, eMakeK, eMakeL, eLc, eNew, eSl, oNone, oSome, eOpM, eCallM, eCm, eCmK, eOpT, jNil, jCons, eJoin, aStar, sCalm, sFor, iRange1, iSeq, iTupD, iStrD, iEnumT, tName, tTup_t, tsCons_c, tsNil_n, any_t, onS_some, look0, look1, look2, look3, look4, look5, look6, look7, look8, look9, look10, look11, look12, look13, look14, look15, bYes, wipeE, List.set_cons_zero, List.set_cons_succ, List.length_cons, List.length_nil, List.append_nil, List.nil_append, List.cons_append, List.append_assoc, Nat.zero_add, Nat.reduceAdd, Nat.reduceSub, Nat.reduceEqDiff, Nat.reduceLT, Nat.reduceLeDiff, Int.reduceNeg, true_and, and_true, and_self, if_true, if_false, Bool.not_true, Bool.not_false, Bool.false_eq_true, reduceIte, reduceCtorEq, decide_true, decide_false, ltD_int, leD_int, gtD_int, geD_int, subD_int, addD_int, intOf_int, absD_int, eqD_int, eqD_str, neD_str, neD_int, isN_non, truD_bl, eqD_bl, neD_bl, Option.map_some, Option.bind_some, small_0, small_1, small_2, small_3, small_4, small_5, small_6, small_7, small_8, eCaught, onX_e, sRaise, eLm, onLs_l, eFnE, eXg, onV_v, sWish, eDic0, eDisp, eChain, finX_self, st_app, st_len, fin_st, fin_stT, fin_self, ite_self, neD_nil]
        subst hN_
        refine seq_gen fun N_ hN_ => ?_
        by_cases hb : t3 = .type "bool"
        · obtain ⟨e1, m1⟩ := strD_nm n1
          obtain ⟨e2, m2⟩ := strD_nm n2
          have e3 := bl_of h3 hb
          have eb := fun S => isi_bl (S := S) h3 hb
          rw [if_pos hb] at ho
          simp only [if_pos hb] at te ⊢
          generalize strD v1 = s1 at e1 m1 ho te ⊢
          generalize strD v2 = s2 at e2 m2 ho te ⊢
          generalize blD v3 = b3 at e3 ho te ⊢
          subst e1 e2 e3
          obtain ⟨l1, l2, l3⟩ := lens
          have b1 := (nm_len m1).2
          have b2 := (nm_len m2).2
          have l4 := bl_len (f := b3)
          have f1 : ∀ S, addD S (.str "meter ") (.str s1) = some (.str ("meter " ++ s1)) := fun S => addS (by omega)
          have f2 : ∀ S, addD S (.str ("meter " ++ s1)) (.str " ") = some (.str ("meter " ++ s1 ++ " ")) := fun S => addS (by simp only [cat_len]; omega)
          have f3 : ∀ S, addD S (.str ("meter " ++ s1 ++ " ")) (.str s2) = some (.str ("meter " ++ s1 ++ " " ++ s2)) := fun S => addS (by simp only [cat_len]; omega)
          have f4 : ∀ S, addD S (.str ("meter " ++ s1 ++ " " ++ s2)) (.str " ") = some (.str ("meter " ++ s1 ++ " " ++ s2 ++ " ")) := fun S => addS (by simp only [cat_len]; omega)
          have f5 : ∀ S, addD S (.str ("meter " ++ s1 ++ " " ++ s2 ++ " ")) (.str (blT b3)) = some (.str (meterT s1 s2 b3)) := fun S => addS (by simp only [cat_len]; omega)
          try simp -implicitDefEqProofs only [eVar, eC, eOp, eUn, aNil, aCons, eSeq, eCall, eFn, bBl, onB_bl, bTru, eNotT, bAnd, bOr, bNot, eAnd, eOr, eIf, bChain, iteB_t, iteB_f, sNil, sSeq, sRet, sDrop, sAsg, sIf, sBreak, sCont, sAsgG, sPar2, sPar3, sSetIx, sPairSet, sAppend, onL, onI_i, onT_s, onTu_t, onCe_c, on1_, on2_, on3_, onLst_l, onOb_o, onSeq_l, onSeq_r, onSeq_c, lkD_s, lkD_n, lkO_s, lkO_n, finO, sFldD, setFD, eProp, isOb_obj, eMake, eMakeK, eMakeL, eLc, eNew, eSl, oNone, oSome, eOpM, eCallM, eCm, eCmK, eOpT, jNil, jCons, eJoin, aStar, sCalm, sFor, iRange1, iSeq, iTupD, iStrD, iEnumT, tName, tTup_t, tsCons_c, tsNil_n, any_t, onS_some, look0, look1, look2, look3, look4, look5, look6, look7, look8, look9, look10, look11, look12, look13, look14, look15, bYes, wipeE, List.set_cons_zero, List.set_cons_succ, List.length_cons, List.length_nil, List.append_nil, List.nil_append, List.cons_append, List.append_assoc, Nat.zero_add, Nat.reduceAdd, Nat.reduceSub, Nat.reduceEqDiff, Nat.reduceLT, Nat.reduceLeDiff, Int.reduceNeg, true_and, and_true, and_self, if_true, if_false, Bool.not_true, Bool.not_false, Bool.false_eq_true, reduceIte, reduceCtorEq, decide_true, decide_false, ltD_int, leD_int, gtD_int, geD_int, subD_int, addD_int, intOf_int, absD_int, eqD_int, eqD_str, neD_str, neD_int, isN_non, truD_bl, eqD_bl, neD_bl, Option.map_some, Option.bind_some, small_0, small_1, small_2, small_3, small_4, small_5, small_6, small_7, small_8, eCaught, onX_e, sRaise, eLm, onLs_l, eFnE, eXg, onV_v, sWish, eDic0, eDisp, eChain, finX_self, st_app, st_len, fin_st, fin_stT, fin_self, ite_self, eb, strF_bl, f1, f2, f3, f4, f5]
          subst hN_
          try simp -implicitDefEqProofs only [eVar, eC, eOp, eUn, aNil, aCons, eSeq, eCall, eFn, bBl, onB_bl, bTru, eNotT, bAnd, bOr, bNot, eAnd, eOr, eIf, bChain, iteB_t, iteB_f, sNil, sSeq, sRet, sDrop, sAsg, sIf, sBreak, sCont, sAsgG, sPar2, sPar3, sSetIx, sPairSet, sAppend, onL, onI_i, onT_s, onTu_t, onCe_c, on1_, on2_, on3_, onLst_l, onOb_o, onSeq_l, onSeq_r, onSeq_c, lkD_s, lkD_n, lkO_s, lkO_n, finO, sFldD, setFD, eProp, isOb_obj, eMake, eMakeK, eMakeL, eLc, eNew, eSl, oNone, oSome, eOpM, eCallM, eCm, eCmK, eOpT, jNil, jCons, eJoin, aStar, sCalm, sFor, iRange1, iSeq, iTupD, iStrD, iEnumT, tName, tTup_t, tsCons_c, tsNil_n, any_t, onS_some, look0, look1, look2, look3, look4, look5, look6, look7, look8, look9, look10, look11, look12, look13, look14, look15, bYes, wipeE, List.set_cons_zero, List.set_cons_succ, List.length_cons, List.length_nil, List.append_nil, List.nil_append, List.cons_append, List.append_assoc, Nat.zero_add, Nat.reduceAdd, Nat.reduceSub, Nat.reduceEqDiff, Nat.reduceLT, Nat.reduceLeDiff, Int.reduceNeg, true_and, and_true, and_self, if_true, if_false, Bool.not_true, Bool.not_false, Bool.false_eq_true, reduceIte, reduceCtorEq, decide_true, decide_false, ltD_int, leD_int, gtD_int, geD_int, subD_int, addD_int, intOf_int, absD_int, eqD_int, eqD_str, neD_str, neD_int, isN_non, truD_bl, eqD_bl, neD_bl, Option.map_some, Option.bind_some, small_0, small_1, small_2, small_3, small_4, small_5, small_6, small_7, small_8, eCaught, onX_e, sRaise, eLm, onLs_l, eFnE, eXg, onV_v, sWish, eDic0, eDisp, eChain, finX_self, st_app, st_len, fin_st, fin_stT, fin_self, ite_self, two_eq ho st_at0, te]
          exact hh _ g4
        · have eb := fun S => isi_nobl (S := S) h3 hb
          rw [if_neg hb] at ho
          simp only [if_neg hb] at te ⊢
          try simp -implicitDefEqProofs only [eVar, eC, eOp, eUn, aNil, aCons, eSeq, eCall, eFn, bBl, onB_bl, bTru, eNotT, bAnd, bOr, bNot, eAnd, eOr, eIf, bChain, iteB_t, iteB_f, sNil, sSeq, sRet, sDrop, sAsg, sIf, sBreak, sCont, sAsgG, sPar2, sPar3, sSetIx, sPairSet, sAppend, onL, onI_i, onT_s, onTu_t, onCe_c, on1_, on2_, on3_, onLst_l, onOb_o, onSeq_l, onSeq_r, onSeq_c, lkD_s, lkD_n, lkO_s, lkO_n, finO, sFldD, setFD, eProp, isOb_obj, eMake, eMakeK, eMakeL, eLc, eNew, eSl, oNone, oSome, eOpM, eCallM, eCm, eCmK, eOpT, jNil, jCons, eJoin, aStar, sCalm, sFor, iRange1, iSeq, iTupD, iStrD, iEnumT, tName, tTup_t, tsCons_c, tsNil_n, any_t, onS_some, look0, look1, look2, look3, look4, look5, look6, look7, look8, look9, look10, look11, look12, look13, look14, look15, bYes, wipeE, List.set_cons_zero, List.set_cons_succ, List.length_cons, List.length_nil, List.append_nil, List.nil_append, List.cons_append, List.append_assoc, Nat.zero_add, Nat.reduceAdd, Nat.reduceSub, Nat.reduceEqDiff, Nat.reduceLT, Nat.reduceLeDiff, Int.reduceNeg, true_and, and_true, and_self, if_true, if_false, Bool.not_true, Bool.not_false, Bool.false_eq_true, reduceIte, reduceCtorEq, decide_true, decide_false, ltD_int, leD_int, gtD_int, geD_int, subD_int, addD_int, intOf_int, absD_int, eqD_int, eqD_str, neD_str, neD_int, isN_non, truD_bl, eqD_bl, neD_bl, Option.map_some, Option.bind_some, small_0, small_1, small_2, small_3, small_4, small_5, small_6, small_7, small_8, eCaught, onX_e, sRaise, eLm, onLs_l, eFnE, eXg, onV_v, sWish, eDic0, eDisp, eChain, finX_self, st_app, st_len, fin_st, fin_stT, fin_self, ite_self, eb, h3.rp]
          subst hN_
          try simp -implicitDefEqProofs only [eVar, eC, eOp, eUn, aNil, aCons, eSeq, eCall, eFn, bBl, onB_bl, bTru, eNotT, bAnd, bOr, bNot, eAnd, eOr, eIf, bChain, iteB_t, iteB_f, sNil, sSeq, sRet, sDrop, sAsg, sIf, sBreak, sCont, sAsgG, sPar2, sPar3, sSetIx, sPairSet, sAppend, onL, onI_i, onT_s, onTu_t, onCe_c, on1_, on2_, on3_, onLst_l, onOb_o, onSeq_l, onSeq_r, onSeq_c, lkD_s, lkD_n, lkO_s, lkO_n, finO, sFldD, setFD, eProp, isOb_obj, eMake, eMakeK, eMakeL, eLc, eNew, eSl, oNone, oSome, eOpM, eCallM, eCm, eCmK, eOpT, jNil, jCons, eJoin, aStar, sCalm, sFor, iRange1, iSeq, iTupD, iStrD, iEnumT, tName, tTup_t, tsCons_c, tsNil_n, any_t, onS_some, look0, look1, look2, look3, look4, look5, look6, look7, look8, look9, look10, look11, look12, look13, look14, look15, bYes, wipeE, List.set_cons_zero, List.set_cons_succ, List.length_cons, List.length_nil, List.append_nil, List.nil_append, List.cons_append, List.append_assoc, Nat.zero_add, Nat.reduceAdd, Nat.reduceSub, Nat.reduceEqDiff, Nat.reduceLT, Nat.reduceLeDiff, Int.reduceNeg, true_and, and_true, and_self, if_true, if_false, Bool.not_true, Bool.not_false, Bool.false_eq_true, reduceIte, reduceCtorEq, decide_true, decide_false, ltD_int, leD_int, gtD_int, geD_int, subD_int, addD_int, intOf_int, absD_int, eqD_int, eqD_str, neD_str, neD_int, isN_non, truD_bl, eqD_bl, neD_bl, Option.map_some, Option.bind_some, small_0, small_1, small_2, small_3, small_4, small_5, small_6, small_7, small_8, eCaught, onX_e, sRaise, eLm, onLs_l, eFnE, eXg, onV_v, sWish, eDic0, eDisp, eChain, finX_self, st_app, st_len, fin_st, fin_stT, fin_self, ite_self, two_eq ho st_at0, te]
          exact hh _ g4
  try simp -implicitDefEqProofs only [eVar, eC, eOp, eUn, aNil, aCons, eSeq, eCall, eFn, bBl, onB_bl, bTru, eNotT, bAnd, bOr, bNot, eAnd, eOr, eIf, bChain, iteB_t, iteB_f, sNil, sSeq, sRet, sDrop, sAsg, sIf, sBreak, sCont, sAsgG, sPar2, sPar3, sSetIx, sPairSet, sAppend, onL, onI_i, onT_s, onTu_t, onCe_c, on1_, on2_, on3_, onLst_l, onOb_o, onSeq_l, onSeq_r, onSeq_c, lkD_s, lkD_n, lkO_s, lkO_n, finO, sFldD, setFD, eProp, isOb_obj, eMake, eMakeK, eMakeL, eLc, eNew, eSl, oNone, oSome, eOpM, eCallM, eCm, eCmK, eOpT, jNil, jCons, eJoin, aStar, sCalm, sFor, iRange1, iSeq, iTupD, iStrD, iEnumT, tName, tTup_t, tsCons_c, tsNil_n, any_t, onS_some, look0, look1, look2, look3, look4, look5, look6, look7, look8, look9, look10, look11, look12, look13, look14, look15, bYes, wipeE, List.set_cons_zero, List.set_cons_succ, List.length_cons, List.length_nil, List.append_nil, List.nil_append, List.cons_append, List.append_assoc, Nat.zero_add, Nat.reduceAdd, Nat.reduceSub, Nat.reduceEqDiff, Nat.reduceLT, Nat.reduceLeDiff, Int.reduceNeg, true_and, and_true, and_self, if_true, if_false, Bool.not_true, Bool.not_false, Bool.false_eq_true, reduceIte, reduceCtorEq, decide_true, decide_false, ltD_int, leD_int, gtD_int, geD_int, subD_int, addD_int, intOf_int, absD_int, eqD_int, eqD_str, neD_str, neD_int, isN_non, truD_bl, eqD_bl, neD_bl, Option.map_some, Option.bind_some, small_0, small_1, small_2, small_3, small_4, small_5, small_6, small_7, small_8, eCaught, onX_e, sRaise, eLm, onLs_l, eFnE, eXg, onV_v, sWish, eDic0, eDisp, eChain, finX_self, st_app, st_len, fin_st, fin_stT, fin_self, ite_self]
  refine iteB_dec (fun hd => ?_) (fun hd => ?_)
  · refine odd_ok hk g3 (by omega) fun v3 t3 r3 w4 _ h3 g4 => ?_
    try simp -implicitDefEqProofs only [eVar, eC, eOp, eUn, aNil, aCons, eSeq, eCall, eFn, bBl, onB_bl, bTru, eNotT, bAnd, bOr, bNot, eAnd, eOr, eIf, bChain, iteB_t, iteB_f, sNil, sSeq, sRet, sDrop, sAsg, sIf, sBreak, sCont, sAsgG, sPar2, sPar3, sSetIx, sPairSet, sAppend, onL, onI_i, onT_s, onTu_t, onCe_c, on1_, on2_, on3_, onLst_l, onOb_o, onSeq_l, onSeq_r, onSeq_c, lkD_s, lkD_n, lkO_s, lkO_n, finO, sFldD, setFD, eProp, isOb_obj, eMake, eMakeK, eMakeL, eLc, eNew, eSl, oNone, oSome, eOpM, eCallM, eCm, eCmK, eOpT, jNil, jCons, eJoin, aStar, sCalm, sFor, iRange1, iSeq, iTupD, iStrD, iEnumT, tName, tTup_t, tsCons_c, tsNil_n, any_t, onS_some, look0, look1, look2, look3, look4, look5, look6, look7, look8, look9, look10, look11, look12, look13, look14, look15, bYes, wipeE, List.set_cons_zero, List.set_cons_succ, List.length_cons, List.length_nil, List.append_nil, List.nil_append, List.cons_append, List.append_assoc, Nat.zero_add, Nat.reduceAdd, Nat.reduceSub, Nat.reduceEqDiff, Nat.reduceLT, Nat.reduceLeDiff, Int.reduceNeg, true_and, and_true, and_self, if_true, if_false, Bool.not_true, Bool.not_false, Bool.false_eq_true, reduceIte, reduceCtorEq, decide_true, decide_false, ltD_int, leD_int, gtD_int, geD_int, subD_int, addD_int, intOf_int, absD_int, eqD_int, eqD_str, neD_str, neD_int, isN_non, truD_bl, eqD_bl, neD_bl, Option.map_some, Option.bind_some, small_0, small_1, small_2, small_3, small_4, small_5, small_6, small_7, small_8, eCaught, onX_e, sRaise, eLm, onLs_l, eFnE, eXg, onV_v, sWish, eDic0, eDisp, eChain, finX_self, st_app, st_len, fin_st, fin_stT, fin_self, ite_self]
    exact main _ _ _ _ h3 (g4.mono (by omega))
  · refine dip_ok hk g3 (by omega) (by omega) (by omega) fun e w4 e0 e1 g4 => ?_
    have hl : e < ((([.bl true, .bl false] : List D).length : Nat) : Int) := e1
    have hx : ixD (st S k w4 T) (.lst [.bl true, .bl false]) (.int e) = some (([.bl true, .bl false] : List D)[e.toNat]'(by simp; omega)) := by
      simp only [ixD, atI_nat e0 hl, List.getElem?_eq_getElem (show e.toNat < ([.bl true, .bl false] : List D).length by simp; omega)]
    have hm : (([.bl true, .bl false] : List D)[e.toNat]'(by simp; omega)) ∈ odds := by
      have := List.getElem_mem (l := ([.bl true, .bl false] : List D)) (n := e.toNat) (by simp; omega)
      simp only [List.mem_cons, List.not_mem_nil, or_false] at this
      rcases this with z | z <;> rw [z] <;> simp [odds]
    obtain ⟨t3, r3, h3⟩ := odd_vl (A := A) _ hm
    try simp -implicitDefEqProofs only [eVar, eC, eOp, eUn, aNil, aCons, eSeq, eCall, eFn, bBl, onB_bl, bTru, eNotT, bAnd, bOr, bNot, eAnd, eOr, eIf, bChain, iteB_t, iteB_f, sNil, sSeq, sRet, sDrop, sAsg, sIf, sBreak, sCont, sAsgG, sPar2, sPar3, sSetIx, sPairSet, sAppend, onL, onI_i, onT_s, onTu_t, onCe_c, on1_, on2_, on3_, onLst_l, onOb_o, onSeq_l, onSeq_r, onSeq_c, lkD_s, lkD_n, lkO_s, lkO_n, finO, sFldD, setFD, eProp, isOb_obj, eMake, eMakeK, eMakeL, eLc, eNew, eSl, oNone, oSome, eOpM, eCallM, eCm, eCmK, eOpT, jNil, jCons, eJoin, aStar, sCalm, sFor, iRange1, iSeq, iTupD, iStrD, iEnumT, tName, tTup_t, tsCons_c, tsNil_n, any_t, onS_some, look0, look1, look2, look3, look4, look5, look6, look7, look8, look9, look10, look11, look12, look13, look14, look15, bYes, wipeE, List.set_cons_zero, List.set_cons_succ, List.length_cons, List.length_nil, List.append_nil, List.nil_append, List.cons_append, List.append_assoc, Nat.zero_add, Nat.reduceAdd, Nat.reduceSub, Nat.reduceEqDiff, Nat.reduceLT, Nat.reduceLeDiff, Int.reduceNeg, true_and, and_true, and_self, if_true, if_false, Bool.not_true, Bool.not_false, Bool.false_eq_true, reduceIte, reduceCtorEq, decide_true, decide_false, ltD_int, leD_int, gtD_int, geD_int, subD_int, addD_int, intOf_int, absD_int, eqD_int, eqD_str, neD_str, neD_int, isN_non, truD_bl, eqD_bl, neD_bl, Option.map_some, Option.bind_some, small_0, small_1, small_2, small_3, small_4, small_5, small_6, small_7, small_8, eCaught, onX_e, sRaise, eLm, onLs_l, eFnE, eXg, onV_v, sWish, eDic0, eDisp, eChain, finX_self, st_app, st_len, fin_st, fin_stT, fin_self, ite_self, hx]
    exact main _ _ _ _ h3 (g4.mono (by omega))
/-! ### the law -/
end
theorem law_true_law_k10 {A : Ad} {ns : List Int} {q : D → WS → Prop} {x : Xq} (hA : AdOk A ["Sum", "Pipe", "Meter", "Net"]) (hE : (["Sum", "Pipe", "Meter", "Net", "BadName", "BadValue", "InvalidEnd", "InvalidFlag", "InvalidMeters", "InvalidName", "InvalidPipes", "InvalidText", "NoAnswer", "NotAMeter", "UnknownName"].map A.c).Nodup) (hl : ns.length ≤ 63) (hq : q (.bl true) (tabs A)) : G_law_k10 A [.scr ns] (tabs A) q x := by
  have hE : ErrsA A := fun m n hm hn e => inj_of_nodup hE m n (List.mem_append_right ["Sum", "Pipe", "Meter", "Net"] hm) (List.mem_append_right ["Sum", "Pipe", "Meter", "Net"] hn) e
  have hA : NetsS A := by
    have hn := hA.nd
    simp only [List.map_cons, List.map_nil, List.nodup_cons, List.mem_cons, List.not_mem_nil, or_false, not_or] at hn
    exact { p := by rw [hA.here]; simp, m := by rw [hA.here]; simp, n := by rw [hA.here]; simp, pm := hn.2.1.1, pn := hn.2.1.2, mn := hn.2.2.1, s := by rw [hA.here]; simp, sp := hn.1.1, sm := hn.1.2.1, sn := hn.1.2.2 }
  have na : Nm "a" := by unfold Nm; decide +kernel
  have nb : Nm "b" := by unfold Nm; decide +kernel
  have hr : (PyData.int 1).shown = "1" := by decide +kernel
  have h1 : Vl A (.int 1) (.type "int") (PyData.int 1).shown := vl_py (p := .int 1) rfl (by simp [plainT]) rfl (fun _ z => nomatch z) ⟨by decide +kernel, by decide +kernel, by decide +kernel, by decide +kernel, by decide +kernel⟩ (by decide +kernel) (fun _ => rfl) (fun _ z => nomatch z) (fun z => by simp at z)
  rw [hr] at h1
  have ht : Value.type "int" ≠ .type "bool" := by simp
  rw [D_law_k10]
  unfold fnD startE
  simp only [List.map_cons, List.map_nil, List.length_cons, List.length_nil, Nat.reduceAdd, Nat.reduceSub, List.replicate, List.cons_append, List.nil_append, List.append_nil, Nat.zero_add]
  unfold B_law_k10
  refine seq_gen fun N_ hN_ => ?_
  have pm0 : perm [0] [.str "a", .str "b"] [.int 1] = ([.str "a", .str "b", .int 1] : List D) := rfl
  have tb0 : (tabs A)[0]? = some (.tab (A.t "law") "law.<locals>.<lambda>") := rfl
  try simp -implicitDefEqProofs only [eVar, eC, eOp, eUn, aNil, aCons, eSeq, eCall, eFn, bBl, onB_bl, bTru, eNotT, bAnd, bOr, bNot, eAnd, eOr, eIf, bChain, iteB_t, iteB_f, sNil, sSeq, sRet, sDrop, sAsg, sIf, sBreak, sCont, sAsgG, sPar2, sPar3, sSetIx, sPairSet, sAppend, onL, onI_i, onT_s, onTu_t, onCe_c, on1_, on2_, on3_, onLst_l, onOb_o, onSeq_l, onSeq_r, onSeq_c, lkD_s, lkD_n, lkO_s, lkO_n, finO, sFldD, setFD, eProp, isOb_obj, eMake, eMakeK, eMakeL, eLc, eNew, eSl, oNone, oSome, eOpM, eCallM, eCm, eCmK, eOpT, jNil, jCons, eJoin, aStar, sCalm, sFor, iRange1, iSeq, iTupD, iStrD, iEnumT, tName, tTup_t, tsCons_c, tsNil_n, any_t, onS_some, look0, look1, look2, look3, look4, look5, look6, look7, look8, look9, look10, look11, look12, look13, look14, look15, bYes, wipeE, List.set_cons_zero, List.set_cons_succ, List.length_cons, List.length_nil, List.append_nil, List.nil_append, List.cons_append, List.append_assoc, Nat.zero_add, Nat.reduceAdd, Nat.reduceSub, Nat.reduceEqDiff, Nat.reduceLT, Nat.reduceLeDiff, Int.reduceNeg, true_and, and_true, and_self, if_true, if_false, Bool.not_true, Bool.not_false, Bool.false_eq_true, reduceIte, reduceCtorEq, decide_true, decide_false, ltD_int, leD_int, gtD_int, geD_int, subD_int, addD_int, intOf_int, absD_int, eqD_int, eqD_str, neD_str, neD_int, isN_non, truD_bl, eqD_bl, neD_bl, Option.map_some, Option.bind_some, small_0, small_1, small_2, small_3, small_4, small_5, small_6, small_7, small_8, eCaught, onX_e, sRaise, eLm, onLs_l, eFnE, eXg, onV_v, sWish, eDic0, eDisp, eChain, finX_self, st_app, st_len, fin_st, fin_stT, fin_self, ite_self, pm0, tb0]
  intro f
  refine meter_caught hA hE (Vl.str (low_ok (low_nm na)) (by decide +kernel)) (Vl.str (low_ok (low_nm nb)) (by decide +kernel)) h1 rfl ?_
  have ho : outM (.str "a") (.str "b") (.int 1) (.type "int") (PyData.str "a").shown (PyData.str "b").shown "1" = .lst [.int 4, .str "1"] := by
    unfold outM
    have e1 : nmD (.str "a") = true := na
    have e2 : nmD (.str "b") = true := nb
    rw [e1, e2, if_neg ht]
    rfl
  have hne : ∀ S, neD S (.lst [.int 4, .str "1"]) (.lst [.int 4, .str "1"]) = some (.bl false) := fun S => neD_same (p := .list [.int 4, .str "1"]) rfl rfl rfl (by decide +kernel) (by decide)
  try simp -implicitDefEqProofs only [eVar, eC, eOp, eUn, aNil, aCons, eSeq, eCall, eFn, bBl, onB_bl, bTru, eNotT, bAnd, bOr, bNot, eAnd, eOr, eIf, bChain, iteB_t, iteB_f, sNil, sSeq, sRet, sDrop, sAsg, sIf, sBreak, sCont, sAsgG, sPar2, sPar3, sSetIx, sPairSet, sAppend, onL, onI_i, onT_s, onTu_t, onCe_c, on1_, on2_, on3_, onLst_l, onOb_o, onSeq_l, onSeq_r, onSeq_c, lkD_s, lkD_n, lkO_s, lkO_n, finO, sFldD, setFD, eProp, isOb_obj, eMake, eMakeK, eMakeL, eLc, eNew, eSl, oNone, oSome, eOpM, eCallM, eCm, eCmK, eOpT, jNil, jCons, eJoin, aStar, sCalm, sFor, iRange1, iSeq, iTupD, iStrD, iEnumT, tName, tTup_t, tsCons_c, tsNil_n, any_t, onS_some, look0, look1, look2, look3, look4, look5, look6, look7, look8, look9, look10, look11, look12, look13, look14, look15, bYes, wipeE, List.set_cons_zero, List.set_cons_succ, List.length_cons, List.length_nil, List.append_nil, List.nil_append, List.cons_append, List.append_assoc, Nat.zero_add, Nat.reduceAdd, Nat.reduceSub, Nat.reduceEqDiff, Nat.reduceLT, Nat.reduceLeDiff, Int.reduceNeg, true_and, and_true, and_self, if_true, if_false, Bool.not_true, Bool.not_false, Bool.false_eq_true, reduceIte, reduceCtorEq, decide_true, decide_false, ltD_int, leD_int, gtD_int, geD_int, subD_int, addD_int, intOf_int, absD_int, eqD_int, eqD_str, neD_str, neD_int, isN_non, truD_bl, eqD_bl, neD_bl, Option.map_some, Option.bind_some, small_0, small_1, small_2, small_3, small_4, small_5, small_6, small_7, small_8, eCaught, onX_e, sRaise, eLm, onLs_l, eFnE, eXg, onV_v, sWish, eDic0, eDisp, eChain, finX_self, st_app, st_len, fin_st, fin_stT, fin_self, ite_self, ho, hne]
  subst hN_
  refine seq_gen fun N_ hN_ => ?_
  try simp -implicitDefEqProofs only [eVar, eC, eOp, eUn, aNil, aCons, eSeq, eCall, eFn, bBl, onB_bl, bTru, eNotT, bAnd, bOr, bNot, eAnd, eOr, eIf, bChain, iteB_t, iteB_f, sNil, sSeq, sRet, sDrop, sAsg, sIf, sBreak, sCont, sAsgG, sPar2, sPar3, sSetIx, sPairSet, sAppend, onL, onI_i, onT_s, onTu_t, onCe_c, on1_, on2_, on3_, onLst_l, onOb_o, onSeq_l, onSeq_r, onSeq_c, lkD_s, lkD_n, lkO_s, lkO_n, finO, sFldD, setFD, eProp, isOb_obj, eMake, eMakeK, eMakeL, eLc, eNew, eSl, oNone, oSome, eOpM, eCallM, eCm, eCmK, eOpT, jNil, jCons, eJoin, aStar, sCalm, sFor, iRange1, iSeq, iTupD, iStrD, iEnumT, tName, tTup_t, tsCons_c, tsNil_n, any_t, onS_some, look0, look1, look2, look3, look4, look5, look6, look7, look8, look9, look10, look11, look12, look13, look14, look15, bYes, wipeE, List.set_cons_zero, List.set_cons_succ, List.length_cons, List.length_nil, List.append_nil, List.nil_append, List.cons_append, List.append_assoc, Nat.zero_add, Nat.reduceAdd, Nat.reduceSub, Nat.reduceEqDiff, Nat.reduceLT, Nat.reduceLeDiff, Int.reduceNeg, true_and, and_true, and_self, if_true, if_false, Bool.not_true, Bool.not_false, Bool.false_eq_true, reduceIte, reduceCtorEq, decide_true, decide_false, ltD_int, leD_int, gtD_int, geD_int, subD_int, addD_int, intOf_int, absD_int, eqD_int, eqD_str, neD_str, neD_int, isN_non, truD_bl, eqD_bl, neD_bl, Option.map_some, Option.bind_some, small_0, small_1, small_2, small_3, small_4, small_5, small_6, small_7, small_8, eCaught, onX_e, sRaise, eLm, onLs_l, eFnE, eXg, onV_v, sWish, eDic0, eDisp, eChain, finX_self, st_app, st_len, fin_st, fin_stT, fin_self, ite_self, len_scr, min2_, max2_]
  obtain ⟨j, hj, ej⟩ := max_min (ns := ns) (c := 5) (by decide)
  have ej' : (if (if (5 : Int) < (ns.length : Nat) then (5 : Int) else (ns.length : Nat)) > 2 then (if (5 : Int) < (ns.length : Nat) then (5 : Int) else (ns.length : Nat)) else 2) = ((j : Nat) : Int) := ej
  rw [ej']
  refine ⟨⟨by omega, by omega⟩, ?_⟩
  have go : ∀ (js : List Nat) (R : WS) (o1 o2 o3 : Option D) (kt : Kt), (∀ i ∈ js, i < 5) → (∀ o1 o2 o3 R, kt.nx [some (.scr ns), o1, o2, o3] (tabs A ++ R)) →
      forD any_ (tName 1) (sSeq (sAsg 2 (eFn 2 (G_well_k01 A) [] (aCons (eVar 0) (aCons (eVar 1) (aNil))))) (sIf (bNot (bTru truD (eCall allD (aCons (eLc .still (iRange1 (aCons (eC (.int 10)) (aNil))) (tName 3) (bYes) (eAnd (eFn 1 (G_pipe_right_k10 A) [] (aCons (eVar 2) (aNil))) (eFn 1 (G_meter_right_k10 A) [] (aCons (eVar 2) (aNil)))) [3]) (aNil))))) (sRet (eC (.bl false))) (sNil)))
        (js.map fun (i : Nat) => D.int (0 + (i : Int))) [some (.scr ns), o1, o2, o3] (tabs A ++ R) kt := fun js => by
    induction js with
    | nil =>
      intro R o1 o2 o3 kt hj hk
      exact ⟨trivial, hk _ _ _ _⟩
    | cons i js ih =>
      intro R o1 o2 o3 kt hj hk
      have h4 := hj i (List.mem_cons_self ..)
      refine for_name trivial (seq_gen fun N_ hN_ => ?_)
      try simp -implicitDefEqProofs only [eVar, eC, eOp, eUn, aNil, aCons, eSeq, eCall, eFn, bBl, onB_bl, bTru, eNotT, bAnd, bOr, bNot, eAnd, eOr, eIf, bChain, iteB_t, iteB_f, sNil, sSeq, sRet, sDrop, sAsg, sIf, sBreak, sCont, sAsgG, sPar2, sPar3, sSetIx, sPairSet, sAppend, onL, onI_i, onT_s, onTu_t, onCe_c, on1_, on2_, on3_, onLst_l, onOb_o, onSeq_l, onSeq_r, onSeq_c, lkD_s, lkD_n, lkO_s, lkO_n, finO, sFldD, setFD, eProp, isOb_obj, eMake, eMakeK, eMakeL, eLc, eNew, eSl, oNone, oSome, eOpM, eCallM, eCm, eCmK, eOpT, jNil, jCons, eJoin, aStar, sCalm, sFor, iRange1, iSeq, iTupD, iStrD, iEnumT, tName, tTup_t, tsCons_c, tsNil_n, any_t, onS_some, look0, look1, look2, look3, look4, look5, look6, look7, look8, look9, look10, look11, look12, look13, look14, look15, bYes, wipeE, List.set_cons_zero, List.set_cons_succ, List.length_cons, List.length_nil, List.append_nil, List.nil_append, List.cons_append, List.append_assoc, Nat.zero_add, Nat.reduceAdd, Nat.reduceSub, Nat.reduceEqDiff, Nat.reduceLT, Nat.reduceLeDiff, Int.reduceNeg, true_and, and_true, and_self, if_true, if_false, Bool.not_true, Bool.not_false, Bool.false_eq_true, reduceIte, reduceCtorEq, decide_true, decide_false, ltD_int, leD_int, gtD_int, geD_int, subD_int, addD_int, intOf_int, absD_int, eqD_int, eqD_str, neD_str, neD_int, isN_non, truD_bl, eqD_bl, neD_bl, Option.map_some, Option.bind_some, small_0, small_1, small_2, small_3, small_4, small_5, small_6, small_7, small_8, eCaught, onX_e, sRaise, eLm, onLs_l, eFnE, eXg, onV_v, sWish, eDic0, eDisp, eChain, finX_self, st_app, st_len, fin_st, fin_stT, fin_self, ite_self]
      refine well_ok (by omega) (by omega) fun w g => ?_
      subst hN_
      try simp -implicitDefEqProofs only [eVar, eC, eOp, eUn, aNil, aCons, eSeq, eCall, eFn, bBl, onB_bl, bTru, eNotT, bAnd, bOr, bNot, eAnd, eOr, eIf, bChain, iteB_t, iteB_f, sNil, sSeq, sRet, sDrop, sAsg, sIf, sBreak, sCont, sAsgG, sPar2, sPar3, sSetIx, sPairSet, sAppend, onL, onI_i, onT_s, onTu_t, onCe_c, on1_, on2_, on3_, onLst_l, onOb_o, onSeq_l, onSeq_r, onSeq_c, lkD_s, lkD_n, lkO_s, lkO_n, finO, sFldD, setFD, eProp, isOb_obj, eMake, eMakeK, eMakeL, eLc, eNew, eSl, oNone, oSome, eOpM, eCallM, eCm, eCmK, eOpT, jNil, jCons, eJoin, aStar, sCalm, sFor, iRange1, iSeq, iTupD, iStrD, iEnumT, tName, tTup_t, tsCons_c, tsNil_n, any_t, onS_some, look0, look1, look2, look3, look4, look5, look6, look7, look8, look9, look10, look11, look12, look13, look14, look15, bYes, wipeE, List.set_cons_zero, List.set_cons_succ, List.length_cons, List.length_nil, List.append_nil, List.nil_append, List.cons_append, List.append_assoc, Nat.zero_add, Nat.reduceAdd, Nat.reduceSub, Nat.reduceEqDiff, Nat.reduceLT, Nat.reduceLeDiff, Int.reduceNeg, true_and, and_true, and_self, if_true, if_false, Bool.not_true, Bool.not_false, Bool.false_eq_true, reduceIte, reduceCtorEq, decide_true, decide_false, ltD_int, leD_int, gtD_int, geD_int, subD_int, addD_int, intOf_int, absD_int, eqD_int, eqD_str, neD_str, neD_int, isN_non, truD_bl, eqD_bl, neD_bl, Option.map_some, Option.bind_some, small_0, small_1, small_2, small_3, small_4, small_5, small_6, small_7, small_8, eCaught, onX_e, sRaise, eLm, onLs_l, eFnE, eXg, onV_v, sWish, eDic0, eDisp, eChain, finX_self, st_app, st_len, fin_st, fin_stT, fin_self, ite_self]
      refine ⟨⟨by omega, by omega⟩, rfl, ?_⟩
      have hlen : (tabs A ++ R).length = 3 + R.length := by simp [tabs]; omega
      rw [← List.append_assoc, st_new]
      refine lc_well (c := 200) (B := 1000000) (by decide) (upto 10) [] 0 w g (by rw [show (upto 10).length = 10 from rfl]; decide) (fun d hd => ⟨_, rfl, fun n w1 q g1 hn hq => ?_⟩) fun w2 g2 => ?_
      · have t1 : (tabs A ++ R ++ [w.d])[1]? = some (.tab (A.t "_law_pipe_right") "_law_pipe_right.<locals>.<lambda>") := rfl
        have t2 : (tabs A ++ R ++ [w.d])[2]? = some (.tab (A.t "_law_meter_right") "_law_meter_right.<locals>.<lambda>") := rfl
        have hlt' : (tabs A ++ R).length < (tabs A ++ R ++ [w.d]).length := by simp
        try simp -implicitDefEqProofs only [eVar, eC, eOp, eUn, aNil, aCons, eSeq, eCall, eFn, bBl, onB_bl, bTru, eNotT, bAnd, bOr, bNot, eAnd, eOr, eIf, bChain, iteB_t, iteB_f, sNil, sSeq, sRet, sDrop, sAsg, sIf, sBreak, sCont, sAsgG, sPar2, sPar3, sSetIx, sPairSet, sAppend, onL, onI_i, onT_s, onTu_t, onCe_c, on1_, on2_, on3_, onLst_l, onOb_o, onSeq_l, onSeq_r, onSeq_c, lkD_s, lkD_n, lkO_s, lkO_n, finO, sFldD, setFD, eProp, isOb_obj, eMake, eMakeK, eMakeL, eLc, eNew, eSl, oNone, oSome, eOpM, eCallM, eCm, eCmK, eOpT, jNil, jCons, eJoin, aStar, sCalm, sFor, iRange1, iSeq, iTupD, iStrD, iEnumT, tName, tTup_t, tsCons_c, tsNil_n, any_t, onS_some, look0, look1, look2, look3, look4, look5, look6, look7, look8, look9, look10, look11, look12, look13, look14, look15, bYes, wipeE, List.set_cons_zero, List.set_cons_succ, List.length_cons, List.length_nil, List.append_nil, List.nil_append, List.cons_append, List.append_assoc, Nat.zero_add, Nat.reduceAdd, Nat.reduceSub, Nat.reduceEqDiff, Nat.reduceLT, Nat.reduceLeDiff, Int.reduceNeg, true_and, and_true, and_self, if_true, if_false, Bool.not_true, Bool.not_false, Bool.false_eq_true, reduceIte, reduceCtorEq, decide_true, decide_false, ltD_int, leD_int, gtD_int, geD_int, subD_int, addD_int, intOf_int, absD_int, eqD_int, eqD_str, neD_str, neD_int, isN_non, truD_bl, eqD_bl, neD_bl, Option.map_some, Option.bind_some, small_0, small_1, small_2, small_3, small_4, small_5, small_6, small_7, small_8, eCaught, onX_e, sRaise, eLm, onLs_l, eFnE, eXg, onV_v, sWish, eDic0, eDisp, eChain, finX_self, st_app, st_len, fin_st, fin_stT, fin_self, ite_self]
        refine pipe_right_ok hA hE hlt' t1 (by rw [hlen]; omega) g1 (by omega) fun w3 g3 => ?_
        try simp -implicitDefEqProofs only [eVar, eC, eOp, eUn, aNil, aCons, eSeq, eCall, eFn, bBl, onB_bl, bTru, eNotT, bAnd, bOr, bNot, eAnd, eOr, eIf, bChain, iteB_t, iteB_f, sNil, sSeq, sRet, sDrop, sAsg, sIf, sBreak, sCont, sAsgG, sPar2, sPar3, sSetIx, sPairSet, sAppend, onL, onI_i, onT_s, onTu_t, onCe_c, on1_, on2_, on3_, onLst_l, onOb_o, onSeq_l, onSeq_r, onSeq_c, lkD_s, lkD_n, lkO_s, lkO_n, finO, sFldD, setFD, eProp, isOb_obj, eMake, eMakeK, eMakeL, eLc, eNew, eSl, oNone, oSome, eOpM, eCallM, eCm, eCmK, eOpT, jNil, jCons, eJoin, aStar, sCalm, sFor, iRange1, iSeq, iTupD, iStrD, iEnumT, tName, tTup_t, tsCons_c, tsNil_n, any_t, onS_some, look0, look1, look2, look3, look4, look5, look6, look7, look8, look9, look10, look11, look12, look13, look14, look15, bYes, wipeE, List.set_cons_zero, List.set_cons_succ, List.length_cons, List.length_nil, List.append_nil, List.nil_append, List.cons_append, List.append_assoc, Nat.zero_add, Nat.reduceAdd, Nat.reduceSub, Nat.reduceEqDiff, Nat.reduceLT, Nat.reduceLeDiff, Int.reduceNeg, true_and, and_true, and_self, if_true, if_false, Bool.not_true, Bool.not_false, Bool.false_eq_true, reduceIte, reduceCtorEq, decide_true, decide_false, ltD_int, leD_int, gtD_int, geD_int, subD_int, addD_int, intOf_int, absD_int, eqD_int, eqD_str, neD_str, neD_int, isN_non, truD_bl, eqD_bl, neD_bl, Option.map_some, Option.bind_some, small_0, small_1, small_2, small_3, small_4, small_5, small_6, small_7, small_8, eCaught, onX_e, sRaise, eLm, onLs_l, eFnE, eXg, onV_v, sWish, eDic0, eDisp, eChain, finX_self, st_app, st_len, fin_st, fin_stT, fin_self, ite_self]
        refine meter_right_ok hA hE hlt' t2 (by rw [hlen]; omega) g3 (by omega) fun w4 g4 => ?_
        exact hq w4 (g4.mono (by omega))
      · rw [st_old]
        have ha : ∀ S, allD S [.lst (List.replicate (upto 10).length (.bl true))] = some (.bl true) := fun S => allD_true
        rw [List.nil_append]
        try simp -implicitDefEqProofs only [eVar, eC, eOp, eUn, aNil, aCons, eSeq, eCall, eFn, bBl, onB_bl, bTru, eNotT, bAnd, bOr, bNot, eAnd, eOr, eIf, bChain, iteB_t, iteB_f, sNil, sSeq, sRet, sDrop, sAsg, sIf, sBreak, sCont, sAsgG, sPar2, sPar3, sSetIx, sPairSet, sAppend, onL, onI_i, onT_s, onTu_t, onCe_c, on1_, on2_, on3_, onLst_l, onOb_o, onSeq_l, onSeq_r, onSeq_c, lkD_s, lkD_n, lkO_s, lkO_n, finO, sFldD, setFD, eProp, isOb_obj, eMake, eMakeK, eMakeL, eLc, eNew, eSl, oNone, oSome, eOpM, eCallM, eCm, eCmK, eOpT, jNil, jCons, eJoin, aStar, sCalm, sFor, iRange1, iSeq, iTupD, iStrD, iEnumT, tName, tTup_t, tsCons_c, tsNil_n, any_t, onS_some, look0, look1, look2, look3, look4, look5, look6, look7, look8, look9, look10, look11, look12, look13, look14, look15, bYes, wipeE, List.set_cons_zero, List.set_cons_succ, List.length_cons, List.length_nil, List.append_nil, List.nil_append, List.cons_append, List.append_assoc, Nat.zero_add, Nat.reduceAdd, Nat.reduceSub, Nat.reduceEqDiff, Nat.reduceLT, Nat.reduceLeDiff, Int.reduceNeg, true_and, and_true, and_self, if_true, if_false, Bool.not_true, Bool.not_false, Bool.false_eq_true, reduceIte, reduceCtorEq, decide_true, decide_false, ltD_int, leD_int, gtD_int, geD_int, subD_int, addD_int, intOf_int, absD_int, eqD_int, eqD_str, neD_str, neD_int, isN_non, truD_bl, eqD_bl, neD_bl, Option.map_some, Option.bind_some, small_0, small_1, small_2, small_3, small_4, small_5, small_6, small_7, small_8, eCaught, onX_e, sRaise, eLm, onLs_l, eFnE, eXg, onV_v, sWish, eDic0, eDisp, eChain, finX_self, st_app, st_len, fin_st, fin_stT, fin_self, ite_self, ha]
        exact ih _ _ _ _ kt (fun i hi => hj i (List.mem_cons_of_mem _ hi)) hk
  refine go (List.range j) [] none none none _ (fun i hi => by have := List.mem_range.mp hi; omega) fun o1 o2 o3 R => ?_
  dsimp only
  subst hN_
  try simp -implicitDefEqProofs only [eVar, eC, eOp, eUn, aNil, aCons, eSeq, eCall, eFn, bBl, onB_bl, bTru, eNotT, bAnd, bOr, bNot, eAnd, eOr, eIf, bChain, iteB_t, iteB_f, sNil, sSeq, sRet, sDrop, sAsg, sIf, sBreak, sCont, sAsgG, sPar2, sPar3, sSetIx, sPairSet, sAppend, onL, onI_i, onT_s, onTu_t, onCe_c, on1_, on2_, on3_, onLst_l, onOb_o, onSeq_l, onSeq_r, onSeq_c, lkD_s, lkD_n, lkO_s, lkO_n, finO, sFldD, setFD, eProp, isOb_obj, eMake, eMakeK, eMakeL, eLc, eNew, eSl, oNone, oSome, eOpM, eCallM, eCm, eCmK, eOpT, jNil, jCons, eJoin, aStar, sCalm, sFor, iRange1, iSeq, iTupD, iStrD, iEnumT, tName, tTup_t, tsCons_c, tsNil_n, any_t, onS_some, look0, look1, look2, look3, look4, look5, look6, look7, look8, look9, look10, look11, look12, look13, look14, look15, bYes, wipeE, List.set_cons_zero, List.set_cons_succ, List.length_cons, List.length_nil, List.append_nil, List.nil_append, List.cons_append, List.append_assoc, Nat.zero_add, Nat.reduceAdd, Nat.reduceSub, Nat.reduceEqDiff, Nat.reduceLT, Nat.reduceLeDiff, Int.reduceNeg, true_and, and_true, and_self, if_true, if_false, Bool.not_true, Bool.not_false, Bool.false_eq_true, reduceIte, reduceCtorEq, decide_true, decide_false, ltD_int, leD_int, gtD_int, geD_int, subD_int, addD_int, intOf_int, absD_int, eqD_int, eqD_str, neD_str, neD_int, isN_non, truD_bl, eqD_bl, neD_bl, Option.map_some, Option.bind_some, small_0, small_1, small_2, small_3, small_4, small_5, small_6, small_7, small_8, eCaught, onX_e, sRaise, eLm, onLs_l, eFnE, eXg, onV_v, sWish, eDic0, eDisp, eChain, finX_self, st_app, st_len, fin_st, fin_stT, fin_self, ite_self]
  cases R with
  | nil => exact hq
  | cons c R =>
    rw [fin_app rfl (fun i z => by cases z)]
    exact hq
end RV
end
section

end
section
noncomputable section
namespace K10
open PySem L2 RV
def top (i : Nat) : Stmt := PySem.Challenge.pw_ringvotes_k10_pipes_and_meters_refused.main.body.getD i (.Pass ⟨0, 0, 0, 0⟩)
structure Txt (K : PySem.W.Frag) (mg : Str → Option Value) (A : Ad) : Prop where
  n_abs : mg "abs" = none
  n_all : mg "all" = none
  n_bool : mg "bool" = none
  n_divmod : mg "divmod" = none
  n_int : mg "int" = none
  n_isinstance : mg "isinstance" = none
  n_len : mg "len" = none
  n_max : mg "max" = none
  n_min : mg "min" = none
  n_range : mg "range" = none
  n_repr : mg "repr" = none
  n_str : mg "str" = none
  g_DIGITS : ∃ t, mg "DIGITS" = some (.str "0123456789" t)
  g_LETTERS : ∃ t, mg "LETTERS" = some (.str "abcdefghijklmnopqrstuvwxyz" t)
  g_LONGEST_NAME : ∃ t, mg "LONGEST_NAME" = some (.int 8 t)
  m_Sum : mg "Sum" = some (.ref (A.c "Sum"))
  m_Pipe : mg "Pipe" = some (.ref (A.c "Pipe"))
  m_Meter : mg "Meter" = some (.ref (A.c "Meter"))
  m_Net : mg "Net" = some (.ref (A.c "Net"))
  k_Sum : KindC K (A.c "Sum")
  k_Pipe : KindC K (A.c "Pipe")
  k_Meter : KindC K (A.c "Meter")
  k_Net : KindC K (A.c "Net")
  no_Meter_kept : NoAttr K (A.c "Meter") "kept"
  no_Pipe_kept : NoAttr K (A.c "Pipe") "kept"
  m_BadName : mg "BadName" = some (.ref (A.c "BadName"))
  m_BadValue : mg "BadValue" = some (.ref (A.c "BadValue"))
  m_InvalidEnd : mg "InvalidEnd" = some (.ref (A.c "InvalidEnd"))
  m_InvalidFlag : mg "InvalidFlag" = some (.ref (A.c "InvalidFlag"))
  m_InvalidMeters : mg "InvalidMeters" = some (.ref (A.c "InvalidMeters"))
  m_InvalidName : mg "InvalidName" = some (.ref (A.c "InvalidName"))
  m_InvalidPipes : mg "InvalidPipes" = some (.ref (A.c "InvalidPipes"))
  m_InvalidText : mg "InvalidText" = some (.ref (A.c "InvalidText"))
  m_NoAnswer : mg "NoAnswer" = some (.ref (A.c "NoAnswer"))
  m_NotAMeter : mg "NotAMeter" = some (.ref (A.c "NotAMeter"))
  m_UnknownName : mg "UnknownName" = some (.ref (A.c "UnknownName"))
  xc : ∀ C ∈ errL A errNames, ExcC K C
  xkit : tbXB K A errAll errAnc = true
  xno_given : ∀ C ∈ errL A errNames, PySem.W.findIn K (.ref C) "given" = some none
  xno_index : ∀ C ∈ errL A errNames, PySem.W.findIn K (.ref C) "index" = some none
  xl : ∀ C ∈ errL A errNames, PySem.W.exmAny K (.ref C) [.ref (A.c "BadValue"), .ref (A.c "BadName"), .ref (A.c "NoAnswer")] = some true
  own : ∀ C, own A C = true → KindC K C
  kit : ∀ t u b, tab A t u = some b → PySem.W.kitOne K t u = some b
abbrev s_X_InvalidEnd : Stmt := inClass (top 6) 0
theorem sc_X_InvalidEnd : FnScope ["self", "given"] ["self", "given"] (defScope s_X_InvalidEnd) := ⟨rfl, rfl, rfl, by decide +kernel, rfl, by decide +kernel, by decide +kernel⟩
abbrev s_X_InvalidFlag : Stmt := inClass (top 7) 0
theorem sc_X_InvalidFlag : FnScope ["self", "given"] ["self", "given"] (defScope s_X_InvalidFlag) := ⟨rfl, rfl, rfl, by decide +kernel, rfl, by decide +kernel, by decide +kernel⟩
abbrev s_X_InvalidName : Stmt := inClass (top 5) 0
theorem sc_X_InvalidName : FnScope ["self", "given"] ["self", "given"] (defScope s_X_InvalidName) := ⟨rfl, rfl, rfl, by decide +kernel, rfl, by decide +kernel, by decide +kernel⟩
/-! ### Pipe.name -/
abbrev s_Pipe_name : Stmt := inClass (top 40) 1
theorem sc_Pipe_name : FnScope ["self"] ["self"] (defScope s_Pipe_name) := ⟨rfl, rfl, rfl, by decide +kernel, rfl, by decide +kernel, by decide +kernel⟩
theorem ok_Pipe_name {nn : Bool} {P : Program} {w : World} {K : PySem.W.Frag} {mg : Str → Option Value} {base : Heap} {A : Ad} {f : Addr} {fd : FuncData} {dfs : List V} {kfs : List (Str × V)} (T : Txt K mg A) (F : FunD K "name" "Pipe.name" (defArgs s_Pipe_name) (defBody s_Pipe_name) (defScope s_Pipe_name) dfs kfs f fd)  :
    FnX ⟨false, nn, false⟩ P w K mg base 1 f fd ["self"] (spG K 1 (G_Pipe_name A)) := by
  rw [D_Pipe_name]
  refine fn_G F sc_Pipe_name (fun cdv Ar outer s H E pp hgd hr tk hp => ?_)
  replace hr : Room 0 (Ar.deeper (PyProof.Rows.envOfC "Pipe.name" (defScope s_Pipe_name) s.heap.objs.size f cdv)) := hr
  exact gss_one (gs_ret (ge_ix ix_seq ro_ix (ge_fld T.k_Pipe.cl T.no_Pipe_kept (ge_var 0)) (ge_int)))
/-! ### Pipe.start -/
abbrev s_Pipe_start : Stmt := inClass (top 40) 2
theorem sc_Pipe_start : FnScope ["self"] ["self"] (defScope s_Pipe_start) := ⟨rfl, rfl, rfl, by decide +kernel, rfl, by decide +kernel, by decide +kernel⟩
theorem ok_Pipe_start {nn : Bool} {P : Program} {w : World} {K : PySem.W.Frag} {mg : Str → Option Value} {base : Heap} {A : Ad} {f : Addr} {fd : FuncData} {dfs : List V} {kfs : List (Str × V)} (T : Txt K mg A) (F : FunD K "start" "Pipe.start" (defArgs s_Pipe_start) (defBody s_Pipe_start) (defScope s_Pipe_start) dfs kfs f fd)  :
    FnX ⟨false, nn, false⟩ P w K mg base 1 f fd ["self"] (spG K 1 (G_Pipe_start A)) := by
  rw [D_Pipe_start]
  refine fn_G F sc_Pipe_start (fun cdv Ar outer s H E pp hgd hr tk hp => ?_)
  replace hr : Room 0 (Ar.deeper (PyProof.Rows.envOfC "Pipe.start" (defScope s_Pipe_start) s.heap.objs.size f cdv)) := hr
  exact gss_one (gs_ret (ge_ix ix_seq ro_ix (ge_fld T.k_Pipe.cl T.no_Pipe_kept (ge_var 0)) (ge_int)))
/-! ### Pipe.end -/
abbrev s_Pipe_end : Stmt := inClass (top 40) 3
theorem sc_Pipe_end : FnScope ["self"] ["self"] (defScope s_Pipe_end) := ⟨rfl, rfl, rfl, by decide +kernel, rfl, by decide +kernel, by decide +kernel⟩
theorem ok_Pipe_end {nn : Bool} {P : Program} {w : World} {K : PySem.W.Frag} {mg : Str → Option Value} {base : Heap} {A : Ad} {f : Addr} {fd : FuncData} {dfs : List V} {kfs : List (Str × V)} (T : Txt K mg A) (F : FunD K "end" "Pipe.end" (defArgs s_Pipe_end) (defBody s_Pipe_end) (defScope s_Pipe_end) dfs kfs f fd)  :
    FnX ⟨false, nn, false⟩ P w K mg base 1 f fd ["self"] (spG K 1 (G_Pipe_end A)) := by
  rw [D_Pipe_end]
  refine fn_G F sc_Pipe_end (fun cdv Ar outer s H E pp hgd hr tk hp => ?_)
  replace hr : Room 0 (Ar.deeper (PyProof.Rows.envOfC "Pipe.end" (defScope s_Pipe_end) s.heap.objs.size f cdv)) := hr
  exact gss_one (gs_ret (ge_ix ix_seq ro_ix (ge_fld T.k_Pipe.cl T.no_Pipe_kept (ge_var 0)) (ge_int)))
/-! ### Meter.name -/
abbrev s_Meter_name : Stmt := inClass (top 41) 1
theorem sc_Meter_name : FnScope ["self"] ["self"] (defScope s_Meter_name) := ⟨rfl, rfl, rfl, by decide +kernel, rfl, by decide +kernel, by decide +kernel⟩
theorem ok_Meter_name {nn : Bool} {P : Program} {w : World} {K : PySem.W.Frag} {mg : Str → Option Value} {base : Heap} {A : Ad} {f : Addr} {fd : FuncData} {dfs : List V} {kfs : List (Str × V)} (T : Txt K mg A) (F : FunD K "name" "Meter.name" (defArgs s_Meter_name) (defBody s_Meter_name) (defScope s_Meter_name) dfs kfs f fd)  :
    FnX ⟨false, nn, false⟩ P w K mg base 1 f fd ["self"] (spG K 1 (G_Meter_name A)) := by
  rw [D_Meter_name]
  refine fn_G F sc_Meter_name (fun cdv Ar outer s H E pp hgd hr tk hp => ?_)
  replace hr : Room 0 (Ar.deeper (PyProof.Rows.envOfC "Meter.name" (defScope s_Meter_name) s.heap.objs.size f cdv)) := hr
  exact gss_one (gs_ret (ge_ix ix_seq ro_ix (ge_fld T.k_Meter.cl T.no_Meter_kept (ge_var 0)) (ge_int)))
/-! ### Meter.at -/
abbrev s_Meter_at : Stmt := inClass (top 41) 2
theorem sc_Meter_at : FnScope ["self"] ["self"] (defScope s_Meter_at) := ⟨rfl, rfl, rfl, by decide +kernel, rfl, by decide +kernel, by decide +kernel⟩
theorem ok_Meter_at {nn : Bool} {P : Program} {w : World} {K : PySem.W.Frag} {mg : Str → Option Value} {base : Heap} {A : Ad} {f : Addr} {fd : FuncData} {dfs : List V} {kfs : List (Str × V)} (T : Txt K mg A) (F : FunD K "at" "Meter.at" (defArgs s_Meter_at) (defBody s_Meter_at) (defScope s_Meter_at) dfs kfs f fd)  :
    FnX ⟨false, nn, false⟩ P w K mg base 1 f fd ["self"] (spG K 1 (G_Meter_at A)) := by
  rw [D_Meter_at]
  refine fn_G F sc_Meter_at (fun cdv Ar outer s H E pp hgd hr tk hp => ?_)
  replace hr : Room 0 (Ar.deeper (PyProof.Rows.envOfC "Meter.at" (defScope s_Meter_at) s.heap.objs.size f cdv)) := hr
  exact gss_one (gs_ret (ge_ix ix_seq ro_ix (ge_fld T.k_Meter.cl T.no_Meter_kept (ge_var 0)) (ge_int)))
/-! ### Meter.sealed -/
abbrev s_Meter_sealed : Stmt := inClass (top 41) 3
theorem sc_Meter_sealed : FnScope ["self"] ["self"] (defScope s_Meter_sealed) := ⟨rfl, rfl, rfl, by decide +kernel, rfl, by decide +kernel, by decide +kernel⟩
theorem ok_Meter_sealed {nn : Bool} {P : Program} {w : World} {K : PySem.W.Frag} {mg : Str → Option Value} {base : Heap} {A : Ad} {f : Addr} {fd : FuncData} {dfs : List V} {kfs : List (Str × V)} (T : Txt K mg A) (F : FunD K "sealed" "Meter.sealed" (defArgs s_Meter_sealed) (defBody s_Meter_sealed) (defScope s_Meter_sealed) dfs kfs f fd)  :
    FnX ⟨false, nn, false⟩ P w K mg base 1 f fd ["self"] (spG K 1 (G_Meter_sealed A)) := by
  rw [D_Meter_sealed]
  refine fn_G F sc_Meter_sealed (fun cdv Ar outer s H E pp hgd hr tk hp => ?_)
  replace hr : Room 0 (Ar.deeper (PyProof.Rows.envOfC "Meter.sealed" (defScope s_Meter_sealed) s.heap.objs.size f cdv)) := hr
  exact gss_one (gs_ret (ge_ix ix_seq ro_ix (ge_fld T.k_Meter.cl T.no_Meter_kept (ge_var 0)) (ge_int)))
/-! ### _law_seen -/
abbrev s_seen_k10 : Stmt := top 53
theorem sc_seen_k10 : FnScope ["_law_thing"] ["_law_thing"] (defScope s_seen_k10) := ⟨rfl, rfl, rfl, by decide +kernel, rfl, by decide +kernel, by decide +kernel⟩
theorem ok_seen_k10 {P : Program} {w : World} {K : PySem.W.Frag} {mg : Str → Option Value} {base : Heap} {A : Ad} {f : Addr} {fd : FuncData} {dfs : List V} {kfs : List (Str × V)} (T : Txt K mg A) (F : FunD K "_law_seen" "_law_seen" (defArgs s_seen_k10) (defBody s_seen_k10) (defScope s_seen_k10) dfs kfs f fd) (c_Pipe_name : Pc P w K mg base false (A.c "Pipe") "name" 1 (G_Pipe_name A)) (c_Pipe_start : Pc P w K mg base false (A.c "Pipe") "start" 1 (G_Pipe_start A)) (c_Pipe_end : Pc P w K mg base false (A.c "Pipe") "end" 1 (G_Pipe_end A)) (c_Meter_name : Pc P w K mg base false (A.c "Meter") "name" 1 (G_Meter_name A)) (c_Meter_at : Pc P w K mg base false (A.c "Meter") "at" 1 (G_Meter_at A)) (c_Meter_sealed : Pc P w K mg base false (A.c "Meter") "sealed" 1 (G_Meter_sealed A)) :
    FnX ⟨true, false, false⟩ P w K mg base 3 f fd ["_law_thing"] (spG K 1 (G_seen_k10 A)) := by
  rw [D_seen_k10]
  refine fn_G F sc_seen_k10 (fun cdv Ar outer s H E pp hgd hr tk hp => ?_)
  replace hr : Room 2 (Ar.deeper (PyProof.Rows.envOfC "_law_seen" (defScope s_seen_k10) s.heap.objs.size f cdv)) := hr
  have hgd0 := hgd rfl
  exact gss_cons (gs_if (gt_tru tru_ok rt_tru (ge_callB call_isi (rc_isi T.own T.kit) T.n_isinstance (by decide +kernel) (ga_cons (ge_var 0) (ga_cons (ge_gref T.m_Pipe) (ga_nil))))) (gss_one (gs_ret (ge_op op_addA ro_addA (ge_op op_addA ro_addA (ge_op op_addA ro_addA (ge_op op_addA ro_addA (ge_op op_addA ro_addA (ge_str) (ge_propF c_Pipe_name hr (ge_var 0))) (ge_str)) (ge_propF c_Pipe_start hr (ge_var 0))) (ge_str)) (ge_propF c_Pipe_end hr (ge_var 0))))) (gss_nil))
    (gss_cons (gs_if (gt_tru tru_ok rt_tru (ge_callB call_isi (rc_isi T.own T.kit) T.n_isinstance (by decide +kernel) (ga_cons (ge_var 0) (ga_cons (ge_gref T.m_Meter) (ga_nil))))) (gss_one (gs_ret (ge_op op_addA ro_addA (ge_op op_addA ro_addA (ge_op op_addA ro_addA (ge_op op_addA ro_addA (ge_op op_addA ro_addA (ge_str) (ge_propF c_Meter_name hr (ge_var 0))) (ge_str)) (ge_propF c_Meter_at hr (ge_var 0))) (ge_str)) (ge_callTy call_strFl rc_strFl T.n_str (by decide +kernel) (ga_cons (ge_propF c_Meter_sealed hr (ge_var 0)) (ga_nil)))))) (gss_nil))
    (gss_cons (gs_if (gt_tru tru_ok rt_tru (ge_callB call_isi (rc_isi T.own T.kit) T.n_isinstance (by decide +kernel) (ga_cons (ge_var 0) (ga_cons (ge_gref T.m_Net) (ga_nil))))) (gss_one (gs_ret (ge_op op_addA ro_addA (ge_str) (ge_never)))) (gss_nil))
    (gss_one (gs_ret (ge_ifExp (gt_tru tru_ok rt_tru (ge_callB call_isi (rc_isi T.own T.kit) T.n_isinstance (by decide +kernel) (ga_cons (ge_var 0) (ga_cons (ge_gref T.m_Sum) (ga_nil))))) (ge_op op_addA ro_addA (ge_str) (ge_never)) (ge_callB (call_repr2 (h := false) hgd0 hr) rc_repr2 T.n_repr (by decide +kernel) (ga_cons (ge_var 0) (ga_nil))))))))
/-! ### _law_seen -/
abbrev s_seen_k10_h : Stmt := top 53
theorem sc_seen_k10_h : FnScope ["_law_thing"] ["_law_thing"] (defScope s_seen_k10_h) := ⟨rfl, rfl, rfl, by decide +kernel, rfl, by decide +kernel, by decide +kernel⟩
theorem ok_seen_k10_h {P : Program} {w : World} {K : PySem.W.Frag} {mg : Str → Option Value} {base : Heap} {A : Ad} {f : Addr} {fd : FuncData} {dfs : List V} {kfs : List (Str × V)} (T : Txt K mg A) (F : FunD K "_law_seen" "_law_seen" (defArgs s_seen_k10_h) (defBody s_seen_k10_h) (defScope s_seen_k10_h) dfs kfs f fd)  :
    FnX ⟨true, false, true⟩ P w K mg base 1 f fd ["_law_thing"] (spG K 1 (G_seen_k10_h A)) := by
  rw [D_seen_k10_h]
  refine fn_G F sc_seen_k10_h (fun cdv Ar outer s H E pp hgd hr tk hp => ?_)
  have hgd0 := hgd rfl
  exact gss_cons (gs_if (gt_tru tru_ok rt_tru (ge_callB call_isi (rc_isi T.own T.kit) T.n_isinstance (by decide +kernel) (ga_cons (ge_var 0) (ga_cons (ge_gref T.m_Pipe) (ga_nil))))) (gss_one (gs_ret (ge_op op_addA ro_addA (ge_op op_addA ro_addA (ge_op op_addA ro_addA (ge_op op_addA ro_addA (ge_op op_addA ro_addA (ge_str) (ge_never)) (ge_str)) (ge_never)) (ge_str)) (ge_never)))) (gss_nil))
    (gss_cons (gs_if (gt_tru tru_ok rt_tru (ge_callB call_isi (rc_isi T.own T.kit) T.n_isinstance (by decide +kernel) (ga_cons (ge_var 0) (ga_cons (ge_gref T.m_Meter) (ga_nil))))) (gss_one (gs_ret (ge_op op_addA ro_addA (ge_op op_addA ro_addA (ge_op op_addA ro_addA (ge_op op_addA ro_addA (ge_op op_addA ro_addA (ge_str) (ge_never)) (ge_str)) (ge_never)) (ge_str)) (ge_callTy call_strFl rc_strFl T.n_str (by decide +kernel) (ga_cons (ge_never) (ga_nil)))))) (gss_nil))
    (gss_cons (gs_if (gt_tru tru_ok rt_tru (ge_callB call_isi (rc_isi T.own T.kit) T.n_isinstance (by decide +kernel) (ga_cons (ge_var 0) (ga_cons (ge_gref T.m_Net) (ga_nil))))) (gss_one (gs_ret (ge_op op_addA ro_addA (ge_str) (ge_never)))) (gss_nil))
    (gss_one (gs_ret (ge_ifExp (gt_tru tru_ok rt_tru (ge_callB call_isi (rc_isi T.own T.kit) T.n_isinstance (by decide +kernel) (ga_cons (ge_var 0) (ga_cons (ge_gref T.m_Sum) (ga_nil))))) (ge_op op_addA ro_addA (ge_str) (ge_never)) (ge_callB (call_repr2 (h := true) hgd0 hr) rc_repr2 T.n_repr (by decide +kernel) (ga_cons (ge_var 0) (ga_nil))))))))
/-! ### _law_said -/
abbrev s_said_k10 : Stmt := top 54
theorem sc_said_k10 : FnScope ["_law_e", "_law_sorts", "_law_spot"] ["_law_e"] (defScope s_said_k10) := ⟨rfl, rfl, rfl, by decide +kernel, rfl, by decide +kernel, by decide +kernel⟩
theorem ok_said_k10 {P : Program} {w : World} {K : PySem.W.Frag} {mg : Str → Option Value} {base : Heap} {A : Ad} {f : Addr} {fd : FuncData} {dfs : List V} {kfs : List (Str × V)} (T : Txt K mg A) (F : FunD K "_law_said" "_law_said" (defArgs s_said_k10) (defBody s_said_k10) (defScope s_said_k10) dfs kfs f fd) (c_seen_k10_h : Fc P w K mg base ⟨true, false, true⟩ "_law_seen" 1 1 (G_seen_k10_h A)) :
    FnE true P w K mg base 2 f fd ["_law_e"] (fun a C d => spG K 1 (G_said_k10 A a C d)) := by
  rw [D_said_k10]
  refine fn_E F sc_said_k10 (fun cdv Ar outer s H a C d oe hgd hr hz hf => gss_wish fun hC => ?_)
  have hgd0 := hgd rfl
  exact gss_cons (gs_set 1 sc_said_k10.nd (ge_lst (ga_cons (ge_callB (call_isG (T.xc C hC) (List.mem_cons_self ..) hz hf) (rc_isX (tbX_ok T.xkit)) T.n_isinstance (by decide +kernel) (ga_cons (ge_var 0) (ga_cons (ge_gref T.m_InvalidPipes) (ga_nil)))) (ga_cons (ge_callB (call_isG (T.xc C hC) (List.mem_cons_self ..) hz hf) (rc_isX (tbX_ok T.xkit)) T.n_isinstance (by decide +kernel) (ga_cons (ge_var 0) (ga_cons (ge_gref T.m_InvalidMeters) (ga_nil)))) (ga_cons (ge_callB (call_isG (T.xc C hC) (List.mem_cons_self ..) hz hf) (rc_isX (tbX_ok T.xkit)) T.n_isinstance (by decide +kernel) (ga_cons (ge_var 0) (ga_cons (ge_gref T.m_InvalidName) (ga_nil)))) (ga_nil))))))
    (gss_cons (gs_set 1 sc_said_k10.nd (ge_op op_addA ro_addA (ge_var 1) (ge_lst (ga_cons (ge_callB (call_isG (T.xc C hC) (List.mem_cons_self ..) hz hf) (rc_isX (tbX_ok T.xkit)) T.n_isinstance (by decide +kernel) (ga_cons (ge_var 0) (ga_cons (ge_gref T.m_InvalidEnd) (ga_nil)))) (ga_cons (ge_callB (call_isG (T.xc C hC) (List.mem_cons_self ..) hz hf) (rc_isX (tbX_ok T.xkit)) T.n_isinstance (by decide +kernel) (ga_cons (ge_var 0) (ga_cons (ge_gref T.m_InvalidFlag) (ga_nil)))) (ga_cons (ge_callB (call_isG (T.xc C hC) (List.mem_cons_self ..) hz hf) (rc_isX (tbX_ok T.xkit)) T.n_isinstance (by decide +kernel) (ga_cons (ge_var 0) (ga_cons (ge_gref T.m_InvalidText) (ga_nil)))) (ga_nil)))))))
    (gss_cons (gs_set 1 sc_said_k10.nd (ge_op op_addA ro_addA (ge_var 1) (ge_lst (ga_cons (ge_callB (call_isG (T.xc C hC) (List.mem_cons_self ..) hz hf) (rc_isX (tbX_ok T.xkit)) T.n_isinstance (by decide +kernel) (ga_cons (ge_var 0) (ga_cons (ge_gref T.m_NotAMeter) (ga_nil)))) (ga_cons (ge_callB (call_isG (T.xc C hC) (List.mem_cons_self ..) hz hf) (rc_isX (tbX_ok T.xkit)) T.n_isinstance (by decide +kernel) (ga_cons (ge_var 0) (ga_cons (ge_gref T.m_UnknownName) (ga_nil)))) (ga_nil))))))
    (gss_cons (gs_if (GW.gt (gw_or (gt_cmp (op_neAH (h := true) hr) ro_neA (ge_count (ge_var 1) (ge_bl)) (ge_int) (nomark _)) (gw_or (gt_cmp (op_neAH (h := true) hr) ro_neA (ge_callB (call_isG (T.xc C hC) (List.mem_cons_self ..) hz hf) (rc_isX (tbX_ok T.xkit)) T.n_isinstance (by decide +kernel) (ga_cons (ge_var 0) (ga_cons (ge_gref T.m_BadName) (ga_nil)))) (ge_ix ix_seq ro_ix (ge_var 1) (ge_int)) (nomark _)) (gw_or1 (gt_cmp (op_eqAH (h := true) hr) ro_eqA (ge_callB (call_isG (T.xc C hC) (List.mem_cons_self ..) hz hf) (rc_isX (tbX_ok T.xkit)) T.n_isinstance (by decide +kernel) (ga_cons (ge_var 0) (ga_cons (ge_gref T.m_BadValue) (ga_nil)))) (ge_ix ix_seq ro_ix (ge_var 1) (ge_int)) (nomark _)))))) (gss_one (gs_ret (ge_lst (ga_cons (ge_str) (ga_nil))))) (gss_nil))
    (gss_cons (gs_set 2 sc_said_k10.nd (ge_index (ge_var 1) (ge_bl)))
    (gss_one (gs_ret (ge_lst (ga_cons (ge_var 2) (ga_cons (ge_ifExp (gt_cmp op_lt ro_lt (ge_var 2) (ge_int) (nomark _)) (ge_callB (call_repr2 (h := true) hgd0 hr) rc_repr2 T.n_repr (by decide +kernel) (ga_cons (ge_xg (excC_xf (T.xc C hC)) (T.xno_index C hC) (List.mem_cons_self ..) hz hf (ge_var 0)) (ga_nil))) (ge_callF (h := true) tkF c_seen_k10_h hgd hr (ga_cons (ge_xg (excC_xf (T.xc C hC)) (T.xno_given C hC) (List.mem_cons_self ..) hz hf (ge_var 0)) (ga_nil)))) (ga_nil))))))))))
/-! ### _law_caught -/
abbrev s_caught_k10 : Stmt := top 55
theorem sc_caught_k10 : FnScope ["_law_act", "_law_told", "_law_e"] ["_law_act"] (defScope s_caught_k10) := ⟨rfl, rfl, rfl, by decide +kernel, rfl, by decide +kernel, by decide +kernel⟩
theorem ok_caught_k10 {P : Program} {w : World} {K : PySem.W.Frag} {mg : Str → Option Value} {base : Heap} {A : Ad} {f : Addr} {fd : FuncData} {dfs : List V} {kfs : List (Str × V)} (T : Txt K mg A) (F : FunD K "_law_caught" "_law_caught" (defArgs s_caught_k10) (defBody s_caught_k10) (defScope s_caught_k10) dfs kfs f fd) (b : Binds K fd ["_law_act"] []) (kp : PySem.W.keepIn K (.ref f) = true) (hm : mg "_law_caught" = some (.ref f)) (c_seen_k10 : Fc P w K mg base ⟨true, nn, false⟩ "_law_seen" 3 1 (G_seen_k10 A)) (c_said_k10 : Fe P w K mg base true "_law_said" 2 1 (G_said_k10 A)) :
    Cc P w K mg base "_law_caught" 3 (errL A errNames) 3 1 2 (T_caught_k10 A) (S_caught_k10 A) := by
  obtain ⟨oc, od, dV, kV, doc, pm, an, cdv, ct, osl, rfl, lk, hcd, _, _⟩ := F.ex
  refine ⟨"_law_act", f, ["_law_act", "_law_told", "_law_e"], _, _, _, dV, kV, doc, pm, cdv, ct, oc, an, od, osl, lk, hcd, b, sc_caught_k10, rfl, Or.inl rfl, by decide, by decide, kp, hm, ?_⟩
  exact cc_body (i := 1) (j := 2) sc_caught_k10.nd rfl (Or.inl rfl) rfl T.xl (fun _ _ _ _ => rfl) (fun _ _ _ _ => ⟨rfl, by decide, .inl T.m_BadValue⟩) (fun _ _ _ _ => ⟨rfl, by decide, .inl T.m_BadName⟩) (fun _ _ _ _ => ⟨rfl, by decide, .inl T.m_NoAnswer⟩) (fun _ _ _ _ => rfl) (fun _ _ _ _ => rfl)
    (fun _ _ _ _ hg hr => ge_lst (ga_cons (ge_str) (ga_cons (ge_callF (h := false) tkF c_seen_k10 (fun _ => hg) hr (ga_cons (ge_var 1) (ga_nil))) (ga_nil))))
    (fun _ _ _ _ a C d _ _ hg hr hz hf => gss_one (gs_ret (ge_callE c_said_k10 (fun _ => hg) (L2H.roomH_mark hr _) rfl (List.mem_cons_self ..) hz hf (ga_cons (ge_var 2) (ga_nil)))))
/-! ### is_name -/
abbrev s_is_name : Stmt := top 24
theorem sc_is_name : FnScope ["value", "sign"] ["value"] (defScope s_is_name) := ⟨rfl, rfl, rfl, by decide +kernel, rfl, by decide +kernel, by decide +kernel⟩
theorem ok_is_name {nn : Bool} {P : Program} {w : World} {K : PySem.W.Frag} {mg : Str → Option Value} {base : Heap} {A : Ad} {f : Addr} {fd : FuncData} {dfs : List V} {kfs : List (Str × V)} (T : Txt K mg A) (F : FunD K "is_name" "is_name" (defArgs s_is_name) (defBody s_is_name) (defScope s_is_name) dfs kfs f fd)  :
    FnX ⟨false, nn, false⟩ P w K mg base 1 f fd ["value"] (spG K 1 (G_is_name A)) := by
  rw [D_is_name]
  refine fn_G F sc_is_name (fun cdv Ar outer s H E pp hgd hr tk hp => ?_)
  replace hr : Room 0 (Ar.deeper (PyProof.Rows.envOfC "is_name" (defScope s_is_name) s.heap.objs.size f cdv)) := hr
  exact gss_cons (gs_if (GW.gt (gw_or (gt_not (gt_tru tru_ok rt_tru (ge_callB call_isi (rc_isi T.own T.kit) T.n_isinstance (by decide +kernel) (ga_cons (ge_var 0) (ga_cons (ge_ty T.n_str (by decide +kernel)) (ga_nil)))))) (gw_or (gt_not (gt_chain op_le op_le ro_le ro_le (ge_int) (ge_callB call_len rc_len T.n_len (by decide +kernel) (ga_cons (ge_var 0) (ga_nil))) (ge_gint T.g_LONGEST_NAME))) (gw_or1 (gt_cmp op_notIn_sign ro_notInS (ge_ix ix_seq ro_ix (ge_var 0) (ge_int)) (ge_gstr T.g_LETTERS) (by rfl)))))) (gss_one (gs_ret (ge_bl))) (gss_nil))
    (gss_one (gs_ret (ge_callB (cr_all rfl) rc_all T.n_all (by decide +kernel) (ga_cons (ge_lc (own := [("sign", 1)]) rfl sc_is_name.nd (gi_str (ge_var 0)) (blkOk_by (by rfl)) (fun _ _ _ _ _ => gg_name 1 sc_is_name.nd) (fun _ _ _ _ _ => gts_nil) (fun _ _ _ _ _ => ge_or (ge_cmp op_in_sign ro_inS (ge_var 1) (ge_gstr T.g_LETTERS) (by rfl)) (ge_one (ge_cmp op_in_sign ro_inS (ge_var 1) (ge_gstr T.g_DIGITS) (by rfl))))) (ga_nil)))))
/-! ### check_name -/
abbrev s_check_name : Stmt := top 25
theorem sc_check_name : FnScope ["value"] ["value"] (defScope s_check_name) := ⟨rfl, rfl, rfl, by decide +kernel, rfl, by decide +kernel, by decide +kernel⟩
theorem ok_check_name {nn : Bool} {P : Program} {w : World} {K : PySem.W.Frag} {mg : Str → Option Value} {base : Heap} {A : Ad} {f : Addr} {fd : FuncData} {dfs : List V} {kfs : List (Str × V)} (T : Txt K mg A) (F : FunD K "check_name" "check_name" (defArgs s_check_name) (defBody s_check_name) (defScope s_check_name) dfs kfs f fd) (c_is_name : Fc P w K mg base ⟨false, nn, false⟩ "is_name" 1 1 (G_is_name A)) (x_InvalidName : Xc P w K mg base "InvalidName" (A.c "InvalidName") "given") :
    FnX ⟨false, nn, false⟩ P w K mg base 3 f fd ["value"] (spG K 1 (G_check_name A)) := by
  rw [D_check_name]
  refine fn_G F sc_check_name (fun cdv Ar outer s H E pp hgd hr tk hp => ?_)
  replace hr : Room 2 (Ar.deeper (PyProof.Rows.envOfC "check_name" (defScope s_check_name) s.heap.objs.size f cdv)) := hr
  exact gss_one (gs_if (gt_not (gt_tru tru_ok rt_tru (ge_callF (h := false) tk c_is_name nogd hr (ga_cons (ge_var 0) (ga_nil))))) (gss_one (gs_raise rfl tk x_InvalidName hr (ge_var 0))) (gss_nil))
/-! ### Meter.__init__ -/
abbrev s_Meter_init : Stmt := inClass (top 41) 0
theorem sc_Meter_init : FnScope ["self", "name", "at", "sealed"] ["self", "name", "at", "sealed"] (defScope s_Meter_init) := ⟨rfl, rfl, rfl, by decide +kernel, rfl, by decide +kernel, by decide +kernel⟩
theorem ok_Meter_init {nn : Bool} {P : Program} {w : World} {K : PySem.W.Frag} {mg : Str → Option Value} {base : Heap} {A : Ad} {f : Addr} {fd : FuncData} {dfs : List V} {kfs : List (Str × V)} (T : Txt K mg A) (F : FunD K "__init__" "Meter.__init__" (defArgs s_Meter_init) (defBody s_Meter_init) (defScope s_Meter_init) dfs kfs f fd) (c_check_name : Fc P w K mg base ⟨false, nn, false⟩ "check_name" 3 1 (G_check_name A)) (x_InvalidFlag : Xc P w K mg base "InvalidFlag" (A.c "InvalidFlag") "given") :
    FnX ⟨false, nn, false⟩ P w K mg base 4 f fd ["self", "name", "at", "sealed"] (spG K 4 (G_Meter_init A)) := by
  rw [D_Meter_init]
  refine fn_G F sc_Meter_init (fun cdv Ar outer s H E pp hgd hr tk hp => ?_)
  replace hr : Room 3 (Ar.deeper (PyProof.Rows.envOfC "Meter.__init__" (defScope s_Meter_init) s.heap.objs.size f cdv)) := hr
  exact gss_cons (gs_expr (ge_callF (h := false) tk c_check_name nogd hr (ga_cons (ge_var 1) (ga_nil))))
    (gss_cons (gs_expr (ge_callF (h := false) tk c_check_name nogd hr (ga_cons (ge_var 2) (ga_nil))))
    (gss_cons (gs_if (gt_not (gt_tru tru_ok rt_tru (ge_callB call_isi (rc_isi T.own T.kit) T.n_isinstance (by decide +kernel) (ga_cons (ge_var 3) (ga_cons (ge_ty T.n_bool (by decide +kernel)) (ga_nil)))))) (gss_one (gs_raise rfl tk x_InvalidFlag hr (ge_var 3))) (gss_nil))
    (gss_one (gs_fld T.k_Meter.cl T.no_Meter_kept (ge_var 0) (ge_tup (ga_cons (ge_var 1) (ga_cons (ge_var 2) (ga_cons (ge_var 3) (ga_nil)))))))))
/-! ### _law_well -/
abbrev s_well_k01 : Stmt := top 48
theorem sc_well_k01 : FnScope ["_law_cells", "_law_k", "_law_cell", "_law_other"] ["_law_cells", "_law_k"] (defScope s_well_k01) := ⟨rfl, rfl, rfl, by decide +kernel, rfl, by decide +kernel, by decide +kernel⟩
theorem ok_well_k01 {P : Program} {w : World} {K : PySem.W.Frag} {mg : Str → Option Value} {base : Heap} {A : Ad} {f : Addr} {fd : FuncData} {dfs : List V} {kfs : List (Str × V)} (T : Txt K mg A) (F : FunD K "_law_well" "_law_well" (defArgs s_well_k01) (defBody s_well_k01) (defScope s_well_k01) dfs kfs f fd)  :
    FnX ⟨false, false, false⟩ P w K mg base 1 f fd ["_law_cells", "_law_k"] (spG K 2 (G_well_k01 A)) := by
  rw [D_well_k01]
  refine fn_N F sc_well_k01 (fun cdv Ar outer s H E pp hgd hr tk hp => ?_)
  replace hr : Room 0 (Ar.deeper (PyProof.Rows.envOfC "_law_well" (defScope s_well_k01) s.heap.objs.size f cdv)) := hr
  exact gss_cons (gs_set 2 sc_well_k01.nd (ge_ifExp (gt_cmp op_lt ro_lt (ge_var 1) (ge_callB call_len rc_len T.n_len (by decide +kernel) (ga_cons (ge_var 0) (ga_nil))) (nomark _)) (ge_ix ix_seq ro_ix (ge_var 0) (ge_var 1)) (ge_op op_mul ro_mul (ge_op op_mul ro_mul (ge_int) (ge_op op_addA ro_addA (ge_var 1) (ge_int))) (ge_op op_addA ro_addA (ge_var 1) (ge_int)))))
    (gss_cons (gs_if (gt_cmp op_ge ro_ge (ge_var 1) (ge_callB call_len rc_len T.n_len (by decide +kernel) (ga_cons (ge_var 0) (ga_nil))) (nomark _)) (gss_one (gs_for hp rfl (gi_list (ge_var 0)) (gg_name 3 sc_well_k01.nd) (gss_one (gs_set 2 sc_well_k01.nd (ge_op op_mod ro_mod (ge_callTy call_int1 rc_int1 T.n_int (by decide +kernel) (ga_cons (ge_op op_addA ro_addA (ge_op op_mul ro_mul (ge_var 2) (ge_int)) (ge_var 3)) (ga_nil))) (ge_int)))))) (gss_nil))
    (gss_one (gs_ret (ge_new (ga_cons (ge_op op_mod ro_mod (ge_callTy call_int1 rc_int1 T.n_int (by decide +kernel) (ga_cons (ge_var 2) (ga_nil))) (ge_int)) (ga_cons (ge_ifExp (gt_cmp op_ge ro_ge (ge_callB call_abs rc_abs T.n_abs (by decide +kernel) (ga_cons (ge_var 2) (ga_nil))) (ge_op op_pow ro_pow (ge_int) (ge_int)) (nomark _)) (ge_callB call_abs rc_abs T.n_abs (by decide +kernel) (ga_cons (ge_var 2) (ga_nil))) (ge_int)) (ga_cons (ge_int) (ga_nil))))))))
/-! ### _law_dip -/
abbrev s_dip_k01 : Stmt := top 49
theorem sc_dip_k01 : FnScope ["_law_well_here", "_law_many", "_law_digit", "_law_mixed"] ["_law_well_here", "_law_many"] (defScope s_dip_k01) := ⟨rfl, rfl, rfl, by decide +kernel, rfl, by decide +kernel, by decide +kernel⟩
theorem ok_dip_k01 {P : Program} {w : World} {K : PySem.W.Frag} {mg : Str → Option Value} {base : Heap} {A : Ad} {f : Addr} {fd : FuncData} {dfs : List V} {kfs : List (Str × V)} (T : Txt K mg A) (F : FunD K "_law_dip" "_law_dip" (defArgs s_dip_k01) (defBody s_dip_k01) (defScope s_dip_k01) dfs kfs f fd)  :
    FnX ⟨false, false, false⟩ P w K mg base 1 f fd ["_law_well_here", "_law_many"] (spG K 2 (G_dip_k01 A)) := by
  rw [D_dip_k01]
  refine fn_G F sc_dip_k01 (fun cdv Ar outer s H E pp hgd hr tk hp => ?_)
  replace hr : Room 0 (Ar.deeper (PyProof.Rows.envOfC "_law_dip" (defScope s_dip_k01) s.heap.objs.size f cdv)) := hr
  exact gss_cons (gs_setIx (ge_op op_addA ro_addA (ge_ix ix_seq ro_ix (ge_var 0) (ge_int)) (ge_int)) (ge_var 0) (ge_int))
    (gss_cons (gs_if (gt_cmp op_gt ro_gt (ge_ix ix_seq ro_ix (ge_var 0) (ge_int)) (ge_int) (nomark _)) (gss_cons (gs_pairSet 2 rfl sc_dip_k01.nd (ge_callB call_divmodW rc_divmod T.n_divmod (by decide +kernel) (ga_cons (ge_ix ix_seq ro_ix (ge_var 0) (ge_int)) (ga_cons (ge_var 1) (ga_nil)))) (ge_var 0) (ge_int))
    (gss_one (gs_ret (ge_var 2)))) (gss_nil))
    (gss_cons (gs_setIx (ge_op op_mod ro_mod (ge_callTy call_int1 rc_int1 T.n_int (by decide +kernel) (ga_cons (ge_op op_addA ro_addA (ge_op op_addA ro_addA (ge_op op_mul ro_mul (ge_ix ix_seq ro_ix (ge_var 0) (ge_int)) (ge_int)) (ge_op op_mul ro_mul (ge_op op_mul ro_mul (ge_int) (ge_ix ix_seq ro_ix (ge_var 0) (ge_int))) (ge_ix ix_seq ro_ix (ge_var 0) (ge_int)))) (ge_int)) (ga_nil))) (ge_int)) (ge_var 0) (ge_int))
    (gss_cons (gs_set 3 sc_dip_k01.nd (ge_op op_mod ro_mod (ge_callTy call_int1 rc_int1 T.n_int (by decide +kernel) (ga_cons (ge_op op_mul ro_mul (ge_ix ix_seq ro_ix (ge_var 0) (ge_int)) (ge_op op_addA ro_addA (ge_op op_mod ro_mod (ge_callTy call_int1 rc_int1 T.n_int (by decide +kernel) (ga_cons (ge_ix ix_seq ro_ix (ge_var 0) (ge_int)) (ga_nil))) (ge_int)) (ge_int))) (ga_nil))) (ge_int)))
    (gss_one (gs_ret (ge_op op_mod ro_mod (ge_callTy call_int1 rc_int1 T.n_int (by decide +kernel) (ga_cons (ge_op op_fdiv ro_fdiv (ge_var 3) (ge_int)) (ga_nil))) (ge_var 1)))))))
/-! ### _law_odd -/
abbrev s_odd_k04 : Stmt := top 52
theorem sc_odd_k04 : FnScope ["_law_well_here", "_law_spot", "_law_some"] ["_law_well_here"] (defScope s_odd_k04) := ⟨rfl, rfl, rfl, by decide +kernel, rfl, by decide +kernel, by decide +kernel⟩
theorem ok_odd_k04 {P : Program} {w : World} {K : PySem.W.Frag} {mg : Str → Option Value} {base : Heap} {A : Ad} {f : Addr} {fd : FuncData} {dfs : List V} {kfs : List (Str × V)} (T : Txt K mg A) (F : FunD K "_law_odd" "_law_odd" (defArgs s_odd_k04) (defBody s_odd_k04) (defScope s_odd_k04) dfs kfs f fd) (c_dip_k01 : Fc P w K mg base ⟨false, false, false⟩ "_law_dip" 1 2 (G_dip_k01 A)) :
    FnX ⟨false, false, false⟩ P w K mg base 2 f fd ["_law_well_here"] (spG K 1 (G_odd_k04 A)) := by
  rw [D_odd_k04]
  refine fn_G F sc_odd_k04 (fun cdv Ar outer s H E pp hgd hr tk hp => ?_)
  replace hr : Room 1 (Ar.deeper (PyProof.Rows.envOfC "_law_odd" (defScope s_odd_k04) s.heap.objs.size f cdv)) := hr
  exact gss_cons (gs_set 1 sc_odd_k04.nd (ge_callF (h := false) tk c_dip_k01 nogd hr (ga_cons (ge_var 0) (ga_cons (ge_int) (ga_nil)))))
    (gss_cons (gs_set 2 sc_odd_k04.nd (ge_lst (ga_cons (ge_non) (ga_cons (ge_bl) (ga_cons (ge_bl) (ga_cons (ge_int) (ga_cons (ge_int) (ga_cons (ge_un un_neg ru_neg (ge_int)) (ga_cons (ge_int) (ga_cons (ge_op op_pow ro_pow (ge_int) (ge_int)) (ga_cons (ge_str) (ga_cons (ge_str) (ga_cons (ge_str) (ga_cons (ge_str) (ga_cons (ge_str) (ga_cons (ge_str) (ga_cons (ge_tup (ga_nil)) (ga_cons (ge_tup (ga_cons (ge_str) (ga_nil))) (ga_cons (ge_lst (ga_nil)) (ga_cons (ge_lst (ga_cons (ge_str) (ga_nil))) (ga_nil)))))))))))))))))))))
    (gss_one (gs_ret (ge_ix ix_seq ro_ix (ge_op op_addA ro_addA (ge_var 2) (ge_lst (ga_cons (ge_dic0) (ga_cons (ge_disp (gp_cons (ge_str) (ge_int) (gp_nil))) (ga_nil))))) (ge_var 1)))))
/-! ### _law_name -/
abbrev s_name_k02 : Stmt := top 50
theorem sc_name_k02 : FnScope ["_law_well_here", "_law_signs", "_law_line", "_law_turn"] ["_law_well_here"] (defScope s_name_k02) := ⟨rfl, rfl, rfl, by decide +kernel, rfl, by decide +kernel, by decide +kernel⟩
theorem ok_name_k02 {P : Program} {w : World} {K : PySem.W.Frag} {mg : Str → Option Value} {base : Heap} {A : Ad} {f : Addr} {fd : FuncData} {dfs : List V} {kfs : List (Str × V)} (T : Txt K mg A) (F : FunD K "_law_name" "_law_name" (defArgs s_name_k02) (defBody s_name_k02) (defScope s_name_k02) dfs kfs f fd) (c_dip_k01 : Fc P w K mg base ⟨false, false, false⟩ "_law_dip" 1 2 (G_dip_k01 A)) :
    FnX ⟨false, false, false⟩ P w K mg base 2 f fd ["_law_well_here"] (spG K 1 (G_name_k02 A)) := by
  rw [D_name_k02]
  refine fn_G F sc_name_k02 (fun cdv Ar outer s H E pp hgd hr tk hp => ?_)
  replace hr : Room 1 (Ar.deeper (PyProof.Rows.envOfC "_law_name" (defScope s_name_k02) s.heap.objs.size f cdv)) := hr
  exact gss_cons (gs_if (gt_cmp (op_eqA hr) ro_eqA (ge_callF (h := false) tk c_dip_k01 nogd hr (ga_cons (ge_var 0) (ga_cons (ge_int) (ga_nil)))) (ge_int) (nomark _)) (gss_one (gs_ret (ge_ix ix_seq ro_ix (ge_lst (ga_cons (ge_str) (ga_cons (ge_str) (ga_cons (ge_str) (ga_cons (ge_str) (ga_cons (ge_str) (ga_cons (ge_str) (ga_cons (ge_str) (ga_cons (ge_str) (ga_nil)))))))))) (ge_callF (h := false) tk c_dip_k01 nogd hr (ga_cons (ge_var 0) (ga_cons (ge_int) (ga_nil))))))) (gss_nil))
    (gss_cons (gs_set 1 sc_name_k02.nd (ge_str))
    (gss_cons (gs_set 2 sc_name_k02.nd (ge_ix ix_seq ro_ix (ge_var 1) (ge_callF (h := false) tk c_dip_k01 nogd hr (ga_cons (ge_var 0) (ga_cons (ge_int) (ga_nil))))))
    (gss_cons (gs_for hp rfl (gi_range1 T.n_range (ga_cons (ge_callF (h := false) tk c_dip_k01 nogd hr (ga_cons (ge_var 0) (ga_cons (ge_int) (ga_nil)))) (ga_nil))) (gg_name 3 sc_name_k02.nd) (gss_one (gs_set 2 sc_name_k02.nd (ge_op op_addA ro_addA (ge_var 2) (ge_ix ix_seq ro_ix (ge_var 1) (ge_callF (h := false) tk c_dip_k01 nogd hr (ga_cons (ge_var 0) (ga_cons (ge_int) (ga_nil)))))))))
    (gss_one (gs_ret (ge_var 2))))))
/-! ### _law_sign -/
abbrev s_sign_k04 : Stmt := top 51
theorem sc_sign_k04 : FnScope ["_law_well_here", "_law_often", "_law_signs"] ["_law_well_here", "_law_often"] (defScope s_sign_k04) := ⟨rfl, rfl, rfl, by decide +kernel, rfl, by decide +kernel, by decide +kernel⟩
theorem ok_sign_k04 {P : Program} {w : World} {K : PySem.W.Frag} {mg : Str → Option Value} {base : Heap} {A : Ad} {f : Addr} {fd : FuncData} {dfs : List V} {kfs : List (Str × V)} (T : Txt K mg A) (F : FunD K "_law_sign" "_law_sign" (defArgs s_sign_k04) (defBody s_sign_k04) (defScope s_sign_k04) dfs kfs f fd) (c_dip_k01 : Fc P w K mg base ⟨false, false, false⟩ "_law_dip" 1 2 (G_dip_k01 A)) :
    FnX ⟨false, false, false⟩ P w K mg base 2 f fd ["_law_well_here", "_law_often"] (spG K 2 (G_sign_k04 A)) := by
  rw [D_sign_k04]
  refine fn_G F sc_sign_k04 (fun cdv Ar outer s H E pp hgd hr tk hp => ?_)
  replace hr : Room 1 (Ar.deeper (PyProof.Rows.envOfC "_law_sign" (defScope s_sign_k04) s.heap.objs.size f cdv)) := hr
  exact gss_cons (gs_if (gt_cmp (op_eqA hr) ro_eqA (ge_callF (h := false) tk c_dip_k01 nogd hr (ga_cons (ge_var 0) (ga_cons (ge_int) (ga_nil)))) (ge_int) (nomark _)) (gss_one (gs_ret (ge_ix ix_seq ro_ix (ge_var 1) (ge_callF (h := false) tk c_dip_k01 nogd hr (ga_cons (ge_var 0) (ga_cons (ge_callB call_len rc_len T.n_len (by decide +kernel) (ga_cons (ge_var 1) (ga_nil))) (ga_nil))))))) (gss_nil))
    (gss_cons (gs_set 2 sc_sign_k04.nd (ge_str))
    (gss_cons (gs_set 2 sc_sign_k04.nd (ge_op op_addA ro_addA (ge_var 2) (ge_str)))
    (gss_one (gs_ret (ge_ix ix_seq ro_ix (ge_var 2) (ge_callF (h := false) tk c_dip_k01 nogd hr (ga_cons (ge_var 0) (ga_cons (ge_callB call_len rc_len T.n_len (by decide +kernel) (ga_cons (ge_var 2) (ga_nil))) (ga_nil)))))))))
/-! ### _law_bent_name -/
abbrev s_bent_name_k10 : Stmt := top 57
theorem sc_bent_name_k10 : FnScope ["_law_well_here", "_law_title", "_law_spot", "_law_gap"] ["_law_well_here"] (defScope s_bent_name_k10) := ⟨rfl, rfl, rfl, by decide +kernel, rfl, by decide +kernel, by decide +kernel⟩
theorem ok_bent_name_k10 {P : Program} {w : World} {K : PySem.W.Frag} {mg : Str → Option Value} {base : Heap} {A : Ad} {f : Addr} {fd : FuncData} {dfs : List V} {kfs : List (Str × V)} (T : Txt K mg A) (F : FunD K "_law_bent_name" "_law_bent_name" (defArgs s_bent_name_k10) (defBody s_bent_name_k10) (defScope s_bent_name_k10) dfs kfs f fd) (c_dip_k01 : Fc P w K mg base ⟨false, false, false⟩ "_law_dip" 1 2 (G_dip_k01 A)) (c_name_k02 : Fc P w K mg base ⟨false, false, false⟩ "_law_name" 2 1 (G_name_k02 A)) (c_sign_k04 : Fc P w K mg base ⟨false, false, false⟩ "_law_sign" 2 2 (G_sign_k04 A)) :
    FnX ⟨false, false, false⟩ P w K mg base 3 f fd ["_law_well_here"] (spG K 1 (G_bent_name_k10 A)) := by
  rw [D_bent_name_k10]
  refine fn_G F sc_bent_name_k10 (fun cdv Ar outer s H E pp hgd hr tk hp => ?_)
  replace hr : Room 2 (Ar.deeper (PyProof.Rows.envOfC "_law_bent_name" (defScope s_bent_name_k10) s.heap.objs.size f cdv)) := hr
  exact gss_cons (gs_par3 1 2 3 rfl sc_bent_name_k10.nd (ga_cons (ge_callF (h := false) tk c_name_k02 nogd hr (ga_cons (ge_var 0) (ga_nil))) (ga_cons (ge_callF (h := false) tk c_dip_k01 nogd hr (ga_cons (ge_var 0) (ga_cons (ge_int) (ga_nil)))) (ga_cons (ge_callF (h := false) tk c_dip_k01 nogd hr (ga_cons (ge_var 0) (ga_cons (ge_int) (ga_nil)))) (ga_nil)))))
    (gss_one (gs_ret (ge_op op_addA ro_addA (ge_op op_addA ro_addA (ge_slice sl_A rsl_A (ge_var 1) (go_none) (go_some (ge_var 2))) (ge_callF (h := false) tk c_sign_k04 nogd hr (ga_cons (ge_var 0) (ga_cons (ge_str) (ga_nil))))) (ge_slice sl_A rsl_A (ge_var 1) (go_some (ge_op op_addA ro_addA (ge_var 2) (ge_var 3))) (go_none)))))
/-! ### _law_value -/
abbrev s_value_k10 : Stmt := top 58
theorem sc_value_k10 : FnScope ["_law_well_here", "_law_way"] ["_law_well_here"] (defScope s_value_k10) := ⟨rfl, rfl, rfl, by decide +kernel, rfl, by decide +kernel, by decide +kernel⟩
theorem ok_value_k10 {P : Program} {w : World} {K : PySem.W.Frag} {mg : Str → Option Value} {base : Heap} {A : Ad} {f : Addr} {fd : FuncData} {dfs : List V} {kfs : List (Str × V)} (T : Txt K mg A) (F : FunD K "_law_value" "_law_value" (defArgs s_value_k10) (defBody s_value_k10) (defScope s_value_k10) dfs kfs f fd) (c_dip_k01 : Fc P w K mg base ⟨false, false, false⟩ "_law_dip" 1 2 (G_dip_k01 A)) (c_odd_k04 : Fc P w K mg base ⟨false, false, false⟩ "_law_odd" 2 1 (G_odd_k04 A)) (c_name_k02 : Fc P w K mg base ⟨false, false, false⟩ "_law_name" 2 1 (G_name_k02 A)) (c_bent_name_k10 : Fc P w K mg base ⟨false, false, false⟩ "_law_bent_name" 3 1 (G_bent_name_k10 A)) :
    FnX ⟨false, false, false⟩ P w K mg base 4 f fd ["_law_well_here"] (spG K 1 (G_value_k10 A)) := by
  rw [D_value_k10]
  refine fn_G F sc_value_k10 (fun cdv Ar outer s H E pp hgd hr tk hp => ?_)
  replace hr : Room 3 (Ar.deeper (PyProof.Rows.envOfC "_law_value" (defScope s_value_k10) s.heap.objs.size f cdv)) := hr
  exact gss_cons (gs_set 1 sc_value_k10.nd (ge_callF (h := false) tk c_dip_k01 nogd hr (ga_cons (ge_var 0) (ga_cons (ge_int) (ga_nil)))))
    (gss_cons (gs_if (gt_cmp (op_eqA hr) ro_eqA (ge_var 1) (ge_int) (nomark _)) (gss_one (gs_ret (ge_callF (h := false) tk c_odd_k04 nogd hr (ga_cons (ge_var 0) (ga_nil))))) (gss_nil))
    (gss_one (gs_ret (ge_ifExp (gt_cmp (op_eqA hr) ro_eqA (ge_var 1) (ge_int) (nomark _)) (ge_callF (h := false) tk c_bent_name_k10 nogd hr (ga_cons (ge_var 0) (ga_nil))) (ge_callF (h := false) tk c_name_k02 nogd hr (ga_cons (ge_var 0) (ga_nil)))))))
/-! ### _law_is_name -/
abbrev s_is_name_k04 : Stmt := top 56
theorem sc_is_name_k04 : FnScope ["_law_word", "_law_signs", "_law_sign_here"] ["_law_word"] (defScope s_is_name_k04) := ⟨rfl, rfl, rfl, by decide +kernel, rfl, by decide +kernel, by decide +kernel⟩
theorem ok_is_name_k04 {P : Program} {w : World} {K : PySem.W.Frag} {mg : Str → Option Value} {base : Heap} {A : Ad} {f : Addr} {fd : FuncData} {dfs : List V} {kfs : List (Str × V)} (T : Txt K mg A) (F : FunD K "_law_is_name" "_law_is_name" (defArgs s_is_name_k04) (defBody s_is_name_k04) (defScope s_is_name_k04) dfs kfs f fd)  :
    FnX ⟨false, false, false⟩ P w K mg base 1 f fd ["_law_word"] (spG K 1 (G_is_name_k04 A)) := by
  rw [D_is_name_k04]
  refine fn_G F sc_is_name_k04 (fun cdv Ar outer s H E pp hgd hr tk hp => ?_)
  replace hr : Room 0 (Ar.deeper (PyProof.Rows.envOfC "_law_is_name" (defScope s_is_name_k04) s.heap.objs.size f cdv)) := hr
  exact gss_cons (gs_set 1 sc_is_name_k04.nd (ge_str))
    (gss_one (gs_ret (ge_and (ge_chain op_lt op_lt ro_lt ro_lt (ge_int) (ge_callB call_len rc_len T.n_len (by decide +kernel) (ga_cons (ge_var 0) (ga_nil))) (ge_int)) (ge_and (ge_cmp op_in_sign ro_inS (ge_ix ix_seq ro_ix (ge_var 0) (ge_int)) (ge_slice sl_A rsl_A (ge_var 1) (go_none) (go_some (ge_int))) (by rfl)) (ge_one (ge_callB (cr_all rfl) rc_all T.n_all (by decide +kernel) (ga_cons (ge_lc (own := [("_law_sign_here", 2)]) rfl sc_is_name_k04.nd (gi_str (ge_var 0)) (blkOk_by (by rfl)) (fun _ _ _ _ _ => gg_name 2 sc_is_name_k04.nd) (fun _ _ _ _ _ => gts_nil) (fun _ _ _ _ _ => ge_cmp op_in_sign ro_inS (ge_var 2) (ge_var 1) (by rfl))) (ga_nil))))))))
/-! ### _law_first_bad -/
abbrev s_first_bad_k10 : Stmt := top 59
theorem sc_first_bad_k10 : FnScope ["_law_some", "_law_each"] ["_law_some"] (defScope s_first_bad_k10) := ⟨rfl, rfl, rfl, by decide +kernel, rfl, by decide +kernel, by decide +kernel⟩
theorem ok_first_bad_k10 {P : Program} {w : World} {K : PySem.W.Frag} {mg : Str → Option Value} {base : Heap} {A : Ad} {f : Addr} {fd : FuncData} {dfs : List V} {kfs : List (Str × V)} (T : Txt K mg A) (F : FunD K "_law_first_bad" "_law_first_bad" (defArgs s_first_bad_k10) (defBody s_first_bad_k10) (defScope s_first_bad_k10) dfs kfs f fd) (c_is_name_k04 : Fc P w K mg base ⟨false, false, false⟩ "_law_is_name" 1 1 (G_is_name_k04 A)) :
    FnX ⟨false, false, false⟩ P w K mg base 2 f fd ["_law_some"] (spG K 1 (G_first_bad_k10 A)) := by
  rw [D_first_bad_k10]
  refine fn_G F sc_first_bad_k10 (fun cdv Ar outer s H E pp hgd hr tk hp => ?_)
  replace hr : Room 1 (Ar.deeper (PyProof.Rows.envOfC "_law_first_bad" (defScope s_first_bad_k10) s.heap.objs.size f cdv)) := hr
  exact gss_one (gs_ret (ge_slice sl_A rsl_A (ge_lc (own := [("_law_each", 1)]) rfl sc_first_bad_k10.nd (gi_list (ge_var 0)) (blkOk_by (by rfl)) (fun _ _ _ _ _ => gg_name 1 sc_first_bad_k10.nd) (fun _ _ _ _ _ => gts_one (GW.gt (gw_or (gt_not (gt_tru tru_ok rt_tru (ge_callB call_isi (rc_isi T.own T.kit) T.n_isinstance (by decide +kernel) (ga_cons (ge_var 1) (ga_cons (ge_ty T.n_str (by decide +kernel)) (ga_nil)))))) (gw_or1 (gt_not (gt_tru tru_ok rt_tru (ge_callF (h := false) tkF c_is_name_k04 nogd hr (ga_cons (ge_var 1) (ga_nil))))))))) (fun _ _ _ _ _ => ge_var 1)) (go_none) (go_some (ge_int))))
/-! ### Pipe.__init__ -/
abbrev s_Pipe_init : Stmt := inClass (top 40) 0
theorem sc_Pipe_init : FnScope ["self", "name", "start", "end"] ["self", "name", "start", "end"] (defScope s_Pipe_init) := ⟨rfl, rfl, rfl, by decide +kernel, rfl, by decide +kernel, by decide +kernel⟩
theorem ok_Pipe_init {nn : Bool} {P : Program} {w : World} {K : PySem.W.Frag} {mg : Str → Option Value} {base : Heap} {A : Ad} {f : Addr} {fd : FuncData} {dfs : List V} {kfs : List (Str × V)} (T : Txt K mg A) (F : FunD K "__init__" "Pipe.__init__" (defArgs s_Pipe_init) (defBody s_Pipe_init) (defScope s_Pipe_init) dfs kfs f fd) (c_check_name : Fc P w K mg base ⟨false, nn, false⟩ "check_name" 3 1 (G_check_name A)) (x_InvalidEnd : Xc P w K mg base "InvalidEnd" (A.c "InvalidEnd") "given") :
    FnX ⟨false, nn, false⟩ P w K mg base 4 f fd ["self", "name", "start", "end"] (spG K 4 (G_Pipe_init A)) := by
  rw [D_Pipe_init]
  refine fn_G F sc_Pipe_init (fun cdv Ar outer s H E pp hgd hr tk hp => ?_)
  replace hr : Room 3 (Ar.deeper (PyProof.Rows.envOfC "Pipe.__init__" (defScope s_Pipe_init) s.heap.objs.size f cdv)) := hr
  exact gss_cons (gs_expr (ge_callF (h := false) tk c_check_name nogd hr (ga_cons (ge_var 1) (ga_nil))))
    (gss_cons (gs_expr (ge_callF (h := false) tk c_check_name nogd hr (ga_cons (ge_var 2) (ga_nil))))
    (gss_cons (gs_expr (ge_callF (h := false) tk c_check_name nogd hr (ga_cons (ge_var 3) (ga_nil))))
    (gss_cons (gs_if (gt_cmp (op_eqA hr) ro_eqA (ge_var 3) (ge_var 2) (nomark _)) (gss_one (gs_raise rfl tk x_InvalidEnd hr (ge_var 3))) (gss_nil))
    (gss_one (gs_fld T.k_Pipe.cl T.no_Pipe_kept (ge_var 0) (ge_tup (ga_cons (ge_var 1) (ga_cons (ge_var 2) (ga_cons (ge_var 3) (ga_nil))))))))))
/-! ### _law_pipe_right -/
abbrev s_pipe_right_k10 : Stmt := top 60
theorem sc_pipe_right_k10 : FnScope ["_law_well_here", "_law_one", "_law_two", "_law_three", "_law_bad", "_law_told", "_law_due"] ["_law_well_here"] (defScope s_pipe_right_k10) := ⟨rfl, rfl, rfl, by decide +kernel, rfl, by decide +kernel, by decide +kernel⟩
theorem ok_pipe_right_k10 {P : Program} {w : World} {K : PySem.W.Frag} {mg : Str → Option Value} {base : Heap} {A : Ad} {f : Addr} {fd : FuncData} {dfs : List V} {kfs : List (Str × V)} (T : Txt K mg A) (F : FunD K "_law_pipe_right" "_law_pipe_right" (defArgs s_pipe_right_k10) (defBody s_pipe_right_k10) (defScope s_pipe_right_k10) dfs kfs f fd) (c_seen_k10 : Fc P w K mg base ⟨true, false, false⟩ "_law_seen" 3 1 (G_seen_k10 A)) (c_caught_k10 : Cc P w K mg base "_law_caught" 3 (errL A errNames) 3 1 2 (T_caught_k10 A) (S_caught_k10 A)) (c_dip_k01 : Fc P w K mg base ⟨false, false, false⟩ "_law_dip" 1 2 (G_dip_k01 A)) (c_value_k10 : Fc P w K mg base ⟨false, false, false⟩ "_law_value" 4 1 (G_value_k10 A)) (c_first_bad_k10 : Fc P w K mg base ⟨false, false, false⟩ "_law_first_bad" 2 1 (G_first_bad_k10 A)) (mk_Pipe_0_start_end_name : Mk_ P w K mg base false "Pipe" (A.c "Pipe") 4 4 0 ["start", "end", "name"] (G_Pipe_init A) (perm [2, 0, 1])) (mk_Pipe_3 : Mc P w K mg base false "Pipe" (A.c "Pipe") 4 4 (G_Pipe_init A) []) (t_tab : TabD K base mg f "_law_pipe_right" (A.t "_law_pipe_right")) :
    FnX ⟨true, false, false⟩ P w K mg base 8 f fd ["_law_well_here"] (spG K 1 (G_pipe_right_k10 A)) := by
  rw [D_pipe_right_k10]
  refine fn_GL F sc_pipe_right_k10 (fun cdv Ar outer s H E pp hcdv hgd hr tk hp => ?_)
  replace hr : Room 7 (Ar.deeper (PyProof.Rows.envOfC "_law_pipe_right" (defScope s_pipe_right_k10) s.heap.objs.size f cdv)) := hr
  have hgd0 := hgd rfl
  obtain ⟨cda, rfl, TB⟩ := t_tab cdv hcdv
  exact gss_cons (gs_asg (ge_tup (ga_cons (ge_callF (h := false) tk c_value_k10 nogd hr (ga_cons (ge_var 0) (ga_nil))) (ga_cons (ge_callF (h := false) tk c_value_k10 nogd hr (ga_cons (ge_var 0) (ga_nil))) (ga_cons (ge_callF (h := false) tk c_value_k10 nogd hr (ga_cons (ge_var 0) (ga_nil))) (ga_nil))))) (gg_tup rfl (ggs_cons (gg_name 1 sc_pipe_right_k10.nd) (ggs_cons (gg_name 2 sc_pipe_right_k10.nd) (ggs_cons (gg_name 3 sc_pipe_right_k10.nd) (ggs_nil))))))
    (gss_cons (gs_if (gt_cmp (op_eqA hr) ro_eqA (ge_callF (h := false) tk c_dip_k01 nogd hr (ga_cons (ge_var 0) (ga_cons (ge_int) (ga_nil)))) (ge_int) (nomark _)) (gss_one (gs_set 3 sc_pipe_right_k10.nd (ge_var 2))) (gss_nil))
    (gss_cons (gs_set 4 sc_pipe_right_k10.nd (ge_callF (h := false) tk c_first_bad_k10 nogd hr (ga_cons (ge_lst (ga_cons (ge_var 1) (ga_cons (ge_var 2) (ga_cons (ge_var 3) (ga_nil))))) (ga_nil))))
    (gss_cons (gs_set 5 sc_pipe_right_k10.nd (ge_new (ga_cons (ge_caught c_caught_k10 TB rfl hgd0 hr (LamX.lamS_by (by rfl)) (fun _ _ _ _ _ _ _ hgA hrA tkA => ge_makeF tkA mk_Pipe_3 hrA (ga_cons (ge_var 1) (ga_cons (ge_var 2) (ga_cons (ge_var 3) (ga_nil)))))) (ga_nil))))
    (gss_cons (gs_append (ge_var 5) (ge_caught c_caught_k10 TB rfl hgd0 hr (LamX.lamS_by (by rfl)) (fun _ _ _ _ _ _ _ hgA hrA tkA => ge_makeKF0 (ks := ["start", "end", "name"]) tkA mk_Pipe_0_start_end_name hrA (gk_cons (ge_var 2) (gk_cons (ge_var 3) (gk_cons (ge_var 1) (gk_nil)))))))
    (gss_cons (gs_if (gt_cmp (op_neA hr) ro_neA (ge_var 4) (ge_lst (ga_nil)) (nomark _)) (gss_one (gs_ret (ge_cmp (op_eqA hr) ro_eqA (ge_var 5) (ge_op op_rep ro_repL (ge_lst (ga_cons (ge_lst (ga_cons (ge_int) (ga_cons (ge_callF (h := false) tk c_seen_k10 hgd hr (ga_cons (ge_ix ix_seq ro_ix (ge_var 4) (ge_int)) (ga_nil))) (ga_nil)))) (ga_nil))) (ge_int)) (nomark _)))) (gss_nil))
    (gss_cons (gs_set 6 sc_pipe_right_k10.nd (ge_ifExp (gt_cmp (op_eqA hr) ro_eqA (ge_var 2) (ge_var 3) (nomark _)) (ge_lst (ga_cons (ge_int) (ga_cons (ge_callB (call_repr2 (h := false) hgd0 hr) rc_repr2 T.n_repr (by decide +kernel) (ga_cons (ge_var 3) (ga_nil))) (ga_nil)))) (ge_lst (ga_cons (ge_str) (ga_cons (ge_op op_addA ro_addA (ge_op op_addA ro_addA (ge_op op_addA ro_addA (ge_op op_addA ro_addA (ge_op op_addA ro_addA (ge_str) (ge_var 1)) (ge_str)) (ge_var 2)) (ge_str)) (ge_var 3)) (ga_nil))))))
    (gss_one (gs_ret (ge_cmp (op_eqA hr) ro_eqA (ge_var 5) (ge_lst (ga_cons (ge_var 6) (ga_cons (ge_var 6) (ga_nil)))) (nomark _))))))))))
/-! ### _law_meter_right -/
abbrev s_meter_right_k10 : Stmt := top 61
theorem sc_meter_right_k10 : FnScope ["_law_well_here", "_law_one", "_law_two", "_law_way", "_law_shut", "_law_bad", "_law_told", "_law_due"] ["_law_well_here"] (defScope s_meter_right_k10) := ⟨rfl, rfl, rfl, by decide +kernel, rfl, by decide +kernel, by decide +kernel⟩
theorem ok_meter_right_k10 {P : Program} {w : World} {K : PySem.W.Frag} {mg : Str → Option Value} {base : Heap} {A : Ad} {f : Addr} {fd : FuncData} {dfs : List V} {kfs : List (Str × V)} (T : Txt K mg A) (F : FunD K "_law_meter_right" "_law_meter_right" (defArgs s_meter_right_k10) (defBody s_meter_right_k10) (defScope s_meter_right_k10) dfs kfs f fd) (c_seen_k10 : Fc P w K mg base ⟨true, false, false⟩ "_law_seen" 3 1 (G_seen_k10 A)) (c_caught_k10 : Cc P w K mg base "_law_caught" 3 (errL A errNames) 3 1 2 (T_caught_k10 A) (S_caught_k10 A)) (c_dip_k01 : Fc P w K mg base ⟨false, false, false⟩ "_law_dip" 1 2 (G_dip_k01 A)) (c_odd_k04 : Fc P w K mg base ⟨false, false, false⟩ "_law_odd" 2 1 (G_odd_k04 A)) (c_value_k10 : Fc P w K mg base ⟨false, false, false⟩ "_law_value" 4 1 (G_value_k10 A)) (c_first_bad_k10 : Fc P w K mg base ⟨false, false, false⟩ "_law_first_bad" 2 1 (G_first_bad_k10 A)) (mk_Meter_0_sealed_at_name : Mk_ P w K mg base false "Meter" (A.c "Meter") 4 4 0 ["sealed", "at", "name"] (G_Meter_init A) (perm [2, 1, 0])) (mk_Meter_2_sealed : Mk_ P w K mg base false "Meter" (A.c "Meter") 4 4 2 ["sealed"] (G_Meter_init A) (perm [0])) (t_tab : TabD K base mg f "_law_meter_right" (A.t "_law_meter_right")) :
    FnX ⟨true, false, false⟩ P w K mg base 8 f fd ["_law_well_here"] (spG K 1 (G_meter_right_k10 A)) := by
  rw [D_meter_right_k10]
  refine fn_GL F sc_meter_right_k10 (fun cdv Ar outer s H E pp hcdv hgd hr tk hp => ?_)
  replace hr : Room 7 (Ar.deeper (PyProof.Rows.envOfC "_law_meter_right" (defScope s_meter_right_k10) s.heap.objs.size f cdv)) := hr
  have hgd0 := hgd rfl
  obtain ⟨cda, rfl, TB⟩ := t_tab cdv hcdv
  exact gss_cons (gs_asg (ge_tup (ga_cons (ge_callF (h := false) tk c_value_k10 nogd hr (ga_cons (ge_var 0) (ga_nil))) (ga_cons (ge_callF (h := false) tk c_value_k10 nogd hr (ga_cons (ge_var 0) (ga_nil))) (ga_cons (ge_callF (h := false) tk c_dip_k01 nogd hr (ga_cons (ge_var 0) (ga_cons (ge_int) (ga_nil)))) (ga_nil))))) (gg_tup rfl (ggs_cons (gg_name 1 sc_meter_right_k10.nd) (ggs_cons (gg_name 2 sc_meter_right_k10.nd) (ggs_cons (gg_name 3 sc_meter_right_k10.nd) (ggs_nil))))))
    (gss_cons (gs_set 4 sc_meter_right_k10.nd (ge_ifExp (gt_cmp (op_eqA hr) ro_eqA (ge_var 3) (ge_int) (nomark _)) (ge_callF (h := false) tk c_odd_k04 nogd hr (ga_cons (ge_var 0) (ga_nil))) (ge_ix ix_seq ro_ix (ge_lst (ga_cons (ge_bl) (ga_cons (ge_bl) (ga_nil)))) (ge_callF (h := false) tk c_dip_k01 nogd hr (ga_cons (ge_var 0) (ga_cons (ge_int) (ga_nil)))))))
    (gss_cons (gs_set 5 sc_meter_right_k10.nd (ge_callF (h := false) tk c_first_bad_k10 nogd hr (ga_cons (ge_lst (ga_cons (ge_var 1) (ga_cons (ge_var 2) (ga_nil)))) (ga_nil))))
    (gss_cons (gs_set 6 sc_meter_right_k10.nd (ge_new (ga_cons (ge_caught c_caught_k10 TB rfl hgd0 hr (LamX.lamS_by (by rfl)) (fun _ _ _ _ _ _ _ hgA hrA tkA => ge_makeKF (ks := ["sealed"]) tkA mk_Meter_2_sealed hrA (ga_cons (ge_var 1) (ga_cons (ge_var 2) (ga_nil))) (gk_cons (ge_var 4) (gk_nil)))) (ga_nil))))
    (gss_cons (gs_append (ge_var 6) (ge_caught c_caught_k10 TB rfl hgd0 hr (LamX.lamS_by (by rfl)) (fun _ _ _ _ _ _ _ hgA hrA tkA => ge_makeKF0 (ks := ["sealed", "at", "name"]) tkA mk_Meter_0_sealed_at_name hrA (gk_cons (ge_var 4) (gk_cons (ge_var 2) (gk_cons (ge_var 1) (gk_nil)))))))
    (gss_cons (gs_if (gt_cmp (op_neA hr) ro_neA (ge_var 5) (ge_lst (ga_nil)) (nomark _)) (gss_one (gs_ret (ge_cmp (op_eqA hr) ro_eqA (ge_var 6) (ge_op op_rep ro_repL (ge_lst (ga_cons (ge_lst (ga_cons (ge_int) (ga_cons (ge_callF (h := false) tk c_seen_k10 hgd hr (ga_cons (ge_ix ix_seq ro_ix (ge_var 5) (ge_int)) (ga_nil))) (ga_nil)))) (ga_nil))) (ge_int)) (nomark _)))) (gss_nil))
    (gss_cons (gs_set 7 sc_meter_right_k10.nd (ge_ifExp (gt_tru tru_ok rt_tru (ge_callB call_isi (rc_isi T.own T.kit) T.n_isinstance (by decide +kernel) (ga_cons (ge_var 4) (ga_cons (ge_ty T.n_bool (by decide +kernel)) (ga_nil))))) (ge_lst (ga_cons (ge_str) (ga_cons (ge_op op_addA ro_addA (ge_op op_addA ro_addA (ge_op op_addA ro_addA (ge_op op_addA ro_addA (ge_op op_addA ro_addA (ge_str) (ge_var 1)) (ge_str)) (ge_var 2)) (ge_str)) (ge_callTy call_strFl rc_strFl T.n_str (by decide +kernel) (ga_cons (ge_var 4) (ga_nil)))) (ga_nil)))) (ge_lst (ga_cons (ge_int) (ga_cons (ge_callB (call_repr2 (h := false) hgd0 hr) rc_repr2 T.n_repr (by decide +kernel) (ga_cons (ge_var 4) (ga_nil))) (ga_nil))))))
    (gss_one (gs_ret (ge_cmp (op_eqA hr) ro_eqA (ge_var 6) (ge_lst (ga_cons (ge_var 7) (ga_cons (ge_var 7) (ga_nil)))) (nomark _))))))))))
/-! ### law -/
abbrev s_law_k10 : Stmt := top 62
theorem sc_law_k10 : FnScope ["_law_cells", "_law_k", "_law_well_here", "_law_turn"] ["_law_cells"] (defScope s_law_k10) := ⟨rfl, rfl, rfl, by decide +kernel, rfl, by decide +kernel, by decide +kernel⟩
theorem ok_law_k10 {P : Program} {w : World} {K : PySem.W.Frag} {mg : Str → Option Value} {base : Heap} {A : Ad} {f : Addr} {fd : FuncData} {dfs : List V} {kfs : List (Str × V)} (T : Txt K mg A) (F : FunD K "law" "law" (defArgs s_law_k10) (defBody s_law_k10) (defScope s_law_k10) dfs kfs f fd) (c_caught_k10 : Cc P w K mg base "_law_caught" 3 (errL A errNames) 3 1 2 (T_caught_k10 A) (S_caught_k10 A)) (c_well_k01 : Fc P w K mg base ⟨false, false, false⟩ "_law_well" 1 2 (G_well_k01 A)) (c_pipe_right_k10 : Fc P w K mg base ⟨true, false, false⟩ "_law_pipe_right" 8 1 (G_pipe_right_k10 A)) (c_meter_right_k10 : Fc P w K mg base ⟨true, false, false⟩ "_law_meter_right" 8 1 (G_meter_right_k10 A)) (mk_Meter_2_sealed : Mk_ P w K mg base false "Meter" (A.c "Meter") 4 4 2 ["sealed"] (G_Meter_init A) (perm [0])) (t_tab : TabD K base mg f "law" (A.t "law")) :
    FnX ⟨true, false, false⟩ P w K mg base 9 f fd ["_law_cells"] (spG K 1 (G_law_k10 A)) := by
  rw [D_law_k10]
  refine fn_GL F sc_law_k10 (fun cdv Ar outer s H E pp hcdv hgd hr tk hp => ?_)
  replace hr : Room 8 (Ar.deeper (PyProof.Rows.envOfC "law" (defScope s_law_k10) s.heap.objs.size f cdv)) := hr
  have hgd0 := hgd rfl
  obtain ⟨cda, rfl, TB⟩ := t_tab cdv hcdv
  exact gss_cons (gs_if (gt_cmp (op_neA hr) ro_neA (ge_caught c_caught_k10 TB rfl hgd0 hr (LamX.lamS_by (by rfl)) (fun _ _ _ _ _ _ _ hgA hrA tkA => ge_makeKF (ks := ["sealed"]) tkA mk_Meter_2_sealed hrA (ga_cons (ge_str) (ga_cons (ge_str) (ga_nil))) (gk_cons (ge_int) (gk_nil)))) (ge_lst (ga_cons (ge_int) (ga_cons (ge_str) (ga_nil)))) (nomark _)) (gss_one (gs_ret (ge_bl))) (gss_nil))
    (gss_cons (gs_for hp rfl (gi_range1 T.n_range (ga_cons (ge_callB (call_max2 rfl) rc_max2 T.n_max (by decide +kernel) (ga_cons (ge_int) (ga_cons (ge_callB (call_min2 rfl) rc_min2 T.n_min (by decide +kernel) (ga_cons (ge_callB call_len rc_len T.n_len (by decide +kernel) (ga_cons (ge_var 0) (ga_nil))) (ga_cons (ge_int) (ga_nil)))) (ga_nil)))) (ga_nil))) (gg_name 1 sc_law_k10.nd) (gss_cons (gs_set 2 sc_law_k10.nd (ge_callF (h := false) tk c_well_k01 nogd hr (ga_cons (ge_var 0) (ga_cons (ge_var 1) (ga_nil)))))
    (gss_one (gs_if (gt_not (gt_tru tru_ok rt_tru (ge_callB (cr_all rfl) rc_all T.n_all (by decide +kernel) (ga_cons (ge_lc (own := [("_law_turn", 3)]) rfl sc_law_k10.nd (gi_range1 T.n_range (ga_cons (ge_int) (ga_nil))) (blkOk_by (by rfl)) (fun _ _ _ _ _ => gg_name 3 sc_law_k10.nd) (fun _ _ _ _ _ => gts_nil) (fun _ _ _ _ _ => ge_and (ge_callF (h := false) tkF c_pipe_right_k10 hgd hr (ga_cons (ge_var 2) (ga_nil))) (ge_one (ge_callF (h := false) tkF c_meter_right_k10 hgd hr (ga_cons (ge_var 2) (ga_nil)))))) (ga_nil))))) (gss_one (gs_ret (ge_bl))) (gss_nil)))))
    (gss_one (gs_ret (ge_bl))))
end K10
end
section
namespace K10
open PySem L2 RV
def ad (K : PySem.W.Frag) : Ad := ⟨fun n => He.ga K (PySem.Str.ofString n), ["Sum", "Pipe", "Meter", "Net"], fun n => (He.cT K (PySem.Str.ofString n, none)).2⟩
def tf : List He.Defn := [("law", none), ("_law_pipe_right", none), ("_law_meter_right", none)]
def tq : List Str := ["law.<locals>.<lambda>", "_law_pipe_right.<locals>.<lambda>", "_law_meter_right.<locals>.<lambda>"]
def d_X_InvalidEnd : He5.DefA := ⟨fun K => He.ma K (He.ga K "InvalidEnd") "__init__", "__init__", "InvalidEnd.__init__", defArgs s_X_InvalidEnd, defBody s_X_InvalidEnd, defScope s_X_InvalidEnd, [], []⟩
def d_X_InvalidFlag : He5.DefA := ⟨fun K => He.ma K (He.ga K "InvalidFlag") "__init__", "__init__", "InvalidFlag.__init__", defArgs s_X_InvalidFlag, defBody s_X_InvalidFlag, defScope s_X_InvalidFlag, [], []⟩
def d_X_InvalidName : He5.DefA := ⟨fun K => He.ma K (He.ga K "InvalidName") "__init__", "__init__", "InvalidName.__init__", defArgs s_X_InvalidName, defBody s_X_InvalidName, defScope s_X_InvalidName, [], []⟩
def d_Pipe_name : He5.DefA := ⟨fun K => He5.wf K (He.ga K "Pipe") "property" "name", "name", "Pipe.name", defArgs s_Pipe_name, defBody s_Pipe_name, defScope s_Pipe_name, [], []⟩
def d_Pipe_start : He5.DefA := ⟨fun K => He5.wf K (He.ga K "Pipe") "property" "start", "start", "Pipe.start", defArgs s_Pipe_start, defBody s_Pipe_start, defScope s_Pipe_start, [], []⟩
def d_Pipe_end : He5.DefA := ⟨fun K => He5.wf K (He.ga K "Pipe") "property" "end", "end", "Pipe.end", defArgs s_Pipe_end, defBody s_Pipe_end, defScope s_Pipe_end, [], []⟩
def d_Meter_name : He5.DefA := ⟨fun K => He5.wf K (He.ga K "Meter") "property" "name", "name", "Meter.name", defArgs s_Meter_name, defBody s_Meter_name, defScope s_Meter_name, [], []⟩
def d_Meter_at : He5.DefA := ⟨fun K => He5.wf K (He.ga K "Meter") "property" "at", "at", "Meter.at", defArgs s_Meter_at, defBody s_Meter_at, defScope s_Meter_at, [], []⟩
def d_Meter_sealed : He5.DefA := ⟨fun K => He5.wf K (He.ga K "Meter") "property" "sealed", "sealed", "Meter.sealed", defArgs s_Meter_sealed, defBody s_Meter_sealed, defScope s_Meter_sealed, [], []⟩
def d_seen_k10 : He5.DefA := ⟨fun K => He.ga K "_law_seen", "_law_seen", "_law_seen", defArgs s_seen_k10, defBody s_seen_k10, defScope s_seen_k10, [], []⟩
def d_seen_k10_h : He5.DefA := ⟨fun K => He.ga K "_law_seen", "_law_seen", "_law_seen", defArgs s_seen_k10_h, defBody s_seen_k10_h, defScope s_seen_k10_h, [], []⟩
def d_said_k10 : He5.DefA := ⟨fun K => He.ga K "_law_said", "_law_said", "_law_said", defArgs s_said_k10, defBody s_said_k10, defScope s_said_k10, [], []⟩
def d_caught_k10 : He5.DefA := ⟨fun K => He.ga K "_law_caught", "_law_caught", "_law_caught", defArgs s_caught_k10, defBody s_caught_k10, defScope s_caught_k10, [], []⟩
def d_is_name : He5.DefA := ⟨fun K => He.ga K "is_name", "is_name", "is_name", defArgs s_is_name, defBody s_is_name, defScope s_is_name, [], []⟩
def d_check_name : He5.DefA := ⟨fun K => He.ga K "check_name", "check_name", "check_name", defArgs s_check_name, defBody s_check_name, defScope s_check_name, [], []⟩
def d_Meter_init : He5.DefA := ⟨fun K => He.ma K (He.ga K "Meter") "__init__", "__init__", "Meter.__init__", defArgs s_Meter_init, defBody s_Meter_init, defScope s_Meter_init, [], [("sealed", .bl false)]⟩
def d_well_k01 : He5.DefA := ⟨fun K => He.ga K "_law_well", "_law_well", "_law_well", defArgs s_well_k01, defBody s_well_k01, defScope s_well_k01, [], []⟩
def d_dip_k01 : He5.DefA := ⟨fun K => He.ga K "_law_dip", "_law_dip", "_law_dip", defArgs s_dip_k01, defBody s_dip_k01, defScope s_dip_k01, [], []⟩
def d_odd_k04 : He5.DefA := ⟨fun K => He.ga K "_law_odd", "_law_odd", "_law_odd", defArgs s_odd_k04, defBody s_odd_k04, defScope s_odd_k04, [], []⟩
def d_name_k02 : He5.DefA := ⟨fun K => He.ga K "_law_name", "_law_name", "_law_name", defArgs s_name_k02, defBody s_name_k02, defScope s_name_k02, [], []⟩
def d_sign_k04 : He5.DefA := ⟨fun K => He.ga K "_law_sign", "_law_sign", "_law_sign", defArgs s_sign_k04, defBody s_sign_k04, defScope s_sign_k04, [], []⟩
def d_bent_name_k10 : He5.DefA := ⟨fun K => He.ga K "_law_bent_name", "_law_bent_name", "_law_bent_name", defArgs s_bent_name_k10, defBody s_bent_name_k10, defScope s_bent_name_k10, [], []⟩
def d_value_k10 : He5.DefA := ⟨fun K => He.ga K "_law_value", "_law_value", "_law_value", defArgs s_value_k10, defBody s_value_k10, defScope s_value_k10, [], []⟩
def d_is_name_k04 : He5.DefA := ⟨fun K => He.ga K "_law_is_name", "_law_is_name", "_law_is_name", defArgs s_is_name_k04, defBody s_is_name_k04, defScope s_is_name_k04, [], []⟩
def d_first_bad_k10 : He5.DefA := ⟨fun K => He.ga K "_law_first_bad", "_law_first_bad", "_law_first_bad", defArgs s_first_bad_k10, defBody s_first_bad_k10, defScope s_first_bad_k10, [], []⟩
def d_Pipe_init : He5.DefA := ⟨fun K => He.ma K (He.ga K "Pipe") "__init__", "__init__", "Pipe.__init__", defArgs s_Pipe_init, defBody s_Pipe_init, defScope s_Pipe_init, [], []⟩
def d_pipe_right_k10 : He5.DefA := ⟨fun K => He.ga K "_law_pipe_right", "_law_pipe_right", "_law_pipe_right", defArgs s_pipe_right_k10, defBody s_pipe_right_k10, defScope s_pipe_right_k10, [], []⟩
def d_meter_right_k10 : He5.DefA := ⟨fun K => He.ga K "_law_meter_right", "_law_meter_right", "_law_meter_right", defArgs s_meter_right_k10, defBody s_meter_right_k10, defScope s_meter_right_k10, [], []⟩
def d_law_k10 : He5.DefA := ⟨fun K => He.ga K "law", "law", "law", defArgs s_law_k10, defBody s_law_k10, defScope s_law_k10, [], []⟩
def fn : List He5.DefA := [d_Pipe_name, d_Pipe_start, d_Pipe_end, d_Meter_name, d_Meter_at, d_Meter_sealed, d_seen_k10, d_seen_k10_h, d_said_k10, d_caught_k10, d_is_name, d_check_name, d_Meter_init, d_well_k01, d_dip_k01, d_odd_k04, d_name_k02, d_sign_k04, d_bent_name_k10, d_value_k10, d_is_name_k04, d_first_bad_k10, d_Pipe_init, d_pipe_right_k10, d_meter_right_k10, d_law_k10, d_X_InvalidEnd, d_X_InvalidFlag, d_X_InvalidName]
def fa : List He.Fa := [.glo "_law_seen", .glo "_law_seen", .glo "_law_said", .glo "_law_caught", .glo "is_name", .glo "check_name", .glo "_law_well", .glo "_law_dip", .glo "_law_odd", .glo "_law_name", .glo "_law_sign", .glo "_law_bent_name", .glo "_law_value", .glo "_law_is_name", .glo "_law_first_bad", .glo "_law_pipe_right", .glo "_law_meter_right", .glo "law", .glo "BadName", .glo "BadValue", .glo "InvalidEnd", .glo "InvalidFlag", .glo "InvalidMeters", .glo "InvalidName", .glo "InvalidPipes", .glo "InvalidText", .glo "NoAnswer", .glo "NotAMeter", .glo "UnknownName", .glo "Sum", .cls "Sum", .mkr "Sum", .glo "Pipe", .cls "Pipe", .mkr "Pipe", .glo "Meter", .cls "Meter", .mkr "Meter", .glo "Net", .cls "Net", .mkr "Net", .noat "Meter" "kept", .noat "Pipe" "kept", .free "abs", .free "all", .free "bool", .free "divmod", .free "int", .free "isinstance", .free "len", .free "max", .free "min", .free "range", .free "repr", .free "str", .str "DIGITS" "0123456789", .str "LETTERS" "abcdefghijklmnopqrstuvwxyz", .int "LONGEST_NAME" 8]
def exs : List (PySem.W.Frag → Bool) := [fun K => kindB K (He.ga K "Sum"), fun K => kindB K (He.ga K "Pipe"), fun K => propB K (He.ga K "Pipe") "name", fun K => propB K (He.ga K "Pipe") "start", fun K => propB K (He.ga K "Pipe") "end", fun K => kindB K (He.ga K "Meter"), fun K => propB K (He.ga K "Meter") "name", fun K => propB K (He.ga K "Meter") "at", fun K => propB K (He.ga K "Meter") "sealed", fun K => kindB K (He.ga K "Net"), fun K => xcB K (He.ga K "InvalidEnd") "given", fun K => xcB K (He.ga K "InvalidFlag") "given", fun K => xcB K (He.ga K "InvalidName") "given", fun K => errNames.all fun n => excB K ((ad K).c n), fun K => tbXB K (ad K) errAll errAnc, fun K => errNames.all fun n => He.eqO (PySem.W.findIn K (.ref ((ad K).c n)) "given") (some none), fun K => errNames.all fun n => He.eqO (PySem.W.findIn K (.ref ((ad K).c n)) "index") (some none), fun K => errNames.all fun n => decide (PySem.W.exmAny K (.ref ((ad K).c n)) [.ref ((ad K).c "BadValue"), .ref ((ad K).c "BadName"), .ref ((ad K).c "NoAnswer")] = some true), fun K => decide (((tf.map (He.cT K)).map (·.2)).Nodup), fun K => decide (([He.ga K "Sum", He.ga K "Pipe", He.ga K "Meter", He.ga K "Net", He.ga K "BadName", He.ga K "BadValue", He.ga K "InvalidEnd", He.ga K "InvalidFlag", He.ga K "InvalidMeters", He.ga K "InvalidName", He.ga K "InvalidPipes", He.ga K "InvalidText", He.ga K "NoAnswer", He.ga K "NotAMeter", He.ga K "UnknownName"] : List Addr).Nodup), fun K => decide (([He.ga K "Sum", He.ga K "Pipe", He.ga K "Meter", He.ga K "Net"] : List Addr).Nodup), fun K => tabB K (kinds (ad K)) (clss (ad K)) (sub (ad K))]
def exA (K : PySem.W.Frag) : Bool := exs.all fun f => f K
theorem exA_at {K : PySem.W.Frag} (h : exA K = true) (i : Nat) {f : PySem.W.Frag → Bool} (e : exs[i]? = some f) : f K = true := List.all_eq_true.mp h f (List.mem_of_getElem? e)
theorem ad_ok {K : PySem.W.Frag} (h : exA K = true) : AdOk (ad K) ["Sum", "Pipe", "Meter", "Net"] := ⟨rfl, of_decide_eq_true (p := (([He.ga K "Sum", He.ga K "Pipe", He.ga K "Meter", He.ga K "Net"] : List Addr).Nodup)) (exA_at h 20 rfl)⟩
theorem tabs_nd {K : PySem.W.Frag} (h : exA K = true) : ((tf.map (He.cT K)).map (·.2)).Nodup := of_decide_eq_true (p := ((tf.map (He.cT K)).map (·.2)).Nodup) (exA_at h 18 rfl)
theorem ad_nd {K : PySem.W.Frag} (h : exA K = true) : (["Sum", "Pipe", "Meter", "Net", "BadName", "BadValue", "InvalidEnd", "InvalidFlag", "InvalidMeters", "InvalidName", "InvalidPipes", "InvalidText", "NoAnswer", "NotAMeter", "UnknownName"].map (ad K).c).Nodup := of_decide_eq_true (p := (([He.ga K "Sum", He.ga K "Pipe", He.ga K "Meter", He.ga K "Net", He.ga K "BadName", He.ga K "BadValue", He.ga K "InvalidEnd", He.ga K "InvalidFlag", He.ga K "InvalidMeters", He.ga K "InvalidName", He.ga K "InvalidPipes", He.ga K "InvalidText", He.ga K "NoAnswer", He.ga K "NotAMeter", He.ga K "UnknownName"] : List Addr).Nodup)) (exA_at h 19 rfl)
abbrev R : PySem.W.OpenRow := PySem.W.OpenLaw.row PySem.Challenge.rw_ringvotes_k10_pipes_and_meters_refused
abbrev hk : PySem.W.Hook := hookT 5 fa fn tf exA
def ob (s : PySem.W.SharedT) : He.AlD × Bool := obT 5 fa fn tf exA (HandSHeadRun.getT s)
theorem ob_eq (s : PySem.W.SharedT) : ob s = hk.obs s.abs := obT_eq (HandSHeadRun.getT_eq s)
theorem run (w : World) : HandSHeadRun.RunEq R (PySem.W.view R.prog [62]) hk ob 40000 [("_wall" : PySem.Str), ("BadValue" : PySem.Str), ("BadName" : PySem.Str), ("NoAnswer" : PySem.Str), ("InvalidName" : PySem.Str), ("InvalidEnd" : PySem.Str), ("InvalidFlag" : PySem.Str), ("InvalidText" : PySem.Str), ("InvalidNumber" : PySem.Str), ("NotAMeter" : PySem.Str), ("NotASum" : PySem.Str), ("InvalidPipes" : PySem.Str), ("InvalidMeters" : PySem.Str), ("InvalidTerms" : PySem.Str), ("UnknownName" : PySem.Str), ("MOST_PIPES" : PySem.Str), ("MOST_METERS" : PySem.Str), ("LETTERS" : PySem.Str), ("DIGITS" : PySem.Str), ("LONGEST_NAME" : PySem.Str), ("BLOCK" : PySem.Str), ("is_integer" : PySem.Str), ("is_name" : PySem.Str), ("check_name" : PySem.Str), ("read_number" : PySem.Str), ("digits_of" : PySem.Str), ("check_terms" : PySem.Str), ("merged" : PySem.Str), ("scaled" : PySem.Str), ("term_text" : PySem.Str), ("text_of" : PySem.Str), ("read_term" : PySem.Str), ("read_terms" : PySem.Str), ("Sum" : PySem.Str), ("check_sum" : PySem.Str), ("check_factor" : PySem.Str), ("Pipe" : PySem.Str), ("Meter" : PySem.Str), ("check_pipes" : PySem.Str), ("check_meters" : PySem.Str), ("line_of" : PySem.Str), ("item_of" : PySem.Str), ("Net" : PySem.Str), ("_law_well" : PySem.Str), ("_law_dip" : PySem.Str), ("_law_name" : PySem.Str), ("_law_sign" : PySem.Str), ("_law_odd" : PySem.Str), ("_law_seen" : PySem.Str), ("_law_said" : PySem.Str), ("_law_caught" : PySem.Str), ("_law_is_name" : PySem.Str), ("_law_bent_name" : PySem.Str), ("_law_value" : PySem.Str), ("_law_first_bad" : PySem.Str), ("_law_pipe_right" : PySem.Str), ("_law_meter_right" : PySem.Str)] w := by
  intro os
  kernel_rfl
theorem facts {P : Program} {w : World} {K : PySem.W.Frag} {h : Heap} {mg : Str → Option Value} {f : Addr} (X : K.In h) (G : h.Ns mainGlobals mg) (hfa : mg ("law" : Str) = some (.ref f)) (c : He5.SaysA fa fn K) (cx : exA K = true) :
    ∃ fd : FuncData, (∀ (s : Shared) (v : Value), BindsTo s fd ⟨[v], []⟩ [("_law_cells", v)]) ∧ ∀ base : Heap, K.In base → base.Ns mainGlobals mg → (∀ t ∈ tf.map (He.cT K), LamX.TabB base mg t.1 t.2) → FnX ⟨true, false, false⟩ P w K mg base 9 f fd ["_law_cells"] (spG K 1 (G_law_k10 (ad K))) := by
  have kk_Sum : KindC K ((ad K).c "Sum") := kindB_ok (He.cls_ok (c.fact 30 (f := .cls "Sum") rfl)) (exA_at cx 0 rfl)
  have kk_Pipe : KindC K ((ad K).c "Pipe") := kindB_ok (He.cls_ok (c.fact 33 (f := .cls "Pipe") rfl)) (exA_at cx 1 rfl)
  have kk_Meter : KindC K ((ad K).c "Meter") := kindB_ok (He.cls_ok (c.fact 36 (f := .cls "Meter") rfl)) (exA_at cx 5 rfl)
  have kk_Net : KindC K ((ad K).c "Net") := kindB_ok (He.cls_ok (c.fact 39 (f := .cls "Net") rfl)) (exA_at cx 9 rfl)
  have T : Txt K mg (ad K) :=
    { n_abs := He.free_ok X G (c.fact 43 (f := .free "abs") rfl)
      n_all := He.free_ok X G (c.fact 44 (f := .free "all") rfl)
      n_bool := He.free_ok X G (c.fact 45 (f := .free "bool") rfl)
      n_divmod := He.free_ok X G (c.fact 46 (f := .free "divmod") rfl)
      n_int := He.free_ok X G (c.fact 47 (f := .free "int") rfl)
      n_isinstance := He.free_ok X G (c.fact 48 (f := .free "isinstance") rfl)
      n_len := He.free_ok X G (c.fact 49 (f := .free "len") rfl)
      n_max := He.free_ok X G (c.fact 50 (f := .free "max") rfl)
      n_min := He.free_ok X G (c.fact 51 (f := .free "min") rfl)
      n_range := He.free_ok X G (c.fact 52 (f := .free "range") rfl)
      n_repr := He.free_ok X G (c.fact 53 (f := .free "repr") rfl)
      n_str := He.free_ok X G (c.fact 54 (f := .free "str") rfl)
      g_DIGITS := He.str_ok X G (c.fact 55 (f := .str "DIGITS" "0123456789") rfl)
      g_LETTERS := He.str_ok X G (c.fact 56 (f := .str "LETTERS" "abcdefghijklmnopqrstuvwxyz") rfl)
      g_LONGEST_NAME := He.int_ok X G (c.fact 57 (f := .int "LONGEST_NAME" 8) rfl)
      m_Sum := He.glo_ok X G (c.fact 29 (f := .glo "Sum") rfl)
      m_Pipe := He.glo_ok X G (c.fact 32 (f := .glo "Pipe") rfl)
      m_Meter := He.glo_ok X G (c.fact 35 (f := .glo "Meter") rfl)
      m_Net := He.glo_ok X G (c.fact 38 (f := .glo "Net") rfl)
      k_Sum := kk_Sum
      k_Pipe := kk_Pipe
      k_Meter := kk_Meter
      k_Net := kk_Net
      no_Meter_kept := He.noat_ok (c.fact 41 (f := .noat "Meter" "kept") rfl)
      no_Pipe_kept := He.noat_ok (c.fact 42 (f := .noat "Pipe" "kept") rfl)
      m_BadName := He.glo_ok X G (c.fact 18 (f := .glo "BadName") rfl)
      m_BadValue := He.glo_ok X G (c.fact 19 (f := .glo "BadValue") rfl)
      m_InvalidEnd := He.glo_ok X G (c.fact 20 (f := .glo "InvalidEnd") rfl)
      m_InvalidFlag := He.glo_ok X G (c.fact 21 (f := .glo "InvalidFlag") rfl)
      m_InvalidMeters := He.glo_ok X G (c.fact 22 (f := .glo "InvalidMeters") rfl)
      m_InvalidName := He.glo_ok X G (c.fact 23 (f := .glo "InvalidName") rfl)
      m_InvalidPipes := He.glo_ok X G (c.fact 24 (f := .glo "InvalidPipes") rfl)
      m_InvalidText := He.glo_ok X G (c.fact 25 (f := .glo "InvalidText") rfl)
      m_NoAnswer := He.glo_ok X G (c.fact 26 (f := .glo "NoAnswer") rfl)
      m_NotAMeter := He.glo_ok X G (c.fact 27 (f := .glo "NotAMeter") rfl)
      m_UnknownName := He.glo_ok X G (c.fact 28 (f := .glo "UnknownName") rfl)
      xc := fun C hC => excB_ok (errL_all (f := fun C => excB K C) (exA_at cx 13 rfl) C hC)
      xkit := (exA_at cx 14 rfl)
      xno_given := fun C hC => He.eqO_ok (errL_all (f := fun C => He.eqO (PySem.W.findIn K (.ref C) "given") (some none)) (exA_at cx 15 rfl) C hC)
      xno_index := fun C hC => He.eqO_ok (errL_all (f := fun C => He.eqO (PySem.W.findIn K (.ref C) "index") (some none)) (exA_at cx 16 rfl) C hC)
      xl := fun C hC => of_decide_eq_true (errL_all (f := fun C => decide (PySem.W.exmAny K (.ref C) [.ref ((ad K).c "BadValue"), .ref ((ad K).c "BadName"), .ref ((ad K).c "NoAnswer")] = some true)) (exA_at cx 17 rfl) C hC)
      own := own_of (fun n hn => by
        simp only [ad, List.mem_cons, List.mem_nil_iff, or_false] at hn
        rcases hn with rfl | rfl | rfl | rfl
        all_goals first | exact kk_Sum | exact kk_Pipe | exact kk_Meter | exact kk_Net)
      kit := tabB_ok (exA_at cx 21 rfl) }
  obtain ⟨fd_Pipe_name, F0_Pipe_name⟩ := c.def_ 0 (d := d_Pipe_name) rfl
  have F_Pipe_name : FunD K "name" "Pipe.name" (defArgs s_Pipe_name) (defBody s_Pipe_name) (defScope s_Pipe_name) [] [] (d_Pipe_name.at_ K) fd_Pipe_name := F0_Pipe_name
  have b_Pipe_name : Binds K fd_Pipe_name ["self"] [] := F_Pipe_name.bindsN fun _ _ _ _ _ _ us hl => match us, hl with | [_], _ => rfl
  obtain ⟨fd_Pipe_start, F0_Pipe_start⟩ := c.def_ 1 (d := d_Pipe_start) rfl
  have F_Pipe_start : FunD K "start" "Pipe.start" (defArgs s_Pipe_start) (defBody s_Pipe_start) (defScope s_Pipe_start) [] [] (d_Pipe_start.at_ K) fd_Pipe_start := F0_Pipe_start
  have b_Pipe_start : Binds K fd_Pipe_start ["self"] [] := F_Pipe_start.bindsN fun _ _ _ _ _ _ us hl => match us, hl with | [_], _ => rfl
  obtain ⟨fd_Pipe_end, F0_Pipe_end⟩ := c.def_ 2 (d := d_Pipe_end) rfl
  have F_Pipe_end : FunD K "end" "Pipe.end" (defArgs s_Pipe_end) (defBody s_Pipe_end) (defScope s_Pipe_end) [] [] (d_Pipe_end.at_ K) fd_Pipe_end := F0_Pipe_end
  have b_Pipe_end : Binds K fd_Pipe_end ["self"] [] := F_Pipe_end.bindsN fun _ _ _ _ _ _ us hl => match us, hl with | [_], _ => rfl
  obtain ⟨fd_Meter_name, F0_Meter_name⟩ := c.def_ 3 (d := d_Meter_name) rfl
  have F_Meter_name : FunD K "name" "Meter.name" (defArgs s_Meter_name) (defBody s_Meter_name) (defScope s_Meter_name) [] [] (d_Meter_name.at_ K) fd_Meter_name := F0_Meter_name
  have b_Meter_name : Binds K fd_Meter_name ["self"] [] := F_Meter_name.bindsN fun _ _ _ _ _ _ us hl => match us, hl with | [_], _ => rfl
  obtain ⟨fd_Meter_at, F0_Meter_at⟩ := c.def_ 4 (d := d_Meter_at) rfl
  have F_Meter_at : FunD K "at" "Meter.at" (defArgs s_Meter_at) (defBody s_Meter_at) (defScope s_Meter_at) [] [] (d_Meter_at.at_ K) fd_Meter_at := F0_Meter_at
  have b_Meter_at : Binds K fd_Meter_at ["self"] [] := F_Meter_at.bindsN fun _ _ _ _ _ _ us hl => match us, hl with | [_], _ => rfl
  obtain ⟨fd_Meter_sealed, F0_Meter_sealed⟩ := c.def_ 5 (d := d_Meter_sealed) rfl
  have F_Meter_sealed : FunD K "sealed" "Meter.sealed" (defArgs s_Meter_sealed) (defBody s_Meter_sealed) (defScope s_Meter_sealed) [] [] (d_Meter_sealed.at_ K) fd_Meter_sealed := F0_Meter_sealed
  have b_Meter_sealed : Binds K fd_Meter_sealed ["self"] [] := F_Meter_sealed.bindsN fun _ _ _ _ _ _ us hl => match us, hl with | [_], _ => rfl
  obtain ⟨fd_seen_k10, F0_seen_k10⟩ := c.def_ 6 (d := d_seen_k10) rfl
  have F_seen_k10 : FunD K "_law_seen" "_law_seen" (defArgs s_seen_k10) (defBody s_seen_k10) (defScope s_seen_k10) [] [] (d_seen_k10.at_ K) fd_seen_k10 := F0_seen_k10
  have b_seen_k10 : Binds K fd_seen_k10 ["_law_thing"] [] := F_seen_k10.bindsN fun _ _ _ _ _ _ us hl => match us, hl with | [_], _ => rfl
  obtain ⟨fd_seen_k10_h, F0_seen_k10_h⟩ := c.def_ 7 (d := d_seen_k10_h) rfl
  have F_seen_k10_h : FunD K "_law_seen" "_law_seen" (defArgs s_seen_k10_h) (defBody s_seen_k10_h) (defScope s_seen_k10_h) [] [] (d_seen_k10_h.at_ K) fd_seen_k10_h := F0_seen_k10_h
  have b_seen_k10_h : Binds K fd_seen_k10_h ["_law_thing"] [] := F_seen_k10_h.bindsN fun _ _ _ _ _ _ us hl => match us, hl with | [_], _ => rfl
  obtain ⟨fd_said_k10, F0_said_k10⟩ := c.def_ 8 (d := d_said_k10) rfl
  have F_said_k10 : FunD K "_law_said" "_law_said" (defArgs s_said_k10) (defBody s_said_k10) (defScope s_said_k10) [] [] (d_said_k10.at_ K) fd_said_k10 := F0_said_k10
  have b_said_k10 : Binds K fd_said_k10 ["_law_e"] [] := F_said_k10.bindsN fun _ _ _ _ _ _ us hl => match us, hl with | [_], _ => rfl
  obtain ⟨fd_caught_k10, F0_caught_k10⟩ := c.def_ 9 (d := d_caught_k10) rfl
  have F_caught_k10 : FunD K "_law_caught" "_law_caught" (defArgs s_caught_k10) (defBody s_caught_k10) (defScope s_caught_k10) [] [] (d_caught_k10.at_ K) fd_caught_k10 := F0_caught_k10
  have b_caught_k10 : Binds K fd_caught_k10 ["_law_act"] [] := F_caught_k10.bindsN fun _ _ _ _ _ _ us hl => match us, hl with | [_], _ => rfl
  obtain ⟨fd_is_name, F0_is_name⟩ := c.def_ 10 (d := d_is_name) rfl
  have F_is_name : FunD K "is_name" "is_name" (defArgs s_is_name) (defBody s_is_name) (defScope s_is_name) [] [] (d_is_name.at_ K) fd_is_name := F0_is_name
  have b_is_name : Binds K fd_is_name ["value"] [] := F_is_name.bindsN fun _ _ _ _ _ _ us hl => match us, hl with | [_], _ => rfl
  obtain ⟨fd_check_name, F0_check_name⟩ := c.def_ 11 (d := d_check_name) rfl
  have F_check_name : FunD K "check_name" "check_name" (defArgs s_check_name) (defBody s_check_name) (defScope s_check_name) [] [] (d_check_name.at_ K) fd_check_name := F0_check_name
  have b_check_name : Binds K fd_check_name ["value"] [] := F_check_name.bindsN fun _ _ _ _ _ _ us hl => match us, hl with | [_], _ => rfl
  obtain ⟨fd_Meter_init, F0_Meter_init⟩ := c.def_ 12 (d := d_Meter_init) rfl
  have F_Meter_init : FunD K "__init__" "Meter.__init__" (defArgs s_Meter_init) (defBody s_Meter_init) (defScope s_Meter_init) [] [("sealed", .bl false)] (d_Meter_init.at_ K) fd_Meter_init := F0_Meter_init
  obtain ⟨fd_well_k01, F0_well_k01⟩ := c.def_ 13 (d := d_well_k01) rfl
  have F_well_k01 : FunD K "_law_well" "_law_well" (defArgs s_well_k01) (defBody s_well_k01) (defScope s_well_k01) [] [] (d_well_k01.at_ K) fd_well_k01 := F0_well_k01
  have b_well_k01 : Binds K fd_well_k01 ["_law_cells", "_law_k"] [] := F_well_k01.bindsN fun _ _ _ _ _ _ us hl => match us, hl with | [_, _], _ => rfl
  obtain ⟨fd_dip_k01, F0_dip_k01⟩ := c.def_ 14 (d := d_dip_k01) rfl
  have F_dip_k01 : FunD K "_law_dip" "_law_dip" (defArgs s_dip_k01) (defBody s_dip_k01) (defScope s_dip_k01) [] [] (d_dip_k01.at_ K) fd_dip_k01 := F0_dip_k01
  have b_dip_k01 : Binds K fd_dip_k01 ["_law_well_here", "_law_many"] [] := F_dip_k01.bindsN fun _ _ _ _ _ _ us hl => match us, hl with | [_, _], _ => rfl
  obtain ⟨fd_odd_k04, F0_odd_k04⟩ := c.def_ 15 (d := d_odd_k04) rfl
  have F_odd_k04 : FunD K "_law_odd" "_law_odd" (defArgs s_odd_k04) (defBody s_odd_k04) (defScope s_odd_k04) [] [] (d_odd_k04.at_ K) fd_odd_k04 := F0_odd_k04
  have b_odd_k04 : Binds K fd_odd_k04 ["_law_well_here"] [] := F_odd_k04.bindsN fun _ _ _ _ _ _ us hl => match us, hl with | [_], _ => rfl
  obtain ⟨fd_name_k02, F0_name_k02⟩ := c.def_ 16 (d := d_name_k02) rfl
  have F_name_k02 : FunD K "_law_name" "_law_name" (defArgs s_name_k02) (defBody s_name_k02) (defScope s_name_k02) [] [] (d_name_k02.at_ K) fd_name_k02 := F0_name_k02
  have b_name_k02 : Binds K fd_name_k02 ["_law_well_here"] [] := F_name_k02.bindsN fun _ _ _ _ _ _ us hl => match us, hl with | [_], _ => rfl
  obtain ⟨fd_sign_k04, F0_sign_k04⟩ := c.def_ 17 (d := d_sign_k04) rfl
  have F_sign_k04 : FunD K "_law_sign" "_law_sign" (defArgs s_sign_k04) (defBody s_sign_k04) (defScope s_sign_k04) [] [] (d_sign_k04.at_ K) fd_sign_k04 := F0_sign_k04
  have b_sign_k04 : Binds K fd_sign_k04 ["_law_well_here", "_law_often"] [] := F_sign_k04.bindsN fun _ _ _ _ _ _ us hl => match us, hl with | [_, _], _ => rfl
  obtain ⟨fd_bent_name_k10, F0_bent_name_k10⟩ := c.def_ 18 (d := d_bent_name_k10) rfl
  have F_bent_name_k10 : FunD K "_law_bent_name" "_law_bent_name" (defArgs s_bent_name_k10) (defBody s_bent_name_k10) (defScope s_bent_name_k10) [] [] (d_bent_name_k10.at_ K) fd_bent_name_k10 := F0_bent_name_k10
  have b_bent_name_k10 : Binds K fd_bent_name_k10 ["_law_well_here"] [] := F_bent_name_k10.bindsN fun _ _ _ _ _ _ us hl => match us, hl with | [_], _ => rfl
  obtain ⟨fd_value_k10, F0_value_k10⟩ := c.def_ 19 (d := d_value_k10) rfl
  have F_value_k10 : FunD K "_law_value" "_law_value" (defArgs s_value_k10) (defBody s_value_k10) (defScope s_value_k10) [] [] (d_value_k10.at_ K) fd_value_k10 := F0_value_k10
  have b_value_k10 : Binds K fd_value_k10 ["_law_well_here"] [] := F_value_k10.bindsN fun _ _ _ _ _ _ us hl => match us, hl with | [_], _ => rfl
  obtain ⟨fd_is_name_k04, F0_is_name_k04⟩ := c.def_ 20 (d := d_is_name_k04) rfl
  have F_is_name_k04 : FunD K "_law_is_name" "_law_is_name" (defArgs s_is_name_k04) (defBody s_is_name_k04) (defScope s_is_name_k04) [] [] (d_is_name_k04.at_ K) fd_is_name_k04 := F0_is_name_k04
  have b_is_name_k04 : Binds K fd_is_name_k04 ["_law_word"] [] := F_is_name_k04.bindsN fun _ _ _ _ _ _ us hl => match us, hl with | [_], _ => rfl
  obtain ⟨fd_first_bad_k10, F0_first_bad_k10⟩ := c.def_ 21 (d := d_first_bad_k10) rfl
  have F_first_bad_k10 : FunD K "_law_first_bad" "_law_first_bad" (defArgs s_first_bad_k10) (defBody s_first_bad_k10) (defScope s_first_bad_k10) [] [] (d_first_bad_k10.at_ K) fd_first_bad_k10 := F0_first_bad_k10
  have b_first_bad_k10 : Binds K fd_first_bad_k10 ["_law_some"] [] := F_first_bad_k10.bindsN fun _ _ _ _ _ _ us hl => match us, hl with | [_], _ => rfl
  obtain ⟨fd_Pipe_init, F0_Pipe_init⟩ := c.def_ 22 (d := d_Pipe_init) rfl
  have F_Pipe_init : FunD K "__init__" "Pipe.__init__" (defArgs s_Pipe_init) (defBody s_Pipe_init) (defScope s_Pipe_init) [] [] (d_Pipe_init.at_ K) fd_Pipe_init := F0_Pipe_init
  have b_Pipe_init : Binds K fd_Pipe_init ["self", "name", "start", "end"] [] := F_Pipe_init.bindsN fun _ _ _ _ _ _ us hl => match us, hl with | [_, _, _, _], _ => rfl
  obtain ⟨fd_pipe_right_k10, F0_pipe_right_k10⟩ := c.def_ 23 (d := d_pipe_right_k10) rfl
  have F_pipe_right_k10 : FunD K "_law_pipe_right" "_law_pipe_right" (defArgs s_pipe_right_k10) (defBody s_pipe_right_k10) (defScope s_pipe_right_k10) [] [] (d_pipe_right_k10.at_ K) fd_pipe_right_k10 := F0_pipe_right_k10
  have b_pipe_right_k10 : Binds K fd_pipe_right_k10 ["_law_well_here"] [] := F_pipe_right_k10.bindsN fun _ _ _ _ _ _ us hl => match us, hl with | [_], _ => rfl
  obtain ⟨fd_meter_right_k10, F0_meter_right_k10⟩ := c.def_ 24 (d := d_meter_right_k10) rfl
  have F_meter_right_k10 : FunD K "_law_meter_right" "_law_meter_right" (defArgs s_meter_right_k10) (defBody s_meter_right_k10) (defScope s_meter_right_k10) [] [] (d_meter_right_k10.at_ K) fd_meter_right_k10 := F0_meter_right_k10
  have b_meter_right_k10 : Binds K fd_meter_right_k10 ["_law_well_here"] [] := F_meter_right_k10.bindsN fun _ _ _ _ _ _ us hl => match us, hl with | [_], _ => rfl
  obtain ⟨fd_law_k10, F0_law_k10⟩ := c.def_ 25 (d := d_law_k10) rfl
  have F_law_k10 : FunD K "law" "law" (defArgs s_law_k10) (defBody s_law_k10) (defScope s_law_k10) [] [] (d_law_k10.at_ K) fd_law_k10 := F0_law_k10
  have b_law_k10 : Binds K fd_law_k10 ["_law_cells"] [] := F_law_k10.bindsN fun _ _ _ _ _ _ us hl => match us, hl with | [_], _ => rfl
  obtain ⟨fd_X_InvalidEnd, F0_X_InvalidEnd⟩ := c.def_ 26 (d := d_X_InvalidEnd) rfl
  have F_X_InvalidEnd : FunD K "__init__" "InvalidEnd.__init__" (defArgs s_X_InvalidEnd) (defBody s_X_InvalidEnd) (defScope s_X_InvalidEnd) [] [] (He.ma K (He.ga K "InvalidEnd") "__init__") fd_X_InvalidEnd := F0_X_InvalidEnd
  have b_X_InvalidEnd : Binds K fd_X_InvalidEnd ["self", "given"] [] := F_X_InvalidEnd.bindsN fun _ _ _ _ _ _ us hl => match us, hl with | [_, _], _ => rfl
  obtain ⟨fd_X_InvalidFlag, F0_X_InvalidFlag⟩ := c.def_ 27 (d := d_X_InvalidFlag) rfl
  have F_X_InvalidFlag : FunD K "__init__" "InvalidFlag.__init__" (defArgs s_X_InvalidFlag) (defBody s_X_InvalidFlag) (defScope s_X_InvalidFlag) [] [] (He.ma K (He.ga K "InvalidFlag") "__init__") fd_X_InvalidFlag := F0_X_InvalidFlag
  have b_X_InvalidFlag : Binds K fd_X_InvalidFlag ["self", "given"] [] := F_X_InvalidFlag.bindsN fun _ _ _ _ _ _ us hl => match us, hl with | [_, _], _ => rfl
  obtain ⟨fd_X_InvalidName, F0_X_InvalidName⟩ := c.def_ 28 (d := d_X_InvalidName) rfl
  have F_X_InvalidName : FunD K "__init__" "InvalidName.__init__" (defArgs s_X_InvalidName) (defBody s_X_InvalidName) (defScope s_X_InvalidName) [] [] (He.ma K (He.ga K "InvalidName") "__init__") fd_X_InvalidName := F0_X_InvalidName
  have b_X_InvalidName : Binds K fd_X_InvalidName ["self", "given"] [] := F_X_InvalidName.bindsN fun _ _ _ _ _ _ us hl => match us, hl with | [_, _], _ => rfl
  have e := hfa.symm.trans (He.glo_ok X G (c.fact 17 (f := .glo "law") rfl))
  cases e
  have bA := FunD.bindsA (ps := ["_law_cells"]) F_law_k10 fun _ _ _ _ _ _ us hl => match us, hl with | [_], _ => rfl
  refine ⟨fd_law_k10, fun s v => bA s [v] rfl, fun base _ _ hTB => ?_⟩
  have x_InvalidEnd : Xc P w K mg base "InvalidEnd" ((ad K).c "InvalidEnd") "given" := xc_of F_X_InvalidEnd sc_X_InvalidEnd rfl (exA_at cx 10 rfl) (fun _ _ _ _ _ _ _ _ _ => pss_one (ps_ost (pe_var (i := 0) rfl (Or.inl rfl)) (pe_var (i := 1) rfl (Or.inl rfl)))) b_X_InvalidEnd (He.glo_ok X G (c.fact 20 (f := .glo "InvalidEnd") rfl))
  have x_InvalidFlag : Xc P w K mg base "InvalidFlag" ((ad K).c "InvalidFlag") "given" := xc_of F_X_InvalidFlag sc_X_InvalidFlag rfl (exA_at cx 11 rfl) (fun _ _ _ _ _ _ _ _ _ => pss_one (ps_ost (pe_var (i := 0) rfl (Or.inl rfl)) (pe_var (i := 1) rfl (Or.inl rfl)))) b_X_InvalidFlag (He.glo_ok X G (c.fact 21 (f := .glo "InvalidFlag") rfl))
  have x_InvalidName : Xc P w K mg base "InvalidName" ((ad K).c "InvalidName") "given" := xc_of F_X_InvalidName sc_X_InvalidName rfl (exA_at cx 12 rfl) (fun _ _ _ _ _ _ _ _ _ => pss_one (ps_ost (pe_var (i := 0) rfl (Or.inl rfl)) (pe_var (i := 1) rfl (Or.inl rfl)))) b_X_InvalidName (He.glo_ok X G (c.fact 23 (f := .glo "InvalidName") rfl))
  have ok0_Pipe_name := ok_Pipe_name (nn := false) (P := P) (w := w) (base := base) T F_Pipe_name 
  have c_Pipe_name : Pc P w K mg base false ((ad K).c "Pipe") "name" 1 (G_Pipe_name (ad K)) := ⟨_, _, fd_Pipe_name, ["self"], T.k_Pipe.cl, propB_ok (exA_at cx 2 rfl), ok0_Pipe_name, b_Pipe_name⟩
  have ok0_Pipe_start := ok_Pipe_start (nn := false) (P := P) (w := w) (base := base) T F_Pipe_start 
  have c_Pipe_start : Pc P w K mg base false ((ad K).c "Pipe") "start" 1 (G_Pipe_start (ad K)) := ⟨_, _, fd_Pipe_start, ["self"], T.k_Pipe.cl, propB_ok (exA_at cx 3 rfl), ok0_Pipe_start, b_Pipe_start⟩
  have ok0_Pipe_end := ok_Pipe_end (nn := false) (P := P) (w := w) (base := base) T F_Pipe_end 
  have c_Pipe_end : Pc P w K mg base false ((ad K).c "Pipe") "end" 1 (G_Pipe_end (ad K)) := ⟨_, _, fd_Pipe_end, ["self"], T.k_Pipe.cl, propB_ok (exA_at cx 4 rfl), ok0_Pipe_end, b_Pipe_end⟩
  have ok0_Meter_name := ok_Meter_name (nn := false) (P := P) (w := w) (base := base) T F_Meter_name 
  have c_Meter_name : Pc P w K mg base false ((ad K).c "Meter") "name" 1 (G_Meter_name (ad K)) := ⟨_, _, fd_Meter_name, ["self"], T.k_Meter.cl, propB_ok (exA_at cx 6 rfl), ok0_Meter_name, b_Meter_name⟩
  have ok0_Meter_at := ok_Meter_at (nn := false) (P := P) (w := w) (base := base) T F_Meter_at 
  have c_Meter_at : Pc P w K mg base false ((ad K).c "Meter") "at" 1 (G_Meter_at (ad K)) := ⟨_, _, fd_Meter_at, ["self"], T.k_Meter.cl, propB_ok (exA_at cx 7 rfl), ok0_Meter_at, b_Meter_at⟩
  have ok0_Meter_sealed := ok_Meter_sealed (nn := false) (P := P) (w := w) (base := base) T F_Meter_sealed 
  have c_Meter_sealed : Pc P w K mg base false ((ad K).c "Meter") "sealed" 1 (G_Meter_sealed (ad K)) := ⟨_, _, fd_Meter_sealed, ["self"], T.k_Meter.cl, propB_ok (exA_at cx 8 rfl), ok0_Meter_sealed, b_Meter_sealed⟩
  have ok0_seen_k10 := ok_seen_k10 (P := P) (w := w) (base := base) T F_seen_k10 c_Pipe_name c_Pipe_start c_Pipe_end c_Meter_name c_Meter_at c_Meter_sealed
  have c_seen_k10 : Fc P w K mg base ⟨true, false, false⟩ "_law_seen" 3 1 (G_seen_k10 (ad K)) := ⟨_, fd_seen_k10, ["_law_thing"], ok0_seen_k10, b_seen_k10, F_seen_k10.kp, He.glo_ok X G (c.fact 1 (f := .glo "_law_seen") rfl)⟩
  have ok0_seen_k10_h := ok_seen_k10_h (P := P) (w := w) (base := base) T F_seen_k10_h 
  have c_seen_k10_h : Fc P w K mg base ⟨true, false, true⟩ "_law_seen" 1 1 (G_seen_k10_h (ad K)) := ⟨_, fd_seen_k10_h, ["_law_thing"], ok0_seen_k10_h, b_seen_k10_h, F_seen_k10_h.kp, He.glo_ok X G (c.fact 1 (f := .glo "_law_seen") rfl)⟩
  have ok0_said_k10 := ok_said_k10 (P := P) (w := w) (base := base) T F_said_k10 c_seen_k10_h
  have c_said_k10 : Fe P w K mg base true "_law_said" 2 1 (G_said_k10 (ad K)) := ⟨_, fd_said_k10, ["_law_e"], ok0_said_k10, b_said_k10, F_said_k10.kp, He.glo_ok X G (c.fact 2 (f := .glo "_law_said") rfl)⟩
  have c_caught_k10 : Cc P w K mg base "_law_caught" 3 (errL (ad K) errNames) 3 1 2 (T_caught_k10 (ad K)) (S_caught_k10 (ad K)) := ok_caught_k10 T F_caught_k10 b_caught_k10 F_caught_k10.kp (He.glo_ok X G (c.fact 3 (f := .glo "_law_caught") rfl)) c_seen_k10 c_said_k10
  have ok0_is_name := ok_is_name (nn := false) (P := P) (w := w) (base := base) T F_is_name 
  have c_is_name : Fc P w K mg base ⟨false, false, false⟩ "is_name" 1 1 (G_is_name (ad K)) := ⟨_, fd_is_name, ["value"], ok0_is_name, b_is_name, F_is_name.kp, He.glo_ok X G (c.fact 4 (f := .glo "is_name") rfl)⟩
  have ok0_check_name := ok_check_name (nn := false) (P := P) (w := w) (base := base) T F_check_name c_is_name x_InvalidName
  have c_check_name : Fc P w K mg base ⟨false, false, false⟩ "check_name" 3 1 (G_check_name (ad K)) := ⟨_, fd_check_name, ["value"], ok0_check_name, b_check_name, F_check_name.kp, He.glo_ok X G (c.fact 5 (f := .glo "check_name") rfl)⟩
  have ok0_Meter_init := ok_Meter_init (nn := false) (P := P) (w := w) (base := base) T F_Meter_init c_check_name x_InvalidFlag
  have mk_Meter_0_sealed_at_name : Mk_ P w K mg base false "Meter" ((ad K).c "Meter") 4 4 0 ["sealed", "at", "name"] (G_Meter_init (ad K)) (perm [2, 1, 0]) := mkK_of 0 ["sealed", "at", "name"] [2, 1, 0] F_Meter_init (He.mkr_ok (c.fact 37 (f := .mkr "Meter") rfl)) ok0_Meter_init T.m_Meter fun _ _ _ _ _ _ us ws hu hw => match us, hu, ws, hw with | [_], _, [_, _, _], _ => rfl
  have mk_Meter_2_sealed : Mk_ P w K mg base false "Meter" ((ad K).c "Meter") 4 4 2 ["sealed"] (G_Meter_init (ad K)) (perm [0]) := mkK_of 2 ["sealed"] [0] F_Meter_init (He.mkr_ok (c.fact 37 (f := .mkr "Meter") rfl)) ok0_Meter_init T.m_Meter fun _ _ _ _ _ _ us ws hu hw => match us, hu, ws, hw with | [_, _, _], _, [_], _ => rfl
  have ok0_well_k01 := ok_well_k01 (P := P) (w := w) (base := base) T F_well_k01 
  have c_well_k01 : Fc P w K mg base ⟨false, false, false⟩ "_law_well" 1 2 (G_well_k01 (ad K)) := ⟨_, fd_well_k01, ["_law_cells", "_law_k"], ok0_well_k01, b_well_k01, F_well_k01.kp, He.glo_ok X G (c.fact 6 (f := .glo "_law_well") rfl)⟩
  have ok0_dip_k01 := ok_dip_k01 (P := P) (w := w) (base := base) T F_dip_k01 
  have c_dip_k01 : Fc P w K mg base ⟨false, false, false⟩ "_law_dip" 1 2 (G_dip_k01 (ad K)) := ⟨_, fd_dip_k01, ["_law_well_here", "_law_many"], ok0_dip_k01, b_dip_k01, F_dip_k01.kp, He.glo_ok X G (c.fact 7 (f := .glo "_law_dip") rfl)⟩
  have ok0_odd_k04 := ok_odd_k04 (P := P) (w := w) (base := base) T F_odd_k04 c_dip_k01
  have c_odd_k04 : Fc P w K mg base ⟨false, false, false⟩ "_law_odd" 2 1 (G_odd_k04 (ad K)) := ⟨_, fd_odd_k04, ["_law_well_here"], ok0_odd_k04, b_odd_k04, F_odd_k04.kp, He.glo_ok X G (c.fact 8 (f := .glo "_law_odd") rfl)⟩
  have ok0_name_k02 := ok_name_k02 (P := P) (w := w) (base := base) T F_name_k02 c_dip_k01
  have c_name_k02 : Fc P w K mg base ⟨false, false, false⟩ "_law_name" 2 1 (G_name_k02 (ad K)) := ⟨_, fd_name_k02, ["_law_well_here"], ok0_name_k02, b_name_k02, F_name_k02.kp, He.glo_ok X G (c.fact 9 (f := .glo "_law_name") rfl)⟩
  have ok0_sign_k04 := ok_sign_k04 (P := P) (w := w) (base := base) T F_sign_k04 c_dip_k01
  have c_sign_k04 : Fc P w K mg base ⟨false, false, false⟩ "_law_sign" 2 2 (G_sign_k04 (ad K)) := ⟨_, fd_sign_k04, ["_law_well_here", "_law_often"], ok0_sign_k04, b_sign_k04, F_sign_k04.kp, He.glo_ok X G (c.fact 10 (f := .glo "_law_sign") rfl)⟩
  have ok0_bent_name_k10 := ok_bent_name_k10 (P := P) (w := w) (base := base) T F_bent_name_k10 c_dip_k01 c_name_k02 c_sign_k04
  have c_bent_name_k10 : Fc P w K mg base ⟨false, false, false⟩ "_law_bent_name" 3 1 (G_bent_name_k10 (ad K)) := ⟨_, fd_bent_name_k10, ["_law_well_here"], ok0_bent_name_k10, b_bent_name_k10, F_bent_name_k10.kp, He.glo_ok X G (c.fact 11 (f := .glo "_law_bent_name") rfl)⟩
  have ok0_value_k10 := ok_value_k10 (P := P) (w := w) (base := base) T F_value_k10 c_dip_k01 c_odd_k04 c_name_k02 c_bent_name_k10
  have c_value_k10 : Fc P w K mg base ⟨false, false, false⟩ "_law_value" 4 1 (G_value_k10 (ad K)) := ⟨_, fd_value_k10, ["_law_well_here"], ok0_value_k10, b_value_k10, F_value_k10.kp, He.glo_ok X G (c.fact 12 (f := .glo "_law_value") rfl)⟩
  have ok0_is_name_k04 := ok_is_name_k04 (P := P) (w := w) (base := base) T F_is_name_k04 
  have c_is_name_k04 : Fc P w K mg base ⟨false, false, false⟩ "_law_is_name" 1 1 (G_is_name_k04 (ad K)) := ⟨_, fd_is_name_k04, ["_law_word"], ok0_is_name_k04, b_is_name_k04, F_is_name_k04.kp, He.glo_ok X G (c.fact 13 (f := .glo "_law_is_name") rfl)⟩
  have ok0_first_bad_k10 := ok_first_bad_k10 (P := P) (w := w) (base := base) T F_first_bad_k10 c_is_name_k04
  have c_first_bad_k10 : Fc P w K mg base ⟨false, false, false⟩ "_law_first_bad" 2 1 (G_first_bad_k10 (ad K)) := ⟨_, fd_first_bad_k10, ["_law_some"], ok0_first_bad_k10, b_first_bad_k10, F_first_bad_k10.kp, He.glo_ok X G (c.fact 14 (f := .glo "_law_first_bad") rfl)⟩
  have ok0_Pipe_init := ok_Pipe_init (nn := false) (P := P) (w := w) (base := base) T F_Pipe_init c_check_name x_InvalidEnd
  have mk_Pipe_0_start_end_name : Mk_ P w K mg base false "Pipe" ((ad K).c "Pipe") 4 4 0 ["start", "end", "name"] (G_Pipe_init (ad K)) (perm [2, 0, 1]) := mkK_of 0 ["start", "end", "name"] [2, 0, 1] F_Pipe_init (He.mkr_ok (c.fact 34 (f := .mkr "Pipe") rfl)) ok0_Pipe_init T.m_Pipe fun _ _ _ _ _ _ us ws hu hw => match us, hu, ws, hw with | [_], _, [_, _, _], _ => rfl
  have mk_Pipe_3 : Mc P w K mg base false "Pipe" ((ad K).c "Pipe") 4 4 (G_Pipe_init (ad K)) [] := ⟨_, fd_Pipe_init, ["self", "name", "start", "end"], [], [], He.mkr_ok (c.fact 34 (f := .mkr "Pipe") rfl), ok0_Pipe_init, b_Pipe_init, .nil, fun _ _ => .nil, T.m_Pipe⟩
  have ok0_pipe_right_k10 := ok_pipe_right_k10 (P := P) (w := w) (base := base) T F_pipe_right_k10 c_seen_k10 c_caught_k10 c_dip_k01 c_value_k10 c_first_bad_k10 mk_Pipe_0_start_end_name mk_Pipe_3 (tabD_of (p := ("_law_pipe_right", none)) (hTB _ (List.mem_map.mpr ⟨("_law_pipe_right", none), by simp [tf], rfl⟩)))
  have c_pipe_right_k10 : Fc P w K mg base ⟨true, false, false⟩ "_law_pipe_right" 8 1 (G_pipe_right_k10 (ad K)) := ⟨_, fd_pipe_right_k10, ["_law_well_here"], ok0_pipe_right_k10, b_pipe_right_k10, F_pipe_right_k10.kp, He.glo_ok X G (c.fact 15 (f := .glo "_law_pipe_right") rfl)⟩
  have ok0_meter_right_k10 := ok_meter_right_k10 (P := P) (w := w) (base := base) T F_meter_right_k10 c_seen_k10 c_caught_k10 c_dip_k01 c_odd_k04 c_value_k10 c_first_bad_k10 mk_Meter_0_sealed_at_name mk_Meter_2_sealed (tabD_of (p := ("_law_meter_right", none)) (hTB _ (List.mem_map.mpr ⟨("_law_meter_right", none), by simp [tf], rfl⟩)))
  have c_meter_right_k10 : Fc P w K mg base ⟨true, false, false⟩ "_law_meter_right" 8 1 (G_meter_right_k10 (ad K)) := ⟨_, fd_meter_right_k10, ["_law_well_here"], ok0_meter_right_k10, b_meter_right_k10, F_meter_right_k10.kp, He.glo_ok X G (c.fact 16 (f := .glo "_law_meter_right") rfl)⟩
  exact ok_law_k10 T F_law_k10 c_caught_k10 c_well_k01 c_pipe_right_k10 c_meter_right_k10 mk_Meter_2_sealed (tabD_of (p := ("law", none)) (hTB _ (List.mem_map.mpr ⟨("law", none), by simp [tf], rfl⟩)))
end K10
end
section
open PySem PySem.W PySem.Calls PyProof.Rows
theorem PySem.Challenge.cw_ringvotes_k10_pipes_and_meters_refused_holds : PySem.Challenge.rw_ringvotes_k10_pipes_and_meters_refused.Holds := by
  w_on; o_law
  refine HandSHeadRun.head_any (r := OpenLaw.row PySem.Challenge.rw_ringvotes_k10_pipes_and_meters_refused) (q := view (OpenLaw.row PySem.Challenge.rw_ringvotes_k10_pipes_and_meters_refused).prog [62]) (H := K10.hk) (ob := K10.ob) (M := 40000) (loose := [("_wall" : PySem.Str), ("BadValue" : PySem.Str), ("BadName" : PySem.Str), ("NoAnswer" : PySem.Str), ("InvalidName" : PySem.Str), ("InvalidEnd" : PySem.Str), ("InvalidFlag" : PySem.Str), ("InvalidText" : PySem.Str), ("InvalidNumber" : PySem.Str), ("NotAMeter" : PySem.Str), ("NotASum" : PySem.Str), ("InvalidPipes" : PySem.Str), ("InvalidMeters" : PySem.Str), ("InvalidTerms" : PySem.Str), ("UnknownName" : PySem.Str), ("MOST_PIPES" : PySem.Str), ("MOST_METERS" : PySem.Str), ("LETTERS" : PySem.Str), ("DIGITS" : PySem.Str), ("LONGEST_NAME" : PySem.Str), ("BLOCK" : PySem.Str), ("is_integer" : PySem.Str), ("is_name" : PySem.Str), ("check_name" : PySem.Str), ("read_number" : PySem.Str), ("digits_of" : PySem.Str), ("check_terms" : PySem.Str), ("merged" : PySem.Str), ("scaled" : PySem.Str), ("term_text" : PySem.Str), ("text_of" : PySem.Str), ("read_term" : PySem.Str), ("read_terms" : PySem.Str), ("Sum" : PySem.Str), ("check_sum" : PySem.Str), ("check_factor" : PySem.Str), ("Pipe" : PySem.Str), ("Meter" : PySem.Str), ("check_pipes" : PySem.Str), ("check_meters" : PySem.Str), ("line_of" : PySem.Str), ("item_of" : PySem.Str), ("Net" : PySem.Str), ("_law_well" : PySem.Str), ("_law_dip" : PySem.Str), ("_law_name" : PySem.Str), ("_law_sign" : PySem.Str), ("_law_odd" : PySem.Str), ("_law_seen" : PySem.Str), ("_law_said" : PySem.Str), ("_law_caught" : PySem.Str), ("_law_is_name" : PySem.Str), ("_law_bent_name" : PySem.Str), ("_law_value" : PySem.Str), ("_law_first_bad" : PySem.Str), ("_law_pipe_right" : PySem.Str), ("_law_meter_right" : PySem.Str)]) (d := HandSHeadRun.topDef (OpenLaw.row PySem.Challenge.rw_ringvotes_k10_pipes_and_meters_refused).prog 62) (kwd := []) K10.ob_eq
    (by kernel_rfl) (fun s => by kernel_rfl) K10.run (by kernel_rfl) (by kernel_rfl) (by kernel_rfl) (by rfl) (by first | assumption | decide +kernel) (by decide +kernel) ⟨rfl, rfl, rfl, rfl, rfl, by decide +kernel⟩ ?hw ?hc
  case hw => w_witness2
  case hc =>
    refine RV.walk_GT (nn := false) (l := PySem.Challenge.rw_ringvotes_k10_pipes_and_meters_refused) (n := 63) (k := 9) (x := "_law_cells") rfl (by decide) (by kernel_rfl) ⟨rfl, by decide, by decide⟩ ?F
    intro w mg fa h Y G hmg0
    obtain ⟨K, KX, c, cx, ct⟩ := Y
    have hmg : mg ("law" : PySem.Str) = some (.ref fa) := by
      have e : (HandSHeadRun.topDef (OpenLaw.row PySem.Challenge.rw_ringvotes_k10_pipes_and_meters_refused).prog 62).name = ("law" : PySem.Str) := by kernel_rfl
      rw [← e]
      exact hmg0
    obtain ⟨fd, hb, hF⟩ := K10.facts (P := (PySem.Challenge.rw_ringvotes_k10_pipes_and_meters_refused).prog) (w := w) KX G hmg c cx
    exact ⟨K, fd, RV.G_law_k10 (K10.ad K), K10.tf.map (He.cT K), K10.tq, KX, fun t ht => by
        obtain ⟨p, hp, rfl⟩ := List.mem_map.mp ht
        exact ct.empty p hp, fun t ht => by
        obtain ⟨p, hp, rfl⟩ := List.mem_map.mp ht
        exact ct.out p hp, fun t ht => by
        obtain ⟨p, hp, rfl⟩ := List.mem_map.mp ht
        exact PySem.W.codeHd_of_K KX (ct.hd p hp), K10.tabs_nd cx, rfl, hb, fun ns q x hl hq => RV.law_true_law_k10 (K10.ad_ok cx) (K10.ad_nd cx) hl hq, hF⟩
end
