import PyProof.Rows.All
import Wide.All
import OpenK.AllK
import Wide.FinOn
import HandS.ForMost
import HandS.ForExc
import HandS.Property
import HandS.MakeKw
import HandS.MakeKwOnly
import HandS.WideBits
import HandS.IsInst
import HandS.OwnEq
import HandS.Flow
import HandS.ExcCtx
import HandS.ExcInit
import HandS.HotCalls
import HandS.SuiteRaise
import HandS.RaiseFrom
import HandS.ExcInitHot
import HandS.Lambda
import HandS.Style
import HandS.Head0
import HandS.Head1
import HandS.Head2
import HandS.HeadEnd
import HandS.HeadHook1
import HandS.HeadHook2
import HandS.HeadHook3
import HandS.HeadHook4
import KE.KStateDown
import HandS.HeadNt
import HandS.ClsMeth
import HandS.Star
import HandS.FStr
import HandS.CallLocal
import HandS.RaiseMore
import HandS.Iter
import KE.GoesEnum
import KE.KCallOwn
import KE.KExcInit
import HandS.ExcIs
import HandS.ExcField
import HandS.Dict
import HandS.EndTab
import KE.KOpsOwn
import HandS.Deep
import HandS.Set
import HandS.SetFor
import HandS.More
import HandS.Strs
import HandS.Text
import HandS.Wide
import OpenK.KMeth
import OpenK.KOps
import PyProof.WalksMore
import HandS.Zip
import HandS.DictComp
import HandS.SetBool
import HandS.TupLe
import HandS.TryOnly
import PyProof.Raises
import PySem.Challenge.RW_ringvotes_k13_net_texts_that_are_none
set_option Elab.async false
set_option linter.all false
set_option maxRecDepth 100000
set_option maxHeartbeats 0
section
/-! Data without a heap (D), how it lies in a heap (Rp), and what a piece of the text computes over it. -/
namespace RV
open PySem L2
inductive D where
  | non
  | bl (b : Bool)
  | int (i : Int)
  | str (s : Str)
  | ty (n : String)
  | adr (a : Addr)
  | cell (k : Nat)
  | scr (ns : List Int)
  | tup (ds : List D)
  | lst (ds : List D)
  | obj (C : Addr) (fs : List (Str × D))
  | dic (kvs : List (Key × D))
  | exc (C : Addr) (fs : List (Str × D))
  | exv (a C d : Addr) (fs : List (Str × D))

mutual
inductive Rp (K : PySem.W.Frag) (as : List Addr) (F : Hp) : D → V → Prop where
  | non : Rp K as F .non .non
  | bl (b : Bool) : Rp K as F (.bl b) (.bl b)
  | int (i : Int) : Rp K as F (.int i) (.int i)
  | str (s : Str) : Rp K as F (.str s) (.str s)
  | ty (n : String) : Rp K as F (.ty n) (.ty n)
  | adr (a : Addr) : Rp K as F (.adr a) (.ref a)
  | cell {k : Nat} {a : Addr} : as[k]? = some a → Rp K as F (.cell k) (.ref a)
  | scr {a : Addr} {ns : List Int} : SqL K F a (ns.map V.int) → Rp K as F (.scr ns) (.ref a)
  | tup {a : Addr} {xs : List V} {ds : List D} : SqT K F a xs → RpL K as F ds xs → Rp K as F (.tup ds) (.ref a)
  | lst {a : Addr} {xs : List V} {ds : List D} : F a = some (.lst xs) → RpL K as F ds xs → Rp K as F (.lst ds) (.ref a)
  | obj {a C dx : Addr} {fs : List (Str × D)} {vfs : List (Str × V)} : F a = some (.ins C dx vfs) → RpF K as F fs vfs → Rp K as F (.obj C fs) (.ref a)
  | dic {a : Addr} {kvs : List (Key × D)} {vkv : List (Key × V)} : F a = some (.dK vkv) → RpK K as F kvs vkv → Rp K as F (.dic kvs) (.ref a)
  | exv {a C d : Addr} {fs : List (Str × D)} {vfs : List (Str × V)} : F d = some (.xd vfs) → RpF K as F fs vfs → Rp K as F (.exv a C d fs) (.ref a)
inductive RpL (K : PySem.W.Frag) (as : List Addr) (F : Hp) : List D → List V → Prop where
  | nil : RpL K as F [] []
  | cons {d : D} {v : V} {ds : List D} {vs : List V} : Rp K as F d v → RpL K as F ds vs → RpL K as F (d :: ds) (v :: vs)
inductive RpF (K : PySem.W.Frag) (as : List Addr) (F : Hp) : List (Str × D) → List (Str × V) → Prop where
  | nil : RpF K as F [] []
  | cons {n : Str} {d : D} {v : V} {fs : List (Str × D)} {vfs : List (Str × V)} : Rp K as F d v → RpF K as F fs vfs → RpF K as F ((n, d) :: fs) ((n, v) :: vfs)
inductive RpK (K : PySem.W.Frag) (as : List Addr) (F : Hp) : List (Key × D) → List (Key × V) → Prop where
  | nil : RpK K as F [] []
  | cons {n : Key} {d : D} {v : V} {fs : List (Key × D)} {vfs : List (Key × V)} : Rp K as F d v → RpK K as F fs vfs → RpK K as F ((n, d) :: fs) ((n, v) :: vfs)
end

/-- what F knows, H knows -/
def Ex (F H : Hp) : Prop := ∀ a o, F a = some o → H a = some o
theorem Ex.refl (F : Hp) : Ex F F := fun _ _ h => h
theorem Ex.trans {F G H : Hp} (a : Ex F G) (b : Ex G H) : Ex F H := fun x o h => b x o (a x o h)
theorem Ex.sqT {K : PySem.W.Frag} {F H : Hp} {a : Addr} {xs : List V} (e : Ex F H) (h : SqT K F a xs) : SqT K H a xs := by
  rcases h with h | h
  · rcases h with h | ⟨o, h⟩
    · exact .inl (.inl (e a _ h))
    · exact .inl (.inr ⟨o, e a _ h⟩)
  · exact .inr h
theorem Ex.sqL {K : PySem.W.Frag} {F H : Hp} {a : Addr} {xs : List V} (e : Ex F H) (h : SqL K F a xs) : SqL K H a xs := by
  rcases h with h | h
  · rcases h with h | ⟨o, h⟩
    · exact .inl (.inl (e a _ h))
    · exact .inl (.inr ⟨o, e a _ h⟩)
  · exact .inr h
theorem Ex.new {F : Hp} {p : Addr} {o : HO} (h : F p = none) : Ex F (upd F p o) := fun a u q => by
  rw [upd_ne (ne_of_none q h)]
  exact q
theorem Ex.both {F H : Hp} {p : Addr} {o : HO} (e : Ex F H) : Ex (upd F p o) (upd H p o) := fun a u q => by
  by_cases h : a = p
  · subst h
    rw [upd_same] at q ⊢
    exact q
  · rw [upd_ne h] at q ⊢
    exact e a u q

def Pre (as bs : List Addr) : Prop := ∀ (i : Nat) (a : Addr), as[i]? = some a → bs[i]? = some a
theorem Pre.refl (as : List Addr) : Pre as as := fun _ _ h => h
theorem Pre.trans {as bs cs : List Addr} (a : Pre as bs) (b : Pre bs cs) : Pre as cs := fun i x h => b i x (a i x h)

section
variable {K : PySem.W.Frag} {as bs : List Addr} {F G : Hp}
mutual
theorem Rp.mono (e : Ex F G) (p : Pre as bs) : ∀ {d : D} {v : V}, Rp K as F d v → Rp K bs G d v
  | _, _, .non => .non
  | _, _, .bl b => .bl b
  | _, _, .int i => .int i
  | _, _, .str s => .str s
  | _, _, .ty n => .ty n
  | _, _, .adr a => .adr a
  | _, _, .cell h => .cell (p _ _ h)
  | _, _, .scr h => .scr (e.sqL h)
  | _, _, .tup h r => .tup (e.sqT h) (RpL.mono e p r)
  | _, _, .lst h r => .lst (e _ _ h) (RpL.mono e p r)
  | _, _, .obj h r => .obj (e _ _ h) (RpF.mono e p r)
  | _, _, .dic h r => .dic (e _ _ h) (RpK.mono e p r)
  | _, _, .exv h r => .exv (e _ _ h) (RpF.mono e p r)
theorem RpL.mono (e : Ex F G) (p : Pre as bs) : ∀ {ds : List D} {vs : List V}, RpL K as F ds vs → RpL K bs G ds vs
  | _, _, .nil => .nil
  | _, _, .cons h r => .cons (Rp.mono e p h) (RpL.mono e p r)
theorem RpF.mono (e : Ex F G) (p : Pre as bs) : ∀ {fs : List (Str × D)} {vfs : List (Str × V)}, RpF K as F fs vfs → RpF K bs G fs vfs
  | _, _, .nil => .nil
  | _, _, .cons h r => .cons (Rp.mono e p h) (RpF.mono e p r)
theorem RpK.mono (e : Ex F G) (p : Pre as bs) : ∀ {fs : List (Key × D)} {vfs : List (Key × V)}, RpK K as F fs vfs → RpK K bs G fs vfs
  | _, _, .nil => .nil
  | _, _, .cons h r => .cons (Rp.mono e p h) (RpK.mono e p r)
end
theorem RpL.length : ∀ {ds : List D} {vs : List V}, RpL K as F ds vs → ds.length = vs.length
  | _, _, .nil => rfl
  | _, _, .cons _ r => congrArg (· + 1) r.length
theorem RpL.append : ∀ {ds es : List D} {vs ws : List V}, RpL K as F ds vs → RpL K as F es ws → RpL K as F (ds ++ es) (vs ++ ws)
  | _, _, _, _, .nil, s => s
  | _, _, _, _, .cons h r, s => .cons h (r.append s)
theorem RpL.get : ∀ {ds : List D} {vs : List V}, RpL K as F ds vs → ∀ {i : Nat} {d : D}, ds[i]? = some d → ∃ v, vs[i]? = some v ∧ Rp K as F d v
  | _, _, .nil, i, d, h => by simp at h
  | _, _, .cons h r, 0, d, e => by
    simp only [List.getElem?_cons_zero, Option.some.injEq] at e
    subst e
    exact ⟨_, rfl, h⟩
  | _, _, .cons h r, i + 1, d, e => by
    obtain ⟨v, q, z⟩ := r.get (i := i) (d := d) (by simpa using e)
    exact ⟨v, by simpa using q, z⟩
theorem RpL.get' : ∀ {ds : List D} {vs : List V}, RpL K as F ds vs → ∀ {i : Nat} {v : V}, vs[i]? = some v → ∃ d, ds[i]? = some d ∧ Rp K as F d v
  | _, _, .nil, i, d, h => by simp at h
  | _, _, .cons h r, 0, d, e => by
    simp only [List.getElem?_cons_zero, Option.some.injEq] at e
    subst e
    exact ⟨_, rfl, h⟩
  | _, _, .cons h r, i + 1, d, e => by
    obtain ⟨v, q, z⟩ := r.get' (i := i) (v := d) (by simpa using e)
    exact ⟨v, by simpa using q, z⟩
theorem RpL.set {d : D} {v : V} (h : Rp K as F d v) : ∀ {ds : List D} {vs : List V} (i : Nat), RpL K as F ds vs → RpL K as F (ds.set i d) (vs.set i v)
  | _, _, _, .nil => .nil
  | _, _, 0, .cons _ r => .cons h r
  | _, _, i + 1, .cons q r => .cons q (RpL.set h i r)
theorem RpL.drop : ∀ {ds : List D} {vs : List V} (n : Nat), RpL K as F ds vs → RpL K as F (ds.drop n) (vs.drop n)
  | _, _, 0, r => r
  | _, _, _ + 1, .nil => .nil
  | _, _, n + 1, .cons _ r => RpL.drop n r
theorem RpL.take : ∀ {ds : List D} {vs : List V} (n : Nat), RpL K as F ds vs → RpL K as F (ds.take n) (vs.take n)
  | _, _, 0, _ => .nil
  | _, _, _ + 1, .nil => .nil
  | _, _, n + 1, .cons h r => .cons h (RpL.take n r)
theorem RpF.look {f : Str} : ∀ {fs : List (Str × D)} {vfs : List (Str × V)} {d : D}, RpF K as F fs vfs → fs.lookup f = some d → ∃ v, vfs.lookup f = some v ∧ Rp K as F d v
  | _, _, d, .nil, e => by simp at e
  | _, _, d, .cons (n := n) h r, e => by
    by_cases q : (f == n) = true
    · simp only [List.lookup, q] at e ⊢
      cases e
      exact ⟨_, rfl, h⟩
    · have q' : (f == n) = false := by simpa using q
      simp only [List.lookup, q'] at e ⊢
      exact r.look e
theorem RpF.look0 {f : Str} : ∀ {fs : List (Str × D)} {vfs : List (Str × V)}, RpF K as F fs vfs → fs.lookup f = none → vfs.lookup f = none
  | _, _, .nil, e => rfl
  | _, _, .cons (n := n) h r, e => by
    by_cases q : (f == n) = true
    · simp only [List.lookup, q] at e
      cases e
    · have q' : (f == n) = false := by simpa using q
      simp only [List.lookup, q'] at e ⊢
      exact r.look0 e
theorem RpL.unsn {ds : List D} {d : D} {vs : List V} (r : RpL K as F (d :: ds) vs) : ∃ v ws, vs = v :: ws ∧ Rp K as F d v ∧ RpL K as F ds ws := by
  cases r with
  | cons h r => exact ⟨_, _, rfl, h, r⟩
theorem RpL.unnil {vs : List V} (r : RpL K as F [] vs) : vs = [] := by
  cases r
  rfl
end

/-! ### cells: lists, dicts, objects that change; what they hold names no cell -/
inductive Cell where
  | lst (ds : List D)
  | dic (kvs : List (Key × D))
  | ob (C : Addr) (fs : List (Str × D))
  | tab (P : Addr) (q : Str)
  | hid
def Cell.isHid : Cell → Bool
  | .hid => true
  | _ => false
abbrev WS := List Cell
/-- what a table of code objects holds -/
def TabOk (F : Hp) (q : Str) (ps : Array Value) : Prop := TriplesOk ps.toList ∧ ∀ (pos : Pos) (cv : Value), codeAmong pos ps.toList = some cv → ∃ c, cv = .ref c ∧ F c = some (LamX.CodeO c q)
def CellOf (K : PySem.W.Frag) (F : Hp) (p : Addr) : Cell → HO → Prop
  | .lst ds, .lst xs => RpL K [] F ds xs
  | .dic kvs, .dK vkv => RpK K [] F kvs vkv
  | .ob C fs, .ins C' _ vfs => C' = C ∧ RpF K [] F fs vfs
  | .tab P q, .tbl ps => p = P ∧ TabOk F q ps
  | .hid, _ => True
  | _, _ => False
theorem CellOf.mono {K : PySem.W.Frag} {F G : Hp} {p : Addr} (e : Ex F G) : ∀ {c : Cell} {o : HO}, CellOf K F p c o → CellOf K G p c o := by
  intro c o h
  cases c with
  | hid => trivial
  | tab P q =>
    cases o with
    | tbl ps => exact ⟨h.1, h.2.1, fun pos cv hc => let ⟨c, e1, e2⟩ := h.2.2 pos cv hc; ⟨c, e1, e _ _ e2⟩⟩
    | _ => exact h.elim
  | lst ds =>
    cases o with
    | lst xs => exact RpL.mono e (Pre.refl _) h
    | _ => exact h.elim
  | dic ds =>
    cases o with
    | dK xs => exact RpK.mono e (Pre.refl _) h
    | _ => exact h.elim
  | ob C fs =>
    cases o with
    | ins C' dx vfs => exact ⟨h.1, RpF.mono e (Pre.refl _) h.2⟩
    | _ => exact h.elim
structure CellAt (K : PySem.W.Frag) (F H : Hp) (p : Addr) (c : Cell) : Prop where
  out : c.isHid = false → F p = none
  at_ : ∃ o, H p = some o ∧ CellOf K F p c o
theorem CellAt.there {K : PySem.W.Frag} {F H : Hp} {p : Addr} {c : Cell} (h : CellAt K F H p c) : H p ≠ none := by
  obtain ⟨o, e, _⟩ := h.at_
  rw [e]
  simp
/-- F: what stands still; H: the heap; as, S: the cells -/
structure Sit (K : PySem.W.Frag) (as : List Addr) (F H : Hp) (S : WS) : Prop where
  len : as.length = S.length
  ex : Ex F H
  nd : as.Nodup
  cell : ∀ (i : Nat) (p : Addr) (c : Cell), as[i]? = some p → S[i]? = some c → CellAt K F H p c
theorem Sit.at_ {K : PySem.W.Frag} {as : List Addr} {F H : Hp} {S : WS} (I : Sit K as F H S) {i : Nat} {c : Cell} (h : S[i]? = some c) : ∃ p, as[i]? = some p ∧ CellAt K F H p c := by
  have hl : i < as.length := by
    rw [I.len]
    exact (List.getElem?_eq_some_iff.mp h).1
  exact ⟨as[i], List.getElem?_eq_getElem hl, I.cell i _ c (List.getElem?_eq_getElem hl) h⟩
theorem Sit.there {K : PySem.W.Frag} {as : List Addr} {F H : Hp} {S : WS} (I : Sit K as F H S) {p : Addr} (h : p ∈ as) : H p ≠ none := by
  obtain ⟨i, hi⟩ := List.getElem?_of_mem h
  have hl : i < S.length := by
    rw [← I.len]
    exact (List.getElem?_eq_some_iff.mp hi).1
  exact (I.cell i p S[i] hi (List.getElem?_eq_getElem hl)).there
structure Grow (K : PySem.W.Frag) (as : List Addr) (F H : Hp) (bs : List Addr) (F' H' : Hp) (S' : WS) : Prop where
  sit : Sit K bs F' H' S'
  pre : Pre as bs
  ex : Ex F F'
  new : ∀ a, F' a ≠ none → F a ≠ none ∨ H a = none
  newc : ∀ p ∈ bs, p ∈ as ∨ H p = none
  old : ∀ a o, a ∉ as → H a = some o → H' a = some o
  there : ∀ a, H a ≠ none → H' a ≠ none
section
variable {K : PySem.W.Frag} {as bs cs : List Addr} {F H F1 H1 F2 H2 : Hp} {S S1 S2 : WS}
theorem Grow.refl (I : Sit K as F H S) : Grow K as F H as F H S :=
  ⟨I, Pre.refl _, Ex.refl _, fun _ h => .inl h, fun _ h => .inl h, fun _ _ _ h => h, fun _ h => h⟩
theorem none_back {a : Addr} (t : H a ≠ none → H1 a ≠ none) (h : H1 a = none) : H a = none := by
  cases q : H a with
  | none => rfl
  | some o => exact absurd h (t (by rw [q]; simp))
theorem Grow.trans (a : Grow K as F H bs F1 H1 S1) (b : Grow K bs F1 H1 cs F2 H2 S2) : Grow K as F H cs F2 H2 S2 where
  sit := b.sit
  pre := a.pre.trans b.pre
  ex := a.ex.trans b.ex
  new := fun x h => by
    rcases b.new x h with h | h
    · exact a.new x h
    · exact .inr (none_back (a.there x) h)
  newc := fun p h => by
    rcases b.newc p h with h | h
    · exact a.newc p h
    · exact .inr (none_back (a.there p) h)
  old := fun x o h q => by
    have q1 := a.old x o h q
    refine b.old x o (fun hx => ?_) q1
    rcases a.newc x hx with z | z
    · exact h z
    · rw [z] at q
      cases q
  there := fun x h => b.there x (a.there x h)
theorem RpE_aux {d : D} {v : V} (g : Grow K as F H bs F1 H1 S1) (r : Rp K as F d v) : Rp K bs F1 d v := r.mono g.ex g.pre
theorem Sit.out {p : Addr} (I : Sit K as F H S) (hp : H p = none) : F p = none := by
  cases q : F p with
  | none => rfl
  | some u =>
    have z := I.ex p u q
    rw [hp] at z
    cases z
theorem upd_there {p a : Addr} {o : HO} (h : H a ≠ none) : upd H p o a ≠ none := by
  by_cases e : a = p
  · subst e
    rw [upd_same]
    simp
  · rw [upd_ne e]
    exact h
/-- a new thing that stands still -/
theorem Sit.grow {p : Addr} {o : HO} (I : Sit K as F H S) (hp : H p = none) : Grow K as F H as (upd F p o) (upd H p o) S := by
  have fp : F p = none := I.out hp
  have np : ∀ q ∈ as, q ≠ p := fun q hq e => I.there (e ▸ hq) hp
  refine ⟨⟨I.len, I.ex.both, I.nd, fun i q c h1 h2 => ?_⟩, Pre.refl _, Ex.new fp, fun a h => ?_, fun _ h => .inl h, fun a u _ h => ?_, fun a h => upd_there h⟩
  · obtain ⟨z1, ob, z2, z3⟩ := I.cell i q c h1 h2
    have nq : q ≠ p := np q (List.mem_of_getElem? h1)
    exact ⟨fun h => by rw [upd_ne nq]; exact z1 h, ob, by rw [upd_ne nq]; exact z2, z3.mono (Ex.new fp)⟩
  · by_cases e : a = p
    · subst e
      exact .inr hp
    · rw [upd_ne e] at h
      exact .inl h
  · rw [upd_ne (ne_of_none h hp)]
    exact h
/-- a thing that neither stands still nor is a cell changes -/
theorem Sit.other {p : Addr} {o : HO} (I : Sit K as F H S) (hf : F p = none) (ha : p ∉ as) : Sit K as F (upd H p o) S := by
  refine ⟨I.len, fun a u h => ?_, I.nd, fun i q c h1 h2 => ?_⟩
  · have np : a ≠ p := fun z => by rw [z, hf] at h; cases h
    rw [upd_ne np]
    exact I.ex a u h
  · obtain ⟨z1, ob, z2, z3⟩ := I.cell i q c h1 h2
    have nq : q ≠ p := fun z => ha (z ▸ List.mem_of_getElem? h1)
    exact ⟨z1, ob, by rw [upd_ne nq]; exact z2, z3⟩
/-- a thing that is no cell stands still from here on -/
theorem Sit.freeze {p : Addr} {o : HO} (I : Sit K as F H S) (hf : F p = none) (ha : p ∉ as) (hp : H p = some o) : Sit K as (upd F p o) H S := by
  refine ⟨I.len, fun a u h => ?_, I.nd, fun i q c h1 h2 => ?_⟩
  · by_cases e2 : a = p
    · subst e2
      rw [upd_same] at h
      cases h
      exact hp
    · rw [upd_ne e2] at h
      exact I.ex a u h
  · obtain ⟨z1, ob, z2, z3⟩ := I.cell i q c h1 h2
    have nq : q ≠ p := fun z => ha (z ▸ List.mem_of_getElem? h1)
    exact ⟨fun h => by rw [upd_ne nq]; exact z1 h, ob, z2, z3.mono (Ex.new hf)⟩
end

/-! ### what is computed -/
abbrev Env := List (Option D)
abbrev Xq := D → WS → Prop
abbrev M := WS → (D → WS → Prop) → Xq → Prop
abbrev MB := WS → (Bool → WS → Prop) → Xq → Prop
abbrev ML := WS → (List D → WS → Prop) → Xq → Prop
/-- where a statement may go on -/
structure Kt where
  nx : Env → WS → Prop
  rt : D → WS → Prop
  bk : Env → WS → Prop
  ct : Env → WS → Prop
  ex : D → Env → WS → Prop
abbrev MS := WS → Kt → Prop
/-- the slots -/
structure RpE (K : PySem.W.Frag) (as : List Addr) (F : Hp) (ρ : Env) (σ : L2.St) : Prop where
  len : ρ.length = σ.length
  at_ : ∀ (i : Nat) (d : D), ρ[i]? = some (some d) → ∃ v, σ[i]? = some (some v) ∧ Rp K as F d v
theorem RpE.mono {K : PySem.W.Frag} {as bs : List Addr} {F G : Hp} {ρ : Env} {σ : L2.St} (r : RpE K as F ρ σ) (e : Ex F G) (p : Pre as bs) : RpE K bs G ρ σ :=
  ⟨r.len, fun i d h => let ⟨v, h1, h2⟩ := r.at_ i d h; ⟨v, h1, h2.mono e p⟩⟩
theorem RpE.grow {K : PySem.W.Frag} {as bs : List Addr} {F H F1 H1 : Hp} {S1 : WS} {ρ : Env} {σ : L2.St} (r : RpE K as F ρ σ) (g : Grow K as F H bs F1 H1 S1) : RpE K bs F1 ρ σ := r.mono g.ex g.pre
theorem RpE.set {K : PySem.W.Frag} {as : List Addr} {F : Hp} {ρ : Env} {σ : L2.St} {i : Nat} {d : D} {v : V} (r : RpE K as F ρ σ) (h : Rp K as F d v) : RpE K as F (ρ.set i (some d)) (σ.set i (some v)) := by
  refine ⟨by rw [List.length_set, List.length_set]; exact r.len, fun j e q => ?_⟩
  by_cases hj : i = j
  · subst hj
    have hl : i < ρ.length := by
      have := (List.getElem?_eq_some_iff.mp q).1
      rwa [List.length_set] at this
    rw [List.getElem?_set_self hl] at q
    cases q
    exact ⟨v, List.getElem?_set_self (by rw [← r.len]; exact hl), h⟩
  · rw [List.getElem?_set_ne hj] at q ⊢
    exact r.at_ j e q
/-- an error in flight -/
def RxD (K : PySem.W.Frag) (as : List Addr) (F : Hp) (e : D) (cls : Value) (dd : Option Addr) : Prop := ∃ (C d : Addr) (fs : List (Str × D)) (vfs : List (Str × V)), e = .exc C fs ∧ cls = .ref C ∧ dd = some d ∧ F d = some (.xd vfs) ∧ RpF K as F fs vfs
theorem RxD.mono {K : PySem.W.Frag} {as bs : List Addr} {F G : Hp} {e : D} {cls : Value} {dd : Option Addr} (x : Ex F G) (p : Pre as bs) (r : RxD K as F e cls dd) : RxD K bs G e cls dd := by
  obtain ⟨C, d, fs, vfs, e1, e2, e3, e4, e5⟩ := r
  exact ⟨C, d, fs, vfs, e1, e2, e3, x _ _ e4, e5.mono x p⟩
/-- the value's end -/
def NQ (K : PySem.W.Frag) (as : List Addr) (F H : Hp) (q : D → WS → Prop) (Q : VK) : Prop := ∀ d S' bs F' H' v, q d S' → Grow K as F H bs F' H' S' → Rp K bs F' d v → Q v H'
/-- the error's end -/
def XQ (K : PySem.W.Frag) (as : List Addr) (F H : Hp) (x : Xq) (E : XK) : Prop := ∀ e S' bs F' H' cls dd, x e S' → Grow K as F H bs F' H' S' → RxD K bs F' e cls dd → E cls dd H'
section
variable {K : PySem.W.Frag} {as bs : List Addr} {F H F1 H1 : Hp} {S1 : WS} {q : D → WS → Prop} {Q : VK} {x : Xq} {E : XK}
theorem NQ.step (h : NQ K as F H q Q) (g : Grow K as F H bs F1 H1 S1) : NQ K bs F1 H1 q Q := fun d S' cs F' H' v a b c => h d S' cs F' H' v a (g.trans b) c
theorem XQ.step (h : XQ K as F H x E) (g : Grow K as F H bs F1 H1 S1) : XQ K bs F1 H1 x E := fun d S' cs F' H' v w a b c => h d S' cs F' H' v w a (g.trans b) c
theorem XQ.no : XQ K as F H (fun _ _ => False) E := fun _ _ _ _ _ _ _ h => h.elim
end
/-- the value of an expression's reading, by the data -/
def ME (K : PySem.W.Frag) (W : WX) (te : TE) (m : Env → M) : Prop := ∀ (as : List Addr) (F H : Hp) (S : WS) (ρ : Env) (σ : L2.St), Sit K as F H S → RpE K as F ρ σ → ∀ q x, m ρ S q x →
  ∀ Q : VK, NQ K as F H q Q → XQ K as F H x (WE W σ) → te σ H Q
def MTt (K : PySem.W.Frag) (W : WX) (te : TT) (m : Env → MB) : Prop := ∀ (as : List Addr) (F H : Hp) (S : WS) (ρ : Env) (σ : L2.St), Sit K as F H S → RpE K as F ρ σ → ∀ q x, m ρ S q x →
  ∀ Q : Bool → Hp → Prop, (∀ b S' bs F' H', q b S' → Grow K as F H bs F' H' S' → Q b H') → XQ K as F H x (WE W σ) → te σ H Q
def MA (K : PySem.W.Frag) (W : WX) (te : TA) (m : Env → ML) : Prop := ∀ (as : List Addr) (F H : Hp) (S : WS) (ρ : Env) (σ : L2.St), Sit K as F H S → RpE K as F ρ σ → ∀ q x, m ρ S q x →
  ∀ Q : List V → Hp → Prop, (∀ ds S' bs F' H' vs, q ds S' → Grow K as F H bs F' H' S' → RpL K bs F' ds vs → Q vs H') → XQ K as F H x (WE W σ) → te σ H Q
structure SQ (K : PySem.W.Frag) (W : WX) (as : List Addr) (F H : Hp) (k : Kt) (E : Ends) : Prop where
  nx : ∀ ρ' S' bs F' H' σ', k.nx ρ' S' → Grow K as F H bs F' H' S' → RpE K bs F' ρ' σ' → E.nx σ' H'
  rt : ∀ d S' bs F' H' v, k.rt d S' → Grow K as F H bs F' H' S' → Rp K bs F' d v → E.rt v H'
  bk : ∀ ρ' S' bs F' H' σ', k.bk ρ' S' → Grow K as F H bs F' H' S' → RpE K bs F' ρ' σ' → E.bk σ' H'
  ct : ∀ ρ' S' bs F' H' σ', k.ct ρ' S' → Grow K as F H bs F' H' S' → RpE K bs F' ρ' σ' → E.ct σ' H'
  ex : ∀ e ρ' S' bs F' H' σ' cls dd, k.ex e ρ' S' → Grow K as F H bs F' H' S' → RpE K bs F' ρ' σ' → RxD K bs F' e cls dd → W cls dd σ' H'
theorem SQ.step {K : PySem.W.Frag} {W : WX} {as bs : List Addr} {F H F1 H1 : Hp} {S1 : WS} {k : Kt} {E : Ends} (h : SQ K W as F H k E) (g : Grow K as F H bs F1 H1 S1) : SQ K W bs F1 H1 k E :=
  ⟨fun a b c d e f x y => h.nx a b c d e f x (g.trans y), fun a b c d e f x y => h.rt a b c d e f x (g.trans y), fun a b c d e f x y => h.bk a b c d e f x (g.trans y), fun a b c d e f x y => h.ct a b c d e f x (g.trans y), fun a b c d e f i j l x y => h.ex a b c d e f i j l x (g.trans y)⟩
/-- an expression's error within a statement -/
theorem SQ.xq {K : PySem.W.Frag} {W : WX} {as : List Addr} {F H : Hp} {k : Kt} {E : Ends} {ρ : Env} {σ : L2.St} (h : SQ K W as F H k E) (R : RpE K as F ρ σ) : XQ K as F H (fun e S' => k.ex e ρ S') (WE W σ) := fun e S' bs F' H' cls dd a g r => h.ex e ρ S' bs F' H' σ cls dd a g (R.grow g) r
def MSt (K : PySem.W.Frag) (W : WX) (ts : TS) (m : Env → MS) : Prop := ∀ (as : List Addr) (F H : Hp) (S : WS) (ρ : Env) (σ : L2.St), Sit K as F H S → RpE K as F ρ σ → ∀ k, m ρ S k →
  ∀ E : Ends, SQ K W as F H k E → ts E σ H

structure GE (X : Cx) (W : WX) (e : Expr) (m : Env → M) : Prop where
  ex : ∃ te, PE X e te ∧ ME X.K W te m
structure GT (X : Cx) (W : WX) (e : Expr) (m : Env → MB) : Prop where
  ex : ∃ te, PT X e te ∧ MTt X.K W te m
structure GW (X : Cx) (W : WX) (e : Expr) (m : Env → MB) : Prop where
  ex : ∃ te, PW X e te ∧ MTt X.K W te m
structure GA (X : Cx) (W : WX) (es : List Expr) (m : Env → ML) : Prop where
  ex : ∃ te, PA X es te ∧ MA X.K W te m
structure GS (X : Cx) (W : WX) (st : Stmt) (m : Env → MS) : Prop where
  ex : ∃ ts, PS X st ts ∧ MSt X.K W ts m
structure GSs (X : Cx) (W : WX) (sts : List Stmt) (m : Env → MS) : Prop where
  ex : ∃ ts, PSs X sts ts ∧ MSt X.K W ts m
end RV
end
section
namespace RV
/-- whether the errors that are caught are known to have no context -/
def zN : Bool := false
end RV
end
section
/-! Expressions: what each construct computes, and that its reading keeps to it. -/
namespace RV
open PySem L2
section
variable {X : Cx} {W : WX} {a b c e : Expr} {pos : Pos} {ea eb ec ee : Env → M}

def onS {α : Type} (o : Option α) (k : α → Prop) : Prop := match o with
  | some a => k a
  | none => False
theorem onS_ok {α : Type} {o : Option α} {k : α → Prop} (h : onS o k) : ∃ a, o = some a ∧ k a := by
  cases o with
  | none => exact h.elim
  | some a => exact ⟨a, rfl, h⟩
def look : Env → Nat → Option D
  | [], _ => none
  | d :: _, 0 => d
  | _ :: r, n + 1 => look r n
theorem look_at : ∀ {ρ : Env} {i : Nat} {d : D}, look ρ i = some d → ρ[i]? = some (some d)
  | [], _, _, h => by cases h
  | _ :: _, 0, _, h => by
    unfold look at h
    rw [h]
    rfl
  | _ :: _, n + 1, _, h => by
    unfold look at h
    simpa using look_at h
def eVar (i : Nat) : Env → M := fun ρ S q _ => onS (look ρ i) fun d => q d S
def eC (d : D) : Env → M := fun _ S q _ => q d S
theorem ge_var (i : Nat) {x : Str} (hN : X.N[i]? = some x := by rfl) (hv : Vis X.env.scope x := by first | exact Or.inl rfl | exact Or.inr (Or.inl rfl) | exact Or.inr (Or.inr rfl))
    (hd : (x == ("__debug__" : Str)) = false := by decide) (hcd : (x == ("__classdict__" : Str)) = false := by decide) : GE X W (.Name x pos) (eVar i) := by
  refine ⟨tVar i, pe_var hN hv hd hcd, fun as F H S ρ σ I R q x h Q hq _ => ?_⟩
  obtain ⟨d, h1, h2⟩ := onS_ok h
  obtain ⟨v, h3, h4⟩ := R.at_ i _ (look_at h1)
  exact ⟨v, h3, hq d S as F H v h2 (Grow.refl I) h4⟩
theorem me_c {K : PySem.W.Frag} {v : V} {d : D} (h : ∀ as F, Rp K as F d v) : ME K W (tC v) (eC d) := fun as F H S ρ σ I R q x e Q hq _ => hq d S as F H v e (Grow.refl I) (h as F)
theorem ge_int {i : Int} {j : Nat} : GE X W (.Constant (.int i) j pos) (eC (.int i)) := ⟨_, pe_int, me_c fun _ _ => .int i⟩
theorem ge_bl {i : Bool} {j : Nat} : GE X W (.Constant (.bool i) j pos) (eC (.bl i)) := ⟨_, pe_bl, me_c fun _ _ => .bl i⟩
theorem ge_str {i : Str} {j : Nat} : GE X W (.Constant (.str i) j pos) (eC (.str i)) := ⟨_, pe_str, me_c fun _ _ => .str i⟩
theorem ge_non {j : Nat} : GE X W (.Constant .none j pos) (eC .non) := ⟨_, pe_non, me_c fun _ _ => .non⟩
/-- a module's text, number, class -/
theorem ge_gstr {x z : Str} (hm : ∃ t, X.mg x = some (.str z t)) (hg : Gl X x := by rfl) (hd : (x == ("__debug__" : Str)) = false := by decide) : GE X W (.Name x pos) (eC (.str z)) := by
  obtain ⟨t, hm⟩ := hm
  exact ⟨_, pe_glob (v := .str z) hg hm ⟨t, rfl⟩ hd, me_c fun _ _ => .str z⟩
theorem ge_gint {x : Str} {i : Int} (hm : ∃ t, X.mg x = some (.int i t)) (hg : Gl X x := by rfl) (hd : (x == ("__debug__" : Str)) = false := by decide) : GE X W (.Name x pos) (eC (.int i)) := by
  obtain ⟨t, hm⟩ := hm
  exact ⟨_, pe_glob (v := .int i) hg hm ⟨t, rfl⟩ hd, me_c fun _ _ => .int i⟩
theorem ge_gref {x : Str} {a : Addr} (hm : X.mg x = some (.ref a)) (hg : Gl X x := by rfl) (hd : (x == ("__debug__" : Str)) = false := by decide) : GE X W (.Name x pos) (eC (.adr a)) :=
  ⟨_, pe_glob (v := .ref a) hg hm rfl hd, me_c fun _ _ => .adr a⟩
theorem ge_ty {x : Str} {n : String} (hm : X.mg x = none) (hv : bootBuiltins x = some (.type n)) (hg : Gl X x := by rfl) (hn : x ≠ "__name__" := by decide) (hd : (x == ("__debug__" : Str)) = false := by decide) : GE X W (.Name x pos) (eC (.ty n)) :=
  ⟨_, pe_bltn (v := .ty n) hg hm hv rfl hn hd, me_c fun _ _ => .ty n⟩

/-! ### operations -/
/-- an operation on values by one on data; nothing but new things comes -/
def RO (K : PySem.W.Frag) (r : R2) (f : WS → D → D → Option D) : Prop := ∀ (as : List Addr) (F H : Hp) (S : WS) (x y d : D) (vx vy : V), Sit K as F H S → Rp K as F x vx → Rp K as F y vy → f S x y = some d →
  ∀ Q : VK, (∀ F' H' v, Grow K as F H as F' H' S → Rp K as F' d v → Q v H') → r vx vy H Q
def eOp (f : WS → D → D → Option D) (ea eb : Env → M) : Env → M := fun ρ S q x => ea ρ S (fun u S1 => eb ρ S1 (fun v S2 => onS (f S2 u v) fun d => q d S2) x) x
theorem me_op {K : PySem.W.Frag} {r : R2} {f : WS → D → D → Option D} {ta tb : TE} (hr : RO K r f) (ha : ME K W ta ea) (hb : ME K W tb eb) : ME K W (tOp r ta tb) (eOp f ea eb) := fun as F H S ρ σ I R q x h Q hq hx => by
  refine ha as F H S ρ σ I R _ x h _ (fun u S1 bs F1 H1 v1 h1 g1 r1 => ?_) hx
  refine hb bs F1 H1 S1 ρ σ g1.sit (R.grow g1) _ x h1 _ (fun w S2 cs F2 H2 v2 h2 g2 r2 => ?_) (hx.step g1)
  obtain ⟨d, h3, h4⟩ := onS_ok h2
  exact hr cs F2 H2 S2 u w d v1 v2 g2.sit (RpE_aux g2 r1) r2 h3 Q fun F3 H3 v3 g3 r3 => hq d S2 cs F3 H3 v3 h4 ((g1.trans g2).trans g3) r3
theorem ge_op {op : Operator} {r : R2} {f : WS → D → D → Option D} (ho : OpR X (binaryOp op) r) (hr : RO X.K r f) (ha : GE X W a ea) (hb : GE X W b eb) : GE X W (.BinOp a op b pos) (eOp f ea eb) := by
  obtain ⟨ta, pa, ma⟩ := ha
  obtain ⟨tb, pb, mb⟩ := hb
  exact ⟨_, pe_op ho pa pb, me_op hr ma mb⟩
theorem ge_cmp {op : CmpOp} {r : R2} {f : WS → D → D → Option D} (ho : OpR X (compareOp op) r) (hr : RO X.K r f) (ha : GE X W a ea) (hb : GE X W b eb) (hm : behindInMarks op b = false) : GE X W (.Compare a [op] [b] pos) (eOp f ea eb) := by
  obtain ⟨ta, pa, ma⟩ := ha
  obtain ⟨tb, pb, mb⟩ := hb
  exact ⟨_, pe_cmpR ho pa pb hm, me_op hr ma mb⟩
theorem ge_ix {r : R2} {f : WS → D → D → Option D} (ho : IxR X r) (hr : RO X.K r f) (ha : GE X W a ea) (hb : GE X W b eb) (hs : PlainIx b := by exact fun _ _ => rfl) : GE X W (.Subscript a b pos) (eOp f ea eb) := by
  obtain ⟨ta, pa, ma⟩ := ha
  obtain ⟨tb, pb, mb⟩ := hb
  exact ⟨_, pe_ix ho pa pb hs, me_op hr ma mb⟩
def RU (K : PySem.W.Frag) (r : V → Hp → VK → Prop) (f : WS → D → Option D) : Prop := ∀ (as : List Addr) (F H : Hp) (S : WS) (x d : D) (vx : V), Sit K as F H S → Rp K as F x vx → f S x = some d →
  ∀ Q : VK, (∀ F' H' v, Grow K as F H as F' H' S → Rp K as F' d v → Q v H') → r vx H Q
def eUn (f : WS → D → Option D) (ea : Env → M) : Env → M := fun ρ S q x => ea ρ S (fun u S1 => onS (f S1 u) fun d => q d S1) x
theorem me_un {K : PySem.W.Frag} {r : V → Hp → VK → Prop} {f : WS → D → Option D} {ta : TE} (hr : RU K r f) (ha : ME K W ta ea) : ME K W (tUn r ta) (eUn f ea) := fun as F H S ρ σ I R q x h Q hq hx => by
  refine ha as F H S ρ σ I R _ x h _ (fun u S1 bs F1 H1 v1 h1 g1 r1 => ?_) hx
  obtain ⟨d, h3, h4⟩ := onS_ok h1
  exact hr bs F1 H1 S1 u d v1 g1.sit r1 h3 Q fun F3 H3 v3 g3 r3 => hq d S1 bs F3 H3 v3 h4 (g1.trans g3) r3
theorem ge_un {op : UnaryOp} {r : V → Hp → VK → Prop} {f : WS → D → Option D} (ho : UnR X (unaryOp op) r) (hr : RU X.K r f) (ha : GE X W a ea) : GE X W (.UnaryOp op a pos) (eUn f ea) := by
  obtain ⟨ta, pa, ma⟩ := ha
  exact ⟨_, pe_un ho pa, me_un hr ma⟩

/-! ### arguments -/
def aNil : Env → ML := fun _ S q _ => q [] S
def aCons (ea : Env → M) (er : Env → ML) : Env → ML := fun ρ S q x => ea ρ S (fun u S1 => er ρ S1 (fun ds S2 => q (u :: ds) S2) x) x
theorem ma_nil {K : PySem.W.Frag} : MA K W tNil aNil := fun as F H S ρ σ I R q x h Q hq _ => hq [] S as F H [] h (Grow.refl I) .nil
theorem ma_cons {K : PySem.W.Frag} {ta : TE} {tr : TA} {er : Env → ML} (ha : ME K W ta ea) (hr : MA K W tr er) : MA K W (tCons ta tr) (aCons ea er) := fun as F H S ρ σ I R q x h Q hq hx => by
  refine ha as F H S ρ σ I R _ x h _ (fun u S1 bs F1 H1 v1 h1 g1 r1 => ?_) hx
  refine hr bs F1 H1 S1 ρ σ g1.sit (R.grow g1) _ x h1 _ (fun ds S2 cs F2 H2 vs h2 g2 r2 => ?_) (hx.step g1)
  exact hq (u :: ds) S2 cs F2 H2 (v1 :: vs) h2 (g1.trans g2) (.cons (RpE_aux g2 r1) r2)
theorem ga_nil : GA X W [] aNil := ⟨_, pa_nil, ma_nil⟩
theorem ga_cons {es : List Expr} {er : Env → ML} (ha : GE X W e ea) (hr : GA X W es er) (hs : starEach (e :: es) X.env = (false, eval e X.env) :: starEach es X.env := by rfl) : GA X W (e :: es) (aCons ea er) := by
  obtain ⟨ta, pa, ma⟩ := ha
  obtain ⟨tr, pr, mr⟩ := hr
  exact ⟨_, pa_cons pa pr hs, ma_cons ma mr⟩
structure GK (X : Cx) (W : WX) (kws : List Keyword) (m : Env → ML) : Prop where
  ex : ∃ te, PK X kws te ∧ MA X.K W te m
theorem gk_nil : GK X W [] aNil := ⟨_, pk_nil, ma_nil⟩
theorem gk_cons {nm : Option Str} {kpos : Pos} {kws : List Keyword} {er : Env → ML} (ha : GE X W e ea) (hr : GK X W kws er) : GK X W (⟨nm, e, kpos⟩ :: kws) (aCons ea er) := by
  obtain ⟨ta, pa, ma⟩ := ha
  obtain ⟨tr, pr, mr⟩ := hr
  exact ⟨_, pk_cons pa pr, ma_cons ma mr⟩

/-! ### displays -/
def small (n : Nat) : Bool := decide (n ≤ 100000)
theorem small_le {n : Nat} (h : small n = true) : n ≤ sizeLine := Nat.le_trans (of_decide_eq_true h) (by decide)
def eSeq (mk : List D → D) (er : Env → ML) : Env → M := fun ρ S q x => er ρ S (fun ds S1 => small ds.length = true ∧ q (mk ds) S1) x
theorem me_tup {K : PySem.W.Frag} {t : TA} {er : Env → ML} (h : MA K W t er) : ME K W (tTup t) (eSeq .tup er) := fun as F H S ρ σ I R q x e Q hq hx => by
  refine h as F H S ρ σ I R _ x e _ (fun ds S1 bs F1 H1 vs h1 g1 r1 => ⟨?_, fun a ha => ?_⟩) hx
  · rw [← r1.length]
    exact small_le h1.1
  · have g2 := g1.sit.grow (o := .tup vs) ha
    exact hq _ S1 bs _ _ _ h1.2 (g1.trans g2) (.tup (SqT.of upd_same) (r1.mono g2.ex g2.pre))
theorem me_lst {K : PySem.W.Frag} {t : TA} {er : Env → ML} (h : MA K W t er) : ME K W (tLst t) (eSeq .lst er) := fun as F H S ρ σ I R q x e Q hq hx => by
  refine h as F H S ρ σ I R _ x e _ (fun ds S1 bs F1 H1 vs h1 g1 r1 => ⟨?_, fun a ha => ?_⟩) hx
  · rw [← r1.length]
    exact small_le h1.1
  · have g2 := g1.sit.grow (o := .lst vs) ha
    exact hq _ S1 bs _ _ _ h1.2 (g1.trans g2) (.lst upd_same (r1.mono g2.ex g2.pre))
theorem ge_tup {es : List Expr} {er : Env → ML} {x1} (h : GA X W es er) : GE X W (.Tuple es x1 pos) (eSeq .tup er) := by
  obtain ⟨t, p, m⟩ := h
  exact ⟨_, pe_tup p, me_tup m⟩
theorem ge_lst {es : List Expr} {er : Env → ML} (h : GA X W es er) : GE X W (.List es pos) (eSeq .lst er) := by
  obtain ⟨t, p, m⟩ := h
  exact ⟨_, pe_lst p, me_lst m⟩

/-! ### calls of built-ins -/
def RC (K : PySem.W.Frag) (r : List V → Hp → VK → Prop) (f : WS → List D → Option D) : Prop := ∀ (as : List Addr) (F H : Hp) (S : WS) (ds : List D) (d : D) (vs : List V), Sit K as F H S → RpL K as F ds vs → f S ds = some d →
  ∀ Q : VK, (∀ F' H' v, Grow K as F H as F' H' S → Rp K as F' d v → Q v H') → r vs H Q
def eCall (f : WS → List D → Option D) (er : Env → ML) : Env → M := fun ρ S q x => er ρ S (fun ds S1 => onS (f S1 ds) fun d => q d S1) x
theorem me_cb {K : PySem.W.Frag} {r : List V → Hp → VK → Prop} {f : WS → List D → Option D} {t : TA} {er : Env → ML} (hr : RC K r f) (h : MA K W t er) : ME K W (tCB r t) (eCall f er) := fun as F H S ρ σ I R q x e Q hq hx => by
  refine h as F H S ρ σ I R _ x e _ (fun ds S1 bs F1 H1 vs h1 g1 r1 => ?_) hx
  obtain ⟨d, h3, h4⟩ := onS_ok h1
  exact hr bs F1 H1 S1 ds d vs g1.sit r1 h3 Q fun F3 H3 v3 g3 r3 => hq d S1 bs F3 H3 v3 h4 (g1.trans g3) r3
theorem ge_callB {x : Str} {id : String} {r : List V → Hp → VK → Prop} {f : WS → List D → Option D} {p : Pos} {es : List Expr} {er : Env → ML} (hc : CallR X (.builtin id) r) (hr : RC X.K r f) (hm : X.mg x = none) (hv : bootBuiltins x = some (.builtin id)) (ha : GA X W (e :: es) er)
    (hg : Gl X x := by rfl) (hn : x ≠ "__name__" := by decide) (hdb : (x == ("__debug__" : Str)) = false := by decide) (h1 : starEach (e :: es) X.env = (false, eval e X.env) :: starEach es X.env := by rfl) (h2 : (backTo pos (starEach es X.env)).any (·.1) = false := by rfl) :
    GE X W (.Call (.Name x p) (e :: es) [] pos) (eCall f er) := by
  obtain ⟨t, p, m⟩ := ha
  exact ⟨_, pe_callB hc hg hm hv p hn hdb h1 h2, me_cb hr m⟩
theorem ge_callTy {x : Str} {T : String} {r : List V → Hp → VK → Prop} {f : WS → List D → Option D} {p : Pos} {es : List Expr} {er : Env → ML} (hc : CallR X (.type T) r) (hr : RC X.K r f) (hm : X.mg x = none) (hv : bootBuiltins x = some (.type T)) (ha : GA X W (e :: es) er)
    (hg : Gl X x := by rfl) (hn : x ≠ "__name__" := by decide) (hdb : (x == ("__debug__" : Str)) = false := by decide) (h1 : starEach (e :: es) X.env = (false, eval e X.env) :: starEach es X.env := by rfl) (h2 : (backTo pos (starEach es X.env)).any (·.1) = false := by rfl) :
    GE X W (.Call (.Name x p) (e :: es) [] pos) (eCall f er) := by
  obtain ⟨t, p, m⟩ := ha
  exact ⟨_, pe_callTy hc hg hm hv p hn hdb h1 h2, me_cb hr m⟩

/-! ### calls of defs -/
/-- the promise of a def: it goes on as G says -/
def spG (K : PySem.W.Frag) (n : Nat) (G : List D → M) : Sp := fun vs H Q E => ∃ (as : List Addr) (F : Hp) (S : WS) (ds : List D) (q : D → WS → Prop) (x : Xq), Sit K as F H S ∧ RpL K as F ds vs ∧ ds.length = n ∧ G ds S q x ∧ NQ K as F H q Q ∧ XQ K as F H x E
/-- how a def is asked: g: only where no text of a thing is being made; n: what it raises has no context; h: while an error is handled -/
structure Md where
  g : Bool
  n : Bool
  h : Bool
def CXm (n : Bool) (P : Program) (w : World) : CXT := match n with
  | true => L2N.CX P w
  | false => L2.CX P w
theorem cxm_no {n : Bool} {P : Program} {w : World} {outer : List PySem.Env} {H : Hp} {s s' : Shared} {u : Value} (c : CXm n P w outer H s (fun _ _ _ => False) u s') : False := by
  cases n <;> (obtain ⟨a, B, H', cls, d, c⟩ := c; exact c.2.2.2.2.2.2.2.elim)
def Tk (n : Bool) (X : Cx) (W : WX) : Prop := match n with
  | true => L2N.Takes X W
  | false => L2.Takes X W
theorem Tk.pass {n : Bool} {X : Cx} {W : WX} (tk : Tk n X W) (σ : L2.St) : PassesAt (CXm n X.prog X.w) X σ (WE W σ) := by
  cases n
  · exact L2.passAt tk σ
  · exact L2N.passAt tk σ
/-- what is known of a caught error's object -/
def Zz (n : Bool) (cls : Value) (d : Option Addr) : Obj → Prop := match n with
  | true => L2N.Zn cls d
  | false => Zc cls d
theorem Zz.zc {n : Bool} {cls : Value} {d : Option Addr} {o : Obj} (h : Zz n cls d o) : Zc cls d o := by
  cases n
  · exact h
  · exact L2N.Zn.zc h
theorem tk_mk {n : Bool} {X : Cx} {W : WX} (h : ∀ u s', (∃ (a : Addr) (B : Heap) (sI : Shared) (pins : List (Addr × Obj)) (σ : L2.St) (H : Hp) (cls : Value) (d : Option Addr),
    u = .ref a ∧ Inv X pins σ H sI ∧ (∀ b o, sI.heap.get? b = some o → b ∉ frs X.stack → B.get? b = some o) ∧ sI.heap.UpToSlots s'.heap ∧
      Sky B X.stack a (Zz n cls d) X.env.locals s'.heap ∧ H a = none ∧ s'.os = sI.os ∧ PyProof.Rows.AllBare s'.gens ∧ W cls d σ H) → X.xe u s') : Tk n X W := by
  cases n
  · exact fun u s' x => h u s' x
  · exact fun u s' x => h u s' x
/-- the error at p is handled -/
def Hq (A : Around) (p : Addr × Obj) : Prop := A.handled = some (.ref p.1) ∧ (zN = true → ∃ vs : Array Value, p.2.data = .fields vs ∧ vs[2]? = some .none)
theorem hq_of {A : Around} {a : Addr} {oe : Obj} {cls : Value} {d : Option Addr} (h : A.handled = some (.ref a)) (hf : ∃ vs, oe.data = .fields vs) : ∀ {n : Bool}, Zz n cls d oe → A.handled = some (.ref a) ∧ (n = true → ∃ vs : Array Value, oe.data = .fields vs ∧ vs[2]? = some .none)
  | false, _ => ⟨h, fun z => nomatch z⟩
  | true, z => ⟨h, fun _ => let ⟨vs, e⟩ := hf; ⟨vs, e, z.2.2 vs e⟩⟩
/-- room for k calls more -/
def Rx (h : Bool) (k : Nat) (X : Cx) : Prop := match h with
  | false => Room k X.A
  | true => L2H.RoomH k X.A ∧ ∃ p, p ∈ X.pn ∧ Hq X.A p
def Rs (h : Bool) (k : Nat) (A : Around) (outer : List PySem.Env) (H : Hp) (s : Shared) : Prop := match h with
  | false => Room k A
  | true => L2H.RoomH k A ∧ ∃ p, L2H.PinOk outer H s p ∧ Hq A p
theorem Rx.mono {h : Bool} {j k : Nat} {X : Cx} (r : Rx h k X) (e : j ≤ k) : Rx h j X := by
  cases h
  · exact Room.mono r e
  · exact ⟨r.1.mono e, r.2⟩
theorem Rx.at {h : Bool} {k : Nat} {X : Cx} {pins : List (Addr × Obj)} {σ : L2.St} {H : Hp} {s : Shared} (r : Rx h k X) (I : Inv X pins σ H s) : Rs h k X.A X.stack H s := by
  cases h
  · exact r
  · obtain ⟨r1, p, hp, e⟩ := r
    have P1 := I.pin p (List.mem_append_left _ hp)
    exact ⟨r1, p, ⟨P1.1, P1.2.1, fun hm => (List.mem_cons.mp (I.stkSub p.1 hm)).elim P1.2.2.1 P1.2.2.2.1, P1.2.2.2.2⟩, e⟩
def eFn (n : Nat) (G : List D → M) (dvs : List D) (er : Env → ML) : Env → M := fun ρ S q x => er ρ S (fun ds S1 => (ds ++ dvs).length = n ∧ G (ds ++ dvs) S1 q x) x
/-- arguments, then a promise -/
def tFn (sp : Sp) (dv : List V) (E : L2.St → XK) (t : TA) : TE := fun σ H Q => t σ H fun vs H1 => sp (vs ++ dv) H1 Q (E σ)
theorem me_fn {K : PySem.W.Frag} {n : Nat} {G : List D → M} {dvs : List D} {dv : List V} {t : TA} {er : Env → ML} (hd : ∀ as F, RpL K as F dvs dv) (h : MA K W t er) : ME K W (tFn (spG K n G) dv (WE W) t) (eFn n G dvs er) := fun as F H S ρ σ I R q x e Q hq hx => by
  refine h as F H S ρ σ I R _ x e _ (fun ds S1 bs F1 H1 vs h1 g1 r1 => ?_) hx
  exact ⟨bs, F1, S1, ds ++ dvs, q, x, g1.sit, r1.append (hd bs F1), h1.1, h1.2, hq.step g1, hx.step g1⟩
/-- a def of the program runs; gd: it is asked only where no text of a thing is being made -/
structure FnX (gd : Md) (P : Program) (w : World) (K : PySem.W.Frag) (mg : Str → Option Value) (base : Heap) (k : Nat) (f : Addr) (fd : FuncData) (ps : List Str) (sp : Sp) : Prop where
  len : ∀ vs H Q E, sp vs H Q E → vs.length = ps.length
  run : ∀ (A : Around) (outer : List PySem.Env) (s : Shared) (H : Hp) (args : Args) (us : List Value) (vs : List V) (Q : VK) (E : XK), (gd.g = true → A.guards = some []) → Rs gd.h k A outer H s → Env0 P w K mg base A outer s H → BindsTo s fd args (ps.zip us) → Vals vs us → sp vs H Q E →
    codeAny (model P w) A (.call (.ref f) args) (CR (CXm gd.n P w) outer P w H s Q E) s
section
variable {k j n : Nat} {f C : Addr} {fd : FuncData} {ps : List Str} {sp : Sp} {gd : Md} {nn : Bool}
theorem FnX.ok {P : Program} {w : World} {K : PySem.W.Frag} {mg : Str → Option Value} {base : Heap} (F : FnX ⟨false, nn, false⟩ P w K mg base k f fd ps sp) : FnOk P w K mg base (CXm nn P w) k f fd ps sp :=
  ⟨F.len, fun A outer s H args us vs Q E => F.run A outer s H args us vs Q E (fun h => nomatch h)⟩
theorem FnX.of {P : Program} {w : World} {K : PySem.W.Frag} {mg : Str → Option Value} {base : Heap} (F : FnOk P w K mg base (CXm nn P w) k f fd ps sp) {g : Bool} : FnX ⟨g, nn, false⟩ P w K mg base k f fd ps sp :=
  ⟨F.len, fun A outer s H args us vs Q E _ => F.run A outer s H args us vs Q E⟩
theorem run_X {pins : List (Addr × Obj)} {σ : L2.St} {H : Hp} {s : Shared} {Q : VK} {us : List Value} {vs dv : List V} {ds : List Value} (F : FnX gd X.prog X.w X.K X.mg X.base k f fd ps sp) (hgd : gd.g = true → X.A.guards = some []) (hr : Rx gd.h k X) (hb : Binds X.K fd ps ds) (hd : Vals dv ds) (tk : Tk gd.n X W)
    (I : Inv X pins σ H s) (r : Vals vs us) (h : sp (vs ++ dv) H Q (WE W σ)) : wpAny (model X.prog X.w) X.A (PySem.call (.ref f) us) (EP X pins σ Q) X.xe s := by
  have r2 : Vals (vs ++ dv) (us ++ ds) := r.append hd
  have hl : (us ++ ds).length = ps.length := r2.length.symm.trans (F.len _ _ _ _ h)
  refine wpAny_call (codeAny_mono (F.run X.A X.stack s H ⟨us, []⟩ _ (vs ++ dv) Q (WE W σ) hgd (hr.at I) I.env0 (hb s us I.kIn hl) r2 h) fun r s' hq => ?_)
  cases r with
  | error er => exact tk.pass σ pins H s er s' I hq
  | ok fl =>
    cases fl with
    | ret u => exact I.after hq
    | next => exact hq.elim
    | brk => exact hq.elim
    | cont => exact hq.elim
theorem ge_call {G : List D → M} {dvs : List D} {dv : List V} {ds : List Value} {x : Str} {p : Pos} {es : List Expr} {er : Env → ML} (tk : Tk gd.n X W)
    (F : FnX gd X.prog X.w X.K X.mg X.base k f fd ps (spG X.K n G)) (hgd : gd.g = true → X.A.guards = some []) (hr : Rx gd.h j X) (hj : k ≤ j) (hm : X.mg x = some (.ref f)) (hk : PySem.W.keepIn X.K (.ref f) = true) (hb : Binds X.K fd ps ds) (hd : Vals dv ds)
    (hdv : ∀ as F, RpL X.K as F dvs dv) (ha : GA X W (e :: es) er) (hg : Gl X x := by rfl) (hdb : (x == ("__debug__" : Str)) = false := by decide) (h1 : starEach (e :: es) X.env = (false, eval e X.env) :: starEach es X.env := by rfl) (h2 : (backTo pos (starEach es X.env)).any (·.1) = false := by rfl) :
    GE X W (.Call (.Name x p) (e :: es) [] pos) (eFn n G dvs er) := by
  obtain ⟨t, pa, m⟩ := ha
  refine ⟨tFn (spG X.K n G) dv (WE W) t, ⟨fun pins s σ H Q I h => ?_⟩, me_fn hdv m⟩
  refine wpAny_Call_Name_kw (ld_glob I hg hm ?_ hdb)
  refine PySem.W.callWith_K (h₀ := X.base) I.ok.mod.kin hk (thn (pa.run pos pins s σ H _ I h) fun us s1 hh => ?_) h1 h2
  obtain ⟨vs, H1, I1, r1, q1⟩ := hh
  exact ⟨I1.kIn, run_X F hgd (hr.mono hj) hb hd tk I1 r1 q1⟩
end
end
end RV
end
section
/-! Tests and statements. -/
namespace RV
open PySem L2
section
variable {X : Cx} {W : WX} {a b c e : Expr} {pos : Pos} {ea eb ec ee : Env → M} {ma mb : Env → MB}
def iteB (b : Bool) (p q : Prop) : Prop := match b with
  | true => p
  | false => q
def onB (d : D) (k : Bool → Prop) : Prop := match d with
  | .bl b => k b
  | _ => False
def onI (d : D) (k : Int → Prop) : Prop := match d with
  | .int i => k i
  | _ => False
def onT (d : D) (k : Str → Prop) : Prop := match d with
  | .str s => k s
  | _ => False
def onTu (d : D) (k : List D → Prop) : Prop := match d with
  | .tup ds => k ds
  | _ => False
def onCe (d : D) (k : Nat → Prop) : Prop := match d with
  | .cell i => k i
  | _ => False
def on1 (ds : List D) (k : D → Prop) : Prop := match ds with
  | [x] => k x
  | _ => False
def on2 (ds : List D) (k : D → D → Prop) : Prop := match ds with
  | [x, y] => k x y
  | _ => False
def on3 (ds : List D) (k : D → D → D → Prop) : Prop := match ds with
  | [x, y, z] => k x y z
  | _ => False
def onLst (c : Cell) (k : List D → Prop) : Prop := match c with
  | .lst ds => k ds
  | _ => False
def onOb (c : Cell) (k : Addr → List (Str × D) → Prop) : Prop := match c with
  | .ob C fs => k C fs
  | _ => False
theorem onI_ok {d : D} {k : Int → Prop} (h : onI d k) : ∃ i, d = .int i ∧ k i := by
  cases d with
  | int i => exact ⟨i, rfl, h⟩
  | _ => exact h.elim
theorem onTu_ok {d : D} {k : List D → Prop} (h : onTu d k) : ∃ i, d = .tup i ∧ k i := by
  cases d with
  | tup i => exact ⟨i, rfl, h⟩
  | _ => exact h.elim
theorem on1_ok {ds : List D} {k : D → Prop} (h : on1 ds k) : ∃ x, ds = [x] ∧ k x := by
  unfold on1 at h
  split at h
  · exact ⟨_, rfl, h⟩
  · exact h.elim
theorem on2_ok {ds : List D} {k : D → D → Prop} (h : on2 ds k) : ∃ x y, ds = [x, y] ∧ k x y := by
  unfold on2 at h
  split at h
  · exact ⟨_, _, rfl, h⟩
  · exact h.elim
theorem on3_ok {ds : List D} {k : D → D → D → Prop} (h : on3 ds k) : ∃ x y z, ds = [x, y, z] ∧ k x y z := by
  unfold on3 at h
  split at h
  · exact ⟨_, _, _, rfl, h⟩
  · exact h.elim
theorem onLst_ok {c : Cell} {k : List D → Prop} (h : onLst c k) : ∃ ds, c = .lst ds ∧ k ds := by
  cases c with
  | lst ds => exact ⟨ds, rfl, h⟩
  | _ => exact h.elim
def bBl (m : Env → M) : Env → MB := fun ρ S q x => m ρ S (fun d S1 => onB d fun b => q b S1) x
theorem mt_test {K : PySem.W.Frag} {t : TE} (h : ME K W t ea) : MTt K W (tTest t) (bBl ea) := fun as F H S ρ σ I R q x e Q hq hx => by
  refine h as F H S ρ σ I R _ x e _ (fun d S1 bs F1 H1 v h1 g r => ?_) hx
  cases r with
  | bl b => exact ⟨b, rfl, hq b S1 bs F1 H1 h1 g⟩
  | _ => exact h1.elim
theorem gt_cmp {op : CmpOp} {r : R2} {f : WS → D → D → Option D} (ho : OpR X (compareOp op) r) (hr : RO X.K r f) (ha : GE X W a ea) (hb : GE X W b eb) (hm : behindInMarks op b = false) : GT X W (.Compare a [op] [b] pos) (bBl (eOp f ea eb)) := by
  obtain ⟨ta, pa, ma⟩ := ha
  obtain ⟨tb, pb, mb⟩ := hb
  exact ⟨_, pt_cmpR ho pa pb hm, mt_test (me_op hr ma mb)⟩
/-- by truth -/
def RT (K : PySem.W.Frag) (r : V → Hp → (Bool → Hp → Prop) → Prop) (f : WS → D → Option Bool) : Prop := ∀ (as : List Addr) (F H : Hp) (S : WS) (x : D) (b : Bool) (vx : V), Sit K as F H S → Rp K as F x vx → f S x = some b →
  ∀ Q : Bool → Hp → Prop, (∀ F' H', Grow K as F H as F' H' S → Q b H') → r vx H Q
def bTru (f : WS → D → Option Bool) (ea : Env → M) : Env → MB := fun ρ S q x => ea ρ S (fun u S1 => onS (f S1 u) fun b => q b S1) x
theorem mt_tru {K : PySem.W.Frag} {r : V → Hp → (Bool → Hp → Prop) → Prop} {f : WS → D → Option Bool} {ta : TE} (hr : RT K r f) (ha : ME K W ta ea) : MTt K W (fun σ H Q => ta σ H fun x H' => r x H' Q) (bTru f ea) := fun as F H S ρ σ I R q x e Q hq hx => by
  refine ha as F H S ρ σ I R _ x e _ (fun u S1 bs F1 H1 v1 h1 g1 r1 => ?_) hx
  obtain ⟨b, h3, h4⟩ := onS_ok h1
  exact hr bs F1 H1 S1 u b v1 g1.sit r1 h3 Q fun F3 H3 g3 => hq b S1 bs F3 H3 h4 (g1.trans g3)
theorem pt_truthR {ta : TE} {r : V → Hp → (Bool → Hp → Prop) → Prop} (ht : TruR X r) (ha : PE X a ta) (he : ∀ whole, isTrue a X.env whole = (do let v ← whole; standAt a.pos; holding [v] (truthy v))) :
    PT X a (fun σ H Q => ta σ H fun x H' => r x H' Q) :=
  ⟨fun pins s σ H Q I h => PyProof.Rows.isTrue_plain (thn (ha.run pins s σ H _ I h) fun v s1 ⟨x, H1, I1, r1, q1⟩ => ht pins s1 σ H1 x v Q I1 r1 q1) (he _)⟩
theorem gt_tru {r : V → Hp → (Bool → Hp → Prop) → Prop} {f : WS → D → Option Bool} (ht : TruR X r) (hr : RT X.K r f) (ha : GE X W a ea) (he : ∀ whole, isTrue a X.env whole = (do let v ← whole; standAt a.pos; holding [v] (truthy v)) := by intro _; rfl) : GT X W a (bTru f ea) := by
  obtain ⟨ta, pa, ma⟩ := ha
  exact ⟨_, pt_truthR ht pa he, mt_tru hr ma⟩
def eNotT (m : Env → MB) : Env → M := fun ρ S q x => m ρ S (fun b S1 => q (.bl (!b)) S1) x
def bAnd (ma mb : Env → MB) : Env → MB := fun ρ S q x => ma ρ S (fun b S1 => iteB b (mb ρ S1 q x) (q false S1)) x
def bOr (ma mb : Env → MB) : Env → MB := fun ρ S q x => ma ρ S (fun b S1 => iteB b (q true S1) (mb ρ S1 q x)) x
def bNot (ma : Env → MB) : Env → MB := fun ρ S q x => ma ρ S (fun b S1 => q (!b) S1) x
theorem mt_and {K : PySem.W.Frag} {t u : TT} (h1 : MTt K W t ma) (h2 : MTt K W u mb) : MTt K W (tAnd t u) (bAnd ma mb) := fun as F H S ρ σ I R q x e Q hq hx => by
  refine h1 as F H S ρ σ I R _ x e _ (fun b S1 bs F1 H1 h g1 => ?_) hx
  cases b with
  | true => exact h2 bs F1 H1 S1 ρ σ g1.sit (R.grow g1) q x h Q (fun b S' cs F' H' h g => hq b S' cs F' H' h (g1.trans g)) (hx.step g1)
  | false => exact hq false S1 bs F1 H1 h g1
theorem mt_or {K : PySem.W.Frag} {t u : TT} (h1 : MTt K W t ma) (h2 : MTt K W u mb) : MTt K W (tOr t u) (bOr ma mb) := fun as F H S ρ σ I R q x e Q hq hx => by
  refine h1 as F H S ρ σ I R _ x e _ (fun b S1 bs F1 H1 h g1 => ?_) hx
  cases b with
  | false => exact h2 bs F1 H1 S1 ρ σ g1.sit (R.grow g1) q x h Q (fun b S' cs F' H' h g => hq b S' cs F' H' h (g1.trans g)) (hx.step g1)
  | true => exact hq true S1 bs F1 H1 h g1
theorem mt_not {K : PySem.W.Frag} {t : TT} (h1 : MTt K W t ma) : MTt K W (tNot t) (bNot ma) := fun as F H S ρ σ I R q x e Q hq hx =>
  h1 as F H S ρ σ I R _ x e _ (fun b S1 bs F1 H1 h g1 => hq _ S1 bs F1 H1 h g1) hx
theorem GW.gt (h : GW X W e ma) : GT X W e ma := by
  obtain ⟨t, p, m⟩ := h
  exact ⟨_, p.pt, m⟩
theorem gw_and1 (ha : GT X W a ma) : GW X W (.BoolOp .And [a] pos) ma := by
  obtain ⟨t, p, m⟩ := ha
  exact ⟨_, pw_and1 p, m⟩
theorem gw_or1 (ha : GT X W a ma) : GW X W (.BoolOp .Or [a] pos) ma := by
  obtain ⟨t, p, m⟩ := ha
  exact ⟨_, pw_or1 p, m⟩
theorem gw_and {rest : List Expr} (ha : GT X W a ma) (hb : GW X W (.BoolOp .And (b :: rest) pos) mb) : GW X W (.BoolOp .And (a :: b :: rest) pos) (bAnd ma mb) := by
  obtain ⟨t, p, m⟩ := ha
  obtain ⟨u, p', m'⟩ := hb
  exact ⟨_, pw_and p p', mt_and m m'⟩
theorem gw_or {rest : List Expr} (ha : GT X W a ma) (hb : GW X W (.BoolOp .Or (b :: rest) pos) mb) : GW X W (.BoolOp .Or (a :: b :: rest) pos) (bOr ma mb) := by
  obtain ⟨t, p, m⟩ := ha
  obtain ⟨u, p', m'⟩ := hb
  exact ⟨_, pw_or p p', mt_or m m'⟩
theorem gt_not (ha : GT X W a ma) : GT X W (.UnaryOp .Not a pos) (bNot ma) := by
  obtain ⟨t, p, m⟩ := ha
  exact ⟨_, pt_not p, mt_not m⟩
/-! bools as values -/
def eAnd (ea eb : Env → M) : Env → M := fun ρ S q x => bBl ea ρ S (fun b S1 => iteB b (eb ρ S1 q x) (q (.bl false) S1)) x
def eOr (ea eb : Env → M) : Env → M := fun ρ S q x => bBl ea ρ S (fun b S1 => iteB b (q (.bl true) S1) (eb ρ S1 q x)) x
theorem ge_one {op : BoolOp} (ha : GE X W a ea) : GE X W (.BoolOp op [a] pos) ea := by
  obtain ⟨t, p, m⟩ := ha
  exact ⟨_, pe_one p, m⟩
theorem ge_and {rest : List Expr} (ha : GE X W a ea) (hb : GE X W (.BoolOp .And (b :: rest) pos) eb) : GE X W (.BoolOp .And (a :: b :: rest) pos) (eAnd ea eb) := by
  obtain ⟨t, p, m⟩ := ha
  obtain ⟨u, p', m'⟩ := hb
  refine ⟨_, pe_and p p', fun as F H S ρ σ I R q x e Q hq hx => ?_⟩
  refine m as F H S ρ σ I R _ x e _ (fun d S1 bs F1 H1 v h g1 r1 => ?_) hx
  cases r1 with
  | bl c =>
    refine ⟨c, rfl, ?_⟩
    cases c with
    | true => exact m' bs F1 H1 S1 ρ σ g1.sit (R.grow g1) q x h Q (hq.step g1) (hx.step g1)
    | false => exact hq _ S1 bs F1 H1 _ h g1 (.bl _)
  | _ => exact h.elim
theorem ge_or {rest : List Expr} (ha : GE X W a ea) (hb : GE X W (.BoolOp .Or (b :: rest) pos) eb) : GE X W (.BoolOp .Or (a :: b :: rest) pos) (eOr ea eb) := by
  obtain ⟨t, p, m⟩ := ha
  obtain ⟨u, p', m'⟩ := hb
  refine ⟨_, pe_or p p', fun as F H S ρ σ I R q x e Q hq hx => ?_⟩
  refine m as F H S ρ σ I R _ x e _ (fun d S1 bs F1 H1 v h g1 r1 => ?_) hx
  cases r1 with
  | bl c =>
    refine ⟨c, rfl, ?_⟩
    cases c with
    | false => exact m' bs F1 H1 S1 ρ σ g1.sit (R.grow g1) q x h Q (hq.step g1) (hx.step g1)
    | true => exact hq _ S1 bs F1 H1 _ h g1 (.bl _)
  | _ => exact h.elim
def eIf (mc : Env → MB) (ea eb : Env → M) : Env → M := fun ρ S q x => mc ρ S (fun b S1 => iteB b (ea ρ S1 q x) (eb ρ S1 q x)) x
theorem ge_ifExp (hc : GT X W c ma) (ha : GE X W a ea) (hb : GE X W b eb) : GE X W (.IfExp c a b pos) (eIf ma ea eb) := by
  obtain ⟨tc, pc, mc⟩ := hc
  obtain ⟨t, p, m⟩ := ha
  obtain ⟨u, p', m'⟩ := hb
  refine ⟨_, pe_ifExp pc p p', fun as F H S ρ σ I R q x e Q hq hx => ?_⟩
  refine mc as F H S ρ σ I R _ x e _ (fun d S1 bs F1 H1 h g1 => ?_) hx
  cases d with
  | true => exact m bs F1 H1 S1 ρ σ g1.sit (R.grow g1) q x h Q (hq.step g1) (hx.step g1)
  | false => exact m' bs F1 H1 S1 ρ σ g1.sit (R.grow g1) q x h Q (hq.step g1) (hx.step g1)
def bChain (f g : WS → D → D → Option D) (ea eb ec : Env → M) : Env → MB := fun ρ S q x => ea ρ S (fun u S1 => eb ρ S1 (fun v S2 => onS (f S2 u v) fun d => onB d fun b => iteB b (ec ρ S2 (fun w S3 => onS (g S3 v w) fun d => onB d fun b => q b S3) x) (q false S2)) x) x
end
section
variable {X : Cx} {W : WX} {a b c e : Expr} {pos : Pos} {ea eb ec ee : Env → M} {ma mb : Env → MB}
/-! ### statements -/
variable {st : Stmt} {sts rest : List Stmt} {m1 m2 : Env → MS}
def sNil : Env → MS := fun ρ S k => k.nx ρ S
def sSeq (m1 m2 : Env → MS) : Env → MS := fun ρ S k => m1 ρ S ⟨fun ρ' S' => m2 ρ' S' k, k.rt, k.bk, k.ct, k.ex⟩
theorem ms_nil {K : PySem.W.Frag} : MSt K W tNext sNil := fun as F H S ρ σ I R k e E q => q.nx ρ S as F H σ e (Grow.refl I) R
theorem ms_seq {K : PySem.W.Frag} {t u : TS} (h1 : MSt K W t m1) (h2 : MSt K W u m2) : MSt K W (tSeq t u) (sSeq m1 m2) := fun as F H S ρ σ I R k e E q =>
  h1 as F H S ρ σ I R _ e _ ⟨fun ρ' S' bs F' H' σ' h g R' => h2 bs F' H' S' ρ' σ' g.sit R' k h E (q.step g), q.rt, q.bk, q.ct, q.ex⟩
theorem gss_nil : GSs X W [] sNil := ⟨_, pss_nil, ms_nil⟩
theorem gss_cons (h1 : GS X W st m1) (h2 : GSs X W rest m2) : GSs X W (st :: rest) (sSeq m1 m2) := by
  obtain ⟨t, p, m⟩ := h1
  obtain ⟨u, p', m'⟩ := h2
  exact ⟨_, pss_cons p p', ms_seq m m'⟩
theorem gss_one (h1 : GS X W st m1) : GSs X W [st] m1 := by
  obtain ⟨t, p, m⟩ := h1
  exact ⟨_, pss_one p, m⟩
def sRet (ea : Env → M) : Env → MS := fun ρ S k => ea ρ S k.rt fun e S' => k.ex e ρ S'
theorem gs_ret (h : GE X W e ea) : GS X W (.Return (some e) pos) (sRet ea) := by
  obtain ⟨t, p, m⟩ := h
  exact ⟨_, ps_ret p, fun as F H S ρ σ I R k h E q => m as F H S ρ σ I R _ _ h _ (fun d S' bs F' H' v a g r => q.rt d S' bs F' H' v a g r) (q.xq R)⟩
def sDrop (ea : Env → M) : Env → MS := fun ρ S k => ea ρ S (fun _ S' => k.nx ρ S') fun e S' => k.ex e ρ S'
theorem gs_expr (h : GE X W e ea) (hs : swapsWith e none pos.line X.env = pure false := by rfl) : GS X W (.Expr e pos) (sDrop ea) := by
  obtain ⟨t, p, m⟩ := h
  exact ⟨_, ps_expr p hs, fun as F H S ρ σ I R k h E q => m as F H S ρ σ I R _ _ h _ (fun d S' bs F' H' v a g r => q.nx ρ S' bs F' H' σ a g (R.grow g)) (q.xq R)⟩
def sAsg (i : Nat) (ea : Env → M) : Env → MS := fun ρ S k => ea ρ S (fun d S' => k.nx (ρ.set i (some d)) S') fun e S' => k.ex e ρ S'
theorem ms_asg {K : PySem.W.Frag} {i : Nat} {t : TE} (m : ME K W t ea) : MSt K W (tAsg t (gName i)) (sAsg i ea) := fun as F H S ρ σ I R k h E q =>
  m as F H S ρ σ I R _ _ h _ (fun d S' bs F' H' v a g r => q.nx _ S' bs F' H' _ a g ((R.grow g).set r)) (q.xq R)
theorem gs_set (i : Nat) {x : Str} {pos' : Pos} (hN : X.N.Nodup) (h : GE X W e ea) (hi : X.N[i]? = some x := by rfl) (hx : Loc X.env.scope x := by first | exact Or.inl rfl | exact Or.inr rfl) (hs : swapsWith e (some (.Name x pos')) pos.line X.env = pure false := by rfl)
    (hf : X.fn x = true ∨ X.env.scope.names.lookup x = some .local := by first | exact .inl rfl | exact .inr rfl | assumption) : GS X W (.Assign [.Name x pos'] e pos) (sAsg i ea) := by
  obtain ⟨t, p, m⟩ := h
  exact ⟨_, ps_set (i := i) hN hi hx p hs hf, ms_asg m⟩
def sIf (mc : Env → MB) (m1 m2 : Env → MS) : Env → MS := fun ρ S k => mc ρ S (fun b S' => iteB b (m1 ρ S' k) (m2 ρ S' k)) fun e S' => k.ex e ρ S'
theorem gs_if {as bs : List Stmt} (hc : GT X W c ma) (ha : GSs X W as m1) (hb : GSs X W bs m2) : GS X W (.If c as bs pos) (sIf ma m1 m2) := by
  obtain ⟨tc, pc, mc⟩ := hc
  obtain ⟨t, p, m⟩ := ha
  obtain ⟨u, p', m'⟩ := hb
  refine ⟨_, ps_if pc p p', fun as F H S ρ σ I R k h E q => ?_⟩
  refine mc as F H S ρ σ I R _ _ h _ (fun d S1 bs F1 H1 h g1 => ?_) (q.xq R)
  cases d with
  | true => exact m bs F1 H1 S1 ρ σ g1.sit (R.grow g1) k h E (q.step g1)
  | false => exact m' bs F1 H1 S1 ρ σ g1.sit (R.grow g1) k h E (q.step g1)
def sBreak : Env → MS := fun ρ S k => k.bk ρ S
def sCont : Env → MS := fun ρ S k => k.ct ρ S
end
end RV
end
section
/-! Targets, walks, for. -/
namespace RV
open PySem L2
section
variable {X : Cx} {W : WX} {a b c e tg iter : Expr} {pos : Pos} {ea eb ec ee : Env → M} {ma mb : Env → MB} {m1 m2 mbody : Env → MS}
/-! ### targets: vs the slots that are touched -/
def Agr (vs : List Nat) (σ σ' : L2.St) : Prop := σ'.length = σ.length ∧ ∀ j, j ∉ vs → σ'[j]? = σ[j]?
theorem Agr.refl {vs : List Nat} {σ : L2.St} : Agr vs σ σ := ⟨rfl, fun _ _ => rfl⟩
theorem Agr.app {vs ws : List Nat} {σ σ1 σ2 : L2.St} (a : Agr vs σ σ1) (b : Agr ws σ1 σ2) : Agr (vs ++ ws) σ σ2 :=
  ⟨b.1.trans a.1, fun j h => (b.2 j fun z => h (List.mem_append_right _ z)).trans (a.2 j fun z => h (List.mem_append_left _ z))⟩
theorem Agr.set {i : Nat} {σ : L2.St} {v : Option V} : Agr [i] σ (σ.set i v) := ⟨List.length_set, fun j h => List.getElem?_set_ne (fun z => h (by rw [z]; exact List.mem_singleton.mpr rfl))⟩
def MG (K : PySem.W.Frag) (g : TG) (vs : List Nat) (f : D → Env → Option Env) : Prop := ∀ (as : List Addr) (F H : Hp) (S : WS) (ρ : Env) (σ : L2.St) (x : D) (v : V) (ρ' : Env), Sit K as F H S → RpE K as F ρ σ → Rp K as F x v → f x ρ = some ρ' →
  ∀ Q : L2.St → Hp → Prop, (∀ σ', Agr vs σ σ' → RpE K as F ρ' σ' → Q σ' H) → g v σ H Q
structure GG (X : Cx) (tg : Expr) (vs : List Nat) (f : D → Env → Option Env) : Prop where
  ex : ∃ g, PG X tg g ∧ MG X.K g vs f
def MGs (K : PySem.W.Frag) (g : TGs) (vs : List Nat) (f : List D → Env → Option Env) : Prop := ∀ (as : List Addr) (F H : Hp) (S : WS) (ρ : Env) (σ : L2.St) (xs : List D) (us : List V) (ρ' : Env), Sit K as F H S → RpE K as F ρ σ → RpL K as F xs us → f xs ρ = some ρ' →
  ∀ Q : L2.St → Hp → Prop, (∀ σ', Agr vs σ σ' → RpE K as F ρ' σ' → Q σ' H) → g us σ H Q
structure GGs (X : Cx) (ts : List Expr) (n : Nat) (vs : List Nat) (f : List D → Env → Option Env) : Prop where
  ex : ts.length = n ∧ ∃ g, PGs X ts g ∧ MGs X.K g vs f
def tName (i : Nat) : D → Env → Option Env := fun d ρ => some (ρ.set i (some d))
theorem gg_name (i : Nat) {x : Str} (hN : X.N.Nodup) (hi : X.N[i]? = some x := by rfl) (hx : Loc X.env.scope x := by first | exact Or.inl rfl | exact Or.inr rfl) (hf : X.fn x = true ∨ X.env.scope.names.lookup x = some .local := by first | exact .inl rfl | exact .inr rfl | assumption) :
    GG X (.Name x pos) [i] (tName i) := by
  refine ⟨_, pg_name (i := i) hN hi hx hf, fun as F H S ρ σ x v ρ' I R r e Q q => ?_⟩
  cases e
  exact q _ Agr.set (R.set r)
def tsNil : List D → Env → Option Env := fun ds ρ => match ds with
  | [] => some ρ
  | _ => none
def tsCons (f : D → Env → Option Env) (g : List D → Env → Option Env) : List D → Env → Option Env := fun ds ρ => match ds with
  | [] => none
  | d :: r => (f d ρ).bind fun ρ' => g r ρ'
theorem ggs_nil : GGs X [] 0 [] tsNil := by
  refine ⟨rfl, _, pgs_nil, fun as F H S ρ σ xs us ρ' I R r e Q q => ?_⟩
  unfold tsNil at e
  cases r with
  | nil =>
    cases e
    exact ⟨rfl, q σ Agr.refl R⟩
  | cons _ _ => cases e
theorem ggs_cons {n : Nat} {vs ws : List Nat} {es : List Expr} {f : D → Env → Option Env} {g : List D → Env → Option Env} (h1 : GG X e vs f) (h2 : GGs X es n ws g) (hs : (assignEach (e :: es) X.env).map (·.2) = assign e X.env :: (assignEach es X.env).map (·.2) := by rfl) :
    GGs X (e :: es) (n + 1) (vs ++ ws) (tsCons f g) := by
  obtain ⟨t, p, m⟩ := h1
  obtain ⟨hn, u, p', m'⟩ := h2
  refine ⟨by rw [List.length_cons, hn], _, pgs_cons p p' hs, fun as F H S ρ σ xs us ρ' I R r e Q q => ?_⟩
  cases r with
  | nil => cases e
  | cons h r =>
    rename_i d v ds ws
    unfold tsCons at e
    cases h1 : f d ρ with
    | none => simp [h1] at e
    | some ρ1 =>
      simp only [h1, Option.bind_some] at e
      exact ⟨v, ws, rfl, m as F H S ρ σ d v ρ1 I R h h1 _ fun σ1 A1 R1 => m' as F H S ρ1 σ1 ds ws ρ' I R1 r e Q fun σ2 A2 R2 => q σ2 (A1.app A2) R2⟩
def tTupD (n : Nat) (g : List D → Env → Option Env) : D → Env → Option Env := fun d ρ => match d with
  | .tup ds => if ds.length = n then g ds ρ else none
  | _ => none
theorem gg_tup {es : List Expr} {k n : Nat} {vs : List Nat} {g : List D → Env → Option Env} (hc : X.calm = true) (h : GGs X es n vs g) (hn : (assignEach es X.env).length = n := by rfl) (hst : (assignEach es X.env).findIdx? (·.1) = none := by rfl) : GG X (.Tuple es k pos) vs (tTupD n g) := by
  obtain ⟨hl, t, p, m⟩ := h
  refine ⟨_, pg_tup hc p hn hst, fun as F H S ρ σ x v ρ' I R r e Q q => ?_⟩
  cases r with
  | tup hq rl =>
    unfold tTupD at e
    simp only at e
    split at e
    · rename_i hz
      exact ⟨_, _, rfl, I.ex.sqT hq, by rw [← rl.length]; exact hz, m as F H S ρ σ _ _ ρ' I R rl e Q q⟩
    · cases e
  | _ => cases e

/-! ### walks: N is what must stay so that the walk goes on -/
structure Walks (K : PySem.W.Frag) (J : It) (as : List Addr) (F : Hp) (ds : List D) (N : WS → Prop) : Prop where
  stop : ∀ bs F2 H2 S2, Sit K bs F2 H2 S2 → Ex F F2 → Pre as bs → N S2 → J.stop ds.length H2
  go : ∀ i, i < ds.length → ∀ bs F2 H2 S2, Sit K bs F2 H2 S2 → Ex F F2 → Pre as bs → N S2 → J.go i H2
  yld : ∀ (i : Nat) (d : D), ds[i]? = some d → ∀ bs F2 H2 S2, Sit K bs F2 H2 S2 → Ex F F2 → Pre as bs → N S2 → ∀ x H', J.yld i H2 x H' → ∃ F', Grow K bs F2 H2 bs F' H' S2 ∧ Rp K bs F' d x
abbrev MW := WS → (List D → (WS → Prop) → WS → Prop) → Xq → Prop
def any_ : WS → Prop := fun _ => True
def MI (K : PySem.W.Frag) (W : WX) (wi : TI) (m : Env → MW) : Prop := ∀ (as : List Addr) (F H : Hp) (S : WS) (ρ : Env) (σ : L2.St), Sit K as F H S → RpE K as F ρ σ → ∀ q x, m ρ S q x →
  ∀ R : It → Hp → Prop, (∀ ds N S' bs F' H' J, q ds N S' → Grow K as F H bs F' H' S' → Walks K J bs F' ds N → R J H') → XQ K as F H x (WE W σ) → wi σ H R
structure GI (X : Cx) (W : WX) (tg iter : Expr) (m : Env → MW) : Prop where
  ex : ∃ wi, PI X tg iter wi ∧ MI X.K W wi m
theorem walks_range {K : PySem.W.Frag} {as : List Addr} {F : Hp} {lo : Int} {n : Nat} {N : WS → Prop} : Walks K (Itr lo n) as F ((List.range n).map fun (i : Nat) => D.int (lo + (i : Int))) N := by
  refine ⟨fun bs F2 H2 S2 I _ _ _ => ?_, fun i h bs F2 H2 S2 I _ _ _ => ?_, fun i d h bs F2 H2 S2 I _ _ _ x H' y => ?_⟩
  · show n ≤ ((List.range n).map fun (i : Nat) => D.int (lo + (i : Int))).length
    simp
  · have h2 : i < n := by simpa using h
    exact h2
  · obtain ⟨rfl, rfl⟩ := y
    simp only [List.getElem?_map, Option.map_eq_some_iff] at h
    obtain ⟨j, hj, rfl⟩ := h
    have hji : j = i := by
      have := List.getElem?_eq_some_iff.mp hj
      obtain ⟨q, w⟩ := this
      simpa using w.symm
    subst hji
    exact ⟨F2, Grow.refl I, .int _⟩
/-- 0, 1, .. -/
def upto (j : Int) : List D := (List.range j.toNat).map fun (i : Nat) => D.int (0 + (i : Int))
def iRange1 (er : Env → ML) : Env → MW := fun ρ S q x => er ρ S (fun ds S1 => on1 ds fun d => onI d fun j => (-(2 ^ 62) ≤ j ∧ j < 2 ^ 62) ∧ q (upto j) any_ S1) x
theorem gi_range1 {er : Env → ML} {p : Pos} (hm : X.mg "range" = none) (ha : GA X W [a] er) (hg : Gl X "range" := by rfl) (hs : starEach [a] X.env = [(false, eval a X.env)] := by rfl) : GI X W tg (.Call (.Name "range" p) [a] [] pos) (iRange1 er) := by
  obtain ⟨t, p, m⟩ := ha
  refine ⟨_, pi_range1 hg hm p hs, fun as F H S ρ σ I R q x e Q hq hx => ?_⟩
  refine m as F H S ρ σ I R _ x e _ (fun ds S1 bs F1 H1 vs h1 g r => ?_) hx
  obtain ⟨y, rfl, h1⟩ := on1_ok h1
  obtain ⟨j, rfl, h1⟩ := onI_ok h1
  obtain ⟨v, ws, rfl, rv, rn⟩ := r.unsn
  obtain rfl := rn.unnil
  cases rv
  exact ⟨_, rfl, h1.1.1, h1.1.2, hq _ _ S1 bs F1 H1 _ h1.2 g walks_range⟩
/-- the cell k holds the list ds -/
def Holds (k : Nat) (ds : List D) (S : WS) : Prop := S[k]? = some (.lst ds)
theorem walks_list {K : PySem.W.Frag} {as : List Addr} {F : Hp} {p : Addr} {xs : List V} {ds : List D} {N : WS → Prop} (h : SqL K F p xs) (r : RpL K as F ds xs) : Walks K (Itl K p) as F ds N := by
  refine ⟨fun bs F2 H2 S2 I e _ _ => ?_, fun i hi bs F2 H2 S2 I e _ _ => ?_, fun i d hd bs F2 H2 S2 I e pr _ x H' y => ?_⟩
  · have hq : SqL K H2 p xs := I.ex.sqL (e.sqL h)
    refine ⟨xs, hq, ?_⟩
    rw [← r.length]
    exact Nat.le_refl _
  · have hq : SqL K H2 p xs := I.ex.sqL (e.sqL h)
    have hl : i < xs.length := by
      rw [← r.length]
      exact hi
    exact ⟨xs, xs[i], hq, List.getElem?_eq_getElem hl⟩
  · have hq : SqL K H2 p xs := I.ex.sqL (e.sqL h)
    obtain ⟨rfl, y⟩ := y
    have y1 := y xs hq
    obtain ⟨v, hv, rv⟩ := r.get hd
    rw [hv] at y1
    cases y1
    exact ⟨F2, Grow.refl I, rv.mono e pr⟩
theorem pre_nil {as : List Addr} : Pre [] as := fun i a h => by simp at h
theorem walks_cell {K : PySem.W.Frag} {as : List Addr} {F : Hp} {a : Addr} {k : Nat} {ds : List D} (ha : as[k]? = some a) : Walks K (Itl K a) as F ds (Holds k ds) := by
  have at_ : ∀ bs F2 H2 S2, Sit K bs F2 H2 S2 → Ex F F2 → Pre as bs → Holds k ds S2 → ∃ ys, H2 a = some (.lst ys) ∧ RpL K [] F2 ds ys := fun bs F2 H2 S2 I2 _ p2 hN => by
    obtain ⟨_, o2, y2, y3⟩ := I2.cell k a _ (p2 k a ha) hN
    cases o2 with
    | lst ys => exact ⟨ys, y2, y3⟩
    | _ => exact y3.elim
  refine ⟨fun bs F2 H2 S2 I2 x2 p2 hN => ?_, fun i hi bs F2 H2 S2 I2 x2 p2 hN => ?_, fun i d hd bs F2 H2 S2 I2 x2 p2 hN x H' y => ?_⟩
  · obtain ⟨ys, y2, y3⟩ := at_ bs F2 H2 S2 I2 x2 p2 hN
    exact ⟨ys, SqL.of y2, by rw [RpL.length y3]; exact Nat.le_refl _⟩
  · obtain ⟨ys, y2, y3⟩ := at_ bs F2 H2 S2 I2 x2 p2 hN
    have hl : i < ys.length := by rw [← RpL.length y3]; exact hi
    exact ⟨ys, ys[i], SqL.of y2, List.getElem?_eq_getElem hl⟩
  · obtain ⟨ys, y2, y3⟩ := at_ bs F2 H2 S2 I2 x2 p2 hN
    obtain ⟨rfl, hx⟩ := y
    obtain ⟨v, hv, rv⟩ := y3.get hd
    have := hx ys (SqL.of y2)
    rw [this] at hv
    cases hv
    exact ⟨F2, Grow.refl I2, rv.mono (Ex.refl _) pre_nil⟩
theorem rpl_ints {K : PySem.W.Frag} {as : List Addr} {F : Hp} : ∀ ns : List Int, RpL K as F (ns.map D.int) (ns.map V.int)
  | [] => .nil
  | n :: ns => .cons (.int n) (rpl_ints ns)
theorem walks_tup {K : PySem.W.Frag} {as : List Addr} {F : Hp} {p : Addr} {xs : List V} {ds : List D} {N : WS → Prop} (h : SqT K F p xs) (r : RpL K as F ds xs) : Walks K (Itt K p) as F ds N := by
  refine ⟨fun bs F2 H2 S2 I e _ _ => ?_, fun i hi bs F2 H2 S2 I e _ _ => ?_, fun i d hd bs F2 H2 S2 I e pr _ x H' y => ?_⟩
  · have hq : SqT K H2 p xs := I.ex.sqT (e.sqT h)
    refine ⟨xs, hq, ?_⟩
    rw [← r.length]
    exact Nat.le_refl _
  · have hq : SqT K H2 p xs := I.ex.sqT (e.sqT h)
    have hl : i < xs.length := by
      rw [← r.length]
      exact hi
    exact ⟨xs, xs[i], hq, List.getElem?_eq_getElem hl⟩
  · have hq : SqT K H2 p xs := I.ex.sqT (e.sqT h)
    obtain ⟨rfl, y⟩ := y
    have y1 := y xs hq
    obtain ⟨v, hv, rv⟩ := r.get hd
    rw [hv] at y1
    cases y1
    exact ⟨F2, Grow.refl I, rv.mono e pr⟩
theorem walks_str {K : PySem.W.Frag} {as : List Addr} {F : Hp} {x : Str} {N : WS → Prop} : Walks K (Its x) as F (x.cps.toList.map fun c => D.str ⟨#[c]⟩) N := by
  refine ⟨fun bs F2 H2 S2 I _ _ _ => ?_, fun i h bs F2 H2 S2 I _ _ _ => ?_, fun i d h bs F2 H2 S2 I _ _ _ y H' z => ?_⟩
  · show x.length ≤ (x.cps.toList.map fun c => D.str ⟨#[c]⟩).length
    simp [Str.length]
  · show i < x.length
    simpa [Str.length] using h
  · obtain ⟨rfl, z⟩ := z
    simp only [List.getElem?_map, Option.map_eq_some_iff] at h
    obtain ⟨j, hj, rfl⟩ := h
    have z2 : ∃ c, x.cps.toList[i]? = some c ∧ y = V.str ⟨#[c]⟩ := by
      first
        | exact z
        | simpa using z
    obtain ⟨c, hc, rfl⟩ := z2
    rw [hj] at hc
    cases hc
    exact ⟨F2, Grow.refl I, .str _⟩
/-- over a list, a tuple, a text -/
def onSeq (d : D) (S : WS) (q : List D → (WS → Prop) → WS → Prop) : Prop := match d with
  | .lst ds => q ds any_ S
  | .scr ns => q (ns.map D.int) any_ S
  | .cell k => onS S[k]? fun c => onLst c fun ds => q ds (Holds k ds) S
  | _ => False
def iSeq (ea : Env → M) : Env → MW := fun ρ S q x => ea ρ S (fun d S1 => onSeq d S1 q) x
def iTupD (ea : Env → M) : Env → MW := fun ρ S q x => ea ρ S (fun d S1 => onTu d fun ds => q ds any_ S1) x
def iStrD (ea : Env → M) : Env → MW := fun ρ S q x => ea ρ S (fun d S1 => onT d fun z => q (z.cps.toList.map fun c => D.str ⟨#[c]⟩) any_ S1) x
theorem gi_list (ha : GE X W a ea) : GI X W tg a (iSeq ea) := by
  obtain ⟨t, p, m⟩ := ha
  refine ⟨_, pi_list p, fun as F H S ρ σ I R q x e Q hq hx => ?_⟩
  refine m as F H S ρ σ I R _ x e _ (fun d S1 bs F1 H1 v h1 g r => ?_) hx
  cases r with
  | lst hp rl => exact ⟨_, rfl, ⟨_, SqL.of (g.sit.ex _ _ hp)⟩, hq _ _ S1 bs F1 H1 _ h1 g (walks_list (SqL.of hp) rl)⟩
  | scr hp => exact ⟨_, rfl, ⟨_, g.sit.ex.sqL hp⟩, hq _ _ S1 bs F1 H1 _ h1 g (walks_list hp (rpl_ints _))⟩
  | cell ha =>
    obtain ⟨c, hS, h2⟩ := onS_ok h1
    cases c with
    | lst ds =>
      obtain ⟨_, o, z2, z3⟩ := g.sit.cell _ _ _ ha hS
      cases o with
      | lst xs => exact ⟨_, rfl, ⟨xs, SqL.of z2⟩, hq _ _ S1 bs F1 H1 _ h2 g (walks_cell ha)⟩
      | _ => exact z3.elim
    | _ => exact h2.elim
  | _ => exact h1.elim
theorem gi_tup (ha : GE X W a ea) : GI X W tg a (iTupD ea) := by
  obtain ⟨t, p, m⟩ := ha
  refine ⟨_, pi_tup p, fun as F H S ρ σ I R q x e Q hq hx => ?_⟩
  refine m as F H S ρ σ I R _ x e _ (fun d S1 bs F1 H1 v h1 g r => ?_) hx
  cases r with
  | tup hp rl => exact ⟨_, rfl, ⟨_, g.sit.ex.sqT hp⟩, hq _ _ S1 bs F1 H1 _ h1 g (walks_tup hp rl)⟩
  | _ => exact h1.elim
theorem gi_str (ha : GE X W a ea) : GI X W tg a (iStrD ea) := by
  obtain ⟨t, p, m⟩ := ha
  refine ⟨_, pi_str p, fun as F H S ρ σ I R q x e Q hq hx => ?_⟩
  refine m as F H S ρ σ I R _ x e _ (fun d S1 bs F1 H1 v h1 g r => ?_) hx
  cases r with
  | str z => exact ⟨_, rfl, hq _ _ S1 bs F1 H1 _ h1 g walks_str⟩
  | _ => exact h1.elim

/-! ### for -/
def forD (N : WS → Prop) (f : D → Env → Option Env) (mb : Env → MS) : List D → Env → MS
  | [], ρ, S, k => N S ∧ k.nx ρ S
  | d :: ds, ρ, S, k => N S ∧ onS (f d ρ) fun ρ1 => mb ρ1 S ⟨fun ρ2 S2 => forD N f mb ds ρ2 S2 k, k.rt, k.nx, fun ρ2 S2 => forD N f mb ds ρ2 S2 k, k.ex⟩
theorem forD_N {N : WS → Prop} {f : D → Env → Option Env} {mb : Env → MS} {ds : List D} {ρ : Env} {S : WS} {k : Kt} (h : forD N f mb ds ρ S k) : N S := by
  cases ds with
  | nil => exact h.1
  | cons d ds => exact h.1
def sFor (mi : Env → MW) (f : D → Env → Option Env) (mb : Env → MS) : Env → MS := fun ρ S k => mi ρ S (fun ds N S1 => forD N f mb ds ρ S1 k) fun e S' => k.ex e ρ S'
theorem ms_for {K : PySem.W.Frag} {wi : TI} {g : TG} {tb : TS} {mi : Env → MW} {f : D → Env → Option Env} {vs : List Nat} (hi : MI K W wi mi) (hg : MG K g vs f) (hb : MSt K W tb mbody) : MSt K W (tFor wi g tb) (sFor mi f mbody) := fun as F H S ρ σ I R k e E q => by
  refine hi as F H S ρ σ I R _ _ e _ (fun ds N S0 as F0 H0 J h0 g0 wk => ?_) (q.xq R)
  have q0 := q.step g0
  refine ⟨fun i m σ H => m = ds.length - i ∧ i ≤ ds.length ∧ ∃ bs F1 S1 ρ1, Grow K as F0 H0 bs F1 H S1 ∧ RpE K bs F1 ρ1 σ ∧ forD N f mbody (ds.drop i) ρ1 S1 k, ⟨ds.length, by simp, Nat.zero_le _, as, F0, S0, ρ, Grow.refl g0.sit, R.grow g0, by simpa using h0⟩, ?_⟩
  rintro i m σ1 H1 ⟨rfl, hle, bs, F1, S1, ρ1, g1, R1, e1⟩
  have hN := forD_N e1
  by_cases hlt : i < ds.length
  · right
    refine ⟨wk.go i hlt bs F1 H1 S1 g1.sit g1.ex g1.pre hN, fun σ' H' => ∃ m', m' < ds.length - i ∧ m' = ds.length - (i + 1) ∧ i + 1 ≤ ds.length ∧ ∃ bs F1 S1 ρ1, Grow K as F0 H0 bs F1 H' S1 ∧ RpE K bs F1 ρ1 σ' ∧ forD N f mbody (ds.drop (i + 1)) ρ1 S1 k, fun σ' H' n => ?_, fun x H' y => ?_⟩
    · obtain ⟨m', h1, h2, h3, h4⟩ := n
      exact ⟨m', h1, h2, h3, h4⟩
    · have hd : ds[i]? = some ds[i] := List.getElem?_eq_getElem hlt
      obtain ⟨F2, g2, rx⟩ := wk.yld i ds[i] hd bs F1 H1 S1 g1.sit g1.ex g1.pre hN x H' y
      rw [List.drop_eq_getElem_cons hlt] at e1
      obtain ⟨ρ2, hf, hm⟩ := onS_ok e1.2
      refine hg bs F2 H' S1 ρ1 σ1 ds[i] x ρ2 g2.sit (R1.grow g2) rx hf _ fun σ2 _ R2 => ?_
      have g12 := g1.trans g2
      refine hb bs F2 H' S1 ρ2 σ2 g2.sit R2 _ hm _ ⟨fun ρ3 S2 cs F3 H3 σ3 h3 g3 R3 => ?_, fun d S' cs F3 H3 v h3 g3 => q0.rt d S' cs F3 H3 v h3 (g12.trans g3), fun ρ3 S2 cs F3 H3 σ3 h3 g3 => q0.nx ρ3 S2 cs F3 H3 σ3 h3 (g12.trans g3), fun ρ3 S2 cs F3 H3 σ3 h3 g3 R3 => ?_, fun e ρ' S' cs F3 H3 σ3 cls dd h3 g3 => q0.ex e ρ' S' cs F3 H3 σ3 cls dd h3 (g12.trans g3)⟩
      · exact ⟨_, by omega, rfl, hlt, cs, F3, S2, ρ3, g12.trans g3, R3, h3⟩
      · exact ⟨_, by omega, rfl, hlt, cs, F3, S2, ρ3, g12.trans g3, R3, h3⟩
  · left
    have hi2 : i = ds.length := by omega
    subst hi2
    refine ⟨wk.stop bs F1 H1 S1 g1.sit g1.ex g1.pre hN, ?_⟩
    rw [List.drop_length] at e1
    exact q0.nx ρ1 S1 bs F1 H1 σ1 e1.2 g1 R1
theorem gs_for {body : List Stmt} {mi : Env → MW} {vs : List Nat} {f : D → Env → Option Env} (hp : PassesOwn (model X.prog X.w) X.A X.env X.xe) (hc : X.calm = true) (hi : GI X W tg iter mi) (hg : GG X tg vs f) (hb : GSs X W body mbody)
    (hs : ∀ (x : Value), foldedSetIterable iter X.env x = pure x := by intro _; rfl) : GS X W (.For tg iter body [] pos) (sFor mi f mbody) := by
  obtain ⟨wi, pi, mi'⟩ := hi
  obtain ⟨g, pg, mg⟩ := hg
  obtain ⟨t, pt, mt⟩ := hb
  exact ⟨_, ps_for hp hc pi pg pt hs, ms_for mi' mg mt⟩
end
end RV
end
section
/-! Comprehensions. -/
namespace RV
open PySem L2
abbrev WF : WX := fun _ _ _ _ => False
abbrev noX : Xq := fun _ _ => False
section
variable {X : Cx} {W : WX} {a b c e tg iter elt : Expr} {pos : Pos} {ea eb ec ee : Env → M} {ma mb mc : Env → MB} {m1 m2 mbody : Env → MS}
/-! ### the reading that says just what m says; nothing is raised -/
def rdE (K : PySem.W.Frag) (m : Env → M) : TE := fun σ H Q => ∃ (as : List Addr) (F : Hp) (S : WS) (ρ : Env) (q : D → WS → Prop), Sit K as F H S ∧ RpE K as F ρ σ ∧ m ρ S q noX ∧ NQ K as F H q Q
theorem GE.canon (h : GE X WF e ea) : PE X e (rdE X.K ea) := by
  obtain ⟨t, p, m⟩ := h
  refine ⟨fun pins s σ H Q I h => ?_⟩
  obtain ⟨as, F, S, ρ, q, I', R, hm, hq⟩ := h
  exact p.run pins s σ H Q I (m as F H S ρ σ I' R q noX hm Q hq XQ.no)
def rdT (K : PySem.W.Frag) (m : Env → MB) : TT := fun σ H Q => ∃ (as : List Addr) (F : Hp) (S : WS) (ρ : Env) (q : Bool → WS → Prop), Sit K as F H S ∧ RpE K as F ρ σ ∧ m ρ S q noX ∧ ∀ b S' bs F' H', q b S' → Grow K as F H bs F' H' S' → Q b H'
theorem GT.canon (h : GT X WF e ma) : PT X e (rdT X.K ma) := by
  obtain ⟨t, p, m⟩ := h
  refine ⟨fun pins s σ H Q I h => ?_⟩
  obtain ⟨as, F, S, ρ, q, I', R, hm, hq⟩ := h
  exact p.run pins s σ H Q I (m as F H S ρ σ I' R q noX hm Q hq XQ.no)
def rdG (K : PySem.W.Frag) (vs : List Nat) (f : D → Env → Option Env) : TG := fun v σ H Q => ∃ (as : List Addr) (F : Hp) (S : WS) (ρ : Env) (x : D) (ρ' : Env), Sit K as F H S ∧ RpE K as F ρ σ ∧ Rp K as F x v ∧ f x ρ = some ρ' ∧ ∀ σ', Agr vs σ σ' → RpE K as F ρ' σ' → Q σ' H
theorem GG.canon {vs : List Nat} {f : D → Env → Option Env} (h : GG X tg vs f) : PG X tg (rdG X.K vs f) := by
  obtain ⟨t, p, m⟩ := h
  refine ⟨fun pins s σ H v u Q I r h => ?_⟩
  obtain ⟨as, F, S, ρ, x, ρ', I', R, rx, hm, q⟩ := h
  exact p.run pins s σ H v u Q I r (m as F H S ρ σ x v ρ' I' R rx hm Q q)
/-- tests of a comprehension: none or one -/
structure GTs (X : Cx) (ifs : List Expr) (m : Env → MB) : Prop where
  ex : PTs X ifs (rdT X.K m)
def bYes : Env → MB := fun _ S q _ => q true S
theorem gts_nil : GTs X [] bYes := by
  refine ⟨⟨fun pins s σ H Q I h => ?_⟩⟩
  obtain ⟨as, F, S, ρ, q, I', R, hm, hq⟩ := h
  exact pts_nil.run pins s σ H Q I (hq _ S as F H hm (Grow.refl I'))
theorem gts_one (h : GT X WF c mc) : GTs X [c] mc := ⟨pts_one h.canon⟩

/-! ### comprehensions -/
def wipeE (ρ : Env) : List Nat → Env
  | [] => ρ
  | v :: vs => (wipeE ρ vs).set v none
theorem set_none {K : PySem.W.Frag} {as : List Addr} {F : Hp} {ρ : Env} {σ : L2.St} {i : Nat} (r : RpE K as F ρ σ) : RpE K as F (ρ.set i none) (σ.set i none) := by
  refine ⟨by rw [List.length_set, List.length_set]; exact r.len, fun j d q => ?_⟩
  by_cases hj : i = j
  · subst hj
    by_cases hl : i < ρ.length
    · rw [List.getElem?_set_self hl] at q
      cases q
    · rw [List.getElem?_eq_none (by rw [List.length_set]; omega)] at q
      cases q
  · rw [List.getElem?_set_ne hj] at q ⊢
    exact r.at_ j d q
theorem RpE.wipe {K : PySem.W.Frag} {as : List Addr} {F : Hp} {ρ : Env} {σ : L2.St} (r : RpE K as F ρ σ) : ∀ vs : List Nat, RpE K as F (wipeE ρ vs) (L2.wipe σ vs)
  | [] => r
  | v :: vs => set_none (r.wipe vs)
theorem wipe_at (σ : L2.St) (j : Nat) : ∀ vs : List Nat, (L2.wipe σ vs)[j]? = if j ∈ vs then (if j < σ.length then some none else none) else σ[j]?
  | [] => by simp [L2.wipe]
  | v :: vs => by
    unfold L2.wipe
    by_cases h : v = j
    · subst h
      by_cases hl : v < σ.length
      · rw [List.getElem?_set_self (by rw [wipe_length]; exact hl)]
        simp [hl]
      · rw [List.getElem?_eq_none (by rw [List.length_set, wipe_length]; omega)]
        simp [hl]
    · rw [List.getElem?_set_ne h, wipe_at σ j vs]
      have : j ≠ v := fun z => h z.symm
      simp [this]
theorem wipe_agr {σ σ2 : L2.St} {us vs : List Nat} (h : Agr us (L2.wipe σ vs) σ2) (hs : ∀ x ∈ us, x ∈ vs) : L2.wipe σ2 vs = L2.wipe σ vs := by
  have hl : σ2.length = σ.length := h.1.trans (wipe_length σ vs)
  refine List.ext_getElem? fun j => ?_
  rw [wipe_at, wipe_at, hl]
  by_cases hj : j ∈ vs
  · simp [hj]
  · rw [if_neg hj, if_neg hj, h.2 j fun z => hj (hs j z), wipe_at, if_neg hj]
def lcD (N : WS → Prop) (f : D → Env → Option Env) (mc : Env → MB) (me : Env → M) (ρ : Env) : List D → List D → WS → (List D → WS → Prop) → Prop
  | [], acc, S, q => N S ∧ q acc S
  | d :: ds, acc, S, q => N S ∧ onS (f d ρ) fun ρ1 => mc ρ1 S (fun b S1 => iteB b (me ρ1 S1 (fun y S2 => lcD N f mc me ρ ds (acc ++ [y]) S2 q) noX) (lcD N f mc me ρ ds acc S1 q)) noX
theorem lcD_N {N : WS → Prop} {f : D → Env → Option Env} {mc : Env → MB} {me : Env → M} {ρ : Env} {ds acc : List D} {S : WS} {q : List D → WS → Prop} (h : lcD N f mc me ρ ds acc S q) : N S := by
  cases ds with
  | nil => exact h.1
  | cons d ds => exact h.1
/-- what becomes of a new list: it stands still, or it is a new cell -/
inductive Lk where
  | still
  | new
mutual
/-- data that names no cell from n on -/
def D.clean (n : Nat) : D → Bool
  | .cell k => decide (k < n)
  | .tup ds => D.cleanL n ds
  | .lst ds => D.cleanL n ds
  | .obj _ fs => D.cleanF n fs
  | .exc _ fs => D.cleanF n fs
  | .exv _ _ _ _ => false
  | .dic fs => D.cleanK n fs
  | .non | .bl _ | .int _ | .str _ | .ty _ | .adr _ | .scr _ => true
def D.cleanL (n : Nat) : List D → Bool
  | [] => true
  | d :: ds => D.clean n d && D.cleanL n ds
def D.cleanF (n : Nat) : List (Str × D) → Bool
  | [] => true
  | (_, d) :: ds => D.clean n d && D.cleanF n ds
def D.cleanK (n : Nat) : List (Key × D) → Bool
  | [] => true
  | (_, d) :: ds => D.clean n d && D.cleanK n ds
end
section
variable {K : PySem.W.Frag} {as bs : List Addr} {F : Hp} {n : Nat}
mutual
theorem Rp.back (p : ∀ k a, k < n → bs[k]? = some a → as[k]? = some a) : ∀ {d : D} {v : V}, Rp K bs F d v → D.clean n d = true → Rp K as F d v
  | _, _, .non, _ => .non
  | _, _, .bl b, _ => .bl b
  | _, _, .int i, _ => .int i
  | _, _, .str s, _ => .str s
  | _, _, .ty n, _ => .ty n
  | _, _, .adr a, _ => .adr a
  | _, _, .scr h, _ => .scr h
  | _, _, .cell h, c => .cell (p _ _ (by unfold D.clean at c; exact of_decide_eq_true c) h)
  | _, _, .tup h r, c => .tup h (RpL.back p r (by unfold D.clean at c; exact c))
  | _, _, .lst h r, c => .lst h (RpL.back p r (by unfold D.clean at c; exact c))
  | _, _, .obj h r, c => .obj h (RpF.back p r (by unfold D.clean at c; exact c))
  | _, _, .dic h r, c => .dic h (RpK.back p r (by unfold D.clean at c; exact c))
theorem RpL.back (p : ∀ k a, k < n → bs[k]? = some a → as[k]? = some a) : ∀ {ds : List D} {vs : List V}, RpL K bs F ds vs → D.cleanL n ds = true → RpL K as F ds vs
  | _, _, .nil, _ => .nil
  | _, _, .cons h r, c => by
    unfold D.cleanL at c
    obtain ⟨c1, c2⟩ := Bool.and_eq_true_iff.mp c
    exact .cons (Rp.back p h c1) (RpL.back p r c2)
theorem RpF.back (p : ∀ k a, k < n → bs[k]? = some a → as[k]? = some a) : ∀ {fs : List (Str × D)} {vfs : List (Str × V)}, RpF K bs F fs vfs → D.cleanF n fs = true → RpF K as F fs vfs
  | _, _, .nil, _ => .nil
  | _, _, .cons h r, c => by
    unfold D.cleanF at c
    obtain ⟨c1, c2⟩ := Bool.and_eq_true_iff.mp c
    exact .cons (Rp.back p h c1) (RpF.back p r c2)
theorem RpK.back (p : ∀ k a, k < n → bs[k]? = some a → as[k]? = some a) : ∀ {fs : List (Key × D)} {vfs : List (Key × V)}, RpK K bs F fs vfs → D.cleanK n fs = true → RpK K as F fs vfs
  | _, _, .nil, _ => .nil
  | _, _, .cons h r, c => by
    unfold D.cleanK at c
    obtain ⟨c1, c2⟩ := Bool.and_eq_true_iff.mp c
    exact .cons (Rp.back p h c1) (RpK.back p r c2)
end
theorem rpl_clean0 {ds : List D} {vs : List V} (r : RpL K as F ds vs) (h : D.cleanL 0 ds = true) : RpL K [] F ds vs := r.back (n := 0) (fun k a hk => absurd hk (by omega)) h
end
/-- a new list hands on -/
def lkD (l : Lk) (ds : List D) (S : WS) (q : D → WS → Prop) : Prop := match l with
  | .still => q (.lst ds) S
  | .new => D.cleanL 0 ds = true ∧ q (.cell S.length) (S ++ [.lst ds])
theorem sit_cell {K : PySem.W.Frag} {as : List Addr} {F H : Hp} {S : WS} {x : Addr} {c : Cell} {o : HO} {H' : Hp} (I : Sit K as F H S) (nx : x ∉ as) (fx : F x = none) (hH : ∀ a u, a ∈ as ∨ F a ≠ none → H a = some u → H' a = some u) (hx' : H' x = some o) (hc : c.isHid = false) (ho : CellOf K F x c o) : Sit K (as ++ [x]) F H' (S ++ [c]) := by
  refine ⟨by simp [I.len], fun a u h => hH _ _ (.inr (by rw [h]; simp)) (I.ex a u h), ?_, fun i q c2 h1 h2 => ?_⟩
  · rw [List.nodup_append]
    refine ⟨I.nd, by simp, fun a ha b hb e => ?_⟩
    rw [List.mem_singleton] at hb
    subst hb
    exact nx (e ▸ ha)
  · by_cases hi : i < as.length
    · rw [List.getElem?_append_left hi] at h1
      rw [List.getElem?_append_left (by rw [← I.len]; exact hi)] at h2
      obtain ⟨z1, ob, z2, z3⟩ := I.cell i q c2 h1 h2
      exact ⟨z1, ob, hH _ _ (.inl (List.mem_of_getElem? h1)) z2, z3⟩
    · have hi2 : i = as.length := by
        have := (List.getElem?_eq_some_iff.mp h1).1
        simp at this
        omega
      subst hi2
      rw [List.getElem?_append_right (Nat.le_refl _)] at h1
      rw [List.getElem?_append_right (by rw [I.len]; exact Nat.le_refl _)] at h2
      simp at h1
      simp [I.len] at h2
      subst h1
      subst h2
      exact ⟨fun _ => fx, o, hx', ho⟩
theorem pre_app {as bs : List Addr} : Pre as (as ++ bs) := fun i a h => by
  rw [List.getElem?_append_left (List.getElem?_eq_some_iff.mp h).1]
  exact h
/-- the list at p, which is neither still nor a cell, is handed on -/
theorem lk_ok {K : PySem.W.Frag} {as bs : List Addr} {F H F1 H1 : Hp} {S1 : WS} {p : Addr} {ds : List D} {vs : List V} {l : Lk} {q : D → WS → Prop} {Q : VK} (hq : NQ K as F H q Q) (g : Grow K as F H bs F1 H1 S1) (hp : H p = none) (fp : F1 p = none) (bp : p ∉ bs) (hl : H1 p = some (.lst vs)) (r : RpL K bs F1 ds vs) (h : lkD l ds S1 q) : Q (.ref p) H1 := by
  cases l with
  | still =>
    have ex : Ex F1 (upd F1 p (.lst vs)) := Ex.new fp
    refine hq _ S1 bs (upd F1 p (.lst vs)) H1 _ h ⟨g.sit.freeze fp bp hl, g.pre, g.ex.trans ex, fun a ha => ?_, g.newc, g.old, g.there⟩ (.lst upd_same (r.mono ex (Pre.refl _)))
    by_cases e2 : a = p
    · subst e2
      exact .inr hp
    · rw [upd_ne e2] at ha
      exact g.new a ha
  | new =>
    have s2 : Sit K (bs ++ [p]) F1 H1 (S1 ++ [.lst ds]) := sit_cell g.sit bp fp (fun _ _ _ h => h) hl rfl (rpl_clean0 r h.1)
    refine hq _ _ (bs ++ [p]) F1 H1 _ h.2 ⟨s2, g.pre.trans pre_app, g.ex, g.new, fun a ha => ?_, g.old, g.there⟩ (.cell (by rw [← g.sit.len]; simp))
    rcases List.mem_append.mp ha with z | z
    · exact g.newc a z
    · rw [List.mem_singleton] at z
      subst z
      exact .inr hp
def eLc (l : Lk) (mi : Env → MW) (f : D → Env → Option Env) (mc : Env → MB) (me : Env → M) (vs : List Nat) : Env → M := fun ρ S q x => mi ρ S (fun ds N S1 => small ds.length = true ∧ lcD N f mc me (wipeE ρ vs) ds [] S1 fun es S2 => lkD l es S2 q) x
/-- a list that is being made: neither still nor a cell -/
theorem grow_free {K : PySem.W.Frag} {as bs : List Addr} {F H F1 H1 : Hp} {S1 : WS} {p : Addr} {o o' : HO} (g : Grow K as F H bs F1 H1 S1) (hp : H p = some o) (fp : F p = none) (ap : p ∉ as) : F1 p = none ∧ p ∉ bs ∧ H1 p = some o := by
  refine ⟨?_, fun z => ?_, g.old p o ap hp⟩
  · cases q3 : F1 p with
    | none => rfl
    | some u =>
      rcases g.new p (by rw [q3]; simp) with z | z
      · exact absurd fp z
      · rw [hp] at z
        cases z
  · rcases g.newc p z with z | z
    · exact ap z
    · rw [hp] at z
      cases z
theorem me_lc {K : PySem.W.Frag} {wi : TI} {l : Lk} {mi : Env → MW} {us vs : List Nat} {f : D → Env → Option Env} (hi : MI K W wi mi) (hs : ∀ x ∈ us, x ∈ vs) : ME K W (tLc wi (rdG K us f) (rdT K mc) (rdE K ee) vs) (eLc l mi f mc ee vs) := fun as F H S ρ σ I R q x e Q hq hx => by
  refine hi as F H S ρ σ I R _ _ e _ (fun ds N S0 as F0 H0 J h0 g0 wk D0 hD => ?_) hx
  obtain ⟨hsm, h2⟩ := h0
  have fD : F0 D0 = none := g0.sit.out hD
  have aD : D0 ∉ as := fun z => g0.sit.there z hD
  have RW : RpE K as F0 (wipeE ρ vs) (L2.wipe σ vs) := (R.grow g0).wipe vs
  have q0 := hq.step g0
  refine ⟨fun i m H1 => m = ds.length - i ∧ i ≤ ds.length ∧ ∃ bs F1 S1 acc done, Grow K as F0 H0 bs F1 H1 S1 ∧ F1 D0 = none ∧ D0 ∉ bs ∧ H1 D0 = some (.lst acc) ∧ RpL K bs F1 done acc ∧ done.length ≤ i ∧ lcD N f mc ee (wipeE ρ vs) (ds.drop i) done S1 (fun es S2 => lkD l es S2 q), ⟨ds.length, by simp, Nat.zero_le _, as, F0, S0, [], [], ?_, fD, aD, upd_same, .nil, Nat.le_refl _, by simpa using h2⟩, ?_⟩
  · exact ⟨g0.sit.other fD aD, Pre.refl _, Ex.refl _, fun _ h => .inl h, fun _ h => .inl h, fun a o _ h => by rw [upd_ne (ne_of_none h hD)]; exact h, fun a h => upd_there h⟩
  rintro i m H1 ⟨rfl, hle, bs, F1, S1, acc, done, g1, f1, b1, hD1, ra, hdl, e1⟩
  have hN := lcD_N e1
  have hacc : acc.length < sizeLine := by
    rw [← ra.length]
    have h5 : ds.length ≤ 100000 := of_decide_eq_true hsm
    have h6 : (100000 : Nat) < sizeLine := by decide
    omega
  by_cases hlt : i < ds.length
  · right
    refine ⟨wk.go i hlt bs F1 H1 S1 g1.sit g1.ex g1.pre hN, fun H' => ∃ m', m' < ds.length - i ∧ m' = ds.length - (i + 1) ∧ i + 1 ≤ ds.length ∧ ∃ bs F1 S1 acc done, Grow K as F0 H0 bs F1 H' S1 ∧ F1 D0 = none ∧ D0 ∉ bs ∧ H' D0 = some (.lst acc) ∧ RpL K bs F1 done acc ∧ done.length ≤ i + 1 ∧ lcD N f mc ee (wipeE ρ vs) (ds.drop (i + 1)) done S1 (fun es S2 => lkD l es S2 q), fun H' n => ?_, fun x H' y => ?_⟩
    · obtain ⟨m', n1, n2, n3, n4⟩ := n
      exact ⟨m', n1, n2, n3, n4⟩
    · have hd : ds[i]? = some ds[i] := List.getElem?_eq_getElem hlt
      obtain ⟨F2, g2, rx⟩ := wk.yld i ds[i] hd bs F1 H1 S1 g1.sit g1.ex g1.pre hN x H' y
      rw [List.drop_eq_getElem_cons hlt] at e1
      obtain ⟨ρ2, hf, hm⟩ := onS_ok e1.2
      have g12 := g1.trans g2
      refine ⟨bs, F2, S1, wipeE ρ vs, ds[i], ρ2, g2.sit, RW.mono g12.ex g12.pre, rx, hf, fun σ2 A2 R2 => ⟨wipe_agr A2 hs, ?_⟩⟩
      refine ⟨bs, F2, S1, ρ2, _, g2.sit, R2, hm, fun pb S2 cs F3 H3 h3 g3 => ?_⟩
      have g23 := g2.trans g3
      cases pb with
      | true =>
        refine ⟨cs, F3, S2, ρ2, _, g3.sit, R2.grow g3, h3, fun d S4 ls F4 H4 v h4 g4 r4 => ?_⟩
        have g24 := g23.trans g4
        have g5 := g1.trans g24
        obtain ⟨f4, b4, hD4⟩ := grow_free (o' := .lst []) g24 hD1 f1 b1
        refine ⟨acc, hD4, hacc, _, by omega, rfl, hlt, ls, F4, S4, acc ++ [v], done ++ [d], ?_, f4, b4, upd_same, (ra.mono g24.ex g24.pre).append (.cons r4 .nil), ?_, h4⟩
        · exact ⟨g5.sit.other f4 b4, g5.pre, g5.ex, g5.new, g5.newc, fun a o ha h => by
            rw [upd_ne (ne_of_none h hD)]
            exact g5.old a o ha h, fun a h => upd_there (g5.there a h)⟩
        · rw [List.length_append]
          show done.length + 1 ≤ i + 1
          omega
      | false =>
        obtain ⟨f4, b4, hD4⟩ := grow_free (o' := .lst []) g23 hD1 f1 b1
        exact ⟨_, by omega, rfl, hlt, cs, F3, S2, acc, done, g1.trans g23, f4, b4, hD4, ra.mono g23.ex g23.pre, by omega, h3⟩
  · left
    have hi2 : i = ds.length := by omega
    subst hi2
    refine ⟨wk.stop bs F1 H1 S1 g1.sit g1.ex g1.pre hN, ?_⟩
    rw [List.drop_length] at e1
    exact lk_ok q0 g1 hD f1 b1 hD1 ra e1.2
theorem ge_lc {l : Lk} {scope : Scope} {own : List (Str × Nat)} {ifs : List Expr} {mi : Env → MW} {us : List Nat} {f : D → Env → Option Env} (hc : X.calm = true) (hN : X.N.Nodup) (hi : GI X W tg iter mi) (ok : BlkOk X.N X.env.scope scope own)
    (hg : ∀ (s : Shared) (H : Hp) (C : Addr) (cl : List (Str × Addr)) (fp : List Addr), GG (X.blk s H scope (compEnvC scope cl C X.env) fp) tg us f)
    (ht : ∀ (s : Shared) (H : Hp) (C : Addr) (cl : List (Str × Addr)) (fp : List Addr), GTs (X.blk s H scope (compEnvC scope cl C X.env) fp) ifs mc)
    (he : ∀ (s : Shared) (H : Hp) (C : Addr) (cl : List (Str × Addr)) (fp : List Addr), GE (X.blk s H scope (compEnvC scope cl C X.env) fp) WF elt ee)
    (hu : ∀ x ∈ us, x ∈ own.map (·.2) := by decide) (hs : ∀ (x : Value), foldedSetIterable iter X.env x = pure x := by intro _; rfl) :
    GE X W (.ListComp elt [⟨tg, iter, ifs, 0⟩] scope pos) (eLc l mi f mc ee (own.map (·.2))) := by
  obtain ⟨wi, pi, mi'⟩ := hi
  exact ⟨_, pe_lc (own := own) hc hN pi ok (fun s H C cl fp => (hg s H C cl fp).canon) (fun s H C cl fp => (ht s H C cl fp).ex) (fun s H C cl fp => (he s H C cl fp).canon) hs, me_lc mi' hu⟩
/-- a display as a new cell -/
def eNew (er : Env → ML) : Env → M := fun ρ S q x => er ρ S (fun ds S1 => small ds.length = true ∧ lkD .new ds S1 q) x
theorem ge_new {es : List Expr} {er : Env → ML} (h : GA X W es er) : GE X W (.List es pos) (eNew er) := by
  obtain ⟨t, p, m⟩ := h
  refine ⟨_, pe_lst p, fun as F H S ρ σ I R q x e Q hq hx => ?_⟩
  refine m as F H S ρ σ I R _ x e _ (fun ds S1 bs F1 H1 vs h1 g1 r1 => ⟨?_, fun a ha => ?_⟩) hx
  · rw [← r1.length]
    exact small_le h1.1
  · have f1 := g1.sit.out ha
    have b1 : a ∉ bs := fun z => g1.sit.there z ha
    have g2 : Grow X.K bs F1 H1 bs F1 (upd H1 a (.lst vs)) S1 := ⟨g1.sit.other f1 b1, Pre.refl _, Ex.refl _, fun _ h => .inl h, fun _ h => .inl h, fun c o _ h => by rw [upd_ne (ne_of_none h ha)]; exact h, fun c h => upd_there h⟩
    exact lk_ok (hq.step g1) g2 ha f1 b1 upd_same r1 h1.2
end
end RV
end
section
/-! A def by its body; instances. -/
namespace RV
open PySem L2
def startE (n : Nat) (ds : List D) : Env := ds.map some ++ List.replicate (n - ds.length) none
theorem startE_ok {K : PySem.W.Frag} {as : List Addr} {F : Hp} {N : List Str} {ds : List D} {vs : List V} (r : RpL K as F ds vs) : RpE K as F (startE N.length ds) (L2.start N vs) := by
  have hl := r.length
  refine ⟨by simp [startE, L2.start, hl], fun i d h => ?_⟩
  unfold startE at h
  unfold L2.start
  by_cases hi : i < ds.length
  · rw [List.getElem?_append_left (by simpa using hi)] at h
    rw [List.getElem?_append_left (by simpa [← hl] using hi)]
    simp only [List.getElem?_map, Option.map_eq_some_iff] at h
    obtain ⟨d', h1, h2⟩ := h
    cases h2
    obtain ⟨v, hv, rv⟩ := r.get h1
    exact ⟨v, by simp [hv], rv⟩
  · rw [List.getElem?_append_right (by simpa using hi)] at h
    simp [List.getElem?_replicate] at h
/-- what a body hands back: a list of the def's own stands still from here on -/
def fin (n : Nat) (d : D) (S : WS) (q : D → WS → Prop) : Prop := if S.length = n then q d S else match d with
  | .cell k => if k < n then q d (S.take n) else onS S[k]? fun c => onLst c fun ds => q (.lst ds) (S.take n)
  | d => D.clean n d = true ∧ q d (S.take n)
/-- .. or it is a new cell -/
def finN (n : Nat) (d : D) (S : WS) (q : D → WS → Prop) : Prop := match d with
  | .cell k => n ≤ k ∧ onS S[k]? fun c => q (.cell n) (S.take n ++ [c])
  | _ => False
def finX (n : Nat) (e : D) (S : WS) (x : Xq) : Prop := if S.length = n then x e S else D.clean n e = true ∧ x e (S.take n)
def fnD (n : Nat) (m : Env → MS) : List D → M := fun ds S q x => m (startE n ds) S ⟨fun _ S' => fin S.length .non S' q, fun d S' => fin S.length d S' q, fun _ _ => False, fun _ _ => False, fun e _ S' => finX S.length e S' x⟩
def fnN (n : Nat) (m : Env → MS) : List D → M := fun ds S q x => m (startE n ds) S ⟨fun _ _ => False, fun d S' => finN S.length d S' q, fun _ _ => False, fun _ _ => False, fun e _ S' => finX S.length e S' x⟩
theorem Sit.take {K : PySem.W.Frag} {as bs : List Addr} {F H : Hp} {S : WS} (I : Sit K bs F H S) (p : Pre as bs) (hl : as.length ≤ bs.length) (hn : as.Nodup) : Sit K as F H (S.take as.length) := by
  refine ⟨by rw [List.length_take, ← I.len]; omega, I.ex, hn, fun i q c h1 h2 => ?_⟩
  have hi := (List.getElem?_eq_some_iff.mp h1).1
  rw [List.getElem?_take_of_lt hi] at h2
  exact I.cell i q c (p i q h1) h2
theorem pre_len {as bs : List Addr} (p : Pre as bs) : as.length ≤ bs.length := by
  by_cases h : as.length = 0
  · omega
  · have hl : as.length - 1 < as.length := by omega
    have := p (as.length - 1) _ (List.getElem?_eq_getElem hl)
    have := (List.getElem?_eq_some_iff.mp this).1
    omega
theorem pre_back {as bs : List Addr} (p : Pre as bs) : ∀ k a, k < as.length → bs[k]? = some a → as[k]? = some a := fun k a hk h => by
  have := p k _ (List.getElem?_eq_getElem hk)
  rw [h] at this
  cases this
  exact List.getElem?_eq_getElem hk
/-- what was a cell of the def's own is out of sight -/
theorem Grow.drop {K : PySem.W.Frag} {as bs : List Addr} {F H F' H' : Hp} {S' : WS} (g : Grow K as F H bs F' H' S') (hn : as.Nodup) : Grow K as F H as F' H' (S'.take as.length) :=
  ⟨g.sit.take g.pre (pre_len g.pre) hn, Pre.refl _, g.ex, g.new, fun _ h => .inl h, g.old, g.there⟩
theorem cell_out {as bs : List Addr} {k : Nat} {a : Addr} (p : Pre as bs) (nd : bs.Nodup) (hk : as.length ≤ k) (ha : bs[k]? = some a) : a ∉ as := fun z => by
  obtain ⟨i, hi⟩ := List.getElem?_of_mem z
  have h1 := p i a hi
  have hib : i < bs.length := (List.getElem?_eq_some_iff.mp h1).1
  have h2 : i = k := (List.getElem?_inj hib nd).mp (h1.trans ha.symm)
  have := (List.getElem?_eq_some_iff.mp hi).1
  omega
theorem fin_ok {K : PySem.W.Frag} {as bs : List Addr} {F H F' H' : Hp} {S S1 : WS} {d : D} {v : V} {q : D → WS → Prop} {Q : VK} (I : Sit K as F H S) (hq : NQ K as F H q Q) (g : Grow K as F H bs F' H' S1) (r : Rp K bs F' d v) (h : fin S.length d S1 q) : Q v H' := by
  have hl : bs.length = S1.length := g.sit.len
  have hn : as.length = S.length := I.len
  unfold fin at h
  split at h
  · rename_i e
    exact hq d S1 bs F' H' v h g r
  · have gd := g.drop I.nd
    rw [hn] at gd
    have other : ∀ x : D, D.clean S.length x = true → Rp K bs F' x v → Rp K as F' x v := fun x hx rx => rx.back (fun k a hk => pre_back g.pre k a (by omega)) hx
    split at h
    · rename_i k
      split at h
      · rename_i hk
        exact hq _ _ as F' H' v h gd (other _ (by unfold D.clean; exact decide_eq_true hk) r)
      · rename_i hk
        obtain ⟨c, hS, h⟩ := onS_ok h
        cases c with
        | lst ds =>
          cases r with
          | cell ha =>
            rename_i a
            obtain ⟨z1, o, z2, z3⟩ := g.sit.cell k a _ ha hS
            cases o with
            | lst xs =>
              have fa : F' a = none := z1 rfl
              have na : a ∉ as := cell_out g.pre g.sit.nd (by omega) ha
              refine hq _ _ as (upd F' a (.lst xs)) H' _ h ⟨gd.sit.freeze fa na z2, Pre.refl _, gd.ex.trans (Ex.new fa), fun b hb => ?_, fun _ h => .inl h, gd.old, gd.there⟩ (.lst upd_same (RpL.mono (Ex.new fa) pre_nil z3))
              by_cases e2 : b = a
              · subst e2
                rcases g.newc b (List.mem_of_getElem? ha) with z | z
                · exact absurd z na
                · exact .inr z
              · rw [upd_ne e2] at hb
                exact gd.new b hb
            | _ => exact z3.elim
        | _ => exact h.elim
    · exact hq _ _ as F' H' v h.2 gd (other _ h.1 r)
theorem Grow.only {K : PySem.W.Frag} {as bs : List Addr} {F H F' H' : Hp} {S1 : WS} {k : Nat} {a : Addr} {c : Cell} (g : Grow K as F H bs F' H' S1) (hn : as.Nodup) (hk : as.length ≤ k) (ha : bs[k]? = some a) (hS : S1[k]? = some c) : Grow K as F H (as ++ [a]) F' H' (S1.take as.length ++ [c]) := by
  have gd := g.drop hn
  have na : a ∉ as := cell_out g.pre g.sit.nd hk ha
  have hl : (S1.take as.length).length = as.length := gd.sit.len.symm
  refine ⟨⟨by rw [List.length_append, List.length_append, ← gd.sit.len]; rfl, gd.sit.ex, ?_, fun i q c2 h1 h2 => ?_⟩, fun i p hi => by rw [List.getElem?_append_left (List.getElem?_eq_some_iff.mp hi).1]; exact hi, g.ex, g.new, fun p hp => ?_, g.old, g.there⟩
  · rw [List.nodup_append]
    refine ⟨hn, by simp, fun x hx b hb e => ?_⟩
    rw [List.mem_singleton] at hb
    subst hb
    exact na (e ▸ hx)
  · by_cases hi : i < as.length
    · rw [List.getElem?_append_left hi] at h1
      rw [List.getElem?_append_left (by rw [hl]; exact hi)] at h2
      exact gd.sit.cell i q c2 h1 h2
    · have hi2 : i = as.length := by
        have := (List.getElem?_eq_some_iff.mp h1).1
        simp at this
        omega
      subst hi2
      rw [List.getElem?_append_right (Nat.le_refl _)] at h1
      rw [List.getElem?_append_right (by omega), hl] at h2
      simp at h1 h2
      subst h1 h2
      exact g.sit.cell k a c ha hS
  · rcases List.mem_append.mp hp with z | z
    · exact .inl z
    · rw [List.mem_singleton] at z
      subst z
      exact g.newc p (List.mem_of_getElem? ha)
theorem finN_ok {K : PySem.W.Frag} {as bs : List Addr} {F H F' H' : Hp} {S S1 : WS} {d : D} {v : V} {q : D → WS → Prop} {Q : VK} (I : Sit K as F H S) (hq : NQ K as F H q Q) (g : Grow K as F H bs F' H' S1) (r : Rp K bs F' d v) (h : finN S.length d S1 q) : Q v H' := by
  unfold finN at h
  split at h
  · rename_i k
    obtain ⟨hk, h⟩ := h
    obtain ⟨c, hS, h⟩ := onS_ok h
    cases r with
    | cell ha =>
      have g2 := g.only I.nd (by rw [I.len]; exact hk) ha hS
      rw [I.len] at g2
      refine hq _ _ _ F' H' _ h g2 (.cell ?_)
      rw [← I.len]
      simp
  · exact h.elim
theorem finX_ok {K : PySem.W.Frag} {as bs : List Addr} {F H F' H' : Hp} {S S1 : WS} {e : D} {cls : Value} {dd : Option Addr} {x : Xq} {E : XK} (I : Sit K as F H S) (hx : XQ K as F H x E) (g : Grow K as F H bs F' H' S1) (r : RxD K bs F' e cls dd) (h : finX S.length e S1 x) : E cls dd H' := by
  unfold finX at h
  have hn : as.length = S.length := I.len
  split at h
  · exact hx e S1 bs F' H' cls dd h g r
  · have gd := g.drop I.nd
    rw [hn] at gd
    obtain ⟨C, d, fs, vfs, e1, e2, e3, e4, e5⟩ := r
    subst e1
    have hc := h.1
    unfold D.clean at hc
    exact hx _ _ as F' H' cls dd h.2 gd ⟨C, d, fs, vfs, rfl, e2, e3, e4, e5.back (fun k a hk => pre_back g.pre k a (by omega)) hc⟩
abbrev WofE (E : XK) : WX := fun cls d _ H => E cls d H
theorem fnD_run {K : PySem.W.Frag} {N : List Str} {m : Env → MS} {ts : TS} {n : Nat} {vs : List V} {H : Hp} {Q : VK} {E : XK} (hm : MSt K (WofE E) ts m) (h : spG K n (fnD N.length m) vs H Q E) :
    ts { nx := fun _ H' => Q .non H', rt := Q } (L2.start N vs) H := by
  obtain ⟨as, F, S, ds, q, x, I, r, hl, e, hq, hx⟩ := h
  exact hm as F H S _ _ I (startE_ok r) _ e _ ⟨fun ρ' S' bs F' H' σ' h g R => fin_ok I hq g .non h, fun d S' bs F' H' v h g r => fin_ok I hq g r h, fun _ _ _ _ _ _ h => h.elim, fun _ _ _ _ _ _ h => h.elim, fun e ρ' S' bs F' H' σ' cls dd h g R r => finX_ok I hx g r h⟩
theorem fnN_run {K : PySem.W.Frag} {N : List Str} {m : Env → MS} {ts : TS} {n : Nat} {vs : List V} {H : Hp} {Q : VK} {E : XK} (hm : MSt K (WofE E) ts m) (h : spG K n (fnN N.length m) vs H Q E) :
    ts { nx := fun _ H' => Q .non H', rt := Q } (L2.start N vs) H := by
  obtain ⟨as, F, S, ds, q, x, I, r, hl, e, hq, hx⟩ := h
  exact hm as F H S _ _ I (startE_ok r) _ e _ ⟨fun _ _ _ _ _ _ h => h.elim, fun d S' bs F' H' v h g r => finN_ok I hq g r h, fun _ _ _ _ _ _ h => h.elim, fun _ _ _ _ _ _ h => h.elim, fun e ρ' S' bs F' H' σ' cls dd h g R r => finX_ok I hx g r h⟩
theorem tkF {nn : Bool} {X : Cx} : Tk nn X WF := by
  cases nn <;> (intro u s' x; obtain ⟨a, B, sI, pins, σ, H, cls, d, e, I, nb, up, sky, na, os, ag, w⟩ := x; exact w.elim)
section
variable {P : Program} {w : World} {K : PySem.W.Frag} {mg : Str → Option Value} {base : Heap}
def pnM (h : Bool) (p : Addr × Obj) : List (Addr × Obj) := match h with
  | false => []
  | true => [p]
/-- the context of a def's body; p: the error that is handled, if one is -/
abbrev cxG (n h : Bool) (P : Program) (w : World) (K : PySem.W.Frag) (mg : Str → Option Value) (base : Heap) (N : List Str) (qual : Str) (scope : Scope) (f : Addr) (cdv : Value) (A : Around) (outer : List PySem.Env) (s : Shared) (H : Hp) (E : XK) (p : Addr × Obj) : Cx :=
  { cxOf (CXm n P w) P w K mg base N qual scope f cdv A outer s H E with calm := !h, pn := pnM h p }
/-- the code object of the def at f -/
def CdOf (K : PySem.W.Frag) (f : Addr) (qual : Str) (cdv : Value) : Prop := ∃ (oc : Value) (od : Option Addr) (fd : FuncData) (osl : Array (Option Value)), K.lookup f = some ⟨oc, od, .func fd, osl⟩ ∧ fd.code = cdv ∧ PySem.W.codeIn K cdv qual = true
theorem fnX_of {gd : Md} {f : Addr} {name qual : Str} {params : Arguments} {body : List Stmt} {scope : Scope} {dvs : List V} {kws : List (Str × V)} {fd : FuncData} {N ps : List Str} {sp : Sp} {k : Nat} (F : FunD K name qual params body scope dvs kws f fd) (S : FnScope N ps scope)
    (len : ∀ vs H Q E, sp vs H Q E → vs.length = ps.length)
    (hbody : ∀ (cdv : Value) (A : Around) (outer : List PySem.Env) (s : Shared) (H : Hp) (vs : List V) (Q : VK) (E : XK) (p : Addr × Obj), CdOf K f qual cdv → (gd.g = true → A.guards = some []) → Rx gd.h k (cxG gd.n gd.h P w K mg base N qual scope f cdv A outer s H E p) → sp vs H Q E →
      ∃ t, PSs (cxG gd.n gd.h P w K mg base N qual scope f cdv A outer s H E p) body t ∧ t { nx := fun _ H' => Q .non H', rt := Q } (L2.start N vs) H) :
    FnX gd P w K mg base (k + 1) f fd ps sp := by
  obtain ⟨oc, od, dV, kV, doc, pm, an, cdv, ct, osl, rfl, lk, hcd, _, _⟩ := F.ex
  obtain ⟨gg, nn, hh⟩ := gd
  refine ⟨len, fun A outer s H args us vs Q E hg hr e0 hb r hsp => ?_⟩
  have still : ∀ b o, base.get? b = some o → s.heap.get? b = some o := fun b o e => (e0.bs b o e).1
  have KX : K.In s.heap := e0.mod.kin.keeps still
  have bound : ∀ y ∈ ps.zip us, scope.names.lookup y.1 = some .local ∨ (scope.names.lookup y.1 = some .cell ∧ ((cellsFrom (s.heap.objs.size + 1) scope.names []).lookup y.1).isSome = true) := by
    rintro ⟨n, v⟩ hy
    rcases S.par n (List.of_mem_zip hy).1 with q | q
    · exact Or.inl q
    · exact Or.inr ⟨q, PySem.W.cellsFrom_some _ _ _ (.inl q)⟩
  have hdp : A.depth < recursionLimit := by
    cases hh
    · exact Room.depth hr
    · exact hr.1.depth
  refine codeAny_call_function hdp (KX _ _ lk) rfl S.co S.gen rfl (PySem.W.codeRec_of KX hcd) (hb _ _ _ _ ?_)
  refine wpAny_newFunctionEnv_cells S.kind bound fun env he s1 x => ?_
  subst he
  refine ⟨(e0.mod.nolimit.keeps still).keeps x.toInCall.keep, codeAny_func ?_⟩
  have start : ∃ p, Rx hh k (cxG nn hh P w K mg base N qual scope f cdv A outer s H E p) ∧ Inv (cxG nn hh P w K mg base N qual scope f cdv A outer s H E p) [] (L2.start N vs) H s1 := by
    cases hh
    · exact ⟨(0, default), Room.deeper hr _, inv_start (CX := CXm nn P w) (E := E) (f := f) (cd := cdv) (qual := qual) S (Room.hd hr) e0 (len _ _ _ _ hsp) r x⟩
    · obtain ⟨r1, p, hp, e⟩ := hr
      exact ⟨p, ⟨r1.deeper _, p, List.mem_cons_self .., e⟩, L2H.inv_startH (CX := CXm nn P w) (E := E) (f := f) (cd := cdv) (qual := qual) S hp e0 (len _ _ _ _ hsp) r x⟩
  obtain ⟨p, hrx, I⟩ := start
  obtain ⟨t, ht, hq⟩ := hbody cdv A outer s H vs Q E p ⟨_, _, _, _, lk, rfl, hcd⟩ hg hrx hsp
  refine wpAny_mono (ht.run [] s1 (L2.start N vs) H _ I hq) (fun fl s' hs => ?_) fun e s' hs => hs
  cases fl with
  | ret u =>
    obtain ⟨v, σ', H', J, rv, q⟩ := hs
    exact ⟨v, H', J.os, J.bare, J.base, J.hok, rv, q⟩
  | next =>
    obtain ⟨σ', H', J, q⟩ := hs
    exact ⟨V.non, H', J.os, J.bare, J.base, J.hok, rfl, q⟩
  | brk =>
    obtain ⟨_, _, _, q⟩ := hs
    exact q.elim
  | cont =>
    obtain ⟨_, _, _, q⟩ := hs
    exact q.elim
theorem spG_len {n : Nat} {G : List D → M} : ∀ vs H Q E, spG K n G vs H Q E → vs.length = n := fun vs H Q E h => by
  obtain ⟨as, F, S, ds, q, x, I, r, hl, e, hq, hx⟩ := h
  rw [← r.length]
  exact hl
/-- a body's facts: what is raised goes out -/
abbrev BodyOk (gd : Md) (P : Program) (w : World) (K : PySem.W.Frag) (mg : Str → Option Value) (base : Heap) (N : List Str) (qual : Str) (scope : Scope) (f : Addr) (k : Nat) (body : List Stmt) (m : Env → MS) : Prop :=
  ∀ (cdv : Value) (A : Around) (outer : List PySem.Env) (s : Shared) (H : Hp) (E : XK) (pp : Addr × Obj), (gd.g = true → (cxG gd.n gd.h P w K mg base N qual scope f cdv A outer s H E pp).A.guards = some []) → Rx gd.h k (cxG gd.n gd.h P w K mg base N qual scope f cdv A outer s H E pp) →
    Tk gd.n (cxG gd.n gd.h P w K mg base N qual scope f cdv A outer s H E pp) (WofE E) → PassesOwn (model P w) (cxG gd.n gd.h P w K mg base N qual scope f cdv A outer s H E pp).A (cxG gd.n gd.h P w K mg base N qual scope f cdv A outer s H E pp).env (cxG gd.n gd.h P w K mg base N qual scope f cdv A outer s H E pp).xe →
    GSs (cxG gd.n gd.h P w K mg base N qual scope f cdv A outer s H E pp) (WofE E) body m
theorem tk_of {n h : Bool} {N : List Str} {qual : Str} {scope : Scope} {f : Addr} {cdv : Value} {A : Around} {outer : List PySem.Env} {s : Shared} {H : Hp} {E : XK} {pp : Addr × Obj} : Tk n (cxG n h P w K mg base N qual scope f cdv A outer s H E pp) (WofE E) := by
  cases n
  · exact L2.takes_of rfl rfl rfl rfl
  · exact L2N.takes_of rfl rfl rfl rfl
theorem fn_G {gd : Md} {x qual : Str} {params : Arguments} {body : List Stmt} {scope : Scope} {dvs : List V} {kws : List (Str × V)} {f : Addr} {fd : FuncData} {N ps : List Str} {k : Nat} {m : Env → MS} (F : FunD K x qual params body scope dvs kws f fd) (S : FnScope N ps scope)
    (hb : BodyOk gd P w K mg base N qual scope f k body m) : FnX gd P w K mg base (k + 1) f fd ps (spG K ps.length (fnD N.length m)) := by
  refine fnX_of F S spG_len (fun cdv A outer s H vs Q E pp _ hg hr h => ?_)
  obtain ⟨ts, p, hm⟩ := hb cdv A outer s H E pp hg hr tk_of (passes_of rfl)
  exact ⟨ts, p, fnD_run hm h⟩
/-- .. where the def's code object is asked for -/
theorem fn_GL {gd : Md} {x qual : Str} {params : Arguments} {body : List Stmt} {scope : Scope} {dvs : List V} {kws : List (Str × V)} {f : Addr} {fd : FuncData} {N ps : List Str} {k : Nat} {m : Env → MS} (F : FunD K x qual params body scope dvs kws f fd) (S : FnScope N ps scope)
    (hb : ∀ (cdv : Value) (A : Around) (outer : List PySem.Env) (s : Shared) (H : Hp) (E : XK) (pp : Addr × Obj), CdOf K f qual cdv → (gd.g = true → (cxG gd.n gd.h P w K mg base N qual scope f cdv A outer s H E pp).A.guards = some []) → Rx gd.h k (cxG gd.n gd.h P w K mg base N qual scope f cdv A outer s H E pp) →
      Tk gd.n (cxG gd.n gd.h P w K mg base N qual scope f cdv A outer s H E pp) (WofE E) → PassesOwn (model P w) (cxG gd.n gd.h P w K mg base N qual scope f cdv A outer s H E pp).A (cxG gd.n gd.h P w K mg base N qual scope f cdv A outer s H E pp).env (cxG gd.n gd.h P w K mg base N qual scope f cdv A outer s H E pp).xe →
      GSs (cxG gd.n gd.h P w K mg base N qual scope f cdv A outer s H E pp) (WofE E) body m) : FnX gd P w K mg base (k + 1) f fd ps (spG K ps.length (fnD N.length m)) := by
  refine fnX_of F S spG_len (fun cdv A outer s H vs Q E pp hc hg hr h => ?_)
  obtain ⟨ts, p, hm⟩ := hb cdv A outer s H E pp hc hg hr tk_of (passes_of rfl)
  exact ⟨ts, p, fnD_run hm h⟩
theorem fn_N {gd : Md} {x qual : Str} {params : Arguments} {body : List Stmt} {scope : Scope} {dvs : List V} {kws : List (Str × V)} {f : Addr} {fd : FuncData} {N ps : List Str} {k : Nat} {m : Env → MS} (F : FunD K x qual params body scope dvs kws f fd) (S : FnScope N ps scope)
    (hb : BodyOk gd P w K mg base N qual scope f k body m) : FnX gd P w K mg base (k + 1) f fd ps (spG K ps.length (fnN N.length m)) := by
  refine fnX_of F S spG_len (fun cdv A outer s H vs Q E pp _ hg hr h => ?_)
  obtain ⟨ts, p, hm⟩ := hb cdv A outer s H E pp hg hr tk_of (passes_of rfl)
  exact ⟨ts, p, fnN_run hm h⟩
end
end RV
end
section
/-! Instances: made, their fields read and set, properties. -/
namespace RV
open PySem L2
variable {nn : Bool}
section
variable {X : Cx} {W : WX} {e o : Expr} {es : List Expr} {pos p apos : Pos} {er ek : Env → ML} {ea eb : Env → M} {C : Addr} {f : Str}
/-- o.f of an instance of the class at C: one that stands still, or a cell -/
def fldD (C : Addr) (f : Str) (S : WS) : D → Option D
  | .obj C' fs => if C' = C then fs.lookup f else none
  | .cell k => match S[k]? with
    | some (.ob C' fs) => if C' = C then fs.lookup f else none
    | _ => none
  | _ => none
theorem fld_at {K : PySem.W.Frag} {as : List Addr} {F H : Hp} {S : WS} {x d : D} {v : V} (I : Sit K as F H S) (r : Rp K as F x v) (h : fldD C f S x = some d) : ∃ a dx vfs u, v = .ref a ∧ H a = some (.ins C dx vfs) ∧ vfs.lookup f = some u ∧ Rp K as F d u := by
  cases x with
  | obj C' fs =>
    unfold fldD at h
    simp only at h
    split at h
    · rename_i e
      subst e
      cases r with
      | obj ha rf =>
        obtain ⟨u, h1, h2⟩ := rf.look h
        exact ⟨_, _, _, u, rfl, I.ex _ _ ha, h1, h2⟩
    · cases h
  | cell k =>
    unfold fldD at h
    cases hS : S[k]? with
    | none => simp [hS] at h
    | some c =>
      cases c with
      | ob C' fs =>
        simp only [hS] at h
        split at h
        · rename_i e
          subst e
          cases r with
          | cell ha =>
            obtain ⟨z1, ob, z2, z3⟩ := I.cell k _ _ ha hS
            cases ob with
            | ins C2 dx vfs =>
              obtain ⟨e2, z3⟩ := z3
              subst e2
              obtain ⟨u, h1, h2⟩ := z3.look h
              exact ⟨_, dx, vfs, u, rfl, z2, h1, h2.mono (Ex.refl _) pre_nil⟩
            | _ => exact z3.elim
        · cases h
      | _ => simp [hS] at h
  | _ => cases h
theorem ge_fld (cl : Cls X.K C) (no : NoAttr X.K C f) (ha : GE X W e ea) (hb : attributeBase e f X.env (eval e X.env) = eval e X.env := by rfl) : GE X W (.Attribute e f pos) (eUn (fldD C f) ea) := by
  obtain ⟨t, pa, m⟩ := ha
  refine ⟨_, pe_fld pa hb, fun as F H S ρ σ I R q x h Q hq hx => ?_⟩
  refine m as F H S ρ σ I R _ x h _ (fun z S1 bs F1 H1 v h1 g r => ?_) hx
  obtain ⟨d, h3, h4⟩ := onS_ok h1
  obtain ⟨a, dx, vfs, u, rfl, ha, hl, ru⟩ := fld_at g.sit r h3
  exact ⟨a, C, dx, vfs, u, rfl, ha, cl, no, hl, hq d S1 bs F1 H1 u h4 g ru⟩
/-- is it an instance of the class at C -/
def isOb (C : Addr) (S : WS) : D → Prop
  | .obj C' _ => C' = C
  | .cell k => onS S[k]? fun c => onOb c fun C' _ => C' = C
  | _ => False
theorem isOb_at {K : PySem.W.Frag} {as : List Addr} {F H : Hp} {S : WS} {x : D} {v : V} (I : Sit K as F H S) (r : Rp K as F x v) (h : isOb C S x) : ∃ a dx vfs, v = .ref a ∧ H a = some (.ins C dx vfs) := by
  cases r with
  | obj ha rf =>
    have h : _ = C := h
    subst h
    exact ⟨_, _, _, rfl, I.ex _ _ ha⟩
  | cell ha =>
    obtain ⟨c, hS, h⟩ := onS_ok h
    cases c with
    | ob C' fs =>
      have h : C' = C := h
      subst h
      obtain ⟨z1, ob, z2, z3⟩ := I.cell _ _ _ ha hS
      cases ob with
      | ins C2 dx vfs =>
        obtain ⟨e2, z3⟩ := z3
        subst e2
        exact ⟨_, _, _, rfl, z2⟩
      | _ => exact z3.elim
    | _ => exact h.elim
  | _ => exact h.elim
/-- o.f, a property of the class at C, which raises nothing -/
def eProp (C : Addr) (G : List D → M) (ea : Env → M) : Env → M := fun ρ S q x => ea ρ S (fun d S1 => isOb C S1 d ∧ G [d] S1 q noX) x
theorem ge_prop {k j : Nat} {pr g : Addr} {fd : FuncData} {ps : List Str} {G : List D → M} (cl : Cls X.K C) (hp : PropOf X.K C f pr g) (Fn : FnX ⟨false, nn, false⟩ X.prog X.w X.K X.mg X.base k g fd ps (spG X.K 1 G)) (hr : Room j X.A) (hj : k + 1 ≤ j) (hb : Binds X.K fd ps []) (ha : GE X W e ea)
    (hab : attributeBase e f X.env (eval e X.env) = eval e X.env := by rfl) : GE X W (.Attribute e f pos) (eProp C G ea) := by
  obtain ⟨t, pa, m⟩ := ha
  refine ⟨_, pe_prop (CX := CXm nn X.prog X.w) (dvs := []) (E := fun _ _ _ => False) pa cl hp Fn.ok (hr.mono hj) hb .nil (fun pins σ H s e s' I c => ?_) hab, fun as F H S ρ σ I R q x h Q hq hx => ?_⟩
  · exact (cxm_no c).elim
  · refine m as F H S ρ σ I R _ x h _ (fun z S1 bs F1 H1 v h1 g r => ?_) hx
    obtain ⟨a, dx, vfs, rfl, ha⟩ := isOb_at g.sit r h1.1
    exact ⟨a, dx, vfs, rfl, ha, bs, F1, S1, [z], q, noX, g.sit, .cons r .nil, rfl, h1.2, hq.step g, XQ.no⟩

/-! ### a cell's content changes -/
theorem Sit.put {K : PySem.W.Frag} {as : List Addr} {F H : Hp} {S : WS} {k : Nat} {p : Addr} {c c' : Cell} {o : HO} (I : Sit K as F H S) (ha : as[k]? = some p) (hS : S[k]? = some c) (hc : c.isHid = false) (hc' : c'.isHid = false) (ho : CellOf K F p c' o) :
    Grow K as F H as F (upd H p o) (S.set k c') := by
  have z := I.cell k p c ha hS
  have fp : F p = none := z.out hc
  have hk : k < S.length := (List.getElem?_eq_some_iff.mp hS).1
  refine ⟨⟨by rw [List.length_set]; exact I.len, fun a u h => ?_, I.nd, fun i q c2 h1 h2 => ?_⟩, Pre.refl _, Ex.refl _, fun _ h => .inl h, fun _ h => .inl h, fun a u na h => ?_, fun a h => upd_there h⟩
  · have np : a ≠ p := fun z => by rw [z, fp] at h; cases h
    rw [upd_ne np]
    exact I.ex a u h
  · by_cases e : k = i
    · subst e
      rw [ha] at h1
      cases h1
      rw [List.getElem?_set_self hk] at h2
      cases h2
      exact ⟨fun _ => fp, o, upd_same, ho⟩
    · rw [List.getElem?_set_ne e] at h2
      have nq : q ≠ p := fun z => by
        subst z
        have hia : k < as.length := (List.getElem?_eq_some_iff.mp ha).1
        exact e ((List.getElem?_inj hia I.nd).mp (ha.trans h1.symm))
      obtain ⟨z1, ob, z2, z3⟩ := I.cell i q c2 h1 h2
      exact ⟨z1, ob, by rw [upd_ne nq]; exact z2, z3⟩
  · have np : a ≠ p := fun z => na (z ▸ List.mem_of_getElem? ha)
    rw [upd_ne np]
    exact h
def putD (f : Str) (d : D) : List (Str × D) → List (Str × D)
  | [] => [(f, d)]
  | (g, x) :: r => if g = f then (g, d) :: r else (g, x) :: putD f d r
theorem RpF.put {K : PySem.W.Frag} {as : List Addr} {F : Hp} {d : D} {v : V} (h : Rp K as F d v) : ∀ {fs : List (Str × D)} {vfs : List (Str × V)}, RpF K as F fs vfs → RpF K as F (putD f d fs) (putF f v vfs)
  | _, _, .nil => .cons h .nil
  | _, _, .cons (n := n) hd r => by
    unfold putD putF
    by_cases e : n = f
    · rw [if_pos e, if_pos e]
      exact .cons h r
    · rw [if_neg e, if_neg e]
      exact .cons hd (RpF.put h r)
theorem RpF.length {K : PySem.W.Frag} {as : List Addr} {F : Hp} : ∀ {fs : List (Str × D)} {vfs : List (Str × V)}, RpF K as F fs vfs → fs.length = vfs.length
  | _, _, .nil => rfl
  | _, _, .cons _ r => congrArg (· + 1) r.length
/-- o.f = e, o an instance that is a cell -/
def setFD (C : Addr) (f : Str) (d o : D) (S : WS) (q : WS → Prop) : Prop := onCe o fun k => onS S[k]? fun c => onOb c fun C' fs => (C' = C ∧ D.clean 0 d = true ∧ fs.length < 1000) ∧ q (S.set k (.ob C (putD f d fs)))
def sFldD (C : Addr) (f : Str) (eo ee : Env → M) : Env → MS := fun ρ S k => ee ρ S (fun d S1 => eo ρ S1 (fun o S2 => setFD C f d o S2 fun S3 => k.nx ρ S3) fun e S' => k.ex e ρ S') fun e S' => k.ex e ρ S'
theorem gs_fld {ppos : Pos} (cl : Cls X.K C) (no : NoAttr X.K C f) (ho : GE X W o ea) (he : GE X W e eb) (hs : swapsWith e (some (.Attribute o f ppos)) pos.line X.env = pure false := by rfl) : GS X W (.Assign [.Attribute o f ppos] e pos) (sFldD C f ea eb) := by
  obtain ⟨t, pt, mt⟩ := ho
  obtain ⟨u, pu, mu⟩ := he
  refine ⟨_, ps_fld pt pu hs, fun as F H S ρ σ I R k h E q => ?_⟩
  refine mu as F H S ρ σ I R _ _ h _ (fun y S1 bs F1 H1 v1 h1 g1 r1 => ?_) (q.xq R)
  refine mt bs F1 H1 S1 ρ σ g1.sit (R.grow g1) _ _ h1 _ (fun z S2 cs F2 H2 v2 h2 g2 r2 => ?_) ((q.step g1).xq (R.grow g1))
  cases r2 with
  | cell h0 =>
    obtain ⟨c, hS, h3⟩ := onS_ok h2
    cases c with
    | ob C' fs =>
      obtain ⟨⟨e1, hcl, hlen⟩, h3⟩ := h3
      subst e1
      obtain ⟨z1, ob, z2, z3⟩ := g2.sit.cell _ _ _ h0 hS
      cases ob with
      | ins C2 dx vfs =>
        obtain ⟨e2, z3⟩ := z3
        subst e2
        have r1' : Rp X.K [] F2 y v1 := (RpE_aux g2 r1).back (n := 0) (fun k a hk => absurd hk (by omega)) hcl
        have g3 := g2.sit.put (c' := .ob C2 (putD f y fs)) (o := .ins C2 dx (putF f v1 vfs)) h0 hS rfl rfl ⟨rfl, z3.put r1'⟩
        refine ⟨_, _, dx, vfs, rfl, z2, cl, no, by rw [← z3.length]; exact hlen, ?_⟩
        have g4 := (g1.trans g2).trans g3
        exact q.nx ρ _ cs _ _ σ h3 g4 (R.grow g4)
      | _ => exact z3.elim
    | _ => exact h3.elim
  | _ => exact h2.elim

/-! ### an instance made -/
def lkO (l : Lk) (C : Addr) (fs : List (Str × D)) (n : Nat) (S : WS) (q : D → WS → Prop) : Prop := match l with
  | .still => q (.obj C fs) (S.take n)
  | .new => q (.cell n) (S.take n ++ [.ob C fs])
/-- behind the __init__: the instance stands still, or is a cell -/
def finO (l : Lk) (C : Addr) (n : Nat) (d : D) (S : WS) (q : D → WS → Prop) : Prop := d = .non ∧ onS S[n]? fun c => onOb c fun C' fs => C' = C ∧ lkO l C fs n S q
def makeD (l : Lk) (C : Addr) (n : Nat) (G : List D → M) (ds : List D) (S : WS) (q : D → WS → Prop) (x : Xq) : Prop := ds.length + 1 = n ∧ G (.cell S.length :: ds) (S ++ [.ob C []]) (fun d S2 => finO l C S.length d S2 q) fun e S2 => finX S.length e S2 x
theorem make_ok {K : PySem.W.Frag} {as : List Addr} {F H : Hp} {S : WS} {n : Nat} {l : Lk} {G : List D → M} {ds : List D} {vs : List V} {q : D → WS → Prop} {x : Xq} {E : XK} {Q : VK} (I : Sit K as F H S) (r : RpL K as F ds vs) (h : makeD l C n G ds S q x)
    (hq : NQ K as F H q Q) (hx : XQ K as F H x E) (p dx : Addr) (hp : H p = none) (hdx : H dx = none) (ne : dx ≠ p) :
    spG K n G (.ref p :: vs) (upd (upd H dx (.own p)) p (.ins C dx [])) (fun v H2 => v = .non ∧ Q (.ref p) H2) E := by
  obtain ⟨hn, h⟩ := h
  have hH : ∀ a u, H a = some u → upd (upd H dx (.own p)) p (.ins C dx []) a = some u := fun a u e => by
    rw [upd_ne (ne_of_none e hp), upd_ne (ne_of_none e hdx)]
    exact e
  have np : p ∉ as := fun z => I.there z hp
  have I2 : Sit K (as ++ [p]) F (upd (upd H dx (.own p)) p (.ins C dx [])) (S ++ [.ob C []]) := sit_cell I np (I.out hp) (fun a u _ => hH a u) upd_same rfl ⟨rfl, .nil⟩
  have up : ∀ {bs : List Addr} {F1 H1 : Hp} {S2 : WS}, Grow K (as ++ [p]) F (upd (upd H dx (.own p)) p (.ins C dx [])) bs F1 H1 S2 → Grow K as F H bs F1 H1 S2 := fun {bs F1 H1 S2} g => by
    refine ⟨g.sit, pre_app.trans g.pre, g.ex, fun a ha => ?_, fun a ha => ?_, fun a u na e => ?_, fun a e => g.there a (upd_there (upd_there e))⟩
    · rcases g.new a ha with z | z
      · exact .inl z
      · by_cases e3 : a = p
        · subst e3
          exact .inr hp
        · rw [upd_ne e3] at z
          exact .inr (none_back (H1 := upd H dx (.own p)) (fun h => upd_there h) z)
    · rcases g.newc a ha with z | z
      · rcases List.mem_append.mp z with z | z
        · exact .inl z
        · rw [List.mem_singleton] at z
          subst z
          exact .inr hp
      · by_cases e3 : a = p
        · subst e3
          exact .inr hp
        · rw [upd_ne e3] at z
          exact .inr (none_back (H1 := upd H dx (.own p)) (fun h => upd_there h) z)
    · refine g.old a u (fun z => ?_) (hH a u e)
      rcases List.mem_append.mp z with z | z
      · exact na z
      · rw [List.mem_singleton] at z
        subst z
        rw [hp] at e
        cases e
  refine ⟨as ++ [p], F, S ++ [.ob C []], .cell S.length :: ds, _, _, I2, .cons (.cell (by rw [← I.len]; simp)) (r.mono (Ex.refl _) pre_app), by rw [List.length_cons]; exact hn, h, fun d S2 bs F1 H1 v hd g rv => ?_, fun e S2 bs F1 H1 cls dd he g rx => finX_ok I hx (up g) rx he⟩
  obtain ⟨e1, h2⟩ := hd
  subst e1
  cases rv
  refine ⟨rfl, ?_⟩
  obtain ⟨c, hS, h3⟩ := onS_ok h2
  cases c with
  | ob C' fs =>
    obtain ⟨e2, h3⟩ := h3
    subst e2
    have ha : bs[S.length]? = some p := g.pre _ _ (by rw [← I.len]; simp)
    have gu := up g
    cases l with
    | still =>
      obtain ⟨z1, ob, z2, z3⟩ := g.sit.cell S.length p _ ha hS
      cases ob with
      | ins C2 dx2 vfs =>
        obtain ⟨e2, z3⟩ := z3
        subst e2
        have fx : F1 p = none := z1 rfl
        have gd := gu.drop I.nd
        rw [I.len] at gd
        refine hq _ _ as (upd F1 p (.ins C2 dx2 vfs)) H1 (.ref p) h3 ⟨gd.sit.freeze fx np z2, Pre.refl _, gd.ex.trans (Ex.new fx), fun a ha => ?_, fun _ h => .inl h, gd.old, gd.there⟩ (.obj upd_same (RpF.mono (Ex.new fx) pre_nil z3))
        by_cases e3 : a = p
        · subst e3
          exact .inr hp
        · rw [upd_ne e3] at ha
          exact gd.new a ha
      | _ => exact z3.elim
    | new =>
      have g2 := gu.only I.nd (by rw [I.len]; exact Nat.le_refl _) ha hS
      rw [I.len] at g2
      refine hq _ _ _ F1 H1 _ h3 g2 (.cell ?_)
      rw [← I.len]
      simp
  | _ => exact h3.elim
section
variable {k j n : Nat} {fI : Addr} {fd : FuncData} {ps ks : List Str} {l : Lk} {G : List D → M} {dvs : List D} {dv : List V} {ds : List Value} {x : Str}
theorem run_makeX {sp : Sp} {pins : List (Addr × Obj)} {σ : L2.St} {H : Hp} {s : Shared} {Q : VK} {us : List Value} {vs : List V} (M : Mk X.K C fI) (Fn : FnX ⟨false, nn, false⟩ X.prog X.w X.K X.mg X.base k fI fd ps sp) (hr : Room (k + 1) X.A) (hb : Binds X.K fd ps ds) (hd : Vals dv ds) (tk : Tk nn X W) (I : Inv X pins σ H s) (r : Vals vs us)
    (h : ∀ z dx, H z = none → H dx = none → dx ≠ z → sp (.ref z :: (vs ++ dv)) (upd (upd H dx (.own z)) z (.ins C dx [])) (fun v H2 => v = .non ∧ Q (.ref z) H2) (WE W σ)) :
    wpAny (model X.prog X.w) X.A (PySem.call (.ref C) us) (EP X pins σ Q) X.xe s := by
  have hq := h (s.heap.objs.size + 1) s.heap.objs.size (I.hok.fresh (Nat.le_succ _)) (I.hok.fresh (Nat.le_refl _)) (Nat.ne_of_lt (Nat.lt_succ_self _))
  have J := Inv.made (C := C) I
  have r2 : Vals (V.ref (s.heap.objs.size + 1) :: (vs ++ dv)) (Value.ref (s.heap.objs.size + 1) :: (us ++ ds)) := .cons rfl (r.append hd)
  have hl : (Value.ref (s.heap.objs.size + 1) :: us ++ ds).length = ps.length := r2.length.symm.trans (Fn.len _ _ _ _ hq)
  refine wpAny_call (make_map (f := fI) I.kIn M.makes M.init (beq_iff_eq.mp M.fn) ?_)
  refine codeAny_mono (Fn.ok.run _ X.stack _ _ _ _ _ _ (WE W σ) (hr.make C us []) (J.env0.make C us []) (hb _ _ J.kIn hl) r2 hq) fun r s' hz => ?_
  cases r with
  | error er => exact tk.pass σ pins _ _ er s' J hz
  | ok fl =>
    cases fl with
    | ret u =>
      obtain ⟨v, H', J3, rv, ev, q3⟩ := J.after hz
      subst ev
      exact ⟨rv, ⟨.ref _, H', J3, rfl, q3⟩⟩
    | next => exact hz.elim
    | brk => exact hz.elim
    | cont => exact hz.elim
def tMakeX (C : Addr) (sp : Sp) (dv : List V) (E : L2.St → XK) (t : TA) : TE := fun σ H Q => t σ H fun vs H1 => ∀ z dx, H1 z = none → H1 dx = none → dx ≠ z → sp (.ref z :: (vs ++ dv)) (upd (upd H1 dx (.own z)) z (.ins C dx [])) (fun v H2 => v = .non ∧ Q (.ref z) H2) (E σ)
def eMake (l : Lk) (C : Addr) (n : Nat) (G : List D → M) (dvs : List D) (er : Env → ML) : Env → M := fun ρ S q x => er ρ S (fun ds S1 => makeD l C n G (ds ++ dvs) S1 q x) x
theorem me_make {K : PySem.W.Frag} {t : TA} (hdv : ∀ as F, RpL K as F dvs dv) (m : MA K W t er) : ME K W (tMakeX C (spG K n G) dv (WE W) t) (eMake l C n G dvs er) := fun as F H S ρ σ I R q x h Q hq hx => by
  refine m as F H S ρ σ I R _ x h _ (fun ds S1 bs F1 H1 vs h1 g r => ?_) hx
  intro z dx hz hdx ne
  exact make_ok g.sit (r.append (hdv bs F1)) h1 (hq.step g) (hx.step g) z dx hz hdx ne
theorem ge_make (tk : Tk nn X W) (Mm : Mk X.K C fI) (Fn : FnX ⟨false, nn, false⟩ X.prog X.w X.K X.mg X.base k fI fd ps (spG X.K n G)) (hr : Room j X.A) (hj : k + 1 ≤ j)
    (hm : X.mg x = some (.ref C)) (hb : Binds X.K fd ps ds) (hd : Vals dv ds) (hdv : ∀ as F, RpL X.K as F dvs dv) (ha : GA X W (e :: es) er) (hg : Gl X x := by rfl) (hdb : (x == ("__debug__" : Str)) = false := by decide)
    (h1 : starEach (e :: es) X.env = (false, eval e X.env) :: starEach es X.env := by rfl) (h2 : (backTo pos (starEach es X.env)).any (·.1) = false := by rfl) : GE X W (.Call (.Name x p) (e :: es) [] pos) (eMake l C n G dvs er) := by
  obtain ⟨t, pa, m⟩ := ha
  refine ⟨tMakeX C (spG X.K n G) dv (WE W) t, ⟨fun pins s σ H Q I h => ?_⟩, me_make hdv m⟩
  refine wpAny_Call_Name_kw (ld_glob I hg hm ?_ hdb)
  refine PySem.W.callWith_K (h₀ := X.base) I.ok.mod.kin Mm.kp (thn (pa.run pos pins s σ H _ I h) fun us s1 hh => ?_) h1 h2
  obtain ⟨vs, H1, I1, r1, q1⟩ := hh
  exact ⟨I1.kIn, run_makeX Mm Fn (hr.mono hj) hb hd tk I1 r1 q1⟩
/-- C(e, .., k = v, ..): gD puts the values and the keywords' values in the parameters' order (without self) -/
def eMakeK (l : Lk) (C : Addr) (n m1 m2 : Nat) (G : List D → M) (gD : List D → List D → List D) (er ek : Env → ML) : Env → M := fun ρ S q x => er ρ S (fun ds S1 => ek ρ S1 (fun zs S2 => (ds.length = m1 ∧ zs.length = m2) ∧ makeD l C n G (gD ds zs) S2 q x) x) x
def tMakeKX (C : Addr) (m1 m2 : Nat) (sp : Sp) (gV : List V → List V → List V) (E : L2.St → XK) (t u : TA) : TE := fun σ H Q => t σ H fun vs H1 => u σ H1 fun ws H2 => (vs.length = m1 ∧ ws.length = m2) ∧ ∀ z dx, H2 z = none → H2 dx = none → dx ≠ z → sp (gV (.ref z :: vs) ws) (upd (upd H2 dx (.own z)) z (.ins C dx [])) (fun v H3 => v = .non ∧ Q (.ref z) H3) (E σ)
theorem run_makeKX {sp : Sp} {m1 : Nat} {g : List Value → List Value → List Value} {gV : List V → List V → List V} {pins : List (Addr × Obj)} {σ : L2.St} {H : Hp} {s : Shared} {Q : VK} {us ws : List Value} {vs zs : List V} (M : Mk X.K C fI) (Fn : FnX ⟨false, nn, false⟩ X.prog X.w X.K X.mg X.base k fI fd ps sp) (hr : Room (k + 1) X.A) (hb : KBn X.K fd ps (m1 + 1) ks g gV) (tk : Tk nn X W) (I : Inv X pins σ H s) (r : Vals vs us) (rz : Vals zs ws) (l1 : vs.length = m1) (l2 : zs.length = ks.length)
    (h : ∀ z dx, H z = none → H dx = none → dx ≠ z → sp (gV (.ref z :: vs) zs) (upd (upd H dx (.own z)) z (.ins C dx [])) (fun v H2 => v = .non ∧ Q (.ref z) H2) (WE W σ)) :
    wpAny (model X.prog X.w) X.A (PySem.call (.ref C) us (ks.zip ws)) (EP X pins σ Q) X.xe s := by
  have hq := h (s.heap.objs.size + 1) s.heap.objs.size (I.hok.fresh (Nat.le_succ _)) (I.hok.fresh (Nat.le_refl _)) (Nat.ne_of_lt (Nat.lt_succ_self _))
  have J := Inv.made (C := C) I
  have r1 : Vals (V.ref (s.heap.objs.size + 1) :: vs) (Value.ref (s.heap.objs.size + 1) :: us) := .cons rfl r
  have e1 : (Value.ref (s.heap.objs.size + 1) :: us).length = m1 + 1 := by rw [← r1.length, List.length_cons, l1]
  have e2 : ws.length = ks.length := by rw [← rz.length, l2]
  refine wpAny_call (make_map (f := fI) I.kIn M.makes M.init (beq_iff_eq.mp M.fn) ?_)
  refine codeAny_mono (Fn.ok.run _ X.stack _ _ _ _ _ _ (WE W σ) (hr.make C us _) (J.env0.make C us _) (hb.to _ _ ws J.kIn e1 e2) (hb.rel r1 rz) hq) fun r s' hz => ?_
  cases r with
  | error er => exact tk.pass σ pins _ _ er s' J hz
  | ok fl =>
    cases fl with
    | ret u =>
      obtain ⟨v, H', J3, rv, ev, q3⟩ := J.after hz
      subst ev
      exact ⟨rv, ⟨.ref _, H', J3, rfl, q3⟩⟩
    | next => exact hz.elim
    | brk => exact hz.elim
    | cont => exact hz.elim
theorem me_makeK {K : PySem.W.Frag} {m1 m2 : Nat} {gV : List V → List V → List V} {gD : List D → List D → List D} {t u : TA} (hgD : ∀ as F (ds zs : List D) (vs ws : List V) (s : V), RpL K as F ds vs → RpL K as F zs ws → ds.length = m1 → zs.length = m2 → ∃ us, gV (s :: vs) ws = s :: us ∧ RpL K as F (gD ds zs) us)
    (m : MA K W t er) (mk : MA K W u ek) : ME K W (tMakeKX C m1 m2 (spG K n G) gV (WE W) t u) (eMakeK l C n m1 m2 G gD er ek) := fun as F H S ρ σ I R q x h Q hq hx => by
  refine m as F H S ρ σ I R _ x h _ (fun ds S1 bs F1 H1 vs h1 g1 r1 => ?_) hx
  refine mk bs F1 H1 S1 ρ σ g1.sit (R.grow g1) _ x h1 _ (fun zs S2 cs F2 H2 ws h2 g2 r2 => ?_) (hx.step g1)
  refine ⟨⟨r1.length.symm.trans h2.1.1, r2.length.symm.trans h2.1.2⟩, fun z dx hz hdx ne => ?_⟩
  obtain ⟨us, e1, r3⟩ := hgD cs F2 ds zs vs ws (.ref z) (r1.mono g2.ex g2.pre) r2 h2.1.1 h2.1.2
  rw [e1]
  exact make_ok g2.sit r3 h2.2 ((hq.step g1).step g2) ((hx.step g1).step g2) z dx hz hdx ne
theorem ge_makeK {m1 : Nat} {g : List Value → List Value → List Value} {gV : List V → List V → List V} {gD : List D → List D → List D} {kws : List Keyword} (tk : Tk nn X W) (Mm : Mk X.K C fI) (Fn : FnX ⟨false, nn, false⟩ X.prog X.w X.K X.mg X.base k fI fd ps (spG X.K n G)) (hr : Room j X.A) (hj : k + 1 ≤ j)
    (hm : X.mg x = some (.ref C)) (hb : KBn X.K fd ps (m1 + 1) ks g gV) (hgD : ∀ as F (ds zs : List D) (vs ws : List V) (s : V), RpL X.K as F ds vs → RpL X.K as F zs ws → ds.length = m1 → zs.length = ks.length → ∃ us, gV (s :: vs) ws = s :: us ∧ RpL X.K as F (gD ds zs) us) (ha : GA X W (e :: es) er) (hk : GK X W kws ek) (hg : Gl X x := by rfl)
    (hall : (backToKw pos (keywordEach kws X.env)).all (·.1.isSome) = true := by rfl) (hks : (backToKw pos (keywordEach kws X.env)).filterMap (·.1) = ks := by rfl) (hdb : (x == ("__debug__" : Str)) = false := by decide)
    (he : starEach (e :: es) X.env = (false, eval e X.env) :: starEach es X.env := by rfl) (hpl : ((backTo pos (starEach (e :: es) X.env)).any (·.1) || (backToKw pos (keywordEach kws X.env)).any (·.1.isNone)) = false := by rfl) :
    GE X W (.Call (.Name x p) (e :: es) kws pos) (eMakeK l C n m1 ks.length G gD er ek) := by
  obtain ⟨t, pa, m⟩ := ha
  obtain ⟨u, pk, mk⟩ := hk
  refine ⟨tMakeKX C m1 ks.length (spG X.K n G) gV (WE W) t u, ⟨fun pins s σ H Q I h => ?_⟩, me_makeK hgD m mk⟩
  refine wpAny_Call_Name_kw (ld_glob I hg hm ?_ hdb)
  refine PySem.W.callWith_KW (h₀ := X.base) I.ok.mod.kin Mm.kp hall (thn (pa.run pos pins s σ H _ I h) fun us s1 hh => ?_) hpl he
  obtain ⟨vs, H1, I1, r, q1⟩ := hh
  refine thn (pk.run pos pins s1 σ H1 _ I1 q1) fun ws s2 hh2 => ?_
  obtain ⟨zs, H2, I2, rz, ll, q2⟩ := hh2
  refine ⟨I2.kIn, ?_⟩
  rw [hks]
  exact run_makeKX Mm Fn (hr.mono hj) hb tk I2 r rz ll.1 ll.2 q2
end
end
end RV
end
section
/-! Operations on data. -/
namespace RV
open PySem L2
section
variable {K : PySem.W.Frag} {as : List Addr} {F H : Hp} {S : WS}
/-- nothing new comes: the value itself -/
theorem keep {S : WS} {Q : VK} {d : D} {v : V} (I : Sit K as F H S) (q : ∀ F' H' v, Grow K as F H as F' H' S → Rp K as F' d v → Q v H') (r : Rp K as F d v) : Q v H := q F H v (Grow.refl I) r
theorem fresh {Q : VK} {o : HO} {d : D} (I : Sit K as F H S) (q : ∀ F' H' v, Grow K as F H as F' H' S → Rp K as F' d v → Q v H') (r : ∀ p, Rp K as (upd F p o) d (.ref p)) : ∀ p, H p = none → Q (.ref p) (upd H p o) := fun p hp => q _ _ _ (I.grow hp) (r p)
/-! ### numbers -/
def intD (f : Int → Int → Int) : WS → D → D → Option D := fun _ x y => match x, y with
  | .int i, .int j => some (.int (f i j))
  | _, _ => none
def cmpD (f : Int → Int → Bool) : WS → D → D → Option D := fun _ x y => match x, y with
  | .int i, .int j => some (.bl (f i j))
  | _, _ => none
theorem ro_int {f : Int → Int → Int} : RO K (rI0 fun i j => .int (f i j)) (intD f) := fun as F H S x y d vx vy I rx ry h Q q => by
  unfold intD at h
  split at h
  · cases h
    cases rx
    cases ry
    exact ⟨_, _, rfl, rfl, keep I q (.int _)⟩
  · cases h
theorem ro_cmp {f : Int → Int → Bool} : RO K (rI0 fun i j => .bl (f i j)) (cmpD f) := fun as F H S x y d vx vy I rx ry h Q q => by
  unfold cmpD at h
  split at h
  · cases h
    cases rx
    cases ry
    exact ⟨_, _, rfl, rfl, keep I q (.bl _)⟩
  · cases h
/-- under a condition that can be told -/
def intCD (c : Int → Int → Bool) (f : Int → Int → Int) : WS → D → D → Option D := fun _ x y => match x, y with
  | .int i, .int j => if c i j = true then some (.int (f i j)) else none
  | _, _ => none
theorem ro_intC {C : Int → Int → Prop} {c : Int → Int → Bool} {f : Int → Int → Int} (hc : ∀ i j, c i j = true → C i j) : RO K (rI C fun i j => .int (f i j)) (intCD c f) := fun as F H S x y d vx vy I rx ry h Q q => by
  unfold intCD at h
  split at h
  · split at h
    · rename_i hh
      cases h
      cases rx
      cases ry
      exact ⟨_, _, rfl, rfl, hc _ _ hh, keep I q (.int _)⟩
    · cases h
  · cases h
theorem RO.or {r r' : R2} {f g : WS → D → D → Option D} (h : RO K r f) (h' : RO K r' g) : RO K (fun x y H Q => r x y H Q ∨ r' x y H Q) (fun S x y => (f S x y).orElse fun _ => g S x y) := fun as F H S x y d vx vy I rx ry e Q q => by
  replace e : ((f S x y).orElse fun _ => g S x y) = some d := e
  cases h1 : f S x y with
  | some z =>
    rw [h1] at e
    have e' : z = d := by simpa using e
    subst e'
    exact .inl (h as F H S x y z vx vy I rx ry h1 Q q)
  | none =>
    rw [h1] at e
    exact .inr (h' as F H S x y d vx vy I rx ry (by simpa using e) Q q)
def mulOk (i j : Int) : Bool := decide ((-(2 ^ 64) < i ∧ i < 2 ^ 64) ∨ (-(2 ^ 64) < j ∧ j < 2 ^ 64))
def powOk (i j : Int) : Bool := decide (0 ≤ j ∧ j ≤ 1000000 ∧ i.natAbs < 2 ^ 64)
theorem mulOk_c {i j : Int} (h : mulOk i j = true) : CMul i j := by
  unfold mulOk at h
  simp only [decide_eq_true_eq] at h
  exact h
theorem powOk_c {i j : Int} (h : powOk i j = true) : CPow i j := by
  unfold powOk at h
  simp only [decide_eq_true_eq] at h
  exact h
def posR (_ j : Int) : Bool := decide (0 < j)
def divOk (_ j : Int) : Bool := decide (0 < j ∧ j < 1073741824)
/-! ### texts -/
def catS : WS → D → D → Option D := fun _ x y => match x, y with
  | .str a, .str b => if small (a.length + b.length) = true then some (.str (a ++ b)) else none
  | _, _ => none
theorem ro_catS : RO K (fun x y H Q => ∃ i j, x = .str i ∧ y = .str j ∧ i.length + j.length ≤ sizeLine ∧ Q (.str (i ++ j)) H) catS := fun as F H S x y d vx vy I rx ry h Q q => by
  unfold catS at h
  split at h
  · split at h
    · rename_i hh
      cases h
      cases rx
      cases ry
      exact ⟨_, _, rfl, rfl, small_le hh, keep I q (.str _)⟩
    · cases h
  · cases h
/-- lists together -/
def catL : WS → D → D → Option D := fun _ x y => match x, y with
  | .lst a, .lst b => if small (a.length + b.length) = true then some (.lst (a ++ b)) else none
  | _, _ => none
theorem ro_catL : RO K rCat catL := fun as F H S x y d vx vy I rx ry h Q q => by
  unfold catL at h
  split at h
  · split at h
    · rename_i hh
      cases h
      cases rx with
      | lst h1 r1 =>
        cases ry with
        | lst h2 r2 =>
          refine ⟨_, _, _, _, rfl, rfl, I.ex _ _ h1, I.ex _ _ h2, by rw [← r1.length, ← r2.length]; exact small_le hh, fun p hp => ?_⟩
          refine q _ _ _ (I.grow hp) (.lst upd_same ((r1.append r2).mono (Ex.new (I.out hp)) (Pre.refl _)))
    · cases h
  · cases h
/-! ### an item -/
def ixD : WS → D → D → Option D := fun S x y => match x, y with
  | .lst ds, .int i => atI ds i
  | .tup ds, .int i => atI ds i
  | .str s, .int i => if small s.length = true then (atI s.cps.toList i).map fun c => .str ⟨#[c]⟩ else none
  | .cell k, .int i => match S[k]? with
    | some (.lst ds) => atI ds i
    | _ => none
  | .scr ns, .int i => (atI ns i).map D.int
  | _, _ => none
theorem atI_map {ns : List Int} {i n : Int} (h : L2.atI ns i = some n) : L2.atI (ns.map V.int) i = some (V.int n) := by
  unfold L2.atI at h ⊢
  rw [List.length_map]
  cases h1 : ixN ns.length i with
  | none => rw [h1] at h; cases h
  | some j =>
    rw [h1] at h
    simp only [Option.bind_some] at h ⊢
    rw [List.getElem?_map, h]
    rfl
theorem RpL.atI {ds : List D} {vs : List V} (r : RpL K as F ds vs) {i : Int} {d : D} (h : L2.atI ds i = some d) : ∃ v, L2.atI vs i = some v ∧ Rp K as F d v := by
  unfold L2.atI at h ⊢
  rw [← r.length]
  cases h1 : ixN ds.length i with
  | none => rw [h1] at h; cases h
  | some j =>
    rw [h1] at h
    simp only [Option.bind_some] at h ⊢
    exact r.get h
theorem ro_ix : RO K (rIx K) ixD := fun as F H S x y d vx vy I rx ry h Q q => by
  unfold ixD at h
  split at h
  · cases ry
    cases rx with
    | lst h1 r1 =>
      obtain ⟨v, e, rv⟩ := r1.atI h
      exact .inl ⟨_, _, _, v, rfl, rfl, SqL.of (I.ex _ _ h1), e, keep I q rv⟩
  · cases ry
    cases rx with
    | tup h1 r1 =>
      obtain ⟨v, e, rv⟩ := r1.atI h
      exact .inr (.inl ⟨_, _, _, v, rfl, rfl, I.ex.sqT h1, e, keep I q rv⟩)
  · split at h
    · rename_i hh
      cases ry
      cases rx
      rename_i s i
      cases h1 : atI s.cps.toList i with
      | none => rw [h1] at h; cases h
      | some c =>
        rw [h1] at h
        cases h
        exact .inr (.inr ⟨_, _, c, rfl, rfl, small_le hh, h1, keep I q (.str _)⟩)
    · cases h
  · rename_i k i
    split at h
    · rename_i ds hS
      cases ry
      cases rx with
      | cell ha =>
        obtain ⟨z1, ob, z2, z3⟩ := I.cell k _ _ ha hS
        cases ob with
        | lst xs =>
          obtain ⟨v, e, rv⟩ := RpL.atI (K := K) (as := []) (F := F) z3 h
          exact .inl ⟨_, _, _, v, rfl, rfl, SqL.of z2, e, keep I q (rv.mono (Ex.refl _) pre_nil)⟩
        | _ => exact z3.elim
    · cases h
  · simp only [Option.map_eq_some_iff] at h
    obtain ⟨n, h1, rfl⟩ := h
    cases ry
    cases rx with
    | scr hs => exact .inl ⟨_, _, _, _, rfl, rfl, I.ex.sqL hs, atI_map h1, keep I q (.int n)⟩
  · cases h
/-! ### in -/
def flatD : D → Bool
  | .non => true
  | .bl _ => true
  | .int _ => true
  | .str _ => true
  | _ => false
def eqFl : D → D → Bool
  | .non, .non => true
  | .bl a, .bl b => a == b
  | .bl a, .int b => (if a then 1 else 0) == b
  | .int a, .bl b => a == (if b then 1 else 0)
  | .int a, .int b => a == b
  | .str a, .str b => a == b
  | _, _ => false
theorem flat_v {d : D} {v : V} (r : Rp K as F d v) (h : flatD d = true) : flatV v = true := by
  cases r <;> first | rfl | cases h
theorem flat_all : ∀ {ds : List D} {vs : List V}, RpL K as F ds vs → ds.all flatD = true → vs.all flatV = true
  | _, _, .nil, _ => rfl
  | _, _, .cons h r, e => by
    simp only [List.all_cons, Bool.and_eq_true] at e ⊢
    exact ⟨flat_v h e.1, flat_all r e.2⟩
theorem eqFl_v {d e : D} {v u : V} (r : Rp K as F d v) (s : Rp K as F e u) (hd : flatD d = true) (he : flatD e = true) : eqV v u = eqFl d e := by
  cases r <;> first | (cases hd; done) | (cases s <;> first | rfl | (cases he; done))
theorem any_v {x : D} {vx : V} (rx : Rp K as F x vx) (hx : flatD x = true) : ∀ {ds : List D} {vs : List V}, RpL K as F ds vs → ds.all flatD = true → inV vx vs = ds.any fun y => eqFl y x
  | _, _, .nil, _ => rfl
  | _, _, .cons h r, e => by
    simp only [List.all_cons, Bool.and_eq_true] at e
    have ih := any_v rx hx r e.2
    unfold inV at ih ⊢
    simp only [List.any_cons, ih, eqFl_v h rx e.1 hx]
def itemsD (S : WS) : D → Option (List D)
  | .lst ds => some ds
  | .tup ds => some ds
  | .scr ns => some (ns.map D.int)
  | .cell k => match S[k]? with
    | some (.lst ds) => some ds
    | _ => none
  | _ => none
theorem items_v {x : D} {v : V} {ds : List D} (I : Sit K as F H S) (r : Rp K as F x v) (h : itemsD S x = some ds) : ∃ a xs, v = .ref a ∧ (SqL K H a xs ∨ SqT K H a xs) ∧ RpL K as F ds xs := by
  cases x with
  | lst ds' =>
    cases h
    cases r with
    | lst h1 r1 => exact ⟨_, _, rfl, .inl (SqL.of (I.ex _ _ h1)), r1⟩
  | tup ds' =>
    cases h
    cases r with
    | tup h1 r1 => exact ⟨_, _, rfl, .inr (I.ex.sqT h1), r1⟩
  | scr ns =>
    cases h
    cases r with
    | scr h1 => exact ⟨_, _, rfl, .inl (I.ex.sqL h1), rpl_ints ns⟩
  | cell k =>
    unfold itemsD at h
    cases hS : S[k]? with
    | none => simp [hS] at h
    | some c =>
      cases c with
      | lst es =>
        simp only [hS] at h
        cases h
        cases r with
        | cell ha =>
          obtain ⟨z1, ob, z2, z3⟩ := I.cell k _ _ ha hS
          cases ob with
          | lst xs => exact ⟨_, _, rfl, .inl (SqL.of z2), RpL.mono (Ex.refl _) pre_nil z3⟩
          | _ => exact z3.elim
      | _ => simp [hS] at h
  | _ => cases h
def inD (neg : Bool) : WS → D → D → Option D := fun S x y => (itemsD S y).bind fun ds => if flatD x = true ∧ ds.all flatD = true then some (.bl (if neg then !ds.any (fun y => eqFl y x) else ds.any fun y => eqFl y x)) else none
theorem ro_in {neg : Bool} : RO K (rIn K neg) (inD neg) := fun as F H S x y d vx vy I rx ry h Q q => by
  unfold inD at h
  cases h1 : itemsD S y with
  | none => rw [h1] at h; cases h
  | some ds =>
    simp only [h1, Option.bind_some] at h
    split at h
    · rename_i hh
      cases h
      obtain ⟨a, xs, rfl, hs, r⟩ := items_v I ry h1
      refine ⟨a, xs, rfl, hs, flat_v rx hh.1, flat_all r hh.2, ?_⟩
      rw [any_v rx hh.1 r hh.2]
      exact keep I q (.bl _)
    · cases h
/-- one sign in a text -/
def inSD (neg : Bool) : WS → D → D → Option D := fun _ x y => match x, y with
  | .str s, .str z => match s.cps.toList with
    | [c] => some (.bl (if neg then !decide (c ∈ z.cps.toList) else decide (c ∈ z.cps.toList)))
    | _ => none
  | _, _ => none
theorem one_sign {s : Str} {c : Nat} (h : s.cps.toList = [c]) : s = ⟨#[c]⟩ := by
  obtain ⟨a⟩ := s
  have : a = #[c] := by
    apply Array.ext'
    simpa using h
  rw [this]
theorem ro_inS : RO K (fun x y H Q => ∃ (c : Nat) (z : Str), x = .str ⟨#[c]⟩ ∧ y = .str z ∧ Q (.bl (decide (c ∈ z.cps.toList))) H) (inSD false) := fun as F H S x y d vx vy I rx ry h Q q => by
  unfold inSD at h
  split at h
  · split at h
    · rename_i hc
      cases h
      cases rx
      cases ry
      rw [one_sign hc]
      exact ⟨_, _, rfl, rfl, keep I q (.bl _)⟩
    · cases h
  · cases h
theorem ro_notInS : RO K (fun x y H Q => ∃ (c : Nat) (z : Str), x = .str ⟨#[c]⟩ ∧ y = .str z ∧ Q (.bl (!decide (c ∈ z.cps.toList))) H) (inSD true) := fun as F H S x y d vx vy I rx ry h Q q => by
  unfold inSD at h
  split at h
  · split at h
    · rename_i hc
      cases h
      cases rx
      cases ry
      rw [one_sign hc]
      exact ⟨_, _, rfl, rfl, keep I q (.bl _)⟩
    · cases h
  · cases h
/-! ### == of data -/
mutual
def D.py : D → Option PyData
  | .non => some .none
  | .bl b => some (.bool b)
  | .int i => some (.int i)
  | .str s => some (.str s)
  | .tup ds => (D.pyL ds).map PyData.tuple
  | .lst ds => (D.pyL ds).map PyData.list
  | .ty _ | .adr _ | .cell _ | .scr _ | .obj _ _ | .dic _ | .exc _ _ | .exv _ _ _ _ => none
def D.pyL : List D → Option (List PyData)
  | [] => some []
  | d :: ds => (D.py d).bind fun a => (D.pyL ds).map fun b => a :: b
end
mutual
theorem Rp.dp (I : Ex F H) : ∀ {d : D} {v : V} {p : PyData}, Rp K as F d v → D.py d = some p → Dp K H v p
  | _, _, _, .non, h => by
    unfold D.py at h
    cases h
    exact .non
  | _, _, _, .bl b, h => by
    unfold D.py at h
    cases h
    exact .bl b
  | _, _, _, .int i, h => by
    unfold D.py at h
    cases h
    exact .int i
  | _, _, _, .str s, h => by
    unfold D.py at h
    cases h
    exact .str s
  | _, _, _, .ty n, h => by unfold D.py at h; cases h
  | _, _, _, .adr a, h => by unfold D.py at h; cases h
  | _, _, _, .cell _, h => by unfold D.py at h; cases h
  | _, _, _, .scr _, h => by unfold D.py at h; cases h
  | _, _, _, .obj _ _, h => by unfold D.py at h; cases h
  | _, _, _, .dic _ _, h => by unfold D.py at h; cases h
  | _, _, _, .tup h1 r, h => by
    unfold D.py at h
    simp only [Option.map_eq_some_iff] at h
    obtain ⟨ps, h2, rfl⟩ := h
    exact .tup (I.sqT h1) (RpL.dp I r h2)
  | _, _, _, .lst h1 r, h => by
    unfold D.py at h
    simp only [Option.map_eq_some_iff] at h
    obtain ⟨ps, h2, rfl⟩ := h
    exact .lst (SqL.of (I _ _ h1)) (RpL.dp I r h2)
theorem RpL.dp (I : Ex F H) : ∀ {ds : List D} {vs : List V} {ps : List PyData}, RpL K as F ds vs → D.pyL ds = some ps → DpAll K H vs ps
  | _, _, _, .nil, h => by
    unfold D.pyL at h
    cases h
    exact .nil
  | _, _, _, .cons hd r, h => by
    unfold D.pyL at h
    simp only [Option.bind_eq_some_iff, Option.map_eq_some_iff] at h
    obtain ⟨a, h1, b, h2, rfl⟩ := h
    exact .cons (Rp.dp I hd h1) (RpL.dp I r h2)
end
/-- two texts, two numbers, two bools -/
def eqScal : D → D → Option Bool
  | .str a, .str b => some (decide (a = b))
  | .int a, .int b => some (decide (a = b))
  | .bl a, .bl b => some (decide (a = b))
  | _, _ => none
theorem dec_of {α β : Type} [DecidableEq α] [DecidableEq β] {a b : α} {f : α → β} (hf : ∀ x y, f x = f y → x = y) : decide (f a = f b) = decide (a = b) := by
  by_cases h : a = b
  · subst h
    simp
  · rw [decide_eq_false h, decide_eq_false fun z => h (hf _ _ z)]
theorem ro_eqS : RO K rEq (fun _ x y => (eqScal x y).map D.bl) := fun as F H S x y d vx vy I rx ry h Q q => by
  replace h : (eqScal x y).map D.bl = some d := h
  unfold eqScal at h
  split at h
  · cases h
    cases rx
    cases ry
    refine ⟨rfl, ?_⟩
    rw [dec_of (f := V.str) fun x y e => by cases e; rfl]
    exact keep I q (.bl _)
  · cases h
    cases rx
    cases ry
    refine ⟨rfl, ?_⟩
    rw [dec_of (f := V.int) fun x y e => by cases e; rfl]
    exact keep I q (.bl _)
  · cases h
    cases rx
    cases ry
    refine ⟨rfl, ?_⟩
    rw [dec_of (f := V.bl) fun x y e => by cases e; rfl]
    exact keep I q (.bl _)
  · cases h
theorem ro_neS : RO K rNe (fun _ x y => (eqScal x y).map fun c => D.bl (!c)) := fun as F H S x y d vx vy I rx ry h Q q => by
  replace h : ((eqScal x y).map fun c => D.bl (!c)) = some d := h
  unfold eqScal at h
  split at h
  · cases h
    cases rx
    cases ry
    refine ⟨rfl, ?_⟩
    rw [dec_of (f := V.str) fun x y e => by cases e; rfl]
    exact keep I q (.bl _)
  · cases h
    cases rx
    cases ry
    refine ⟨rfl, ?_⟩
    rw [dec_of (f := V.int) fun x y e => by cases e; rfl]
    exact keep I q (.bl _)
  · cases h
    cases rx
    cases ry
    refine ⟨rfl, ?_⟩
    rw [dec_of (f := V.bl) fun x y e => by cases e; rfl]
    exact keep I q (.bl _)
  · cases h
/-! ### built-ins -/
def lenD : WS → List D → Option D := fun S xs => match xs with
  | [.str s] => if small s.length = true then some (.int (s.length : Nat)) else none
  | [x] => (itemsD S x).map fun ds => .int (ds.length : Nat)
  | _ => none
theorem rc_len : RC K (fun xs H Q => ∃ x n, xs = [x] ∧ LenV K x H n ∧ Q (.int n) H) lenD := fun as F H S ds d vs I r h Q q => by
  unfold lenD at h
  split at h
  · split at h
    · rename_i hh
      cases h
      obtain ⟨v, ws, rfl, rv, rn⟩ := r.unsn
      obtain rfl := rn.unnil
      cases rv
      exact ⟨_, _, rfl, ⟨small_le hh, rfl⟩, keep I q (.int _)⟩
    · cases h
  · simp only [Option.map_eq_some_iff] at h
    obtain ⟨es, h1, rfl⟩ := h
    obtain ⟨v, ws, rfl, rv, rn⟩ := r.unsn
    obtain rfl := rn.unnil
    obtain ⟨a, xs, rfl, hs, rl⟩ := items_v I rv h1
    refine ⟨_, es.length, rfl, ?_, keep I q (.int _)⟩
    rcases hs with hs | hs
    · exact .inl ⟨_, hs, rl.length⟩
    · exact .inr ⟨_, hs, rl.length⟩
  · cases h
def boolsD : List D → Option (List Bool)
  | [] => some []
  | .bl b :: r => (boolsD r).map fun t => b :: t
  | _ => none
theorem bools_v : ∀ {ds : List D} {vs : List V} {bs : List Bool}, RpL K as F ds vs → boolsD ds = some bs → vs = bs.map V.bl
  | _, _, bs, .nil, h => by
    unfold boolsD at h
    cases h
    rfl
  | _, _, bs, .cons (d := d) hd r, h => by
    cases hd with
    | bl b =>
      unfold boolsD at h
      simp only [Option.map_eq_some_iff] at h
      obtain ⟨t, h1, rfl⟩ := h
      rw [bools_v r h1]
      rfl
    | _ => cases h
def allD : WS → List D → Option D := fun _ xs => match xs with
  | [.lst ds] => (boolsD ds).map fun bs => .bl (bs.all id)
  | _ => none
theorem rc_all : RC K (rAll K) allD := fun as F H S ds d vs I r h Q q => by
  unfold allD at h
  split at h
  · simp only [Option.map_eq_some_iff] at h
    obtain ⟨bs, h1, rfl⟩ := h
    obtain ⟨v, ws, rfl, rv, rn⟩ := r.unsn
    obtain rfl := rn.unnil
    cases rv with
    | lst h2 rl =>
      have e := bools_v rl h1
      subst e
      exact ⟨_, bs, rfl, SqL.of (I.ex _ _ h2), keep I q (.bl _)⟩
  · cases h
/-! ### slices -/
def RSl (K : PySem.W.Frag) (r : V → Option Int → Option Int → Hp → VK → Prop) (f : WS → D → Option Int → Option Int → Option D) : Prop := ∀ (as : List Addr) (F H : Hp) (S : WS) (x d : D) (vx : V) (lo hi : Option Int), Sit K as F H S → Rp K as F x vx → f S x lo hi = some d →
  ∀ Q : VK, (∀ F' H' v, Grow K as F H as F' H' S → Rp K as F' d v → Q v H') → r vx lo hi H Q
def slS : WS → D → Option Int → Option Int → Option D := fun _ x lo hi => match x with
  | .str z => if small z.length = true then some (.str (cutS z lo hi)) else none
  | _ => none
theorem rsl_str : RSl K rSlS slS := fun as F H S x d vx lo hi I rx h Q q => by
  unfold slS at h
  split at h
  · split at h
    · rename_i hh
      cases h
      cases rx
      exact ⟨_, rfl, small_le hh, keep I q (.str _)⟩
    · cases h
  · cases h
def cutD (ds : List D) (lo hi : Option Int) : List D := (ds.drop (HT.sIx ds.length 0 lo)).take (HT.sIx ds.length ds.length hi - HT.sIx ds.length 0 lo)
def slL : WS → D → Option Int → Option Int → Option D := fun S x lo hi => match x with
  | .lst ds => some (.lst (cutD ds lo hi))
  | _ => none
theorem rsl_lst : RSl K (rSlL K) slL := fun as F H S x d vx lo hi I rx h Q q => by
  unfold slL at h
  split at h
  · cases h
    cases rx with
    | lst h1 r1 =>
      refine ⟨_, _, rfl, SqL.of (I.ex _ _ h1), fun p hp => ?_⟩
      refine q _ _ _ (I.grow hp) (.lst upd_same ?_)
      unfold cutD cutV
      rw [r1.length]
      exact ((r1.drop _).take _).mono (Ex.new (I.out hp)) (Pre.refl _)
  · cases h
end
section
variable {X : Cx} {W : WX} {e : Expr} {pos : Pos} {ea : Env → M}
abbrev MO := WS → (Option Int → WS → Prop) → Xq → Prop
structure GO (X : Cx) (W : WX) (e : Option Expr) (m : Env → MO) : Prop where
  ex : ∃ t : TO, PO X e t ∧ ∀ (as : List Addr) (F H : Hp) (S : WS) (ρ : Env) (σ : L2.St), Sit X.K as F H S → RpE X.K as F ρ σ → ∀ q x, m ρ S q x →
    ∀ Q : Option Int → Hp → Prop, (∀ o S' bs F' H', q o S' → Grow X.K as F H bs F' H' S' → Q o H') → XQ X.K as F H x (WE W σ) → t σ H Q
def oNone : Env → MO := fun _ S q _ => q none S
def oSome (ea : Env → M) : Env → MO := fun ρ S q x => ea ρ S (fun d S1 => onI d fun i => q (some i) S1) x
theorem go_none : GO X W none oNone := ⟨_, po_none, fun as F H S ρ σ I R q x h Q hq _ => hq none S as F H h (Grow.refl I)⟩
theorem go_some (h : GE X W e ea) : GO X W (some e) (oSome ea) := by
  obtain ⟨t, p, m⟩ := h
  refine ⟨_, po_some p, fun as F H S ρ σ I R q x h Q hq hx => ?_⟩
  refine m as F H S ρ σ I R _ x h _ (fun d S1 bs F1 H1 v h1 g r => ?_) hx
  cases r with
  | int i => exact ⟨i, rfl, hq _ S1 bs F1 H1 h1 g⟩
  | _ => exact h1.elim
def eSl (f : WS → D → Option Int → Option Int → Option D) (ea : Env → M) (lo hi : Env → MO) : Env → M := fun ρ S q x => ea ρ S (fun u S1 => lo ρ S1 (fun l S2 => hi ρ S2 (fun h S3 => onS (f S3 u l h) fun d => q d S3) x) x) x
theorem ge_slice {lo hi : Option Expr} {p2 : Pos} {r : V → Option Int → Option Int → Hp → VK → Prop} {f : WS → D → Option Int → Option Int → Option D} {ml mh : Env → MO} (hr : SlR X r) (hf : RSl X.K r f) (he : GE X W e ea) (hl : GO X W lo ml) (hh : GO X W hi mh) : GE X W (.Subscript e (.Slice lo hi none p2) pos) (eSl f ea ml mh) := by
  obtain ⟨t, p, m⟩ := he
  obtain ⟨tl, pl, m1⟩ := hl
  obtain ⟨tu, pu, m2⟩ := hh
  refine ⟨_, pe_slice hr p pl pu, fun as F H S ρ σ I R q x h Q hq hx => ?_⟩
  refine m as F H S ρ σ I R _ x h _ (fun u S1 bs F1 H1 v h1 g1 r1 => ?_) hx
  refine m1 bs F1 H1 S1 ρ σ g1.sit (R.grow g1) _ x h1 _ (fun l S2 cs F2 H2 h2 g2 => ?_) (hx.step g1)
  have g12 := g1.trans g2
  refine m2 cs F2 H2 S2 ρ σ g2.sit (R.grow g12) _ x h2 _ (fun k S3 ls F3 H3 h3 g3 => ?_) (hx.step g12)
  obtain ⟨d, h4, h5⟩ := onS_ok h3
  exact hf ls F3 H3 S3 u d v l k g3.sit (RpE_aux (g2.trans g3) r1) h4 Q fun F4 H4 y g4 r4 => hq d S3 ls F4 H4 y h5 ((g12.trans g3).trans g4) r4
end
end RV
end
section
/-! Kinds (isinstance), truth, the texts of things (repr), own == and !=. -/
namespace RV
open PySem L2
variable {nn : Bool}
section
variable {K : PySem.W.Frag} {as : List Addr} {F H : Hp} {S : WS}
/-- what is asked of an own class so that its instances' kind is known -/
structure KindC (K : PySem.W.Frag) (C : Addr) : Prop where
  cl : Cls K C
  ha : PySem.W.findIn K (.ref C) "__class__" = some (some (.builtin "object.__class__"))
  hn : PySem.W.specialIn K (.builtin "object.__class__") "__get__" = some (some (.builtin "getset_descriptor.__get__"))
  tk : PySem.W.takesIn K (.builtin "object.__class__") = some true
  mro : PySem.W.mroIn K C (.type "object") = some true
/-- the kind of data -/
def kindD (own : Addr → Bool) : D → Option Value
  | .non => some (.type "NoneType")
  | .bl _ => some (.type "bool")
  | .int _ => some (.type "int")
  | .str _ => some (.type "str")
  | .tup _ => some (.type "tuple")
  | .lst _ => some (.type "list")
  | .dic _ => some (.type "dict")
  | .obj C _ => if own C = true then some (.ref C) else none
  | _ => none
theorem tyx_of {own : Addr → Bool} {d : D} {v : V} {t : Value} (ho : ∀ C, own C = true → KindC K C) (e : Ex F H) (r : Rp K as F d v) (h : kindD own d = some t) : TyX K H v t := by
  cases r with
  | non =>
    cases h
    exact .base .non
  | bl b =>
    cases h
    exact .base (.bl b)
  | int i =>
    cases h
    exact .base (.int i)
  | str s =>
    cases h
    exact .base (.str s)
  | tup h1 _ =>
    cases h
    rcases h1 with h1 | ⟨o, its, n, h1, h2, _⟩
    · rcases h1 with h1 | ⟨o, h1⟩
      · exact .base (.tup (e _ _ h1))
      · exact .fTuple (e _ _ h1)
    · exact .kTuple h1 h2
  | lst h1 _ =>
    cases h
    exact .base (.lst (e _ _ h1))
  | dic h1 _ =>
    cases h
    exact .base (.dK (e _ _ h1))
  | obj h1 _ =>
    unfold kindD at h
    simp only at h
    split at h
    · rename_i hc
      cases h
      have k := ho _ hc
      exact .base (.ins (e _ _ h1) k.cl k.ha k.hn k.tk k.mro)
    · cases h
  | _ => cases h
def clsD : D → Option Value
  | .ty n => some (.type n)
  | .adr a => some (.ref a)
  | _ => none
def isiD (own : Addr → Bool) (tab : Value → Value → Option Bool) : WS → List D → Option D := fun _ xs => match xs with
  | [x, c] => (kindD own x).bind fun t => (clsD c).bind fun u => (tab t u).map D.bl
  | _ => none
theorem rc_isi {own : Addr → Bool} {tab : Value → Value → Option Bool} (ho : ∀ C, own C = true → KindC K C) (ht : ∀ t u b, tab t u = some b → PySem.W.kitOne K t u = some b) : RC K (rIsi K) (isiD own tab) := fun as F H S ds d vs I r h Q q => by
  unfold isiD at h
  split at h
  · simp only [Option.bind_eq_some_iff, Option.map_eq_some_iff] at h
    obtain ⟨t, h1, u, h2, b, h3, rfl⟩ := h
    obtain ⟨v, ws, rfl, rv, rn⟩ := r.unsn
    obtain ⟨w, zs, rfl, rw', rn⟩ := rn.unsn
    obtain rfl := rn.unnil
    refine ⟨v, w, t, u, b, rfl, ?_, tyx_of ho I.ex rv h1, ht t u b h3, keep I q (.bl _)⟩
    cases rw' with
    | ty n =>
      cases h2
      exact .ty n
    | adr a =>
      cases h2
      exact .own a
    | _ => cases h2
  · cases h
/-! ### truth -/
def truD : WS → D → Option Bool := fun S x => match x with
  | .non => some false
  | .bl b => some b
  | .int i => some (i != 0)
  | .str s => if small s.length = true then some ((s.length : Int) != 0) else none
  | x => (itemsD S x).map fun ds => !ds.isEmpty
theorem rt_tru : RT K (fun x H Q => ∃ k, TruV K x H k ∧ Q k H) truD := fun as F H S x b vx I r h Q q => by
  have go : ∀ {ds : List D}, itemsD S x = some ds → (!ds.isEmpty) = b → ∃ k, TruV K vx H k ∧ Q k H := fun {ds} h1 e => by
    obtain ⟨a, xs, rfl, hs, rl⟩ := items_v I r h1
    refine ⟨b, ?_, q F H (Grow.refl I)⟩
    have e2 : (!xs.isEmpty) = b := by
      rw [← e]
      cases rl <;> rfl
    rcases hs with hs | hs
    · exact .inl ⟨_, hs, e2.symm⟩
    · exact .inr (.inl ⟨_, hs, e2.symm⟩)
  unfold truD at h
  split at h
  · cases h
    cases r
    exact ⟨false, rfl, q F H (Grow.refl I)⟩
  · cases h
    cases r
    exact ⟨b, rfl, q F H (Grow.refl I)⟩
  · cases h
    cases r
    exact ⟨_, rfl, q F H (Grow.refl I)⟩
  · split at h
    · rename_i hs
      cases h
      cases r
      exact ⟨_, ⟨small_le hs, rfl⟩, q F H (Grow.refl I)⟩
    · cases h
  · simp only [Option.map_eq_some_iff] at h
    obtain ⟨ds, h1, h2⟩ := h
    exact go h1 h2
theorem RT.or {r r' : V → Hp → (Bool → Hp → Prop) → Prop} {f g : WS → D → Option Bool} (h : RT K r f) (h' : RT K r' g) : RT K (fun x H Q => r x H Q ∨ r' x H Q) (fun S x => (f S x).orElse fun _ => g S x) := fun as F H S x b vx I rx e Q q => by
  replace e : ((f S x).orElse fun _ => g S x) = some b := e
  cases h1 : f S x with
  | some z =>
    rw [h1] at e
    have e' : z = b := by simpa using e
    subst e'
    exact .inl (h as F H S x z vx I rx h1 Q q)
  | none =>
    rw [h1] at e
    exact .inr (h' as F H S x b vx I rx (by simpa using e) Q q)
end
section
variable {X : Cx} {W : WX}
/-! ### repr of a list or tuple of plain data -/
def rRepr (K : PySem.W.Frag) : List V → Hp → VK → Prop := fun xs H Q => ∃ x d, xs = [x] ∧ Dp K H x d ∧ d.showable = true ∧ d.hasDict = false ∧ d.depth ≤ 64 ∧ d.shown.length ≤ sizeLine ∧ Q (.str d.shown) H
def reprD : WS → List D → Option D := fun _ xs => match xs with
  | [x] => (D.py x).bind fun p => if p.showable = true ∧ p.hasDict = false ∧ p.depth ≤ 64 ∧ p.shown.length ≤ sizeLine then some (.str p.shown) else none
  | _ => none
theorem rc_repr {K : PySem.W.Frag} : RC K (rRepr K) reprD := fun as F H S ds d vs I r h Q q => by
  unfold reprD at h
  split at h
  · simp only [Option.bind_eq_some_iff] at h
    obtain ⟨p, h1, h2⟩ := h
    split at h2
    · rename_i hh
      cases h2
      obtain ⟨v, ws, rfl, rv, rn⟩ := r.unsn
      obtain rfl := rn.unnil
      exact ⟨_, p, rfl, rv.dp I.ex h1, hh.1, hh.2.1, hh.2.2.1, hh.2.2.2, keep I q (.str _)⟩
    · cases h2
  · cases h

/-! ### an operation that runs a def of the text's own -/
def eOpM (f : D → D → M) (ea eb : Env → M) : Env → M := fun ρ S q x => ea ρ S (fun u S1 => eb ρ S1 (fun v S2 => f u v S2 q x) x) x
variable {a b : Expr} {pos : Pos} {ea eb : Env → M}
/-! ### own == -/
end
end RV
end
section
/-! Stores; a chain of comparisons; numbers. -/
namespace RV
open PySem L2
section
variable {X : Cx} {W : WX} {a b c e o tg iter elt : Expr} {pos : Pos} {ea eb ec ee eo ei : Env → M} {er : Env → ML} {mc : Env → MB}
/-! ### several names at once -/
def sAsgG (f : D → Env → Option Env) (ea : Env → M) : Env → MS := fun ρ S k => ea ρ S (fun d S1 => onS (f d ρ) fun ρ' => k.nx ρ' S1) fun e S' => k.ex e ρ S'
theorem gs_asg {vs : List Nat} {f : D → Env → Option Env} (he : GE X W e ea) (hg : GG X tg vs f) (hs : swapsWithSole [tg] e pos.line X.env = pure false := by rfl) (hw : swappedStores [tg] e X.env = pure none := by rfl) (h1 : (assignEach [tg] X.env).map (·.2) = [assign tg X.env] := by rfl) : GS X W (.Assign [tg] e pos) (sAsgG f ea) := by
  obtain ⟨t, p, m⟩ := he
  obtain ⟨g, pg, mg⟩ := hg
  refine ⟨_, ps_asg p pg hs hw h1, fun as F H S ρ σ I R k h E q => ?_⟩
  refine m as F H S ρ σ I R _ _ h _ (fun d S1 bs F1 H1 v h1 g r => ?_) (q.xq R)
  obtain ⟨ρ', h2, h3⟩ := onS_ok h1
  exact mg bs F1 H1 S1 ρ σ d v ρ' g.sit (R.grow g) r h2 _ fun σ' _ R' => q.nx ρ' S1 bs F1 H1 σ' h3 g R'
def sPar2 (i j : Nat) (er : Env → ML) : Env → MS := fun ρ S k => er ρ S (fun ds S1 => on2 ds fun x y => k.nx ((ρ.set i (some x)).set j (some y)) S1) fun e S' => k.ex e ρ S'
theorem gs_par2 (i j : Nat) {x y : Str} {px py pt pt2 : Pos} {kt k2 : Nat} (hc : X.calm = true) (hN : X.N.Nodup) (ha : GA X W [a, b] er) (hi : X.N[i]? = some x := by rfl) (hj : X.N[j]? = some y := by rfl) (hij : i ≠ j := by decide)
    (hx : X.env.scope.names.lookup x = some .local := by rfl) (hy : X.env.scope.names.lookup y = some .local := by rfl)
    (hw : swappedStores [.Tuple [.Name x px, .Name y py] kt pt] (.Tuple [a, b] k2 pt2) X.env = pure (some [x, y]) := by rfl)
    (hs : swapsWithSole [.Tuple [.Name x px, .Name y py] kt pt] (.Tuple [a, b] k2 pt2) pos.line X.env = pure false := by rfl) :
    GS X W (.Assign [.Tuple [.Name x px, .Name y py] kt pt] (.Tuple [a, b] k2 pt2) pos) (sPar2 i j er) := by
  obtain ⟨t, p, m⟩ := ha
  refine ⟨_, ps_par hc hN hi hj hij hx hy p hw hs, fun as F H S ρ σ I R k h E q => ?_⟩
  refine m as F H S ρ σ I R _ _ h _ (fun ds S1 bs F1 H1 vs h1 g r => ?_) (q.xq R)
  obtain ⟨d1, d2, rfl, h1⟩ := on2_ok h1
  obtain ⟨v, ws, rfl, r1, rn⟩ := r.unsn
  obtain ⟨w, zs, rfl, r2, rn⟩ := rn.unsn
  obtain rfl := rn.unnil
  exact ⟨v, w, rfl, q.nx _ S1 bs F1 H1 _ h1 g (((R.grow g).set r1).set r2)⟩
def sPar3 (i j l : Nat) (er : Env → ML) : Env → MS := fun ρ S k => er ρ S (fun ds S1 => on3 ds fun x y z => k.nx (((ρ.set i (some x)).set j (some y)).set l (some z)) S1) fun e S' => k.ex e ρ S'
theorem gs_par3 (i j l : Nat) {x y z : Str} {px py pz pt pt2 : Pos} {kt k2 : Nat} (hc : X.calm = true) (hN : X.N.Nodup) (ha : GA X W [a, b, c] er) (hi : X.N[i]? = some x := by rfl) (hj : X.N[j]? = some y := by rfl) (hl : X.N[l]? = some z := by rfl) (hij : i ≠ j := by decide) (hil : i ≠ l := by decide) (hjl : j ≠ l := by decide)
    (hx : X.env.scope.names.lookup x = some .local := by rfl) (hy : X.env.scope.names.lookup y = some .local := by rfl) (hz : X.env.scope.names.lookup z = some .local := by rfl)
    (hw : swappedStores [.Tuple [.Name x px, .Name y py, .Name z pz] kt pt] (.Tuple [a, b, c] k2 pt2) X.env = pure (some [x, y, z]) := by rfl)
    (hs : swapsWithSole [.Tuple [.Name x px, .Name y py, .Name z pz] kt pt] (.Tuple [a, b, c] k2 pt2) pos.line X.env = pure false := by rfl) :
    GS X W (.Assign [.Tuple [.Name x px, .Name y py, .Name z pz] kt pt] (.Tuple [a, b, c] k2 pt2) pos) (sPar3 i j l er) := by
  obtain ⟨t, p, m⟩ := ha
  refine ⟨_, ps_par3 hc hN hi hj hl hij hil hjl hx hy hz p hw hs, fun as F H S ρ σ I R k h E q => ?_⟩
  refine m as F H S ρ σ I R _ _ h _ (fun ds S1 bs F1 H1 vs h1 g r => ?_) (q.xq R)
  obtain ⟨d1, d2, d3, rfl, h1⟩ := on3_ok h1
  obtain ⟨v, ws, rfl, r1, rn⟩ := r.unsn
  obtain ⟨w, zs, rfl, r2, rn⟩ := rn.unsn
  obtain ⟨w3, zs, rfl, r3, rn⟩ := rn.unsn
  obtain rfl := rn.unnil
  exact ⟨v, w, w3, rfl, q.nx _ S1 bs F1 H1 _ h1 g ((((R.grow g).set r1).set r2).set r3)⟩
/-- y = [e for ..] -/
theorem gs_setLc (i : Nat) {y : Str} {py spos : Pos} {scope : Scope} {own : List (Str × Nat)} {ifs : List Expr} {l : Lk} {mi : Env → MW} {us : List Nat} {f : D → Env → Option Env} (hc : X.calm = true) (hN : X.N.Nodup) (hi : GI X W tg iter mi) (ok : BlkOk X.N X.env.scope scope own)
    (hg : ∀ (s : Shared) (H : Hp) (C : Addr) (cl : List (Str × Addr)) (fp : List Addr), GG (X.blk s H scope (compEnvC scope cl C X.env) fp) tg us f)
    (ht : ∀ (s : Shared) (H : Hp) (C : Addr) (cl : List (Str × Addr)) (fp : List Addr), GTs (X.blk s H scope (compEnvC scope cl C X.env) fp) ifs mc)
    (he : ∀ (s : Shared) (H : Hp) (C : Addr) (cl : List (Str × Addr)) (fp : List Addr), GE (X.blk s H scope (compEnvC scope cl C X.env) fp) WF elt ee)
    (hsw : swapsWith (.ListComp elt [⟨tg, iter, ifs, 0⟩] scope pos) (some (.Name y py)) spos.line X.env = pure true)
    (hy : X.N[i]? = some y := by rfl) (hyl : X.env.scope.names.lookup y = some .local := by rfl)
    (hu : ∀ x ∈ us, x ∈ own.map (·.2) := by decide) (hs : ∀ (x : Value), foldedSetIterable iter X.env x = pure x := by intro _; rfl) :
    GS X W (.Assign [.Name y py] (.ListComp elt [⟨tg, iter, ifs, 0⟩] scope pos) spos) (sAsg i (eLc l mi f mc ee (own.map (·.2)))) := by
  obtain ⟨wi, pi, mi'⟩ := hi
  exact ⟨_, ps_setLc (own := own) hc hN hy hyl hsw pi ok (fun s H C cl fp => (hg s H C cl fp).canon) (fun s H C cl fp => (ht s H C cl fp).ex) (fun s H C cl fp => (he s H C cl fp).canon) hs, ms_asg (me_lc mi' hu)⟩
/-! ### o[i] = e, o a list that is a cell -/
def setIxD (o i d : D) (S : WS) : Option WS := match o, i with
  | .cell k, .int n => match S[k]? with
    | some (.lst ds) => if D.clean 0 d = true then (ixN ds.length n).map fun j => S.set k (.lst (ds.set j d)) else none
    | _ => none
  | _, _ => none
theorem setIx_ok {K : PySem.W.Frag} {as : List Addr} {F H : Hp} {S S' : WS} {o i d : D} {vo vi v : V} {Q : Hp → Prop} (I : Sit K as F H S) (ro : Rp K as F o vo) (ri : Rp K as F i vi) (rv : Rp K as F d v) (h : setIxD o i d S = some S') (q : ∀ H', Grow K as F H as F H' S' → Q H') : rSetL vo vi v H Q := by
  unfold setIxD at h
  split at h
  · rename_i k n
    split at h
    · rename_i ds hS
      split at h
      · rename_i hcl
        simp only [Option.map_eq_some_iff] at h
        obtain ⟨j, hj, rfl⟩ := h
        cases ri
        cases ro with
        | cell h0 =>
          obtain ⟨z1, ob, z2, z3⟩ := I.cell k _ _ h0 hS
          cases ob with
          | lst xs =>
            have z3' : RpL K [] F ds xs := z3
            have r1' : Rp K [] F d v := rv.back (n := 0) (fun k a hk => absurd hk (by omega)) hcl
            have g3 := I.put (c' := .lst (ds.set j d)) (o := .lst (xs.set j v)) h0 hS rfl rfl (RpL.set r1' j z3')
            exact ⟨_, xs, n, j, rfl, rfl, z2, by rw [← z3'.length]; exact hj, q _ g3⟩
          | _ => exact z3.elim
      · cases h
    · cases h
  · cases h
def sSetIx (eo ei ee : Env → M) : Env → MS := fun ρ S k => ee ρ S (fun d S1 => eo ρ S1 (fun o S2 => ei ρ S2 (fun i S3 => onS (setIxD o i d S3) fun S' => k.nx ρ S') fun e S' => k.ex e ρ S') fun e S' => k.ex e ρ S') fun e S' => k.ex e ρ S'
theorem gs_setIx {i : Expr} {tpos : Pos} (he : GE X W e ee) (ho : GE X W o eo) (hi : GE X W i ei) (hs : swapsWithSole [.Subscript o i tpos] e pos.line X.env = pure false := by rfl) (hw : swappedStores [.Subscript o i tpos] e X.env = pure none := by rfl) (h1 : (assignEach [.Subscript o i tpos] X.env).map (·.2) = [assign (.Subscript o i tpos) X.env] := by rfl)
    (ha : ∀ (v : Value), assign (.Subscript o i tpos) X.env v = (do
      let ov ← holding [v] (eval o X.env)
      let iv ← holding [v, ov] (eval i X.env)
      standAt tpos
      holding [v, ov, iv] (setItem ov iv v)
      release [v, ov, iv] []) := by intro _; rfl) : GS X W (.Assign [.Subscript o i tpos] e pos) (sSetIx eo ei ee) := by
  obtain ⟨t, p, m⟩ := he
  obtain ⟨to, po, mo⟩ := ho
  obtain ⟨ti, pi, mi⟩ := hi
  refine ⟨_, ps_asg p (pg_sub po pi set_list ha) hs hw h1, fun as F H S ρ σ I R k h E q => ?_⟩
  refine m as F H S ρ σ I R _ _ h _ (fun d S1 bs F1 H1 v1 h1 g1 r1 => ?_) (q.xq R)
  refine mo bs F1 H1 S1 ρ σ g1.sit (R.grow g1) _ _ h1 _ (fun o S2 cs F2 H2 v2 h2 g2 r2 => ?_) ((q.step g1).xq (R.grow g1))
  have g12 := g1.trans g2
  refine mi cs F2 H2 S2 ρ σ g2.sit (R.grow g12) _ _ h2 _ (fun i S3 ls F3 H3 v3 h3 g3 r3 => ?_) ((q.step g12).xq (R.grow g12))
  obtain ⟨S4, h4, h5⟩ := onS_ok h3
  refine setIx_ok g3.sit (RpE_aux g3 r2) r3 (RpE_aux g3 (RpE_aux g2 r1)) h4 fun H' g4 => ?_
  have g := (g12.trans g3).trans g4
  exact q.nx ρ S4 ls F3 H' σ h5 g (R.grow g)
/-- o[i], x = e, e a pair -/
def sPairSet (j : Nat) (eo ei ee : Env → M) : Env → MS := fun ρ S k => ee ρ S (fun d S1 => onTu d fun ds => on2 ds fun d1 d2 => eo ρ S1 (fun o S2 => ei ρ S2 (fun i S3 => onS (setIxD o i d1 S3) fun S' => k.nx (ρ.set j (some d2)) S') fun e S' => k.ex e ρ S') fun e S' => k.ex e ρ S') fun e S' => k.ex e ρ S'
theorem gs_pairSet (j : Nat) {i : Expr} {x : Str} {tpos px pt : Pos} {kt : Nat} (hc : X.calm = true) (hN : X.N.Nodup) (he : GE X W e ee) (ho : GE X W o eo) (hi : GE X W i ei) (hj : X.N[j]? = some x := by rfl) (hx : Loc X.env.scope x := by first | exact Or.inl rfl | exact Or.inr rfl) (hf : X.fn x = true ∨ X.env.scope.names.lookup x = some .local := by first | exact .inl rfl | exact .inr rfl | assumption)
    (hs : swapsWithSole [.Tuple [.Subscript o i tpos, .Name x px] kt pt] e pos.line X.env = pure false := by rfl) (hw : swappedStores [.Tuple [.Subscript o i tpos, .Name x px] kt pt] e X.env = pure none := by rfl)
    (h1 : (assignEach [.Tuple [.Subscript o i tpos, .Name x px] kt pt] X.env).map (·.2) = [assign (.Tuple [.Subscript o i tpos, .Name x px] kt pt) X.env] := by rfl)
    (ha : ∀ (v : Value), assign (.Subscript o i tpos) X.env v = (do
      let ov ← holding [v] (eval o X.env)
      let iv ← holding [v, ov] (eval i X.env)
      standAt tpos
      holding [v, ov, iv] (setItem ov iv v)
      release [v, ov, iv] []) := by intro _; rfl)
    (e1 : (assignEach [.Subscript o i tpos, .Name x px] X.env).map (·.2) = assign (.Subscript o i tpos) X.env :: (assignEach [.Name x px] X.env).map (·.2) := by rfl)
    (e2 : (assignEach [.Name x px] X.env).map (·.2) = assign (.Name x px) X.env :: (assignEach [] X.env).map (·.2) := by rfl)
    (e3 : (assignEach [.Subscript o i tpos, .Name x px] X.env).length = 2 := by rfl) (e4 : (assignEach [.Subscript o i tpos, .Name x px] X.env).findIdx? (·.1) = none := by rfl) :
    GS X W (.Assign [.Tuple [.Subscript o i tpos, .Name x px] kt pt] e pos) (sPairSet j eo ei ee) := by
  obtain ⟨t, p, m⟩ := he
  obtain ⟨to, po, mo⟩ := ho
  obtain ⟨ti, pi, mi⟩ := hi
  refine ⟨_, ps_asg p (pg_tup hc (pgs_cons (pg_sub po pi set_list ha) (pgs_cons (pg_name (i := j) hN hj hx hf) pgs_nil e2) e1) e3 e4) hs hw h1, fun as F H S ρ σ I R k h E q => ?_⟩
  refine m as F H S ρ σ I R _ _ h _ (fun d S1 bs F1 H1 v1 h1 g1 r1 => ?_) (q.xq R)
  obtain ⟨ds, rfl, h1⟩ := onTu_ok h1
  obtain ⟨d1, d2, rfl, h1⟩ := on2_ok h1
  · cases r1 with
    | tup hq rl =>
      obtain ⟨u1, ws, rfl, ru1, rn⟩ := rl.unsn
      obtain ⟨u2, zs, rfl, ru2, rn⟩ := rn.unsn
      obtain rfl := rn.unnil
      refine ⟨_, _, rfl, g1.sit.ex.sqT hq, rfl, u1, [u2], rfl, ?_⟩
      refine mo bs F1 H1 S1 ρ σ g1.sit (R.grow g1) _ _ h1 _ (fun o S2 cs F2 H2 v2 h2 g2 r2 => ?_) ((q.step g1).xq (R.grow g1))
      have g12 := g1.trans g2
      refine mi cs F2 H2 S2 ρ σ g2.sit (R.grow g12) _ _ h2 _ (fun i S3 ls F3 H3 v3 h3 g3 r3 => ?_) ((q.step g12).xq (R.grow g12))
      obtain ⟨S4, h4, h5⟩ := onS_ok h3
      refine setIx_ok g3.sit (RpE_aux g3 r2) r3 (RpE_aux g3 (RpE_aux g2 ru1)) h4 fun H' g4 => ?_
      have g := (g12.trans g3).trans g4
      exact ⟨u2, [], rfl, rfl, q.nx _ S4 ls F3 H' _ h5 g ((R.grow g).set (RpE_aux g3 (RpE_aux g2 ru2)))⟩
/-! ### a chain of two comparisons -/
theorem gt_chain {op op' : CmpOp} {r r' : R2} {f g : WS → D → D → Option D} (ho : OpR X (compareOp op) r) (ho' : OpR X (compareOp op') r') (hr : RO X.K r f) (hr' : RO X.K r' g) (ha : GE X W a ea) (hb : GE X W b eb) (hc : GE X W c ec) (hm : lastMarks [op, op'] [b, c] = false := by with_unfolding_all rfl) :
    GT X W (.Compare a [op, op'] [b, c] pos) (bChain f g ea eb ec) := by
  obtain ⟨ta, pa, ma⟩ := ha
  obtain ⟨tb, pb, mb⟩ := hb
  obtain ⟨tc, pc, mc⟩ := hc
  refine ⟨_, pt_chain ho ho' pa pb pc hm, fun as F H S ρ σ I R q x h Q hq hx => ?_⟩
  refine ma as F H S ρ σ I R _ x h _ (fun u S1 bs F1 H1 v1 h1 g1 r1 => ?_) hx
  refine mb bs F1 H1 S1 ρ σ g1.sit (R.grow g1) _ x h1 _ (fun w S2 cs F2 H2 v2 h2 g2 r2 => ?_) (hx.step g1)
  obtain ⟨d, hf, h3⟩ := onS_ok h2
  have g12 := g1.trans g2
  refine hr cs F2 H2 S2 u w d v1 v2 g2.sit (RpE_aux g2 r1) r2 hf _ fun F3 H3 v3 g3 r3 => ?_
  have g13 := g12.trans g3
  cases r3 with
  | bl c =>
    refine ⟨c, rfl, ?_⟩
    cases c with
    | true =>
      refine mc cs F3 H3 S2 ρ σ g3.sit (R.grow g13) _ x h3 _ (fun y S4 ls F4 H4 v4 h4 g4 r4 => ?_) (hx.step g13)
      obtain ⟨d', hg, h5⟩ := onS_ok h4
      refine hr' ls F4 H4 S4 w y d' v2 v4 g4.sit (RpE_aux g4 (RpE_aux g3 r2)) r4 hg _ fun F5 H5 v5 g5 r5 => ?_
      cases r5 with
      | bl c' => exact ⟨c', rfl, hq _ S4 ls F5 H5 h5 ((g13.trans g4).trans g5)⟩
      | _ => exact h5.elim
    | false => exact ⟨false, rfl, hq false S2 cs F3 H3 h3 g13⟩
  | _ => exact h3.elim
end
section
variable {K : PySem.W.Frag}
/-! ### built-ins on numbers -/
def absD : WS → List D → Option D := fun _ xs => match xs with
  | [.int i] => some (.int (if i < 0 then -i else i))
  | _ => none
theorem rc_abs : RC K (fun xs H Q => ∃ i, xs = [.int i] ∧ Q (.int (if i < 0 then -i else i)) H) absD := fun as F H S ds d vs I r h Q q => by
  unfold absD at h
  split at h
  · cases h
    obtain ⟨v, ws, rfl, rv, rn⟩ := r.unsn
    obtain rfl := rn.unnil
    cases rv
    exact ⟨_, rfl, keep I q (.int _)⟩
  · cases h
def intOfD : WS → List D → Option D := fun _ xs => match xs with
  | [.int i] => some (.int i)
  | _ => none
theorem rc_int1 : RC K (fun xs H Q => (∃ i, xs = [.int i] ∧ Q (.int i) H) ∨ ∃ k, xs = [.bl k] ∧ Q (.int (if k then 1 else 0)) H) intOfD := fun as F H S ds d vs I r h Q q => by
  unfold intOfD at h
  split at h
  · cases h
    obtain ⟨v, ws, rfl, rv, rn⟩ := r.unsn
    obtain rfl := rn.unnil
    cases rv
    exact .inl ⟨_, rfl, keep I q (.int _)⟩
  · cases h
def max2D : WS → List D → Option D := fun _ xs => match xs with
  | [.int i, .int j] => some (.int (if j > i then j else i))
  | _ => none
def min2D : WS → List D → Option D := fun _ xs => match xs with
  | [.int i, .int j] => some (.int (if j < i then j else i))
  | _ => none
theorem rc_max2 : RC K (fun xs H Q => ∃ i j, xs = [.int i, .int j] ∧ Q (.int (if j > i then j else i)) H) max2D := fun as F H S ds d vs I r h Q q => by
  unfold max2D at h
  split at h
  · cases h
    obtain ⟨v, ws, rfl, rv, rn⟩ := r.unsn
    obtain ⟨v2, ws, rfl, rv2, rn⟩ := rn.unsn
    obtain rfl := rn.unnil
    cases rv
    cases rv2
    exact ⟨_, _, rfl, keep I q (.int _)⟩
  · cases h
theorem rc_min2 : RC K (fun xs H Q => ∃ i j, xs = [.int i, .int j] ∧ Q (.int (if j < i then j else i)) H) min2D := fun as F H S ds d vs I r h Q q => by
  unfold min2D at h
  split at h
  · cases h
    obtain ⟨v, ws, rfl, rv, rn⟩ := r.unsn
    obtain ⟨v2, ws, rfl, rv2, rn⟩ := rn.unsn
    obtain rfl := rn.unnil
    cases rv
    cases rv2
    exact ⟨_, _, rfl, keep I q (.int _)⟩
  · cases h
def dmOk (j : Int) : Bool := decide (0 < j ∧ j.natAbs < 2 ^ 1000)
theorem dmOk_c {i j : Int} (h : dmOk j = true) : CDivP i j := by
  unfold dmOk at h
  simp only [decide_eq_true_eq] at h
  refine ⟨h.1, PyProof.noPylong_of_log2 ?_⟩
  have h2 : j.natAbs ≠ 0 := by omega
  have h3 : j.natAbs.log2 < 1000 := (Nat.log2_lt h2).mpr h.2
  omega
def divmodD : WS → List D → Option D := fun _ xs => match xs with
  | [.int i, .int j] => if dmOk j = true then some (.tup [.int (i / j), .int (i % j)]) else none
  | _ => none
theorem rc_divmod : RC K (fun xs H Q => ∃ i j, xs = [.int i, .int j] ∧ CDivP i j ∧ ∀ p, H p = none → Q (.ref p) (upd H p (.tup [.int (i / j), .int (i % j)]))) divmodD := fun as F H S ds d vs I r h Q q => by
  unfold divmodD at h
  split at h
  · split at h
    · rename_i hh
      cases h
      obtain ⟨v, ws, rfl, rv, rn⟩ := r.unsn
      obtain ⟨v2, ws, rfl, rv2, rn⟩ := rn.unsn
      obtain rfl := rn.unnil
      cases rv
      cases rv2
      exact ⟨_, _, rfl, dmOk_c hh, fun p hp => q _ _ _ (I.grow hp) (.tup (SqT.of upd_same) (.cons (.int _) (.cons (.int _) .nil)))⟩
    · cases h
  · cases h
end
end RV
end
section
/-! The law's own end. -/
namespace RV
open PySem L2
variable {nn : Bool}
end RV
end
section
/-! What a caller wants of a def, a class, a property; operations for all kinds at once. -/
namespace RV
open PySem L2
variable {nn : Bool}
section
variable (P : Program) (w : World) (K : PySem.W.Frag) (mg : Str → Option Value) (base : Heap)
/-- the module's name x is a def that computes G -/
def Fc (gd : Md) (x : Str) (k n : Nat) (G : List D → M) : Prop := ∃ (f : Addr) (fd : FuncData) (ps : List Str), FnX gd P w K mg base k f fd ps (spG K n G) ∧ Binds K fd ps [] ∧ PySem.W.keepIn K (.ref f) = true ∧ mg x = some (.ref f)
/-- the module's name x is the class at C; its __init__ computes G; dvs: the defaults that fill up -/
def Mc (nn : Bool) (x : Str) (C : Addr) (k n : Nat) (G : List D → M) (dvs : List D) : Prop := ∃ (f : Addr) (fd : FuncData) (ps : List Str) (dv : List V) (ds : List Value), Mk K C f ∧ FnX ⟨false, nn, false⟩ P w K mg base k f fd ps (spG K n G) ∧ Binds K fd ps ds ∧ Vals dv ds ∧ (∀ as F, RpL K as F dvs dv) ∧ mg x = some (.ref C)
/-- .. called with m1 values and keywords ks -/
def Mk_ (nn : Bool) (x : Str) (C : Addr) (k n m1 : Nat) (ks : List Str) (G : List D → M) (gD : List D → List D → List D) : Prop := ∃ (f : Addr) (fd : FuncData) (ps : List Str) (g : List Value → List Value → List Value) (gV : List V → List V → List V), Mk K C f ∧ FnX ⟨false, nn, false⟩ P w K mg base k f fd ps (spG K n G) ∧ KBn K fd ps (m1 + 1) ks g gV ∧
  (∀ as F (ds zs : List D) (vs ws : List V) (s : V), RpL K as F ds vs → RpL K as F zs ws → ds.length = m1 → zs.length = ks.length → ∃ us, gV (s :: vs) ws = s :: us ∧ RpL K as F (gD ds zs) us) ∧ mg x = some (.ref C)
/-- f is a property of the class at C that computes G -/
def Pc (nn : Bool) (C : Addr) (f : Str) (k : Nat) (G : List D → M) : Prop := ∃ (pr g : Addr) (fd : FuncData) (ps : List Str), Cls K C ∧ PropOf K C f pr g ∧ FnX ⟨false, nn, false⟩ P w K mg base k g fd ps (spG K 1 G) ∧ Binds K fd ps []
end
section
variable {X : Cx} {W : WX} {e o a b : Expr} {es : List Expr} {pos p : Pos} {er ek : Env → ML} {ea eb : Env → M} {x f : Str} {k j n : Nat} {G : List D → M} {C : Addr} {dvs : List D} {l : Lk} {gd : Md}
theorem ge_callF {g h : Bool} (tk : Tk nn X W) (c : Fc X.prog X.w X.K X.mg X.base ⟨g, nn, h⟩ x k n G) (hgd : g = true → X.A.guards = some []) (hr : Rx h j X) (ha : GA X W (e :: es) er) (hj : k ≤ j := by decide) (hg : Gl X x := by rfl) (hdb : (x == ("__debug__" : Str)) = false := by decide) (h1 : starEach (e :: es) X.env = (false, eval e X.env) :: starEach es X.env := by rfl) (h2 : (backTo pos (starEach es X.env)).any (·.1) = false := by rfl) :
    GE X W (.Call (.Name x p) (e :: es) [] pos) (eFn n G [] er) := by
  obtain ⟨f, fd, ps, F, hb, hk, hm⟩ := c
  exact ge_call (dv := []) tk F hgd hr hj hm hk hb .nil (fun _ _ => .nil) ha hg hdb h1 h2
theorem ge_makeF (tk : Tk nn X W) (c : Mc X.prog X.w X.K X.mg X.base nn x C k n G dvs) (hr : Room j X.A) (ha : GA X W (e :: es) er) (hj : k + 1 ≤ j := by decide) (hg : Gl X x := by rfl) (hdb : (x == ("__debug__" : Str)) = false := by decide) (h1 : starEach (e :: es) X.env = (false, eval e X.env) :: starEach es X.env := by rfl) (h2 : (backTo pos (starEach es X.env)).any (·.1) = false := by rfl) :
    GE X W (.Call (.Name x p) (e :: es) [] pos) (eMake l C n G dvs er) := by
  obtain ⟨f, fd, ps, dv, ds, M, F, hb, hd, hdv, hm⟩ := c
  exact ge_make tk M F hr hj hm hb hd hdv ha hg hdb h1 h2
theorem ge_makeKF {m1 : Nat} {ks : List Str} {gD : List D → List D → List D} {kws : List Keyword} (tk : Tk nn X W) (c : Mk_ X.prog X.w X.K X.mg X.base nn x C k n m1 ks G gD) (hr : Room j X.A) (ha : GA X W (e :: es) er) (hk : GK X W kws ek) (hj : k + 1 ≤ j := by decide) (hg : Gl X x := by rfl)
    (hall : (backToKw pos (keywordEach kws X.env)).all (·.1.isSome) = true := by rfl) (hks : (backToKw pos (keywordEach kws X.env)).filterMap (·.1) = ks := by rfl) (hdb : (x == ("__debug__" : Str)) = false := by decide)
    (he : starEach (e :: es) X.env = (false, eval e X.env) :: starEach es X.env := by rfl) (hpl : ((backTo pos (starEach (e :: es) X.env)).any (·.1) || (backToKw pos (keywordEach kws X.env)).any (·.1.isNone)) = false := by rfl) :
    GE X W (.Call (.Name x p) (e :: es) kws pos) (eMakeK l C n m1 ks.length G gD er ek) := by
  obtain ⟨f, fd, ps, g, gV, M, F, hb, hgD, hm⟩ := c
  exact ge_makeK tk M F hr hj hm hb hgD ha hk hg hall hks hdb he hpl
theorem ge_propF (c : Pc X.prog X.w X.K X.mg X.base nn C f k G) (hr : Room j X.A) (ha : GE X W e ea) (hj : k + 1 ≤ j := by decide) (hab : attributeBase e f X.env (eval e X.env) = eval e X.env := by rfl) : GE X W (.Attribute e f pos) (eProp C G ea) := by
  obtain ⟨pr, g, fd, ps, cl, hp, F, hb⟩ := c
  exact ge_prop cl hp F hr hj hb ha hab
end
/-! ### all kinds at once -/
section
variable {K : PySem.W.Frag} {X : Cx}
theorem RO.eq {r : R2} {f g : WS → D → D → Option D} (h : RO K r f) (e : ∀ S x y d, g S x y = some d → f S x y = some d) : RO K r g := fun as F H S x y d vx vy I rx ry hd => h as F H S x y d vx vy I rx ry (e S x y d hd)
def addD : WS → D → D → Option D := fun _ x y => match x, y with
  | .int i, .int j => some (.int (i + j))
  | .str a, .str b => if small (a.length + b.length) = true then some (.str (a ++ b)) else none
  | .lst a, .lst b => if small (a.length + b.length) = true then some (.lst (a ++ b)) else none
  | _, _ => none
def rAddS_ : R2 := fun x y H Q => ∃ i j, x = .str i ∧ y = .str j ∧ i.length + j.length ≤ sizeLine ∧ Q (.str (i ++ j)) H
def rAddA : R2 := fun x y H Q => (rI0 fun i j => .int (i + j)) x y H Q ∨ (rAddS_ x y H Q ∨ rCat x y H Q)
theorem op_addA : OpR X (binaryOp .Add) rAddA := OpR.or op_add (OpR.or op_add_str op_cat)
theorem ro_addA : RO K rAddA addD := RO.eq (RO.or (ro_int (f := fun i j => i + j)) (RO.or (r := rAddS_) ro_catS ro_catL)) fun S x y d h => by
  unfold addD at h
  split at h
  · simpa [intD] using h
  · simp only [intD, catS, Option.orElse] at h ⊢
    rw [h]
  · simpa [intD, catS, catL] using h
  · cases h
def mulD : WS → D → D → Option D := intCD mulOk fun i j => i * j
def powD : WS → D → D → Option D := intCD powOk fun i j => i ^ j.toNat
def modD : WS → D → D → Option D := intCD posR fun i j => i % j
def fdivD : WS → D → D → Option D := intCD divOk fun i j => i / j
def subD : WS → D → D → Option D := intD fun i j => i - j
theorem ro_mul : RO K (rI CMul fun i j => .int (i * j)) mulD := ro_intC fun _ _ h => mulOk_c h
theorem ro_pow : RO K (rI CPow fun i j => .int (i ^ j.toNat)) powD := ro_intC fun _ _ h => powOk_c h
theorem ro_mod : RO K (rI (fun _ j => 0 < j) fun i j => .int (i % j)) modD := ro_intC fun _ _ h => of_decide_eq_true h
theorem ro_fdiv : RO K (rI CDiv fun i j => .int (i / j)) fdivD := ro_intC fun i j h => by
  have h2 : 0 < j ∧ j < 1073741824 := of_decide_eq_true h
  exact h2
theorem ro_sub : RO K (rI0 fun i j => .int (i - j)) subD := ro_int
def ltD : WS → D → D → Option D := cmpD fun i j => decide (i < j)
def leD : WS → D → D → Option D := cmpD fun i j => decide (i ≤ j)
def gtD : WS → D → D → Option D := cmpD fun i j => decide (j < i)
def geD : WS → D → D → Option D := cmpD fun i j => decide (j ≤ i)
theorem ro_lt : RO K (rI0 fun i j => .bl (decide (i < j))) ltD := ro_cmp
theorem ro_le : RO K (rI0 fun i j => .bl (decide (i ≤ j))) leD := ro_cmp
theorem ro_gt : RO K (rI0 fun i j => .bl (decide (j < i))) gtD := ro_cmp
theorem ro_ge : RO K (rI0 fun i j => .bl (decide (j ≤ i))) geD := ro_cmp
def negD : WS → D → Option D := fun _ x => match x with
  | .int i => some (.int (-i))
  | _ => none
theorem ru_neg : RU K (rU fun i => .int (-i)) negD := fun as F H S x d vx I rx h Q q => by
  unfold negD at h
  split at h
  · cases h
    cases rx
    exact ⟨_, rfl, keep I q (.int _)⟩
  · cases h
/-- plain data; a cell that is a list counts as the list that it is now -/
def pyS (S : WS) : D → Option PyData
  | .cell k => match S[k]? with
    | some (.lst ds) => (D.pyL ds).map PyData.list
    | _ => none
  | d => D.py d
theorem pyS_dp {as : List Addr} {F H : Hp} {S : WS} {d : D} {v : V} {p : PyData} (I : Sit K as F H S) (r : Rp K as F d v) (h : pyS S d = some p) : Dp K H v p := by
  cases r with
  | cell ha =>
    rename_i k a
    unfold pyS at h
    split at h
    · rename_i k' e
      cases e
      split at h
      · rename_i ds hS
        simp only [Option.map_eq_some_iff] at h
        obtain ⟨ps, h2, rfl⟩ := h
        obtain ⟨_, o, z2, z3⟩ := I.cell _ _ _ ha hS
        cases o with
        | lst xs => exact .lst (SqL.of z2) (RpL.dp I.ex z3 h2)
        | _ => exact z3.elim
      · cases h
    · rename_i hne
      exact absurd rfl (hne _)
  | non => exact Rp.dp (as := as) I.ex .non h
  | bl b => exact Rp.dp (as := as) I.ex (.bl b) h
  | int i => exact Rp.dp (as := as) I.ex (.int i) h
  | str x => exact Rp.dp (as := as) I.ex (.str x) h
  | ty n => exact Rp.dp (as := as) I.ex (.ty n) h
  | adr a => exact Rp.dp (as := as) I.ex (.adr a) h
  | scr z => exact Rp.dp (as := as) I.ex (.scr z) h
  | tup z1 z2 => exact Rp.dp I.ex (.tup z1 z2) h
  | lst z1 z2 => exact Rp.dp I.ex (.lst z1 z2) h
  | obj z1 z2 => exact Rp.dp I.ex (.obj z1 z2) h
  | dic z1 z2 => exact Rp.dp I.ex (.dic z1 z2) h
  | exv z1 z2 => cases h
def eqPyS (S : WS) (x y : D) : Option Bool := (pyS S x).bind fun a => (pyS S y).bind fun b => if SeqAt.shaped a = true ∧ SeqAt.shaped b = true then some (PyData.eqv a b) else none
theorem ro_eqPyS : RO K (rEqD K) (fun S x y => (eqPyS S x y).map D.bl) := fun as F H S x y d vx vy I rx ry h Q q => by
  unfold eqPyS at h
  simp only [Option.map_eq_some_iff, Option.bind_eq_some_iff] at h
  obtain ⟨c, ⟨a, h1, b, h2, h3⟩, rfl⟩ := h
  split at h3
  · rename_i hs
    cases h3
    exact ⟨a, b, pyS_dp I rx h1, pyS_dp I ry h2, hs.1, hs.2, keep I q (.bl _)⟩
  · cases h3
theorem ro_nePyS : RO K (rNeD K) (fun S x y => (eqPyS S x y).map fun c => D.bl (!c)) := fun as F H S x y d vx vy I rx ry h Q q => by
  unfold eqPyS at h
  simp only [Option.map_eq_some_iff, Option.bind_eq_some_iff] at h
  obtain ⟨c, ⟨a, h1, b, h2, h3⟩, rfl⟩ := h
  split at h3
  · rename_i hs
    cases h3
    exact ⟨a, b, pyS_dp I rx h1, pyS_dp I ry h2, hs.1, hs.2, keep I q (.bl _)⟩
  · cases h3
/-! lists of different lengths -/
def lstOf (S : WS) : D → Option (List D)
  | .lst ds => some ds
  | .cell k => match S[k]? with
    | some (.lst ds) => some ds
    | _ => none
  | _ => none
def eqLen (S : WS) (x y : D) : Option Bool := (lstOf S x).bind fun a => (lstOf S y).bind fun b => if a.length = b.length then none else some false
def rLenE (K : PySem.W.Frag) (neg : Bool) : R2 := fun x y H Q => ∃ a b xs ys, x = .ref a ∧ y = .ref b ∧ SqL K H a xs ∧ SqL K H b ys ∧ xs.length ≠ ys.length ∧ Q (.bl neg) H
theorem plainL_is {h : Heap} {a : Addr} {its : Array Value} (p : PlainL h a its) : h.IsList a its := by
  obtain ⟨o, n, ho, hc, _, hd⟩ := p
  exact ⟨o, ho, hc, n, hd⟩
theorem op_eqLen (hu : X.A.units < cLine) : OpR X (compareOp .Eq) (rLenE X.K false) := fun pins s σ H x y v u Q I rx ry h => by
  obtain ⟨a, b, xs, ys, rfl, rfl, h1, h2, hn, q⟩ := h
  cases rx
  cases ry
  obtain ⟨is, r1, p1, _⟩ := I.list h1
  obtain ⟨js, r2, p2, _⟩ := I.list h2
  have e1 := r1.length
  have e2 := r2.length
  exact SeqAt.eq_list_lengthsAt (plainL_is p1) (plainL_is p2) (by simp only [List.size_toArray, bne_iff_ne]; omega) hu ⟨.bl _, H, I, rfl, q⟩
theorem op_neLen (hu : X.A.units < cLine) : OpR X (compareOp .NotEq) (rLenE X.K true) := fun pins s σ H x y v u Q I rx ry h => by
  obtain ⟨a, b, xs, ys, rfl, rfl, h1, h2, hn, q⟩ := h
  cases rx
  cases ry
  obtain ⟨is, r1, p1, _⟩ := I.list h1
  obtain ⟨js, r2, p2, _⟩ := I.list h2
  have e1 := r1.length
  have e2 := r2.length
  exact SeqAt.RcNeAt.lists_lengths (plainL_is p1) (plainL_is p2) (by simp only [List.size_toArray, bne_iff_ne]; omega) hu X.prog X.w X.xe _ ⟨.bl _, H, I, rfl, q⟩
theorem items_l0 {as : List Addr} {F H : Hp} {S : WS} {x : D} {v : V} {ds : List D} (I : Sit K as F H S) (r : Rp K as F x v) (h : lstOf S x = some ds) : ∃ a xs, v = .ref a ∧ SqL K H a xs ∧ RpL K as F ds xs := by
  cases r with
  | lst z1 z2 => cases h; exact ⟨_, _, rfl, SqL.of (I.ex _ _ z1), z2⟩
  | @cell k a hk =>
    simp only [lstOf] at h
    split at h
    · rename_i es e
      cases h
      obtain ⟨p, hp, c⟩ := I.at_ e
      rw [hk] at hp
      cases hp
      obtain ⟨o, ho, hc⟩ := c.at_
      cases o with
      | lst xs => exact ⟨a, xs, rfl, SqL.of ho, RpL.mono (Ex.refl _) (fun i a h => by simp at h) hc⟩
      | _ => exact hc.elim
    · cases h
  | _ => cases h
theorem ro_len {neg : Bool} : RO K (rLenE K neg) (fun S x y => (eqLen S x y).map fun c => D.bl (if neg then !c else c)) := fun as F H S x y d vx vy I rx ry h Q q => by
  simp only [eqLen, Option.map_eq_some_iff, Option.bind_eq_some_iff] at h
  obtain ⟨c, ⟨da, h1, db, h2, h3⟩, rfl⟩ := h
  split at h3
  · cases h3
  · rename_i hn
    cases h3
    obtain ⟨a, xs, rfl, s1, r1⟩ := items_l0 I rx h1
    obtain ⟨b, ys, rfl, s2, r2⟩ := items_l0 I ry h2
    refine ⟨a, b, xs, ys, rfl, rfl, s1, s2, by rw [← r1.length, ← r2.length]; exact hn, ?_⟩
    cases neg
    · exact keep I q (.bl _)
    · exact keep I q (.bl _)
/-- texts, numbers, bools; else plain data; else lists of different lengths -/
def eqAny (S : WS) (x y : D) : Option Bool := (eqScal x y).orElse fun _ => (eqPyS S x y).orElse fun _ => eqLen S x y
def eqD : WS → D → D → Option D := fun S x y => (eqAny S x y).map D.bl
def neD : WS → D → D → Option D := fun S x y => (eqAny S x y).map fun c => D.bl (!c)
def rEqA (K : PySem.W.Frag) : R2 := fun x y H Q => rEq x y H Q ∨ (rEqD K x y H Q ∨ rLenE K false x y H Q)
def rNeA (K : PySem.W.Frag) : R2 := fun x y H Q => rNe x y H Q ∨ (rNeD K x y H Q ∨ rLenE K true x y H Q)
theorem ro_eqA : RO K (rEqA K) eqD := RO.eq (RO.or ro_eqS (RO.or ro_eqPyS (ro_len (neg := false)))) fun S x y d h => by
  unfold eqD eqAny at h
  cases h1 : eqScal x y with
  | none =>
    cases h2 : eqPyS S x y with
    | none => simpa [h1, h2] using h
    | some c => simpa [h1, h2] using h
  | some c => simpa [h1] using h
theorem ro_neA : RO K (rNeA K) neD := RO.eq (RO.or ro_neS (RO.or ro_nePyS (ro_len (neg := true)))) fun S x y d h => by
  unfold neD eqAny at h
  cases h1 : eqScal x y with
  | none =>
    cases h2 : eqPyS S x y with
    | none => simpa [h1, h2] using h
    | some c => simpa [h1, h2] using h
  | some c => simpa [h1] using h
theorem op_eqA {j : Nat} (hr : Room j X.A) : OpR X (compareOp .Eq) (rEqA X.K) := OpR.or op_eq (OpR.or (op_eqD hr.units) (op_eqLen (by have := hr.units; omega)))
theorem op_neA {j : Nat} (hr : Room j X.A) : OpR X (compareOp .NotEq) (rNeA X.K) := OpR.or op_ne (OpR.or (op_neD hr.units) (op_neLen (by have := hr.units; omega)))
theorem RSl.or {r r' : V → Option Int → Option Int → Hp → VK → Prop} {f g : WS → D → Option Int → Option Int → Option D} (h : RSl K r f) (h' : RSl K r' g) : RSl K (fun x lo hi H Q => r x lo hi H Q ∨ r' x lo hi H Q) (fun S x lo hi => (f S x lo hi).orElse fun _ => g S x lo hi) := fun as F H S x d vx lo hi I rx e Q q => by
  replace e : ((f S x lo hi).orElse fun _ => g S x lo hi) = some d := e
  cases h1 : f S x lo hi with
  | some z =>
    rw [h1] at e
    have e' : z = d := by simpa using e
    subst e'
    exact .inl (h as F H S x z vx lo hi I rx h1 Q q)
  | none =>
    rw [h1] at e
    exact .inr (h' as F H S x d vx lo hi I rx (by simpa using e) Q q)
def slD : WS → D → Option Int → Option Int → Option D := fun _ x lo hi => match x with
  | .str z => if small z.length = true then some (.str (cutS z lo hi)) else none
  | .lst ds => some (.lst (cutD ds lo hi))
  | _ => none
def rSlA (K : PySem.W.Frag) : V → Option Int → Option Int → Hp → VK → Prop := fun x lo hi H Q => rSlS x lo hi H Q ∨ rSlL K x lo hi H Q
theorem sl_A : SlR X (rSlA X.K) := SlR.or sl_str sl_list
theorem rsl_A : RSl K (rSlA K) slD := fun as F H S x d vx lo hi I rx h => (RSl.or rsl_str rsl_lst) as F H S x d vx lo hi I rx (by
  unfold slD at h
  split at h
  · simp only [slS, Option.orElse] at h ⊢
    rw [h]
  · simpa [slS, slL] using h
  · cases h)
end
end RV
end
section
/-! append, tuple(..), list(..), enumerate. -/
namespace RV
open PySem L2
section
variable {K : PySem.W.Frag} {X : Cx} {W : WX} {o e : Expr} {pos apos cpos : Pos} {eo ee ea : Env → M}
/-- what is never come to -/
def eNever : Env → M := fun _ _ _ _ => False
theorem ge_never {e : Expr} : GE X W e eNever := ⟨fun _ _ _ => False, ⟨fun _ _ _ _ _ _ h => h.elim⟩, fun _ _ _ _ _ _ _ _ _ _ e => e.elim⟩
def tupleD : WS → List D → Option D := fun S xs => match xs with
  | [.tup ds] => some (.tup ds)
  | [x] => (itemsD S x).map D.tup
  | _ => none
theorem items_l {as : List Addr} {F H : Hp} {S : WS} {x : D} {v : V} {ds : List D} (I : Sit K as F H S) (r : Rp K as F x v) (h : itemsD S x = some ds) (hn : ∀ ys, x ≠ .tup ys) : ∃ a xs, v = .ref a ∧ SqL K H a xs ∧ RpL K as F ds xs := by
  cases x with
  | lst ds' =>
    cases h
    cases r with
    | lst h1 r1 => exact ⟨_, _, rfl, SqL.of (I.ex _ _ h1), r1⟩
  | tup ds' => exact absurd rfl (hn _)
  | scr ns =>
    cases h
    cases r with
    | scr h1 => exact ⟨_, _, rfl, I.ex.sqL h1, rpl_ints ns⟩
  | cell k =>
    unfold itemsD at h
    cases hS : S[k]? with
    | none => simp [hS] at h
    | some c =>
      cases c with
      | lst es =>
        simp only [hS] at h
        cases h
        cases r with
        | cell ha =>
          obtain ⟨z1, ob, z2, z3⟩ := I.cell k _ _ ha hS
          cases ob with
          | lst xs => exact ⟨_, _, rfl, SqL.of z2, RpL.mono (Ex.refl _) pre_nil z3⟩
          | _ => exact z3.elim
      | _ => simp [hS] at h
  | _ => cases h
/-- a kept list of a cell's items, a tuple of a list's -/
theorem rc_tuple : RC K (fun xs H Q => ∃ p ys, xs = [.ref p] ∧ ((SqL K H p ys ∧ ∀ l, H l = none → Q (.ref l) (upd H l (.tup ys))) ∨ (SqT K H p ys ∧ Q (.ref p) H))) tupleD := fun as F H S ds d vs I r h Q q => by
  unfold tupleD at h
  split at h
  · cases h
    obtain ⟨v, ws, rfl, rv, rn⟩ := r.unsn
    obtain rfl := rn.unnil
    cases rv with
    | tup h1 r1 => exact ⟨_, _, rfl, .inr ⟨I.ex.sqT h1, q F H _ (Grow.refl I) (.tup h1 r1)⟩⟩
  · rename_i x hx
    obtain ⟨v, ws, rfl, rv, rn⟩ := r.unsn
    obtain rfl := rn.unnil
    simp only [Option.map_eq_some_iff] at h
    obtain ⟨es, h1, rfl⟩ := h
    obtain ⟨a, xs, rfl, sq, re⟩ := items_l I rv h1 fun ys e => hx ys e
    refine ⟨a, xs, rfl, .inl ⟨sq, fun l hl => ?_⟩⟩
    have g := I.grow (o := .tup xs) hl
    exact q _ _ _ g (.tup (SqT.of upd_same) (re.mono g.ex g.pre))
  · cases h
/-! ### append -/
/-- the cell's list -/
def onL (S : WS) (k : Nat) (f : List D → Prop) : Prop := onS S[k]? fun c => onLst c f
theorem onL_ok {S : WS} {k : Nat} {f : List D → Prop} (h : onL S k f) : ∃ ds, S[k]? = some (.lst ds) ∧ f ds := by
  obtain ⟨c, h1, h2⟩ := onS_ok h
  obtain ⟨ds, rfl, h2⟩ := onLst_ok h2
  exact ⟨ds, h1, h2⟩
def sAppend (eo ee : Env → M) : Env → MS := fun ρ S k => eo ρ S (fun o S1 => onCe o fun i => onL S1 i fun _ => ee ρ S1 (fun d S2 => onL S2 i fun ds => (D.clean 0 d = true ∧ small ds.length = true) ∧ k.nx ρ (S2.set i (.lst (ds ++ [d])))) fun e S' => k.ex e ρ S') fun e S' => k.ex e ρ S'
theorem tyV_lst {H : Hp} {p : Addr} {xs : List V} (h : H p = some (.lst xs)) : tyV K "list" (.ref p) H := .inl ⟨rfl, xs, SqL.of h⟩
theorem gs_append (ho : GE X W o eo) (he : GE X W e ee) (hs0 : swapsWith (.Call (.Attribute o "append" apos) [e] [] cpos) none pos.line X.env = pure false := by rfl) (hbase : attributeBase o "append" X.env (eval o X.env) = eval o X.env := by rfl)
    (hfew : ((backTo cpos (starEach [e] X.env)).all (fun x => !x.1) && (backToKw cpos (keywordEach [] X.env)).all (fun x => x.1.isSome)
      && decide (([e] : List Expr).length + ([] : List Keyword).length + (if ([] : List Keyword).isEmpty then 0 else 1) < 30)) = true := by rfl)
    (hline : (apos.endLine == cpos.line) = true := by rfl) (hs : starEach [e] X.env = (false, eval e X.env) :: starEach [] X.env := by rfl) (hplain : (backTo cpos (starEach [] X.env)).any (·.1) = false := by rfl) :
    GS X W (.Expr (.Call (.Attribute o "append" apos) [e] [] cpos) pos) (sAppend eo ee) := by
  obtain ⟨to, po, mo⟩ := ho
  obtain ⟨te, pe, me⟩ := he
  refine ⟨_, ps_expr (pe_bm PySem.F.plainAttrs_list PySem.F.slot_list_append PySem.F.type_list_append mt_append po (pa_cons pe pa_nil hs) hbase hfew hline hs hplain) hs0, fun as F H S ρ σ I R k h E q => ?_⟩
  refine mo as F H S ρ σ I R _ _ h _ (fun d1 S1 bs F1 H1 v1 h1 g1 r1 => ?_) (q.xq R)
  cases r1 with
  | cell ha =>
    obtain ⟨ds0, hS0, h1⟩ := onL_ok h1
    obtain ⟨_, o0, z0, z1⟩ := g1.sit.cell _ _ _ ha hS0
    cases o0 with
    | lst xs0 =>
      refine ⟨tyV_lst z0, ?_⟩
      refine me bs F1 H1 S1 ρ σ g1.sit (R.grow g1) _ _ h1 _ (fun d2 S2 cs F2 H2 v2 h2 g2 r2 => ?_) ((q.step g1).xq (R.grow g1))
      obtain ⟨ds, hS, hc, h2⟩ := onL_ok h2
      have ha2 := g2.pre _ _ ha
      obtain ⟨_, o2, y0, y1⟩ := g2.sit.cell _ _ _ ha2 hS
      cases o2 with
      | lst xs =>
        have hl : xs.length < sizeLine := by
          have e1 : ds.length = xs.length := RpL.length y1
          have e2 : ds.length ≤ 100000 := of_decide_eq_true hc.2
          have e3 : (100000 : Nat) < sizeLine := by decide
          omega
        refine ⟨_, xs, v2, rfl, rfl, y0, hl, ?_⟩
        have r2' : Rp X.K [] F2 d2 v2 := r2.back (fun k a hk => by omega) hc.1
        have g3 := g2.sit.put (c' := .lst (ds ++ [d2])) (o := .lst (xs ++ [v2])) ha2 hS rfl rfl (RpL.append y1 (.cons r2' .nil))
        have g := (g1.trans g2).trans g3
        exact q.nx ρ _ cs F2 _ σ h2 g (R.grow g)
      | _ => exact y1.elim
    | _ => exact z1.elim
  | _ => exact h1.elim
end
theorem enum_new1 {z : Value} {ob : Obj} {HP : Heap → Prop} (bg : PySem.Begins z ob HP) :
    Meets (Builtin.«enumerate.__new__» ⟨[.type "enumerate", z], []⟩) (fun _ R st => HP st.heap ∧
      R (.ok (.ret (.ref (st.heap.push ob).objs.size))) { st with heap := (st.heap.push ob).push { cls := .type "enumerate", data := .fields #[.none, .bool false, .ref st.heap.objs.size, rawInt 0, .none, .none] } }) :=
  .of_wp fun prog w A R st hh => by
    obtain ⟨hp, gs, dr, tks, oss⟩ := st
    obtain ⟨hz, hh⟩ := hh
    have subE := sub_enumerate
    have itz : ∀ {A2 : Around} {E2 : Value → Shared → Prop} {Q2 : Value → Shared → Prop}, Q2 (.ref hp.objs.size) ⟨hp.push ob, gs, dr, tks, oss⟩ → wpAny (model prog w) A2 (pyIter z) Q2 E2 ⟨hp, gs, dr, tks, oss⟩ :=
      fun q => bg.iter prog w _ _ ⟨hp, gs, dr, tks, oss⟩ _ hz q
    wp_walk using itz
    refine wpAny_stack_any fun stk => wpAny_pure ?_
    split
    · rename_i cc _ _ _ _ _
      cases (cc == Value.type "enumerate")
      · wp_walk using itz
        exact ⟨_, rfl, hh⟩
      · wp_walk using itz
        exact ⟨_, rfl, hh⟩
    · wp_walk using itz
      exact ⟨_, rfl, hh⟩

theorem call_enumT {sh : Shared} {P : Program} {w : World} {A : Around} {E : Value → Shared → Prop} {t : Addr} {its : Array Value} {Q : Value → Shared → Prop} (ht : sh.heap.IsTuple t its)
    (k : ∀ h2, IsEnum h2 (sh.heap.objs.size + 1) sh.heap.objs.size 0 .none → h2.IsTupleIter sh.heap.objs.size t 0 → h2.objs.size = sh.heap.objs.size + 2 → (∀ b u, sh.heap.get? b = some u → h2.get? b = some u) → Q (.ref (sh.heap.objs.size + 1)) { sh with heap := h2 }) :
    wpAny (model P w) A (call (.type "enumerate") [.ref t]) Q E sh := by
  have bg := PySem.begins_tuple t its
  refine callType_new PySem.F.called_enumerate (by decide) (PySem.F.typeCall_enumerate_1 _) (PySem.F.newCall_enumerate_1 _) (fun ob => PySem.F.args_object_init_2 ob _) PySem.F.entry_enumerate_new (enum_new1 bg) ⟨ht, ?_⟩
  have sz : (sh.heap.push { cls := .type "tuple_iterator", data := .fields #[.ref t, .int 0 0] }).objs.size = sh.heap.objs.size + 1 := Heap.size_push ..
  show _ ∧ _
  rw [sz]
  have en : IsEnum ((sh.heap.push { cls := .type "tuple_iterator", data := .fields #[.ref t, .int 0 0] }).push
      { cls := .type "enumerate", data := .fields #[.none, .bool false, .ref sh.heap.objs.size, rawInt 0, .none, .none] }) (sh.heap.objs.size + 1) sh.heap.objs.size 0 .none := by
    have q := Heap.get?_push_size (sh.heap.push { cls := .type "tuple_iterator", data := .fields #[.ref t, .int 0 0] })
      (o := { cls := .type "enumerate", data := .fields #[.none, .bool false, .ref sh.heap.objs.size, rawInt 0, .none, .none] }) rfl
    rw [sz] at q
    exact q
  exact ⟨⟨_, en, rfl⟩, k _ en ⟨_, Heap.get?_push_of_some _ (Heap.get?_push_size _ rfl), rfl, rfl⟩ (by rw [Heap.size_push, sz]) fun b u q => Heap.get?_push_of_some _ (Heap.get?_push_of_some _ q)⟩
/-- the tuple at a, each item in a new pair -/
def IteT (K : PySem.W.Frag) (a : Addr) : It :=
  ⟨fun i H => ∃ (ys : List V) (y : V), SqT K H a ys ∧ ys[i]? = some y, fun i H v H2 => ∃ B y, v = .ref B ∧ H B = none ∧ H2 = upd H B (.tup [.int (i : Nat), y]) ∧ ∀ ys, SqT K H a ys → ys[i]? = some y, fun i H => ∃ ys : List V, SqT K H a ys ∧ ys.length ≤ i⟩
theorem turn_enumT {P : Program} {w : World} {K : PySem.W.Frag} {tgs : List Expr} {kt : Nat} {tp : Pos} (a en it : Addr) :
    Turn P w K (.Tuple tgs kt tp) (IteT K a) [en, it] en (fun i h => (∃ pv, IsEnum h en it ((i : Nat) : Int) pv) ∧ h.IsTupleIter it a i ∧ en ≠ it) where
  mem := by simp
  obj := fun i h st b hb => by
    obtain ⟨⟨pv, he⟩, ⟨ob, ho, hc, hd⟩, _⟩ := st
    have bb : b = en ∨ b = it := by simpa using hb
    rcases bb with z | z
    · subst z
      exact ⟨_, he, fun v q => nomatch q⟩
    · subst z
      exact ⟨ob, ho, fun v q => by rw [hd] at q; cases q⟩
  keep := fun i h h2 st kp => by
    obtain ⟨⟨pv, he⟩, hi, hne⟩ := st
    exact ⟨⟨pv, kp en (by simp) _ he⟩, hi.at fun ob q => kp it (by simp) ob q, hne⟩
  item := by
    intro X hP hw hK hc i pins s σ H E I hf st hg
    subst hP hw hK
    obtain ⟨⟨pv, he⟩, hit, hne⟩ := st
    obtain ⟨ys, y, hq, hy⟩ := hg
    obtain ⟨its, rv, tp', hz⟩ := I.tuple hq
    obtain ⟨u, hu, ru⟩ := rv.get hy
    have tup : s.heap.IsTuple a its.toArray := tp'
    have enl : en < s.heap.objs.size := Heap.lt_size he
    have itl : it < s.heap.objs.size := by
      obtain ⟨_, q, _⟩ := hit
      exact Heap.lt_size q
    have ne1 : a ≠ it := fun z => by
      obtain ⟨o1, q1, c1, _⟩ := hit
      obtain ⟨o2, q2, c2, _⟩ := tup
      rw [z, q1] at q2
      cases q2
      rw [c1] at c2
      simp at c2
    have ne2 : en ≠ a := fun z => by
      obtain ⟨o2, q2, c2, _⟩ := tup
      rw [← z] at q2
      rw [show s.heap.get? en = some _ from he] at q2
      cases q2
      simp at c2
    have dr := PySem.Draws.tuple (prog := X.prog) (w := X.w) (A := X.A.in1) (I.ok.hd hc) it a ne1 its.toArray
    have hlt : i < its.toArray.size := by
      have := (List.getElem?_eq_some_iff.mp hu).1
      simpa using this
    refine PySem.wpAny_pyNext_enum_itemD dr he ⟨hit, tup⟩ hlt hne (by simp; exact ⟨hne, ne2⟩) fun x h2 tk px ho st2 hT hsz hk => ?_
    have ex : x = u := by
      have e1 : its.toArray[i]? = some u := by simpa using hu
      rw [show its.toArray[i]? = some x from px] at e1
      exact Option.some.inj e1
    subst ex
    refine ⟨_, rfl, wpAny_letOwnedTupleGo_enum (s := { s with heap := h2, toks := tk + 1 }) ho fun h3 he3 sb => ?_⟩
    have hT3 : h3.get? s.heap.objs.size = some { cls := .type "tuple", data := .seq #[.int i tk, x] } := (sb.2 _ (Nat.ne_of_gt enl)).trans hT
    have nw : ObjOk X.prog X.w (upd H s.heap.objs.size (.tup [.int (i : Nat), y])) h3 s.heap.objs.size (.tup [.int (i : Nat), y]) :=
      ⟨by show 2 ≤ sizeLine; decide, [.int i tk, x], .cons ⟨_, rfl⟩ (.cons ru .nil), ⟨_, hT3, rfl, _, rfl⟩⟩
    have I2 : Inv X pins σ (upd H s.heap.objs.size (.tup [.int (i : Nat), y])) { s with heap := h3, toks := tk + 1 } :=
      I.turnedNew (ch := [en, it]) (fun b ob hb q => (sb.2 b (fun z => hb (by simp [z]))).trans (hk b ob (fun z => hb (by simp [z])) (fun z => hb (by simp [z])) q)) hf (Nat.le_refl _) nw
    refine ⟨.ref s.heap.objs.size, _, I2, rfl, ⟨_, y, rfl, I.hok.fresh (Nat.le_refl _), rfl, fun zs hz2 => by rw [I.tuple_inj hz2 hq]; exact hy⟩, ⟨⟨x, ?_⟩, st2.1.at fun ob q => (sb.2 it (Ne.symm hne)).trans q, hne⟩, fun b hb => ?_⟩
    · have e1 : ((i + 1 : Nat) : Int) = (i : Int) + 1 := by omega
      rw [e1]
      exact he3
    · have bb : b = en ∨ b = it := by simpa using hb
      have bl : b < s.heap.objs.size := by
        rcases bb with z | z
        · rw [z]; exact enl
        · rw [z]; exact itl
      rw [upd_ne (Nat.ne_of_lt bl)]
      exact (hf b hb).1
  done := by
    intro X hP hw hK hc i pins s σ H E I hf st hg
    subst hP hw hK
    obtain ⟨⟨pv, he⟩, hit, hne⟩ := st
    obtain ⟨ys, hq, hy⟩ := hg
    obtain ⟨its, rv, tp', hz⟩ := I.tuple hq
    have tup : s.heap.IsTuple a its.toArray := tp'
    have ne1 : a ≠ it := fun z => by
      obtain ⟨o1, q1, c1, _⟩ := hit
      obtain ⟨o2, q2, c2, _⟩ := tup
      rw [z, q1] at q2
      cases q2
      rw [c1] at c2
      simp at c2
    obtain ⟨f0, f1, f2, f3, f4, f5⟩ := hf it (by simp)
    have none_i : its.toArray[i]? = none := by
      have := rv.length
      simp
      omega
    have hd : X.A.in1.handled = none := I.ok.hd hc
    have dr : PySem.Draws X.prog X.w X.A.in1 it [it, a] i (fun _ _ => False) (fun j h => j = i ∧ h.IsTupleIter it a i ∧ h.IsTuple a its.toArray) :=
      { live := fun _ _ st2 => by
          obtain ⟨ob, q, _⟩ := st2.2.1
          exact ⟨ob, q⟩
        frame := fun _ _ _ st2 kp => ⟨st2.1, st2.2.1.at fun ob q => kp it (by simp) ob q, st2.2.2.at fun ob q => kp a (by simp) ob q⟩
        item := fun j s2 Q2 E2 hj st2 _ => by
          have := st2.1
          omega
        done := fun s2 Q2 E2 st2 kE => PySem.wpAny_nextOf_tuple_end hd st2.2.1 st2.2.2 none_i kE }
    exact PySem.wpAny_pyNext_enum_endD dr he ⟨rfl, hit, tup⟩ fun h2 eb => ⟨rfl, I.turned (t' := s.toks) (fun b ob hb q => eb b ob hb q) f0 f1 f3 f4 f5⟩
  self := fun A i s Q E st h => by
    obtain ⟨⟨_, he⟩, _⟩ := st
    exact wpAny_pyIter_enum he h
def iEnT (K : PySem.W.Frag) (ta : TA) : TI := fun σ H R => ta σ H fun vs H1 => ∃ a ys, vs = [.ref a] ∧ SqT K H1 a ys ∧ R (IteT K a) H1
section
variable {X : Cx} {W : WX} {e : Expr} {p pos tpos : Pos} {elts : List Expr} {kk : Nat}
theorem pi_enumT {ta : TA} (gl : Gl X "enumerate") (nm : X.mg "enumerate" = none) (ha : PA X [e] ta) (st : starEach [e] X.env = [(false, eval e X.env)] := by rfl) :
    PI X (.Tuple elts kk tpos) (.Call (.Name "enumerate" p) [e] [] pos) (iEnT X.K ta) := by
  refine ⟨fun pins s σ H R I h => ?_⟩
  refine PyProof.Rows.Call_ (ld_blt I gl nm PyProof.Rows.boot_enumerate (PyProof.Rows.callWith_type1 (thn (ha.run pos pins s σ H _ I h) fun us s1 ⟨vs, H1, I1, r1, q1⟩ => ?_) st rfl))
  obtain ⟨a, ys, rfl, hq, q⟩ := q1
  cases r1 with
  | cons r rr =>
    cases rr
    cases r
    obtain ⟨its, rv, tp, hz⟩ := I1.tuple hq
    refine call_enumT (show s1.heap.IsTuple a its.toArray from tp) fun h2 en itr hsz kp => wpAny_pyIter_enum en ?_
    have I2 : Inv X pins σ H1 { s1 with heap := h2 } := I1.kept (t' := s1.toks) kp
    refine ⟨s1.heap.objs.size + 1, [s1.heap.objs.size + 1, s1.heap.objs.size], _, _, H1, rfl, I2, turn_enumT a (s1.heap.objs.size + 1) s1.heap.objs.size, ⟨⟨.none, en⟩, itr, Nat.succ_ne_self _⟩, fun b hb => ?_, q⟩
    have bb : b = s1.heap.objs.size + 1 ∨ b = s1.heap.objs.size := by simpa using hb
    have ble : s1.heap.objs.size ≤ b := by
      rcases bb with z | z
      · rw [z]
        exact Nat.le_add_right _ _
      · rw [z]
        exact Nat.le_refl _
    exact I1.fpOk ble (I1.hok.fresh ble)
def enumL (i : Nat) : List D → List D
  | [] => []
  | d :: ds => .tup [.int (i : Int), d] :: enumL (i + 1) ds
theorem enumL_len : ∀ (ds : List D) (i : Nat), (enumL i ds).length = ds.length
  | [], _ => rfl
  | _ :: ds, i => congrArg Nat.succ (enumL_len ds (i + 1))
theorem enumL_at : ∀ (ds : List D) (i j : Nat), (enumL i ds)[j]? = (ds[j]?).map fun d => D.tup [.int ((i + j : Nat) : Int), d]
  | [], _, _ => by simp [enumL]
  | d :: ds, i, 0 => by simp [enumL]
  | d :: ds, i, j + 1 => by
    simp only [enumL, List.getElem?_cons_succ]
    rw [enumL_at ds (i + 1) j]
    have : i + 1 + j = i + (j + 1) := by omega
    rw [this]
def iEnumT (er : Env → ML) : Env → MW := fun ρ S q x => er ρ S (fun ds S1 => on1 ds fun d => onTu d fun ds => q (enumL 0 ds) any_ S1) x
theorem gi_enumT {er : Env → ML} (nm : X.mg "enumerate" = none) (ha : GA X W [e] er) (gl : Gl X "enumerate" := by rfl) (st : starEach [e] X.env = [(false, eval e X.env)] := by rfl) :
    GI X W (.Tuple elts kk tpos) (.Call (.Name "enumerate" p) [e] [] pos) (iEnumT er) := by
  obtain ⟨t, p, m⟩ := ha
  refine ⟨_, pi_enumT gl nm p st, fun as F H S ρ σ I R q x e Q hq hx => ?_⟩
  refine m as F H S ρ σ I R _ x e _ (fun ds S1 bs F1 H1 vs h1 g r => ?_) hx
  obtain ⟨y, rfl, h1⟩ := on1_ok h1
  obtain ⟨ds', rfl, h1⟩ := onTu_ok h1
  · obtain ⟨v, ws, rfl, rv, rn⟩ := r.unsn
    obtain rfl := rn.unnil
    cases rv with
    | tup hp rl =>
      rename_i a xs
      refine ⟨a, xs, rfl, g.sit.ex.sqT hp, hq _ _ S1 bs F1 H1 _ h1 g ⟨fun bs F2 H2 S2 I2 x2 p2 _ => ?_, fun i hi bs F2 H2 S2 I2 x2 p2 _ => ?_, fun i d hd bs F2 H2 S2 I2 x2 p2 _ x H' y => ?_⟩⟩
      · have hq : SqT X.K H2 a xs := I2.ex.sqT (x2.sqT hp)
        refine ⟨xs, hq, ?_⟩
        rw [enumL_len, rl.length]
        exact Nat.le_refl _
      · have hq : SqT X.K H2 a xs := I2.ex.sqT (x2.sqT hp)
        rw [enumL_len, rl.length] at hi
        exact ⟨xs, xs[i], hq, List.getElem?_eq_getElem hi⟩
      · have hq : SqT X.K H2 a xs := I2.ex.sqT (x2.sqT hp)
        obtain ⟨B, yv, rfl, hB, rfl, hy⟩ := y
        rw [enumL_at] at hd
        simp only [Option.map_eq_some_iff] at hd
        obtain ⟨d', hd', rfl⟩ := hd
        obtain ⟨v, hv, rv⟩ := rl.get hd'
        have := hy xs hq
        rw [hv] at this
        cases this
        have g2 := I2.grow (o := .tup [.int (i : Nat), yv]) hB
        refine ⟨_, g2, .tup (SqT.of upd_same) (.cons ?_ (.cons ((rv.mono x2 p2).mono g2.ex g2.pre) .nil))⟩
        rw [Nat.zero_add]
        exact .int _
end
end RV
end
section
/-! Methods of texts, f-strings, starred arguments. -/
namespace RV
open PySem L2
section
variable {K : PySem.W.Frag} {X : Cx} {W : WX} {o e a b : Expr} {es : List Expr} {pos apos : Pos} {eo ee ea eb : Env → M} {er : Env → ML}
/-! ### o.m(e), o a text -/
def RM (K : PySem.W.Frag) (r : V → List V → Hp → VK → Prop) (f : WS → D → D → Option D) : Prop := ∀ (as : List Addr) (F H : Hp) (S : WS) (x : Str) (y d : D) (vy : V), Sit K as F H S → Rp K as F y vy → f S (.str x) y = some d →
  ∀ Q : VK, (∀ F' H' v, Grow K as F H as F' H' S → Rp K as F' d v → Q v H') → r (.str x) [vy] H Q
def onStr (f : WS → Str → D → Option D) : WS → D → D → Option D := fun S x y => match x with
  | .str z => f S z y
  | _ => none
/-- o.m(e), o a text: looked at first -/
def eOpT (f : WS → D → D → Option D) (ea eb : Env → M) : Env → M := fun ρ S q x => ea ρ S (fun u S1 => onT u fun z => eb ρ S1 (fun v S2 => onS (f S2 (.str z) v) fun d => q d S2) x) x
theorem me_m1 {r : V → List V → Hp → VK → Prop} {f : WS → Str → D → Option D} {to te : TE} (hr : RM K r (onStr f)) (ho : ME K W to eo) (he : ME K W te ee) : ME K W (tM1 r to te) (eOpT (onStr f) eo ee) := fun as F H S ρ σ I R q x h Q hq hx => by
  refine ho as F H S ρ σ I R _ x h _ (fun u S1 bs F1 H1 v h1 g r1 => ?_) hx
  cases r1 with
  | str z =>
    refine ⟨⟨z, rfl⟩, ?_⟩
    refine he bs F1 H1 S1 ρ σ g.sit (R.grow g) _ x h1 _ (fun y S2 cs F2 H2 w h2 g2 r2 => ?_) (hx.step g)
    obtain ⟨d, h3, h4⟩ := onS_ok h2
    exact hr cs F2 H2 S2 z y d w g2.sit r2 h3 Q fun F3 H3 u g3 r3 => hq d S2 cs F3 H3 u h4 ((g.trans g2).trans g3) r3
  | _ => exact h1.elim
def splitD : WS → D → D → Option D := onStr fun _ z y => match y with
  | .str s => if s.length ≠ 0 ∧ small z.length = true then some (.lst ((Txt.split z s).map D.str)) else none
  | _ => none
theorem rpl_strs {as : List Addr} {F : Hp} : ∀ ys : List Str, RpL K as F (ys.map D.str) (ys.map V.str)
  | [] => .nil
  | y :: ys => .cons (.str y) (rpl_strs ys)
theorem small_two {n : Nat} (h : small n = true) : n + 2 ≤ sizeLine := by
  have h1 : n ≤ 100000 := of_decide_eq_true h
  have h2 : (100002 : Nat) ≤ sizeLine := by decide
  omega
theorem ge_split (ho : GE X W o eo) (he : GE X W e ee) (hs : starEach [e] X.env = [(false, eval e X.env)] := by rfl) (hbase : attributeBase o "split" X.env (eval o X.env) = eval o X.env := by rfl) (hline : (apos.endLine == pos.line) = true := by rfl) :
    GE X W (.Call (.Attribute o "split" apos) [e] [] pos) (eOpT splitD eo ee) := by
  obtain ⟨to, po, mo⟩ := ho
  obtain ⟨te, pe, me⟩ := he
  refine ⟨_, pe_split po pe hs hbase hline, me_m1 (fun as F H S x y d vy I r h Q q => ?_) mo me⟩
  simp only [onStr] at h
  split at h
  · rename_i s
    split at h
    · rename_i hc
      cases h
      cases r
      refine ⟨x, s, rfl, rfl, by simpa using hc.1, small_two hc.2, fun p hp => ?_⟩
      have g := I.grow (o := .lst ((Txt.split x s).map V.str)) hp
      exact q _ _ _ g (.lst upd_same (rpl_strs _))
    · cases h
  · cases h
def strsD : List D → Option (List Str)
  | [] => some []
  | .str s :: r => (strsD r).map fun t => s :: t
  | _ => none
theorem strsD_ok : ∀ {ds : List D} {ys : List Str}, strsD ds = some ys → ds = ys.map D.str
  | [], ys, h => by
    cases h
    rfl
  | .str s :: r, ys, h => by
    simp only [strsD, Option.map_eq_some_iff] at h
    obtain ⟨t, h1, rfl⟩ := h
    rw [strsD_ok h1]
    rfl
  | .non :: r, ys, h => by cases h
  | .bl _ :: r, ys, h => by cases h
  | .int _ :: r, ys, h => by cases h
  | .ty _ :: r, ys, h => by cases h
  | .adr _ :: r, ys, h => by cases h
  | .cell _ :: r, ys, h => by cases h
  | .scr _ :: r, ys, h => by cases h
  | .tup _ :: r, ys, h => by cases h
  | .lst _ :: r, ys, h => by cases h
  | .obj _ _ :: r, ys, h => by cases h
  | .dic _ :: r, ys, h => by cases h
  | .exc _ _ :: r, ys, h => by cases h
  | .exv _ _ _ _ :: r, ys, h => by cases h
theorem rpl_strs_v {as : List Addr} {F : Hp} : ∀ {ys : List Str} {xs : List V}, RpL K as F (ys.map D.str) xs → xs = ys.map V.str
  | [], _, .nil => rfl
  | y :: ys, _, .cons r t => by
    cases r
    rw [rpl_strs_v t]
    rfl
def joinD : WS → D → D → Option D := onStr fun S z y => (itemsD S y).bind fun ds => (strsD ds).bind fun ys => if (ys.map (·.length)).sum + ys.length * z.length ≤ 100000 then some (.str (Txt.join z ys)) else none
theorem ge_join (ho : GE X W o eo) (he : GE X W e ee) (hs : starEach [e] X.env = [(false, eval e X.env)] := by rfl) (hbase : attributeBase o "join" X.env (eval o X.env) = eval o X.env := by rfl) (hline : (apos.endLine == pos.line) = true := by rfl) :
    GE X W (.Call (.Attribute o "join" apos) [e] [] pos) (eOpT joinD eo ee) := by
  obtain ⟨to, po, mo⟩ := ho
  obtain ⟨te, pe, me⟩ := he
  refine ⟨_, pe_join po pe hs hbase hline, me_m1 (fun as F H S x y d vy I r h Q q => ?_) mo me⟩
  simp only [onStr, Option.bind_eq_some_iff] at h
  obtain ⟨ds, h1, ys, h2, h3⟩ := h
  split at h3
  · rename_i hc
    cases h3
    obtain ⟨p, xs, rfl, sq, rl⟩ := items_v I r h1
    rw [strsD_ok h2] at rl
    have ex := rpl_strs_v rl
    subst ex
    exact ⟨x, p, ys, rfl, rfl, sq, by omega, keep I q (.str _)⟩
  · cases h3
/-! ### f-strings -/
def fmtD : WS → D → Option D := fun _ x => match x with
  | .str y => if small y.length = true then some (.str y) else none
  | .int i => if i.natAbs.log2 < 1920 then some (.str (toString i)) else none
  | _ => none
theorem ge_fmt (h : GE X W e ea) : GE X W (.FormattedValue e (-1) none pos) (eUn fmtD ea) := by
  obtain ⟨t, p, m⟩ := h
  refine ⟨_, pe_fmt p, fun as F H S ρ σ I R q x h Q hq hx => ?_⟩
  refine m as F H S ρ σ I R _ x h _ (fun u S1 bs F1 H1 v h1 g r => ?_) hx
  obtain ⟨d, h2, h3⟩ := onS_ok h1
  unfold fmtD at h2
  split at h2
  · split at h2
    · rename_i y hs
      cases h2
      cases r
      exact .inl ⟨y, rfl, small_le hs, hq _ S1 bs F1 H1 _ h3 g (.str y)⟩
    · cases h2
  · split at h2
    · rename_i i hs
      cases h2
      cases r
      exact .inr ⟨i, rfl, hs, hq _ S1 bs F1 H1 _ h3 g (.str _)⟩
    · cases h2
  · cases h2
abbrev MJ := Env → Str → WS → (Str → WS → Prop) → Xq → Prop
structure GJ (X : Cx) (W : WX) (es : List Expr) (m : MJ) : Prop where
  ex : ∃ ts, PJ X es ts ∧ ∀ (as : List Addr) (F H : Hp) (S : WS) (ρ : Env) (σ : L2.St) (acc : Str), Sit X.K as F H S → RpE X.K as F ρ σ → ∀ q x, m ρ acc S q x →
    ∀ Q : Str → Hp → Prop, (∀ out S' bs F' H', q out S' → Grow X.K as F H bs F' H' S' → Q out H') → XQ X.K as F H x (WE W σ) → tJs ts acc σ H Q
def jNil : MJ := fun _ acc S q _ => q acc S
def jCons (ea : Env → M) (jr : MJ) : MJ := fun ρ acc S q x => ea ρ S (fun d S1 => onT d fun y => small (acc.length + y.length) = true ∧ jr ρ (acc ++ y) S1 q x) x
theorem gj_nil : GJ X W [] jNil := ⟨[], .nil, fun as F H S ρ σ acc I R q x h Q hq _ => hq acc S as F H h (Grow.refl I)⟩
theorem gj_cons {jr : MJ} (h : GE X W e ea) (r : GJ X W es jr) : GJ X W (e :: es) (jCons ea jr) := by
  obtain ⟨t, p, m⟩ := h
  obtain ⟨ts, ps, ms⟩ := r
  refine ⟨t :: ts, .cons p ps, fun as F H S ρ σ acc I R q x h Q hq hx => ?_⟩
  refine m as F H S ρ σ I R _ x h _ (fun u S1 bs F1 H1 v h1 g r => ?_) hx
  cases r with
  | str y => exact ⟨y, rfl, by rw [strLen_append]; exact small_le h1.1, ms bs F1 H1 S1 ρ σ _ g.sit (R.grow g) q x h1.2 Q (fun out S' cs F' H' a g2 => hq out S' cs F' H' a (g.trans g2)) (hx.step g)⟩
  | _ => exact h1.elim
def eJoin (m : MJ) : Env → M := fun ρ S q x => m ρ Str.empty S (fun t S1 => q (.str t) S1) x
theorem ge_joined {v1 v2 : Expr} {rest : List Expr} {m : MJ} (h : GJ X W (v1 :: v2 :: rest) m) : GE X W (.JoinedStr (v1 :: v2 :: rest) pos) (eJoin m) := by
  obtain ⟨ts, ps, ms⟩ := h
  exact ⟨_, pe_joined ps, fun as F H S ρ σ I R q x h Q hq hx => ms as F H S ρ σ Str.empty I R _ x h _ (fun out S' bs F' H' a g => hq _ S' bs F' H' _ a g (.str _)) hx⟩
/-! ### starred arguments -/
def aStar (ea : Env → M) (er : Env → ML) : Env → ML := fun ρ S q x => ea ρ S (fun u S1 => onS (itemsD S1 u) fun ds => er ρ S1 (fun es S2 => q (ds ++ es) S2) x) x
theorem ga_star {p : Pos} (h : GE X W e ea) (r : GA X W es er) (hs : starEach (.Starred e p :: es) X.env = (true, eval e X.env) :: starEach es X.env := by rfl) : GA X W (.Starred e p :: es) (aStar ea er) := by
  obtain ⟨t, p, m⟩ := h
  obtain ⟨t2, p2, m2⟩ := r
  refine ⟨_, StX.pa_star p p2 hs, fun as F H S ρ σ I R q x h Q hq hx => ?_⟩
  refine m as F H S ρ σ I R _ x h _ (fun u S1 bs F1 H1 v h1 g r => ?_) hx
  obtain ⟨xs, h2, h3⟩ := onS_ok h1
  obtain ⟨a, ys, rfl, sq, rl⟩ := items_v g.sit r h2
  refine ⟨a, ys, rfl, sq.symm, ?_⟩
  refine m2 bs F1 H1 S1 ρ σ g.sit (R.grow g) _ x h3 _ (fun es S2 cs F2 H2 vs h4 g2 r2 => ?_) (hx.step g)
  exact hq _ S2 cs F2 H2 _ h4 (g.trans g2) ((rl.mono g2.ex g2.pre).append r2)
end
end RV
end
section
/-! Own __len__, __str__; classmethods; cls(..); x is None. -/
namespace RV
open PySem L2
variable {nn : Bool}
section
variable {K : PySem.W.Frag} {X : Cx} {W : WX} {o e a b : Expr} {es : List Expr} {pos apos p : Pos} {eo ee ea eb : Env → M} {er ek : Env → ML}
/-! ### calls that run a def of the text's own, which raises nothing -/
def RCM (K : PySem.W.Frag) (r : List V → Hp → VK → Prop) (f : List D → M) : Prop := ∀ (as : List Addr) (F H : Hp) (S : WS) (ds : List D) (vs : List V), Sit K as F H S → RpL K as F ds vs → ∀ q x, f ds S q x →
  ∀ Q : VK, NQ K as F H q Q → r vs H Q
def eCallM (f : List D → M) (er : Env → ML) : Env → M := fun ρ S q x => er ρ S (fun ds S1 => f ds S1 q x) x
theorem me_cbM {r : List V → Hp → VK → Prop} {f : List D → M} {t : TA} (hr : RCM K r f) (h : MA K W t er) : ME K W (tCB r t) (eCallM f er) := fun as F H S ρ σ I R q x e Q hq hx =>
  h as F H S ρ σ I R _ x e _ (fun ds S1 bs F1 H1 vs h1 g1 r1 => hr bs F1 H1 S1 ds vs g1.sit r1 q x h1 Q (hq.step g1)) hx
theorem ge_callBM {x : Str} {id : String} {r : List V → Hp → VK → Prop} {f : List D → M} (hc : CallR X (.builtin id) r) (hr : RCM X.K r f) (hm : X.mg x = none) (hv : bootBuiltins x = some (.builtin id)) (ha : GA X W (e :: es) er)
    (hg : Gl X x := by rfl) (hn : x ≠ "__name__" := by decide) (hdb : (x == ("__debug__" : Str)) = false := by decide) (h1 : starEach (e :: es) X.env = (false, eval e X.env) :: starEach es X.env := by rfl) (h2 : (backTo pos (starEach es X.env)).any (·.1) = false := by rfl) :
    GE X W (.Call (.Name x p) (e :: es) [] pos) (eCallM f er) := by
  obtain ⟨t, p, m⟩ := ha
  exact ⟨_, pe_callB hc hg hm hv p hn hdb h1 h2, me_cbM hr m⟩
theorem ge_callTyM {x : Str} {T : String} {r : List V → Hp → VK → Prop} {f : List D → M} (hc : CallR X (.type T) r) (hr : RCM X.K r f) (hm : X.mg x = none) (hv : bootBuiltins x = some (.type T)) (ha : GA X W (e :: es) er)
    (hg : Gl X x := by rfl) (hn : x ≠ "__name__" := by decide) (hdb : (x == ("__debug__" : Str)) = false := by decide) (h1 : starEach (e :: es) X.env = (false, eval e X.env) :: starEach es X.env := by rfl) (h2 : (backTo pos (starEach es X.env)).any (·.1) = false := by rfl) :
    GE X W (.Call (.Name x p) (e :: es) [] pos) (eCallM f er) := by
  obtain ⟨t, p, m⟩ := ha
  exact ⟨_, pe_callTy hc hg hm hv p hn hdb h1 h2, me_cbM hr m⟩
/-! ### own methods that Python calls -/
theorem run_own {f : Addr} {fd : FuncData} {ps : List Str} {sp : Sp} {k : Nat} {A : Around} {pins : List (Addr × Obj)} {s : Shared} {σ : L2.St} {H : Hp} {vs : List V} {us : List Value} {R : VK} (Fn : FnX ⟨false, nn, false⟩ X.prog X.w X.K X.mg X.base k f fd ps sp) (hr : Room k A) (hfr : A.frames = X.A.frames) (hb : Binds X.K fd ps []) (I : Inv X pins σ H s) (rv : Vals vs us)
    (h : sp vs H R E0) : wpAny (model X.prog X.w) A (call (.ref f) us) (EP X pins σ R) X.xe s := by
  have e0 : Env0 X.prog X.w X.K X.mg X.base A X.stack s H := by
    have z := I.env0
    exact ⟨by rw [hfr]; exact z.frames, z.mod, z.bs, z.bsz, z.funs, z.frf, z.hok, z.bare⟩
  have hl : us.length = ps.length := rv.length.symm.trans (Fn.len _ _ _ _ h)
  refine wpAny_call (codeAny_mono (Fn.ok.run A X.stack s H ⟨us, []⟩ us vs R E0 hr e0 (by
    have z := hb s us I.kIn (by simpa using hl)
    simpa using z) rv h) fun r s' hq => ?_)
  cases r with
  | error e =>
    exact (cxm_no hq).elim
  | ok fl =>
    cases fl with
    | ret w => exact I.after hq
    | next => exact hq.elim
    | brk => exact hq.elim
    | cont => exact hq.elim
def rLenOwn (C : Addr) (sp : Sp) : List V → Hp → VK → Prop := fun xs H Q => ∃ a dx fs, xs = [.ref a] ∧ H a = some (.ins C dx fs) ∧ sp xs H (fun v H' => ∃ n : Int, v = .int n ∧ 0 ≤ n ∧ n < 2 ^ 62 ∧ Q (.int n) H') E0
theorem call_lenOwn {C f : Addr} {fd : FuncData} {ps : List Str} {sp : Sp} {k j : Nat} (Fn : FnX ⟨false, nn, false⟩ X.prog X.w X.K X.mg X.base k f fd ps sp) (hr : Room j X.A) (hj : k + 1 ≤ j) (hs : PySem.W.findIn X.K (.ref C) "__len__" = some (some (.ref f))) (hf : PySem.W.isFn X.K (.ref f) = true) (hb : Binds X.K fd ps []) :
    CallR X (.builtin "len") (rLenOwn C sp) := fun pins s σ H xs us Q I rv q => by
  obtain ⟨a, dx, fs, rfl, ha, q⟩ := q
  obtain ⟨u, rfl, ru⟩ := rv.one
  cases ru
  obtain ⟨mA, J, _⟩ := ins_get I.hok ha
  obtain ⟨od, J, _⟩ := J.look
  obtain ⟨m, hF⟩ := I.fr
  refine PySem.W.len_K hF I.ok.mod.kin J hs hf ?_
  refine thn (run_own Fn (hr.mono hj).in1 rfl hb I (vs := [.ref a]) (.cons rfl .nil) q) fun w s' hw => ?_
  obtain ⟨z, H', I', rz, n, rfl, h0, h1, qn⟩ := hw
  obtain ⟨t, rfl⟩ := rz
  refine ⟨⟨h0, by omega⟩, .int n, H', I'.tok _, ⟨_, rfl⟩, qn⟩
def rStrOwn (C : Addr) (sp : Sp) : List V → Hp → VK → Prop := fun xs H Q => ∃ a dx fs, xs = [.ref a] ∧ H a = some (.ins C dx fs) ∧ sp xs H (fun v H' => ∃ t : Str, v = .str t ∧ Q (.str t) H') E0
theorem call_strOwn {C f : Addr} {fd : FuncData} {ps : List Str} {sp : Sp} {k j : Nat} (Fn : FnX ⟨false, nn, false⟩ X.prog X.w X.K X.mg X.base k f fd ps sp) (hr : Room j X.A) (hj : k + 2 ≤ j) (hs : PySem.W.findIn X.K (.ref C) "__str__" = some (some (.ref f))) (hf : PySem.W.isFn X.K (.ref f) = true) (hb : Binds X.K fd ps []) :
    CallR X (.type "str") (rStrOwn C sp) := fun pins s σ H xs us Q I rv q => by
  obtain ⟨a, dx, fs, rfl, ha, q⟩ := q
  obtain ⟨u, rfl, ru⟩ := rv.one
  cases ru
  obtain ⟨mA, J, _⟩ := ins_get I.hok ha
  obtain ⟨od, J, _⟩ := J.look
  have hr2 := (hr.mono hj).in1.in1
  refine PySem.W.kso_call hr2.units0 I.kIn J hs hf ?_
  refine thn (run_own Fn hr2 rfl hb I (vs := [.ref a]) (.cons rfl .nil) q) fun w s' hw => ?_
  obtain ⟨z, H', I', rz, t, rfl, qn⟩ := hw
  obtain ⟨tk, rfl⟩ := rz
  exact ⟨.str t, H', I', ⟨_, rfl⟩, qn⟩
def lenOwnD (C : Addr) (G : List D → M) : List D → M := fun ds S q _ => on1 ds fun d => isOb C S d ∧ G [d] S (fun r S' => onI r fun n => (0 ≤ n ∧ n < 2 ^ 62) ∧ q (.int n) S') noX
theorem rcm_len {C : Addr} {G : List D → M} : RCM K (rLenOwn C (spG K 1 G)) (lenOwnD C G) := fun as F H S ds vs I r q x h Q hq => by
  obtain ⟨d0, rfl, h⟩ := on1_ok h
  · obtain ⟨v, ws, rfl, rv, rn⟩ := r.unsn
    obtain rfl := rn.unnil
    obtain ⟨a, dx, vfs, rfl, ha⟩ := isOb_at I rv h.1
    refine ⟨a, dx, vfs, rfl, ha, as, F, S, _, _, noX, I, .cons rv .nil, rfl, h.2, fun d S' bs F' H' v h3 g r2 => ?_, XQ.no⟩
    cases r2 with
    | int n => exact ⟨n, rfl, h3.1.1, h3.1.2, hq _ S' bs F' H' _ h3.2 g (.int n)⟩
    | _ => exact h3.elim
def strOwnD (C : Addr) (G : List D → M) : List D → M := fun ds S q _ => on1 ds fun d => isOb C S d ∧ G [d] S (fun r S' => onT r fun t => q (.str t) S') noX
theorem rcm_str {C : Addr} {G : List D → M} : RCM K (rStrOwn C (spG K 1 G)) (strOwnD C G) := fun as F H S ds vs I r q x h Q hq => by
  obtain ⟨d0, rfl, h⟩ := on1_ok h
  · obtain ⟨v, ws, rfl, rv, rn⟩ := r.unsn
    obtain rfl := rn.unnil
    obtain ⟨a, dx, vfs, rfl, ha⟩ := isOb_at I rv h.1
    refine ⟨a, dx, vfs, rfl, ha, as, F, S, _, _, noX, I, .cons rv .nil, rfl, h.2, fun d S' bs F' H' v h3 g r2 => ?_, XQ.no⟩
    cases r2 with
    | str t => exact ⟨t, rfl, hq _ S' bs F' H' _ h3 g (.str t)⟩
    | _ => exact h3.elim
/-! ### x is None -/
def isND (neg : Bool) : WS → D → D → Option D := fun _ x y => match y with
  | .non => (match x with
    | .non => some (.bl (!neg))
    | _ => some (.bl neg))
  | _ => none
theorem rp_non {as : List Addr} {F : Hp} {x : D} {v : V} (r : Rp K as F x v) : (v = .non ↔ x = .non) := by
  cases r <;> simp
theorem ro_isN : RO K (fun x y H Q => y = .non ∧ Q (.bl (decide (x = .non))) H) (isND false) := fun as F H S x y d vx vy I rx ry h Q q => by
  unfold isND at h
  split at h
  · cases ry
    refine ⟨rfl, ?_⟩
    split at h
    · cases h
      cases rx
      exact keep I q (.bl true)
    · rename_i hn
      cases h
      have : decide (vx = V.non) = false := decide_eq_false fun z => hn ((rp_non rx).mp z)
      rw [this]
      exact keep I q (.bl false)
  · cases h
end
/-! ### facts about a class's own methods -/
section
variable (P : Program) (w : World) (K : PySem.W.Frag) (mg : Str → Option Value) (base : Heap)
/-- the class at C has the special method m that computes G (n values) -/
def Sc (nn : Bool) (C : Addr) (m : Str) (k n : Nat) (G : List D → M) : Prop := ∃ (f : Addr) (fd : FuncData) (ps : List Str), FnX ⟨false, nn, false⟩ P w K mg base k f fd ps (spG K n G) ∧ Binds K fd ps [] ∧ PySem.W.findIn K (.ref C) m = some (some (.ref f)) ∧ PySem.W.isFn K (.ref f) = true
/-- m is a classmethod of the class at C that computes G (n values: the class, the arguments) -/
def Cm (nn : Bool) (C : Addr) (m : Str) (k n : Nat) (G : List D → M) : Prop := ∃ (q g : Addr) (fd : FuncData) (ps : List Str), ClX.CRead K C (.type "type") ∧ ClX.CMet K C (.type "type") m q g ∧ FnX ⟨false, nn, false⟩ P w K mg base k g fd ps (spG K n G) ∧ Binds K fd ps []
/-- .. called with keywords ks alone -/
def CmK (nn : Bool) (C : Addr) (m : Str) (k n : Nat) (ks : List Str) (G : List D → M) (gD : List D → List D → List D) : Prop := ∃ (q g : Addr) (fd : FuncData) (ps : List Str) (gg : List Value → List Value → List Value) (gV : List V → List V → List V), ClX.CRead K C (.type "type") ∧ ClX.CMet K C (.type "type") m q g ∧ FnX ⟨false, nn, false⟩ P w K mg base k g fd ps (spG K n G) ∧ KBn K fd ps 1 ks gg gV ∧
  ∀ as F (zs : List D) (ws : List V), RpL K as F zs ws → zs.length = ks.length → ∃ us, gV [.ref C] ws = .ref C :: us ∧ RpL K as F (gD [] zs) us
end
section
variable {X : Cx} {W : WX} {o e : Expr} {es : List Expr} {pos apos p : Pos} {ea : Env → M} {er ek : Env → ML} {C : Addr} {m x : Str} {k j n : Nat} {G : List D → M} {pl : Sem Bool} {dvs : List D}
theorem call_lenF (c : Sc X.prog X.w X.K X.mg X.base nn C "__len__" k 1 G) (hr : Room j X.A) (hj : k + 1 ≤ j := by decide) : CallR X (.builtin "len") (rLenOwn C (spG X.K 1 G)) := by
  obtain ⟨f, fd, ps, F, hb, hs, hf⟩ := c
  exact call_lenOwn F hr hj hs hf hb
theorem call_strF (c : Sc X.prog X.w X.K X.mg X.base nn C "__str__" k 1 G) (hr : Room j X.A) (hj : k + 2 ≤ j := by decide) : CallR X (.type "str") (rStrOwn C (spG X.K 1 G)) := by
  obtain ⟨f, fd, ps, F, hb, hs, hf⟩ := c
  exact call_strOwn F hr hj hs hf hb
/-- C.m(e, ..) -/
def eCm (C : Addr) (n : Nat) (G : List D → M) (ea : Env → M) (er : Env → ML) : Env → M := fun ρ S q x => ea ρ S (fun u S1 => u = .adr C ∧ er ρ S1 (fun ds S2 => ds.length + 1 = n ∧ G (.adr C :: ds) S2 q x) x) x
def tCmX (C : Addr) (sp : Sp) (E : L2.St → XK) (ta : TE) (t : TA) : TE := fun σ H Q => ta σ H fun z H1 => z = .ref C ∧ t σ H1 fun vs H2 => sp (.ref C :: vs) H2 Q (E σ)
/-- the call of the bound classmethod -/
theorem run_cm {q0 g : Addr} {fd : FuncData} {ps : List Str} {sp : Sp} {Q : VK} {pins : List (Addr × Obj)} {σ : L2.St} {H : Hp} {s : Shared} {pa : Addr} {args : Args} {us : List Value} {vs : List V} (tk : Tk nn X W) (Fn : FnX ⟨false, nn, false⟩ X.prog X.w X.K X.mg X.base k g fd ps sp) (hr : Room k X.A)
    (I : Inv X ((pa, PySem.W.methodObj (.ref g) (.ref C)) :: pins) σ H s) (hb : BindsTo s fd ⟨.ref C :: args.pos, args.kw⟩ (ps.zip us)) (r : Vals vs us) (h : sp vs H Q (WE W σ)) :
    wpAny (model X.prog X.w) X.A (PySem.call (.ref pa) args.pos args.kw) (EP X ((pa, PySem.W.methodObj (.ref g) (.ref C)) :: pins) σ Q) X.xe s := by
  refine wpAny_call (PySem.W.method_call (ClX.pin_at I) (codeAny_mono (Fn.ok.run X.A X.stack s H _ us vs Q (WE W σ) hr I.env0 hb r h) fun r s' hq => ?_))
  cases r with
  | error e => exact tk.pass σ _ H s e s' I hq
  | ok fl =>
    cases fl with
    | ret w => exact I.after hq
    | next => exact hq.elim
    | brk => exact hq.elim
    | cont => exact hq.elim
theorem ge_cmeth (tk : Tk nn X W) (c : Cm X.prog X.w X.K X.mg X.base nn C m k n G) (hr : Room j X.A) (ho : GE X W o ea) (ha : GA X W (e :: es) er) (hj : k ≤ j := by decide)
    (hst : starEach (e :: es) X.env = (false, eval e X.env) :: starEach es X.env := by rfl) (hpl : (backTo pos (starEach es X.env)).any (·.1) = false := by rfl)
    (ht : eval (.Call (.Attribute o m apos) (e :: es) [] pos) X.env = (do
      let ov ← eval o X.env
      standAt apos.atName
      let (f, first) ← holding [ov] (getMethod ov m pl)
      callWith pos f first (backTo pos (starEach (e :: es) X.env)) (backToKw pos (keywordEach [] X.env))) := by rfl) :
    GE X W (.Call (.Attribute o m apos) (e :: es) [] pos) (eCm C n G ea er) := by
  obtain ⟨q, g, fd, ps, rd, cm, F, hb⟩ := c
  obtain ⟨to, po, mo⟩ := ho
  obtain ⟨t, pa, ma⟩ := ha
  refine ⟨tCmX C (spG X.K n G) (WE W) to t, ⟨fun pins s σ H Q I h => ?_⟩, fun as F H S ρ σ I R q x h Q hq hx => ?_⟩
  · refine PySem.W.methodCall_KW (pl := pl) (thn (po.run pins s σ H _ I h) fun u s1 hh => ?_) ht
    obtain ⟨z, H1, I1, rx, ex, q1⟩ := hh
    subst ex
    obtain rfl : u = Value.ref C := rx
    refine ClX.getmethcm_ok I1 rd cm fun s2 I2 => ?_
    refine ClX.callwith_cm I2 (ClX.base_none I1 (Nat.le_refl _)) cm.fi (thn (pa.run pos _ s2 σ H1 _ I2 q1) fun us s3 hh => ?_) hst hpl
    obtain ⟨vs, H2, I3, rv, q2⟩ := hh
    refine ⟨⟨ClX.pin_at I3, I3.kIn⟩, ?_⟩
    have r2 : Vals (V.ref C :: vs) (Value.ref C :: us) := .cons rfl rv
    have hl : (Value.ref C :: us).length = ps.length := r2.length.symm.trans (F.len _ _ _ _ q2)
    have bb := hb s3 (Value.ref C :: us) I3.kIn (by simpa using hl)
    rw [List.append_nil] at bb
    exact thn (run_cm (q0 := q) (args := ⟨us, []⟩) tk F (hr.mono hj) I3 bb r2 q2) fun _ _ y => ClX.unpinE y
  · refine mo as F H S ρ σ I R _ x h _ (fun u S1 bs F1 H1 v h1 g1 r1 => ?_) hx
    obtain ⟨e1, h1⟩ := h1
    subst e1
    cases r1
    refine ⟨rfl, ?_⟩
    refine ma bs F1 H1 S1 ρ σ g1.sit (R.grow g1) _ x h1 _ (fun ds S2 cs F2 H2 vs h2 g2 r2 => ?_) (hx.step g1)
    have g12 := g1.trans g2
    exact ⟨cs, F2, S2, _, q, x, g2.sit, .cons (.adr _) r2, by simpa using h2.1, h2.2, hq.step g12, hx.step g12⟩
/-- C.m(k = v, ..) -/
def eCmK (C : Addr) (n nk : Nat) (G : List D → M) (gD : List D → List D → List D) (ea : Env → M) (ek : Env → ML) : Env → M := fun ρ S q x => ea ρ S (fun u S1 => u = .adr C ∧ ek ρ S1 (fun zs S2 => (zs.length = nk ∧ (gD [] zs).length + 1 = n) ∧ G (.adr C :: gD [] zs) S2 q x) x) x
def tCmKX (C : Addr) (nk : Nat) (sp : Sp) (gV : List V → List V → List V) (E : L2.St → XK) (ta : TE) (t : TA) : TE := fun σ H Q => ta σ H fun x H1 => x = .ref C ∧ t σ H1 fun zs H2 => zs.length = nk ∧ sp (gV [.ref C] zs) H2 Q (E σ)
theorem ge_cmethK {ks : List Str} {gD : List D → List D → List D} {kws : List Keyword} (tk : Tk nn X W) (c : CmK X.prog X.w X.K X.mg X.base nn C m k n ks G gD) (hr : Room j X.A) (ho : GE X W o ea) (hk : GK X W kws ek) (hj : k ≤ j := by decide)
    (hall : (backToKw pos (keywordEach kws X.env)).all (·.1.isSome) = true := by rfl) (hks : (backToKw pos (keywordEach kws X.env)).filterMap (·.1) = ks := by rfl) (hpl : ((backTo pos (starEach [] X.env)).any (·.1) || (backToKw pos (keywordEach kws X.env)).any (·.1.isNone)) = false := by rfl)
    (ht : eval (.Call (.Attribute o m apos) [] kws pos) X.env = (do
      let ov ← eval o X.env
      standAt apos.atName
      let (f, first) ← holding [ov] (getMethod ov m pl)
      callWith pos f first (backTo pos (starEach [] X.env)) (backToKw pos (keywordEach kws X.env))) := by rfl) :
    GE X W (.Call (.Attribute o m apos) [] kws pos) (eCmK C n ks.length G gD ea ek) := by
  obtain ⟨q, g, fd, ps, gg, gV, rd, cm, F, kb, hg⟩ := c
  obtain ⟨to, po, mo⟩ := ho
  obtain ⟨t, pk, mk⟩ := hk
  refine ⟨tCmKX C ks.length (spG X.K n G) gV (WE W) to t, ⟨fun pins s σ H Q I h => ?_⟩, fun as F H S ρ σ I R q x h Q hq hx => ?_⟩
  · refine PySem.W.methodCall_KW (pl := pl) (thn (po.run pins s σ H _ I h) fun u s1 hh => ?_) ht
    obtain ⟨z, H1, I1, rx, ex, q1⟩ := hh
    subst ex
    obtain rfl : u = Value.ref C := rx
    refine ClX.getmethcm_ok I1 rd cm fun s2 I2 => ?_
    have hq0 : X.base.get? s1.heap.objs.size = none := ClX.base_none I1 (Nat.le_refl _)
    refine PySem.W.callWith_of (P := PySem.W.MethP X.K s1.heap.objs.size g (.ref C)) hpl (PySem.W.keeps_M cm.fi) (PyProof.Rows.evalArgs_kw2_nil hall ?_)
    refine thn (pk.run pos _ s2 σ H1 _ I2 q1) fun ws s3 hh => ?_
    obtain ⟨zs, H2, I3, rz, l2, q2⟩ := hh
    refine ⟨⟨ClX.pin_at I3, I3.kIn⟩, ?_⟩
    rw [hks]
    have hl : ws.length = ks.length := rz.length.symm.trans l2
    have z := run_cm (X := X) (q0 := q) (args := ⟨[], ks.zip ws⟩) tk F (hr.mono hj) I3 (kb.to s3 [.ref C] ws I3.kIn rfl hl) (kb.rel (vs := [.ref C]) (.cons rfl .nil) rz) q2
    exact thn z fun _ _ y => ClX.unpinE y
  · refine mo as F H S ρ σ I R _ x h _ (fun u S1 bs F1 H1 v h1 g1 r1 => ?_) hx
    obtain ⟨e1, h1⟩ := h1
    subst e1
    cases r1
    refine ⟨rfl, ?_⟩
    refine mk bs F1 H1 S1 ρ σ g1.sit (R.grow g1) _ x h1 _ (fun zs S2 cs F2 H2 vs h2 g2 r2 => ?_) (hx.step g1)
    have g12 := g1.trans g2
    obtain ⟨us, eu, ru⟩ := hg cs F2 zs vs r2 h2.1.1
    refine ⟨r2.length.symm.trans h2.1.1, ?_⟩
    rw [eu]
    exact ⟨cs, F2, S2, _, q, x, g2.sit, .cons (.adr _) ru, by simpa using h2.1.2, h2.2, hq.step g12, hx.step g12⟩
/-! ### cls(e, ..), the class held by a slot -/
def eMakeL (i : Nat) (l : Lk) (C : Addr) (n : Nat) (G : List D → M) (dvs : List D) (er : Env → ML) : Env → M := fun ρ S q x => look ρ i = some (.adr C) ∧ eMake l C n G dvs er ρ S q x
theorem ge_makeLF (i : Nat) {l : Lk} {y : Str} (tk : Tk nn X W) (c : Mc X.prog X.w X.K X.mg X.base nn y C k n G dvs) (hr : Room j X.A) (ha : GA X W (e :: es) er) (hj : k + 1 ≤ j := by decide) (hN : X.N[i]? = some x := by rfl) (hv : Vis X.env.scope x := by first | exact .inl rfl | exact .inr (.inl rfl) | exact .inr (.inr rfl) | exact .inr rfl)
    (hdb : (x == ("__debug__" : Str)) = false := by decide) (hcd : (x == ("__classdict__" : Str)) = false := by decide) (h1 : starEach (e :: es) X.env = (false, eval e X.env) :: starEach es X.env := by rfl) (h2 : (backTo pos (starEach es X.env)).any (·.1) = false := by rfl) :
    GE X W (.Call (.Name x p) (e :: es) [] pos) (eMakeL i l C n G dvs er) := by
  obtain ⟨f, fd, ps, dv, ds, Mm, Fn, hb, hd, hdv, hm⟩ := c
  obtain ⟨t, pa, ma⟩ := ha
  refine ⟨fun σ H Q => σ[i]? = some (some (.ref C)) ∧ tMakeX C (spG X.K n G) dv (WE W) t σ H Q, ⟨fun pins s σ H Q I h => ?_⟩, fun as F H S ρ σ I R q x h Q hq hx => ?_⟩
  · obtain ⟨hs, ht⟩ := h
    refine wpAny_Call_Name_kw (thn ((pe_var (pos := p) hN hv hdb hcd).run pins s σ H (fun v H1 => v = .ref C ∧ H1 = H) I ⟨.ref C, hs, rfl, rfl⟩) fun u s1 hh => ?_)
    obtain ⟨v, H1, I1, r1, q1⟩ := hh
    obtain ⟨rfl, rfl⟩ := q1
    cases r1
    refine PySem.W.callWith_K (h₀ := X.base) I.ok.mod.kin Mm.kp (thn (pa.run pos pins s1 σ _ _ I1 ht) fun us s2 hh => ?_) h1 h2
    obtain ⟨vs, H2, I2, r, q2⟩ := hh
    exact ⟨I2.kIn, run_makeX Mm Fn (hr.mono hj) hb hd tk I2 r q2⟩
  · obtain ⟨v, hv2, rv⟩ := R.at_ i _ (look_at h.1)
    cases rv
    exact ⟨hv2, me_make hdv ma as F H S ρ σ I R q x h.2 Q hq hx⟩
end
end RV
end
section
/-! The head's facts: classes, properties, own ==, tables; keywords without defaults. -/
namespace RV
open PySem L2
variable {nn : Bool}
open He (eqO eqO_ok ba ga ma)
section
variable {K : PySem.W.Frag}
def kindB (K : PySem.W.Frag) (C : Addr) : Bool := eqO (PySem.W.findIn K (.ref C) "__class__") (some (some (.builtin "object.__class__"))) && (eqO (PySem.W.specialIn K (.builtin "object.__class__") "__get__") (some (some (.builtin "getset_descriptor.__get__"))) &&
  (decide (PySem.W.takesIn K (.builtin "object.__class__") = some true) && decide (PySem.W.mroIn K C (.type "object") = some true)))
theorem kindB_ok {C : Addr} (cl : Cls K C) (h : kindB K C = true) : KindC K C := by
  obtain ⟨h1, h⟩ := ba h
  obtain ⟨h2, h⟩ := ba h
  obtain ⟨h3, h4⟩ := ba h
  exact ⟨cl, eqO_ok h1, eqO_ok h2, of_decide_eq_true h3, of_decide_eq_true h4⟩
def propB (K : PySem.W.Frag) (C : Addr) (f : Str) : Bool := eqO (PySem.W.findIn K (.ref C) f) (some (some (.ref (ma K C f)))) && (eqO (PySem.W.specialIn K (.ref (ma K C f)) "__get__") (some (some (.builtin "property.__get__"))) &&
  (decide (PySem.W.takesIn K (.ref (ma K C f)) = some true) && (match PySem.W.recIn K (ma K C f) "property" with
    | some (.ref g :: _) => decide (g = He5.wf K C "property" f)
    | _ => false)))
theorem propB_ok {C : Addr} {f : Str} (h : propB K C f = true) : PropOf K C f (ma K C f) (He5.wf K C "property" f) := by
  obtain ⟨h1, h⟩ := ba h
  obtain ⟨h2, h⟩ := ba h
  obtain ⟨h3, h4⟩ := ba h
  refine ⟨eqO_ok h1, eqO_ok h2, of_decide_eq_true h3, ?_⟩
  split at h4
  · rename_i g r e
    have := of_decide_eq_true h4
    subst this
    exact ⟨r, e⟩
  · cases h4
/-- isinstance among ts (kinds) and us (classes): sub tells -/
def tabD (ts us : List Value) (sub : Value → Value → Bool) (t u : Value) : Option Bool := if t ∈ ts ∧ u ∈ us then some (sub t u) else none
def tabB (K : PySem.W.Frag) (ts us : List Value) (sub : Value → Value → Bool) : Bool := ts.all fun t => us.all fun u => decide (PySem.W.kitOne K t u = some (sub t u))
theorem tabB_ok {ts us : List Value} {sub : Value → Value → Bool} (h : tabB K ts us sub = true) (t u : Value) (b : Bool) (e : tabD ts us sub t u = some b) : PySem.W.kitOne K t u = some b := by
  unfold tabD at e
  split at e
  · rename_i hm
    cases e
    exact of_decide_eq_true (List.all_eq_true.mp (List.all_eq_true.mp h t hm.1) u hm.2)
  · cases e
theorem kbn0 {x qual : Str} {params : Arguments} {body : List Stmt} {scope : Scope} {kws : List (Str × V)} {f : Addr} {fd : FuncData} {ps : List Str} (F : FunD K x qual params body scope [] kws f fd) (n : Nat) (ks : List Str) (g : {α : Type} → List α → List α → List α)
    (hrel : ∀ {vs zs : List V} {us ws : List Value}, Vals vs us → Vals zs ws → Vals (g vs zs) (g us ws))
    (h : ∀ (kV doc pm : Value) (an : Option Addr) (cdv ct : Value) (us ws : List Value), us.length = n → ws.length = ks.length → bindArgs (PySem.W.fnOf x qual params body scope .none kV doc pm an cdv ct) ⟨us, ks.zip ws⟩ = pure (ps.zip (g us ws))) : KBn K fd ps n ks g g := by
  obtain ⟨oc, od, dV, kV, doc, pm, an, cdv, ct, osl, rfl, lk, hcd, hD, hK⟩ := F.ex
  rcases hD with ⟨_, rfl⟩ | ⟨e, _⟩
  · exact ⟨fun s us ws X l1 l2 => BindsTo.of_eq (h kV doc pm an cdv ct us ws l1 l2), fun r1 r2 => hrel r1 r2⟩
  · exact absurd rfl e
end
end RV
namespace RV
open PySem L2
open He (eqO eqO_ok ba ga ma)
/-- keywords' values into the parameters' order -/
def perm {α : Type} (m : List Nat) (us ws : List α) : List α := us ++ m.flatMap fun i => (ws.drop i).take 1
theorem vals_take1 {vs : List V} {us : List Value} (h : Vals vs us) : Vals (vs.take 1) (us.take 1) := by
  cases h with
  | nil => exact .nil
  | cons a _ => exact .cons a .nil
theorem vals_perm {m : List Nat} {vs zs : List V} {us ws : List Value} (r1 : Vals vs us) (r2 : Vals zs ws) : Vals (perm m vs zs) (perm m us ws) := by
  refine r1.append ?_
  induction m with
  | nil => exact .nil
  | cons i m ih =>
    rw [List.flatMap_cons, List.flatMap_cons]
    exact (vals_take1 (r2.drop i)).append ih
theorem rpl_drop {K : PySem.W.Frag} {as : List Addr} {F : Hp} : ∀ (n : Nat) {ds : List D} {vs : List V}, RpL K as F ds vs → RpL K as F (ds.drop n) (vs.drop n)
  | 0, _, _, h => h
  | _ + 1, _, _, .nil => .nil
  | n + 1, _, _, .cons _ r => rpl_drop n r
theorem rpl_take1 {K : PySem.W.Frag} {as : List Addr} {F : Hp} {ds : List D} {vs : List V} (h : RpL K as F ds vs) : RpL K as F (ds.take 1) (vs.take 1) := by
  cases h with
  | nil => exact .nil
  | cons a _ => exact .cons a .nil
theorem rpl_perm {K : PySem.W.Frag} {as : List Addr} {F : Hp} {m : List Nat} {ds zs : List D} {vs ws : List V} (r1 : RpL K as F ds vs) (r2 : RpL K as F zs ws) : RpL K as F (perm m ds zs) (perm m vs ws) := by
  refine r1.append ?_
  induction m with
  | nil => exact .nil
  | cons i m ih =>
    rw [List.flatMap_cons, List.flatMap_cons]
    exact (rpl_take1 (rpl_drop i r2)).append ih
theorem mkK_of {P : Program} {w : World} {K : PySem.W.Frag} {mg : Str → Option Value} {base : Heap} {x y qual : Str} {params : Arguments} {body : List Stmt} {scope : Scope} {kws : List (Str × V)} {f C : Addr} {fd : FuncData} {ps : List Str} {k n : Nat} {G : List D → M} (m1 : Nat) (ks : List Str) (m : List Nat) (F : FunD K x qual params body scope [] kws f fd) (M : Mk K C f) (ok : FnX ⟨false, nn, false⟩ P w K mg base k f fd ps (spG K n G)) (hm : mg y = some (.ref C))
    (h : ∀ (kV doc pm : Value) (an : Option Addr) (cdv ct : Value) (us ws : List Value), us.length = m1 + 1 → ws.length = ks.length → bindArgs (PySem.W.fnOf x qual params body scope .none kV doc pm an cdv ct) ⟨us, ks.zip ws⟩ = pure (ps.zip (perm m us ws))) :
    Mk_ P w K mg base nn y C k n m1 ks G (perm m) :=
  ⟨f, fd, ps, perm m, perm m, M, ok, kbn0 F (m1 + 1) ks (perm m) vals_perm h, fun as F ds zs vs ws s r1 r2 _ _ => ⟨perm m vs ws, rfl, rpl_perm r1 r2⟩, hm⟩
end RV
namespace RV
open PySem L2
/-! ### the head -/
section
open He (eqO eqO_ok ba ga ma)
variable {P : Program} {w : World} {K : PySem.W.Frag} {mg : Str → Option Value} {base : Heap} {C : Addr} {k n : Nat} {G : List D → M} {fd : FuncData} {ps : List Str}
def specB (K : PySem.W.Frag) (C : Addr) (m : Str) : Bool := eqO (PySem.W.findIn K (.ref C) m) (some (some (.ref (ma K C m)))) && PySem.W.isFn K (.ref (ma K C m))
theorem sc_of {m : Str} (h : specB K C m = true) (F : FnX ⟨false, nn, false⟩ P w K mg base k (ma K C m) fd ps (spG K n G)) (b : Binds K fd ps []) : Sc P w K mg base nn C m k n G :=
  ⟨_, fd, ps, F, b, eqO_ok (ba h).1, (ba h).2⟩
def readB (K : PySem.W.Frag) (C : Addr) : Bool := PySem.W.readsIn K C (.type "type") && eqO (PySem.W.specialIn K (.ref C) "__getattribute__") (some (some (.builtin "type.__getattribute__")))
def cmetB (K : PySem.W.Frag) (C : Addr) (m : Str) : Bool := He5.wrapB K C "classmethod" "classmethod.__get__" m && PySem.W.fnIn K (He5.wf K C "classmethod" m)
theorem cm_of {m : Str} (h0 : readB K C = true) (h : cmetB K C m = true) (F : FnX ⟨false, nn, false⟩ P w K mg base k (He5.wf K C "classmethod" m) fd ps (spG K n G)) (b : Binds K fd ps []) : Cm P w K mg base nn C m k n G :=
  ⟨_, _, fd, ps, ⟨(ba h0).1, eqO_ok (ba h0).2⟩, He5.cmet_of (ba h).1 (ba h).2, F, b⟩
theorem cmK_of {m x qual : Str} {params : Arguments} {body : List Stmt} {scope : Scope} {kws : List (Str × V)} (ks : List Str) (pm : List Nat) (h0 : readB K C = true) (h : cmetB K C m = true) (Fd : FunD K x qual params body scope [] kws (He5.wf K C "classmethod" m) fd) (F : FnX ⟨false, nn, false⟩ P w K mg base k (He5.wf K C "classmethod" m) fd ps (spG K n G))
    (hb : ∀ (kV doc pm_ : Value) (an : Option Addr) (cdv ct : Value) (us ws : List Value), us.length = 1 → ws.length = ks.length → bindArgs (PySem.W.fnOf x qual params body scope .none kV doc pm_ an cdv ct) ⟨us, ks.zip ws⟩ = pure (ps.zip (perm pm us ws))) : CmK P w K mg base nn C m k n ks G (perm pm) :=
  ⟨_, _, fd, ps, perm pm, perm pm, ⟨(ba h0).1, eqO_ok (ba h0).2⟩, He5.cmet_of (ba h).1 (ba h).2, F, kbn0 Fd 1 ks (perm pm) vals_perm hb, fun as F zs ws r _ => ⟨perm pm [] ws, rfl, rpl_perm .nil r⟩⟩
end
end RV
end
section
/-! The own classes of a text; small things for the printed proofs. -/
namespace RV
open PySem L2
variable {nn : Bool}
/-- where the own classes stand; those that are there -/
structure Ad where
  c : String → Addr
  here : List String
  t : String → Addr := fun _ => 0
structure AdOk (A : Ad) (cs : List String) : Prop where
  here : A.here = cs
  nd : (cs.map A.c).Nodup
def own (A : Ad) (C : Addr) : Bool := A.here.any fun n => A.c n == C
def kinds (A : Ad) : List Value := [.type "NoneType", .type "bool", .type "int", .type "str", .type "tuple", .type "list", .type "dict"] ++ A.here.map fun n => .ref (A.c n)
def clss (A : Ad) : List Value := [.type "bool", .type "int", .type "str", .type "tuple", .type "list", .type "dict"] ++ A.here.map fun n => .ref (A.c n)
def sub (_ : Ad) (t u : Value) : Bool := decide (t = u) || (decide (t = .type "bool") && decide (u = .type "int"))
def tab (A : Ad) : Value → Value → Option Bool := tabD (kinds A) (clss A) (sub A)
theorem own_of {K : PySem.W.Frag} {A : Ad} (h : ∀ n ∈ A.here, KindC K (A.c n)) (C : Addr) (e : own A C = true) : KindC K C := by
  unfold own at e
  obtain ⟨n, hn, e⟩ := List.any_eq_true.mp e
  rw [← beq_iff_eq.mp e]
  exact h n hn
theorem nogd {p : Prop} : false = true → p := fun h => nomatch h
theorem FnX.up {P : Program} {w : World} {K : PySem.W.Frag} {mg : Str → Option Value} {base : Heap} {k : Nat} {f : Addr} {fd : FuncData} {ps : List Str} {sp : Sp} (F : FnX ⟨false, nn, false⟩ P w K mg base k f fd ps sp) : FnX ⟨true, nn, false⟩ P w K mg base k f fd ps sp :=
  ⟨F.len, fun A outer s H args us vs Q E _ => F.run A outer s H args us vs Q E nogd⟩
section
variable {X : Cx} {W : WX} {pos : Pos}
/-- a try whose body raises nothing -/
def sCalm (m : Env → MS) : Env → MS := fun ρ S k => m ρ S ⟨k.nx, k.rt, k.bk, k.ct, fun _ _ _ => False⟩
end
end RV
end
section
/-! Own errors over ValueError, LookupError, ArithmeticError. -/
namespace RV
open PySem PySem.W PySem.Calls PyProof.Rows
/-- a built-in under which own errors stand: its __new__, its mro -/
inductive ErrB : String → List Value → Prop where
  | val : ErrB "ValueError.__new__" [.type "ValueError", .type "Exception", .type "BaseException", .type "object"]
  | look : ErrB "LookupError.__new__" [.type "LookupError", .type "Exception", .type "BaseException", .type "object"]
  | arith : ErrB "ArithmeticError.__new__" [.type "ArithmeticError", .type "Exception", .type "BaseException", .type "object"]
theorem ErrB.base {n : String} {l : List Value} (h : ErrB n l) : ∃ B i, ExcBaseFacts B n i l := by
  cases h with
  | val => exact ⟨_, _, F.excBase_ValueError⟩
  | look => exact ⟨_, _, F.excBase_LookupError⟩
  | arith => exact ⟨_, _, F.excBase_ArithmeticError⟩
theorem ErrB.pass {n : String} {l : List Value} (h : ErrB n l) (self : Value) : refuseLoop self "__setattr__" l = pure () := by
  cases h with
  | val => exact F.store_ValueError.passes self
  | look => exact F.store_LookupError.passes self
  | arith => exact F.store_ArithmeticError.passes self
theorem ErrB.obj {n : String} {l : List Value} (h : ErrB n l) : l.contains (.type "object") = true := by
  cases h <;> decide +kernel
theorem tail_ne {b l : List Value} (h : excTail b l = true) (hb : b ≠ []) : l.isEmpty = false := by
  cases l with
  | nil => exact absurd (beq_iff_eq.mp (show ([] == b) = true from h)).symm hb
  | cons _ _ => rfl
section
open Builtin Builtin.ObjectAttr HandSPX
variable {prog : Program} {w : World} {A : Around} {E : Value → Shared → Prop} {R : Result → Shared → Prop} {hp : Heap} {g : Array GenState} {d : Drawn} {t : Nat} {os : OsState}
/-- the first field of an own error -/
theorem osa_first {K : W.Frag} {name : Str} {tk : Tok} {v : Value} {x C : Addr} {fv : Array Value} {cd : ClassData} {n : String} {bl : List Value} (eb : ErrB n bl)
    (X : K.In hp) (hx : hp.get? x = some { cls := .ref C, data := .fields fv }) (hcd : W.clsIn K C = some cd) (hm : excTail bl cd.mro = true) (hh : cd.hasDict = true) (ha : W.findIn K (.ref C) name = some none)
    (hq : ∀ h' tk' dx, (∀ b o, b ≠ x → hp.get? b = some o → h'.get? b = some o) → hp.objs.size ≤ dx → dx ≠ x → h'.get? x = some { cls := .ref C, dict := some dx, data := .fields fv } → h'.Ns1 dx (fun y => if y = name then some v else none) → R (.ok (.ret .none)) ⟨h', g, d, tk', os⟩) :
    codeAny (model prog w) A (.call (.builtin "object.__setattr__") ⟨[.ref x, .str name tk, v], []⟩) R ⟨hp, g, d, t, os⟩ := by
  have inst : W.InstAt hp x { cls := .ref C, data := .fields fv } C none := ⟨hx, rfl, rfl, trivial⟩
  have st := F.store_object
  have full : cd.mro.isEmpty = false := tail_ne hm (fun z => by have := eb.obj; rw [z] at this; cases this)
  have top : cd.mro.contains (.type "object") = true := (excTail_contains "object" _ hm).trans eb.obj
  have off : x ≠ hp.objs.size := Nat.ne_of_lt (Heap.lt_size hx)
  have isO : W.Looks (model prog w) hp (isInstance (.ref x) (.type "object")) true := inst.type.andThen (W.looks_mroIn X (by unfold W.mroIn; rw [hcd, Option.bind_some, if_neg (by rw [full]; decide), top]))
  refine codeAny_call_builtin st.slot.plain st.entry (@W.check_slot (model prog w) _ _ ⟨hp, g, d, t, os⟩ "object.__setattr__" "object" "__setattr__" (.ref x) [.str name tk, v] [] _ st.kind st.split isO (st.args (.ref x) (.str name tk) v) ?_)
  have lm : W.Looks (model prog w) hp (mroOf (.ref C)) cd.mro := (W.looks_clsIn X hcd).andThen .now
  have lt : W.Looks (model prog w) hp (storeTaker? none) none := .now
  have lc : W.Looks (model prog w) hp (classData C) cd := W.looks_clsIn X hcd
  rw [W.osa_eq, refuse_eq]
  refine wpAny_bind (wpAny_bind (inst.type.at (wpAny_bind (lm.at ?_))))
  rw [excTail_pass _ (eb.pass _) _ hm]
  refine wpAny_pure (wpAny_bind (inst.type.at (wpAny_bind ((W.looks_findIn X ha).at (wpAny_bind (lt.at ?_))))))
  show wpAny _ _ (storeInOwnDict (.ref x) (.ref C) (.str name tk) name v false) _ _ _
  obtain ⟨nm, bs, mro, ns, qn, hd, sn, sb, ab, col, del⟩ := cd
  dsimp only at hh
  subst hh
  unfold storeInOwnDict ownDictForStores
  repeat (first | with_reducible refine store_in_new ?_ ?_ | with_reducible refine wpAny_loadPart_at hx ?_ | with_reducible refine lc.at ?_ | wp_step)
  · exact ⟨_, #[], _, (Heap.get?_update_ne _ _ _ _ off.symm).trans (Heap.get?_push_at rfl rfl), rfl, fun e he => absurd he (by simp), fun _ => rfl⟩
  · intro h' tk' hn' hs
    have hx1 : (hp.push { cls := .type "dict", data := .dict #[] }).get? x = some { cls := .ref C, data := .fields fv } := Heap.get?_push_of_some _ hx
    refine hq h' tk' hp.objs.size (fun b o hb ho => ?_) (Nat.le_refl _) off.symm ?_ hn'
    · exact (hs.2 b (Nat.ne_of_lt (Heap.lt_size ho))).trans ((Heap.get?_update_ne _ _ _ _ hb).trans (Heap.get?_push_of_some _ ho))
    · exact (hs.2 x off).trans (Heap.get?_update_self _ hx1 rfl)
end
end RV
namespace RV
open PySem L2
/-- what the written part says of an own error's class -/
structure OexG (K : PySem.W.Frag) (C : Addr) : Prop where
  cls : ∃ n bl, ErrB n bl ∧ ∃ nm q N bs bm sn sub ab col dd k0 k1 k2 k3 k5, K.lookup C = some (excClassObj nm q C N bs bm true sn sub ab col dd k0 k1 k2 k3 k5 n) ∧ PySem.W.excTail bl bm = true
  sa : PySem.W.findIn K (.ref C) "__setattr__" = some (some (.builtin "object.__setattr__"))
  exC : PySem.W.subIn K (.ref C) (.type "BaseException") = some true
  tyC : PySem.W.typeIn K (.ref C) = some (.type "type")
  kC : PySem.W.keepIn K (.ref C) = true
section
variable {X : Cx} {pins : List (Addr × Obj)} {σ : L2.St} {H : Hp} {s : Shared} {a C dx : Addr} {f : Str} {y : V} {u : Value} {Q : Unit → Shared → Prop} {E : Value → Shared → Prop} {A : Around}
theorem ost_newG (T : OexG X.K C) (I : Inv X pins σ H s) (e : H a = some (exo a C none)) (hno : PySem.W.findIn X.K (.ref C) f = some none) (ry : RelV y u)
    (h : ∀ dx s', H dx = none → dx ≠ a → Inv X pins σ (upd (upd H dx (exd dx [(f, y)])) a (exo a C (some dx))) s' → Q () s') : wpAny (model X.prog X.w) A (setAttr (.ref a) f u) Q E s := by
  obtain ⟨n, bl, eb, nm, q, N, bs, bm, sn, sub, ab, col, dd, k0, k1, k2, k3, k5, hC, hbm⟩ := T.cls
  have hcl : PySem.W.clsIn X.K C = some { name := nm, bases := bs, mro := .ref C :: bm, ns := N, qualname := q, hasDict := true, slotNames := sn, subclasses := sub, abstract := ab, collection := col, hasDel := false } := by unfold PySem.W.clsIn; rw [hC] <;> rfl
  obtain ⟨t1, ho⟩ := exo_at I.hok e
  obtain ⟨hp, g, d, t, os⟩ := s
  refine PySem.W.set_plain I.kIn (ox := { cls := .ref C, dict := none, data := .fields #[.ref t1, .none, .none, .none, .bool false, .none] }) (od := none) ⟨ho, rfl, rfl, trivial⟩ T.sa ?_
  refine osa_first eb I.kIn ho hcl (show PySem.W.excTail bl (.ref C :: bm) = true from hbm) rfl hno (fun h' tk' dx k dn dne hx hn => ?_)
  have hnd : H dx = none := I.hok.fresh dn
  have nd : ∀ {b : Addr} {o : Obj}, hp.get? b = some o → b ≠ dx := fun {b o} q => Nat.ne_of_lt (Nat.lt_of_lt_of_le (Heap.lt_size q) dn)
  have na : ∀ {b : Addr}, H b = none → b ≠ a := fun {b} n z => by rw [z, e] at n; cases n
  have Un1 : Un X.fs [] H (upd (upd H dx (exd dx [(f, y)])) a (exo a C (some dx))) hp h' :=
    ⟨fun b o q n _ _ => k b o (na n) q, fun b o q n _ _ => ⟨o.slots, k b o (na n) q⟩, fun b o q n _ => by rw [upd_ne (na n), upd_ne (nd q)]; exact n, fun b o q _ => by
      by_cases hb : b = a
      · exact ⟨_, by rw [hb]; exact hx⟩
      · exact ⟨o, k b o hb q⟩, fun b xs q => by rw [upd_ne (at_ne e q exo_tup), upd_ne (ne_of_none q hnd)]; exact q, fun b o v q => by rw [upd_ne (at_ne e q exo_frz), upd_ne (ne_of_none q hnd)]; exact q,
      fun b ps q => ⟨#[], by rw [upd_ne (at_ne e q exo_tbl), upd_ne (ne_of_none q hnd), q]; simp⟩⟩
  refine h dx _ hnd dne (I.un (t' := tk') Un1 fun b o q => ?_)
  by_cases hb : b = a
  · subst hb
    rw [upd_same] at q
    cases q
    exact exo_ok hx
  · rw [upd_ne hb] at q
    by_cases hd : b = dx
    · subst hd
      rw [upd_same] at q
      cases q
      exact exd_ok hn (relO_put (fs := []) ry fun g => True.intro)
    · rw [upd_ne hd] at q
      exact (I.hok b o q).stay (fun c v hc z => k c v (hc.elim (fun hc => by rw [hc]; exact hb) fun hc => at_ne e hc exo_own) z)
        (fun c hc => by rw [upd_ne (at_ne e hc exo_own), upd_ne (ne_of_none hc hnd)]; exact hc) (fun c xs hc => by rw [upd_ne (at_ne e hc exo_tup), upd_ne (ne_of_none hc hnd)]; exact hc)
end
/-- self.f = e, the first field -/
def tOsG (K : PySem.W.Frag) (f : Str) (to te : TE) : TS := fun D σ H => te σ H fun y H1 => to σ H1 fun x H2 => ∃ a C : Addr, x = .ref a ∧ OexG K C ∧ PySem.W.findIn K (.ref C) f = some none ∧ H2 a = some (exo a C none) ∧ ∀ dx, H2 dx = none → dx ≠ a → D.nx σ (upd (upd H2 dx (exd dx [(f, y)])) a (exo a C (some dx)))
theorem ps_osG {X : Cx} {o e : Expr} {to te : TE} {f : Str} {p' pos : Pos} (ho : PE X o to) (he : PE X e te) (hs : swapsWith e (some (.Attribute o f p')) pos.line X.env = pure false := by rfl) : PS X (.Assign [.Attribute o f p'] e pos) (tOsG X.K f to te) := by
  refine ⟨fun pins s σ H D I h => plainObj_wpAny_Assign_Attribute (thn (he.run pins s σ H _ I h) fun v s1 hv => ?_) hs⟩
  obtain ⟨y, H1, I1, r1, q1⟩ := hv
  refine thn (ho.run pins s1 σ H1 _ I1 q1) fun u s2 hu => ?_
  obtain ⟨x, H2, I2, r2, a, C, ex, T, hno, ea, q⟩ := hu
  subst ex
  obtain rfl : u = Value.ref a := r2
  exact ost_newG T I2 ea hno r1 fun dx s' n ne J => ⟨σ, _, J, q dx n ne⟩
end RV
end
section
/-! An own error is raised: its __init__ keeps the one value that it is given. -/
namespace RV
open PySem L2
variable {nn h : Bool}
/-- what such an __init__ does -/
def spX (K : PySem.W.Frag) (f : Str) : Sp := fun vs H Q _ => ∃ (a C : Addr) (y : V), vs = [.ref a, y] ∧ OexG K C ∧ PySem.W.findIn K (.ref C) f = some none ∧ H a = some (exo a C none) ∧
  ∀ dx, H dx = none → dx ≠ a → Q .non (upd (upd H dx (exd dx [(f, y)])) a (exo a C (some dx)))
section
variable {P : Program} {w : World} {K : PySem.W.Frag} {mg : Str → Option Value} {base : Heap}
theorem fn_X {x qual : Str} {params : Arguments} {body : List Stmt} {scope : Scope} {dvs : List V} {kws : List (Str × V)} {f : Addr} {fd : FuncData} {ps : List Str} {g : Str} (F : FunD K x qual params body scope dvs kws f fd) (S : FnScope ps ps scope) (h2 : ps.length = 2)
    (hb : ∀ (cdv : Value) (A : Around) (outer : List PySem.Env) (s : Shared) (H : Hp) (E : XK) (pp : Addr × Obj), PSs (cxG nn h P w K mg base ps qual scope f cdv A outer s H E pp) body (tOsG K g (tVar 0) (tVar 1))) : FnX ⟨false, nn, h⟩ P w K mg base 1 f fd ps (spX K g) := by
  refine fnX_of F S (fun vs H Q E h => ?_) (fun cdv A outer s H vs Q E pp _ hg hr h => ?_)
  · obtain ⟨a, C, y, rfl, _⟩ := h
    exact h2.symm
  · refine ⟨_, hb cdv A outer s H E pp, ?_⟩
    obtain ⟨a, C, y, rfl, T, hn, ha, q⟩ := h
    match ps, h2 with
    | [p0, p1], _ => exact ⟨y, rfl, .ref a, rfl, a, C, rfl, T, hn, ha, q⟩
/-- the module's name x is the class at C of own errors that keep their value as g -/
def Xc (P : Program) (w : World) (K : PySem.W.Frag) (mg : Str → Option Value) (base : Heap) (x : Str) (C : Addr) (g : Str) : Prop := ∃ (f : Addr) (fd : FuncData) (ps : List Str), OexG K C ∧ PySem.W.findIn K (.ref C) "__init__" = some (some (.ref f)) ∧ PySem.W.typeIn K (.ref f) = some (.type "function") ∧
  PySem.W.findIn K (.ref C) g = some none ∧ (∀ nn h, FnX ⟨false, nn, h⟩ P w K mg base 1 f fd ps (spX K g)) ∧ Binds K fd ps [] ∧ mg x = some (.ref C)
end
/-- C(e): the error's dict is new -/
def tMkX (C : Addr) (g : Str) (te : TE) : L2.St → Hp → XK → Prop := fun σ H Q => te σ H fun y H1 => ∀ d, H1 d = none → Q (.ref C) (some d) (upd H1 d (.xd [(g, y)]))
def oneX (C : Addr) (g : Str) (Q : XK) (vs : List V) (H1 : Hp) : Prop := match vs with
  | [y] => ∀ d, H1 d = none → Q (.ref C) (some d) (upd H1 d (.xd [(g, y)]))
  | _ => False
theorem oneX_ok {C : Addr} {g : Str} {Q : XK} {vs : List V} {H1 : Hp} (h : oneX C g Q vs H1) : ∃ y, vs = [y] ∧ ∀ d, H1 d = none → Q (.ref C) (some d) (upd H1 d (.xd [(g, y)])) := by
  match vs, h with
  | [y], h => exact ⟨y, rfl, h⟩
theorem spX_new {K : PySem.W.Frag} {C a : Addr} {g : Str} {y : V} {H1 : Hp} {Q : XK} (T : OexG K C) (hno : PySem.W.findIn K (.ref C) g = some none) (fr : H1 a = none) (q1 : ∀ d, H1 d = none → Q (.ref C) (some d) (upd H1 d (.xd [(g, y)]))) :
    spX K g [.ref a, y] (upd H1 a (exo a C none)) (fun v H2 => v = .non ∧ ∃ (d : Addr) (fs : List (Str × V)), H2 a = some (exo a C (some d)) ∧ H2 d = some (exd d fs) ∧ H1 d = none ∧ Q (.ref C) (some d) (upd (del H2 a) d (.xd fs))) (fun _ _ _ => False) := by
    refine ⟨a, C, y, rfl, T, hno, upd_same, fun dx hdx hne => ⟨rfl, dx, [(g, y)], upd_same, by rw [upd_ne hne, upd_same], ?_, ?_⟩⟩
    · rwa [upd_ne hne] at hdx
    · have z : upd (del (upd (upd (upd H1 a (exo a C none)) dx (exd dx [(g, y)])) a (exo a C (some dx))) a) dx (.xd [(g, y)]) = upd H1 dx (.xd [(g, y)]) := by
        funext b
        by_cases hb : b = dx
        · subst hb
          rw [upd_same, upd_same]
        · rw [upd_ne hb, upd_ne hb]
          by_cases hb2 : b = a
          · subst hb2
            rw [del_same, fr]
          · rw [del_ne hb2, upd_ne hb2, upd_ne hb, upd_ne hb2]
      rw [z]
      rw [upd_ne hne] at hdx
      exact q1 dx hdx
section
variable {X : Cx} {W : WX} {e : Expr} {te : TE} {pos p : Pos} {x g : Str} {C : Addr} {j : Nat}
theorem pmk_x (c : Xc X.prog X.w X.K X.mg X.base x C g) (hr : Room j X.A) (ha : PE X e te) (hj : 2 ≤ j := by decide) (hg : Gl X x := by rfl) (hdb : (x == ("__debug__" : Str)) = false := by decide)
    (he : starEach [e] X.env = [(false, eval e X.env)] := by rfl) : L2N.PMk X (.Call (.Name x p) [e] [] pos) (tMkX C g te) := by
  obtain ⟨f, fd, ps, T, iC, tI, hno, F0, hb, hm⟩ := c
  have F1 := F0 true false
  intro pins s σ H Q I h
  obtain ⟨nid, bl, eb, nm, qn, N, bs, bm, sn, sub, ab, col, dd, k0, k1, k2, k3, k5, hC, hbm⟩ := T.cls
  obtain ⟨B0, i0, FB⟩ := eb.base
  refine wpAny_Call_Name_kw (ld_glob I hg hm ?_ hdb)
  refine PySem.W.callWith_K (h₀ := X.base) I.ok.mod.kin T.kC (thn ((pa_cons ha pa_nil he).run pos pins s σ H (oneX C g Q) I h) fun us s1 hh => ?_) he rfl
  obtain ⟨vs, H1, I1, r1, q0⟩ := hh
  obtain ⟨y, rfl, q1⟩ := oneX_ok q0
  refine ⟨I1.kIn, ?_⟩
  show wpAny _ _ (call (.ref C) us) _ _ _
  match us, r1 with
  | [u], .cons ru .nil =>
  obtain ⟨hp, gg, dr, tk1, os⟩ := s1
  have up : hp.objs.size ≤ hp.objs.size + 1 := Nat.le_succ _
  have fr : H1 (hp.objs.size + 1) = none := I1.hok.fresh up
  generalize ea : hp.objs.size + 1 = a at up fr
  have old : ∀ b o, hp.get? b = some o → ((hp.push (PySem.W.kdv_tup [u])).push (PySem.HandSPX.excO C hp.objs.size)).get? b = some o := fun b o z => Heap.get?_push_of_some _ (Heap.get?_push_of_some _ z)
  have new : ((hp.push (PySem.W.kdv_tup [u])).push (PySem.HandSPX.excO C hp.objs.size)).get? a = some (PySem.HandSPX.excO C hp.objs.size) := by
    rw [← ea]
    heap_get
  have J : Inv X pins σ (upd H1 a (exo a C none)) ⟨(hp.push (PySem.W.kdv_tup [u])).push (PySem.HandSPX.excO C hp.objs.size), gg, dr, tk1, os⟩ := I1.laid (t' := tk1) (a := a) (o := exo a C none) old up (exo_ok new)
  have rr : Vals [V.ref a, y] [Value.ref a, u] := .cons rfl (.cons ru .nil)
  have sp := spX_new (Q := Q) T hno fr q1
  have hlen : ([Value.ref a, u] ++ []).length = ps.length := by
    have := F1.len _ _ _ _ sp
    exact this
  have bb := hb _ [Value.ref a, u] J.kIn hlen
  have hus : [u].length ≤ sizeLine := by show 1 ≤ sizeLine; decide
  have hr1 : Room (1 + 1) X.A := hr.mono hj
  subst ea
  refine wpAny_call (PySem.HandSPX.call_own FB (fun Y => PySem.W.excTail_contains Y bm hbm) (I1.kIn _ _ hC) (PySem.W.looks_findIn I1.kIn iC) (fun self => PySem.W.bind_fn I1.kIn self tI) hus
    (codeAny_mono (F1.ok.run _ X.stack _ _ ⟨[Value.ref (hp.objs.size + 1), u], []⟩ [Value.ref (hp.objs.size + 1), u] _ _ (fun _ _ _ => False) (hr1.make C [u] []) (J.env0.make C [u] []) bb rr sp) fun r s' hq => ?_))
  cases r with
  | error er =>
    exact (cxm_no (n := true) hq).elim
  | ok fl =>
    cases fl with
    | ret v =>
      obtain ⟨v1, H2, os2, bare2, un2, hok2, rv, ev, d, fs, e1, e2, hd1, q2⟩ := hq
      subst ev
      obtain ⟨h2, g2, d2, t2, os'⟩ := s'
      obtain ⟨t0, G, J2, kG, gn, there, na⟩ := mk_end0 (d2 := d2) (t2 := t2) I1 up old un2 hok2 os2 bare2 e1 e2 hd1
      refine ⟨rv, hp.objs.size + 1, _, _, ⟨G, g2, d2, t2, os'⟩, _, .ref C, some d, rfl, J2, kG, gn, there, ⟨rfl, rfl, fun zs hz => ?_⟩, rfl, rfl, na, rfl, bare2, raises_own T.exC T.tyC, q2⟩
      cases hz
      rfl
    | next => exact hq.elim
    | brk => exact hq.elim
    | cont => exact hq.elim
/-! ### the statement -/
theorem ps_raiseM {t : L2.St → Hp → XK → Prop} {pos : Pos} (hc : X.calm = true) (tk : Tk nn X W) (he : L2N.PMk X e t) : PS X (.Raise (some e) none pos) (fun _ σ H => t σ H fun cls d H' => W cls d σ H') := by
  cases nn
  · refine L2.ps_raise hc tk fun pins s σ H Q I q => thn (he pins s σ H Q I q) fun u s1 hu => ?_
    obtain ⟨a, oe, vs, sI, H', cls, d, z1, z2, z3, z4, z5, z6, z7⟩ := hu
    exact ⟨a, oe, vs, sI, H', cls, d, z1, z2, z3, z4, z5, z6.zc, z7⟩
  · exact L2N.ps_raise hc tk he
def sRaise (C : Addr) (g : Str) (ea : Env → M) : Env → MS := fun ρ S k => ea ρ S (fun d S' => k.ex (.exc C [(g, d)]) ρ S') fun e S' => k.ex e ρ S'
theorem gs_raise {ea : Env → M} {pos' : Pos} (hc : X.calm = true) (tk : Tk nn X W) (c : Xc X.prog X.w X.K X.mg X.base x C g) (hr : Room j X.A) (ha : GE X W e ea) (hj : 2 ≤ j := by decide) (hg : Gl X x := by rfl) (hdb : (x == ("__debug__" : Str)) = false := by decide)
    (he : starEach [e] X.env = [(false, eval e X.env)] := by rfl) : GS X W (.Raise (some (.Call (.Name x p) [e] [] pos)) none pos') (sRaise C g ea) := by
  obtain ⟨t, p, m⟩ := ha
  refine ⟨_, ps_raiseM hc tk (pmk_x c hr p hj hg hdb he), fun as F H S ρ σ I R k h E q => ?_⟩
  refine m as F H S ρ σ I R _ _ h _ (fun d S1 bs F1 H1 v h1 g1 r1 => ?_) (q.xq R)
  intro dd hdd
  have g2 := g1.sit.grow (o := .xd [(g, v)]) hdd
  have g12 := g1.trans g2
  exact q.ex _ ρ S1 bs _ _ σ _ _ h1 g12 (R.grow g12) ⟨C, dd, [(g, d)], [(g, v)], rfl, rfl, rfl, upd_same, .cons (RpE_aux g2 r1) .nil⟩
end
end RV
end
section
/-! try .. except C: a suite that raises nothing and calls nothing. -/
namespace RV
open PySem L2
def onX (e : D) (k : Addr → List (Str × D) → Prop) : Prop := match e with
  | .exc C fs => k C fs
  | _ => False
theorem onX_e {C : Addr} {fs : List (Str × D)} {k : Addr → List (Str × D) → Prop} : onX (.exc C fs) k = k C fs := rfl
/-- what runs, whatever it is -/
def tWp (X : Cx) (sts : List Stmt) : TS := fun E σ H => ∀ (pins : List (Addr × Obj)) (s : Shared), Inv X pins σ H s → wpAny (model X.prog X.w) X.A (execs sts X.env) (SP X pins E) X.xe s
def sTry1 (L : List Addr) (mb ms : Env → MS) : Env → MS := fun ρ S k => mb ρ S ⟨k.nx, k.rt, k.bk, k.ct, fun e ρ' S' => onX e fun C _ => C ∈ L ∧ ms ρ' S' ⟨k.nx, k.rt, k.bk, k.ct, fun _ _ _ => False⟩⟩
section
variable {X : Cx} {W : WX} {x : Str} {c : Value} {body suite : List Stmt} {b0 : Stmt} {np pos pos' : Pos} {mb ms : Env → MS} {L : List Addr}
theorem gs_try1 (hc : Names X x c) (hL : ∀ C ∈ L, PySem.W.exmOne X.K (.ref C) c = some true)
    (hb : ∀ (W : WX) (pn : List (Addr × Obj)) (xe : Value → Shared → Prop), Tk false (X.tr pn xe) W → GSs (X.tr pn xe) W body mb)
    (hsu : ∀ (a : Addr) (oe : Obj) (pn : List (Addr × Obj)), GSs (X.suite a ((a, oe) :: pn)) WF (b0 :: suite) ms)
    (hs : X.stack = X.env :: X.outer := by rfl) (hf : X.env.frame = some X.env.locals := by rfl) :
    GS X W (.Try body [.ExceptHandler (some (.Name x np)) none (b0 :: suite) pos'] [] [] pos) (sTry1 L mb ms) := by
  let tb : WX → TS := fun W E σ H => ∀ (pn : List (Addr × Obj)) (xe : Value → Shared → Prop), Tk false (X.tr pn xe) W → tWp (X.tr pn xe) body E σ H
  let tsu : Addr → Value → Option Addr → TS := fun a cls d E σ H => ∀ (oe : Obj) (pn : List (Addr × Obj)), tWp (X.suite a ((a, oe) :: pn)) (b0 :: suite) E σ H
  refine ⟨_, ps_try_only (tb := tb) (ts := tsu) (Wout := WF) hs hf hc (tkF (nn := false)) (fun W pn xe tk _ => ⟨fun pins s σ H E I h => h pn xe tk pins s I⟩) (fun a oe cls d pn _ _ => ⟨fun pins s σ H E I h => h oe pn pins s I⟩), fun as F H S ρ σ I R k h E q => ?_⟩
  intro pn xe tk
  obtain ⟨t, p, m⟩ := hb _ pn xe tk
  intro pins s J
  refine p.run pins s σ H E J (m as F H S ρ σ I R _ h E ⟨q.nx, q.rt, q.bk, q.ct, fun e ρ' S' bs F' H' σ' cls dd hx g R' r => ?_⟩)
  obtain ⟨C, d, fs, vfs, rfl, rfl, rfl, r4, r5⟩ := r
  refine ⟨true, hL C hx.1, fun _ a ha oe pn2 pins2 s2 J2 => ?_, fun z => nomatch z⟩
  obtain ⟨t2, p2, m2⟩ := hsu a oe pn2
  exact p2.run pins2 s2 σ' H' E J2 (m2 bs F' H' S' ρ' σ' g.sit R' _ hx.2 E ⟨(q.step g).nx, (q.step g).rt, (q.step g).bk, (q.step g).ct, fun _ _ _ _ _ _ _ _ _ z => z.elim⟩)
/-! ### a suite that raises another error -/
def sTry2 (L : List Addr) (mb : Env → MS) (C : Addr) (g : Str) (ea : Env → M) : Env → MS := fun ρ S k => mb ρ S ⟨k.nx, k.rt, k.bk, k.ct, fun e ρ' S' => onX e fun C' _ => C' ∈ L ∧ sRaise C g ea ρ' S' k⟩
theorem FnX.hot {nn : Bool} {P : Program} {w : World} {K : PySem.W.Frag} {mg : Str → Option Value} {base : Heap} {k : Nat} {f : Addr} {fd : FuncData} {ps : List Str} {sp : Sp} (F : FnX ⟨false, nn, true⟩ P w K mg base k f fd ps sp) : L2H.FnH P w K mg base (CXm nn P w) k f fd ps sp :=
  ⟨F.len, fun A outer s H args us vs Q E p hr hot hp e0 hb r h => F.run A outer s H args us vs Q E (fun z => nomatch z) ⟨hr, p, hp, hot.1, fun _ => hot.2⟩ e0 hb r h⟩
theorem gs_try2 {y g : Str} {C : Addr} {j : Nat} {e : Expr} {ea : Env → M} {p1 p2 p3 p4 : Pos} {n1 : Nat} (hc : Names X x c) (hL : ∀ C ∈ L, PySem.W.exmOne X.K (.ref C) c = some true) (tk : Tk false X W) (hr : Room j X.A) (cx : Xc X.prog X.w X.K X.mg X.base y C g) (TV : OexC X.K C)
    (hb : ∀ (W : WX) (pn : List (Addr × Obj)) (xe : Value → Shared → Prop), Tk true (X.tr pn xe) W → GSs (X.tr pn xe) W body mb)
    (hsu : ∀ (a : Addr) (oe : Obj) (pn : List (Addr × Obj)), GE (L2H.suiteX X a ((a, oe) :: pn)) W e ea)
    (hpa : ∀ hd : Option Value, PassesOwnAt (model X.prog X.w) (X.A.mark hd) X.A X.env X.xe) (hj : 2 ≤ j := by decide) (hg : Gl X y := by rfl) (hdb : (y == ("__debug__" : Str)) = false := by decide)
    (he : ∀ (a : Addr) (pn : List (Addr × Obj)), starEach [e] (L2H.suiteX X a pn).env = [(false, eval e (L2H.suiteX X a pn).env)] := by intros; rfl)
    (hs : X.stack = X.env :: X.outer := by rfl) (hf : X.env.frame = some X.env.locals := by rfl) :
    GS X W (.Try body [.ExceptHandler (some (.Name x np)) none [.Raise (some (.Call (.Name y p1) [e] [] p2)) (some (.Constant .none n1 p3)) p4] pos'] [] [] pos) (sTry2 L mb C g ea) := by
  obtain ⟨f, fd, ps, T, iC, tI, hno, F0, hbd, hm⟩ := cx
  let tb : WX → TS := fun W E σ H => ∀ (pn : List (Addr × Obj)) (xe : Value → Shared → Prop), Tk true (X.tr pn xe) W → tWp (X.tr pn xe) body E σ H
  let tsu : Addr → Value → Option Addr → TS := fun a cls d E σ H => ∀ (oe : Obj) (pn : List (Addr × Obj)), L2N.Zn cls d oe → (∃ vs, oe.data = .fields vs) → L2.Takes (L2H.suiteX X a ((a, oe) :: pn)) W → L2H.HotC (L2H.suiteX X a ((a, oe) :: pn)) →
    tWp (L2H.suiteX X a ((a, oe) :: pn)) [.Raise (some (.Call (.Name y p1) [e] [] p2)) (some (.Constant .none n1 p3)) p4] E σ H
  refine ⟨_, L2H.ps_try_onlyX (tb := tb) (ts := tsu) (Wout := W) hs hf hc hpa tk (fun W pn xe tk _ _ => ⟨fun pins s σ H E I h => h pn xe tk pins s I⟩) (fun a oe cls d pn z1 z2 z3 z4 => ⟨fun pins s σ H E I h => h oe pn z1 z2 z3 z4 pins s I⟩), fun as F H S ρ σ I R k h E q => ?_⟩
  intro pn xe tk2
  obtain ⟨t, p, m⟩ := hb _ pn xe tk2
  intro pins s J
  refine p.run pins s σ H E J (m as F H S ρ σ I R _ h E ⟨q.nx, q.rt, q.bk, q.ct, fun e0 ρ' S' bs F' H' σ' cls dd hx gg R' r => ?_⟩)
  obtain ⟨C', d, fs, vfs, rfl, rfl, rfl, r4, r5⟩ := r
  refine ⟨true, hL C' hx.1, fun _ a ha oe pn2 z1 z2 z3 z4 pins2 s2 J2 => ?_, fun z => nomatch z⟩
  obtain ⟨t2, pp2, m2⟩ := hsu a oe pn2
  have pk := L2H.pmk5_oexH (X := L2H.suiteX X a ((a, oe) :: pn2)) (p := p1) (pos := p2) TV iC tI (F0 true true).hot (L2H.roomH_mark (hr.mono hj) _) z4 hbd (fun pins σ H s e s' I c => (cxm_no (n := true) c).elim) hg hm (pa_cons pp2 pa_nil (he a _)) hdb (he a _) rfl
  refine (pss_one (L2H.ps_raiseHN z4 z3 pk)).run pins2 s2 σ' H' E J2 ?_
  refine m2 bs F' H' S' ρ' σ' gg.sit R' _ _ hx.2 _ (fun d0 S1 cs F1 H1 v h1 g1 r1 => ⟨by show 1 ≤ 1000; decide, fun a0 fr => spX_new (y := v) (Q := fun cls d H' => W cls d σ' H') T hno fr fun d2 hd2 => ?_⟩) ((q.step gg).xq R')
  have g2 := g1.sit.grow (o := .xd [(g, v)]) hd2
  have g12 := g1.trans g2
  exact (q.step gg).ex _ ρ' S1 cs _ _ σ' _ _ h1 g12 (R'.grow g12) ⟨C, d2, [(g, d0)], [(g, v)], rfl, rfl, rfl, upd_same, .cons (RpE_aux g2 r1) .nil⟩
end
end RV
end
section
/-! try .. except (A, B, C) as n: every error of the body is one of them. -/
namespace RV
open PySem L2 PySem.Spec PyProof.Rows
theorem fly_keep {h h' B : Heap} {l : List PySem.Env} {a : Addr} {Z : Obj → Prop} (x : HandSPX.FlyingZ B l a Z h) (k : ∀ b o, h.get? b = some o → h'.get? b = some o) : HandSPX.FlyingZ B l a Z h' := by
  obtain ⟨x1, x2, x3, oe, vs, T, oT, ts, y1, y2, y3, y4, y5, y6, y7, y8, y9⟩ := x
  exact ⟨fun b o e => k b o (x1 b o e), x2, Heap.FunFrames.of_keeps (fun b o e _ => ⟨o, k b o e, rfl⟩) x3, oe, vs, T, oT, ts, k _ _ y1, y2, y3, y4, y5, y6, k _ _ y7, y8, y9⟩
theorem sky_land {M : Model} {A : Around} {E₁ : Value → Shared → Prop} {env : PySem.Env} {outer : List PySem.Env} {L a : Addr} {B : Heap} {s : Shared} {cls : Value} {d : Option Addr} {Q : Unit → Shared → Prop} (hfr : A.frames = some (env :: outer)) (hf : env.frame = some L) : ∀ {n : Bool},
    Sky B (env :: outer) a (Zz n cls d) L s.heap → (∀ h', HandSPX.FlyingZ B (env :: outer) a (Zz n cls d) h' → s.heap.UpToSlots h' → Q () { s with heap := h' }) →
    wpAny M A (noteFrame (.ref a) env) (fun _ s₂ => wpAny M A (setFlight (.ref a) none) Q E₁ s₂) E₁ s
  | false, x, hQ => Sky.land Zc.steady hfr hf x hQ
  | true, x, hQ => L2N.Sky.land L2N.Zn.steady hfr hf x hQ
/-- the ends of a suite whose name n (slot i) is gone behind it -/
def endsAs (i : Nat) (E : Ends) : Ends := { nx := fun σ H => E.nx (σ.set i none) H, rt := E.rt, bk := fun σ H => E.bk (σ.set i none) H, ct := fun σ H => E.ct (σ.set i none) H }
def w3 (K : PySem.W.Frag) (cs : List Value) (i : Nat) (ts : Addr → Value → Option Addr → TS) (E : Ends) : WX := fun cls d σ H => PySem.W.exmAny K cls cs = some true ∧ ∀ a, H a = none → ts a cls d (endsAs i E) (σ.set i (some (.ref a))) H
section
variable {X : Cx} {x1 x2 x3 n : Str} {c1 c2 c3 : Value} {i : Nat} {body suite : List Stmt} {b0 : Stmt} {p1 p2 p3 p4 pos pos' : Pos} {k4 : Nat} {tb : WX → TS} {ts : Addr → Value → Option Addr → TS}
theorem ps_try3 {nz : Bool} (hs : X.stack = X.env :: X.outer) (hf : X.env.frame = some X.env.locals) (hN : X.N.Nodup) (hi : X.N[i]? = some n) (hln : X.env.kindOf n = some .local) (hc1 : Names X x1 c1) (hc2 : Names X x2 c2) (hc3 : Names X x3 c3)
    (hst : starEach [.Name x1 p1, .Name x2 p2, .Name x3 p3] X.env = [(false, eval (.Name x1 p1) X.env), (false, eval (.Name x2 p2) X.env), (false, eval (.Name x3 p3) X.env)])
    (hb : ∀ (W : WX) (pn : List (Addr × Obj)) (xe : Value → Shared → Prop), Tk nz (X.tr pn xe) W → PSs (X.tr pn xe) body (tb W))
    (hsu : ∀ (a : Addr) (oe : Obj) (cls : Value) (d : Option Addr) (pn : List (Addr × Obj)), Zz nz cls d oe → (∃ vs, oe.data = .fields vs) → PSs (X.suite a ((a, oe) :: pn)) (b0 :: suite) (ts a cls d)) :
    PS X (.Try body [.ExceptHandler (some (.Tuple [.Name x1 p1, .Name x2 p2, .Name x3 p3] k4 p4)) (some n) (b0 :: suite) pos'] [] [] pos) (fun E σ H => tb (w3 X.K [c1, c2, c3] i ts E) E σ H) := by
  refine ⟨fun pins s σ H E I h => ?_⟩
  have ok := I.ok
  have top : X.A.frames = some (X.env :: X.outer) := ok.frames.trans (by rw [hs])
  refine wpAny_Try_except ?_
  refine wpAny_mono ((hb (w3 X.K [c1, c2, c3] i ts E) (X.pn ++ pins) (fun e s1 => wpAny (model X.prog X.w) X.A (noteFrame e X.env) (fun _ s2 => wpAny (model X.prog X.w) X.A (setFlight e none) (fun _ s3 =>
    wpAny (model X.prog X.w) X.A (handleBy e X.env [.ExceptHandler (some (.Tuple [.Name x1 p1, .Name x2 p2, .Name x3 p3] k4 p4)) (some n) (b0 :: suite) pos']) (SP X pins E) X.xe s3) X.xe s2) X.xe s1) (tk_mk fun u s' xx => ?_)).run [] s σ H E (I.toTry _) h) (fun fl s1 hsp => ?_) (fun e s1 he => he)
  · obtain ⟨a, B, sI, pq, σ1, H1, cls, d, rfl, J0, nb, up, sky, na, os, ag, hm, hyes⟩ := xx
    have J : Inv X pins σ1 H1 sI := J0.ofTry ok
    have sky1 : Sky B (X.env :: X.outer) a (Zz nz cls d) X.env.locals s'.heap := by
      rw [← hs]
      exact sky
    show wpAny (model X.prog X.w) X.A (noteFrame (.ref a) X.env) _ _ _
    refine sky_land top hf sky1 fun h3 fl3 up3 => ?_
    have J3 : Inv X pins σ1 H1 { s' with heap := h3 } := J.landed nb fl3.1 (up.trans up3) os ag
    obtain ⟨oe3, vs3, he3, hz3, hd3⟩ := fl3.there
    have nfr : a ∉ frs (X.env :: X.outer) := fun hmm => by
      obtain ⟨_, o', e', hnf⟩ := fl3.2.2.1.mem hmm
      rw [he3] at e'
      cases e'
      exact hnf _ hd3
    have nL : a ≠ X.env.locals := fun z => nfr (List.mem_filterMap.mpr ⟨X.env, List.mem_cons_self, by rw [hf, z]⟩)
    have nF : a ∉ X.fs := fun hmm => by
      obtain ⟨e, he, q⟩ := List.mem_filterMap.mp hmm
      exact nfr (List.mem_filterMap.mpr ⟨e, List.mem_cons_of_mem _ he, q⟩)
    have S3 := J3.suite he3 hd3 na nL nF
    refine wpAny_handleBy_cons (codeAny_handlers_test ?_) (by intro q; cases q)
    have ld : ∀ {x : Str} {c : Value} {np : Pos} {Q : Value → Shared → Prop} {E' : Value → Shared → Prop}, Names X x c → Q c { s' with heap := h3 } → wpAny (model X.prog X.w) (X.A.mark (some (.ref a))) (eval (.Name x np) X.env) Q E' { s' with heap := h3 } := fun {x c np Q E'} hc q => by
      obtain ⟨hg, hdbg, hm | ⟨hm, hv, hnn⟩⟩ := hc
      · exact ld_glob (X := X.suite a ((a, oe3) :: (X.pn ++ pins))) S3 hg hm q hdbg
      · exact ld_blt (X := X.suite a ((a, oe3) :: (X.pn ++ pins))) S3 hg hm hv q hnn hdbg
    refine wpAny_Tuple_spliced ?_
    rw [hst]
    refine Calls.spliced_cons (ld hc1 ?_)
    refine Calls.spliced_cons (ld hc2 ?_)
    refine Calls.spliced_cons (ld hc3 ?_)
    refine Calls.spliced_nil ⟨by show 3 ≤ sizeLine; decide, ?_⟩
    have kp : ∀ b o, h3.get? b = some o → (h3.push { cls := .type "tuple", data := .seq [c1, c2, c3].toArray }).get? b = some o := fun b o e => Heap.get?_push_of_some _ e
    have LT : PySem.W.Looks (model X.prog X.w) (h3.push { cls := .type "tuple", data := .seq [c1, c2, c3].toArray }) (typeOf (.ref a)) cls := fun A Q E s k q => wpAny_typeOf_ref (k _ _ (kp _ _ he3)) (by rw [hz3.zc.1]; exact q)
    have LM := PySem.W.exm_tup3 (M := model X.prog X.w) (J3.kIn.keeps kp) LT (Heap.get?_push_size _ rfl) hm
    refine LM.here ?_
    refine codeAny_handlers_suite_as ?_
    refine HandSPX.lands_againZ (fly_keep fl3 kp) fun h4 fl4 up4 => ?_
    have J4 : Inv X pins σ1 H1 { s' with heap := h4 } := J.landed nb fl4.1 (((up.trans up3).trans (Heap.UpToSlots.of_keeps kp)).trans up4) os ag
    obtain ⟨oe4, vs4, he4, hz4, hd4⟩ := fl4.there
    have S4 := J4.suite he4 hd4 na nL nF
    refine store_ok (X := X.suite a ((a, oe4) :: (X.pn ++ pins))) (v := .ref a) S4 hN hi (.inl hln) rfl (fun s5 S5 => ?_) (.inr hln)
    refine wpAny_mono ((hsu a oe4 cls d (X.pn ++ pins) hz4 ⟨_, hd4⟩).run [] s5 _ H1 _ S5 (hyes a na)) (fun f s6 hsp => ?_) (fun _ _ z => False.elim z)
    have gone : ∀ {σ6 : L2.St} {H6 : Hp} {Q : Shared → Prop}, Inv (X.suite a ((a, oe4) :: (X.pn ++ pins))) [] σ6 H6 s6 → (∀ s7, Inv X pins (σ6.set i none) H6 s7 → Q s7) →
        wpAny (model X.prog X.w) X.A (do bindName X.env n .none; unbindBehindTheSuite X.env n pos') (fun _ s7 => Q s7) X.xe s6 := fun {σ6 H6 Q} S6 hq => gone_ok (S6.unsuite ok) hN hi hln hq
    cases f with
    | next =>
      obtain ⟨σ6, H6, S6, q6⟩ := hsp
      exact gone S6 fun s7 J7 => ⟨_, _, J7, q6⟩
    | brk =>
      obtain ⟨σ6, H6, S6, q6⟩ := hsp
      exact gone S6 fun s7 J7 => ⟨_, _, J7, q6⟩
    | cont =>
      obtain ⟨σ6, H6, S6, q6⟩ := hsp
      exact gone S6 fun s7 J7 => ⟨_, _, J7, q6⟩
    | ret u =>
      obtain ⟨v6, σ6, H6, S6, r6, q6⟩ := hsp
      exact gone S6 fun s7 J7 => ⟨_, _, _, J7, r6, q6⟩
  · cases fl with
    | next =>
      obtain ⟨σ1, H1, J1, q⟩ := hsp
      exact wpAny_execs_nil ⟨σ1, H1, J1.ofTry ok, q⟩
    | brk =>
      obtain ⟨σ1, H1, J1, q⟩ := hsp
      exact ⟨σ1, H1, J1.ofTry ok, q⟩
    | cont =>
      obtain ⟨σ1, H1, J1, q⟩ := hsp
      exact ⟨σ1, H1, J1.ofTry ok, q⟩
    | ret u =>
      obtain ⟨v, σ1, H1, J1, r, q⟩ := hsp
      exact ⟨v, σ1, H1, J1.ofTry ok, r, q⟩
end
section
variable {X : Cx} {W : WX} {x1 x2 x3 n : Str} {c1 c2 c3 : Value} {body suite : List Stmt} {b0 : Stmt} {p1 p2 p3 p4 pos pos' : Pos} {k4 : Nat} {mb : Env → MS} {ms : Addr → Addr → Addr → Env → MS} {L : List Addr}
end
end RV
end
section
/-! The error that is handled, as a value: its fields; isinstance. -/
namespace RV
open PySem PySem.W PySem.Spec PySem.Calls PyProof.Rows
section
variable {prog : Program} {w : World} {A : Around} {E : Value → Shared → Prop} {s : Shared} {K : Frag} {x D : Addr} {ox : Obj} {od : Option Obj}
theorem find_data {C : Addr} {name : Str} {a g : Value} (hc : (clsIn K C).isSome = true) (ha : findIn K (.ref C) name = some (some a)) (hg : specialIn K a "__get__" = some (some g)) (ht : takesIn K a = some true) : findObj K C od name = some (.bind g a) := by
  obtain ⟨cd, hcd⟩ := Option.isSome_iff_exists.mp hc
  unfold findObj
  rw [hcd, Option.bind_some, ha, Option.bind_some]
  simp [hg, ht]
theorem class_ofE {Q : Option Value → Shared → Prop} (C : L2.ExcC K D) (X : K.In s.heap) (I : InstAt s.heap x ox D od) (h : Q (some (.ref D)) { s with toks := s.toks + 1 }) : wpAny (model prog w) A (getAttr? (.ref x) "__class__") Q E s := by
  have hf : findObj K D od "__class__" = some (.bind (.builtin "getset_descriptor.__get__") (.builtin "object.__class__")) := find_data (by obtain ⟨cd, hc, _⟩ := any_some C.hd; rw [hc]; rfl) C.ha C.hn C.ht
  obtain ⟨hp, g, d, t, os⟩ := s
  have T0 := I.type (M := model prog w)
  have T1 := looks_findIn (M := model prog w) X C.hg
  have T2 := looks_findIn (M := model prog w) X C.hk
  have T3 := looks_find (M := model prog w) X I hf
  have sub : Looks (model prog w) hp (isInstance (.ref x) (.type "BaseException")) true := T0.andThen (looks_subIn X C.hs)
  have z0 : (false && onTheHeap (Value.builtin "BaseException.__getattribute__")) = false := rfl
  have z2 : (Value.builtin "BaseException.__getattribute__" == Value.builtin "object.__getattribute__") = false := by decide +kernel
  have z1 : (onTheHeap (Value.ref D) && Value.builtin "BaseException.__getattribute__" == Value.builtin "object.__getattribute__") = false := by rw [z2]; rfl
  unfold getAttr? getAttrBy? getAttrBy
  refine wpAny_bind (wpAny_mkText (wpAny_bind (wpAny_attempt (wpAny_holding (wpAny_bind (T0.at (wpAny_bind (T1.at ?_))))))))
  show wpAny _ _ (if (onTheHeap (Value.ref D) && Value.builtin "BaseException.__getattribute__" == Value.builtin "object.__getattribute__") = true then _ else _) _ _ _
  rw [z1, if_neg Bool.false_ne_true]
  unfold getAttrByItsOwn hookBefore
  refine wpAny_bind ?_
  rw [if_pos (show onTheHeap (Value.ref D) = true from rfl)]
  refine T2.at (wpAny_bind (wpAny_attempt (wpAny_holding ?_)))
  unfold callGetattribute
  rw [z0, if_neg Bool.false_ne_true]
  unfold boundAndCalled
  rw [PySem.F.excAttr_ValueError.ga.bind (.ref x)]
  refine wpAny_bind (wpAny_pure ?_)
  show wpAny _ _ (call (.builtin "BaseException.__getattribute__") [.ref x, .str "__class__" t]) _ _ _
  refine wpAny_call (codeAny_call_builtin PySem.F.excAttr_ValueError.ga.plain PySem.F.entry_bexc_ga ?_)
  refine @check_slot (model prog w) _ _ ⟨hp, g, d, t + 1, os⟩ "BaseException.__getattribute__" "BaseException" "__getattribute__" (.ref x) [.str "__class__" t] [] _ (by decide +kernel) (by decide +kernel) sub (PySem.F.args_bexc_ga (.ref x) (.str "__class__" t)) ?_
  unfold Builtin.«object.__getattribute__»
  refine wpAny_bind (wpAny_of_eq (a := ((Value.ref x : Value), [Value.str "__class__" t])) (by first | rfl | (simp only [slotArgs]; rfl)) ?_)
  refine wpAny_bind (wpAny_pure (wpAny_bind (T0.at (wpAny_bind (T3.at ?_)))))
  show wpAny _ _ (holding [Value.builtin "object.__class__"] (call (.builtin "getset_descriptor.__get__") [.builtin "object.__class__", .ref x, .ref D]) >>= ret) _ _ _
  refine wpAny_bind (wpAny_holding (wpAny_call (class_get (s := ⟨hp, g, d, t + 1, os⟩) (ox := ox) (od := od) X I C.hm ?_)))
  refine wpAny_pure ?_
  show wpAny _ _ (handedOut (.ref D)) _ _ _
  rw [handedOut_of (v := .ref D) rfl]
  first
    | exact wpAny_pure (wpAny_pure h)
    | exact wpAny_pure h
    | exact wpAny_pure (wpAny_bind (wpAny_pure (wpAny_pure h)))
theorem kitE (C : L2.ExcC K D) : KitX K (.ref x) (.ref D) (fun h => ∃ od, InstAt h x ox D od) where
  ty := fun _ _ _ ⟨_, I⟩ => I.type
  it := fun _ _ X _ => by
    obtain ⟨cdD, hcD, _⟩ := any_some C.hd
    unfold clsIn at hcD
    split at hcD
    · rename_i c1 d1 cd1 sl1 ho
      intro A1 Q1 E1 s1 k q
      unfold isType loadHead
      exact wpAny_bind (wpAny_loadPart (k _ _ (X _ _ ho)) (wpAny_pure q))
    · cases hcD
  ne := fun h tp dd its n sl X htp => by
    obtain ⟨cdD, hcD, _⟩ := any_some C.hd
    refine Bool.eq_false_iff.mpr fun q => ?_
    have e : D = tp := Value.ref.inj (beq_iff_eq.mp q)
    subst e
    unfold clsIn at hcD
    split at hcD
    · rename_i c1 d1 cd1 sl1 ho
      have z := (X _ _ ho).symm.trans htp
      cases z
    · cases hcD
  ca := fun X ⟨_, I⟩ k => class_ofE C X I k
end
open L2
section
variable {X : Cx} {a C d : Addr} {oe : Obj}
/-- the pin's object, as an instance -/
theorem inst_pin {pins : List (Addr × Obj)} {s : Shared} {σ : L2.St} {H : Hp} {fs : List (Str × V)} (hp : (a, oe) ∈ X.pn) (hz : Zc (.ref C) (some d) oe) (hf : ∃ vs, oe.data = .fields vs) (I : Inv X pins σ H s) (hd : H d = some (.xd fs)) :
    ∃ (od : Obj) (mA : Str → Option Value), PySem.W.InstAt s.heap a oe C (some od) ∧ (∀ name, PySem.W.lookIn name od = some (mA name)) ∧ ∀ f, RelO (fs.lookup f) (mA f) := by
  obtain ⟨ha, _⟩ := I.pin (a, oe) (List.mem_append_left _ hp)
  obtain ⟨vs, hv⟩ := hf
  have hx : ObjOk X.prog X.w H s.heap d (.xd fs) := I.hok d _ hd
  obtain ⟨mA, hns, hr⟩ := hx
  obtain ⟨od, ho, hl⟩ := lookIn_ns hns
  exact ⟨od, mA, ⟨ha, hz.1, by unfold PySem.W.notCls; rw [hv] <;> rfl, by rw [hz.2]; exact ho⟩, hl, hr⟩
/-- e.f, e the handled error -/
def tXg (a C d : Addr) (f : Str) (te : TE) : TE := fun σ H Q => te σ H fun x H1 => x = .ref a ∧ ∃ (fs : List (Str × V)) (v : V), H1 d = some (.xd fs) ∧ fs.lookup f = some v ∧ Q v H1
theorem pe_xg {e : Expr} {te : TE} {pos : Pos} {f : Str} (T : XfC X.K C) (hno : PySem.W.findIn X.K (.ref C) f = some none) (hp : (a, oe) ∈ X.pn) (hz : Zc (.ref C) (some d) oe) (hf : ∃ vs, oe.data = .fields vs) (he : PE X e te)
    (hb : attributeBase e f X.env (eval e X.env) = eval e X.env := by rfl) : PE X (.Attribute e f pos) (tXg a C d f te) := by
  refine ⟨fun pins s σ H Q I h => attr_of hb (thn (he.run pins s σ H _ I h) fun u s1 hh => ?_)⟩
  obtain ⟨y, H1, I1, ry, rfl, fs, v, hd, hl, q⟩ := hh
  obtain rfl : u = Value.ref a := ry
  obtain ⟨od, mA, J, lk, rel⟩ := inst_pin hp hz hf I1 hd
  obtain ⟨u, hu, ru⟩ := RelO.some_of (v := v) (o := mA f) (by rw [← hl]; exact rel f)
  exact HandSPX.exc_get I1.kIn J T.ga T.gg T.exC (PySem.W.findObj_own T.hdC hno rfl (by rw [lk, hu])) (handed_of ru) ⟨v, H1, I1.tok _, ru, q⟩
/-- isinstance(e, c) -/
def rIsG (K : PySem.W.Frag) (a C d : Addr) : List V → Hp → VK → Prop := fun xs H Q => ∃ (c : V) (cv : Value) (b : Bool) (fs : List (Str × V)), xs = [.ref a, c] ∧ H d = some (.xd fs) ∧ (∀ u, RelV c u → u = cv) ∧ PySem.W.kitOne K (.ref C) cv = some b ∧ Q (.bl b) H
theorem call_isG (T : ExcC X.K C) (hp : (a, oe) ∈ X.pn) (hz : Zz zN (.ref C) (some d) oe) (hf : ∃ vs, oe.data = .fields vs) : CallR X (.builtin "isinstance") (rIsG X.K a C d) := by
  intro pins s σ H xs us Q I r h
  obtain ⟨c, cv, b, fs, rfl, hd, hcv, e, q⟩ := h
  match us, r with
  | [u0, u1], .cons rx (.cons rt .nil) =>
    obtain rfl : u0 = Value.ref a := rx
    obtain rfl := hcv _ rt
    obtain ⟨od, mA, J, _, _⟩ := inst_pin hp hz.zc hf I hd
    exact PySem.W.kia_one (kitE (ox := oe) T) I.kIn ⟨some od, J⟩ e (fun z => nomatch z) fun tk => ⟨.bl b, H, I.kept (t' := tk) fun _ _ z => z, rfl, q⟩
def onV (a C d : Addr) (u : D) (k : List (Str × D) → Prop) : Prop := match u with
  | .exv a1 C1 d1 fs => (a1 = a ∧ C1 = C ∧ d1 = d) ∧ k fs
  | _ => False
theorem onV_v {fs : List (Str × D)} {k : List (Str × D) → Prop} : onV a C d (.exv a C d fs) k = k fs := by simp [onV]
def eXg (a C d : Addr) (f : Str) (ea : RV.Env → M) : RV.Env → M := fun ρ S q x => ea ρ S (fun u S1 => onV a C d u fun fs => onS (fs.lookup f) fun y => q y S1) x
theorem ge_xg {W : WX} {e : Expr} {ea : RV.Env → M} {pos : Pos} {f : Str} (T : XfC X.K C) (hno : PySem.W.findIn X.K (.ref C) f = some none) (hp : (a, oe) ∈ X.pn) (hz : Zz zN (.ref C) (some d) oe) (hf : ∃ vs, oe.data = .fields vs) (he : GE X W e ea)
    (hb : attributeBase e f X.env (eval e X.env) = eval e X.env := by rfl) : GE X W (.Attribute e f pos) (eXg a C d f ea) := by
  obtain ⟨t, p, m⟩ := he
  refine ⟨_, pe_xg T hno hp hz.zc hf p hb, fun as F H S ρ σ I R q x h Q hq hx => ?_⟩
  refine m as F H S ρ σ I R _ x h _ (fun u S1 bs F1 H1 v h1 g r => ?_) hx
  cases r with
  | exv z1 z2 =>
    obtain ⟨⟨rfl, rfl, rfl⟩, h2⟩ := h1
    obtain ⟨y, h3, h4⟩ := onS_ok h2
    obtain ⟨w, h5, h6⟩ := z2.look h3
    exact ⟨rfl, _, w, g.sit.ex _ _ z1, h5, hq y S1 bs F1 H1 w h4 g h6⟩
  | _ => exact h1.elim
def isXD (a C d : Addr) (tb : Value → Option Bool) : WS → List D → Option D := fun _ xs => match xs with
  | [.exv a1 C1 d1 _, c] => if a1 = a ∧ C1 = C ∧ d1 = d then (clsD c).bind fun u => (tb u).map D.bl else none
  | _ => none
theorem rc_isX {K : PySem.W.Frag} {tb : Value → Option Bool} (ht : ∀ u b, tb u = some b → PySem.W.kitOne K (.ref C) u = some b) : RC K (rIsG K a C d) (isXD a C d tb) := fun as F H S ds z vs I r h Q q => by
  unfold isXD at h
  split at h
  · split at h
    · rename_i hh
      obtain ⟨rfl, rfl, rfl⟩ := hh
      simp only [Option.bind_eq_some_iff, Option.map_eq_some_iff] at h
      obtain ⟨u, h2, b, h3, rfl⟩ := h
      obtain ⟨v, ws, rfl, rv, rn⟩ := r.unsn
      obtain ⟨w, ys, rfl, rw1, rn⟩ := rn.unsn
      obtain rfl := rn.unnil
      cases rv with
      | exv z1 z2 =>
        refine ⟨w, u, b, _, rfl, I.ex _ _ z1, ?_, ht u b h3, keep I q (.bl _)⟩
        cases rw1 with
        | ty n =>
          cases h2
          exact fun u1 hu => hu
        | adr p =>
          cases h2
          exact fun u1 hu => hu
        | _ => cases h2
    · cases h
  · cases h
end
end RV
end
section
/-! A def that is called with the error that is handled. -/
namespace RV
open PySem L2
structure FnE (g : Bool) (P : Program) (w : World) (K : PySem.W.Frag) (mg : Str → Option Value) (base : Heap) (k : Nat) (f : Addr) (fd : FuncData) (ps : List Str) (sp : Addr → Addr → Addr → Sp) : Prop where
  len : ∀ a C d vs H Q E, sp a C d vs H Q E → vs.length = ps.length
  run : ∀ (A : Around) (outer : List PySem.Env) (s : Shared) (H : Hp) (args : Args) (us : List Value) (vs : List V) (Q : VK) (a C d : Addr) (oe : Obj), (g = true → A.guards = some []) → L2H.RoomH k A → A.handled = some (.ref a) → L2H.PinOk outer H s (a, oe) → Zz zN (.ref C) (some d) oe → (∃ zs, oe.data = .fields zs) →
    Env0 P w K mg base A outer s H → BindsTo s fd args (ps.zip us) → Vals vs us → sp a C d vs H Q E0 → codeAny (model P w) A (.call (.ref f) args) (CR (CXm false P w) outer P w H s Q E0) s
section
variable {P : Program} {w : World} {K : PySem.W.Frag} {mg : Str → Option Value} {base : Heap}
theorem fn_E {g : Bool} {x qual : Str} {params : Arguments} {body : List Stmt} {scope : Scope} {dvs : List V} {kws : List (Str × V)} {f : Addr} {fd : FuncData} {N ps : List Str} {k : Nat} {m : Addr → Addr → Addr → Env → MS} (F : FunD K x qual params body scope dvs kws f fd) (S : FnScope N ps scope)
    (hb : ∀ (cdv : Value) (A : Around) (outer : List PySem.Env) (s : Shared) (H : Hp) (a C d : Addr) (oe : Obj), (g = true → (cxG false true P w K mg base N qual scope f cdv A outer s H E0 (a, oe)).A.guards = some []) → Rx true k (cxG false true P w K mg base N qual scope f cdv A outer s H E0 (a, oe)) → Zz zN (.ref C) (some d) oe → (∃ zs, oe.data = .fields zs) →
      GSs (cxG false true P w K mg base N qual scope f cdv A outer s H E0 (a, oe)) WF body (m a C d)) : FnE g P w K mg base (k + 1) f fd ps (fun a C d => spG K ps.length (fnD N.length (m a C d))) := by
  obtain ⟨oc, od, dV, kV, doc, pm, an, cdv, ct, osl, rfl, lk, hcd, _, _⟩ := F.ex
  refine ⟨fun a C d => spG_len, fun A outer s H args us vs Q a C d oe hg hr hd hp hz hf e0 hbn r hsp => ?_⟩
  have still : ∀ b o, base.get? b = some o → s.heap.get? b = some o := fun b o e => (e0.bs b o e).1
  have KX : K.In s.heap := e0.mod.kin.keeps still
  have bound : ∀ y ∈ ps.zip us, scope.names.lookup y.1 = some .local ∨ (scope.names.lookup y.1 = some .cell ∧ ((cellsFrom (s.heap.objs.size + 1) scope.names []).lookup y.1).isSome = true) := by
    rintro ⟨n, v⟩ hy
    rcases S.par n (List.of_mem_zip hy).1 with q | q
    · exact Or.inl q
    · exact Or.inr ⟨q, PySem.W.cellsFrom_some _ _ _ (.inl q)⟩
  refine codeAny_call_function hr.depth (KX _ _ lk) rfl S.co S.gen rfl (PySem.W.codeRec_of KX hcd) (hbn _ _ _ _ ?_)
  refine wpAny_newFunctionEnv_cells S.kind bound fun env he s1 x => ?_
  subst he
  refine ⟨(e0.mod.nolimit.keeps still).keeps x.toInCall.keep, codeAny_func ?_⟩
  have I : Inv (cxG false true P w K mg base N qual scope f cdv A outer s H E0 (a, oe)) [] (L2.start N vs) H s1 := L2H.inv_startH (CX := CXm false P w) (E := E0) (f := f) (cd := cdv) (qual := qual) S hp e0 (spG_len _ _ _ _ hsp) r x
  obtain ⟨t, ht, hm⟩ := hb cdv A outer s H a C d oe hg ⟨hr.deeper _, (a, oe), List.mem_cons_self .., hq_of hd hf hz⟩ hz hf
  refine wpAny_mono (ht.run [] s1 (L2.start N vs) H _ I (fnD_run (E := E0) hm hsp)) (fun fl s' hs => ?_) fun e s' hs => hs
  cases fl with
  | ret u =>
    obtain ⟨v, σ', H', J, rv, q⟩ := hs
    exact ⟨v, H', J.os, J.bare, J.base, J.hok, rv, q⟩
  | next =>
    obtain ⟨σ', H', J, q⟩ := hs
    exact ⟨V.non, H', J.os, J.bare, J.base, J.hok, rfl, q⟩
  | brk =>
    obtain ⟨_, _, _, q⟩ := hs
    exact q.elim
  | cont =>
    obtain ⟨_, _, _, q⟩ := hs
    exact q.elim
/-- the module's name x is such a def -/
def Fe (P : Program) (w : World) (K : PySem.W.Frag) (mg : Str → Option Value) (base : Heap) (g : Bool) (x : Str) (k n : Nat) (G : Addr → Addr → Addr → List D → M) : Prop := ∃ (f : Addr) (fd : FuncData) (ps : List Str), FnE g P w K mg base k f fd ps (fun a C d => spG K n (G a C d)) ∧ Binds K fd ps [] ∧ PySem.W.keepIn K (.ref f) = true ∧ mg x = some (.ref f)
end
section
variable {X : Cx} {W : WX} {e : Expr} {es : List Expr} {pos p : Pos} {er : Env → ML} {x : Str} {k j n : Nat} {g : Bool} {G : Addr → Addr → Addr → List D → M} {a C d : Addr} {oe : Obj}
theorem ge_callE (c : Fe X.prog X.w X.K X.mg X.base g x k n G) (hgd : g = true → X.A.guards = some []) (hr : L2H.RoomH j X.A) (hh : X.A.handled = some (.ref a)) (hp : (a, oe) ∈ X.pn) (hz : Zz zN (.ref C) (some d) oe) (hf : ∃ zs, oe.data = .fields zs) (ha : GA X W (e :: es) er) (hj : k ≤ j := by decide) (hg : Gl X x := by rfl) (hdb : (x == ("__debug__" : Str)) = false := by decide)
    (h1 : starEach (e :: es) X.env = (false, eval e X.env) :: starEach es X.env := by rfl) (h2 : (backTo pos (starEach es X.env)).any (·.1) = false := by rfl) : GE X W (.Call (.Name x p) (e :: es) [] pos) (fun ρ S q x => er ρ S (fun ds S1 => ds.length = n ∧ G a C d ds S1 q noX) x) := by
  obtain ⟨f, fd, ps, F, hb, hk, hm⟩ := c
  obtain ⟨t, pa, m⟩ := ha
  refine ⟨tFn (spG X.K n (G a C d)) [] (fun _ => E0) t, ⟨fun pins s σ H Q I h => ?_⟩, fun as F H S ρ σ I R q x h Q hq hx => ?_⟩
  · refine wpAny_Call_Name_kw (ld_glob I hg hm ?_ hdb)
    refine PySem.W.callWith_K (h₀ := X.base) I.ok.mod.kin hk (thn (pa.run pos pins s σ H _ I h) fun us s1 hh1 => ?_) h1 h2
    obtain ⟨vs, H1, I1, r1, q1⟩ := hh1
    refine ⟨I1.kIn, ?_⟩
    rw [List.append_nil] at q1
    have hl : (us ++ []).length = ps.length := by
      rw [List.append_nil]
      exact r1.length.symm.trans (F.len _ _ _ _ _ _ _ q1)
    have b := hb s1 us I1.kIn hl
    rw [List.append_nil] at b
    have P1 := I1.pin (a, oe) (List.mem_append_left _ hp)
    have pin : L2H.PinOk X.stack H1 s1 (a, oe) := ⟨P1.1, P1.2.1, fun hm => (List.mem_cons.mp (I1.stkSub a hm)).elim P1.2.2.1 P1.2.2.2.1, P1.2.2.2.2⟩
    refine wpAny_call (codeAny_mono (F.run X.A X.stack s1 H1 ⟨us, []⟩ us vs Q a C d oe hgd (hr.mono hj) hh pin hz hf I1.env0 b r1 q1) fun r s' hq => ?_)
    cases r with
    | error er => exact (cxm_no (n := false) hq).elim
    | ok fl =>
      cases fl with
      | ret u => exact I1.after hq
      | next => exact hq.elim
      | brk => exact hq.elim
      | cont => exact hq.elim
  · refine m as F H S ρ σ I R _ x h _ (fun ds S1 bs F1 H1 vs h1 g1 r1 => ?_) hx
    rw [List.append_nil]
    exact ⟨bs, F1, S1, ds, q, noX, g1.sit, r1, h1.1, h1.2, hq.step g1, XQ.no⟩
end
end RV
end
section
/-! count and index of a list of flat things. -/
namespace RV
open PySem L2 PySem.Spec PyProof.Rows
section
variable {X : Cx}
def rCntF (K : PySem.W.Frag) : V → List V → Hp → VK → Prop := fun x xs H Q => ∃ (a : Addr) (ys : List V) (y : V), x = V.ref a ∧ xs = [y] ∧ SqL K H a ys ∧ flatV y = true ∧ ys.all flatV = true ∧ Q (.int ((ys.countP fun z => eqV z y : Nat) : Int)) H
theorem count_eq {y : V} : ∀ {ys : List V} {us : List Value}, Vals ys us → ys.all flatV = true → us.countP (eqU y) = ys.countP fun z => eqV z y
  | _, _, .nil, _ => rfl
  | _, _, .cons h r, f => by
    simp only [List.all_cons, Bool.and_eq_true] at f
    rw [List.countP_cons, List.countP_cons, count_eq r f.2, eqU_of h f.1]
theorem mt_countF : MtR X "list.count" (rCntF X.K) := by
  intro pins s σ H x xs v us Q I rx rxs h
  obtain ⟨a, ys, y, rfl, rfl, hs, fy, fys, q⟩ := h
  cases rx
  obtain ⟨u, rfl, ru⟩ := rxs.one
  obtain ⟨its, rv, ⟨⟨cls, dd, data, sl⟩, n, ho, hc, hdn, hd⟩, hlen⟩ := I.list hs
  simp only at hc hd
  subst hc hd
  refine call_meets PySem.F.slot_list_count ⟨_, ho, rfl⟩ PySem.F.entry_list_count (PySem.F.args_list_count_2 _ _)
    (SeqAt.list_countAt a its.toArray n dd sl u (eqU y)) ⟨ho, fun w hw => mem_eqAt ru fy rv fys w (by simpa using hw), ?_⟩
  have ec : its.toArray.toList.countP (eqU y) = ys.countP fun z => eqV z y := count_eq rv fys
  refine ⟨.int ((ys.countP fun z => eqV z y : Nat) : Int), H, I.tok _, ⟨s.toks, ?_⟩, q⟩
  show Value.int ((its.toArray.toList.countP (eqU y) : Nat) : Int) s.toks = _
  rw [ec]
end
def onLs (u : D) (k : List D → Prop) : Prop := match u with
  | .lst ds => k ds
  | _ => False
theorem onLs_l {ds : List D} {k : List D → Prop} : onLs (.lst ds) k = k ds := rfl
/-- a method of a list that stands still -/
def eLm (f : List D → D → Option D) (ea eb : RV.Env → M) : RV.Env → M := fun ρ S q x => ea ρ S (fun u S1 => onLs u fun ds => eb ρ S1 (fun v S2 => onS (f ds v) fun d => q d S2) x) x
def countF (ds : List D) (v : D) : Option D := if flatD v = true ∧ ds.all flatD = true then some (.int ((ds.countP fun y => eqFl y v : Nat) : Int)) else none
def indexF (ds : List D) (v : D) : Option D := if flatD v = true ∧ ds.all flatD = true then (ds.findIdx? fun y => eqFl y v).map fun j => .int ((j : Nat) : Int) else none
section
variable {X : Cx} {W : WX} {o e : Expr} {eo ee : RV.Env → M} {apos cpos : Pos}
theorem countP_v {K : PySem.W.Frag} {as : List Addr} {F : Hp} {x : D} {vx : V} (rx : Rp K as F x vx) (hx : flatD x = true) : ∀ {ds : List D} {vs : List V}, RpL K as F ds vs → ds.all flatD = true → (vs.countP fun z => eqV z vx) = ds.countP fun y => eqFl y x
  | _, _, .nil, _ => rfl
  | _, _, .cons h r, f => by
    simp only [List.all_cons, Bool.and_eq_true] at f
    rw [List.countP_cons, List.countP_cons, countP_v rx hx r f.2, eqFl_v h rx f.1 hx]
/-- a list's method with a rule r that is told by f -/
theorem ge_lm {name : Str} {id : String} {r : V → List V → Hp → VK → Prop} {f : List D → D → Option D} (slot : Slot "list" name id) (hty : typeOf (.builtin id) = pure (.type "method_descriptor")) (hm : MtR X id r)
    (hr : ∀ as F H S ds v d a xs vv, Sit X.K as F H S → SqL X.K H a xs → RpL X.K as F ds xs → Rp X.K as F v vv → f ds v = some d → ∀ Q : VK, (∀ F' H' u, Grow X.K as F H as F' H' S → Rp X.K as F' d u → Q u H') → r (.ref a) [vv] H Q)
    (ho : GE X W o eo) (he : GE X W e ee) (hbase : attributeBase o name X.env (eval o X.env) = eval o X.env := by rfl)
    (hfew : ((backTo cpos (starEach [e] X.env)).all (fun x => !x.1) && (backToKw cpos (keywordEach [] X.env)).all (fun x => x.1.isSome)
      && decide (([e] : List Expr).length + ([] : List Keyword).length + (if ([] : List Keyword).isEmpty then 0 else 1) < 30)) = true := by rfl)
    (hline : (apos.endLine == cpos.line) = true := by rfl) (hs : starEach [e] X.env = (false, eval e X.env) :: starEach [] X.env := by rfl) (hplain : (backTo cpos (starEach [] X.env)).any (·.1) = false := by rfl) :
    GE X W (.Call (.Attribute o name apos) [e] [] cpos) (eLm f eo ee) := by
  obtain ⟨to, po, mo⟩ := ho
  obtain ⟨te, pe, me⟩ := he
  refine ⟨_, pe_bm PySem.F.plainAttrs_list slot hty hm po (pa_cons pe pa_nil hs) hbase hfew hline hs hplain, fun as F H S ρ σ I R q x h Q hq hx => ?_⟩
  refine mo as F H S ρ σ I R _ x h _ (fun u S1 bs F1 H1 v1 h1 g1 r1 => ?_) hx
  cases r1 with
  | lst z1 z2 =>
    have hH := g1.sit.ex _ _ z1
    refine ⟨tyV_lst hH, ?_⟩
    refine me bs F1 H1 S1 ρ σ g1.sit (R.grow g1) _ x h1 _ (fun v S2 cs F2 H2 v2 h2 g2 r2 => ?_) (hx.step g1)
    obtain ⟨d, h3, h4⟩ := onS_ok h2
    have hl : Rp X.K cs F2 (.lst _) _ := RpE_aux g2 (Rp.lst z1 z2)
    cases hl with
    | lst y1 y2 =>
      exact hr cs F2 H2 S2 _ v d _ _ v2 g2.sit (SqL.of (g2.sit.ex _ _ y1)) y2 r2 h3 Q fun F3 H3 u g3 r3 => hq d S2 cs F3 H3 u h4 ((g1.trans g2).trans g3) r3
  | _ => exact h1.elim
theorem ge_count (ho : GE X W o eo) (he : GE X W e ee) (hbase : attributeBase o "count" X.env (eval o X.env) = eval o X.env := by rfl)
    (hfew : ((backTo cpos (starEach [e] X.env)).all (fun x => !x.1) && (backToKw cpos (keywordEach [] X.env)).all (fun x => x.1.isSome)
      && decide (([e] : List Expr).length + ([] : List Keyword).length + (if ([] : List Keyword).isEmpty then 0 else 1) < 30)) = true := by rfl)
    (hline : (apos.endLine == cpos.line) = true := by rfl) (hs : starEach [e] X.env = (false, eval e X.env) :: starEach [] X.env := by rfl) (hplain : (backTo cpos (starEach [] X.env)).any (·.1) = false := by rfl) :
    GE X W (.Call (.Attribute o "count" apos) [e] [] cpos) (eLm countF eo ee) :=
  ge_lm PySem.F.slot_list_count PySem.F.type_list_count mt_countF (fun as F H S ds v d a xs vv I hs r rv h Q q => by
    unfold countF at h
    split at h
    · rename_i hh
      cases h
      refine ⟨a, xs, vv, rfl, rfl, hs, flat_v rv hh.1, flat_all r hh.2, ?_⟩
      rw [countP_v rv hh.1 r hh.2]
      exact keep I q (.int _)
    · cases h) ho he hbase hfew hline hs hplain
theorem find_at {α : Type} {p : α → Bool} : ∀ {l : List α} {j : Nat}, l.findIdx? p = some j → (∃ a, l[j]? = some a ∧ p a = true) ∧ ∀ m b, m < j → l[m]? = some b → p b = false
  | [], j, h => by simp at h
  | c :: l, j, h => by
    rw [List.findIdx?_cons] at h
    cases hc : p c with
    | true =>
      rw [hc] at h
      simp at h
      subst h
      exact ⟨⟨c, rfl, hc⟩, fun m b hm => absurd hm (Nat.not_lt_zero _)⟩
    | false =>
      rw [hc] at h
      simp only [Bool.false_eq_true, if_false, Option.map_eq_some_iff] at h
      obtain ⟨i, hi, rfl⟩ := h
      obtain ⟨⟨a, h1, h2⟩, h3⟩ := find_at hi
      refine ⟨⟨a, h1, h2⟩, fun m b hm hb => ?_⟩
      cases m with
      | zero =>
        cases hb
        exact hc
      | succ m => exact h3 m b (Nat.lt_of_succ_lt_succ hm) hb
theorem ge_index (ho : GE X W o eo) (he : GE X W e ee) (hbase : attributeBase o "index" X.env (eval o X.env) = eval o X.env := by rfl)
    (hfew : ((backTo cpos (starEach [e] X.env)).all (fun x => !x.1) && (backToKw cpos (keywordEach [] X.env)).all (fun x => x.1.isSome)
      && decide (([e] : List Expr).length + ([] : List Keyword).length + (if ([] : List Keyword).isEmpty then 0 else 1) < 30)) = true := by rfl)
    (hline : (apos.endLine == cpos.line) = true := by rfl) (hs : starEach [e] X.env = (false, eval e X.env) :: starEach [] X.env := by rfl) (hplain : (backTo cpos (starEach [] X.env)).any (·.1) = false := by rfl) :
    GE X W (.Call (.Attribute o "index" apos) [e] [] cpos) (eLm indexF eo ee) :=
  ge_lm PySem.F.slot_list_index PySem.F.type_list_index mt_index (fun as F H S ds v d a xs vv I hs r rv h Q q => by
    unfold indexF at h
    split at h
    · rename_i hh
      simp only [Option.map_eq_some_iff] at h
      obtain ⟨j, hj, rfl⟩ := h
      obtain ⟨⟨z0, h1, h2⟩, h3⟩ := find_at hj
      obtain ⟨z, y1, y2⟩ := r.get h1
      have fl : ∀ {m : Nat} {b : D}, ds[m]? = some b → flatD b = true := fun hb => List.all_eq_true.mp hh.2 _ (List.mem_of_getElem? hb)
      refine ⟨a, xs, vv, j, z, rfl, rfl, hs, flat_v rv hh.1, flat_all r hh.2, y1, ?_, fun m z1 hm hz1 => ?_, keep I q (.int _)⟩
      · rw [eqFl_v y2 rv (fl h1) hh.1]
        exact h2
      · obtain ⟨b, hb, rb⟩ := r.get' hz1
        rw [eqFl_v rb rv (fl hb) hh.1]
        exact h3 m b hm hb
    · cases h) ho he hbase hfew hline hs hplain
end
end RV
end
section
/-! str of an integer. -/
namespace RV
open PySem L2
end RV
end
section
/-! A lambda without parameters, made where a table of code objects is a cell; its call. -/
namespace RV
open PySem PySem.Spec PyProof.Rows L2
section
variable {X : Cx} {pins : List (Addr × Obj)} {σ : L2.St} {H : Hp} {s : Shared}
/-- what the heap's table looks like behind the making -/
def LamStep (H : Hp) (P c : Addr) (q : Str) (ps : Array Value) (pos : Pos) (H1 : Hp) : Prop := (H1 = H ∧ codeAmong pos ps.toList = some (.ref c)) ∨ (H c = none ∧ H1 = upd (upd H P (.tbl (ps ++ #[rawInt pos.line, rawInt pos.col, .ref c]))) c (LamX.CodeO c q))
theorem lam_mk {c P : Addr} {ps : Array Value} {params : Arguments} {body : Expr} {scope : Scope} {pos : Pos} {E : Value → Shared → Prop} {Q : Value → Shared → Prop} (I : Inv X pins σ H s) (TB : LamX.TabB X.base X.mg c P) (hcode : X.env.code = .ref c)
    (hP : H P = some (.tbl ps)) (ht : TriplesOk ps.toList) (hin : ∀ (pos : Pos) (cv : Value), codeAmong pos ps.toList = some cv → ∃ c, cv = .ref c ∧ H c = some (LamX.CodeO c (X.env.qual ++ "<lambda>")))
    (hdef : defaultsOf params X.env = ([], [])) (hfree : ∀ y ∈ scope.names, y.2 = .free → ∃ c, X.env.cells.lookup y.1 = some c)
    (h : ∀ (f c1 : Addr) (pm ctv : Value) (H1 : Hp) (s1 : Shared), Inv X pins σ H1 s1 → LamStep H P c1 (X.env.qual ++ "<lambda>") ps pos H1 →
      s1.heap.get? f = some (PySem.W.kla_obj "<lambda>" (X.env.qual ++ "<lambda>") params body scope (cloFrom X.env.cells scope.names []) pm c1 ctv) → H1 f = none → f ∉ frs X.stack → H1 c1 = some (LamX.CodeO c1 (X.env.qual ++ "<lambda>")) → Q (.ref f) s1) :
    wpAny (model X.prog X.w) X.A (eval (.Lambda params body scope pos) X.env) Q E s := by
  refine PySem.W.kla_eval hdef ?_
  have blt : s.heap.BuiltinsAt X.mg P := TB.bm.keeps I.bk
  have at0 : s.heap.get? P = some { cls := .none, data := .fields ps } := I.hok P _ hP
  have nofr : ∀ g, s.heap.objs.size ≤ g → g ∉ frs X.stack := fun g hg z => (List.mem_cons.mp (I.stkSub _ z)).elim (fun e => by have l := I.lt; rw [← e] at l; exact absurd (Nat.lt_of_lt_of_le l hg) (Nat.lt_irrefl _)) fun e => I.nofs hg e
  cases hc : codeAmong pos ps.toList with
  | some cv =>
    obtain ⟨c1, rfl, hco⟩ := hin pos cv hc
    refine PySem.W.kla_makeFunctionHit (mg := X.mg) (c := c) (P := P) (ps := ps) (closure_ok hfree) I.ok.glob (I.mod.glob.keeps I.bk) hcode (TB.code.keeps I.bk) at0 ht hc blt fun ctv hp1 tk1 kx sz => ?_
    exact h _ c1 _ ctv H _ (I.kept (t' := tk1) fun b o e => Heap.get?_push_of_some _ (kx b o e)) (.inl ⟨rfl, hc⟩) (Heap.get?_push_size _ rfl) (I.hok.fresh sz) (nofr _ sz) hco
  | none =>
    refine PySem.W.kla_makeFunction (mg := X.mg) (c := c) (P := P) (ps := ps) (closure_ok hfree) I.ok.glob (I.mod.glob.keeps I.bk) hcode (TB.code.keeps I.bk) at0 ht hc TB.gP blt fun c1 ctv hp1 tk1 kx ge lt hrec htb => ?_
    obtain ⟨c2, oc, vs, t, e2, hoc, hd, hv⟩ := hrec
    cases e2
    have sz : s.heap.objs.size ≤ hp1.objs.size := Nat.le_trans ge (Nat.le_of_lt lt)
    have J := LamX.inv_table (t' := tk1) (q := X.env.qual ++ "<lambda>") (more := #[rawInt pos.line, rawInt pos.col, .ref c1]) (h' := hp1.push (PySem.W.kla_obj "<lambda>" (X.env.qual ++ "<lambda>") params body scope (cloFrom X.env.cells scope.names []) ((X.mg "__name__").getD .none) c1 ctv)) I hP
      (fun b o hb e => Heap.get?_push_of_some _ (kx b o hb e)) (Heap.get?_push_of_some _ htb) ge ⟨oc, vs, t, Heap.get?_push_of_some _ hoc, hd, hv⟩
    refine h hp1.objs.size c1 _ ctv _ _ J (.inr ⟨I.hok.fresh ge, rfl⟩) (Heap.get?_push_size _ rfl) ?_ (nofr _ sz) upd_same
    rw [upd_ne (Nat.ne_of_gt lt), upd_ne (Nat.ne_of_gt (Nat.lt_of_lt_of_le (Heap.lt_size at0) sz))]
    exact I.hok.fresh sz
end
theorem LamStep.grow {K : PySem.W.Frag} {as : List Addr} {F H H1 : Hp} {S : WS} {i : Nat} {P p c : Addr} {q : Str} {ps : Array Value} {pos : Pos} (x : LamStep H P c q ps pos H1) (I : Sit K as F H S) (ha : as[i]? = some p) (hS : S[i]? = some (.tab P q)) (hP : H P = some (.tbl ps)) :
    ∃ F1, Grow K as F H as F1 H1 S ∧ F1 c = some (LamX.CodeO c q) := by
  obtain ⟨z1, o, z2, z3⟩ := I.cell i p _ ha hS
  cases o with
  | tbl ps0 =>
    obtain ⟨rfl, t1, t2⟩ := z3
    rw [hP] at z2
    cases z2
    rcases x with ⟨rfl, hit⟩ | ⟨hn, rfl⟩
    · obtain ⟨c0, e1, e2⟩ := t2 pos _ hit
      cases e1
      exact ⟨F, Grow.refl I, e2⟩
    · have nP : p ≠ c := ne_of_none hP hn
      have g1 := I.grow (o := LamX.CodeO c q) hn
      have eL : (ps ++ #[rawInt pos.line, rawInt pos.col, .ref c]).toList = ps.toList ++ [rawInt pos.line, rawInt pos.col, .ref c] := by simp
      have ok : CellOf K (upd F c (LamX.CodeO c q)) p (.tab p q) (.tbl (ps ++ #[rawInt pos.line, rawInt pos.col, .ref c])) := by
        refine ⟨rfl, by rw [eL]; exact PySem.TriplesOk_snoc _ _ _ _ t1, fun pos1 cv e => ?_⟩
        rw [eL] at e
        rcases LamX.among_app _ t1 e with z | z
        · obtain ⟨c0, e1, e2⟩ := t2 pos1 cv z
          exact ⟨c0, e1, g1.ex _ _ e2⟩
        · exact ⟨c, z, upd_same⟩
      have g2 := g1.sit.put ha hS rfl rfl ok
      have eS : S.set i (.tab p q) = S := by
        apply List.ext_getElem?
        intro j
        by_cases hj : i = j
        · subst hj
          rw [List.getElem?_set_self (List.getElem?_eq_some_iff.mp hS).1, hS]
        · rw [List.getElem?_set_ne hj]
      have eH : upd (upd H c (LamX.CodeO c q)) p (.tbl (ps ++ #[rawInt pos.line, rawInt pos.col, .ref c])) = upd (upd H p (.tbl (ps ++ #[rawInt pos.line, rawInt pos.col, .ref c]))) c (LamX.CodeO c q) := by
        funext b
        by_cases h1 : b = c
        · subst h1
          rw [upd_same, upd_ne (Ne.symm nP), upd_same]
        · by_cases h2 : b = p
          · subst h2
            rw [upd_same, upd_ne h1, upd_same]
          · rw [upd_ne h2, upd_ne h1, upd_ne h1, upd_ne h2]
      rw [eS, eH] at g2
      exact ⟨_, g1.trans g2, upd_same⟩
  | _ => exact z3.elim
/-! ### the lambda is called -/
section
variable {X : Cx} {pins : List (Addr × Obj)} {σ : L2.St} {H : Hp} {s : Shared}
/-- the context of the def that got the lambda -/
abbrev cxA (X : Cx) (Ng : List Str) (qg : Str) (sg : Scope) (g : Addr) (cdg : Value) (s : Shared) (H : Hp) : Cx := cxOf (CXm false X.prog X.w) X.prog X.w X.K X.mg X.base Ng qg sg g cdg X.A X.stack s H E0
/-- .. of the lambda's body; n: what it raises has no context -/
abbrev lamN (n : Bool) (X : Cx) (A : Around) (outer : List PySem.Env) (s : Shared) (H : Hp) (E : XK) (scope : Scope) (f c1 : Addr) : Cx :=
  { LamX.lamCx X A outer s H E scope f c1 with xe := fun e s' => wpAny (model X.prog X.w) (A.deeper (LamX.lamEnv X scope s.heap.objs.size f c1)) (leaving (LamX.lamEnv X scope s.heap.objs.size f c1) e) (fun _ s'' => CXm n X.prog X.w outer H s E e s'') (fun e' s'' => CXm n X.prog X.w outer H s E e' s'') s' }
theorem lamN_inv {n : Bool} {A : Around} {outer : List PySem.Env} {s0 s' : Shared} {H0 H' : Hp} {E : XK} {scope : Scope} {f c1 : Addr} {qs : List (Addr × Obj)} {τ : L2.St} (J : Inv (LamX.lamCx X A outer s0 H0 E scope f c1) qs τ H' s') : Inv (lamN n X A outer s0 H0 E scope f c1) qs τ H' s' :=
  ⟨⟨J.ok.mod, J.ok.kind, J.ok.glob, J.ok.blt, J.ok.above, J.ok.inj, J.ok.has, J.ok.cab, J.ok.hd, J.ok.frames, J.ok.stk, J.ok.exf, J.ok.bs, J.ok.bsz, J.ok.noex, J.ok.exfs, J.ok.funs, J.ok.frf⟩, J.os, J.bare, J.base, J.loc, J.cell, J.free, J.freeC, J.pin, J.hok, J.len⟩
theorem tk_lamN {n : Bool} {A : Around} {outer : List PySem.Env} {s : Shared} {H : Hp} {E : XK} {scope : Scope} {f c1 : Addr} : Tk n (lamN n X A outer s H E scope f c1) (WofE E) := by
  cases n
  · exact L2.takes_of rfl rfl rfl rfl
  · exact L2N.takes_of rfl rfl rfl rfl
theorem pe_act2 {Ng : List Str} {qg : Str} {sg : Scope} {g f c1 : Addr} {cdg pm ctv : Value} {params : Arguments} {body : Expr} {scope : Scope} {k i : Nat} {a : Str} {pn : List (Addr × Obj)} {xe : Value → Shared → Prop} {W : WX} {tb : XK → TE} {p1 p2 : Pos}
    (I : Inv X pins σ H s) (L : LamX.LamS X.env.scope scope) (hf : s.heap.get? f = some (PySem.W.kla_obj "<lambda>" (X.env.qual ++ "<lambda>") params body scope (cloFrom X.env.cells scope.names []) pm c1 ctv)) (hfn : H f = none) (hfr : f ∉ frs X.stack)
    (hbind : bindArgs (PySem.W.kla_fn "<lambda>" (X.env.qual ++ "<lambda>") params body scope (cloFrom X.env.cells scope.names []) pm (.ref c1) ctv) ⟨[], []⟩ = pure [])
    (tk : Tk zN ((cxA X Ng qg sg g cdg s H).tr pn xe) W) (hr : Room (k + 1) (X.A.deeper (envOfC qg sg s.heap.objs.size g cdg)))
    (hbody : ∀ (E : XK) (A : Around) (outer : List PySem.Env) (s : Shared) (H : Hp), A.guards = X.A.guards → Room k (A.deeper (LamX.lamEnv X scope s.heap.objs.size f c1)) → PE (lamN zN X A outer s H E scope f c1) body (tb E))
    (hN : Ng[i]? = some a) (hv : Vis sg a) (hd : (a == ("__debug__" : Str)) = false := by decide) (hcd : (a == ("__classdict__" : Str)) = false := by decide) :
    PE ((cxA X Ng qg sg g cdg s H).tr pn xe) (.Call (.Name a p1) [] [] p2) (fun τ HZ Q => τ[i]? = some (some (.ref f)) ∧ HZ c1 = some (LamX.CodeO c1 (X.env.qual ++ "<lambda>")) ∧ tb (WE W τ) σ HZ Q) := by
  refine ⟨fun qs sZ τ HZ Q IZ h => ?_⟩
  obtain ⟨hs, hc, ht⟩ := h
  refine wpAny_Call_Name_kw (thn ((pe_var (pos := p1) (i := i) hN hv hd hcd).run qs sZ τ HZ (fun v H1 => v = .ref f ∧ H1 = HZ) IZ ⟨.ref f, hs, rfl, rfl⟩) fun u s1 hh => ?_)
  obtain ⟨v, H1, I1, r1, rfl, rfl⟩ := hh
  obtain rfl : u = Value.ref f := r1
  have of1 : s1.heap.get? f = some (PySem.W.kla_obj "<lambda>" (X.env.qual ++ "<lambda>") params body scope (cloFrom X.env.cells scope.names []) pm c1 ctv) := I1.base.keep f _ hf hfn hfr (fun z => nomatch (show f ∈ ([] : List Addr) from z))
  refine PySem.W.callWith_F0 ⟨_, _, _, _, of1⟩ ?_
  have un : Un (frs X.stack) [] H H1 s.heap s1.heap := I1.base
  obtain ⟨⟨oc, vs, t, hoc, hdc, hvc⟩, _, _⟩ := I1.hok c1 _ hc
  have rc : codeAny (model X.prog X.w) (X.A.deeper (envOfC qg sg s.heap.objs.size g cdg)) (.call (.ref f) ⟨[], []⟩) (CR (CXm zN X.prog X.w) (envOfC qg sg s.heap.objs.size g cdg :: X.stack) X.prog X.w H1 s1 Q (WE W τ)) s1 := by
    refine PySem.W.kla_callFunE hr.depth of1 rfl L.co L.gen rfl ⟨c1, oc, vs, t, rfl, hoc, hdc, hvc⟩ ?_
    rw [hbind]
    refine wpAny_pure (wpAny_newFunctionEnv (fun y hy => (L.own y hy).2) (fun y hy => absurd hy (by simp)) (fun hp1 hns hsb => ⟨I1.nolimit.fresh _ hsb, ?_⟩) L.kind)
    show codeAny _ _ (.expr body (LamX.lamEnv X scope s1.heap.objs.size f c1)) _ _
    have kp : ∀ b o, s1.heap.get? b = some o → hp1.get? b = some o := fun b o e => hsb.extBut b o (Nat.ne_of_lt (Heap.lt_size e)) (Heap.get?_push_of_some _ e)
    have J := lamN_inv (n := zN) <| LamX.lam_start2 (E := WE W τ) (f := f) (c' := c1) (tk := s1.toks + ([] : List (Str × Value)).length) I L I1.env0 hr.hd un hns kp
    refine PySem.W.kla_codeExpr (wpAny_mono ((hbody (WE W τ) (X.A.deeper (envOfC qg sg s.heap.objs.size g cdg)) _ s1 H1 rfl (hr.deeper _)).run [] _ _ H1 Q J ht) (fun v s2 hq => ?_) fun e s2 hq => hq)
    obtain ⟨y, H2, J2, rv, q⟩ := hq
    exact ⟨y, H2, J2.os, J2.bare, J2.base, J2.hok, rv, q⟩
  refine wpAny_call (codeAny_mono rc fun r s2 hq => ?_)
  cases r with
  | error e => exact tk.pass τ qs H1 s1 e s2 I1 hq
  | ok fl =>
    cases fl with
    | ret u => exact I1.after hq
    | next => exact hq.elim
    | brk => exact hq.elim
    | cont => exact hq.elim
end
end RV
end
section
/-! x(lambda: body), x a def that catches what its argument's call raises. -/
namespace RV
open PySem PySem.Spec PyProof.Rows L2
def ktC (n : Nat) (q : D → WS → Prop) : Kt := ⟨fun _ _ => False, fun d S2 => fin n d S2 q, fun _ _ => False, fun _ _ => False, fun _ _ _ => False⟩
def qTold (N i : Nat) (f : Addr) (mt : RV.Env → M) (n : Nat) (q : D → WS → Prop) : D → WS → Prop := fun d S' => mt ((startE N [.adr f]).set i (some d)) S' (fun d2 S2 => fin n d2 S2 q) noX
def xSaid (L : List Addr) (N j : Nat) (f : Addr) (ms : Addr → Addr → Addr → RV.Env → MS) (n : Nat) (q : D → WS → Prop) : Xq := fun e S' => onX e fun C fs => C ∈ L ∧ ∀ a d, ms a C d ((startE N [.adr f]).set j (some (.exv a C d fs))) S' (ktC n q)
/-- the def's own part; ta: what the call of its argument does -/
structure CcB (P : Program) (w : World) (K : PySem.W.Frag) (mg : Str → Option Value) (base : Heap) (x a : Str) (kc : Nat) (L : List Addr) (N i j : Nat) (mt : RV.Env → M) (ms : Addr → Addr → Addr → RV.Env → MS) (g : Addr) (Ng : List Str) (bg : List Stmt) (sg : Scope) (cdv : Value) : Prop where
  run : ∀ (A : Around) (outer : List PySem.Env) (s : Shared) (H : Hp), A.guards = some [] → Room kc (A.deeper (envOfC x sg s.heap.objs.size g cdv)) → ∀ ta : WX → TE,
    (∀ (W : WX) (pn : List (Addr × Obj)) (xe : Value → Shared → Prop) (p1 p2 : Pos), Tk zN ((cxOf (CXm false P w) P w K mg base Ng x sg g cdv A outer s H E0).tr pn xe) W → PE ((cxOf (CXm false P w) P w K mg base Ng x sg g cdv A outer s H E0).tr pn xe) (.Call (.Name a p1) [] [] p2) (ta W)) →
    ∃ t, PSs (cxOf (CXm false P w) P w K mg base Ng x sg g cdv A outer s H E0) bg t ∧ ∀ (f : Addr) (as : List Addr) (F H1 : Hp) (S : WS) (q : D → WS → Prop) (Q : VK), Sit K as F H1 S → NQ K as F H1 q Q →
      (∀ (W : WX) (Qn : VK), NQ K as F H1 (qTold N i f mt S.length q) Qn → XQ K as F H1 (xSaid L N j f ms S.length q) (WE W (L2.start Ng [.ref f])) → ta W (L2.start Ng [.ref f]) H1 Qn) → t { nx := fun _ H' => Q .non H', rt := Q } (L2.start Ng [.ref f]) H1
/-- the module's name x is such a def -/
def Cc (P : Program) (w : World) (K : PySem.W.Frag) (mg : Str → Option Value) (base : Heap) (x : Str) (kc : Nat) (L : List Addr) (N i j : Nat) (mt : RV.Env → M) (ms : Addr → Addr → Addr → RV.Env → MS) : Prop :=
  ∃ (a : Str) (g : Addr) (Ng : List Str) (pg : Arguments) (bg : List Stmt) (sg : Scope) (dV kV doc pm cdv ct oc : Value) (an od : Option Addr) (osl : Array (Option Value)), K.lookup g = some ⟨oc, od, .func (PySem.W.fnOf x x pg bg sg dV kV doc pm an cdv ct), osl⟩ ∧ PySem.W.codeIn K cdv x = true ∧
    L2.Binds K (PySem.W.fnOf x x pg bg sg dV kV doc pm an cdv ct) [a] [] ∧ FnScope Ng [a] sg ∧ Ng[0]? = some a ∧ Vis sg a ∧ (a == ("__debug__" : Str)) = false ∧ (a == ("__classdict__" : Str)) = false ∧ PySem.W.keepIn K (.ref g) = true ∧ mg x = some (.ref g) ∧ CcB P w K mg base x a kc L N i j mt ms g Ng bg sg cdv
section
variable {P : Program} {w : World} {K : PySem.W.Frag} {mg : Str → Option Value} {base : Heap}
theorem start_ok {as : List Addr} {F : Hp} {Ng : List Str} {f : Addr} : RpE K as F (startE Ng.length [.adr f]) (L2.start Ng [.ref f]) := startE_ok (.cons (.adr f) .nil)
theorem cc_body {x a t n x1 x2 x3 : Str} {c1 c2 c3 : Value} {kc : Nat} {L : List Addr} {i j : Nat} {mt : RV.Env → M} {ms : Addr → Addr → Addr → RV.Env → MS} {g : Addr} {Ng : List Str} {sg : Scope} {cdv : Value} {R : Expr} {b0 : Stmt} {suite : List Stmt} {pt q1 q2 q3 p1 p2 p3 p4 p5 p6 p7 : Pos} {k4 : Nat}
    (hN : Ng.Nodup) (hi : Ng[i]? = some t) (hlt : Loc sg t) (hj : Ng[j]? = some n) (hL : ∀ C ∈ L, PySem.W.exmAny K (.ref C) [c1, c2, c3] = some true)
    (hln : ∀ (A : Around) (outer : List PySem.Env) (s : Shared) (H : Hp), (cxOf (CXm false P w) P w K mg base Ng x sg g cdv A outer s H E0).env.kindOf n = some .local)
    (hc1 : ∀ (A : Around) (outer : List PySem.Env) (s : Shared) (H : Hp), Names (cxOf (CXm false P w) P w K mg base Ng x sg g cdv A outer s H E0) x1 c1)
    (hc2 : ∀ (A : Around) (outer : List PySem.Env) (s : Shared) (H : Hp), Names (cxOf (CXm false P w) P w K mg base Ng x sg g cdv A outer s H E0) x2 c2)
    (hc3 : ∀ (A : Around) (outer : List PySem.Env) (s : Shared) (H : Hp), Names (cxOf (CXm false P w) P w K mg base Ng x sg g cdv A outer s H E0) x3 c3)
    (hst : ∀ (A : Around) (outer : List PySem.Env) (s : Shared) (H : Hp), starEach [.Name x1 q1, .Name x2 q2, .Name x3 q3] (cxOf (CXm false P w) P w K mg base Ng x sg g cdv A outer s H E0).env = [(false, eval (.Name x1 q1) (cxOf (CXm false P w) P w K mg base Ng x sg g cdv A outer s H E0).env), (false, eval (.Name x2 q2) (cxOf (CXm false P w) P w K mg base Ng x sg g cdv A outer s H E0).env), (false, eval (.Name x3 q3) (cxOf (CXm false P w) P w K mg base Ng x sg g cdv A outer s H E0).env)])
    (hsw : ∀ (A : Around) (outer : List PySem.Env) (s : Shared) (H : Hp), swapsWith (.Call (.Name a p1) [] [] p2) (some (.Name t pt)) p3.line (cxOf (CXm false P w) P w K mg base Ng x sg g cdv A outer s H E0).env = pure false)
    (hT : ∀ (A : Around) (outer : List PySem.Env) (s : Shared) (H : Hp), A.guards = some [] → Room kc (A.deeper (envOfC x sg s.heap.objs.size g cdv)) → GE (cxOf (CXm false P w) P w K mg base Ng x sg g cdv A outer s H E0) WF R mt)
    (hS : ∀ (A : Around) (outer : List PySem.Env) (s : Shared) (H : Hp) (b C d : Addr) (oe : Obj) (pn : List (Addr × Obj)), A.guards = some [] → Room kc (A.deeper (envOfC x sg s.heap.objs.size g cdv)) → Zz zN (.ref C) (some d) oe → (∃ vs, oe.data = .fields vs) → GSs ((cxOf (CXm false P w) P w K mg base Ng x sg g cdv A outer s H E0).suite b ((b, oe) :: pn)) WF (b0 :: suite) (ms b C d)) :
    CcB P w K mg base x a kc L Ng.length i j mt ms g Ng [.Try [.Assign [.Name t pt] (.Call (.Name a p1) [] [] p2) p3] [.ExceptHandler (some (.Tuple [.Name x1 q1, .Name x2 q2, .Name x3 q3] k4 p4)) (some n) (b0 :: suite) p5] [] [] p6, .Return (some R) p7] sg cdv := by
  refine ⟨fun A outer s H hg hr ta act => ?_⟩
  obtain ⟨te, pT, mT⟩ := hT A outer s H hg hr
  let Z : Cx := cxOf (CXm false P w) P w K mg base Ng x sg g cdv A outer s H E0
  let tb : WX → TS := fun W => tAsg (ta W) (gName i)
  let tsu : Addr → Value → Option Addr → TS := fun b cls d E σ H => ∀ (oe : Obj) (pn : List (Addr × Obj)), Zz zN cls d oe → (∃ vs, oe.data = .fields vs) → tWp (Z.suite b ((b, oe) :: pn)) (b0 :: suite) E σ H
  refine ⟨_, pss_cons (ps_try3 (X := Z) (tb := tb) (ts := tsu) rfl rfl hN hj (hln A outer s H) (hc1 A outer s H) (hc2 A outer s H) (hc3 A outer s H) (hst A outer s H) (fun W pn xe tk => pss_one (ps_set (X := Z.tr pn xe) hN hi hlt (act W pn xe p1 p2 tk) (hsw A outer s H) (.inl rfl)))
    (fun b oe cls d pn z1 z2 => ⟨fun pins s σ H E I h => h oe pn z1 z2 pins s I⟩)) (pss_one (ps_ret pT)), fun f as F H1 S q Q I nq h => ?_⟩
  refine h _ _ (fun d S1 bs F1 H2 v hd g1 r1 => ?_) (fun e S1 bs F1 H2 cls dd he g1 r1 => ?_)
  · exact mT bs F1 H2 S1 _ _ g1.sit (RpE.set start_ok r1) _ _ hd Q (fun d2 S2 cs F2 H3 v2 h2 g2 r2 => fin_ok I nq (g1.trans g2) r2 h2) XQ.no
  · obtain ⟨C, d, fs, vfs, rfl, rfl, rfl, r4, r5⟩ := r1
    refine ⟨hL C he.1, fun b hb oe pn z1 z2 pins2 s2 J2 => ?_⟩
    obtain ⟨t2, pp2, m2⟩ := hS A outer s H b C d oe pn hg hr z1 z2
    exact pp2.run pins2 s2 _ H2 _ J2 (m2 bs F1 H2 S1 _ _ g1.sit (RpE.set start_ok (Rp.exv r4 r5)) _ (he.2 b d) _ ⟨fun _ _ _ _ _ _ z => z.elim, fun d2 S2 cs F2 H3 v2 h2 g2 r2 => fin_ok I nq (g1.trans g2) r2 h2, fun _ _ _ _ _ _ z => z.elim, fun _ _ _ _ _ _ z => z.elim, fun _ _ _ _ _ _ _ _ _ z => z.elim⟩)
end
/-- its reading; ti: where the table is -/
def eCaught (ti : Nat) (T : Addr) (qn : Str) (L : List Addr) (N i j : Nat) (mt : RV.Env → M) (ms : Addr → Addr → Addr → RV.Env → MS) (eb : RV.Env → M) : RV.Env → M := fun ρ S q _ => S[ti]? = some (.tab T qn) ∧ ∀ f, eb ρ S (qTold N i f mt S.length q) (xSaid L N j f ms S.length q)
section
variable {X : Cx} {W : WX}
theorem ge_caught {x qn : Str} {c T : Addr} {k kc ti : Nat} {L : List Addr} {N i j : Nat} {mt : RV.Env → M} {ms : Addr → Addr → Addr → RV.Env → MS} {params : Arguments} {body : Expr} {scope : Scope} {eb : RV.Env → M} {p lpos pos : Pos} (cc : Cc X.prog X.w X.K X.mg X.base x kc L N i j mt ms)
    (TB : LamX.TabB X.base X.mg c T) (hcode : X.env.code = .ref c) (hgd : X.A.guards = some []) (hr : Room k X.A) (Lm : LamX.LamS X.env.scope scope)
    (hbody : ∀ (A : Around) (outer : List PySem.Env) (s : Shared) (H : Hp) (E : XK) (f c1 : Addr), A.guards = X.A.guards → Room (k - 2) (A.deeper (LamX.lamEnv X scope s.heap.objs.size f c1)) → Tk zN (lamN zN X A outer s H E scope f c1) (WofE E) → GE (lamN zN X A outer s H E scope f c1) (WofE E) body eb)
    (hj : kc + 1 ≤ k ∧ 2 ≤ k := by decide) (hqn : X.env.qual ++ "<lambda>" = qn := by rfl) (hg : Gl X x := by rfl) (hdef : defaultsOf params X.env = ([], []) := by rfl) (hbind : ∀ (q : Str) (cl : List (Str × Addr)) (pm cv ctv : Value), bindArgs (PySem.W.kla_fn "<lambda>" q params body scope cl pm cv ctv) ⟨[], []⟩ = pure [] := by intros; rfl) (hdb : (x == ("__debug__" : Str)) = false := by decide) :
    GE X W (.Call (.Name x p) [.Lambda params body scope lpos] [] pos) (eCaught ti T qn L N i j mt ms eb) := by
  subst hqn
  obtain ⟨a, g, Ng, pg, bg, sg, dV, kV, doc, pm, cdv, ct, oc, an, od, osl, lk, hcg, hb, Sg, hNg, hva, hd, hcd, hk, hm, cb⟩ := cc
  refine ⟨fun σ H Q => ∀ (pins : List (Addr × Obj)) (s : Shared), Inv X pins σ H s → wpAny (model X.prog X.w) X.A (eval (.Call (.Name x p) [.Lambda params body scope lpos] [] pos) X.env) (EP X pins σ Q) X.xe s, ⟨fun pins s σ H Q I h => h pins s I⟩, ?_⟩
  intro as F H S ρ σ I R q xq h Q nq _ pins s J
  obtain ⟨hS, h⟩ := h
  obtain ⟨pT, haT, z1, o, z2, z3⟩ := I.at_ hS
  cases o with
  | tbl ps =>
    obtain ⟨rfl, t1, t2⟩ := z3
    refine wpAny_Call_Name_kw (ld_glob J hg hm ?_ hdb)
    refine PySem.W.callWith_K (h₀ := X.base) J.ok.mod.kin hk ?_ (by rfl) (by rfl)
    show wpAny _ _ (spliced ((false, eval (.Lambda params body scope lpos) X.env) :: backTo pos (starEach [] X.env))) _ _ s
    refine Calls.spliced_cons (lam_mk J TB hcode z2 t1 (fun pos cv e => let ⟨c, e1, e2⟩ := t2 pos cv e; ⟨c, e1, I.ex _ _ e2⟩) hdef (Lm.has J.ok) fun f c1 pm1 ctv H1 s1 J1 stp hf hfn hfr hco => ?_)
    refine Calls.spliced_nil ⟨J1.kIn, ?_⟩
    obtain ⟨F1, g1, hF1⟩ := stp.grow I haT hS z2
    have hr1 : Room (k - 1 + 1) X.A := hr.mono (by omega)
    have rc : codeAny (model X.prog X.w) X.A (.call (.ref g) ⟨[.ref f], []⟩) (CR (CXm false X.prog X.w) X.stack X.prog X.w H1 s1 Q E0) s1 := by
      refine LamX.run_ofS (N := Ng) (ps := [a]) (us := [.ref f]) (vs := [.ref f]) lk hcg Sg hr1 J1.env0 (hb s1 [.ref f] J1.kIn rfl) (.cons rfl .nil) rfl fun hr2 => ?_
      have hr3 : Room (k - 2 + 1) (X.A.deeper (envOfC x sg s1.heap.objs.size g cdv)) := hr2.mono (by omega)
      let tl : XK → TE := fun E τ HH Qn => ∀ (A : Around) (outer : List PySem.Env) (s0 : Shared) (H0 : Hp), A.guards = X.A.guards → Room (k - 2) (A.deeper (LamX.lamEnv X scope s0.heap.objs.size f c1)) → ∀ (pins : List (Addr × Obj)) (s : Shared), Inv (lamN zN X A outer s0 H0 E scope f c1) pins τ HH s →
        wpAny (model X.prog X.w) (lamN zN X A outer s0 H0 E scope f c1).A (eval body (lamN zN X A outer s0 H0 E scope f c1).env) (EP (lamN zN X A outer s0 H0 E scope f c1) pins τ Qn) (lamN zN X A outer s0 H0 E scope f c1).xe s
      obtain ⟨t, pt, ht⟩ := cb.run X.A X.stack s1 H1 hgd (hr2.mono (by omega)) (fun W τ HZ Qn => τ[0]? = some (some (.ref f)) ∧ HZ c1 = some (LamX.CodeO c1 (X.env.qual ++ "<lambda>")) ∧ tl (WE W τ) σ HZ Qn)
        (fun W pn xe p1 p2 tk => pe_act2 (i := 0) (tb := tl) J1 Lm hf hfn hfr (hbind _ _ _ _ _) tk hr3 (fun E A outer s0 H0 hgA hrA => ⟨fun pins s τ HH Qn II hh => hh A outer s0 H0 hgA hrA pins s II⟩) hNg hva hd hcd)
      refine ⟨t, pt, ht f as F1 H1 S q Q g1.sit (nq.step g1) fun W1 Qn nq1 xq1 => ⟨?_, hco, fun A outer s0 H0 hgA hrA pins2 s2 J2 => ?_⟩⟩
      · have hl0 : 0 < Ng.length := (List.getElem?_eq_some_iff.mp hNg).1
        exact (start_ok (K := X.K) (as := []) (F := H1) (Ng := Ng) (f := f)).at_ 0 (.adr f) (by simp [startE]) |>.elim fun v hv => by cases hv.2; exact hv.1
      · obtain ⟨te, pe, me⟩ := hbody A outer s0 H0 (WE W1 (L2.start Ng [.ref f])) f c1 hgA hrA tk_lamN
        exact pe.run pins2 s2 σ H1 Qn J2 (me as F1 H1 S ρ σ g1.sit (R.grow g1) _ _ (h f) Qn nq1 xq1)
    refine wpAny_call (codeAny_mono rc fun r s2 hq => ?_)
    cases r with
    | error e => exact (cxm_no (n := false) hq).elim
    | ok fl =>
      cases fl with
      | ret u => exact J1.after hq
      | next => exact hq.elim
      | brk => exact hq.elim
      | cont => exact hq.elim
  | _ => exact z3.elim
end
end RV
end
section
/-! dicts that stand still; repr with dicts, also while an error is handled; str of flat things; list * int. -/
namespace RV
open PySem L2
section
variable {K : PySem.W.Frag} {as : List Addr} {F H : Hp} {S : WS} {X : Cx} {W : WX} {pos : Pos}
/-! ### displays -/
def flatVV : List (V × V) → List V
  | [] => []
  | p :: r => p.1 :: p.2 :: flatVV r
def keyOfD : D → Option Key
  | .int i => some (.inl i)
  | .str s => some (.inr s)
  | _ => none
def pairD : List D → Option (List (Key × D))
  | [] => some []
  | k :: v :: r => (keyOfD k).bind fun k' => (pairD r).map fun l => (k', v) :: l
  | _ => none
def putKD (kvs : List (Key × D)) (k : Key) (v : D) : List (Key × D) :=
  if (kvs.any fun kv => decide (kv.1 = k)) = true then kvs.map (fun kv => if kv.1 = k then (kv.1, v) else kv) else kvs ++ [(k, v)]
def mergeD (kvs more : List (Key × D)) : List (Key × D) := more.foldl (fun acc kv => putKD acc kv.1 kv.2) kvs
theorem RpK.app : ∀ {a b : List (Key × D)} {va vb : List (Key × V)}, RpK K as F a va → RpK K as F b vb → RpK K as F (a ++ b) (va ++ vb)
  | _, _, _, _, .nil, s => s
  | _, _, _, _, .cons h r, s => .cons h (r.app s)
theorem RpK.any1 {k : Key} : ∀ {kvs : List (Key × D)} {vkv : List (Key × V)}, RpK K as F kvs vkv → (kvs.any fun kv => decide (kv.1 = k)) = (vkv.any fun kv => decide (kv.1 = k))
  | _, _, .nil => rfl
  | _, _, .cons _ r => by simp only [List.any_cons, r.any1]
theorem RpK.map1 {k : Key} {d : D} {v : V} (h : Rp K as F d v) : ∀ {kvs : List (Key × D)} {vkv : List (Key × V)}, RpK K as F kvs vkv → RpK K as F (kvs.map fun kv => if kv.1 = k then (kv.1, d) else kv) (vkv.map fun kv => if kv.1 = k then (kv.1, v) else kv)
  | _, _, .nil => .nil
  | _, _, .cons (n := n) h1 r => by
    simp only [List.map_cons]
    by_cases e : n = k
    · simp only [e, if_true]
      exact .cons h (r.map1 h)
    · simp only [e, if_false]
      exact .cons h1 (r.map1 h)
theorem RpK.put {k : Key} {d : D} {v : V} (h : Rp K as F d v) {kvs : List (Key × D)} {vkv : List (Key × V)} (r : RpK K as F kvs vkv) : RpK K as F (putKD kvs k d) (putK vkv k v) := by
  unfold putKD putK
  rw [r.any1]
  split
  · exact r.map1 h
  · exact r.app (.cons h .nil)
theorem RpK.merge : ∀ {more kvs : List (Key × D)} {vmore vkv : List (Key × V)}, RpK K as F more vmore → RpK K as F kvs vkv → RpK K as F (mergeD kvs more) (mergeK vkv vmore)
  | _, _, _, _, .nil, r => r
  | _, _, _, _, .cons h m, r => m.merge (r.put h)
theorem pair_ok : ∀ {ds : List D} {kvs : List (Key × D)} {ps : List (V × V)}, pairD ds = some kvs → RpL K as F ds (flatVV ps) → ∃ vkv : List (Key × V), ps = vkv.map (fun kv => (kV kv.1, kv.2)) ∧ RpK K as F kvs vkv ∧ kvs.length = vkv.length := by
  intro ds
  induction ds using pairD.induct with
  | case1 =>
    intro kvs ps e r
    cases e
    match ps, r with
    | [], _ => exact ⟨[], rfl, .nil, rfl⟩
  | case2 k v r ih =>
    intro kvs ps e rr
    unfold pairD at e
    simp only [Option.bind_eq_some_iff, Option.map_eq_some_iff] at e
    obtain ⟨k', hk, l, hl, rfl⟩ := e
    match ps, rr with
    | (p1, p2) :: ps, .cons h1 (.cons h2 h3) =>
      obtain ⟨vkv, e1, e2, e3⟩ := ih hl h3
      refine ⟨(k', p2) :: vkv, ?_, .cons h2 e2, by simp [e3]⟩
      have : p1 = kV k' := by
        simp only at h1
        cases h1 with
        | int i => cases hk; rfl
        | str s => cases hk; rfl
        | _ => cases hk
      rw [List.map_cons, e1, ← this]
  | case3 ds h1 h2 =>
    intro kvs ps e rr
    match ds, h1, h2, e with
    | [], h1, _, _ => exact absurd rfl h1
    | [d], _, _, e => cases e
    | a :: b :: c, _, h2, _ => exact absurd rfl (h2 a b c)
structure GP (X : Cx) (W : WX) (pos : Pos) (keys : List (Option Expr)) (values : List Expr) (m : RV.Env → ML) : Prop where
  ex : ∃ trs, PPs X pos keys values trs ∧ ∀ (as : List Addr) (F H : Hp) (S : WS) (ρ : RV.Env) (σ : L2.St), Sit X.K as F H S → RpE X.K as F ρ σ → ∀ q x, m ρ S q x →
    ∀ Q : List (V × V) → Hp → Prop, (∀ ds S' bs F' H' ps, q ds S' → Grow X.K as F H bs F' H' S' → RpL X.K bs F' ds (flatVV ps) → Q ps H') → XQ X.K as F H x (WE W σ) → tPairs trs σ H Q
theorem gp_nil : GP X W pos [] [] aNil := ⟨[], pps_nil, fun as F H S ρ σ I R q x h Q hq hx => hq [] S as F H [] h (Grow.refl I) .nil⟩
theorem gp_cons {k v : Expr} {ks : List (Option Expr)} {vs : List Expr} {ek ev : RV.Env → M} {er : RV.Env → ML} (hk : GE X W k ek) (hv : GE X W v ev) (hr : GP X W pos ks vs er) : GP X W pos (some k :: ks) (v :: vs) (aCons ek (aCons ev er)) := by
  obtain ⟨tk, pk, mk⟩ := hk
  obtain ⟨tv, pv, mv⟩ := hv
  obtain ⟨trs, pr, mr⟩ := hr
  refine ⟨(tk, tv) :: trs, pps_cons pk pv pr, fun as F H S ρ σ I R q x h Q hq hx => ?_⟩
  refine mk as F H S ρ σ I R _ x h _ (fun u S1 bs F1 H1 v1 h1 g1 r1 => ?_) hx
  refine mv bs F1 H1 S1 ρ σ g1.sit (R.grow g1) _ x h1 _ (fun w S2 cs F2 H2 v2 h2 g2 r2 => ?_) (hx.step g1)
  have g12 := g1.trans g2
  refine mr cs F2 H2 S2 ρ σ g2.sit (R.grow g12) _ x h2 _ (fun ds S3 es F3 H3 ps h3 g3 r3 => ?_) (hx.step g12)
  exact hq (u :: w :: ds) S3 es F3 H3 ((v1, v2) :: ps) h3 (g12.trans g3) (.cons (RpE_aux (g2.trans g3) r1) (.cons (RpE_aux g3 r2) r3))
def eDisp (l : Lk) (er : RV.Env → ML) : RV.Env → M := fun ρ S q x => er ρ S (fun ds S1 => onS (pairD ds) fun kvs => decide (kvs.length ≤ 15) = true ∧ match l with
  | .still => q (.dic (mergeD [] kvs)) S1
  | .new => False) x
theorem ge_disp {keys : List (Option Expr)} {values : List Expr} {er : RV.Env → ML} (h : GP X W pos keys values er) (hall : keys.all (·.isSome) = true := by rfl) (hl : keys.length = values.length := by rfl) (h0 : keys ≠ [] := by simp) (h15 : keys.length ≤ 15 := by decide) : GE X W (.Dict keys values pos) (eDisp .still er) := by
  obtain ⟨trs, p, m⟩ := h
  refine ⟨_, pe_disp p hall hl h0 h15, fun as F H S ρ σ I R q x e Q hq hx => ?_⟩
  intro a ha
  have fa := I.out ha
  have na : a ∉ as := fun z => I.there z ha
  have I0 : Sit X.K as F (upd H a (.dK [])) S := I.other fa na
  have gg : ∀ {bs F' H' S'}, Grow X.K as F (upd H a (.dK [])) bs F' H' S' → Grow X.K as F H bs F' H' S' := fun g => ⟨g.sit, g.pre, g.ex, fun b hb => (g.new b hb).imp id fun z => by
      by_cases e2 : b = a
      · subst e2; exact ha
      · rwa [upd_ne e2] at z, fun b hb => (g.newc b hb).imp id fun z => by
      by_cases e2 : b = a
      · subst e2; exact ha
      · rwa [upd_ne e2] at z, fun b o nb hb => g.old b o nb (by rw [upd_ne (ne_of_none hb ha)]; exact hb), fun b hb => g.there b (upd_there hb)⟩
  refine m as F _ S ρ σ I0 R _ x e _ (fun ds S1 bs F1 H1 ps h1 g1 r1 => ?_) (fun e2 S' bs F' H' cls dd a1 g a3 => hx e2 S' bs F' H' cls dd a1 (gg g) a3)
  obtain ⟨kvs, h2, h3⟩ := onS_ok h1
  obtain ⟨vkv, e1, e2, e3⟩ := pair_ok h2 r1
  have at1 : H1 a = some (.dK []) := g1.old a _ na upd_same
  have nb : a ∉ bs := fun z => by
    rcases g1.newc a z with z | z
    · exact na z
    · rw [upd_same] at z; cases z
  have fb : F1 a = none := by
    cases q2 : F1 a with
    | none => rfl
    | some o =>
      rcases g1.new a (by rw [q2]; simp) with z | z
      · exact absurd fa z
      · rw [upd_same] at z; cases z
  refine ⟨at1, vkv, e1, by rw [← e3]; exact of_decide_eq_true h3.1, ?_⟩
  have g2 := gg g1
  have I2 : Sit X.K bs F1 (upd H1 a (.dK (mergeK [] vkv))) S1 := g1.sit.other fb nb
  have I3 := I2.freeze fb nb upd_same
  refine hq _ S1 bs (upd F1 a (.dK (mergeK [] vkv))) _ (.ref a) h3.2 ⟨I3, g2.pre, g2.ex.trans (Ex.new fb), fun b hb => ?_, g2.newc, fun b o nb2 hb => ?_, fun b hb => upd_there (g2.there b hb)⟩ (.dic upd_same (RpK.mono (Ex.new fb) (Pre.refl _) (e2.merge .nil)))
  · by_cases e4 : b = a
    · subst e4; exact .inr ha
    · rw [upd_ne e4] at hb
      exact g2.new b hb
  · rw [upd_ne (ne_of_none hb ha)]
    exact g2.old b o nb2 hb
def eDic0 : RV.Env → M := fun _ S q _ => q (.dic []) S
theorem ge_dic0 : GE X W (.Dict [] [] pos) eDic0 := ⟨_, pe_dnewK, fun as F H S ρ σ I R q x h Q hq _ a ha => hq _ S as _ _ _ h (I.grow ha) (.dic upd_same .nil)⟩
/-! ### repr -/
def flatPy : D → Option PyData
  | .non => some .none
  | .bl b => some (.bool b)
  | .int i => some (.int i)
  | .str s => some (.str s)
  | _ => none
def keyPy : Key → PyData
  | .inl i => .int i
  | .inr s => .str s
def kvPy : List (Key × D) → Option (List (PyData × PyData))
  | [] => some []
  | (k, d) :: r => (flatPy d).bind fun p => (kvPy r).map fun l => (keyPy k, p) :: l
theorem flat_reads {h : Heap} {d : D} {v : V} {u : Value} {p : PyData} (r : Rp K as F d v) (e : flatPy d = some p) (ru : RelV v u) : Reads h u p [] := by
  cases r with
  | non => cases e; cases ru; exact .none
  | bl b => cases e; cases ru; exact .bool b
  | int i => cases e; obtain ⟨t, rfl⟩ := ru; exact .int i t
  | str s => cases e; obtain ⟨t, rfl⟩ := ru; exact .str s t
  | _ => cases e
theorem kv_reads {P : Program} {w : World} {h : Heap} : ∀ {kvs : List (Key × D)} {vkv : List (Key × V)} {us : List (Key × Value)} {es : List DictEntry} {ps : List (PyData × PyData)}, RpK K as F kvs vkv → KV vkv us → Pairs (mixKind P w) es us → kvPy kvs = some ps →
    ReadsAll h (es.map (·.key)) (ps.map (·.1)) [] ∧ ReadsAll h (es.map (·.val)) (ps.map (·.2)) []
  | _, _, _, _, _, .nil, .nil, .nil, e => by cases e; exact ⟨.nil, .nil⟩
  | _, _, _, _, _, .cons (n := k) h1 r, .cons h2 t, .cons h3 h4 t2, e => by
    unfold kvPy at e
    simp only [Option.bind_eq_some_iff, Option.map_eq_some_iff] at e
    obtain ⟨p, e1, l, e2, rfl⟩ := e
    obtain ⟨a1, a2⟩ := kv_reads r t t2 e2
    have hk := h3
    rw [← h2.1] at hk
    refine ⟨?_, ?_⟩
    · rcases keyIs_shape hk with ⟨i, tt, z1, z2⟩ | ⟨y, tt, z1, z2⟩
      · simp only at z1
        subst z1
        rw [List.map_cons, z2]
        exact ReadsAll.cons (as := []) (bs := []) (.int i tt) a1
      · simp only at z1
        subst z1
        rw [List.map_cons, z2]
        exact ReadsAll.cons (as := []) (bs := []) (.str y tt) a1
    · rw [List.map_cons, h4]
      exact ReadsAll.cons (as := []) (bs := []) (flat_reads h1 e1 h2.2) a2
/-- the data of a dict at a -/
def DicAt (K : PySem.W.Frag) (H : Hp) (a : Addr) (p : PyData) : Prop := ∃ (as : List Addr) (F : Hp) (kvs : List (Key × D)) (vkv : List (Key × V)) (ps : List (PyData × PyData)), H a = some (.dK vkv) ∧ RpK K as F kvs vkv ∧ kvPy kvs = some ps ∧ p = .dict ps
def rRepr2 (K : PySem.W.Frag) : List V → Hp → VK → Prop := fun xs H Q => rRepr K xs H Q ∨ ∃ a p, xs = [.ref a] ∧ DicAt K H a p ∧ p.showable = true ∧ p.depth ≤ 64 ∧ p.shown.length ≤ sizeLine ∧ Q (.str p.shown) H
theorem Rx.units {h : Bool} {k : Nat} (hr : Rx h k X) : X.A.units + 65 < cLine := by
  cases h
  · have := hr.un; omega
  · have := hr.1.un; omega
end
end RV
end
section
namespace RV
open PySem L2
section
variable {K : PySem.W.Frag} {as : List Addr} {F H : Hp} {S : WS} {X : Cx} {W : WX} {pos : Pos}
theorem call_repr2 {h : Bool} {k : Nat} (hg : X.A.guards = some []) (hr : Rx h k X) : CallR X (.builtin "repr") (rRepr2 X.K) := fun pins s σ H xs us Q I rv hh => by
  have hu := hr.units
  rcases hh with ⟨x, d, rfl, hd, hs, hnd, hde, hz, q⟩ | ⟨a, p, rfl, ⟨as, F, kvs, vkv, ps, ha, rk, ek, rfl⟩, hs, hde, hz, q⟩
  · obtain ⟨u, rfl, ru⟩ := vals1 rv
    have heap : ∀ p, x = .ref p → wpAny (model X.prog X.w) X.A (call (.builtin "repr") [u]) (EP X pins σ Q) X.xe s := fun p ex => by
      subst ex
      cases ru
      obtain ⟨as, rd⟩ := hd.reads I d _ _ rfl
      refine PySem.repr_of_reads' rd hs (fun z => by rw [hnd] at z; cases z) hg (by omega) (fun b o e => e) (fun h' u tk hk => ?_) hz
      exact ⟨.str d.shown, H, I.kept hk, ⟨u, rfl⟩, q⟩
    cases hd with
    | lst _ _ => exact heap _ rfl
    | tup _ _ => exact heap _ rfl
    | non => cases ru; exact PySem.P.repr_of_none ⟨.str _, H, I.tok _, ⟨_, rfl⟩, q⟩
    | bl b => cases ru; exact PySem.P.repr_of_bool ⟨.str _, H, I.tok _, ⟨_, rfl⟩, q⟩
    | int i =>
      obtain ⟨t, rfl⟩ := ru
      exact PySem.P.repr_of_int (of_decide_eq_true (by simpa [PyData.showable] using hs)) ⟨.str _, H, I.tok _, ⟨_, rfl⟩, q⟩
    | str z =>
      obtain ⟨t, rfl⟩ := ru
      exact PySem.P.repr_of_str ⟨.str _, H, I.tok _, ⟨_, rfl⟩, q⟩ hz
  · obtain ⟨u, rfl, ru⟩ := vals1 rv
    cases ru
    obtain ⟨_, hsm, us, hkv, o, es, ep, e1, e2, e3, _, e4, _⟩ := dk_of I.hok ha
    obtain ⟨r1, r2⟩ := kv_reads (h := s.heap) rk hkv e4 ek
    have rd : Reads s.heap (.ref a) (.dict ps) [a] := Reads.dict (as := []) (bs := []) e1 e2.1 e3 r1 r2
    refine PySem.repr_of_reads' rd hs (fun _ z => ?_) hg (by omega) (fun b o e => e) (fun h' u tk hk => ?_) hz
    · rw [List.mem_singleton] at z
      rw [z] at hsm
      simp at hsm
    · exact ⟨.str _, H, I.kept hk, ⟨u, rfl⟩, q⟩
def reprD2 : WS → List D → Option D := fun S xs => match xs with
  | [.dic kvs] => (kvPy kvs).bind fun ps => if (PyData.dict ps).showable = true ∧ (PyData.dict ps).depth ≤ 64 ∧ (PyData.dict ps).shown.length ≤ sizeLine then some (.str (PyData.dict ps).shown) else none
  | xs => reprD S xs
theorem rc_repr2 : RC K (rRepr2 K) reprD2 := fun as F H S ds d vs I r h Q q => by
  unfold reprD2 at h
  split at h
  · simp only [Option.bind_eq_some_iff] at h
    obtain ⟨ps, h1, h2⟩ := h
    split at h2
    · rename_i hh
      cases h2
      obtain ⟨v, ws, rfl, rv, rn⟩ := r.unsn
      obtain rfl := rn.unnil
      cases rv with
      | dic z1 z2 => exact .inr ⟨_, _, rfl, ⟨as, F, _, _, ps, I.ex _ _ z1, z2, h1, rfl⟩, hh.1, hh.2.1, hh.2.2, keep I q (.str _)⟩
    · cases h2
  · exact .inl (rc_repr as F H S _ d vs I r h Q q)
/-! ### str of flat things -/
def rStrF : List V → Hp → VK → Prop := fun xs H Q => (∃ i, xs = [.int i] ∧ i.natAbs.log2 < 1920 ∧ Q (.str (toString i)) H) ∨ (∃ a, xs = [.str a] ∧ Q (.str a) H) ∨ ∃ b : Bool, xs = [.bl b] ∧ Q (.str (if b then "True" else "False")) H
theorem call_strFl : CallR X (.type "str") rStrF := fun pins s σ H xs us Q I r h => by
  rcases h with h | h | ⟨b, rfl, q⟩
  · exact call_str_int pins s σ H xs us Q I r h
  · obtain ⟨a, rfl, q⟩ := h
    obtain ⟨u, rfl, t, rfl⟩ := vals1 r
    exact PySem.P.str_of_str ⟨.str a, H, I, ⟨t, rfl⟩, q⟩
  · obtain ⟨u, rfl, rfl⟩ := vals1 r
    exact PySem.P.str_of_bool ⟨.str _, H, I.tok _, ⟨_, rfl⟩, q⟩
def strFD : WS → List D → Option D := fun _ xs => match xs with
  | [.int i] => if i.natAbs.log2 < 1920 then some (.str (toString i)) else none
  | [.str s] => some (.str s)
  | [.bl b] => some (.str (if b then "True" else "False"))
  | _ => none
theorem rc_strFl : RC K rStrF strFD := fun as F H S ds d vs I r h Q q => by
  unfold strFD at h
  split at h
  · split at h
    · rename_i i hi
      cases h
      obtain ⟨v, ws, rfl, rv, rn⟩ := r.unsn
      obtain rfl := rn.unnil
      cases rv
      exact .inl ⟨i, rfl, hi, keep I q (.str _)⟩
    · cases h
  · cases h
    obtain ⟨v, ws, rfl, rv, rn⟩ := r.unsn
    obtain rfl := rn.unnil
    cases rv
    exact .inr (.inl ⟨_, rfl, keep I q (.str _)⟩)
  · cases h
    obtain ⟨v, ws, rfl, rv, rn⟩ := r.unsn
    obtain rfl := rn.unnil
    cases rv
    exact .inr (.inr ⟨_, rfl, keep I q (.str _)⟩)
  · cases h
/-! ### list * int -/
def repLD : WS → D → D → Option D := fun _ x y => match x, y with
  | .lst ds, .int k => if 0 ≤ k ∧ k < 1000 ∧ small (ds.length * k.toNat) = true then some (.lst (List.replicate k.toNat ds).flatten) else none
  | _, _ => none
theorem RpL.rep {ds : List D} {vs : List V} (r : RpL K as F ds vs) : ∀ n : Nat, RpL K as F (List.replicate n ds).flatten (List.replicate n vs).flatten
  | 0 => .nil
  | n + 1 => by
    rw [List.replicate_succ, List.replicate_succ, List.flatten_cons, List.flatten_cons]
    exact r.append (r.rep n)
theorem ro_repL : RO K rRep repLD := fun as F H S x y d vx vy I rx ry h Q q => by
  unfold repLD at h
  split at h
  · rename_i ds k
    split at h
    · rename_i hh
      cases h
      cases rx with
      | @lst a0 xs0 _ z1 z2 =>
        cases ry
        have hl := z2.length
        refine ⟨_, k, _, rfl, rfl, I.ex _ _ z1, by omega, by omega, by rw [← hl]; exact small_le hh.2.2, fun p hp => ?_⟩
        have g := I.grow (o := .lst (List.replicate k.toNat xs0).flatten) hp
        exact q _ _ _ g (.lst upd_same ((z2.mono g.ex g.pre).rep _))
    · cases h
  · cases h
end
end RV
end
section
/-! The law's end with tables of code objects; the head that tells of them. -/
namespace RV
open PySem L2
variable {nn : Bool}
def noTab : Obj := { cls := .none, data := .fields #[] }
/-- the law's def, called with the script; ts: code objects and their tables -/
theorem script_runT {P : Program} {w : World} {K : PySem.W.Frag} {mg mb : Str → Option Value} {k : Nat} {fa a : Addr} {fd : FuncData} {x : Str} {sp : Sp} {s1 : Shared} {vs : List Value} {ns : List Int} {ts : List (Addr × Addr)}
    (KX : K.In s1.heap) (hns : s1.heap.Ns mainGlobals mg) (hb : s1.heap.Ns builtinsNs mb) (hbb : ∀ x : Str, x ≠ "__name__" → mb x = bootBuiltins x) (hlim : s1.heap.NoLimit) (hg : s1.gens = #[])
    (tE : ∀ t ∈ ts, s1.heap.get? t.2 = some noTab) (tK : ∀ t ∈ ts, K.lookup t.2 = none) (tC : ∀ t ∈ ts, PySem.W.CodeHd s1.heap t.1 t.2)
    (tB : ∃ (bm : Addr) (ob : Obj), mg "__builtins__" = some (.ref bm) ∧ bm ≠ builtinsNs ∧ s1.heap.get? bm = some ob ∧ ob.cls = .type "module" ∧ ob.dict = some builtinsNs ∧ ob.data = .plain)
    (ha : s1.heap.get? a = some { cls := .type "list", data := .seq vs.toArray }) (hi : PyProof.Rows.IntsAre vs ns) (hl : ns.length ≤ sizeLine) (hr : Room k callerA)
    (F : ∀ base : Heap, K.In base → base.Ns mainGlobals mg → (∀ t ∈ ts, LamX.TabB base mg t.1 t.2) → FnX ⟨true, nn, false⟩ P w K mg base k fa fd [x] sp) (hbind : ∀ (s : Shared) (u : Value), BindsTo s fd ⟨[u], []⟩ [(x, u)])
    (hsp : ∀ H : Hp, (∀ t ∈ ts, H t.2 = some (.tbl #[])) → SqL K H a (ns.map V.int) → sp [.ref a] H (fun v _ => v = .bl true) fun _ _ _ => False) :
    codeAny (model P w) callerA (.call (.ref fa) ⟨[.ref a], []⟩) (fun r s' => r = .ok (.ret (.bool true)) ∧ OldK s1.heap s'.heap ∧ s'.os = s1.os ∧ PyProof.Rows.AllBare s'.gens) s1 := by
  have rv := vals_ints hi
  let isT : Addr → Prop := fun b => ∃ t ∈ ts, t.2 = b
  have atT : ∀ b, isT b → s1.heap.get? b = some noTab := fun b ⟨t, h1, h2⟩ => h2 ▸ tE t h1
  have aT : ¬ isT a := fun z => by
    have q := (atT a z).symm.trans ha
    have := congrArg Obj.data (Option.some.inj q)
    cases this
  have core : ∀ H : Hp, (∀ b, isT b → H b = some (.tbl #[])) → (∀ b, ¬ isT b → H b = none ∨ (b = a ∧ ∃ o xs, H b = some (.frz o (.lst xs)))) → SqL K H a (ns.map V.int) → HOk P w H s1.heap → (H a ≠ none → K.lookup a = none) →
      codeAny (model P w) callerA (.call (.ref fa) ⟨[.ref a], []⟩) (fun r s' => r = .ok (.ret (.bool true)) ∧ OldK s1.heap s'.heap ∧ s'.os = s1.os ∧ PyProof.Rows.AllBare s'.gens) s1 := by
    intro H hT hO hS hok hK
    -- what is no table and no list is out of sight
    have out : ∀ {b : Addr} {o : Obj}, s1.heap.get? b = some o → o ≠ noTab → (∀ vs n, o.data ≠ .seq vs n) → H b = none := fun {b o} e h1 h2 => by
      by_cases z : isT b
      · rw [atT b z] at e
        exact absurd (Option.some.inj e).symm h1
      · rcases hO b z with y | ⟨rfl, _⟩
        · exact y
        · rw [ha] at e
          exact absurd rfl (by rw [← Option.some.inj e] at h2; exact h2 _ _)
    have dictOut : ∀ {c : Addr} {m : Str → Option Value}, s1.heap.Ns c m → (hidT s1.heap H).Ns c m := fun {c m} ⟨o, es, ep, e, d, r⟩ => by
      refine ⟨o, es, ep, hidT_get e (out e (fun z => ?_) fun vs n z => ?_), d, r⟩
      · rw [z] at d; cases d
      · rw [z] at d; cases d
    have KB : K.In (hidT s1.heap H) := fun c o e => by
      refine hidT_get (KX c o e) ?_
      by_cases z : isT c
      · obtain ⟨t, h1, h2⟩ := z
        rw [← h2, tK t h1] at e
        cases e
      · rcases hO c z with y | ⟨rfl, oo, xs, y⟩
        · exact y
        · rw [hK (by rw [y]; simp)] at e
          cases e
    have md : Mod K mg (hidT s1.heap H) := by
      obtain ⟨mc, l1, l2⟩ := hlim
      exact ⟨KB, dictOut hns, ⟨mb, dictOut hb, hbb⟩, ⟨mc, dictOut l1, l2⟩⟩
    have TB : ∀ t ∈ ts, LamX.TabB (hidT s1.heap H) mg t.1 t.2 := fun t ht => by
      have e0 := tE t ht
      refine ⟨?_, ?_, fun z => ?_⟩
      · obtain ⟨o, us, fl, tf, fg, tg, inF, tx, tt, e1, r1, r2, rest⟩ := tC t ht
        refine ⟨o, us, fl, tf, fg, tg, inF, tx, tt, hidT_get e1 (out e1 (fun z => ?_) fun vs n z => ?_), r1, r2, rest⟩
        · rw [z] at r1; cases r1
        · rw [r2] at z; cases z
      · obtain ⟨bm, ob, b1, b2, b3, b4, b5, b6⟩ := tB
        refine ⟨bm, ob, b1, b2, fun q => ?_, fun q => ?_, hidT_get b3 (out b3 (fun z => ?_) fun vs n z => ?_), b4, b5, b6⟩
        · obtain ⟨o, es, ep, e, hd, _⟩ := hns
          rw [q, e] at b3
          cases b3
          rw [hd] at b6; cases b6
        · rw [q, e0] at b3
          cases b3; cases b6
        · rw [z] at b6; cases b6
        · rw [b6] at z; cases z
      · obtain ⟨o, es, ep, e, hd, _⟩ := hns
        rw [z, e0] at e
        cases e; cases hd
    have e0 : Env0 P w K mg (hidT s1.heap H) callerA [] s1 H := by
      refine ⟨rfl, md, fun c o e => of_hidT e, Nat.le_of_eq (hidT_size _ _), trivial, fun c hc => ?_, hok, .of_eq hg⟩
      exact absurd hc (by simp [frs])
    refine codeAny_mono ((F _ KB (dictOut hns) TB).run callerA [] s1 H ⟨[.ref a], []⟩ [.ref a] [.ref a] _ _ (fun _ => rfl) hr e0 (hbind s1 (.ref a)) (.cons rfl .nil) (hsp H (fun t ht => hT _ ⟨t, ht, rfl⟩) hS)) fun r s' h => ?_
    cases r with
    | error e => exact (cxm_no h).elim
    | ok fl =>
      cases fl with
      | next => exact h.elim
      | brk => exact h.elim
      | cont => exact h.elim
      | ret u =>
        obtain ⟨v, H', os, bare, un, hok', r', q⟩ := h
        have q' : v = .bl true := q
        subst q'
        obtain rfl : u = Value.bool true := r'
        have same : ∀ b o, ¬ isT b → s1.heap.get? b = some o → s'.heap.get? b = some o := fun b o nb e => by
          rcases hO b nb with z | ⟨_, ob, xs, z⟩
          · exact un.keep b o e z (by simp [frs]) (by simp)
          · obtain ⟨e1, _⟩ := hok b _ z
            obtain ⟨e2, _⟩ := hok' b _ (un.frzs b ob _ z)
            rw [e] at e1
            cases e1
            exact e2
        have more : ∀ b, isT b → ∃ m : Array Value, s'.heap.get? b = some { cls := .none, data := .fields m } := fun b hb => by
          obtain ⟨m, z⟩ := un.tbls b #[] (hT b hb)
          exact ⟨_, hok' b _ z⟩
        refine ⟨rfl, ⟨fun b o e => ?_, fun b o e => ?_⟩, os, bare⟩
        · by_cases hb : isT b
          · obtain ⟨m, hm⟩ := more b hb
            have eb := atT b hb
            obtain ⟨t, h1, rfl⟩ := hb
            rw [eb] at e
            cases e
            refine .inr (.inl ⟨((tC t h1).tab eb).isCodeTable, rfl, #[], m, rfl, ?_⟩)
            rw [Array.empty_append]
            exact hm
          · exact .inl (same b o hb e)
        · by_cases hb : isT b
          · obtain ⟨m, hm⟩ := more b hb
            exact ⟨_, hm⟩
          · exact ⟨o, same b o hb e⟩
  have dec : ∀ b, isT b ∨ ¬ isT b := fun b => Classical.em _
  open Classical in
  cases hk : K.lookup a with
  | some o =>
    have e := KX a o hk
    rw [ha] at e
    cases e
    refine core (fun b => if isT b then some (.tbl #[]) else none) (fun b hb => if_pos hb) (fun b hb => .inl (if_neg hb)) ?_ (fun b u z => ?_) fun z => absurd (if_neg aT) z
    · refine .inr ⟨_, vs.toArray, _, hk, rfl, rfl, rfl, ?_, by simpa using rv⟩
      rw [List.size_toArray, hi.length]
      exact hl
    · by_cases hb : isT b
      · have z' := (if_pos hb).symm.trans z
        cases z'
        exact atT b hb
      · have z' := (if_neg hb).symm.trans z
        cases z'
  | none =>
    let lock : HO := .frz { cls := .type "list", data := .seq vs.toArray } (.lst (ns.map V.int))
    have at1 : (fun c => if c = a then some lock else if isT c then some (.tbl #[]) else none : Hp) a = some lock := if_pos rfl
    refine core (fun c => if c = a then some lock else if isT c then some (.tbl #[]) else none) (fun b hb => (if_neg (show ¬ b = a from fun z => aT (z ▸ hb))).trans (if_pos hb)) (fun b hb => ?_) (.inl (.inr ⟨_, at1⟩)) (fun c u z => ?_) fun _ => hk
    · by_cases e : b = a
      · exact .inr ⟨e, _, _, if_pos e⟩
      · exact .inl ((if_neg e).trans (if_neg hb))
    · by_cases hc : c = a
      · have z' : some lock = some u := (if_pos hc).symm.trans z
        cases z'
        subst hc
        exact ⟨ha, by rw [List.length_map]; exact hl, vs, _, rv, ha⟩
      · have z1 := (if_neg hc).symm.trans z
        by_cases hb : isT c
        · have z' := (if_pos hb).symm.trans z1
          cases z'
          exact atT c hb
        · have z' := (if_neg hb).symm.trans z1
          cases z'
/-- the cells that stand at the law's start -/
def tabS (ts : List (Addr × Addr)) (qs : List Str) : WS := (ts.zip qs).map fun p => .tab p.1.2 p.2
theorem tabS_len : ∀ {ts : List (Addr × Addr)} {qs : List Str}, ts.length = qs.length → (tabS ts qs).length = ts.length := fun {ts qs} h => by simp [tabS, h]
theorem walk_GT {l : PySem.W.OpenLaw} {n k : Nat} {q : Program} {loose : List Str} {XP : (Str → Option Value) → Heap → Prop} {YP : World → Heap → Prop} {d : DefRec} {x : Str}
    (hn : l.most = some n) (hn2 : n ≤ sizeLine) (hdf : d.params.defaults = []) (hr : Room k callerA)
    (F : ∀ (w : World) (mg : Str → Option Value) (fa : Addr) (h : Heap), YP w h → h.Ns mainGlobals mg → mg d.name = some (.ref fa) →
      ∃ (K : PySem.W.Frag) (fd : FuncData) (G : List D → M) (ts : List (Addr × Addr)) (qs : List Str), K.In h ∧ (∀ t ∈ ts, h.get? t.2 = some noTab) ∧ (∀ t ∈ ts, K.lookup t.2 = none) ∧ (∀ t ∈ ts, PySem.W.CodeHd h t.1 t.2) ∧ (ts.map (·.2)).Nodup ∧ ts.length = qs.length ∧ (∀ (s : Shared) (u : Value), BindsTo s fd ⟨[u], []⟩ [(x, u)]) ∧
        (∀ (ns : List Int) (q : D → WS → Prop) (x : Xq), ns.length ≤ n → q (.bl true) (tabS ts qs) → G [.scr ns] (tabS ts qs) q x) ∧
        ∀ base : Heap, K.In base → base.Ns mainGlobals mg → (∀ t ∈ ts, LamX.TabB base mg t.1 t.2) → FnX ⟨true, nn, false⟩ l.prog w K mg base k fa fd [x] (spG K 1 G)) :
    PySem.W.WalkO q loose XP YP l.row.toRowW d [] (fun f vs => PySem.call f vs) := by
  refine Att.attach_call hn hdf fun w s0 s1 mg mb fa o pm cd doc a vs ns Gr Y ho hd hcd hmg hobj hints hlen hg => ?_
  obtain ⟨K, fd, G, ts, qs, KX, tE, tK, tC, tN, tL, hb, hG, hF⟩ := F w mg fa _ Y Gr.T.g hmg
  refine script_runT KX Gr.T.g Gr.T.b Gr.T.builtins Gr.T.nolimit hg tE tK tC Gr.T.bmain hobj hints (Nat.le_trans hlen hn2) hr hF hb fun H hT hS => ?_
  open Classical in
  let F0 : Hp := fun b => if b ∈ ts.map (·.2) then none else H b
  have hF0 : ∀ b, b ∈ ts.map (·.2) → F0 b = none := fun b hb => if_pos hb
  have hF1 : ∀ b, b ∉ ts.map (·.2) → F0 b = H b := fun b hb => if_neg hb
  have ex : Ex F0 H := fun b o e => by
    by_cases hb : b ∈ ts.map (·.2)
    · rw [hF0 b hb] at e; cases e
    · rwa [hF1 b hb] at e
  have hS0 : SqL K F0 a (ns.map V.int) := by
    have ne : ∀ o, H a = some o → (∀ ps, o ≠ .tbl ps) → a ∉ ts.map (·.2) := fun o e n z => by
      obtain ⟨t, h1, h2⟩ := List.mem_map.mp z
      have := hT t h1
      rw [h2, e] at this
      exact n _ (Option.some.inj this)
    rcases hS with hS | hS
    · rcases hS with hS | ⟨ob, hS⟩
      · exact .inl (.inl (by rw [hF1 _ (ne _ hS (fun _ z => by cases z))]; exact hS))
      · exact .inl (.inr ⟨ob, by rw [hF1 _ (ne _ hS (fun _ z => by cases z))]; exact hS⟩)
    · exact .inr hS
  have sit : Sit K (ts.map (·.2)) F0 H (tabS ts qs) := by
    refine ⟨by rw [tabS_len tL, List.length_map], ex, tN, fun i p c h1 h2 => ?_⟩
    have hp := List.mem_of_getElem? h1
    refine ⟨fun _ => hF0 p hp, .tbl #[], ?_, ?_⟩
    · obtain ⟨t, h3, h4⟩ := List.mem_map.mp hp
      rw [← h4]
      exact hT t h3
    · unfold tabS at h2
      simp only [List.getElem?_map, Option.map_eq_some_iff] at h1 h2
      obtain ⟨t, h3, h4⟩ := h1
      obtain ⟨z, h5, h6⟩ := h2
      rw [List.getElem?_zip_eq_some] at h5
      rw [h3] at h5
      have e := Option.some.inj h5.1
      subst h6
      refine ⟨by rw [← e, h4], trivial, fun pos cv e => ?_⟩
      have e : codeAmong pos [] = some cv := e
      simp [codeAmong] at e
  refine ⟨ts.map (·.2), F0, tabS ts qs, [.scr ns], fun d _ => d = .bl true, noX, sit, .cons (.scr hS0) .nil, rfl, hG ns _ _ hlen rfl, fun d S' bs F' H' v e _ r => ?_, XQ.no⟩
  have e : d = .bl true := e
  subst e
  cases r
  rfl
/-! ### the head's word -/
structure TabsAt (tf : List He.Defn) (h : Heap) (K : PySem.W.Frag) : Prop where
  hd : ∀ p ∈ tf, PySem.W.codeHdIn K (He.cT K p).1 (He.cT K p).2 = true
  out : ∀ p ∈ tf, K.lookup (He.cT K p).2 = none
  empty : ∀ p ∈ tf, h.get? (He.cT K p).2 = some noTab
theorem tabsAt_of {g : Addr → Option Obj} {h : Heap} {tf : List He.Defn} {as : List Addr} (hg : g = h.get?) (e : He.tabsB g tf (He.frT g (as)) = true) : TabsAt tf h (He.frT g (as)) := by
  subst hg
  have key : ∀ p ∈ tf, PySem.W.codeHdIn (He.frT h.get? (as)) (He.cT (He.frT h.get? (as)) p).1 (He.cT (He.frT h.get? (as)) p).2 = true ∧ ∃ o, h.get? (He.cT (He.frT h.get? (as)) p).2 = some o ∧ He.emptyTab o = true := fun p hp => by
    obtain ⟨h3, h4⟩ := He.ba (List.all_eq_true.mp e p hp)
    refine ⟨h3, ?_⟩
    split at h4
    · rename_i o q
      exact ⟨o, q, h4⟩
    · cases h4
  refine ⟨fun p hp => (key p hp).1, fun p hp => ?_, fun p hp => ?_⟩
  · obtain ⟨_, o, q, z⟩ := key p hp
    exact He.frT_none q z
  · obtain ⟨_, o, q, z⟩ := key p hp
    rw [q, He.emptyTab_eq z]
    rfl
/-! the addresses within n steps of the globals, each once -/
def newB : List Addr → Nat → Nat × List Addr
  | [], s => (s, [])
  | a :: r, s => match Nat.beq (Nat.land (Nat.shiftRight s a) 1) 0 with
    | true => match newB r (Nat.lor s (Nat.shiftLeft 1 a)) with
      | (s', l) => (s', a :: l)
    | false => newB r s
def refsB (g : Addr → Option Obj) (fr : List Addr) : List Addr := fr.flatMap fun a => match g a with
  | some o => He.refsD o
  | none => []
def levB (g : Addr → Option Obj) : Nat → List Addr → Nat → List Addr
  | 0, _, _ => []
  | n + 1, fr, s => match newB (refsB g fr) s with
    | (s', fr') => fr' ++ levB g n fr' s'
def asB (g : Addr → Option Obj) (n : Nat) : List Addr := mainGlobals :: (levB g n [mainGlobals] (Nat.shiftLeft 1 mainGlobals) ++ [PySem.cStatics])
def hookT (n : Nat) (fa : List He.Fa) (fn : List He5.DefA) (tf : List He.Defn) (ex : PySem.W.Frag → Bool) : PySem.W.Hook where
  α := He.AlD × Bool
  obs := fun s => (He5.obsA fa fn (He.frT s.heap.get? (asB s.heap.get? n)), ex (He.frT s.heap.get? (asB s.heap.get? n)) && He.tabsB s.heap.get? tf (He.frT s.heap.get? (asB s.heap.get? n)))
  val := fun _ => (He5.valA fn, true)
  says := fun _ h => ∃ K : PySem.W.Frag, K.In h ∧ He5.SaysA fa fn K ∧ ex K = true ∧ TabsAt tf h K
  of := fun _ _ e => ⟨_, He.frT_in, congrArg Prod.fst e, (He.ba (congrArg Prod.snd e)).1, tabsAt_of rfl (He.ba (congrArg Prod.snd e)).2⟩
  keeps := fun _ _ _ ⟨K, hK, c, cx, ct⟩ k => ⟨K, PySem.W.Frag.In.keeps hK k, c, cx, ct.hd, ct.out, fun p hp => k _ _ (ct.empty p hp)⟩
def obT (n : Nat) (fa : List He.Fa) (fn : List He5.DefA) (tf : List He.Defn) (ex : PySem.W.Frag → Bool) (g : Addr → Option Obj) : He.AlD × Bool := (He5.obsA fa fn (He.frT g (asB g n)), ex (He.frT g (asB g n)) && He.tabsB g tf (He.frT g (asB g n)))
theorem obT_eq {n : Nat} {fa : List He.Fa} {fn : List He5.DefA} {tf : List He.Defn} {ex : PySem.W.Frag → Bool} {g : Addr → Option Obj} {s : Shared} (h : ∀ a, g a = s.heap.get? a) : obT n fa fn tf ex g = (hookT n fa fn tf ex).obs s := by
  have e : g = s.heap.get? := funext h
  rw [e] <;> rfl
/-- the table of the def at f -/
def TabD (K : PySem.W.Frag) (base : Heap) (mg : Str → Option Value) (f : Addr) (qual : Str) (T : Addr) : Prop := ∀ cdv : Value, CdOf K f qual cdv → ∃ c, cdv = .ref c ∧ LamX.TabB base mg c T
theorem tabD_of {K : PySem.W.Frag} {base : Heap} {mg : Str → Option Value} {p : He.Defn} {qual : Str} (h : LamX.TabB base mg (He.cT K p).1 (He.cT K p).2) : TabD K base mg (He.fAd K p) qual (He.cT K p).2 := fun cdv hc => by
  obtain ⟨oc, od, fd, osl, lk, e, hq⟩ := hc
  obtain ⟨c, rfl⟩ := He.codeIn_ref hq
  have e2 : He.codeOf K p = c := He.codeOf_eq lk e
  refine ⟨c, rfl, ?_⟩
  rw [← e2]
  exact h
end RV
end
section
/-! Errors: what the written part must say; their kinds; modes. -/
namespace RV
open PySem L2
open He (eqO eqO_ok ba ga ma)
section
variable {K : PySem.W.Frag} {C : Addr}
def errTail (n : String) : Option (List Value) := if n = "ValueError.__new__" then some [.type "ValueError", .type "Exception", .type "BaseException", .type "object"] else if n = "LookupError.__new__" then some [.type "LookupError", .type "Exception", .type "BaseException", .type "object"] else if n = "ArithmeticError.__new__" then some [.type "ArithmeticError", .type "Exception", .type "BaseException", .type "object"] else none
theorem errTail_ok {n : String} {l : List Value} (h : errTail n = some l) : ErrB n l := by
  unfold errTail at h
  split at h
  · rename_i e
    subst e
    cases h
    exact .val
  · split at h
    · rename_i e
      subst e
      cases h
      exact .look
    · split at h
      · rename_i e
        subst e
        cases h
        exact .arith
      · cases h
def oexB (K : PySem.W.Frag) (C : Addr) : Bool := (match K.lookup C with
  | some ⟨.type "type", _, .cls cd, sl⟩ => (match cd.mro, sl.toList with
    | .ref C1 :: bm, [_, _, _, _, some (.builtin n), _] => C1 == C && ((match errTail n with
      | some l => PySem.W.excTail l bm
      | none => false) && (!cd.hasDel && cd.hasDict))
    | _, _ => false)
  | _ => false) && (eqO (PySem.W.findIn K (.ref C) "__setattr__") (some (some (.builtin "object.__setattr__"))) && (decide (PySem.W.subIn K (.ref C) (.type "BaseException") = some true) && (decide (PySem.W.typeIn K (.ref C) = some (.type "type")) && PySem.W.keepIn K (.ref C))))
theorem oexB_ok (h : oexB K C = true) : OexG K C := by
  obtain ⟨h1, h⟩ := ba h
  obtain ⟨h2, h⟩ := ba h
  obtain ⟨h3, h⟩ := ba h
  obtain ⟨h4, h5⟩ := ba h
  refine ⟨?_, eqO_ok h2, of_decide_eq_true h3, of_decide_eq_true h4, h5⟩
  split at h1
  · rename_i dd cd sl lk
    split at h1
    · rename_i C1 bm k0 k1 k2 k3 n k5 hm hs
      obtain ⟨e1, h1⟩ := ba h1
      obtain ⟨e2, h1⟩ := ba h1
      obtain ⟨e3, e4⟩ := ba h1
      have e1 := beq_iff_eq.mp e1
      subst e1
      split at e2
      · rename_i l hl
        obtain ⟨nm, bs, mro, ns, qn, hd, sn, sb, ab, col, del⟩ := cd
        simp only [Bool.not_eq_true'] at hm e3 e4
        subst hm e3 e4
        obtain ⟨l0⟩ := sl
        simp only at hs
        subst hs
        exact ⟨n, l, errTail_ok hl, nm, qn, ns, bs, bm, sn, sb, ab, col, dd, k0, k1, k2, k3, k5, lk, e2⟩
      · cases e2
    · cases h1
  · cases h1
def excB (K : PySem.W.Frag) (C : Addr) : Bool := eqO (PySem.W.findIn K (.ref C) "__getattribute__") (some (some (.builtin "BaseException.__getattribute__"))) && (eqO (PySem.W.findIn K (.ref C) "__getattr__") (some none) && (decide (PySem.W.subIn K (.ref C) (.type "BaseException") = some true) && (PySem.W.hasDictIn K C && kindB K C)))
theorem excB_ok (h : excB K C = true) : ExcC K C := by
  obtain ⟨h1, h⟩ := ba h
  obtain ⟨h2, h⟩ := ba h
  obtain ⟨h3, h⟩ := ba h
  obtain ⟨h4, h⟩ := ba h
  obtain ⟨h5, h⟩ := ba h
  obtain ⟨h6, h⟩ := ba h
  obtain ⟨h7, h8⟩ := ba h
  exact ⟨eqO_ok h1, eqO_ok h2, of_decide_eq_true h3, h4, eqO_ok h5, eqO_ok h6, of_decide_eq_true h7, of_decide_eq_true h8⟩
theorem excC_xf (c : ExcC K C) : XfC K C := ⟨c.hg, c.hk, c.hs, c.hd⟩
/-- an error's kinds; anc: names of error classes with those of their classes and bases -/
def tbX (A : Ad) (all : List String) (anc : List (String × List String)) (C : Addr) (u : Value) : Option Bool := (anc.find? fun p => A.c p.1 == C).bind fun p => if u ∈ all.map (fun n => Value.ref (A.c n)) then some (p.2.any fun m => u == .ref (A.c m)) else none
def tbXB (K : PySem.W.Frag) (A : Ad) (all : List String) (anc : List (String × List String)) : Bool := anc.all fun p => all.all fun n => decide (PySem.W.kitOne K (.ref (A.c p.1)) (.ref (A.c n)) = some (p.2.any fun m => Value.ref (A.c n) == .ref (A.c m)))
theorem tbX_ok {A : Ad} {all : List String} {anc : List (String × List String)} (h : tbXB K A all anc = true) (u : Value) (b : Bool) (e : tbX A all anc C u = some b) : PySem.W.kitOne K (.ref C) u = some b := by
  unfold tbX at e
  simp only [Option.bind_eq_some_iff] at e
  obtain ⟨p, h1, h2⟩ := e
  split at h2
  · rename_i hu
    cases h2
    have hm := List.mem_of_find?_eq_some h1
    have hc : A.c p.1 = C := by
      have z := List.find?_some h1
      exact beq_iff_eq.mp z
    obtain ⟨n, hn, rfl⟩ := List.mem_map.mp hu
    rw [← hc]
    exact of_decide_eq_true (List.all_eq_true.mp (List.all_eq_true.mp h p hm) n hn)
  · cases h2
def errL (A : Ad) (ns : List String) : List Addr := ns.map A.c
theorem errL_all {A : Ad} {ns : List String} {f : Addr → Bool} (h : (ns.all fun n => f (A.c n)) = true) : ∀ C ∈ errL A ns, f C = true := fun C hC => by
  obtain ⟨n, hn, rfl⟩ := List.mem_map.mp hC
  exact List.all_eq_true.mp h n hn
def xcB (K : PySem.W.Frag) (C : Addr) (g : Str) : Bool := oexB K C && (eqO (PySem.W.findIn K (.ref C) "__init__") (some (some (.ref (ma K C "__init__")))) && (decide (PySem.W.typeIn K (.ref (ma K C "__init__")) = some (.type "function")) && eqO (PySem.W.findIn K (.ref C) g) (some none)))
theorem xc_of {P : Program} {w : World} {mg : Str → Option Value} {base : Heap} {x g y qual : Str} {params : Arguments} {body : List Stmt} {scope : Scope} {dvs : List V} {kws : List (Str × V)} {fd : FuncData} {ps : List Str} (F : FunD K y qual params body scope dvs kws (ma K C "__init__") fd) (S : FnScope ps ps scope) (h2 : ps.length = 2) (h : xcB K C g = true)
    (hb : ∀ (nn h : Bool) (cdv : Value) (A : Around) (outer : List PySem.Env) (s : Shared) (H : Hp) (E : XK) (pp : Addr × Obj), PSs (cxG nn h P w K mg base ps qual scope (ma K C "__init__") cdv A outer s H E pp) body (tOsG K g (tVar 0) (tVar 1))) (b : Binds K fd ps []) (hm : mg x = some (.ref C)) : Xc P w K mg base x C g := by
  obtain ⟨h1, h⟩ := ba h
  obtain ⟨h3, h⟩ := ba h
  obtain ⟨h4, h5⟩ := ba h
  exact ⟨_, fd, ps, oexB_ok h1, eqO_ok h3, of_decide_eq_true h4, eqO_ok h5, fun nn h => fn_X F S h2 (hb nn h), b, hm⟩
end
section
variable {X : Cx} {W : WX} {body : List Stmt} {m : RV.Env → MS} {K : PySem.W.Frag} {j : Nat}
/-- a reading under a wish -/
def sWish (p : Prop) (m : RV.Env → MS) : RV.Env → MS := fun ρ S k => p ∧ m ρ S k
theorem gss_wish {p : Prop} (h : p → GSs X W body m) : GSs X W body (sWish p m) := by
  by_cases hp : p
  · obtain ⟨t, a, b⟩ := h hp
    exact ⟨t, a, fun as F H S ρ σ I R k e E q => b as F H S ρ σ I R k e.2 E q⟩
  · exact ⟨fun _ _ _ => False, ⟨fun _ _ _ _ _ _ h => h.elim⟩, fun _ _ _ _ _ _ _ _ _ e => absurd e.1 hp⟩
def eFnE (n : Nat) (G : List D → M) (er : RV.Env → ML) : RV.Env → M := fun ρ S q x => er ρ S (fun ds S1 => ds.length = n ∧ G ds S1 q noX) x
def eChain (f g : WS → D → D → Option D) (ea eb ec : RV.Env → M) : RV.Env → M := fun ρ S q x => bChain f g ea eb ec ρ S (fun b S' => q (.bl b) S') x
theorem ge_chain {a b c : Expr} {pos : Pos} {ea eb ec : RV.Env → M} {op op' : CmpOp} {r r' : R2} {f g : WS → D → D → Option D} (ho : OpR X (compareOp op) r) (ho' : OpR X (compareOp op') r') (hr : RO X.K r f) (hr' : RO X.K r' g) (ha : GE X W a ea) (hb : GE X W b eb) (hc : GE X W c ec) (hm : lastMarks [op, op'] [b, c] = false := by with_unfolding_all rfl) :
    GE X W (.Compare a [op, op'] [b, c] pos) (eChain f g ea eb ec) := by
  obtain ⟨ta, pa, ma⟩ := ha
  obtain ⟨tb, pb, mb⟩ := hb
  obtain ⟨tc, pc, mc⟩ := hc
  refine ⟨_, pe_chain ho ho' pa pb pc hm, fun as F H S ρ σ I R q x h Q hq hx => ?_⟩
  refine ma as F H S ρ σ I R _ x h _ (fun u S1 bs F1 H1 v1 h1 g1 r1 => ?_) hx
  refine mb bs F1 H1 S1 ρ σ g1.sit (R.grow g1) _ x h1 _ (fun w S2 cs F2 H2 v2 h2 g2 r2 => ?_) (hx.step g1)
  obtain ⟨d, hf, h3⟩ := onS_ok h2
  have g12 := g1.trans g2
  refine hr cs F2 H2 S2 u w d v1 v2 g2.sit (RpE_aux g2 r1) r2 hf _ fun F3 H3 v3 g3 r3 => ?_
  have g13 := g12.trans g3
  cases r3 with
  | bl c =>
    refine ⟨c, rfl, ?_⟩
    cases c with
    | true =>
      refine mc cs F3 H3 S2 ρ σ g3.sit (R.grow g13) _ x h3 _ (fun y S4 ls F4 H4 v4 h4 g4 r4 => ?_) (hx.step g13)
      obtain ⟨d', hg, h5⟩ := onS_ok h4
      refine hr' ls F4 H4 S4 w y d' v2 v4 g4.sit (RpE_aux g4 (RpE_aux g3 r2)) r4 hg _ fun F5 H5 v5 g5 r5 => ?_
      cases r5 with
      | bl c' => exact hq _ S4 ls F5 H5 _ h5 ((g13.trans g4).trans g5) (.bl c')
      | _ => exact h5.elim
    | false => exact hq _ S2 cs F3 H3 _ h3 g13 (.bl false)
  | _ => exact h3.elim
theorem op_eqAH {h : Bool} (hr : Rx h j X) : OpR X (compareOp .Eq) (rEqA X.K) := OpR.or op_eq (OpR.or (op_eqD (by have := hr.units; omega)) (op_eqLen (by have := hr.units; omega)))
theorem op_neAH {h : Bool} (hr : Rx h j X) : OpR X (compareOp .NotEq) (rNeA X.K) := OpR.or op_ne (OpR.or (op_neD (by have := hr.units; omega)) (op_neLen (by have := hr.units; omega)))
end
/-! a default that is the empty tuple -/
/-! keywords where parameters have defaults, all of which are passed -/
end RV
end
section
/-! Own operators, own in, own methods. -/
namespace RV
open PySem PySem.W PySem.Calls PyProof.Rows
section
variable {M : Model} {h : Heap} {K : Frag} {C : Addr} {nm : String} {cd : ClassData}
end
section
variable {prog : Program} {w : World} {A : Around} {E : Value → Shared → Prop} {s : Shared} {K : Frag} {x C L f : Addr} {h₀ : Heap} {m : Str → Option Value} {ox : Obj} {od : Option Obj}
end
end RV
end
section
/-! Own operators, own in, own methods: readings. -/
namespace RV
open PySem L2
variable {nn : Bool}
section
variable {X : Cx} {W : WX} {a b o e : Expr} {es : List Expr} {pos apos : Pos} {ea eb : RV.Env → M} {er : RV.Env → ML} {C : Addr} {G : List D → M} {k j n : Nat} {nm m : String}
def eOpX (C : Addr) (own : Addr → Bool) (ok : Value → Bool) (G : List D → M) (ea eb : RV.Env → M) : RV.Env → M := fun ρ S q x => ea ρ S (fun u S1 => eb ρ S1 (fun v S2 => isOb C S2 u ∧ onS (kindD own v) fun t => ok t = true ∧ G [u, v] S2 q x) x) x
/-! ### own in -/
end
end RV
end
section
/-! Own methods. -/
namespace RV
open PySem L2
variable {nn : Bool}
/-- an instance of the class at C that has no field m -/
def isObN (C : Addr) (m : Str) (S : WS) : D → Prop
  | .obj C' fs => C' = C ∧ fs.lookup m = none
  | .cell k => onS S[k]? fun c => onOb c fun C' fs => C' = C ∧ fs.lookup m = none
  | _ => False
section
variable {X : Cx} {W : WX} {o e : Expr} {es : List Expr} {pos apos : Pos} {ea : RV.Env → M} {er : RV.Env → ML} {C : Addr} {m : Str} {G : List D → M} {k j n : Nat}
def eMeth (C : Addr) (m : Str) (n : Nat) (G : List D → M) (ea : RV.Env → M) (er : RV.Env → ML) : RV.Env → M := fun ρ S q x => ea ρ S (fun u S1 => isObN C m S1 u ∧ er ρ S1 (fun ds S2 => ds.length + 1 = n ∧ G (u :: ds) S2 q x) x) x
end
end RV
end
section
/-! An own error over ValueError, by the written part. -/
namespace RV
open PySem L2 He
section
variable {K : PySem.W.Frag} {C : Addr}
def oexVB (K : PySem.W.Frag) (C : Addr) : Bool := (match K.lookup C with
  | some ⟨.type "type", _, .cls cd, sl⟩ => (match cd.mro, sl.toList with
    | .ref C1 :: bm, [_, _, _, _, some (.builtin n), _] => C1 == C && (n == "ValueError.__new__" && (!cd.hasDel && (cd.hasDict && PySem.HandSPX.refsVE bm)))
    | _, _ => false)
  | _ => false) && (eqO (PySem.W.findIn K (.ref C) "__setattr__") (some (some (.builtin "object.__setattr__"))) && (decide (PySem.W.subIn K (.ref C) (.type "BaseException") = some true) && (decide (PySem.W.typeIn K (.ref C) = some (.type "type")) && PySem.W.keepIn K (.ref C))))
theorem oexVB_ok (h : oexVB K C = true) : OexC K C := by
  obtain ⟨h1, h⟩ := ba h
  obtain ⟨h2, h⟩ := ba h
  obtain ⟨h3, h⟩ := ba h
  obtain ⟨h4, h5⟩ := ba h
  refine ⟨?_, eqO_ok h2, of_decide_eq_true h3, of_decide_eq_true h4, h5⟩
  split at h1
  · rename_i dd cd sl lk
    split at h1
    · rename_i C1 bm k0 k1 k2 k3 n k5 hm hs
      obtain ⟨e1, h1⟩ := ba h1
      obtain ⟨e2, h1⟩ := ba h1
      obtain ⟨e3, h1⟩ := ba h1
      obtain ⟨e4, e5⟩ := ba h1
      have e1 := beq_iff_eq.mp e1
      have e2 := beq_iff_eq.mp e2
      subst e1 e2
      obtain ⟨nm, bs, mro, ns, qn, hd, sn, sb, ab, col, del⟩ := cd
      simp only [Bool.not_eq_true'] at hm e3 e4
      subst hm e3 e4
      obtain ⟨l⟩ := sl
      simp only at hs
      subst hs
      exact ⟨nm, qn, ns, bs, bm, sn, sb, ab, col, dd, k0, k1, k2, k3, k5, lk, e5⟩
    · cases h1
  · cases h1
end
/-! index of a list of plain data -/
section
variable {X : Cx} {W : WX} {o e : Expr} {eo ee : RV.Env → M} {apos cpos : Pos}
end
end RV
end
section
/-! sorted(set(xs)), xs a list of texts -/
namespace RV
open PySem L2 PySem.Spec PyProof.Rows
def txK (e : Int × Value) : Str := match e.2 with
  | .str k _ => k
  | _ => Str.empty
def TxE (w : World) (e : Int × Value) : Prop := ∃ k tk, e = (hashStr w k, Value.str k tk)
/-- the rows of a set of texts, T its members -/
structure TxRows (w : World) (T : List Str) (es : Array (Int × Value)) (t : SetTable) : Prop where
  good : ∀ e ∈ es.toList, TxE w e
  nd : (es.toList.map txK).Nodup
  mem : ∀ k, k ∈ es.toList.map txK ↔ k ∈ T
  len : es.size ≤ T.length
  few : es.size < scanBound
  fits : t.fits es.size = true
  ris : Ris t.place.toList
  led : w.params.followText "set-order" = true ∨ t.led = true
def TxSet (w : World) (h : Heap) (a : Addr) (T : List Str) : Prop := ∃ o es ep t, h.get? a = some o ∧ o.ExactSet ∧ o.data = .set es ep t ∧ TxRows w T es t
section
variable {P : Program} {w : World} {h h' : Heap} {a : Addr} {T T' : List Str} {es : Array (Int × Value)} {t : SetTable}
theorem TxSet.keep (R : TxSet w h a T) (k : ∀ o, h.get? a = some o → h'.get? a = some o) : TxSet w h' a T := by
  obtain ⟨o, es, ep, t, ho, r⟩ := R
  exact ⟨o, es, ep, t, k o ho, r⟩
theorem TxRows.same (R : TxRows w T es t) (e : ∀ k, k ∈ T ↔ k ∈ T') (l : T.length ≤ T'.length) : TxRows w T' es t := ⟨R.good, R.nd, fun k => (R.mem k).trans (e k), Nat.le_trans R.len l, R.few, R.fits, R.ris, R.led⟩
theorem TxRows.has (R : TxRows w T es t) (k : Str) : k ∈ T ↔ ∃ e ∈ es.toList, (PySem.strKind P w).is k e.2 = true := by
  rw [← R.mem k, List.mem_map]
  refine exists_congr fun e => and_congr_right fun he => ?_
  obtain ⟨k0, tk, rfl⟩ := R.good e he
  show k0 = k ↔ ((k0 == k) = true)
  exact beq_iff_eq.symm
theorem TxRows.fresh {ho : h.get? a = some { cls := .type "set", dict := none, data := .set #[] 0 (.fresh 0 0 (!w.params.followText "set-order")) }} : TxSet w h a [] := by
  refine ⟨_, #[], 0, _, ho, ⟨rfl, rfl, rfl⟩, rfl, fun e he => by simp at he, by simp, fun k => by simp, Nat.le_refl _, by decide, by rfl, List.Pairwise.nil, ?_⟩
  show _ ∨ (!w.params.followText "set-order") = true
  cases w.params.followText "set-order"
  · exact .inr rfl
  · exact .inl rfl
end
section
variable {P : Program} {w : World} {A : Around} {E : Value → Shared → Prop} {s : Shared} {a : Addr} {T : List Str}
end
end RV
end
section
/-! ascending texts; sorted(set(xs)), sum(xs), dicts that change, sorted(d), d.get, text.startswith, range with steps, int(text) -/
namespace RV
open PySem L2 PyProof.Rows PySem.Spec
/-! ### ascending texts -/
/-! ### sorted(set(xs)) -/
section
variable {X : Cx} {W : WX}
/-! ### sum(xs) -/
/-! ### dicts -/
def dicAt (S : WS) : D → Option (List (Key × D))
  | .dic kvs => some kvs
  | .cell k => match S[k]? with
    | some (.dic kvs) => some kvs
    | _ => none
  | _ => none
def valD (kvs : List (Key × D)) (k : Key) : Option D := match kvs with
  | [] => none
  | kv :: r => if kv.1 = k then some kv.2 else valD r k
theorem RpK.val {K : PySem.W.Frag} {as : List Addr} {F : Hp} {k : Key} : ∀ {kvs : List (Key × D)} {vkv : List (Key × V)}, RpK K as F kvs vkv → (valD kvs k = none ∧ valV vkv k = none) ∨ ∃ d v, valD kvs k = some d ∧ valV vkv k = some v ∧ Rp K as F d v
  | _, _, .nil => .inl ⟨rfl, rfl⟩
  | _, _, .cons (n := n) (d := d) (v := v) h r => by
    unfold valD
    by_cases e : n = k
    · refine .inr ⟨d, v, if_pos e, valV_pos e, h⟩
    · rcases r.val (k := k) with ⟨a, b⟩ | ⟨d', v', a, b, c⟩
      · exact .inl ⟨by simp only [if_neg e]; exact a, (valV_neg e).trans b⟩
      · exact .inr ⟨d', v', by simp only [if_neg e]; exact a, (valV_neg e).trans b, c⟩
/-- d.get(k, x) -/
def eDget2 (eo ei ee : RV.Env → M) : RV.Env → M := fun ρ S q x => eo ρ S (fun u S1 => (dicAt S1 u).isSome = true ∧ ei ρ S1 (fun y S2 => ee ρ S2 (fun z S3 => onS (dicAt S3 u) fun kvs => onS (keyOfD y) fun k => q ((valD kvs k).getD z) S3) x) x) x
/-- {} as a new cell -/
def eNewDic : RV.Env → M := fun _ S q _ => q (.cell S.length) (S ++ [.dic []])
/-- d[k] = e -/
def dputD (o i d : D) (S : WS) : Option WS := match o with
  | .cell k => match S[k]? with
    | some (.dic kvs) => if D.clean 0 d = true ∧ small kvs.length = true then (keyOfD i).map fun key => S.set k (.dic (putKD kvs key d)) else none
    | _ => none
  | _ => none
def sDputD (eo ei ee : RV.Env → M) : RV.Env → MS := fun ρ S k => ee ρ S (fun d S1 => eo ρ S1 (fun o S2 => ei ρ S2 (fun i S3 => onS (dputD o i d S3) fun S' => k.nx ρ S') fun e S' => k.ex e ρ S') fun e S' => k.ex e ρ S') fun e S' => k.ex e ρ S'
/-! ### text.startswith -/
/-! ### range(i, j, c) -/
def stepsN (i j : Int) (c : Nat) : Nat := ((j - i).toNat + (c - 1)) / c
def steps (i j : Int) (c : Nat) : List D := (List.range (stepsN i j c)).map fun (n : Nat) => D.int (i + (n : Int) * (c : Int))
def on3I (ds : List D) (k : Int → Int → Int → Prop) : Prop := match ds with
  | [.int i, .int j, .int c] => k i j c
  | _ => False
def iRange3 (er : RV.Env → ML) : RV.Env → MW := fun ρ S q x => er ρ S (fun ds S1 => on3I ds fun i j c => (0 ≤ i ∧ i < 1000000 ∧ 0 ≤ j ∧ j < 1000000 ∧ c = 2) ∧ q (steps i j 2) any_ S1) x
/-! ### int(text) -/
end
end RV
end
section
/-! {number:030d} -/
namespace RV
open PySem L2 PyProof.Rows PySem.Builtin PySem.Builtin.Float
section
variable {prog : Program} {w : World} {A : Around} {E : Value → Shared → Prop} {s : Shared}
end
section
variable {X : Cx} {W : WX} {e : Expr} {ea : RV.Env → M} {pos p1 p2 : Pos} {k : Nat}
end
end RV
namespace RV
open PySem L2
end RV
namespace RV
open PySem L2
end RV
namespace RV
open PySem L2
theorem keyD_s {s : Str} : keyOfD (.str s) = some (Sum.inr s) := rfl
theorem on3I_i {i j c : Int} {k : Int → Int → Int → Prop} : on3I [.int i, .int j, .int c] k = k i j c := rfl
end RV
end
section
/-! own -x; a number times an object (__rmul__); o[i] of an own class -/
namespace RV
open PySem L2 PySem.W
section
variable {prog : Program} {w : World} {M : Model} {A : Around} {E : Value → Shared → Prop} {s : Shared} {K : PySem.W.Frag} {x C L f g dx : Addr} {h₀ : Heap} {m : Str → Option Value} {od : Obj}
end
end RV
end
section
/-! own -x and i * x as expressions; classmethods with *args -/
namespace RV
open PySem L2
section
variable {nn : Bool} {X : Cx} {W : WX} {a b o e : Expr} {es : List Expr} {pos apos : Pos} {ea eb : RV.Env → M} {er : RV.Env → ML} {C : Addr} {m : Str} {k j n : Nat} {G : List D → M} {pl : Sem Bool}
def eNegX (C : Addr) (G : List D → M) (ea : RV.Env → M) : RV.Env → M := fun ρ S q x => ea ρ S (fun u S1 => isOb C S1 u ∧ G [u] S1 q x) x
def eMulR (C : Addr) (G : List D → M) (ea eb : RV.Env → M) : RV.Env → M := fun ρ S q x => ea ρ S (fun u S1 => eb ρ S1 (fun v S2 => onI u fun i => isOb C S2 v ∧ G [v, .int i] S2 q x) x) x
/-! ### *args -/
def eCs (C : Addr) (G : List D → M) (ea : RV.Env → M) (er : RV.Env → ML) : RV.Env → M := fun ρ S q x => ea ρ S (fun u S1 => u = .adr C ∧ er ρ S1 (fun ds S2 => small ds.length = true ∧ G [.adr C, .tup ds] S2 q x) x) x
end
end RV
end
section
/-! o[i], p[j] = a, b; max(xs) -/
namespace RV
open PySem L2
section
variable {X : Cx} {W : WX} {e o o2 : Expr} {pos : Pos} {eo ei eo2 ei2 ee : RV.Env → M}
def sPairSet2 (eo ei eo2 ei2 ee : RV.Env → M) : RV.Env → MS := fun ρ S k => ee ρ S (fun d S1 => onTu d fun ds => on2 ds fun d1 d2 => eo ρ S1 (fun o S2 => ei ρ S2 (fun i S3 => onS (setIxD o i d1 S3) fun S4 => eo2 ρ S4 (fun o2 S5 => ei2 ρ S5 (fun i2 S6 => onS (setIxD o2 i2 d2 S6) fun S7 => k.nx ρ S7) fun e S' => k.ex e ρ S') fun e S' => k.ex e ρ S') fun e S' => k.ex e ρ S') fun e S' => k.ex e ρ S') fun e S' => k.ex e ρ S'
theorem gs_pairSet2 {i i2 : Expr} {tpos tpos2 pt : Pos} {kt : Nat} (hc : X.calm = true) (he : GE X W e ee) (ho : GE X W o eo) (hi : GE X W i ei) (ho2 : GE X W o2 eo2) (hi2 : GE X W i2 ei2)
    (hs : swapsWithSole [.Tuple [.Subscript o i tpos, .Subscript o2 i2 tpos2] kt pt] e pos.line X.env = pure false := by rfl) (hw : swappedStores [.Tuple [.Subscript o i tpos, .Subscript o2 i2 tpos2] kt pt] e X.env = pure none := by rfl)
    (h1 : (assignEach [.Tuple [.Subscript o i tpos, .Subscript o2 i2 tpos2] kt pt] X.env).map (·.2) = [assign (.Tuple [.Subscript o i tpos, .Subscript o2 i2 tpos2] kt pt) X.env] := by rfl)
    (ha : ∀ (v : Value), assign (.Subscript o i tpos) X.env v = (do
      let ov ← holding [v] (eval o X.env)
      let iv ← holding [v, ov] (eval i X.env)
      standAt tpos
      holding [v, ov, iv] (setItem ov iv v)
      release [v, ov, iv] []) := by intro _; rfl)
    (ha2 : ∀ (v : Value), assign (.Subscript o2 i2 tpos2) X.env v = (do
      let ov ← holding [v] (eval o2 X.env)
      let iv ← holding [v, ov] (eval i2 X.env)
      standAt tpos2
      holding [v, ov, iv] (setItem ov iv v)
      release [v, ov, iv] []) := by intro _; rfl)
    (e1 : (assignEach [.Subscript o i tpos, .Subscript o2 i2 tpos2] X.env).map (·.2) = assign (.Subscript o i tpos) X.env :: (assignEach [.Subscript o2 i2 tpos2] X.env).map (·.2) := by rfl)
    (e2 : (assignEach [.Subscript o2 i2 tpos2] X.env).map (·.2) = assign (.Subscript o2 i2 tpos2) X.env :: (assignEach [] X.env).map (·.2) := by rfl)
    (e3 : (assignEach [.Subscript o i tpos, .Subscript o2 i2 tpos2] X.env).length = 2 := by rfl) (e4 : (assignEach [.Subscript o i tpos, .Subscript o2 i2 tpos2] X.env).findIdx? (·.1) = none := by rfl) :
    GS X W (.Assign [.Tuple [.Subscript o i tpos, .Subscript o2 i2 tpos2] kt pt] e pos) (sPairSet2 eo ei eo2 ei2 ee) := by
  obtain ⟨t, p, m⟩ := he
  obtain ⟨to, po, mo⟩ := ho
  obtain ⟨ti, pi, mi⟩ := hi
  obtain ⟨to2, po2, mo2⟩ := ho2
  obtain ⟨ti2, pi2, mi2⟩ := hi2
  refine ⟨_, ps_asg p (pg_tup hc (pgs_cons (pg_sub po pi set_list ha) (pgs_cons (pg_sub po2 pi2 set_list ha2) pgs_nil e2) e1) e3 e4) hs hw h1, fun as F H S ρ σ I R k h E q => ?_⟩
  refine m as F H S ρ σ I R _ _ h _ (fun d S1 bs F1 H1 v1 h1 g1 r1 => ?_) (q.xq R)
  obtain ⟨ds, rfl, h1⟩ := onTu_ok h1
  obtain ⟨d1, d2, rfl, h1⟩ := on2_ok h1
  cases r1 with
  | tup hq rl =>
    obtain ⟨u1, ws, rfl, ru1, rn⟩ := rl.unsn
    obtain ⟨u2, zs, rfl, ru2, rn⟩ := rn.unsn
    obtain rfl := rn.unnil
    refine ⟨_, _, rfl, g1.sit.ex.sqT hq, rfl, u1, [u2], rfl, ?_⟩
    refine mo bs F1 H1 S1 ρ σ g1.sit (R.grow g1) _ _ h1 _ (fun o S2 cs F2 H2 v2 h2 g2 r2 => ?_) ((q.step g1).xq (R.grow g1))
    have g12 := g1.trans g2
    refine mi cs F2 H2 S2 ρ σ g2.sit (R.grow g12) _ _ h2 _ (fun i S3 ls F3 H3 v3 h3 g3 r3 => ?_) ((q.step g12).xq (R.grow g12))
    obtain ⟨S4, h4, h5⟩ := onS_ok h3
    refine setIx_ok g3.sit (RpE_aux g3 r2) r3 (RpE_aux g3 (RpE_aux g2 ru1)) h4 fun H' g4 => ?_
    have g14 := (g12.trans g3).trans g4
    refine ⟨u2, [], rfl, ?_⟩
    refine mo2 ls F3 H' S4 ρ σ g14.sit (R.grow g14) _ _ h5 _ (fun o2 S5 ms F5 H5 v5 h6 g5 r5 => ?_) ((q.step g14).xq (R.grow g14))
    have g15 := g14.trans g5
    refine mi2 ms F5 H5 S5 ρ σ g5.sit (R.grow g15) _ _ h6 _ (fun i2 S6 ns F6 H6 v6 h7 g6 r6 => ?_) ((q.step g15).xq (R.grow g15))
    obtain ⟨S7, h8, h9⟩ := onS_ok h7
    have ru2' := RpE_aux g6 (RpE_aux g5 (RpE_aux g4 (RpE_aux g3 (RpE_aux g2 ru2))))
    refine setIx_ok g6.sit (RpE_aux g6 r5) r6 ru2' h8 fun H8 g7 => ?_
    have g := (g15.trans g6).trans g7
    exact ⟨rfl, q.nx _ S7 ns F6 H8 _ h9 g (R.grow g)⟩
/-! ### max(xs) -/
end
end RV
end
section
/-! dict(t), t a tuple of pairs; in a dict; own o[i], own truth; a number == an object -/
namespace RV
open PySem L2 PySem.Spec PyProof.Rows
section
variable {prog : Program} {w : World} {A : Around} {E : Value → Shared → Prop}
end
end RV
namespace RV
open PySem L2
section
variable {X : Cx} {W : WX} {o : Expr} {pos apos : Pos} {ea : RV.Env → M} {C : Addr} {m : Str} {k j : Nat} {G : List D → M} {pl : Sem Bool}
end
end RV
namespace RV
open PySem L2
end RV
end
section
/-! zip of a tuple or a list with a tuple or a list -/
namespace RV
open PySem PySem.Spec PyProof.Rows L2
def ItAt (m : Bool) (h : Heap) (i l : Addr) (n : Nat) : Prop := match m with
  | true => h.IsTupleIter i l n
  | false => h.IsListIter i l n
def SqAt (m : Bool) (h : Heap) (l : Addr) (xs : Array Value) : Prop := match m with
  | true => h.IsTuple l xs
  | false => h.IsList l xs
section
variable {h h' : Heap} {m m1 m2 : Bool} {a c l : Addr} {n : Nat} {xs ys : Array Value}
theorem ItAt.eb (x : ItAt m h a l n) (q : Heap.ExtBut c h h') (ne : a ≠ c) : ItAt m h' a l n := by
  cases m
  · exact Heap.IsListIter.extBut x q ne
  · exact Heap.IsTupleIter.extBut x q ne
theorem SqAt.eb (x : SqAt m h a xs) (q : Heap.ExtBut c h h') (ne : a ≠ c) : SqAt m h' a xs := by
  cases m
  · exact Heap.IsList.extBut x q ne
  · exact Heap.IsTuple.extBut x q ne
theorem ItAt.at_ (x : ItAt m h a l n) (e : ∀ o, h.get? a = some o → h'.get? a = some o) : ItAt m h' a l n := by
  cases m
  · exact Heap.IsListIter.at x e
  · exact Heap.IsTupleIter.at x e
theorem ItAt.obj (x : ItAt m h a l n) : ∃ o, h.get? a = some o ∧ ∀ v, o.data ≠ .cell v := by
  cases m
  · obtain ⟨o, e, _, d⟩ := x
    exact ⟨o, e, fun v q => by rw [d] at q; cases q⟩
  · obtain ⟨o, e, _, d⟩ := x
    exact ⟨o, e, fun v q => by rw [d] at q; cases q⟩
theorem SqAt.lt (x : SqAt m h a xs) : a < h.objs.size := by
  cases m
  · obtain ⟨o, e, _⟩ := x
    exact Heap.lt_size e
  · obtain ⟨o, e, _⟩ := x
    exact Heap.lt_size e
end
section
variable {prog : Program} {w : World} {A : Around} {E : Value → Shared → Prop} {s : Shared} {m m1 m2 : Bool}
end
theorem SqAt.push {h : Heap} {m : Bool} {l : Addr} {xs : Array Value} (x : SqAt m h l xs) (o : Obj) : SqAt m (h.push o) l xs := by
  cases m
  · exact Heap.IsList.push x o
  · exact Heap.IsTuple.push x o
section
variable {prog : Program} {w : World} {A : Around} {E : Value → Shared → Prop} {s : Shared} {m1 m2 : Bool}
end
/-! ### the walk -/
def SqM (K : PySem.W.Frag) (m : Bool) (H : Hp) (a : Addr) (xs : List V) : Prop := match m with
  | true => SqT K H a xs
  | false => SqL K H a xs
section
variable {X : Cx} {pins : List (Addr × Obj)} {σ : L2.St} {H : Hp} {s : Shared} {m : Bool}
end
/-! ### the reading -/
/-- a sequence that stays as long as N does -/
structure StayS (K : PySem.W.Frag) (m : Bool) (as : List Addr) (F : Hp) (a : Addr) (ds : List D) (N : WS → Prop) : Prop where
  at_ : ∀ bs F2 H2 S2, Sit K bs F2 H2 S2 → Ex F F2 → Pre as bs → N S2 → ∃ xs, SqM K m H2 a xs ∧ RpL K bs F2 ds xs
end RV
end
section
/-! comprehensions of any kind and depth, calm or while an error is handled -/
namespace RV
open PySem PySem.Spec PyProof.Rows L2
/-- nothing is handled, or an error whose context is None -/
def Rdy (h : Bool) (X : Cx) : Prop := match h with
  | false => X.calm = true
  | true => L2H.HotC X
structure TurnG (h : Bool) (P : Program) (w : World) (K : PySem.W.Frag) (tg : Expr) (J : It) (fp : List Addr) (it : Addr) (tn : Nat → Heap → Prop) : Prop where
  obj : ∀ i g, tn i g → ∀ b ∈ fp, ∃ o, g.get? b = some o ∧ ∀ v, o.data ≠ .cell v
  keep : ∀ i g g', tn i g → (∀ b ∈ fp, ∀ o, g.get? b = some o → g'.get? b = some o) → tn i g'
  item : ∀ (X : Cx), X.prog = P → X.w = w → X.K = K → Rdy h X → ∀ (i : Nat) (pins : List (Addr × Obj)) (s : Shared) (σ : L2.St) (H : Hp) (E : Value → Shared → Prop), Inv X pins σ H s → (∀ b ∈ fp, FpOk X pins H b) → tn i s.heap → J.go i H →
    wpAny (model P w) X.A (pyNext (.ref it)) (fun r s1 => ∃ u, r = some u ∧ wpAny (model P w) X.A (letOwnedTupleGo tg (.ref it) u) (fun _ s2 => ∃ x H', Inv X pins σ H' s2 ∧ RelV x u ∧ J.yld i H x H' ∧ tn (i + 1) s2.heap ∧ ∀ b ∈ fp, H' b = none) E s1) E s
  done : ∀ (X : Cx), X.prog = P → X.w = w → X.K = K → Rdy h X → ∀ (i : Nat) (pins : List (Addr × Obj)) (s : Shared) (σ : L2.St) (H : Hp) (E : Value → Shared → Prop), Inv X pins σ H s → (∀ b ∈ fp, FpOk X pins H b) → tn i s.heap → J.stop i H →
    wpAny (model P w) X.A (pyNext (.ref it)) (fun r s1 => r = none ∧ Inv X pins σ H s1) E s
  self : ∀ (A : Around) (i : Nat) (s : Shared) (Q : Value → Shared → Prop) (E : Value → Shared → Prop), tn i s.heap → Q (.ref it) s → wpAny (model P w) A (pyIter (.ref it)) Q E s
theorem TurnG.calm {P : Program} {w : World} {K : PySem.W.Frag} {tg : Expr} {J : It} {fp : List Addr} {it : Addr} {tn : Nat → Heap → Prop} (T : Turn P w K tg J fp it tn) : TurnG false P w K tg J fp it tn := ⟨T.obj, T.keep, T.item, T.done, T.self⟩
theorem TurnG.hot {P : Program} {w : World} {K : PySem.W.Frag} {tg : Expr} {J : It} {fp : List Addr} {it : Addr} {tn : Nat → Heap → Prop} (T : L2H.TurnH P w K tg J fp it tn) : TurnG true P w K tg J fp it tn := ⟨T.obj, T.keep, T.item, T.done, T.self⟩
def PIEG (h : Bool) (X : Cx) (pins : List (Addr × Obj)) (σ : L2.St) (tg : Expr) (R : It → Hp → Prop) (itv : Value) (s2 : Shared) : Prop :=
  ∃ (it : Addr) (fp : List Addr) (tn : Nat → Heap → Prop) (J : It) (H' : Hp), itv = .ref it ∧ Inv X pins σ H' s2 ∧ TurnG h X.prog X.w X.K tg J fp it tn ∧ tn 0 s2.heap ∧ (∀ b ∈ fp, FpOk X pins H' b) ∧ R J H'
structure PIG (h : Bool) (X : Cx) (tg iter : Expr) (wi : TI) : Prop where
  run : ∀ (pins : List (Addr × Obj)) (s : Shared) (σ : L2.St) (H : Hp) (R : It → Hp → Prop), Inv X pins σ H s → wi σ H R →
    wpAny (model X.prog X.w) X.A (eval iter X.env) (fun v s1 => wpAny (model X.prog X.w) X.A (pyIter v) (PIEG h X pins σ tg R) X.xe s1) X.xe s
theorem PIG.calm {X : Cx} {tg iter : Expr} {wi : TI} (p : PI X tg iter wi) : PIG false X tg iter wi := by
  refine ⟨fun pins s σ H R I hw => thn (p.run pins s σ H R I hw) fun v s1 q => thn q fun itv s2 q => ?_⟩
  obtain ⟨it, fp, tn, J, H', e, I', T, r⟩ := q
  exact ⟨it, fp, tn, J, H', e, I', .calm T, r⟩
theorem PIG.hot {X : Cx} {tg iter : Expr} {wi : TI} (p : L2H.PIH X tg iter wi) : PIG true X tg iter wi := by
  refine ⟨fun pins s σ H R I hw => thn (p.run pins s σ H R I hw) fun v s1 q => thn q fun itv s2 q => ?_⟩
  obtain ⟨it, fp, tn, J, H', e, I', T, r⟩ := q
  exact ⟨it, fp, tn, J, H', e, I', .hot T, r⟩
/-! ### one turn, in words of our own -/
def turnB (c : Comprehension) (go : Sem Fin) (e : Expr) (d : Nat) (it acc : Value) (env : PySem.Env) : Sem Fin := do
  standAt c.iter.pos
  let r ← pyNext it
  match r with
  | none => pure (.done .next)
  | some v =>
    letOwnedTupleGo c.target it v
    assign c.target env v
    let ok ← forIn c.ifs true fun x r => if r = true then do let ok ← isTrue x env (eval x env); pure (ForInStep.yield ok) else pure (ForInStep.yield r)
    if ok = true then go
    else again (.compLoop e d it acc env)
/-- the next clause's loop, then the next turn -/
def innerB (c : Comprehension) (e : Expr) (d : Nat) (it acc : Value) (env : PySem.Env) : Sem Fin := do
  let x ← eval c.iter env
  standAt c.iter.pos
  let x ← foldedSetIterable c.iter env x
  let i1 ← holding [x] (pyIter x)
  let _ ← runOwn (.compStart e (d + 1) i1 acc env) env
  again (.compLoop e d it acc env)
def lastB (em : Sem Unit) (e : Expr) (d : Nat) (it acc : Value) (env : PySem.Env) : Sem Fin := do
  em
  again (.compLoop e d it acc env)
/-- e is a comprehension with these clauses, em what it does with an item -/
structure IsC (e : Expr) (gens : List Comprehension) (acc : Value) (env : PySem.Env) (em : Sem Unit) : Prop where
  cl : clausesOf e = gens
  dl : ∀ (prog : Program) (w : World) (A : Around) (d : Nat) (it : Value) (Q : Fin → Shared → Prop) (E : Value → Shared → Prop) (s : Shared), wpAny (model prog w) A ((compTurn e d it acc env).onRaise (fun x => do noteFrame x env; theTreesLotGoes x)) Q E s → wpAny (model prog w) (A.under (.compLoop e d it acc env)) ((model prog w).den (.compLoop e d it acc env)) Q E s
  ds : ∀ (prog : Program) (w : World) (A : Around) (d : Nat) (it : Value) (Q : Fin → Shared → Prop) (E : Value → Shared → Prop) (s : Shared), wpAny (model prog w) A ((compStart e d it acc env).onRaise (fun x => do noteFrame x env; standAt theWindowsPlace)) Q E s → wpAny (model prog w) (A.under (.compStart e d it acc env)) ((model prog w).den (.compStart e d it acc env)) Q E s
  last : ∀ (d : Nat) (it : Value) (c : Comprehension), gens[d]? = some c → c.is_async = 0 → gens[d + 1]? = none → compTurn e d it acc env = turnB c (lastB em e d it acc env) e d it acc env
  more : ∀ (d : Nat) (it : Value) (c c' : Comprehension), gens[d]? = some c → c.is_async = 0 → gens[d + 1]? = some c' → c'.is_async = 0 → compTurn e d it acc env = turnB c (innerB c' e d it acc env) e d it acc env
section
variable {elt k v : Expr} {gens : List Comprehension} {scope : Scope} {pos : Pos} {acc : Value} {env : PySem.Env}
end
/-! ### the loops -/
structure Lvl where
  wi : TI
  g : TG
  tt : TT
  vs : List Nat
inductive LvIn (h : Bool) (B : Cx) : List Nat → List Comprehension → List Lvl → Prop where
  | nil {vs : List Nat} : LvIn h B vs [] []
  | cons {vs : List Nat} {tg iter : Expr} {ifs : List Expr} {l : Lvl} {cs : List Comprehension} {ls : List Lvl} : (∀ i ∈ l.vs, i ∈ vs) → PIG h B tg iter l.wi → PG B tg l.g → PTs B ifs l.tt → (∀ env x, foldedSetIterable iter env x = pure x) → LvIn h B l.vs cs ls → LvIn h B vs (⟨tg, iter, ifs, 0⟩ :: cs) (l :: ls)
section
variable {h : Bool} {B : Cx} {e : Expr} {acc : Value} {gens : List Comprehension} {em : Sem Unit}
end
end RV
end
section
/-! a comprehension's value; sets of texts; lists while an error is handled -/
namespace RV
open PySem PySem.Spec PyProof.Rows L2
/-- the block's context; what is handled stays pinned -/
abbrev blkG (h : Bool) (X : Cx) (s : Shared) (H : Hp) (scope : Scope) (cenv : PySem.Env) (fp : List Addr) : Cx := { X.blk s H scope cenv fp with pn := match h with | false => [] | true => X.pn }
section
variable {h : Bool} {X : Cx} {pins : List (Addr × Obj)} {σ : L2.St} {H : Hp} {s : Shared}
end
end RV
end
section
/-! comprehensions of any depth: their readings -/
namespace RV
open PySem PySem.Spec PyProof.Rows L2
structure DLv where
  mi : RV.Env → MW
  f : D → RV.Env → Option RV.Env
  mc : RV.Env → MB
  us : List Nat
  vs : List Nat
/-- the reading of a walk that says just what m says -/
def rdI (K : PySem.W.Frag) (m : RV.Env → MW) : TI := fun σ H R => ∃ (as : List Addr) (F : Hp) (S : WS) (ρ : RV.Env) (q : List D → (WS → Prop) → WS → Prop), Sit K as F H S ∧ RpE K as F ρ σ ∧ m ρ S q noX ∧ ∀ ds N S' bs F' H' J, q ds N S' → Grow K as F H bs F' H' S' → Walks K J bs F' ds N → R J H'
def DLv.lv (K : PySem.W.Frag) (d : DLv) : Lvl := ⟨rdI K d.mi, rdG K d.us d.f, rdT K d.mc, d.vs⟩
structure GIG (h : Bool) (X : Cx) (W : WX) (tg iter : Expr) (m : RV.Env → MW) : Prop where
  ex : ∃ wi, PIG h X tg iter wi ∧ MI X.K W wi m
theorem GI.g {X : Cx} {W : WX} {tg iter : Expr} {m : RV.Env → MW} (g : GI X W tg iter m) : GIG false X W tg iter m := by
  obtain ⟨wi, p, m⟩ := g
  exact ⟨wi, .calm p, m⟩
theorem GIG.canon {h : Bool} {X : Cx} {tg iter : Expr} {m : RV.Env → MW} (g : GIG h X WF tg iter m) : PIG h X tg iter (rdI X.K m) := by
  obtain ⟨t, p, m⟩ := g
  refine ⟨fun pins s σ H R I w => ?_⟩
  obtain ⟨as, F, S, ρ, q, I', Rr, hm, hq⟩ := w
  exact p.run pins s σ H R I (m as F H S ρ σ I' Rr q noX hm R hq XQ.no)
section
variable {K : PySem.W.Frag} {as : List Addr} {F0 H0 : Hp} {D0 : Addr} {α : Type} {AR : List Addr → Hp → HO → α → Prop}
/-- what is known while the new thing at D0 is being made -/
structure Pt (K : PySem.W.Frag) (as : List Addr) (F0 H0 : Hp) (D0 : Addr) (AR : List Addr → Hp → HO → α → Prop) (bs : List Addr) (F1 H1 : Hp) (S1 : WS) (a : α) : Prop where
  g : Grow K as F0 H0 bs F1 H1 S1
  f : F1 D0 = none
  b : D0 ∉ bs
  at_ : ∃ o, H1 D0 = some o ∧ AR bs F1 o a
def ARm (AR : List Addr → Hp → HO → α → Prop) : Prop := ∀ bs cs F G o a, Ex F G → Pre bs cs → AR bs F o a → AR cs G o a
theorem Pt.step {bs cs : List Addr} {F1 H1 F2 H2 : Hp} {S1 S2 : WS} {a : α} (m : ARm AR) (p : Pt K as F0 H0 D0 AR bs F1 H1 S1 a) (g : Grow K bs F1 H1 cs F2 H2 S2) : Pt K as F0 H0 D0 AR cs F2 H2 S2 a := by
  obtain ⟨o, e, r⟩ := p.at_
  obtain ⟨f4, b4, e4⟩ := grow_free (o' := o) g e p.f p.b
  exact ⟨p.g.trans g, f4, b4, o, e4, m _ _ _ _ _ _ g.ex g.pre r⟩
theorem Pt.put {bs : List Addr} {F1 H1 : Hp} {S1 : WS} {a a' : α} {o : HO} (h0 : H0 D0 = none) (p : Pt K as F0 H0 D0 AR bs F1 H1 S1 a) (r : AR bs F1 o a') : Pt K as F0 H0 D0 AR bs F1 (upd H1 D0 o) S1 a' :=
  ⟨⟨p.g.sit.other p.f p.b, p.g.pre, p.g.ex, p.g.new, p.g.newc, fun a o ha h => by
    rw [upd_ne (ne_of_none h h0)]
    exact p.g.old a o ha h, fun a h => upd_there (p.g.there a h)⟩, p.f, p.b, o, upd_same, r⟩
end
/-! ### facts of the clauses, from their blocks -/
def subB (us vs : List Nat) : Bool := us.all fun x => vs.contains x
theorem subB_ok {us vs : List Nat} (h : subB us vs = true) : ∀ x ∈ us, x ∈ vs := fun x hx => by
  have := List.all_eq_true.mp h x hx
  simpa using this
inductive GLv (h : Bool) (B : Cx) : List Nat → List Comprehension → List DLv → Prop where
  | nil {vs : List Nat} : GLv h B vs [] []
  | cons {vs : List Nat} {tg iter : Expr} {ifs : List Expr} {l : DLv} {cs : List Comprehension} {ls : List DLv} (hv : subB l.vs vs = true) (hi : GIG h B WF tg iter l.mi) (hg : GG B tg l.us l.f) (ht : GTs B ifs l.mc) (hs : ∀ env x, foldedSetIterable iter env x = pure x) (r : GLv h B l.vs cs ls) : GLv h B vs (⟨tg, iter, ifs, 0⟩ :: cs) (l :: ls)
theorem GLv.lv {h : Bool} {B : Cx} : ∀ {vs : List Nat} {cs : List Comprehension} {ls : List DLv}, GLv h B vs cs ls → LvIn h B vs cs (ls.map (DLv.lv B.K))
  | _, _, _, .nil => .nil
  | _, _, _, .cons hv hi hg ht hs r => .cons (l := DLv.lv B.K _) (subB_ok hv) hi.canon hg.canon ht.ex hs r.lv
end RV
end
section
/-! sorted({..}), {k: v ..}, [.. for .. for ..] -/
namespace RV
open PySem PySem.Spec PyProof.Rows L2
section
variable {X : Cx} {W : WX} {h : Bool}
/-- the facts of a comprehension's clauses; be: of what it makes -/
structure CompB (h : Bool) (X : Cx) (scope : Scope) (own : List (Str × Nat)) (tg : Expr) (ifs : List Expr) (cs : List Comprehension) (l0 : DLv) (ls : List DLv) : Prop where
  g : ∀ (s : Shared) (H : Hp) (C : Addr) (cl : List (Str × Addr)) (fp : List Addr), GG (blkG h X s H scope (compEnvC scope cl C X.env) fp) tg l0.us l0.f
  t : ∀ (s : Shared) (H : Hp) (C : Addr) (cl : List (Str × Addr)) (fp : List Addr), GTs (blkG h X s H scope (compEnvC scope cl C X.env) fp) ifs l0.mc
  r : ∀ (s : Shared) (H : Hp) (C : Addr) (cl : List (Str × Addr)) (fp : List Addr), GLv h (blkG h X s H scope (compEnvC scope cl C X.env) fp) l0.vs cs ls
/-! ### sets of texts -/
/-! ### dicts -/
theorem RpK.len {K : PySem.W.Frag} {as : List Addr} {F : Hp} : ∀ {kvs : List (Key × D)} {vkv : List (Key × V)}, RpK K as F kvs vkv → kvs.length = vkv.length
  | _, _, .nil => rfl
  | _, _, .cons _ r => congrArg (· + 1) r.len
end
end RV
end
section
/-! min(xs); defs called by keywords; while; name op= e -/
namespace RV
open PySem PySem.Spec PyProof.Rows L2
/-! ### min(xs) -/
/-! ### f(e, .., x=e, ..) -/
section
variable {P : Program} {w : World} {K : PySem.W.Frag} {mg : Str → Option Value} {base : Heap}
end
section
variable {X : Cx} {W : WX} {e : Expr} {es : List Expr} {kws : List Keyword} {pos p : Pos} {er ek : RV.Env → ML} {x : Str} {k j n m1 : Nat} {ks : List Str} {G : List D → M} {gD : List D → List D → List D} {gd : Md}
end
/-! ### while -/
/-! ### name += e, name -= e -/
/-! ### a slice of any list -/
def slLD : WS → D → Option Int → Option Int → Option D := fun S x lo hi => match x with
  | .tup _ => none
  | x => (itemsD S x).map fun ds => .lst (cutD ds lo hi)
theorem rsl_L {K : PySem.W.Frag} : RSl K (rSlL K) slLD := fun as F H S x d vx lo hi I rx h Q q => by
  have hn : ∀ ys, x ≠ .tup ys := by
    rintro ys rfl
    cases h
  have h' : (itemsD S x).map (fun ds => D.lst (cutD ds lo hi)) = some d := by
    revert h
    unfold slLD
    cases x <;> first | exact id | exact fun h => absurd rfl (hn _)
  obtain ⟨ds, h1, rfl⟩ := Option.map_eq_some_iff.mp h'
  obtain ⟨a, xs, rfl, s1, r1⟩ := items_l I rx h1 hn
  refine ⟨_, _, rfl, s1, fun p hp => ?_⟩
  refine q _ _ _ (I.grow hp) (.lst upd_same ?_)
  unfold cutD cutV
  rw [r1.length]
  exact ((r1.drop _).take _).mono (Ex.new (I.out hp)) (Pre.refl _)
end RV
end
section
/-! A def that hands back data with new lists within: all of its own lists stand still from here on. -/
namespace RV
open PySem L2
mutual
/-- cells from n on are the lists that they hold -/
def frzD (n : Nat) (S : WS) : D → Option D
  | .cell k => if k < n then some (.cell k) else match S[k]? with
    | some (.lst ds) => some (.lst ds)
    | _ => none
  | .tup ds => (frzL n S ds).map .tup
  | .lst ds => (frzL n S ds).map .lst
  | .obj C fs => (frzF n S fs).map (.obj C)
  | .dic kvs => (frzK n S kvs).map .dic
  | .exc _ _ => none
  | .exv _ _ _ _ => none
  | .non => some .non
  | .bl b => some (.bl b)
  | .int i => some (.int i)
  | .str s => some (.str s)
  | .ty t => some (.ty t)
  | .adr a => some (.adr a)
  | .scr ns => some (.scr ns)
def frzL (n : Nat) (S : WS) : List D → Option (List D)
  | [] => some []
  | d :: ds => (frzD n S d).bind fun e => (frzL n S ds).map fun es => e :: es
def frzF (n : Nat) (S : WS) : List (Str × D) → Option (List (Str × D))
  | [] => some []
  | (x, d) :: ds => (frzD n S d).bind fun e => (frzF n S ds).map fun es => (x, e) :: es
def frzK (n : Nat) (S : WS) : List (Key × D) → Option (List (Key × D))
  | [] => some []
  | (x, d) :: ds => (frzD n S d).bind fun e => (frzK n S ds).map fun es => (x, e) :: es
end
def finF (n : Nat) (d : D) (S : WS) (q : D → WS → Prop) : Prop := if S.length = n then q d S else onS (frzD n S d) fun d' => q d' (S.take n)
def fnF (n : Nat) (m : Env → MS) : List D → M := fun ds S q x => m (startE n ds) S ⟨fun _ S' => finF S.length .non S' q, fun d S' => finF S.length d S' q, fun _ _ => False, fun _ _ => False, fun e _ S' => finX S.length e S' x⟩
section
variable {K : PySem.W.Frag} {as bs : List Addr} {F G H : Hp} {S : WS} {n : Nat}
mutual
theorem Rp.frz (e : Ex F G) (p : ∀ k a, k < n → bs[k]? = some a → as[k]? = some a) (c : ∀ k a ds, n ≤ k → bs[k]? = some a → S[k]? = some (.lst ds) → ∃ xs, G a = some (.lst xs) ∧ RpL K as G ds xs) : ∀ {d d' : D} {v : V}, Rp K bs F d v → frzD n S d = some d' → Rp K as G d' v
  | _, _, _, .non, h => by cases h; exact .non
  | _, _, _, .bl b, h => by cases h; exact .bl b
  | _, _, _, .int i, h => by cases h; exact .int i
  | _, _, _, .str s, h => by cases h; exact .str s
  | _, _, _, .ty t, h => by cases h; exact .ty t
  | _, _, _, .adr a, h => by cases h; exact .adr a
  | _, _, _, .scr z, h => by cases h; exact .scr (e.sqL z)
  | _, _, _, .cell (k := k) z, h => by
    unfold frzD at h
    split at h
    · rename_i hk
      cases h
      exact .cell (p _ _ hk z)
    · rename_i hk
      split at h
      · rename_i ds hS
        cases h
        obtain ⟨xs, g1, g2⟩ := c k _ ds (Nat.le_of_not_lt hk) z hS
        exact .lst g1 g2
      · cases h
  | _, _, _, .tup z r, h => by
    unfold frzD at h
    obtain ⟨es, h1, rfl⟩ := Option.map_eq_some_iff.mp h
    exact .tup (e.sqT z) (RpL.frz e p c r h1)
  | _, _, _, .lst z r, h => by
    unfold frzD at h
    obtain ⟨es, h1, rfl⟩ := Option.map_eq_some_iff.mp h
    exact .lst (e _ _ z) (RpL.frz e p c r h1)
  | _, _, _, .obj z r, h => by
    unfold frzD at h
    obtain ⟨es, h1, rfl⟩ := Option.map_eq_some_iff.mp h
    exact .obj (e _ _ z) (RpF.frz e p c r h1)
  | _, _, _, .dic z r, h => by
    unfold frzD at h
    obtain ⟨es, h1, rfl⟩ := Option.map_eq_some_iff.mp h
    exact .dic (e _ _ z) (RpK.frz e p c r h1)
  | _, _, _, .exv z r, h => by cases h
theorem RpL.frz (e : Ex F G) (p : ∀ k a, k < n → bs[k]? = some a → as[k]? = some a) (c : ∀ k a ds, n ≤ k → bs[k]? = some a → S[k]? = some (.lst ds) → ∃ xs, G a = some (.lst xs) ∧ RpL K as G ds xs) : ∀ {ds ds' : List D} {vs : List V}, RpL K bs F ds vs → frzL n S ds = some ds' → RpL K as G ds' vs
  | _, _, _, .nil, h => by cases h; exact .nil
  | _, _, _, .cons z r, h => by
    unfold frzL at h
    obtain ⟨e1, h1, h2⟩ := Option.bind_eq_some_iff.mp h
    obtain ⟨es, h3, rfl⟩ := Option.map_eq_some_iff.mp h2
    exact .cons (Rp.frz e p c z h1) (RpL.frz e p c r h3)
theorem RpF.frz (e : Ex F G) (p : ∀ k a, k < n → bs[k]? = some a → as[k]? = some a) (c : ∀ k a ds, n ≤ k → bs[k]? = some a → S[k]? = some (.lst ds) → ∃ xs, G a = some (.lst xs) ∧ RpL K as G ds xs) : ∀ {ds ds' : List (Str × D)} {vs : List (Str × V)}, RpF K bs F ds vs → frzF n S ds = some ds' → RpF K as G ds' vs
  | _, _, _, .nil, h => by cases h; exact .nil
  | _, _, _, .cons z r, h => by
    unfold frzF at h
    obtain ⟨e1, h1, h2⟩ := Option.bind_eq_some_iff.mp h
    obtain ⟨es, h3, rfl⟩ := Option.map_eq_some_iff.mp h2
    exact .cons (Rp.frz e p c z h1) (RpF.frz e p c r h3)
theorem RpK.frz (e : Ex F G) (p : ∀ k a, k < n → bs[k]? = some a → as[k]? = some a) (c : ∀ k a ds, n ≤ k → bs[k]? = some a → S[k]? = some (.lst ds) → ∃ xs, G a = some (.lst xs) ∧ RpL K as G ds xs) : ∀ {ds ds' : List (Key × D)} {vs : List (Key × V)}, RpK K bs F ds vs → frzK n S ds = some ds' → RpK K as G ds' vs
  | _, _, _, .nil, h => by cases h; exact .nil
  | _, _, _, .cons z r, h => by
    unfold frzK at h
    obtain ⟨e1, h1, h2⟩ := Option.bind_eq_some_iff.mp h
    obtain ⟨es, h3, rfl⟩ := Option.map_eq_some_iff.mp h2
    exact .cons (Rp.frz e p c z h1) (RpK.frz e p c r h3)
end
end
section
variable {K : PySem.W.Frag} {as bs : List Addr} {F H F' H' : Hp} {S S1 : WS} {d : D} {v : V} {q : D → WS → Prop} {Q : VK}
open Classical in
/-- what stands still once the def's own cells do -/
noncomputable def stillF (as bs : List Addr) (F' H' : Hp) : Hp := fun a => if F' a = none ∧ a ∈ bs ∧ a ∉ as then H' a else F' a
theorem finF_ok (I : Sit K as F H S) (hq : NQ K as F H q Q) (g : Grow K as F H bs F' H' S1) (r : Rp K bs F' d v) (h : finF S.length d S1 q) : Q v H' := by
  have hn : as.length = S.length := I.len
  unfold finF at h
  split at h
  · exact hq d S1 bs F' H' v h g r
  · obtain ⟨d', h1, h2⟩ := onS_ok h
    have gd := g.drop I.nd
    rw [hn] at gd
    have ex : Ex F' (stillF as bs F' H') := fun a o e => by
      unfold stillF
      rw [if_neg (fun z => by rw [z.1] at e; cases e)]
      exact e
    have sit : Sit K as (stillF as bs F' H') H' (S1.take S.length) := by
      refine ⟨gd.sit.len, fun a o e => ?_, I.nd, fun i p c e1 e2 => ?_⟩
      · unfold stillF at e
        split at e
        · exact e
        · exact gd.sit.ex a o e
      · obtain ⟨z1, o, z2, z3⟩ := gd.sit.cell i p c e1 e2
        refine ⟨fun hh => ?_, o, z2, z3.mono ex⟩
        unfold stillF
        rw [if_neg (fun z => z.2.2 (List.mem_of_getElem? e1))]
        exact z1 hh
    refine hq d' _ as (stillF as bs F' H') H' v h2 ⟨sit, Pre.refl _, gd.ex.trans ex, fun a ha => ?_, fun _ h => .inl h, gd.old, gd.there⟩ (r.frz ex (fun k a hk e => pre_back g.pre k a (by omega) e) (fun k a ds hk ha hS => ?_) h1)
    · unfold stillF at ha
      split at ha
      · rename_i z
        rcases g.newc a z.2.1 with y | y
        · exact absurd y z.2.2
        · exact .inr y
      · exact gd.new a ha
    · obtain ⟨z1, o, z2, z3⟩ := g.sit.cell k a _ ha hS
      cases o with
      | lst xs =>
        have na : a ∉ as := cell_out g.pre g.sit.nd (by omega) ha
        refine ⟨xs, ?_, RpL.mono ex pre_nil z3⟩
        unfold stillF
        rw [if_pos ⟨z1 rfl, List.mem_of_getElem? ha, na⟩]
        exact z2
      | _ => exact z3.elim
theorem fnF_run {K : PySem.W.Frag} {N : List Str} {m : RV.Env → MS} {ts : TS} {n : Nat} {vs : List V} {H : Hp} {Q : VK} {E : XK} (hm : MSt K (WofE E) ts m) (h : spG K n (fnF N.length m) vs H Q E) :
    ts { nx := fun _ H' => Q .non H', rt := Q } (L2.start N vs) H := by
  obtain ⟨as, F, S, ds, q, x, I, r, hl, e, hq, hx⟩ := h
  exact hm as F H S _ _ I (startE_ok r) _ e _ ⟨fun ρ' S' bs F' H' σ' h g R => finF_ok I hq g .non h, fun d S' bs F' H' v h g r => finF_ok I hq g r h, fun _ _ _ _ _ _ h => h.elim, fun _ _ _ _ _ _ h => h.elim, fun e ρ' S' bs F' H' σ' cls dd h g R r => finX_ok I hx g r h⟩
end
section
variable {P : Program} {w : World} {K : PySem.W.Frag} {mg : Str → Option Value} {base : Heap}
theorem fn_F {gd : Md} {x qual : Str} {params : Arguments} {body : List Stmt} {scope : Scope} {dvs : List V} {kws : List (Str × V)} {f : Addr} {fd : FuncData} {N ps : List Str} {k : Nat} {m : RV.Env → MS} (F : FunD K x qual params body scope dvs kws f fd) (S : FnScope N ps scope)
    (hb : BodyOk gd P w K mg base N qual scope f k body m) : FnX gd P w K mg base (k + 1) f fd ps (spG K ps.length (fnF N.length m)) := by
  refine fnX_of F S spG_len (fun cdv A outer s H vs Q E pp _ hg hr h => ?_)
  obtain ⟨ts, p, hm⟩ := hb cdv A outer s H E pp hg hr tk_of (passes_of rfl)
  exact ⟨ts, p, fnF_run hm h⟩
end
end RV
end
section
/-! o[i] += e, o a list that still changes, i from 0 on; x is True. -/
namespace RV
open PySem L2
/-! ### x is True -/
/-! ### int(x), x a bool -/
end RV
end
section
/-! sorted(xs), xs a list of different texts. -/
namespace RV
open PySem L2
end RV
end
section
/-! o.insert(i, e), o a list that still changes, i from 0 on. -/
namespace RV
open PySem L2
section
variable {X : Cx} {W : WX} {o i e : Expr} {eo ei ee : RV.Env → M} {apos cpos pos : Pos} {K : PySem.W.Frag}
end
/-! ### a + b, lists that still change too -/
theorem lst_at {K : PySem.W.Frag} {as : List Addr} {F H : Hp} {S : WS} {x : D} {v : V} {ds : List D} (I : Sit K as F H S) (r : Rp K as F x v) (h : lstOf S x = some ds) : ∃ a xs, v = .ref a ∧ H a = some (.lst xs) ∧ RpL K as F ds xs := by
  cases r with
  | lst z1 z2 => cases h; exact ⟨_, _, rfl, I.ex _ _ z1, z2⟩
  | @cell k a hk =>
    simp only [lstOf] at h
    split at h
    · rename_i es e
      cases h
      obtain ⟨p, hp, c⟩ := I.at_ e
      rw [hk] at hp
      cases hp
      obtain ⟨o, ho, hc⟩ := c.at_
      cases o with
      | lst xs => exact ⟨a, xs, rfl, ho, RpL.mono (Ex.refl _) (fun i a h => by simp at h) hc⟩
      | _ => exact hc.elim
    · cases h
  | _ => cases h
def addC : WS → D → D → Option D := fun S x y => (lstOf S x).bind fun a => (lstOf S y).bind fun b => if small (a.length + b.length) = true then some (.lst (a ++ b)) else none
end RV
end
section
/-! a, b, .. = a list that stands still -/
namespace RV
open PySem L2
section
variable {X : Cx} {pos : Pos}
end
end RV
end
section
/-! while an error without context is handled: properties, str of own things, tuples walked, lists made of them -/
namespace HotX
open PySem PySem.Spec PyProof.Rows
section
variable {prog : Program} {w : World} {A : Around} {E : Value → Shared → Prop} {s : Shared}
end
end HotX
namespace RV
open PySem PySem.Spec PyProof.Rows L2
theorem Rx.hot {k : Nat} {X : Cx} (z : zN = true) (r : Rx true k X) : Rdy true X := by
  obtain ⟨_, p, hp, e1, e2⟩ := r
  exact ⟨p, ⟨e1, e2 z⟩, hp⟩
section
variable {X : Cx} {W : WX} {tg a e o : Expr} {ea : RV.Env → M}
/-! ### lists -/
end
/-! ### own things -/
section
variable (P : Program) (w : World) (K : PySem.W.Frag) (mg : Str → Option Value) (base : Heap)
end
section
variable {X : Cx} {W : WX} {e : Expr} {ea : RV.Env → M} {C : Addr} {k j : Nat} {f : Str} {pos : Pos} {G : List D → M}
end
end RV
end
section
/-! a text == a thing with an own == -/
namespace RV
open PySem L2 PySem.W
section
variable {prog : Program} {w : World} {A : Around} {E : Value → Shared → Prop} {s : Shared} {K : PySem.W.Frag} {x C L f : Addr} {h₀ : Heap} {m : Str → Option Value} {dx : Addr} {od : Obj}
end
section
variable {X : Cx} {W : WX} {a b : Expr} {ea eb : RV.Env → M} {pos : Pos}
end
end RV
end
section
/-! try .. except A as n .. except B as n ..: every error of the body is one of them; isinstance with built-in classes. -/
namespace RV
open PySem L2 PySem.Spec PyProof.Rows
inductive HdsM (nz : Bool) (X : Cx) : List ExceptHandler → List (Value × Nat × (Addr → Value → Option Addr → TS)) → Prop
  | nil : HdsM nz X [] []
  | cons {x n : Str} {c : Value} {i : Nat} {ts : Addr → Value → Option Addr → TS} {b0 : Stmt} {suite : List Stmt} {np pos' : Pos} {hds : List ExceptHandler} {l : List (Value × Nat × (Addr → Value → Option Addr → TS))} (hi : X.N[i]? = some n) (hln : X.env.kindOf n = some .local) (hc : Names X x c)
      (hsu : ∀ (a : Addr) (oe : Obj) (cls : Value) (d : Option Addr) (pn : List (Addr × Obj)), Zz nz cls d oe → (∃ vs, oe.data = .fields vs) → PSs (X.suite a ((a, oe) :: pn)) (b0 :: suite) (ts a cls d)) (r : HdsM nz X hds l) :
      HdsM nz X (.ExceptHandler (some (.Name x np)) (some n) (b0 :: suite) pos' :: hds) ((c, i, ts) :: l)
section
variable {X : Cx} {body : List Stmt} {h0 : ExceptHandler} {hds : List ExceptHandler} {l : List (Value × Nat × (Addr → Value → Option Addr → TS))} {pos : Pos} {tb : WX → TS}
end
/-! ### readings -/
structure Hm where
  c : Value
  L : List Addr
  i : Nat
  m : Addr → Addr → Addr → RV.Env → MS
inductive GHs (X : Cx) (All : List Addr) : List ExceptHandler → List Hm → Prop
  | nil : GHs X All [] []
  | cons {x n : Str} {h : Hm} {b0 : Stmt} {suite : List Stmt} {np pos' : Pos} {hds : List ExceptHandler} {l : List Hm} (hi : X.N[h.i]? = some n) (hln : X.env.kindOf n = some .local) (hc : Names X x h.c) (hL : ∀ C ∈ All, PySem.W.exmOne X.K (.ref C) h.c = some (decide (C ∈ h.L)))
      (hsu : ∀ (a C d : Addr) (oe : Obj) (pn : List (Addr × Obj)), Zz zN (.ref C) (some d) oe → (∃ vs, oe.data = .fields vs) → GSs (X.suite a ((a, oe) :: pn)) WF (b0 :: suite) (h.m a C d)) (r : GHs X All hds l) :
      GHs X All (.ExceptHandler (some (.Name x np)) (some n) (b0 :: suite) pos' :: hds) (h :: l)
section
variable {X : Cx} {W : WX} {body : List Stmt} {h0 : ExceptHandler} {hds : List ExceptHandler} {pos : Pos} {mb : RV.Env → MS} {All : List Addr} {hs : List Hm}
end
/-! ### isinstance with built-in classes -/
end RV
end
section
/-! s.split(t), which changes later -/
namespace RV
open PySem L2
section
variable {X : Cx} {W : WX} {o e : Expr} {pos apos : Pos} {eo ee : RV.Env → M}
def eSplitN (ea eb : RV.Env → M) : RV.Env → M := fun ρ S q x => ea ρ S (fun u S1 => onT u fun z => eb ρ S1 (fun v S2 => onS (splitD S2 (.str z) v) fun d => onLs d fun xs => lkD .new xs S2 q) x) x
theorem ge_splitN (ho : GE X W o eo) (he : GE X W e ee) (hs : starEach [e] X.env = [(false, eval e X.env)] := by rfl) (hbase : attributeBase o "split" X.env (eval o X.env) = eval o X.env := by rfl) (hline : (apos.endLine == pos.line) = true := by rfl) :
    GE X W (.Call (.Attribute o "split" apos) [e] [] pos) (eSplitN eo ee) := by
  obtain ⟨to, po, mo⟩ := ho
  obtain ⟨te, pe, me⟩ := he
  refine ⟨_, pe_split po pe hs hbase hline, fun as F H S ρ σ I R q x h Q hq hx => ?_⟩
  refine mo as F H S ρ σ I R _ x h _ (fun u S1 bs F1 H1 v h1 g r1 => ?_) hx
  cases r1 with
  | str z =>
    refine ⟨⟨z, rfl⟩, ?_⟩
    refine me bs F1 H1 S1 ρ σ g.sit (R.grow g) _ x h1 _ (fun y S2 cs F2 H2 w h2 g2 r2 => ?_) (hx.step g)
    obtain ⟨d, h3, h4⟩ := onS_ok h2
    unfold splitD onStr at h3
    simp only at h3
    split at h3
    · rename_i s
      split at h3
      · rename_i hc
        cases h3
        cases r2
        refine ⟨z, s, rfl, rfl, by simpa using hc.1, small_two hc.2, fun p hp => ?_⟩
        have f1 := g2.sit.out hp
        have b1 : p ∉ cs := fun z => g2.sit.there z hp
        have g3 : Grow X.K cs F2 H2 cs F2 (upd H2 p (.lst ((Txt.split z s).map V.str))) S2 := ⟨g2.sit.other f1 b1, Pre.refl _, Ex.refl _, fun _ h => .inl h, fun _ h => .inl h, fun c o _ h => by rw [upd_ne (ne_of_none h hp)]; exact h, fun c h => upd_there h⟩
        replace h4 : lkD .new ((Txt.split z s).map D.str) S2 q := h4
        exact lk_ok (hq.step (g.trans g2)) g3 hp f1 b1 upd_same (rpl_strs _) h4
      · cases h3
    · cases h3
  | _ => exact h1.elim
/-- a + b of lists, which changes later -/
def eAddN (ea eb : RV.Env → M) : RV.Env → M := fun ρ S q x => ea ρ S (fun u S1 => eb ρ S1 (fun v S2 => onS (addC S2 u v) fun d => onLs d fun xs => lkD .new xs S2 q) x) x
theorem ge_addN {a b : Expr} {ea eb : RV.Env → M} (ha : GE X W a ea) (hb : GE X W b eb) : GE X W (.BinOp a .Add b pos) (eAddN ea eb) := by
  obtain ⟨ta, pa, ma⟩ := ha
  obtain ⟨tb, pb, mb⟩ := hb
  refine ⟨_, pe_op op_cat pa pb, fun as F H S ρ σ I R q x h Q hq hx => ?_⟩
  refine ma as F H S ρ σ I R _ x h _ (fun u S1 bs F1 H1 v1 h1 g1 r1 => ?_) hx
  refine mb bs F1 H1 S1 ρ σ g1.sit (R.grow g1) _ x h1 _ (fun w S2 cs F2 H2 v2 h2 g2 r2 => ?_) (hx.step g1)
  obtain ⟨d, h3, h4⟩ := onS_ok h2
  simp only [addC, Option.bind_eq_some_iff] at h3
  obtain ⟨xs, e1, ys, e2, h3⟩ := h3
  split at h3
  · rename_i hh
    cases h3
    obtain ⟨p1, us, rfl, z1, s1⟩ := lst_at g2.sit (RpE_aux g2 r1) e1
    obtain ⟨p2, vs, rfl, z2, s2⟩ := lst_at g2.sit r2 e2
    refine ⟨_, _, _, _, rfl, rfl, z1, z2, by rw [← s1.length, ← s2.length]; exact small_le hh, fun p hp => ?_⟩
    have f1 := g2.sit.out hp
    have b1 : p ∉ cs := fun z => g2.sit.there z hp
    have g3 : Grow X.K cs F2 H2 cs F2 (upd H2 p (.lst (us ++ vs))) S2 := ⟨g2.sit.other f1 b1, Pre.refl _, Ex.refl _, fun _ h => .inl h, fun _ h => .inl h, fun c o _ h => by rw [upd_ne (ne_of_none h hp)]; exact h, fun c h => upd_there h⟩
    replace h4 : lkD .new (xs ++ ys) S2 q := h4
    exact lk_ok (hq.step (g1.trans g2)) g3 hp f1 b1 upd_same (s1.append s2) h4
  · cases h3
end
end RV
end
section
namespace RV
def errNames : List String := ["InvalidEnd", "InvalidFlag", "InvalidMeters", "InvalidName", "InvalidPipes", "InvalidText"]
def errAll : List String := ["BadName", "BadValue", "InvalidEnd", "InvalidFlag", "InvalidMeters", "InvalidName", "InvalidPipes", "InvalidText", "NoAnswer", "NotAMeter", "UnknownName"]
def errAnc : List (String × List String) := [("InvalidEnd", ["InvalidEnd", "BadValue"]), ("InvalidFlag", ["InvalidFlag", "BadValue"]), ("InvalidMeters", ["InvalidMeters", "BadValue"]), ("InvalidName", ["InvalidName", "BadValue"]), ("InvalidPipes", ["InvalidPipes", "BadValue"]), ("InvalidText", ["InvalidText", "BadValue"])]
end RV
namespace K13
open PySem L2 RV
def top (i : Nat) : Stmt := PySem.Challenge.pw_ringvotes_k13_net_texts_that_are_none.main.body.getD i (.Pass ⟨0, 0, 0, 0⟩)
abbrev s_X_InvalidEnd : Stmt := inClass (top 6) 0
abbrev s_X_InvalidFlag : Stmt := inClass (top 7) 0
abbrev s_X_InvalidMeters : Stmt := inClass (top 13) 0
abbrev s_X_InvalidName : Stmt := inClass (top 5) 0
abbrev s_X_InvalidPipes : Stmt := inClass (top 12) 0
abbrev s_X_InvalidText : Stmt := inClass (top 8) 0
abbrev s_is_name_k04 : Stmt := top 61
abbrev s_taken_k13 : Stmt := top 62
abbrev s_net_in_k13 : Stmt := top 63
abbrev s_Pipe_name : Stmt := inClass (top 40) 1
abbrev s_Pipe_start : Stmt := inClass (top 40) 2
abbrev s_Pipe_end : Stmt := inClass (top 40) 3
abbrev s_Meter_name : Stmt := inClass (top 41) 1
abbrev s_Meter_at : Stmt := inClass (top 41) 2
abbrev s_Meter_sealed : Stmt := inClass (top 41) 3
abbrev s_line_of : Stmt := top 44
abbrev s_Net_str : Stmt := inClass (top 46) 16
abbrev s_seen_k10 : Stmt := top 58
abbrev s_seen_k10_h : Stmt := top 58
abbrev s_said_k10 : Stmt := top 59
abbrev s_caught_k10 : Stmt := top 60
abbrev s_is_name : Stmt := top 24
abbrev s_check_name : Stmt := top 25
abbrev s_Pipe_init : Stmt := inClass (top 40) 0
abbrev s_Meter_init : Stmt := inClass (top 41) 0
abbrev s_item_of : Stmt := top 45
abbrev s_check_pipes : Stmt := top 42
abbrev s_check_meters : Stmt := top 43
abbrev s_Net_init : Stmt := inClass (top 46) 0
abbrev s_Net_read : Stmt := inClass (top 46) 1
abbrev s_Net_pipes : Stmt := inClass (top 46) 2
abbrev s_Net_meters : Stmt := inClass (top 46) 3
abbrev s_net_text_k11 : Stmt := top 56
abbrev s_Net_len : Stmt := inClass (top 46) 15
abbrev s_is_k11 : Stmt := top 57
abbrev s_read_right_k13 : Stmt := top 66
abbrev s_well_k01 : Stmt := top 48
abbrev s_dip_k01 : Stmt := top 49
abbrev s_name_k02 : Stmt := top 50
abbrev s_fresh_k02 : Stmt := top 51
abbrev s_laid_k11 : Stmt := top 54
abbrev s_fits_k11 : Stmt := top 55
abbrev s_sign_k04 : Stmt := top 52
abbrev s_bent_lines_k13 : Stmt := top 64
abbrev s_bent_k13 : Stmt := top 65
abbrev s_odd_k04 : Stmt := top 53
abbrev s_right_k13 : Stmt := top 67
abbrev s_law_k13 : Stmt := top 68
def ad (K : PySem.W.Frag) : Ad := ⟨fun n => He.ga K (PySem.Str.ofString n), ["Sum", "Pipe", "Meter", "Net"], fun n => (He.cT K (PySem.Str.ofString n, none)).2⟩
def tf : List He.Defn := [("_law_read_right", none)]
def tq : List Str := ["_law_read_right.<locals>.<lambda>"]
def d_X_InvalidEnd : He5.DefA := ⟨fun K => He.ma K (He.ga K "InvalidEnd") "__init__", "__init__", "InvalidEnd.__init__", defArgs s_X_InvalidEnd, defBody s_X_InvalidEnd, defScope s_X_InvalidEnd, [], []⟩
def d_X_InvalidFlag : He5.DefA := ⟨fun K => He.ma K (He.ga K "InvalidFlag") "__init__", "__init__", "InvalidFlag.__init__", defArgs s_X_InvalidFlag, defBody s_X_InvalidFlag, defScope s_X_InvalidFlag, [], []⟩
def d_X_InvalidMeters : He5.DefA := ⟨fun K => He.ma K (He.ga K "InvalidMeters") "__init__", "__init__", "InvalidMeters.__init__", defArgs s_X_InvalidMeters, defBody s_X_InvalidMeters, defScope s_X_InvalidMeters, [], []⟩
def d_X_InvalidName : He5.DefA := ⟨fun K => He.ma K (He.ga K "InvalidName") "__init__", "__init__", "InvalidName.__init__", defArgs s_X_InvalidName, defBody s_X_InvalidName, defScope s_X_InvalidName, [], []⟩
def d_X_InvalidPipes : He5.DefA := ⟨fun K => He.ma K (He.ga K "InvalidPipes") "__init__", "__init__", "InvalidPipes.__init__", defArgs s_X_InvalidPipes, defBody s_X_InvalidPipes, defScope s_X_InvalidPipes, [], []⟩
def d_X_InvalidText : He5.DefA := ⟨fun K => He.ma K (He.ga K "InvalidText") "__init__", "__init__", "InvalidText.__init__", defArgs s_X_InvalidText, defBody s_X_InvalidText, defScope s_X_InvalidText, [], []⟩
def d_is_name_k04 : He5.DefA := ⟨fun K => He.ga K "_law_is_name", "_law_is_name", "_law_is_name", defArgs s_is_name_k04, defBody s_is_name_k04, defScope s_is_name_k04, [], []⟩
def d_taken_k13 : He5.DefA := ⟨fun K => He.ga K "_law_taken", "_law_taken", "_law_taken", defArgs s_taken_k13, defBody s_taken_k13, defScope s_taken_k13, [], []⟩
def d_net_in_k13 : He5.DefA := ⟨fun K => He.ga K "_law_net_in", "_law_net_in", "_law_net_in", defArgs s_net_in_k13, defBody s_net_in_k13, defScope s_net_in_k13, [], []⟩
def d_Pipe_name : He5.DefA := ⟨fun K => He5.wf K (He.ga K "Pipe") "property" "name", "name", "Pipe.name", defArgs s_Pipe_name, defBody s_Pipe_name, defScope s_Pipe_name, [], []⟩
def d_Pipe_start : He5.DefA := ⟨fun K => He5.wf K (He.ga K "Pipe") "property" "start", "start", "Pipe.start", defArgs s_Pipe_start, defBody s_Pipe_start, defScope s_Pipe_start, [], []⟩
def d_Pipe_end : He5.DefA := ⟨fun K => He5.wf K (He.ga K "Pipe") "property" "end", "end", "Pipe.end", defArgs s_Pipe_end, defBody s_Pipe_end, defScope s_Pipe_end, [], []⟩
def d_Meter_name : He5.DefA := ⟨fun K => He5.wf K (He.ga K "Meter") "property" "name", "name", "Meter.name", defArgs s_Meter_name, defBody s_Meter_name, defScope s_Meter_name, [], []⟩
def d_Meter_at : He5.DefA := ⟨fun K => He5.wf K (He.ga K "Meter") "property" "at", "at", "Meter.at", defArgs s_Meter_at, defBody s_Meter_at, defScope s_Meter_at, [], []⟩
def d_Meter_sealed : He5.DefA := ⟨fun K => He5.wf K (He.ga K "Meter") "property" "sealed", "sealed", "Meter.sealed", defArgs s_Meter_sealed, defBody s_Meter_sealed, defScope s_Meter_sealed, [], []⟩
def d_line_of : He5.DefA := ⟨fun K => He.ga K "line_of", "line_of", "line_of", defArgs s_line_of, defBody s_line_of, defScope s_line_of, [], []⟩
def d_Net_str : He5.DefA := ⟨fun K => He.ma K (He.ga K "Net") "__str__", "__str__", "Net.__str__", defArgs s_Net_str, defBody s_Net_str, defScope s_Net_str, [], []⟩
def d_seen_k10 : He5.DefA := ⟨fun K => He.ga K "_law_seen", "_law_seen", "_law_seen", defArgs s_seen_k10, defBody s_seen_k10, defScope s_seen_k10, [], []⟩
def d_seen_k10_h : He5.DefA := ⟨fun K => He.ga K "_law_seen", "_law_seen", "_law_seen", defArgs s_seen_k10_h, defBody s_seen_k10_h, defScope s_seen_k10_h, [], []⟩
def d_said_k10 : He5.DefA := ⟨fun K => He.ga K "_law_said", "_law_said", "_law_said", defArgs s_said_k10, defBody s_said_k10, defScope s_said_k10, [], []⟩
def d_caught_k10 : He5.DefA := ⟨fun K => He.ga K "_law_caught", "_law_caught", "_law_caught", defArgs s_caught_k10, defBody s_caught_k10, defScope s_caught_k10, [], []⟩
def d_is_name : He5.DefA := ⟨fun K => He.ga K "is_name", "is_name", "is_name", defArgs s_is_name, defBody s_is_name, defScope s_is_name, [], []⟩
def d_check_name : He5.DefA := ⟨fun K => He.ga K "check_name", "check_name", "check_name", defArgs s_check_name, defBody s_check_name, defScope s_check_name, [], []⟩
def d_Pipe_init : He5.DefA := ⟨fun K => He.ma K (He.ga K "Pipe") "__init__", "__init__", "Pipe.__init__", defArgs s_Pipe_init, defBody s_Pipe_init, defScope s_Pipe_init, [], []⟩
def d_Meter_init : He5.DefA := ⟨fun K => He.ma K (He.ga K "Meter") "__init__", "__init__", "Meter.__init__", defArgs s_Meter_init, defBody s_Meter_init, defScope s_Meter_init, [], [("sealed", .bl false)]⟩
def d_item_of : He5.DefA := ⟨fun K => He.ga K "item_of", "item_of", "item_of", defArgs s_item_of, defBody s_item_of, defScope s_item_of, [], []⟩
def d_check_pipes : He5.DefA := ⟨fun K => He.ga K "check_pipes", "check_pipes", "check_pipes", defArgs s_check_pipes, defBody s_check_pipes, defScope s_check_pipes, [], []⟩
def d_check_meters : He5.DefA := ⟨fun K => He.ga K "check_meters", "check_meters", "check_meters", defArgs s_check_meters, defBody s_check_meters, defScope s_check_meters, [], []⟩
def d_Net_init : He5.DefA := ⟨fun K => He.ma K (He.ga K "Net") "__init__", "__init__", "Net.__init__", defArgs s_Net_init, defBody s_Net_init, defScope s_Net_init, [.adr (He.dflAt ("Net", some "__init__") 0)], []⟩
def d_Net_read : He5.DefA := ⟨fun K => He5.wf K (He.ga K "Net") "classmethod" "read", "read", "Net.read", defArgs s_Net_read, defBody s_Net_read, defScope s_Net_read, [], []⟩
def d_Net_pipes : He5.DefA := ⟨fun K => He5.wf K (He.ga K "Net") "property" "pipes", "pipes", "Net.pipes", defArgs s_Net_pipes, defBody s_Net_pipes, defScope s_Net_pipes, [], []⟩
def d_Net_meters : He5.DefA := ⟨fun K => He5.wf K (He.ga K "Net") "property" "meters", "meters", "Net.meters", defArgs s_Net_meters, defBody s_Net_meters, defScope s_Net_meters, [], []⟩
def d_net_text_k11 : He5.DefA := ⟨fun K => He.ga K "_law_net_text", "_law_net_text", "_law_net_text", defArgs s_net_text_k11, defBody s_net_text_k11, defScope s_net_text_k11, [], []⟩
def d_Net_len : He5.DefA := ⟨fun K => He.ma K (He.ga K "Net") "__len__", "__len__", "Net.__len__", defArgs s_Net_len, defBody s_Net_len, defScope s_Net_len, [], []⟩
def d_is_k11 : He5.DefA := ⟨fun K => He.ga K "_law_is", "_law_is", "_law_is", defArgs s_is_k11, defBody s_is_k11, defScope s_is_k11, [], []⟩
def d_read_right_k13 : He5.DefA := ⟨fun K => He.ga K "_law_read_right", "_law_read_right", "_law_read_right", defArgs s_read_right_k13, defBody s_read_right_k13, defScope s_read_right_k13, [], []⟩
def d_well_k01 : He5.DefA := ⟨fun K => He.ga K "_law_well", "_law_well", "_law_well", defArgs s_well_k01, defBody s_well_k01, defScope s_well_k01, [], []⟩
def d_dip_k01 : He5.DefA := ⟨fun K => He.ga K "_law_dip", "_law_dip", "_law_dip", defArgs s_dip_k01, defBody s_dip_k01, defScope s_dip_k01, [], []⟩
def d_name_k02 : He5.DefA := ⟨fun K => He.ga K "_law_name", "_law_name", "_law_name", defArgs s_name_k02, defBody s_name_k02, defScope s_name_k02, [], []⟩
def d_fresh_k02 : He5.DefA := ⟨fun K => He.ga K "_law_fresh", "_law_fresh", "_law_fresh", defArgs s_fresh_k02, defBody s_fresh_k02, defScope s_fresh_k02, [], []⟩
def d_laid_k11 : He5.DefA := ⟨fun K => He.ga K "_law_laid", "_law_laid", "_law_laid", defArgs s_laid_k11, defBody s_laid_k11, defScope s_laid_k11, [], []⟩
def d_fits_k11 : He5.DefA := ⟨fun K => He.ga K "_law_fits", "_law_fits", "_law_fits", defArgs s_fits_k11, defBody s_fits_k11, defScope s_fits_k11, [], []⟩
def d_sign_k04 : He5.DefA := ⟨fun K => He.ga K "_law_sign", "_law_sign", "_law_sign", defArgs s_sign_k04, defBody s_sign_k04, defScope s_sign_k04, [], []⟩
def d_bent_lines_k13 : He5.DefA := ⟨fun K => He.ga K "_law_bent_lines", "_law_bent_lines", "_law_bent_lines", defArgs s_bent_lines_k13, defBody s_bent_lines_k13, defScope s_bent_lines_k13, [], []⟩
def d_bent_k13 : He5.DefA := ⟨fun K => He.ga K "_law_bent", "_law_bent", "_law_bent", defArgs s_bent_k13, defBody s_bent_k13, defScope s_bent_k13, [], []⟩
def d_odd_k04 : He5.DefA := ⟨fun K => He.ga K "_law_odd", "_law_odd", "_law_odd", defArgs s_odd_k04, defBody s_odd_k04, defScope s_odd_k04, [], []⟩
def d_right_k13 : He5.DefA := ⟨fun K => He.ga K "_law_right", "_law_right", "_law_right", defArgs s_right_k13, defBody s_right_k13, defScope s_right_k13, [], []⟩
def d_law_k13 : He5.DefA := ⟨fun K => He.ga K "law", "law", "law", defArgs s_law_k13, defBody s_law_k13, defScope s_law_k13, [], []⟩
def fn : List He5.DefA := [d_is_name_k04, d_taken_k13, d_net_in_k13, d_Pipe_name, d_Pipe_start, d_Pipe_end, d_Meter_name, d_Meter_at, d_Meter_sealed, d_line_of, d_Net_str, d_seen_k10, d_seen_k10_h, d_said_k10, d_caught_k10, d_is_name, d_check_name, d_Pipe_init, d_Meter_init, d_item_of, d_check_pipes, d_check_meters, d_Net_init, d_Net_read, d_Net_pipes, d_Net_meters, d_net_text_k11, d_Net_len, d_is_k11, d_read_right_k13, d_well_k01, d_dip_k01, d_name_k02, d_fresh_k02, d_laid_k11, d_fits_k11, d_sign_k04, d_bent_lines_k13, d_bent_k13, d_odd_k04, d_right_k13, d_law_k13, d_X_InvalidEnd, d_X_InvalidFlag, d_X_InvalidMeters, d_X_InvalidName, d_X_InvalidPipes, d_X_InvalidText]
def fa : List He.Fa := [.glo "_law_is_name", .glo "_law_taken", .glo "_law_net_in", .glo "line_of", .glo "_law_seen", .glo "_law_seen", .glo "_law_said", .glo "_law_caught", .glo "is_name", .glo "check_name", .glo "item_of", .glo "check_pipes", .glo "check_meters", .glo "_law_net_text", .glo "_law_is", .glo "_law_read_right", .glo "_law_well", .glo "_law_dip", .glo "_law_name", .glo "_law_fresh", .glo "_law_laid", .glo "_law_fits", .glo "_law_sign", .glo "_law_bent_lines", .glo "_law_bent", .glo "_law_odd", .glo "_law_right", .glo "law", .glo "BadName", .glo "BadValue", .glo "InvalidEnd", .glo "InvalidFlag", .glo "InvalidMeters", .glo "InvalidName", .glo "InvalidPipes", .glo "InvalidText", .glo "NoAnswer", .glo "NotAMeter", .glo "UnknownName", .glo "Sum", .cls "Sum", .mkr "Sum", .glo "Pipe", .cls "Pipe", .mkr "Pipe", .glo "Meter", .cls "Meter", .mkr "Meter", .glo "Net", .cls "Net", .mkr "Net", .noat "Meter" "kept", .noat "Net" "fitted", .noat "Net" "joined", .noat "Pipe" "kept", .free "abs", .free "all", .free "bool", .free "divmod", .free "enumerate", .free "int", .free "isinstance", .free "len", .free "max", .free "min", .free "range", .free "repr", .free "str", .free "tuple", .str "DIGITS" "0123456789", .str "LETTERS" "abcdefghijklmnopqrstuvwxyz", .int "LONGEST_NAME" 8, .int "MOST_METERS" 12, .int "MOST_PIPES" 12]
def exs : List (PySem.W.Frag → Bool) := [fun K => kindB K (He.ga K "Sum"), fun K => kindB K (He.ga K "Pipe"), fun K => propB K (He.ga K "Pipe") "name", fun K => propB K (He.ga K "Pipe") "start", fun K => propB K (He.ga K "Pipe") "end", fun K => kindB K (He.ga K "Meter"), fun K => propB K (He.ga K "Meter") "name", fun K => propB K (He.ga K "Meter") "at", fun K => propB K (He.ga K "Meter") "sealed", fun K => kindB K (He.ga K "Net"), fun K => readB K (He.ga K "Net"), fun K => cmetB K (He.ga K "Net") "read", fun K => propB K (He.ga K "Net") "pipes", fun K => propB K (He.ga K "Net") "meters", fun K => specB K (He.ga K "Net") "__len__", fun K => specB K (He.ga K "Net") "__str__", fun K => xcB K (He.ga K "InvalidEnd") "given", fun K => xcB K (He.ga K "InvalidFlag") "given", fun K => xcB K (He.ga K "InvalidMeters") "index", fun K => xcB K (He.ga K "InvalidName") "given", fun K => xcB K (He.ga K "InvalidPipes") "index", fun K => xcB K (He.ga K "InvalidText") "given", fun K => errNames.all fun n => excB K ((ad K).c n), fun K => tbXB K (ad K) errAll errAnc, fun K => errNames.all fun n => He.eqO (PySem.W.findIn K (.ref ((ad K).c n)) "given") (some none), fun K => errNames.all fun n => He.eqO (PySem.W.findIn K (.ref ((ad K).c n)) "index") (some none), fun K => errNames.all fun n => decide (PySem.W.exmAny K (.ref ((ad K).c n)) [.ref ((ad K).c "BadValue"), .ref ((ad K).c "BadName"), .ref ((ad K).c "NoAnswer")] = some true), fun K => ["InvalidPipes", "InvalidMeters", "InvalidName", "InvalidEnd"].all fun n => decide (PySem.W.exmOne K (.ref ((ad K).c n)) (.ref ((ad K).c "BadValue")) = some true), fun K => oexVB K ((ad K).c "InvalidText"), fun K => decide (((tf.map (He.cT K)).map (·.2)).Nodup), fun K => decide (([He.ga K "Sum", He.ga K "Pipe", He.ga K "Meter", He.ga K "Net", He.ga K "BadName", He.ga K "BadValue", He.ga K "InvalidEnd", He.ga K "InvalidFlag", He.ga K "InvalidMeters", He.ga K "InvalidName", He.ga K "InvalidPipes", He.ga K "InvalidText", He.ga K "NoAnswer", He.ga K "NotAMeter", He.ga K "UnknownName"] : List Addr).Nodup), fun K => decide (([He.ga K "Sum", He.ga K "Pipe", He.ga K "Meter", He.ga K "Net"] : List Addr).Nodup), fun K => tabB K (kinds (ad K)) (clss (ad K)) (sub (ad K))]
def exA (K : PySem.W.Frag) : Bool := exs.all fun f => f K
theorem exA_at {K : PySem.W.Frag} (h : exA K = true) (i : Nat) {f : PySem.W.Frag → Bool} (e : exs[i]? = some f) : f K = true := List.all_eq_true.mp h f (List.mem_of_getElem? e)
theorem ad_ok {K : PySem.W.Frag} (h : exA K = true) : AdOk (ad K) ["Sum", "Pipe", "Meter", "Net"] := ⟨rfl, of_decide_eq_true (p := (([He.ga K "Sum", He.ga K "Pipe", He.ga K "Meter", He.ga K "Net"] : List Addr).Nodup)) (exA_at h 31 rfl)⟩
theorem tabs_nd {K : PySem.W.Frag} (h : exA K = true) : ((tf.map (He.cT K)).map (·.2)).Nodup := of_decide_eq_true (p := ((tf.map (He.cT K)).map (·.2)).Nodup) (exA_at h 29 rfl)
theorem ad_nd {K : PySem.W.Frag} (h : exA K = true) : (["Sum", "Pipe", "Meter", "Net", "BadName", "BadValue", "InvalidEnd", "InvalidFlag", "InvalidMeters", "InvalidName", "InvalidPipes", "InvalidText", "NoAnswer", "NotAMeter", "UnknownName"].map (ad K).c).Nodup := of_decide_eq_true (p := (([He.ga K "Sum", He.ga K "Pipe", He.ga K "Meter", He.ga K "Net", He.ga K "BadName", He.ga K "BadValue", He.ga K "InvalidEnd", He.ga K "InvalidFlag", He.ga K "InvalidMeters", He.ga K "InvalidName", He.ga K "InvalidPipes", He.ga K "InvalidText", He.ga K "NoAnswer", He.ga K "NotAMeter", He.ga K "UnknownName"] : List Addr).Nodup)) (exA_at h 30 rfl)
abbrev R : PySem.W.OpenRow := PySem.W.OpenLaw.row PySem.Challenge.rw_ringvotes_k13_net_texts_that_are_none
abbrev hk : PySem.W.Hook := hookT 5 fa fn tf exA
def ob (s : PySem.W.SharedT) : He.AlD × Bool := obT 5 fa fn tf exA (HandSHeadRun.getT s)
theorem ob_eq (s : PySem.W.SharedT) : ob s = hk.obs s.abs := obT_eq (HandSHeadRun.getT_eq s)
theorem run (w : World) : HandSHeadRun.RunEq R (PySem.W.view R.prog [68]) hk ob 40000 [("_wall" : PySem.Str), ("BadValue" : PySem.Str), ("BadName" : PySem.Str), ("NoAnswer" : PySem.Str), ("InvalidName" : PySem.Str), ("InvalidEnd" : PySem.Str), ("InvalidFlag" : PySem.Str), ("InvalidText" : PySem.Str), ("InvalidNumber" : PySem.Str), ("NotAMeter" : PySem.Str), ("NotASum" : PySem.Str), ("InvalidPipes" : PySem.Str), ("InvalidMeters" : PySem.Str), ("InvalidTerms" : PySem.Str), ("UnknownName" : PySem.Str), ("MOST_PIPES" : PySem.Str), ("MOST_METERS" : PySem.Str), ("LETTERS" : PySem.Str), ("DIGITS" : PySem.Str), ("LONGEST_NAME" : PySem.Str), ("BLOCK" : PySem.Str), ("is_integer" : PySem.Str), ("is_name" : PySem.Str), ("check_name" : PySem.Str), ("read_number" : PySem.Str), ("digits_of" : PySem.Str), ("check_terms" : PySem.Str), ("merged" : PySem.Str), ("scaled" : PySem.Str), ("term_text" : PySem.Str), ("text_of" : PySem.Str), ("read_term" : PySem.Str), ("read_terms" : PySem.Str), ("Sum" : PySem.Str), ("check_sum" : PySem.Str), ("check_factor" : PySem.Str), ("Pipe" : PySem.Str), ("Meter" : PySem.Str), ("check_pipes" : PySem.Str), ("check_meters" : PySem.Str), ("line_of" : PySem.Str), ("item_of" : PySem.Str), ("Net" : PySem.Str), ("_law_well" : PySem.Str), ("_law_dip" : PySem.Str), ("_law_name" : PySem.Str), ("_law_fresh" : PySem.Str), ("_law_sign" : PySem.Str), ("_law_odd" : PySem.Str), ("_law_laid" : PySem.Str), ("_law_fits" : PySem.Str), ("_law_net_text" : PySem.Str), ("_law_is" : PySem.Str), ("_law_seen" : PySem.Str), ("_law_said" : PySem.Str), ("_law_caught" : PySem.Str), ("_law_is_name" : PySem.Str), ("_law_taken" : PySem.Str), ("_law_net_in" : PySem.Str), ("_law_bent_lines" : PySem.Str), ("_law_bent" : PySem.Str), ("_law_read_right" : PySem.Str), ("_law_right" : PySem.Str)] w := by
  intro os
  kernel_rfl
end K13
end
section
namespace RV
open PySem L2
def tabs (A : Ad) : WS := [.tab (A.t "_law_read_right") "_law_read_right.<locals>.<lambda>"]
/-! _law_is_name -/
noncomputable def B_is_name_k04 (A : Ad) : RV.Env → MS := sSeq (sAsg 1 (eC (.str "abcdefghijklmnopqrstuvwxyz0123456789"))) (sRet (eAnd (eChain ltD ltD (eC (.int 0)) (eCall lenD (aCons (eVar 0) (aNil))) (eC (.int 9))) (eAnd (eOp (inSD false) (eOp ixD (eVar 0) (eC (.int 0))) (eSl slD (eVar 1) (oNone) (oSome (eC (.int 26))))) (eCall allD (aCons (eLc .still (iStrD (eVar 0)) (tName 2) (bYes) (eOp (inSD false) (eVar 2) (eVar 1)) [2]) (aNil))))))
theorem E_is_name_k04 (A : Ad) : ∃ g : List D → M, g = fnD 3 (B_is_name_k04 A) := ⟨_, rfl⟩
noncomputable def G_is_name_k04 (A : Ad) : List D → M := (E_is_name_k04 A).choose
theorem D_is_name_k04 (A : Ad) : G_is_name_k04 A = fnD 3 (B_is_name_k04 A) := (E_is_name_k04 A).choose_spec
/-! _law_taken -/
noncomputable def C_taken_k13_0 (A : Ad) : RV.Env → M := eFn 1 (G_is_name_k04 A) [] (aCons (eVar 3) (aNil))
noncomputable def C_taken_k13_1 (A : Ad) : RV.Env → M := eOp ixD (eVar 4) (eC (.int 0))
noncomputable def C_taken_k13_2 (A : Ad) : RV.Env → M := eOp ixD (eVar 4) (eC (.int 0))
noncomputable def C_taken_k13_3 (A : Ad) : RV.Env → M := eOp ixD (eVar 4) (eC (.int 0))
noncomputable def B_taken_k13 (A : Ad) : RV.Env → MS := sSeq (sIf (bOr (bBl (eOp (inD true) (eCall lenD (aCons (eVar 0) (aNil))) (eSeq .lst (aCons (eC (.int 3)) (aCons (eC (.int 4)) (aNil)))))) (bNot (bTru truD (eCall allD (aCons (eLc .still (iSeq (eSl slLD (eVar 0) (oSome (eC (.int 1))) (oNone))) (tName 3) (bYes) (C_taken_k13_0 A) [3]) (aNil)))))) (sRet (eC (.bl false))) (sNil)) (sSeq (sIf (bBl (eOp eqD (eOp ixD (eVar 0) (eC (.int 0))) (eC (.str "pipe")))) (sSeq (sIf (bOr (bBl (eOp eqD (eCall lenD (aCons (eVar 0) (aNil))) (eC (.int 3)))) (bOr (bBl (eOp neD (eVar 2) (eSeq .lst (aNil)))) (bOr (bBl (eOp eqD (eOp ixD (eVar 0) (eC (.int 2))) (eOp ixD (eVar 0) (eC (.int 3))))) (bBl (eOp (inD false) (eOp ixD (eVar 0) (eC (.int 1))) (eLc .still (iSeq (eVar 1)) (tName 4) (bYes) (C_taken_k13_1 A) [4])))))) (sRet (eC (.bl false))) (sNil)) (sSeq (sAppend (eVar 1) (eSeq .tup (aCons (eOp ixD (eVar 0) (eC (.int 1))) (aCons (eOp ixD (eVar 0) (eC (.int 2))) (aCons (eOp ixD (eVar 0) (eC (.int 3))) (aNil)))))) (sRet (eC (.bl true))))) (sNil)) (sSeq (sIf (bOr (bBl (eOp neD (eOp ixD (eVar 0) (eC (.int 0))) (eC (.str "meter")))) (bOr (bAnd (bBl (eOp eqD (eCall lenD (aCons (eVar 0) (aNil))) (eC (.int 4)))) (bBl (eOp neD (eOp ixD (eVar 0) (eC (.int 3))) (eC (.str "sealed"))))) (bBl (eOp (inD false) (eOp ixD (eVar 0) (eC (.int 1))) (eLc .still (iSeq (eVar 2)) (tName 4) (bYes) (C_taken_k13_2 A) [4]))))) (sRet (eC (.bl false))) (sNil)) (sSeq (sAppend (eVar 2) (eSeq .tup (aCons (eOp ixD (eVar 0) (eC (.int 1))) (aCons (eOp ixD (eVar 0) (eC (.int 2))) (aCons (eOp eqD (eCall lenD (aCons (eVar 0) (aNil))) (eC (.int 4))) (aNil)))))) (sRet (eOp (inD false) (eOp ixD (eVar 0) (eC (.int 2))) (eLc .still (iSeq (eVar 1)) (tName 4) (bYes) (C_taken_k13_3 A) [4]))))))
theorem E_taken_k13 (A : Ad) : ∃ g : List D → M, g = fnD 5 (B_taken_k13 A) := ⟨_, rfl⟩
noncomputable def G_taken_k13 (A : Ad) : List D → M := (E_taken_k13 A).choose
theorem D_taken_k13 (A : Ad) : G_taken_k13 A = fnD 5 (B_taken_k13 A) := (E_taken_k13 A).choose_spec
/-! _law_net_in -/
noncomputable def L_net_in_k13_0 (A : Ad) : RV.Env → MS := sIf (bNot (bTru truD (eFn 3 (G_taken_k13 A) [] (aCons (eOpT splitD (eVar 3) (eC (.str " "))) (aCons (eVar 1) (aCons (eVar 2) (aNil))))))) (sRet (eC .non)) (sNil)
noncomputable def B_net_in_k13 (A : Ad) : RV.Env → MS := sSeq (sPar2 1 2 (aCons (eNew (aNil)) (aCons (eNew (aNil)) (aNil)))) (sSeq (sFor (iSeq (eOpT splitD (eVar 0) (eC (.str "\n")))) (tName 3) (L_net_in_k13_0 A)) (sRet (eIf (bAnd (bChain ltD ltD (eC (.int 0)) (eCall lenD (aCons (eVar 1) (aNil))) (eC (.int 13))) (bBl (eOp ltD (eCall lenD (aCons (eVar 2) (aNil))) (eC (.int 13))))) (eSeq .lst (aCons (eVar 1) (aCons (eVar 2) (aNil)))) (eC .non))))
theorem E_net_in_k13 (A : Ad) : ∃ g : List D → M, g = fnF 4 (B_net_in_k13 A) := ⟨_, rfl⟩
noncomputable def G_net_in_k13 (A : Ad) : List D → M := (E_net_in_k13 A).choose
theorem D_net_in_k13 (A : Ad) : G_net_in_k13 A = fnF 4 (B_net_in_k13 A) := (E_net_in_k13 A).choose_spec
/-! Pipe.name -/
noncomputable def B_Pipe_name (A : Ad) : RV.Env → MS := sRet (eOp ixD (eUn (fldD (A.c "Pipe") "kept") (eVar 0)) (eC (.int 0)))
theorem E_Pipe_name (A : Ad) : ∃ g : List D → M, g = fnD 1 (B_Pipe_name A) := ⟨_, rfl⟩
noncomputable def G_Pipe_name (A : Ad) : List D → M := (E_Pipe_name A).choose
theorem D_Pipe_name (A : Ad) : G_Pipe_name A = fnD 1 (B_Pipe_name A) := (E_Pipe_name A).choose_spec
/-! Pipe.start -/
noncomputable def B_Pipe_start (A : Ad) : RV.Env → MS := sRet (eOp ixD (eUn (fldD (A.c "Pipe") "kept") (eVar 0)) (eC (.int 1)))
theorem E_Pipe_start (A : Ad) : ∃ g : List D → M, g = fnD 1 (B_Pipe_start A) := ⟨_, rfl⟩
noncomputable def G_Pipe_start (A : Ad) : List D → M := (E_Pipe_start A).choose
theorem D_Pipe_start (A : Ad) : G_Pipe_start A = fnD 1 (B_Pipe_start A) := (E_Pipe_start A).choose_spec
/-! Pipe.end -/
noncomputable def B_Pipe_end (A : Ad) : RV.Env → MS := sRet (eOp ixD (eUn (fldD (A.c "Pipe") "kept") (eVar 0)) (eC (.int 2)))
theorem E_Pipe_end (A : Ad) : ∃ g : List D → M, g = fnD 1 (B_Pipe_end A) := ⟨_, rfl⟩
noncomputable def G_Pipe_end (A : Ad) : List D → M := (E_Pipe_end A).choose
theorem D_Pipe_end (A : Ad) : G_Pipe_end A = fnD 1 (B_Pipe_end A) := (E_Pipe_end A).choose_spec
/-! Meter.name -/
noncomputable def B_Meter_name (A : Ad) : RV.Env → MS := sRet (eOp ixD (eUn (fldD (A.c "Meter") "kept") (eVar 0)) (eC (.int 0)))
theorem E_Meter_name (A : Ad) : ∃ g : List D → M, g = fnD 1 (B_Meter_name A) := ⟨_, rfl⟩
noncomputable def G_Meter_name (A : Ad) : List D → M := (E_Meter_name A).choose
theorem D_Meter_name (A : Ad) : G_Meter_name A = fnD 1 (B_Meter_name A) := (E_Meter_name A).choose_spec
/-! Meter.at -/
noncomputable def B_Meter_at (A : Ad) : RV.Env → MS := sRet (eOp ixD (eUn (fldD (A.c "Meter") "kept") (eVar 0)) (eC (.int 1)))
theorem E_Meter_at (A : Ad) : ∃ g : List D → M, g = fnD 1 (B_Meter_at A) := ⟨_, rfl⟩
noncomputable def G_Meter_at (A : Ad) : List D → M := (E_Meter_at A).choose
theorem D_Meter_at (A : Ad) : G_Meter_at A = fnD 1 (B_Meter_at A) := (E_Meter_at A).choose_spec
/-! Meter.sealed -/
noncomputable def B_Meter_sealed (A : Ad) : RV.Env → MS := sRet (eOp ixD (eUn (fldD (A.c "Meter") "kept") (eVar 0)) (eC (.int 2)))
theorem E_Meter_sealed (A : Ad) : ∃ g : List D → M, g = fnD 1 (B_Meter_sealed A) := ⟨_, rfl⟩
noncomputable def G_Meter_sealed (A : Ad) : List D → M := (E_Meter_sealed A).choose
theorem D_Meter_sealed (A : Ad) : G_Meter_sealed A = fnD 1 (B_Meter_sealed A) := (E_Meter_sealed A).choose_spec
/-! line_of -/
noncomputable def B_line_of (A : Ad) : RV.Env → MS := sSeq (sIf (bTru truD (eCall (isiD (own A) (tab A)) (aCons (eVar 0) (aCons (eC (.adr (A.c "Pipe"))) (aNil))))) (sRet (eJoin (jCons (eC (.str "pipe ")) (jCons (eUn fmtD (eProp (A.c "Pipe") (G_Pipe_name A) (eVar 0))) (jCons (eC (.str " ")) (jCons (eUn fmtD (eProp (A.c "Pipe") (G_Pipe_start A) (eVar 0))) (jCons (eC (.str " ")) (jCons (eUn fmtD (eProp (A.c "Pipe") (G_Pipe_end A) (eVar 0))) (jNil))))))))) (sNil)) (sRet (eIf (bTru truD (eProp (A.c "Meter") (G_Meter_sealed A) (eVar 0))) (eJoin (jCons (eC (.str "meter ")) (jCons (eUn fmtD (eProp (A.c "Meter") (G_Meter_name A) (eVar 0))) (jCons (eC (.str " ")) (jCons (eUn fmtD (eProp (A.c "Meter") (G_Meter_at A) (eVar 0))) (jCons (eC (.str " sealed")) (jNil))))))) (eJoin (jCons (eC (.str "meter ")) (jCons (eUn fmtD (eProp (A.c "Meter") (G_Meter_name A) (eVar 0))) (jCons (eC (.str " ")) (jCons (eUn fmtD (eProp (A.c "Meter") (G_Meter_at A) (eVar 0))) (jNil))))))))
theorem E_line_of (A : Ad) : ∃ g : List D → M, g = fnD 1 (B_line_of A) := ⟨_, rfl⟩
noncomputable def G_line_of (A : Ad) : List D → M := (E_line_of A).choose
theorem D_line_of (A : Ad) : G_line_of A = fnD 1 (B_line_of A) := (E_line_of A).choose_spec
/-! Net.__str__ -/
noncomputable def B_Net_str (A : Ad) : RV.Env → MS := sRet (eOpT joinD (eC (.str "\n")) (eLc .still (iTupD (eSeq .tup (aStar (eUn (fldD (A.c "Net") "joined") (eVar 0)) (aStar (eUn (fldD (A.c "Net") "fitted") (eVar 0)) (aNil))))) (tName 1) (bYes) (eFn 1 (G_line_of A) [] (aCons (eVar 1) (aNil))) [1]))
theorem E_Net_str (A : Ad) : ∃ g : List D → M, g = fnD 2 (B_Net_str A) := ⟨_, rfl⟩
noncomputable def G_Net_str (A : Ad) : List D → M := (E_Net_str A).choose
theorem D_Net_str (A : Ad) : G_Net_str A = fnD 2 (B_Net_str A) := (E_Net_str A).choose_spec
/-! _law_seen -/
noncomputable def B_seen_k10 (A : Ad) : RV.Env → MS := sSeq (sIf (bTru truD (eCall (isiD (own A) (tab A)) (aCons (eVar 0) (aCons (eC (.adr (A.c "Pipe"))) (aNil))))) (sRet (eOp addD (eOp addD (eOp addD (eOp addD (eOp addD (eC (.str "pipe ")) (eProp (A.c "Pipe") (G_Pipe_name A) (eVar 0))) (eC (.str " "))) (eProp (A.c "Pipe") (G_Pipe_start A) (eVar 0))) (eC (.str " "))) (eProp (A.c "Pipe") (G_Pipe_end A) (eVar 0)))) (sNil)) (sSeq (sIf (bTru truD (eCall (isiD (own A) (tab A)) (aCons (eVar 0) (aCons (eC (.adr (A.c "Meter"))) (aNil))))) (sRet (eOp addD (eOp addD (eOp addD (eOp addD (eOp addD (eC (.str "meter ")) (eProp (A.c "Meter") (G_Meter_name A) (eVar 0))) (eC (.str " "))) (eProp (A.c "Meter") (G_Meter_at A) (eVar 0))) (eC (.str " "))) (eCall strFD (aCons (eProp (A.c "Meter") (G_Meter_sealed A) (eVar 0)) (aNil))))) (sNil)) (sSeq (sIf (bTru truD (eCall (isiD (own A) (tab A)) (aCons (eVar 0) (aCons (eC (.adr (A.c "Net"))) (aNil))))) (sRet (eOp addD (eC (.str "net ")) (eCallM (strOwnD (A.c "Net") (G_Net_str A)) (aCons (eVar 0) (aNil))))) (sNil)) (sRet (eIf (bTru truD (eCall (isiD (own A) (tab A)) (aCons (eVar 0) (aCons (eC (.adr (A.c "Sum"))) (aNil))))) (eOp addD (eC (.str "sum ")) (eNever)) (eCall reprD2 (aCons (eVar 0) (aNil)))))))
theorem E_seen_k10 (A : Ad) : ∃ g : List D → M, g = fnD 1 (B_seen_k10 A) := ⟨_, rfl⟩
noncomputable def G_seen_k10 (A : Ad) : List D → M := (E_seen_k10 A).choose
theorem D_seen_k10 (A : Ad) : G_seen_k10 A = fnD 1 (B_seen_k10 A) := (E_seen_k10 A).choose_spec
/-! _law_seen -/
noncomputable def B_seen_k10_h (A : Ad) : RV.Env → MS := sSeq (sIf (bTru truD (eCall (isiD (own A) (tab A)) (aCons (eVar 0) (aCons (eC (.adr (A.c "Pipe"))) (aNil))))) (sRet (eOp addD (eOp addD (eOp addD (eOp addD (eOp addD (eC (.str "pipe ")) (eNever)) (eC (.str " "))) (eNever)) (eC (.str " "))) (eNever))) (sNil)) (sSeq (sIf (bTru truD (eCall (isiD (own A) (tab A)) (aCons (eVar 0) (aCons (eC (.adr (A.c "Meter"))) (aNil))))) (sRet (eOp addD (eOp addD (eOp addD (eOp addD (eOp addD (eC (.str "meter ")) (eNever)) (eC (.str " "))) (eNever)) (eC (.str " "))) (eCall strFD (aCons (eNever) (aNil))))) (sNil)) (sSeq (sIf (bTru truD (eCall (isiD (own A) (tab A)) (aCons (eVar 0) (aCons (eC (.adr (A.c "Net"))) (aNil))))) (sRet (eOp addD (eC (.str "net ")) (eNever))) (sNil)) (sRet (eIf (bTru truD (eCall (isiD (own A) (tab A)) (aCons (eVar 0) (aCons (eC (.adr (A.c "Sum"))) (aNil))))) (eOp addD (eC (.str "sum ")) (eNever)) (eCall reprD2 (aCons (eVar 0) (aNil)))))))
theorem E_seen_k10_h (A : Ad) : ∃ g : List D → M, g = fnD 1 (B_seen_k10_h A) := ⟨_, rfl⟩
noncomputable def G_seen_k10_h (A : Ad) : List D → M := (E_seen_k10_h A).choose
theorem D_seen_k10_h (A : Ad) : G_seen_k10_h A = fnD 1 (B_seen_k10_h A) := (E_seen_k10_h A).choose_spec
/-! _law_said -/
noncomputable def B_said_k10 (A : Ad) (a C d : Addr) : RV.Env → MS := sWish (C ∈ errL A errNames) (sSeq (sAsg 1 (eSeq .lst (aCons (eCall (isXD a C d (tbX A errAll errAnc C)) (aCons (eVar 0) (aCons (eC (.adr (A.c "InvalidPipes"))) (aNil)))) (aCons (eCall (isXD a C d (tbX A errAll errAnc C)) (aCons (eVar 0) (aCons (eC (.adr (A.c "InvalidMeters"))) (aNil)))) (aCons (eCall (isXD a C d (tbX A errAll errAnc C)) (aCons (eVar 0) (aCons (eC (.adr (A.c "InvalidName"))) (aNil)))) (aNil)))))) (sSeq (sAsg 1 (eOp addD (eVar 1) (eSeq .lst (aCons (eCall (isXD a C d (tbX A errAll errAnc C)) (aCons (eVar 0) (aCons (eC (.adr (A.c "InvalidEnd"))) (aNil)))) (aCons (eCall (isXD a C d (tbX A errAll errAnc C)) (aCons (eVar 0) (aCons (eC (.adr (A.c "InvalidFlag"))) (aNil)))) (aCons (eCall (isXD a C d (tbX A errAll errAnc C)) (aCons (eVar 0) (aCons (eC (.adr (A.c "InvalidText"))) (aNil)))) (aNil))))))) (sSeq (sAsg 1 (eOp addD (eVar 1) (eSeq .lst (aCons (eCall (isXD a C d (tbX A errAll errAnc C)) (aCons (eVar 0) (aCons (eC (.adr (A.c "NotAMeter"))) (aNil)))) (aCons (eCall (isXD a C d (tbX A errAll errAnc C)) (aCons (eVar 0) (aCons (eC (.adr (A.c "UnknownName"))) (aNil)))) (aNil)))))) (sSeq (sIf (bOr (bBl (eOp neD (eLm countF (eVar 1) (eC (.bl true))) (eC (.int 1)))) (bOr (bBl (eOp neD (eCall (isXD a C d (tbX A errAll errAnc C)) (aCons (eVar 0) (aCons (eC (.adr (A.c "BadName"))) (aNil)))) (eOp ixD (eVar 1) (eC (.int 7))))) (bBl (eOp eqD (eCall (isXD a C d (tbX A errAll errAnc C)) (aCons (eVar 0) (aCons (eC (.adr (A.c "BadValue"))) (aNil)))) (eOp ixD (eVar 1) (eC (.int 7))))))) (sRet (eSeq .lst (aCons (eC (.str "another error")) (aNil)))) (sNil)) (sSeq (sAsg 2 (eLm indexF (eVar 1) (eC (.bl true)))) (sRet (eSeq .lst (aCons (eVar 2) (aCons (eIf (bBl (eOp ltD (eVar 2) (eC (.int 2)))) (eCall reprD2 (aCons (eXg a C d "index" (eVar 0)) (aNil))) (eFn 1 (G_seen_k10_h A) [] (aCons (eXg a C d "given" (eVar 0)) (aNil)))) (aNil))))))))))
theorem E_said_k10 (A : Ad) : ∃ g : Addr → Addr → Addr → List D → M, g = fun a C d => fnD 3 (B_said_k10 A a C d) := ⟨_, rfl⟩
noncomputable def G_said_k10 (A : Ad) : Addr → Addr → Addr → List D → M := (E_said_k10 A).choose
theorem D_said_k10 (A : Ad) : G_said_k10 A = fun a C d => fnD 3 (B_said_k10 A a C d) := (E_said_k10 A).choose_spec
/-! _law_caught -/
noncomputable def T_caught_k10 (A : Ad) : RV.Env → M := eSeq .lst (aCons (eC (.str "told")) (aCons (eFn 1 (G_seen_k10 A) [] (aCons (eVar 1) (aNil))) (aNil)))
noncomputable def S_caught_k10 (A : Ad) (a C d : Addr) : RV.Env → MS := sRet (eFnE 1 (G_said_k10 A a C d) (aCons (eVar 2) (aNil)))
/-! is_name -/
noncomputable def B_is_name (A : Ad) : RV.Env → MS := sSeq (sIf (bOr (bNot (bTru truD (eCall (isiD (own A) (tab A)) (aCons (eVar 0) (aCons (eC (.ty "str")) (aNil)))))) (bOr (bNot (bChain leD leD (eC (.int 1)) (eCall lenD (aCons (eVar 0) (aNil))) (eC (.int 8)))) (bBl (eOp (inSD true) (eOp ixD (eVar 0) (eC (.int 0))) (eC (.str "abcdefghijklmnopqrstuvwxyz")))))) (sRet (eC (.bl false))) (sNil)) (sRet (eCall allD (aCons (eLc .still (iStrD (eVar 0)) (tName 1) (bYes) (eOr (eOp (inSD false) (eVar 1) (eC (.str "abcdefghijklmnopqrstuvwxyz"))) (eOp (inSD false) (eVar 1) (eC (.str "0123456789")))) [1]) (aNil))))
theorem E_is_name (A : Ad) : ∃ g : List D → M, g = fnD 2 (B_is_name A) := ⟨_, rfl⟩
noncomputable def G_is_name (A : Ad) : List D → M := (E_is_name A).choose
theorem D_is_name (A : Ad) : G_is_name A = fnD 2 (B_is_name A) := (E_is_name A).choose_spec
/-! check_name -/
noncomputable def B_check_name (A : Ad) : RV.Env → MS := sIf (bNot (bTru truD (eFn 1 (G_is_name A) [] (aCons (eVar 0) (aNil))))) (sRaise (A.c "InvalidName") "given" (eVar 0)) (sNil)
theorem E_check_name (A : Ad) : ∃ g : List D → M, g = fnD 1 (B_check_name A) := ⟨_, rfl⟩
noncomputable def G_check_name (A : Ad) : List D → M := (E_check_name A).choose
theorem D_check_name (A : Ad) : G_check_name A = fnD 1 (B_check_name A) := (E_check_name A).choose_spec
/-! Pipe.__init__ -/
noncomputable def B_Pipe_init (A : Ad) : RV.Env → MS := sSeq (sDrop (eFn 1 (G_check_name A) [] (aCons (eVar 1) (aNil)))) (sSeq (sDrop (eFn 1 (G_check_name A) [] (aCons (eVar 2) (aNil)))) (sSeq (sDrop (eFn 1 (G_check_name A) [] (aCons (eVar 3) (aNil)))) (sSeq (sIf (bBl (eOp eqD (eVar 3) (eVar 2))) (sRaise (A.c "InvalidEnd") "given" (eVar 3)) (sNil)) (sFldD (A.c "Pipe") "kept" (eVar 0) (eSeq .tup (aCons (eVar 1) (aCons (eVar 2) (aCons (eVar 3) (aNil)))))))))
theorem E_Pipe_init (A : Ad) : ∃ g : List D → M, g = fnD 4 (B_Pipe_init A) := ⟨_, rfl⟩
noncomputable def G_Pipe_init (A : Ad) : List D → M := (E_Pipe_init A).choose
theorem D_Pipe_init (A : Ad) : G_Pipe_init A = fnD 4 (B_Pipe_init A) := (E_Pipe_init A).choose_spec
/-! Meter.__init__ -/
noncomputable def B_Meter_init (A : Ad) : RV.Env → MS := sSeq (sDrop (eFn 1 (G_check_name A) [] (aCons (eVar 1) (aNil)))) (sSeq (sDrop (eFn 1 (G_check_name A) [] (aCons (eVar 2) (aNil)))) (sSeq (sIf (bNot (bTru truD (eCall (isiD (own A) (tab A)) (aCons (eVar 3) (aCons (eC (.ty "bool")) (aNil)))))) (sRaise (A.c "InvalidFlag") "given" (eVar 3)) (sNil)) (sFldD (A.c "Meter") "kept" (eVar 0) (eSeq .tup (aCons (eVar 1) (aCons (eVar 2) (aCons (eVar 3) (aNil))))))))
theorem E_Meter_init (A : Ad) : ∃ g : List D → M, g = fnD 4 (B_Meter_init A) := ⟨_, rfl⟩
noncomputable def G_Meter_init (A : Ad) : List D → M := (E_Meter_init A).choose
theorem D_Meter_init (A : Ad) : G_Meter_init A = fnD 4 (B_Meter_init A) := (E_Meter_init A).choose_spec
/-! item_of -/
noncomputable def B_item_of (A : Ad) : RV.Env → MS := sSeq (sAsg 1 (eOpT splitD (eVar 0) (eC (.str " ")))) (sSeq (sTry1 (errL A ["InvalidPipes", "InvalidMeters", "InvalidName", "InvalidEnd"]) (sSeq (sIf (bAnd (bBl (eOp eqD (eCall lenD (aCons (eVar 1) (aNil))) (eC (.int 4)))) (bBl (eOp eqD (eOp ixD (eVar 1) (eC (.int 0))) (eC (.str "pipe"))))) (sRet (eMake .still (A.c "Pipe") 4 (G_Pipe_init A) [] (aCons (eOp ixD (eVar 1) (eC (.int 1))) (aCons (eOp ixD (eVar 1) (eC (.int 2))) (aCons (eOp ixD (eVar 1) (eC (.int 3))) (aNil)))))) (sNil)) (sIf (bAnd (bBl (eOp (inD false) (eCall lenD (aCons (eVar 1) (aNil))) (eSeq .tup (aCons (eC (.int 3)) (aCons (eC (.int 4)) (aNil)))))) (bBl (eOp eqD (eOp ixD (eVar 1) (eC (.int 0))) (eC (.str "meter"))))) (sRet (eMakeK .still (A.c "Meter") 4 2 1 (G_Meter_init A) (perm [0]) (aCons (eOp ixD (eVar 1) (eC (.int 1))) (aCons (eOp ixD (eVar 1) (eC (.int 2))) (aNil))) (aCons (eOp eqD (eCall lenD (aCons (eVar 1) (aNil))) (eC (.int 4))) (aNil)))) (sNil))) (sRet (eC .non))) (sRet (eC .non)))
theorem E_item_of (A : Ad) : ∃ g : List D → M, g = fnD 2 (B_item_of A) := ⟨_, rfl⟩
noncomputable def G_item_of (A : Ad) : List D → M := (E_item_of A).choose
theorem D_item_of (A : Ad) : G_item_of A = fnD 2 (B_item_of A) := (E_item_of A).choose_spec
/-! check_pipes -/
noncomputable def L_check_pipes_0 (A : Ad) : RV.Env → MS := sSeq (sIf (bOr (bNot (bTru truD (eCall (isiD (own A) (tab A)) (aCons (eVar 3) (aCons (eC (.adr (A.c "Pipe"))) (aNil)))))) (bOr (bBl (eOp (inD false) (eProp (A.c "Pipe") (G_Pipe_name A) (eVar 3)) (eVar 1))) (bBl (eOp geD (eVar 2) (eC (.int 12)))))) (sRaise (A.c "InvalidPipes") "index" (eVar 2)) (sNil)) (sAppend (eVar 1) (eProp (A.c "Pipe") (G_Pipe_name A) (eVar 3)))
noncomputable def B_check_pipes (A : Ad) : RV.Env → MS := sSeq (sIf (bOr (bNot (bTru truD (eCall (isiD (own A) (tab A)) (aCons (eVar 0) (aCons (eC (.ty "tuple")) (aNil)))))) (bBl (eOp eqD (eCall lenD (aCons (eVar 0) (aNil))) (eC (.int 0))))) (sRaise (A.c "InvalidPipes") "index" (eC .non)) (sNil)) (sSeq (sAsg 1 (eNew (aNil))) (sFor (iEnumT (aCons (eVar 0) (aNil))) (tTupD 2 (tsCons (tName 2) (tsCons (tName 3) (tsNil)))) (L_check_pipes_0 A)))
theorem E_check_pipes (A : Ad) : ∃ g : List D → M, g = fnD 4 (B_check_pipes A) := ⟨_, rfl⟩
noncomputable def G_check_pipes (A : Ad) : List D → M := (E_check_pipes A).choose
theorem D_check_pipes (A : Ad) : G_check_pipes A = fnD 4 (B_check_pipes A) := (E_check_pipes A).choose_spec
/-! check_meters -/
noncomputable def C_check_meters_0 (A : Ad) : RV.Env → M := eProp (A.c "Pipe") (G_Pipe_name A) (eVar 6)
noncomputable def L_check_meters_0 (A : Ad) : RV.Env → MS := sSeq (sIf (bOr (bNot (bTru truD (eCall (isiD (own A) (tab A)) (aCons (eVar 5) (aCons (eC (.adr (A.c "Meter"))) (aNil)))))) (bOr (bBl (eOp (inD false) (eProp (A.c "Meter") (G_Meter_name A) (eVar 5)) (eVar 3))) (bOr (bBl (eOp (inD true) (eProp (A.c "Meter") (G_Meter_at A) (eVar 5)) (eVar 2))) (bBl (eOp geD (eVar 4) (eC (.int 12))))))) (sRaise (A.c "InvalidMeters") "index" (eVar 4)) (sNil)) (sAppend (eVar 3) (eProp (A.c "Meter") (G_Meter_name A) (eVar 5)))
noncomputable def B_check_meters (A : Ad) : RV.Env → MS := sSeq (sIf (bNot (bTru truD (eCall (isiD (own A) (tab A)) (aCons (eVar 0) (aCons (eC (.ty "tuple")) (aNil)))))) (sRaise (A.c "InvalidMeters") "index" (eC .non)) (sNil)) (sSeq (sAsg 2 (eLc .still (iTupD (eVar 1)) (tName 6) (bYes) (C_check_meters_0 A) [6])) (sSeq (sAsg 3 (eNew (aNil))) (sFor (iEnumT (aCons (eVar 0) (aNil))) (tTupD 2 (tsCons (tName 4) (tsCons (tName 5) (tsNil)))) (L_check_meters_0 A))))
theorem E_check_meters (A : Ad) : ∃ g : List D → M, g = fnD 7 (B_check_meters A) := ⟨_, rfl⟩
noncomputable def G_check_meters (A : Ad) : List D → M := (E_check_meters A).choose
theorem D_check_meters (A : Ad) : G_check_meters A = fnD 7 (B_check_meters A) := (E_check_meters A).choose_spec
/-! Net.__init__ -/
noncomputable def B_Net_init (A : Ad) : RV.Env → MS := sSeq (sDrop (eFn 1 (G_check_pipes A) [] (aCons (eVar 1) (aNil)))) (sSeq (sDrop (eFn 2 (G_check_meters A) [] (aCons (eVar 2) (aCons (eVar 1) (aNil))))) (sSeq (sFldD (A.c "Net") "joined" (eVar 0) (eVar 1)) (sFldD (A.c "Net") "fitted" (eVar 0) (eVar 2))))
theorem E_Net_init (A : Ad) : ∃ g : List D → M, g = fnD 3 (B_Net_init A) := ⟨_, rfl⟩
noncomputable def G_Net_init (A : Ad) : List D → M := (E_Net_init A).choose
theorem D_Net_init (A : Ad) : G_Net_init A = fnD 3 (B_Net_init A) := (E_Net_init A).choose_spec
/-! Net.read -/
noncomputable def B_Net_read (A : Ad) : RV.Env → MS := sSeq (sIf (bNot (bTru truD (eCall (isiD (own A) (tab A)) (aCons (eVar 1) (aCons (eC (.ty "str")) (aNil)))))) (sRaise (A.c "InvalidText") "given" (eVar 1)) (sNil)) (sSeq (sAsg 2 (eLc .still (iSeq (eOpT splitD (eVar 1) (eC (.str "\n")))) (tName 6) (bYes) (eFn 1 (G_item_of A) [] (aCons (eVar 6) (aNil))) [6])) (sSeq (sAsg 3 (eCall tupleD (aCons (eLc .still (iSeq (eVar 2)) (tName 7) (bTru truD (eCall (isiD (own A) (tab A)) (aCons (eVar 7) (aCons (eC (.adr (A.c "Pipe"))) (aNil))))) (eVar 7) [7]) (aNil)))) (sSeq (sAsg 4 (eCall tupleD (aCons (eLc .still (iSeq (eVar 2)) (tName 7) (bTru truD (eCall (isiD (own A) (tab A)) (aCons (eVar 7) (aCons (eC (.adr (A.c "Meter"))) (aNil))))) (eVar 7) [7]) (aNil)))) (sSeq (sTry2 (errL A ["InvalidPipes", "InvalidMeters", "InvalidName", "InvalidEnd"]) (sAsg 5 (eMakeL 0 .still (A.c "Net") 3 (G_Net_init A) [] (aCons (eVar 3) (aCons (eVar 4) (aNil))))) (A.c "InvalidText") "given" (eVar 1)) (sSeq (sIf (bBl (eOp neD (eCallM (strOwnD (A.c "Net") (G_Net_str A)) (aCons (eVar 5) (aNil))) (eVar 1))) (sRaise (A.c "InvalidText") "given" (eVar 1)) (sNil)) (sRet (eVar 5)))))))
theorem E_Net_read (A : Ad) : ∃ g : List D → M, g = fnD 8 (B_Net_read A) := ⟨_, rfl⟩
noncomputable def G_Net_read (A : Ad) : List D → M := (E_Net_read A).choose
theorem D_Net_read (A : Ad) : G_Net_read A = fnD 8 (B_Net_read A) := (E_Net_read A).choose_spec
/-! Net.pipes -/
noncomputable def B_Net_pipes (A : Ad) : RV.Env → MS := sRet (eUn (fldD (A.c "Net") "joined") (eVar 0))
theorem E_Net_pipes (A : Ad) : ∃ g : List D → M, g = fnD 1 (B_Net_pipes A) := ⟨_, rfl⟩
noncomputable def G_Net_pipes (A : Ad) : List D → M := (E_Net_pipes A).choose
theorem D_Net_pipes (A : Ad) : G_Net_pipes A = fnD 1 (B_Net_pipes A) := (E_Net_pipes A).choose_spec
/-! Net.meters -/
noncomputable def B_Net_meters (A : Ad) : RV.Env → MS := sRet (eUn (fldD (A.c "Net") "fitted") (eVar 0))
theorem E_Net_meters (A : Ad) : ∃ g : List D → M, g = fnD 1 (B_Net_meters A) := ⟨_, rfl⟩
noncomputable def G_Net_meters (A : Ad) : List D → M := (E_Net_meters A).choose
theorem D_Net_meters (A : Ad) : G_Net_meters A = fnD 1 (B_Net_meters A) := (E_Net_meters A).choose_spec
/-! _law_net_text -/
noncomputable def B_net_text_k11 (A : Ad) : RV.Env → MS := sSeq (sAsg 2 (eLc .still (iSeq (eVar 0)) (tName 3) (bYes) (eOp addD (eC (.str "pipe ")) (eOpT joinD (eC (.str " ")) (eVar 3))) [3])) (sSeq (sAsg 2 (eOp addD (eVar 2) (eLc .still (iSeq (eVar 1)) (tName 3) (bYes) (eOp addD (eOp addD (eOp addD (eOp addD (eC (.str "meter ")) (eOp ixD (eVar 3) (eC (.int 0)))) (eC (.str " "))) (eOp ixD (eVar 3) (eC (.int 1)))) (eIf (bTru truD (eOp ixD (eVar 3) (eC (.int 2)))) (eC (.str " sealed")) (eC (.str "")))) [3]))) (sRet (eOpT joinD (eC (.str "\n")) (eVar 2))))
theorem E_net_text_k11 (A : Ad) : ∃ g : List D → M, g = fnD 4 (B_net_text_k11 A) := ⟨_, rfl⟩
noncomputable def G_net_text_k11 (A : Ad) : List D → M := (E_net_text_k11 A).choose
theorem D_net_text_k11 (A : Ad) : G_net_text_k11 A = fnD 4 (B_net_text_k11 A) := (E_net_text_k11 A).choose_spec
/-! Net.__len__ -/
noncomputable def B_Net_len (A : Ad) : RV.Env → MS := sRet (eCall lenD (aCons (eUn (fldD (A.c "Net") "joined") (eVar 0)) (aNil)))
theorem E_Net_len (A : Ad) : ∃ g : List D → M, g = fnD 1 (B_Net_len A) := ⟨_, rfl⟩
noncomputable def G_Net_len (A : Ad) : List D → M := (E_Net_len A).choose
theorem D_Net_len (A : Ad) : G_Net_len A = fnD 1 (B_Net_len A) := (E_Net_len A).choose_spec
/-! _law_is -/
noncomputable def B_is_k11 (A : Ad) : RV.Env → MS := sSeq (sIf (bOr (bNot (bTru truD (eCall (isiD (own A) (tab A)) (aCons (eVar 0) (aCons (eC (.adr (A.c "Net"))) (aNil)))))) (bOr (bNot (bTru truD (eCall (isiD (own A) (tab A)) (aCons (eProp (A.c "Net") (G_Net_pipes A) (eVar 0)) (aCons (eC (.ty "tuple")) (aNil)))))) (bNot (bTru truD (eCall (isiD (own A) (tab A)) (aCons (eProp (A.c "Net") (G_Net_meters A) (eVar 0)) (aCons (eC (.ty "tuple")) (aNil)))))))) (sRet (eC (.bl false))) (sNil)) (sSeq (sAsg 3 (eOp addD (eLc .still (iTupD (eProp (A.c "Net") (G_Net_pipes A) (eVar 0))) (tName 6) (bYes) (eCall (isiD (own A) (tab A)) (aCons (eVar 6) (aCons (eC (.adr (A.c "Pipe"))) (aNil)))) [6]) (eLc .still (iTupD (eProp (A.c "Net") (G_Net_meters A) (eVar 0))) (tName 6) (bYes) (eCall (isiD (own A) (tab A)) (aCons (eVar 6) (aCons (eC (.adr (A.c "Meter"))) (aNil)))) [6]))) (sSeq (sIf (bNot (bTru truD (eCall allD (aCons (eVar 3) (aNil))))) (sRet (eC (.bl false))) (sNil)) (sSeq (sAsg 4 (eLc .still (iTupD (eProp (A.c "Net") (G_Net_pipes A) (eVar 0))) (tName 6) (bYes) (eSeq .tup (aCons (eProp (A.c "Pipe") (G_Pipe_name A) (eVar 6)) (aCons (eProp (A.c "Pipe") (G_Pipe_start A) (eVar 6)) (aCons (eProp (A.c "Pipe") (G_Pipe_end A) (eVar 6)) (aNil))))) [6])) (sSeq (sAsg 5 (eLc .still (iTupD (eProp (A.c "Net") (G_Net_meters A) (eVar 0))) (tName 6) (bYes) (eSeq .tup (aCons (eProp (A.c "Meter") (G_Meter_name A) (eVar 6)) (aCons (eProp (A.c "Meter") (G_Meter_at A) (eVar 6)) (aCons (eProp (A.c "Meter") (G_Meter_sealed A) (eVar 6)) (aNil))))) [6])) (sRet (eAnd (eOp eqD (eCall reprD2 (aCons (eSeq .lst (aCons (eVar 4) (aCons (eVar 5) (aNil)))) (aNil))) (eCall reprD2 (aCons (eSeq .lst (aCons (eVar 1) (aCons (eVar 2) (aNil)))) (aNil)))) (eAnd (eOp eqD (eCallM (strOwnD (A.c "Net") (G_Net_str A)) (aCons (eVar 0) (aNil))) (eFn 2 (G_net_text_k11 A) [] (aCons (eVar 1) (aCons (eVar 2) (aNil))))) (eOp eqD (eCallM (lenOwnD (A.c "Net") (G_Net_len A)) (aCons (eVar 0) (aNil))) (eCall lenD (aCons (eVar 1) (aNil)))))))))))
theorem E_is_k11 (A : Ad) : ∃ g : List D → M, g = fnD 7 (B_is_k11 A) := ⟨_, rfl⟩
noncomputable def G_is_k11 (A : Ad) : List D → M := (E_is_k11 A).choose
theorem D_is_k11 (A : Ad) : G_is_k11 A = fnD 7 (B_is_k11 A) := (E_is_k11 A).choose_spec
/-! _law_read_right -/
noncomputable def B_read_right_k13 (A : Ad) : RV.Env → MS := sSeq (sAsg 1 (eIf (bTru truD (eCall (isiD (own A) (tab A)) (aCons (eVar 0) (aCons (eC (.ty "str")) (aNil))))) (eFn 1 (G_net_in_k13 A) [] (aCons (eVar 0) (aNil))) (eC .non))) (sSeq (sIf (bBl (eOp (isND false) (eVar 1) (eC .non))) (sSeq (sAsg 2 (eSeq .lst (aCons (eCaught 0 (A.t "_law_read_right") "_law_read_right.<locals>.<lambda>" (errL A errNames) 3 1 2 (T_caught_k10 A) (S_caught_k10 A) (eCm (A.c "Net") 2 (G_Net_read A) (eC (.adr (A.c "Net"))) (aCons (eVar 0) (aNil)))) (aNil)))) (sRet (eOp eqD (eOp addD (eVar 2) (eSeq .lst (aCons (eCaught 0 (A.t "_law_read_right") "_law_read_right.<locals>.<lambda>" (errL A errNames) 3 1 2 (T_caught_k10 A) (S_caught_k10 A) (eCmK (A.c "Net") 2 1 (G_Net_read A) (perm [0]) (eC (.adr (A.c "Net"))) (aCons (eVar 0) (aNil)))) (aNil)))) (eOp repLD (eSeq .lst (aCons (eSeq .lst (aCons (eC (.int 5)) (aCons (eCall reprD2 (aCons (eVar 0) (aNil))) (aNil)))) (aNil))) (eC (.int 2)))))) (sNil)) (sRet (eAnd (eOp eqD (eCaught 0 (A.t "_law_read_right") "_law_read_right.<locals>.<lambda>" (errL A errNames) 3 1 2 (T_caught_k10 A) (S_caught_k10 A) (eCm (A.c "Net") 2 (G_Net_read A) (eC (.adr (A.c "Net"))) (aCons (eVar 0) (aNil)))) (eSeq .lst (aCons (eC (.str "told")) (aCons (eOp addD (eC (.str "net ")) (eVar 0)) (aNil))))) (eFn 3 (G_is_k11 A) [] (aCons (eCm (A.c "Net") 2 (G_Net_read A) (eC (.adr (A.c "Net"))) (aCons (eVar 0) (aNil))) (aCons (eOp ixD (eVar 1) (eC (.int 0))) (aCons (eOp ixD (eVar 1) (eC (.int 1))) (aNil))))))))
theorem E_read_right_k13 (A : Ad) : ∃ g : List D → M, g = fnD 3 (B_read_right_k13 A) := ⟨_, rfl⟩
noncomputable def G_read_right_k13 (A : Ad) : List D → M := (E_read_right_k13 A).choose
theorem D_read_right_k13 (A : Ad) : G_read_right_k13 A = fnD 3 (B_read_right_k13 A) := (E_read_right_k13 A).choose_spec
/-! _law_well -/
noncomputable def B_well_k01 (A : Ad) : RV.Env → MS := sSeq (sAsg 2 (eIf (bBl (eOp ltD (eVar 1) (eCall lenD (aCons (eVar 0) (aNil))))) (eOp ixD (eVar 0) (eVar 1)) (eOp mulD (eOp mulD (eC (.int 90017)) (eOp addD (eVar 1) (eC (.int 3)))) (eOp addD (eVar 1) (eC (.int 5)))))) (sSeq (sIf (bBl (eOp geD (eVar 1) (eCall lenD (aCons (eVar 0) (aNil))))) (sFor (iSeq (eVar 0)) (tName 3) (sAsg 2 (eOp modD (eCall intOfD (aCons (eOp addD (eOp mulD (eVar 2) (eC (.int 52711))) (eVar 3)) (aNil))) (eC (.int 2147483629))))) (sNil)) (sRet (eNew (aCons (eOp modD (eCall intOfD (aCons (eVar 2) (aNil))) (eC (.int 2147483629))) (aCons (eIf (bBl (eOp geD (eCall absD (aCons (eVar 2) (aNil))) (eOp powD (eC (.int 10)) (eC (.int 18))))) (eCall absD (aCons (eVar 2) (aNil))) (eC (.int 0))) (aCons (eC (.int 0)) (aNil)))))))
theorem E_well_k01 (A : Ad) : ∃ g : List D → M, g = fnN 4 (B_well_k01 A) := ⟨_, rfl⟩
noncomputable def G_well_k01 (A : Ad) : List D → M := (E_well_k01 A).choose
theorem D_well_k01 (A : Ad) : G_well_k01 A = fnN 4 (B_well_k01 A) := (E_well_k01 A).choose_spec
/-! _law_dip -/
noncomputable def B_dip_k01 (A : Ad) : RV.Env → MS := sSeq (sSetIx (eVar 0) (eC (.int 2)) (eOp addD (eOp ixD (eVar 0) (eC (.int 2))) (eC (.int 1)))) (sSeq (sIf (bBl (eOp gtD (eOp ixD (eVar 0) (eC (.int 1))) (eC (.int 0)))) (sSeq (sPairSet 2 (eVar 0) (eC (.int 1)) (eCall divmodD (aCons (eOp ixD (eVar 0) (eC (.int 1))) (aCons (eVar 1) (aNil))))) (sRet (eVar 2))) (sNil)) (sSeq (sSetIx (eVar 0) (eC (.int 0)) (eOp modD (eCall intOfD (aCons (eOp addD (eOp addD (eOp mulD (eOp ixD (eVar 0) (eC (.int 0))) (eC (.int 69621))) (eOp mulD (eOp mulD (eC (.int 31)) (eOp ixD (eVar 0) (eC (.int 2)))) (eOp ixD (eVar 0) (eC (.int 2))))) (eC (.int 40503))) (aNil))) (eC (.int 2147483629)))) (sSeq (sAsg 3 (eOp modD (eCall intOfD (aCons (eOp mulD (eOp ixD (eVar 0) (eC (.int 0))) (eOp addD (eOp modD (eCall intOfD (aCons (eOp ixD (eVar 0) (eC (.int 0))) (aNil))) (eC (.int 30011))) (eC (.int 17)))) (aNil))) (eC (.int 2147483587)))) (sRet (eOp modD (eCall intOfD (aCons (eOp fdivD (eVar 3) (eC (.int 64))) (aNil))) (eVar 1))))))
theorem E_dip_k01 (A : Ad) : ∃ g : List D → M, g = fnD 4 (B_dip_k01 A) := ⟨_, rfl⟩
noncomputable def G_dip_k01 (A : Ad) : List D → M := (E_dip_k01 A).choose
theorem D_dip_k01 (A : Ad) : G_dip_k01 A = fnD 4 (B_dip_k01 A) := (E_dip_k01 A).choose_spec
/-! _law_name -/
noncomputable def B_name_k02 (A : Ad) : RV.Env → MS := sSeq (sIf (bBl (eOp eqD (eFn 2 (G_dip_k01 A) [] (aCons (eVar 0) (aCons (eC (.int 6)) (aNil)))) (eC (.int 0)))) (sRet (eOp ixD (eSeq .lst (aCons (eC (.str "pipe")) (aCons (eC (.str "meter")) (aCons (eC (.str "sealed")) (aCons (eC (.str "self")) (aCons (eC (.str "net")) (aCons (eC (.str "tell")) (aCons (eC (.str "if")) (aCons (eC (.str "a")) (aNil)))))))))) (eFn 2 (G_dip_k01 A) [] (aCons (eVar 0) (aCons (eC (.int 8)) (aNil)))))) (sNil)) (sSeq (sAsg 1 (eC (.str "abcdefghijklmnopqrstuvwxyz0123456789"))) (sSeq (sAsg 2 (eOp ixD (eVar 1) (eFn 2 (G_dip_k01 A) [] (aCons (eVar 0) (aCons (eC (.int 26)) (aNil)))))) (sSeq (sFor (iRange1 (aCons (eFn 2 (G_dip_k01 A) [] (aCons (eVar 0) (aCons (eC (.int 8)) (aNil)))) (aNil))) (tName 3) (sAsg 2 (eOp addD (eVar 2) (eOp ixD (eVar 1) (eFn 2 (G_dip_k01 A) [] (aCons (eVar 0) (aCons (eC (.int 36)) (aNil)))))))) (sRet (eVar 2)))))
theorem E_name_k02 (A : Ad) : ∃ g : List D → M, g = fnD 4 (B_name_k02 A) := ⟨_, rfl⟩
noncomputable def G_name_k02 (A : Ad) : List D → M := (E_name_k02 A).choose
theorem D_name_k02 (A : Ad) : G_name_k02 A = fnD 4 (B_name_k02 A) := (E_name_k02 A).choose_spec
/-! _law_fresh -/
noncomputable def B_fresh_k02 (A : Ad) : RV.Env → MS := sSeq (sAsgG (tTupD 2 (tsCons (tName 2) (tsCons (tName 3) (tsNil)))) (eSeq .tup (aCons (eFn 2 (G_dip_k01 A) [] (aCons (eVar 0) (aCons (eC (.int 4)) (aNil)))) (aCons (eFn 1 (G_name_k02 A) [] (aCons (eVar 0) (aNil))) (aNil))))) (sSeq (sIf (bAnd (bBl (eOp neD (eVar 1) (eSeq .lst (aNil)))) (bBl (eOp ltD (eVar 2) (eC (.int 2))))) (sSeq (sAsg 4 (eOp ixD (eVar 1) (eFn 2 (G_dip_k01 A) [] (aCons (eVar 0) (aCons (eCall lenD (aCons (eVar 1) (aNil))) (aNil)))))) (sAsg 3 (eIf (bBl (eOp eqD (eVar 2) (eC (.int 0)))) (eSl slD (eOp addD (eVar 4) (eVar 3)) (oNone) (oSome (eC (.int 8)))) (eSl slD (eVar 4) (oNone) (oSome (eOp addD (eC (.int 1)) (eFn 2 (G_dip_k01 A) [] (aCons (eVar 0) (aCons (eC (.int 7)) (aNil)))))))))) (sNil)) (sSeq (sIf (bBl (eOp (inD true) (eVar 3) (eVar 1))) (sRet (eVar 3)) (sNil)) (sSeq (sAsg 5 (eLc .still (iStrD (eC (.str "abcdefghijklmnopqrstuvwxyz0123456789"))) (tName 6) (bYes) (eOp addD (eSl slD (eVar 3) (oNone) (oSome (eC (.int 7)))) (eVar 6)) [6])) (sRet (eOp ixD (eLc .still (iSeq (eVar 5)) (tName 7) (bBl (eOp (inD true) (eVar 7) (eVar 1))) (eVar 7) [7]) (eC (.int 0)))))))
theorem E_fresh_k02 (A : Ad) : ∃ g : List D → M, g = fnD 8 (B_fresh_k02 A) := ⟨_, rfl⟩
noncomputable def G_fresh_k02 (A : Ad) : List D → M := (E_fresh_k02 A).choose
theorem D_fresh_k02 (A : Ad) : G_fresh_k02 A = fnD 8 (B_fresh_k02 A) := (E_fresh_k02 A).choose_spec
/-! _law_laid -/
noncomputable def B_laid_k11 (A : Ad) : RV.Env → MS := sSeq (sPar2 3 4 (aCons (eNew (aNil)) (aCons (eNew (aNil)) (aNil)))) (sSeq (sFor (iRange1 (aCons (eOp addD (eC (.int 2)) (eFn 2 (G_dip_k01 A) [] (aCons (eVar 0) (aCons (eC (.int 5)) (aNil))))) (aNil))) (tName 5) (sAppend (eVar 3) (eFn 2 (G_fresh_k02 A) [] (aCons (eVar 0) (aCons (eVar 3) (aNil)))))) (sSeq (sFor (iRange1 (aCons (eOp addD (eVar 1) (eFn 2 (G_dip_k01 A) [] (aCons (eVar 0) (aCons (eOp subD (eOp addD (eVar 2) (eC (.int 1))) (eVar 1)) (aNil))))) (aNil))) (tName 5) (sSeq (sPar2 6 7 (aCons (eFn 2 (G_dip_k01 A) [] (aCons (eVar 0) (aCons (eCall lenD (aCons (eVar 3) (aNil))) (aNil)))) (aCons (eOp addD (eC (.int 1)) (eFn 2 (G_dip_k01 A) [] (aCons (eVar 0) (aCons (eOp subD (eCall lenD (aCons (eVar 3) (aNil))) (eC (.int 1))) (aNil))))) (aNil)))) (sSeq (sAsg 8 (eFn 2 (G_fresh_k02 A) [] (aCons (eVar 0) (aCons (eLc .still (iSeq (eVar 4)) (tName 9) (bYes) (eOp ixD (eVar 9) (eC (.int 0))) [9]) (aNil))))) (sAppend (eVar 4) (eSeq .tup (aCons (eVar 8) (aCons (eOp ixD (eVar 3) (eVar 6)) (aCons (eOp ixD (eVar 3) (eOp modD (eCall intOfD (aCons (eOp addD (eVar 6) (eVar 7)) (aNil))) (eCall lenD (aCons (eVar 3) (aNil))))) (aNil))))))))) (sRet (eVar 4))))
theorem E_laid_k11 (A : Ad) : ∃ g : List D → M, g = fnD 10 (B_laid_k11 A) := ⟨_, rfl⟩
noncomputable def G_laid_k11 (A : Ad) : List D → M := (E_laid_k11 A).choose
theorem D_laid_k11 (A : Ad) : G_laid_k11 A = fnD 10 (B_laid_k11 A) := (E_laid_k11 A).choose_spec
/-! _law_fits -/
noncomputable def B_fits_k11 (A : Ad) : RV.Env → MS := sSeq (sAsg 3 (eNew (aNil))) (sSeq (sFor (iRange1 (aCons (eFn 2 (G_dip_k01 A) [] (aCons (eVar 0) (aCons (eOp addD (eVar 2) (eC (.int 1))) (aNil)))) (aNil))) (tName 4) (sSeq (sPar3 5 6 7 (aCons (eFn 2 (G_dip_k01 A) [] (aCons (eVar 0) (aCons (eCall lenD (aCons (eVar 1) (aNil))) (aNil)))) (aCons (eOp eqD (eFn 2 (G_dip_k01 A) [] (aCons (eVar 0) (aCons (eC (.int 4)) (aNil)))) (eC (.int 0))) (aCons (eOp eqD (eFn 2 (G_dip_k01 A) [] (aCons (eVar 0) (aCons (eC (.int 5)) (aNil)))) (eC (.int 0))) (aNil))))) (sSeq (sAsg 8 (eLc .still (iSeq (eVar 3)) (tName 10) (bYes) (eOp ixD (eVar 10) (eC (.int 0))) [10])) (sSeq (sAsg 9 (eIf (bAnd (bTru truD (eVar 7)) (bBl (eOp (inD true) (eOp ixD (eOp ixD (eVar 1) (eVar 5)) (eC (.int 0))) (eVar 8)))) (eOp ixD (eOp ixD (eVar 1) (eVar 5)) (eC (.int 0))) (eFn 2 (G_fresh_k02 A) [] (aCons (eVar 0) (aCons (eVar 8) (aNil)))))) (sAppend (eVar 3) (eSeq .tup (aCons (eVar 9) (aCons (eOp ixD (eOp ixD (eVar 1) (eVar 5)) (eC (.int 0))) (aCons (eVar 6) (aNil)))))))))) (sRet (eVar 3)))
theorem E_fits_k11 (A : Ad) : ∃ g : List D → M, g = fnD 11 (B_fits_k11 A) := ⟨_, rfl⟩
noncomputable def G_fits_k11 (A : Ad) : List D → M := (E_fits_k11 A).choose
theorem D_fits_k11 (A : Ad) : G_fits_k11 A = fnD 11 (B_fits_k11 A) := (E_fits_k11 A).choose_spec
/-! _law_sign -/
noncomputable def B_sign_k04 (A : Ad) : RV.Env → MS := sSeq (sIf (bBl (eOp eqD (eFn 2 (G_dip_k01 A) [] (aCons (eVar 0) (aCons (eC (.int 2)) (aNil)))) (eC (.int 0)))) (sRet (eOp ixD (eVar 1) (eFn 2 (G_dip_k01 A) [] (aCons (eVar 0) (aCons (eCall lenD (aCons (eVar 1) (aNil))) (aNil)))))) (sNil)) (sSeq (sAsg 2 (eC (.str " !#$&'()*+,-./0123456789:;<=>?@ABCDEFGHIJKLMNOPQRSTUVWXYZ[]^_`"))) (sSeq (sAsg 2 (eOp addD (eVar 2) (eC (.str "abcdefghijklmnopqrstuvwxyz{|}~\"\\\n")))) (sRet (eOp ixD (eVar 2) (eFn 2 (G_dip_k01 A) [] (aCons (eVar 0) (aCons (eCall lenD (aCons (eVar 2) (aNil))) (aNil))))))))
theorem E_sign_k04 (A : Ad) : ∃ g : List D → M, g = fnD 3 (B_sign_k04 A) := ⟨_, rfl⟩
noncomputable def G_sign_k04 (A : Ad) : List D → M := (E_sign_k04 A).choose
theorem D_sign_k04 (A : Ad) : G_sign_k04 A = fnD 3 (B_sign_k04 A) := (E_sign_k04 A).choose_spec
/-! _law_bent_lines -/
noncomputable def B_bent_lines_k13 (A : Ad) : RV.Env → MS := sSeq (sAsg 3 (eSplitN (eVar 1) (eC (.str "\n")))) (sSeq (sPar2 4 5 (aCons (eFn 2 (G_dip_k01 A) [] (aCons (eVar 0) (aCons (eCall lenD (aCons (eVar 3) (aNil))) (aNil)))) (aCons (eFn 2 (G_dip_k01 A) [] (aCons (eVar 0) (aCons (eCall lenD (aCons (eVar 3) (aNil))) (aNil)))) (aNil)))) (sSeq (sIf (bBl (eOp eqD (eVar 2) (eC (.int 0)))) (sPairSet2 (eVar 3) (eVar 4) (eVar 3) (eVar 5) (eSeq .tup (aCons (eOp ixD (eVar 3) (eVar 5)) (aCons (eOp ixD (eVar 3) (eVar 4)) (aNil))))) (sIf (bBl (eOp eqD (eVar 2) (eC (.int 1)))) (sAsg 3 (eAddN (eSl slLD (eVar 3) (oNone) (oSome (eVar 4))) (eSl slLD (eVar 3) (oSome (eVar 5)) (oNone)))) (sIf (bBl (eOp eqD (eVar 2) (eC (.int 2)))) (sAsg 3 (eAddN (eOp addD (eSl slLD (eVar 3) (oNone) (oSome (eVar 4))) (eSl slLD (eVar 3) (oSome (eOp addD (eVar 4) (eC (.int 1)))) (oNone))) (eSeq .lst (aCons (eOp ixD (eVar 3) (eVar 4)) (aNil))))) (sIf (bBl (eOp eqD (eVar 2) (eC (.int 3)))) (sSetIx (eVar 3) (eVar 4) (eOp addD (eOp ixD (eVar 3) (eVar 4)) (eOp ixD (eSeq .lst (aCons (eC (.str " sealed")) (aCons (eC (.str " ")) (aCons (eC (.str " a")) (aCons (eC (.str " meter")) (aNil)))))) (eFn 2 (G_dip_k01 A) [] (aCons (eVar 0) (aCons (eC (.int 4)) (aNil))))))) (sSeq (sPar2 6 7 (aCons (eSplitN (eOp ixD (eVar 3) (eVar 4)) (eC (.str " "))) (aCons (eOpT splitD (eOp ixD (eVar 3) (eVar 5)) (eC (.str " "))) (aNil)))) (sSeq (sAsg 8 (eFn 2 (G_dip_k01 A) [] (aCons (eVar 0) (aCons (eCall lenD (aCons (eVar 6) (aNil))) (aNil))))) (sSeq (sSetIx (eVar 6) (eVar 8) (eOp ixD (eVar 7) (eFn 2 (G_dip_k01 A) [] (aCons (eVar 0) (aCons (eCall lenD (aCons (eVar 7) (aNil))) (aNil)))))) (sSetIx (eVar 3) (eVar 4) (eOpT joinD (eC (.str " ")) (eIf (bBl (eOp eqD (eVar 2) (eC (.int 4)))) (eVar 6) (eOp addD (eSl slLD (eVar 6) (oNone) (oSome (eVar 8))) (eSl slLD (eVar 6) (oSome (eOp addD (eVar 8) (eC (.int 1)))) (oNone))))))))))))) (sRet (eOpT joinD (eC (.str "\n")) (eVar 3)))))
theorem E_bent_lines_k13 (A : Ad) : ∃ g : List D → M, g = fnD 9 (B_bent_lines_k13 A) := ⟨_, rfl⟩
noncomputable def G_bent_lines_k13 (A : Ad) : List D → M := (E_bent_lines_k13 A).choose
theorem D_bent_lines_k13 (A : Ad) : G_bent_lines_k13 A = fnD 9 (B_bent_lines_k13 A) := (E_bent_lines_k13 A).choose_spec
/-! _law_bent -/
noncomputable def B_bent_k13 (A : Ad) : RV.Env → MS := sSeq (sPar2 2 3 (aCons (eFn 2 (G_dip_k01 A) [] (aCons (eVar 0) (aCons (eC (.int 10)) (aNil)))) (aCons (eFn 2 (G_dip_k01 A) [] (aCons (eVar 0) (aCons (eOp addD (eCall lenD (aCons (eVar 1) (aNil))) (eC (.int 1))) (aNil)))) (aNil)))) (sSeq (sAsg 4 (eFn 2 (G_sign_k04 A) [] (aCons (eVar 0) (aCons (eC (.str " \na9AZ_pmz")) (aNil))))) (sSeq (sIf (bBl (eOp ltD (eVar 2) (eC (.int 6)))) (sRet (eFn 3 (G_bent_lines_k13 A) [] (aCons (eVar 0) (aCons (eVar 1) (aCons (eVar 2) (aNil)))))) (sNil)) (sSeq (sIf (bBl (eOp ltD (eVar 2) (eC (.int 9)))) (sRet (eOp addD (eOp addD (eSl slD (eVar 1) (oNone) (oSome (eVar 3))) (eOp ixD (eSeq .lst (aCons (eC (.str "")) (aCons (eVar 4) (aCons (eVar 4) (aNil))))) (eOp subD (eVar 2) (eC (.int 6))))) (eSl slD (eVar 1) (oSome (eOp addD (eVar 3) (eOp ixD (eSeq .lst (aCons (eC (.int 1)) (aCons (eC (.int 0)) (aCons (eC (.int 1)) (aNil))))) (eOp subD (eVar 2) (eC (.int 6)))))) (oNone)))) (sNil)) (sRet (eOp addD (eVar 1) (eOp ixD (eSeq .lst (aCons (eC (.str "\n")) (aCons (eC (.str " ")) (aCons (eC (.str "\n\n")) (aCons (eC (.str "\npipe q a b")) (aCons (eC (.str "\nmeter q p")) (aCons (eC (.str " sealed")) (aNil)))))))) (eFn 2 (G_dip_k01 A) [] (aCons (eVar 0) (aCons (eC (.int 6)) (aNil))))))))))
theorem E_bent_k13 (A : Ad) : ∃ g : List D → M, g = fnD 5 (B_bent_k13 A) := ⟨_, rfl⟩
noncomputable def G_bent_k13 (A : Ad) : List D → M := (E_bent_k13 A).choose
theorem D_bent_k13 (A : Ad) : G_bent_k13 A = fnD 5 (B_bent_k13 A) := (E_bent_k13 A).choose_spec
/-! _law_odd -/
noncomputable def B_odd_k04 (A : Ad) : RV.Env → MS := sSeq (sAsg 1 (eFn 2 (G_dip_k01 A) [] (aCons (eVar 0) (aCons (eC (.int 20)) (aNil))))) (sSeq (sAsg 2 (eSeq .lst (aCons (eC .non) (aCons (eC (.bl true)) (aCons (eC (.bl false)) (aCons (eC (.int 0)) (aCons (eC (.int 1)) (aCons (eUn negD (eC (.int 1))) (aCons (eC (.int 3)) (aCons (eOp powD (eC (.int 10)) (eC (.int 30))) (aCons (eC (.str "")) (aCons (eC (.str "A")) (aCons (eC (.str "1a")) (aCons (eC (.str "a b")) (aCons (eC (.str "a_b")) (aCons (eC (.str "abcdefghi")) (aCons (eSeq .tup (aNil)) (aCons (eSeq .tup (aCons (eC (.str "a")) (aNil))) (aCons (eSeq .lst (aNil)) (aCons (eSeq .lst (aCons (eC (.str "a")) (aNil))) (aNil))))))))))))))))))))) (sRet (eOp ixD (eOp addD (eVar 2) (eSeq .lst (aCons (eDic0) (aCons (eDisp .still (aCons (eC (.str "a")) (aCons (eC (.int 1)) (aNil)))) (aNil))))) (eVar 1))))
theorem E_odd_k04 (A : Ad) : ∃ g : List D → M, g = fnD 3 (B_odd_k04 A) := ⟨_, rfl⟩
noncomputable def G_odd_k04 (A : Ad) : List D → M := (E_odd_k04 A).choose
theorem D_odd_k04 (A : Ad) : G_odd_k04 A = fnD 3 (B_odd_k04 A) := (E_odd_k04 A).choose_spec
/-! _law_right -/
noncomputable def C_right_k13_0 (A : Ad) : RV.Env → M := eFn 1 (G_read_right_k13 A) [] (aCons (eVar 4) (aNil))
noncomputable def B_right_k13 (A : Ad) : RV.Env → MS := sSeq (sAsg 1 (eFn 3 (G_laid_k11 A) [] (aCons (eVar 0) (aCons (eC (.int 1)) (aCons (eC (.int 5)) (aNil)))))) (sSeq (sAsg 2 (eFn 2 (G_net_text_k11 A) [] (aCons (eVar 1) (aCons (eFn 3 (G_fits_k11 A) [] (aCons (eVar 0) (aCons (eVar 1) (aCons (eC (.int 5)) (aNil))))) (aNil))))) (sSeq (sAsg 3 (eFn 2 (G_bent_k13 A) [] (aCons (eVar 0) (aCons (eVar 2) (aNil))))) (sRet (eCall allD (aCons (eLc .still (iSeq (eSeq .lst (aCons (eVar 2) (aCons (eVar 3) (aCons (eFn 2 (G_bent_k13 A) [] (aCons (eVar 0) (aCons (eVar 3) (aNil)))) (aCons (eFn 1 (G_odd_k04 A) [] (aCons (eVar 0) (aNil))) (aNil))))))) (tName 4) (bYes) (C_right_k13_0 A) [4]) (aNil))))))
theorem E_right_k13 (A : Ad) : ∃ g : List D → M, g = fnD 5 (B_right_k13 A) := ⟨_, rfl⟩
noncomputable def G_right_k13 (A : Ad) : List D → M := (E_right_k13 A).choose
theorem D_right_k13 (A : Ad) : G_right_k13 A = fnD 5 (B_right_k13 A) := (E_right_k13 A).choose_spec
/-! law -/
noncomputable def C_law_k13_0 (A : Ad) : RV.Env → M := eFn 1 (G_read_right_k13 A) [] (aCons (eVar 4) (aNil))
noncomputable def C_law_k13_1 (A : Ad) : RV.Env → M := eFn 1 (G_right_k13 A) [] (aCons (eVar 3) (aNil))
noncomputable def L_law_k13_0 (A : Ad) : RV.Env → MS := sSeq (sAsg 3 (eFn 2 (G_well_k01 A) [] (aCons (eVar 0) (aCons (eVar 2) (aNil))))) (sIf (bNot (bTru truD (eCall allD (aCons (eLc .still (iRange1 (aCons (eC (.int 6)) (aNil))) (tName 5) (bYes) (C_law_k13_1 A) [5]) (aNil))))) (sRet (eC (.bl false))) (sNil))
noncomputable def B_law_k13 (A : Ad) : RV.Env → MS := sSeq (sAsg 1 (eNew (aCons (eC (.str "")) (aCons (eC (.str "\n")) (aCons (eC (.str "pipe a b b")) (aCons (eC (.str "pipe a b c\n")) (aCons (eC (.str "pipe a b c\nmeter m a unsealed")) (aCons (eC (.str "meter m a\npipe a b c")) (aNil))))))))) (sSeq (sAsg 1 (eAddN (eVar 1) (eSeq .lst (aCons (eC (.str "pipe a b")) (aCons (eC (.str "pipe a b c\npipe a d e")) (aCons (eC (.str "pipe a b c\nmeter m b")) (aCons (eC (.str "pipe a b c d")) (aNil)))))))) (sSeq (sAppend (eVar 1) (eC (.str "pipe a b c\nmeter m a sealed sealed"))) (sSeq (sIf (bNot (bTru truD (eCall allD (aCons (eLc .still (iSeq (eVar 1)) (tName 4) (bYes) (C_law_k13_0 A) [4]) (aNil))))) (sRet (eC (.bl false))) (sNil)) (sSeq (sFor (iRange1 (aCons (eCall max2D (aCons (eC (.int 2)) (aCons (eCall min2D (aCons (eCall lenD (aCons (eVar 0) (aNil))) (aCons (eC (.int 4)) (aNil)))) (aNil)))) (aNil))) (tName 2) (L_law_k13_0 A)) (sRet (eC (.bl true)))))))
theorem E_law_k13 (A : Ad) : ∃ g : List D → M, g = fnD 6 (B_law_k13 A) := ⟨_, rfl⟩
noncomputable def G_law_k13 (A : Ad) : List D → M := (E_law_k13 A).choose
theorem D_law_k13 (A : Ad) : G_law_k13 A = fnD 6 (B_law_k13 A) := (E_law_k13 A).choose_spec
end RV
end
section
noncomputable section
namespace K13
open PySem L2 RV
structure Txt (K : PySem.W.Frag) (mg : Str → Option Value) (A : Ad) : Prop where
  n_abs : mg "abs" = none
  n_all : mg "all" = none
  n_bool : mg "bool" = none
  n_divmod : mg "divmod" = none
  n_enumerate : mg "enumerate" = none
  n_int : mg "int" = none
  n_isinstance : mg "isinstance" = none
  n_len : mg "len" = none
  n_max : mg "max" = none
  n_min : mg "min" = none
  n_range : mg "range" = none
  n_repr : mg "repr" = none
  n_str : mg "str" = none
  n_tuple : mg "tuple" = none
  g_DIGITS : ∃ t, mg "DIGITS" = some (.str "0123456789" t)
  g_LETTERS : ∃ t, mg "LETTERS" = some (.str "abcdefghijklmnopqrstuvwxyz" t)
  g_LONGEST_NAME : ∃ t, mg "LONGEST_NAME" = some (.int 8 t)
  g_MOST_METERS : ∃ t, mg "MOST_METERS" = some (.int 12 t)
  g_MOST_PIPES : ∃ t, mg "MOST_PIPES" = some (.int 12 t)
  m_Sum : mg "Sum" = some (.ref (A.c "Sum"))
  m_Pipe : mg "Pipe" = some (.ref (A.c "Pipe"))
  m_Meter : mg "Meter" = some (.ref (A.c "Meter"))
  m_Net : mg "Net" = some (.ref (A.c "Net"))
  k_Sum : KindC K (A.c "Sum")
  k_Pipe : KindC K (A.c "Pipe")
  k_Meter : KindC K (A.c "Meter")
  k_Net : KindC K (A.c "Net")
  no_Meter_kept : NoAttr K (A.c "Meter") "kept"
  no_Net_fitted : NoAttr K (A.c "Net") "fitted"
  no_Net_joined : NoAttr K (A.c "Net") "joined"
  no_Pipe_kept : NoAttr K (A.c "Pipe") "kept"
  m_BadName : mg "BadName" = some (.ref (A.c "BadName"))
  m_BadValue : mg "BadValue" = some (.ref (A.c "BadValue"))
  m_InvalidEnd : mg "InvalidEnd" = some (.ref (A.c "InvalidEnd"))
  m_InvalidFlag : mg "InvalidFlag" = some (.ref (A.c "InvalidFlag"))
  m_InvalidMeters : mg "InvalidMeters" = some (.ref (A.c "InvalidMeters"))
  m_InvalidName : mg "InvalidName" = some (.ref (A.c "InvalidName"))
  m_InvalidPipes : mg "InvalidPipes" = some (.ref (A.c "InvalidPipes"))
  m_InvalidText : mg "InvalidText" = some (.ref (A.c "InvalidText"))
  m_NoAnswer : mg "NoAnswer" = some (.ref (A.c "NoAnswer"))
  m_NotAMeter : mg "NotAMeter" = some (.ref (A.c "NotAMeter"))
  m_UnknownName : mg "UnknownName" = some (.ref (A.c "UnknownName"))
  xc : ∀ C ∈ errL A errNames, ExcC K C
  xkit : tbXB K A errAll errAnc = true
  xno_given : ∀ C ∈ errL A errNames, PySem.W.findIn K (.ref C) "given" = some none
  xno_index : ∀ C ∈ errL A errNames, PySem.W.findIn K (.ref C) "index" = some none
  xb_BadValue : ∀ C ∈ errL A ["InvalidPipes", "InvalidMeters", "InvalidName", "InvalidEnd"], PySem.W.exmOne K (.ref C) (.ref (A.c "BadValue")) = some true
  ox_InvalidText : OexC K (A.c "InvalidText")
  xl : ∀ C ∈ errL A errNames, PySem.W.exmAny K (.ref C) [.ref (A.c "BadValue"), .ref (A.c "BadName"), .ref (A.c "NoAnswer")] = some true
  own : ∀ C, own A C = true → KindC K C
  kit : ∀ t u b, tab A t u = some b → PySem.W.kitOne K t u = some b
theorem sc_X_InvalidEnd : FnScope ["self", "given"] ["self", "given"] (defScope s_X_InvalidEnd) := ⟨rfl, rfl, rfl, by decide +kernel, rfl, by decide +kernel, by decide +kernel⟩
theorem sc_X_InvalidFlag : FnScope ["self", "given"] ["self", "given"] (defScope s_X_InvalidFlag) := ⟨rfl, rfl, rfl, by decide +kernel, rfl, by decide +kernel, by decide +kernel⟩
theorem sc_X_InvalidMeters : FnScope ["self", "index"] ["self", "index"] (defScope s_X_InvalidMeters) := ⟨rfl, rfl, rfl, by decide +kernel, rfl, by decide +kernel, by decide +kernel⟩
theorem sc_X_InvalidName : FnScope ["self", "given"] ["self", "given"] (defScope s_X_InvalidName) := ⟨rfl, rfl, rfl, by decide +kernel, rfl, by decide +kernel, by decide +kernel⟩
theorem sc_X_InvalidPipes : FnScope ["self", "index"] ["self", "index"] (defScope s_X_InvalidPipes) := ⟨rfl, rfl, rfl, by decide +kernel, rfl, by decide +kernel, by decide +kernel⟩
theorem sc_X_InvalidText : FnScope ["self", "given"] ["self", "given"] (defScope s_X_InvalidText) := ⟨rfl, rfl, rfl, by decide +kernel, rfl, by decide +kernel, by decide +kernel⟩
/-! ### _law_is_name -/
theorem sc_is_name_k04 : FnScope ["_law_word", "_law_signs", "_law_sign_here"] ["_law_word"] (defScope s_is_name_k04) := ⟨rfl, rfl, rfl, by decide +kernel, rfl, by decide +kernel, by decide +kernel⟩
theorem ok_is_name_k04 {P : Program} {w : World} {K : PySem.W.Frag} {mg : Str → Option Value} {base : Heap} {A : Ad} {f : Addr} {fd : FuncData} {dfs : List V} {kfs : List (Str × V)} (T : Txt K mg A) (F : FunD K "_law_is_name" "_law_is_name" (defArgs s_is_name_k04) (defBody s_is_name_k04) (defScope s_is_name_k04) dfs kfs f fd)  :
    FnX ⟨false, false, false⟩ P w K mg base 1 f fd ["_law_word"] (spG K 1 (G_is_name_k04 A)) := by
  rw [D_is_name_k04]
  refine fn_G F sc_is_name_k04 (fun cdv Ar outer s H E pp hgd hr tk hp => ?_)
  replace hr : Room 0 (Ar.deeper (PyProof.Rows.envOfC "_law_is_name" (defScope s_is_name_k04) s.heap.objs.size f cdv)) := hr
  exact gss_cons (gs_set 1 sc_is_name_k04.nd (ge_str))
    (gss_one (gs_ret (ge_and (ge_chain op_lt op_lt ro_lt ro_lt (ge_int) (ge_callB call_len rc_len T.n_len (by decide +kernel) (ga_cons (ge_var 0) (ga_nil))) (ge_int)) (ge_and (ge_cmp op_in_sign ro_inS (ge_ix ix_seq ro_ix (ge_var 0) (ge_int)) (ge_slice sl_A rsl_A (ge_var 1) (go_none) (go_some (ge_int))) (by rfl)) (ge_one (ge_callB (cr_all rfl) rc_all T.n_all (by decide +kernel) (ga_cons (ge_lc (own := [("_law_sign_here", 2)]) rfl sc_is_name_k04.nd (gi_str (ge_var 0)) (blkOk_by (by rfl)) (fun _ _ _ _ _ => gg_name 2 sc_is_name_k04.nd) (fun _ _ _ _ _ => gts_nil) (fun _ _ _ _ _ => ge_cmp op_in_sign ro_inS (ge_var 2) (ge_var 1) (by rfl))) (ga_nil))))))))
/-! ### _law_taken -/
theorem sc_taken_k13 : FnScope ["_law_words", "_law_laid_here", "_law_fits_here", "_law_word", "_law_row"] ["_law_words", "_law_laid_here", "_law_fits_here"] (defScope s_taken_k13) := ⟨rfl, rfl, rfl, by decide +kernel, rfl, by decide +kernel, by decide +kernel⟩
theorem ok_taken_k13 {P : Program} {w : World} {K : PySem.W.Frag} {mg : Str → Option Value} {base : Heap} {A : Ad} {f : Addr} {fd : FuncData} {dfs : List V} {kfs : List (Str × V)} (T : Txt K mg A) (F : FunD K "_law_taken" "_law_taken" (defArgs s_taken_k13) (defBody s_taken_k13) (defScope s_taken_k13) dfs kfs f fd) (c_is_name_k04 : Fc P w K mg base ⟨false, false, false⟩ "_law_is_name" 1 1 (G_is_name_k04 A)) :
    FnX ⟨false, false, false⟩ P w K mg base 2 f fd ["_law_words", "_law_laid_here", "_law_fits_here"] (spG K 3 (G_taken_k13 A)) := by
  rw [D_taken_k13]
  refine fn_G F sc_taken_k13 (fun cdv Ar outer s H E pp hgd hr tk hp => ?_)
  replace hr : Room 1 (Ar.deeper (PyProof.Rows.envOfC "_law_taken" (defScope s_taken_k13) s.heap.objs.size f cdv)) := hr
  exact gss_cons (gs_if (GW.gt (gw_or (gt_cmp op_notIn_seq ro_in (ge_callB call_len rc_len T.n_len (by decide +kernel) (ga_cons (ge_var 0) (ga_nil))) (ge_lst (ga_cons (ge_int) (ga_cons (ge_int) (ga_nil)))) (by rfl)) (gw_or1 (gt_not (gt_tru tru_ok rt_tru (ge_callB (cr_all rfl) rc_all T.n_all (by decide +kernel) (ga_cons (ge_lc (own := [("_law_word", 3)]) rfl sc_taken_k13.nd (gi_list (ge_slice sl_list rsl_L (ge_var 0) (go_some (ge_int)) (go_none))) (blkOk_by (by rfl)) (fun _ _ _ _ _ => gg_name 3 sc_taken_k13.nd) (fun _ _ _ _ _ => gts_nil) (fun _ _ _ _ _ => ge_callF (h := false) tkF c_is_name_k04 nogd hr (ga_cons (ge_var 3) (ga_nil)))) (ga_nil)))))))) (gss_one (gs_ret (ge_bl))) (gss_nil))
    (gss_cons (gs_if (gt_cmp (op_eqA hr) ro_eqA (ge_ix ix_seq ro_ix (ge_var 0) (ge_int)) (ge_str) (nomark _)) (gss_cons (gs_if (GW.gt (gw_or (gt_cmp (op_eqA hr) ro_eqA (ge_callB call_len rc_len T.n_len (by decide +kernel) (ga_cons (ge_var 0) (ga_nil))) (ge_int) (nomark _)) (gw_or (gt_cmp (op_neA hr) ro_neA (ge_var 2) (ge_lst (ga_nil)) (nomark _)) (gw_or (gt_cmp (op_eqA hr) ro_eqA (ge_ix ix_seq ro_ix (ge_var 0) (ge_int)) (ge_ix ix_seq ro_ix (ge_var 0) (ge_int)) (nomark _)) (gw_or1 (gt_cmp op_in_seq ro_in (ge_ix ix_seq ro_ix (ge_var 0) (ge_int)) (ge_lc (own := [("_law_row", 4)]) rfl sc_taken_k13.nd (gi_list (ge_var 1)) (blkOk_by (by rfl)) (fun _ _ _ _ _ => gg_name 4 sc_taken_k13.nd) (fun _ _ _ _ _ => gts_nil) (fun _ _ _ _ _ => ge_ix ix_seq ro_ix (ge_var 4) (ge_int))) (by rfl))))))) (gss_one (gs_ret (ge_bl))) (gss_nil))
    (gss_cons (gs_append (ge_var 1) (ge_tup (ga_cons (ge_ix ix_seq ro_ix (ge_var 0) (ge_int)) (ga_cons (ge_ix ix_seq ro_ix (ge_var 0) (ge_int)) (ga_cons (ge_ix ix_seq ro_ix (ge_var 0) (ge_int)) (ga_nil))))))
    (gss_one (gs_ret (ge_bl))))) (gss_nil))
    (gss_cons (gs_if (GW.gt (gw_or (gt_cmp (op_neA hr) ro_neA (ge_ix ix_seq ro_ix (ge_var 0) (ge_int)) (ge_str) (nomark _)) (gw_or (GW.gt (gw_and (gt_cmp (op_eqA hr) ro_eqA (ge_callB call_len rc_len T.n_len (by decide +kernel) (ga_cons (ge_var 0) (ga_nil))) (ge_int) (nomark _)) (gw_and1 (gt_cmp (op_neA hr) ro_neA (ge_ix ix_seq ro_ix (ge_var 0) (ge_int)) (ge_str) (nomark _))))) (gw_or1 (gt_cmp op_in_seq ro_in (ge_ix ix_seq ro_ix (ge_var 0) (ge_int)) (ge_lc (own := [("_law_row", 4)]) rfl sc_taken_k13.nd (gi_list (ge_var 2)) (blkOk_by (by rfl)) (fun _ _ _ _ _ => gg_name 4 sc_taken_k13.nd) (fun _ _ _ _ _ => gts_nil) (fun _ _ _ _ _ => ge_ix ix_seq ro_ix (ge_var 4) (ge_int))) (by rfl)))))) (gss_one (gs_ret (ge_bl))) (gss_nil))
    (gss_cons (gs_append (ge_var 2) (ge_tup (ga_cons (ge_ix ix_seq ro_ix (ge_var 0) (ge_int)) (ga_cons (ge_ix ix_seq ro_ix (ge_var 0) (ge_int)) (ga_cons (ge_cmp (op_eqA hr) ro_eqA (ge_callB call_len rc_len T.n_len (by decide +kernel) (ga_cons (ge_var 0) (ga_nil))) (ge_int) (nomark _)) (ga_nil))))))
    (gss_one (gs_ret (ge_cmp op_in_seq ro_in (ge_ix ix_seq ro_ix (ge_var 0) (ge_int)) (ge_lc (own := [("_law_row", 4)]) rfl sc_taken_k13.nd (gi_list (ge_var 1)) (blkOk_by (by rfl)) (fun _ _ _ _ _ => gg_name 4 sc_taken_k13.nd) (fun _ _ _ _ _ => gts_nil) (fun _ _ _ _ _ => ge_ix ix_seq ro_ix (ge_var 4) (ge_int))) (by rfl)))))))
/-! ### _law_net_in -/
theorem sc_net_in_k13 : FnScope ["_law_line", "_law_laid_here", "_law_fits_here", "_law_each"] ["_law_line"] (defScope s_net_in_k13) := ⟨rfl, rfl, rfl, by decide +kernel, rfl, by decide +kernel, by decide +kernel⟩
theorem ok_net_in_k13 {P : Program} {w : World} {K : PySem.W.Frag} {mg : Str → Option Value} {base : Heap} {A : Ad} {f : Addr} {fd : FuncData} {dfs : List V} {kfs : List (Str × V)} (T : Txt K mg A) (F : FunD K "_law_net_in" "_law_net_in" (defArgs s_net_in_k13) (defBody s_net_in_k13) (defScope s_net_in_k13) dfs kfs f fd) (c_taken_k13 : Fc P w K mg base ⟨false, false, false⟩ "_law_taken" 2 3 (G_taken_k13 A)) :
    FnX ⟨false, false, false⟩ P w K mg base 3 f fd ["_law_line"] (spG K 1 (G_net_in_k13 A)) := by
  rw [D_net_in_k13]
  refine fn_F F sc_net_in_k13 (fun cdv Ar outer s H E pp hgd hr tk hp => ?_)
  replace hr : Room 2 (Ar.deeper (PyProof.Rows.envOfC "_law_net_in" (defScope s_net_in_k13) s.heap.objs.size f cdv)) := hr
  exact gss_cons (gs_par2 1 2 rfl sc_net_in_k13.nd (ga_cons (ge_new (ga_nil)) (ga_cons (ge_new (ga_nil)) (ga_nil))))
    (gss_cons (gs_for hp rfl (gi_list (ge_split (ge_var 0) (ge_str))) (gg_name 3 sc_net_in_k13.nd) (gss_one (gs_if (gt_not (gt_tru tru_ok rt_tru (ge_callF (h := false) tk c_taken_k13 nogd hr (ga_cons (ge_split (ge_var 3) (ge_str)) (ga_cons (ge_var 1) (ga_cons (ge_var 2) (ga_nil))))))) (gss_one (gs_ret (ge_non))) (gss_nil))))
    (gss_one (gs_ret (ge_ifExp (GW.gt (gw_and (gt_chain op_lt op_lt ro_lt ro_lt (ge_int) (ge_callB call_len rc_len T.n_len (by decide +kernel) (ga_cons (ge_var 1) (ga_nil))) (ge_int)) (gw_and1 (gt_cmp op_lt ro_lt (ge_callB call_len rc_len T.n_len (by decide +kernel) (ga_cons (ge_var 2) (ga_nil))) (ge_int) (nomark _))))) (ge_lst (ga_cons (ge_var 1) (ga_cons (ge_var 2) (ga_nil)))) (ge_non)))))
/-! ### Pipe.name -/
theorem sc_Pipe_name : FnScope ["self"] ["self"] (defScope s_Pipe_name) := ⟨rfl, rfl, rfl, by decide +kernel, rfl, by decide +kernel, by decide +kernel⟩
theorem ok_Pipe_name {nn : Bool} {P : Program} {w : World} {K : PySem.W.Frag} {mg : Str → Option Value} {base : Heap} {A : Ad} {f : Addr} {fd : FuncData} {dfs : List V} {kfs : List (Str × V)} (T : Txt K mg A) (F : FunD K "name" "Pipe.name" (defArgs s_Pipe_name) (defBody s_Pipe_name) (defScope s_Pipe_name) dfs kfs f fd)  :
    FnX ⟨false, nn, false⟩ P w K mg base 1 f fd ["self"] (spG K 1 (G_Pipe_name A)) := by
  rw [D_Pipe_name]
  refine fn_G F sc_Pipe_name (fun cdv Ar outer s H E pp hgd hr tk hp => ?_)
  replace hr : Room 0 (Ar.deeper (PyProof.Rows.envOfC "Pipe.name" (defScope s_Pipe_name) s.heap.objs.size f cdv)) := hr
  exact gss_one (gs_ret (ge_ix ix_seq ro_ix (ge_fld T.k_Pipe.cl T.no_Pipe_kept (ge_var 0)) (ge_int)))
/-! ### Pipe.start -/
theorem sc_Pipe_start : FnScope ["self"] ["self"] (defScope s_Pipe_start) := ⟨rfl, rfl, rfl, by decide +kernel, rfl, by decide +kernel, by decide +kernel⟩
theorem ok_Pipe_start {nn : Bool} {P : Program} {w : World} {K : PySem.W.Frag} {mg : Str → Option Value} {base : Heap} {A : Ad} {f : Addr} {fd : FuncData} {dfs : List V} {kfs : List (Str × V)} (T : Txt K mg A) (F : FunD K "start" "Pipe.start" (defArgs s_Pipe_start) (defBody s_Pipe_start) (defScope s_Pipe_start) dfs kfs f fd)  :
    FnX ⟨false, nn, false⟩ P w K mg base 1 f fd ["self"] (spG K 1 (G_Pipe_start A)) := by
  rw [D_Pipe_start]
  refine fn_G F sc_Pipe_start (fun cdv Ar outer s H E pp hgd hr tk hp => ?_)
  replace hr : Room 0 (Ar.deeper (PyProof.Rows.envOfC "Pipe.start" (defScope s_Pipe_start) s.heap.objs.size f cdv)) := hr
  exact gss_one (gs_ret (ge_ix ix_seq ro_ix (ge_fld T.k_Pipe.cl T.no_Pipe_kept (ge_var 0)) (ge_int)))
/-! ### Pipe.end -/
theorem sc_Pipe_end : FnScope ["self"] ["self"] (defScope s_Pipe_end) := ⟨rfl, rfl, rfl, by decide +kernel, rfl, by decide +kernel, by decide +kernel⟩
theorem ok_Pipe_end {nn : Bool} {P : Program} {w : World} {K : PySem.W.Frag} {mg : Str → Option Value} {base : Heap} {A : Ad} {f : Addr} {fd : FuncData} {dfs : List V} {kfs : List (Str × V)} (T : Txt K mg A) (F : FunD K "end" "Pipe.end" (defArgs s_Pipe_end) (defBody s_Pipe_end) (defScope s_Pipe_end) dfs kfs f fd)  :
    FnX ⟨false, nn, false⟩ P w K mg base 1 f fd ["self"] (spG K 1 (G_Pipe_end A)) := by
  rw [D_Pipe_end]
  refine fn_G F sc_Pipe_end (fun cdv Ar outer s H E pp hgd hr tk hp => ?_)
  replace hr : Room 0 (Ar.deeper (PyProof.Rows.envOfC "Pipe.end" (defScope s_Pipe_end) s.heap.objs.size f cdv)) := hr
  exact gss_one (gs_ret (ge_ix ix_seq ro_ix (ge_fld T.k_Pipe.cl T.no_Pipe_kept (ge_var 0)) (ge_int)))
/-! ### Meter.name -/
theorem sc_Meter_name : FnScope ["self"] ["self"] (defScope s_Meter_name) := ⟨rfl, rfl, rfl, by decide +kernel, rfl, by decide +kernel, by decide +kernel⟩
theorem ok_Meter_name {nn : Bool} {P : Program} {w : World} {K : PySem.W.Frag} {mg : Str → Option Value} {base : Heap} {A : Ad} {f : Addr} {fd : FuncData} {dfs : List V} {kfs : List (Str × V)} (T : Txt K mg A) (F : FunD K "name" "Meter.name" (defArgs s_Meter_name) (defBody s_Meter_name) (defScope s_Meter_name) dfs kfs f fd)  :
    FnX ⟨false, nn, false⟩ P w K mg base 1 f fd ["self"] (spG K 1 (G_Meter_name A)) := by
  rw [D_Meter_name]
  refine fn_G F sc_Meter_name (fun cdv Ar outer s H E pp hgd hr tk hp => ?_)
  replace hr : Room 0 (Ar.deeper (PyProof.Rows.envOfC "Meter.name" (defScope s_Meter_name) s.heap.objs.size f cdv)) := hr
  exact gss_one (gs_ret (ge_ix ix_seq ro_ix (ge_fld T.k_Meter.cl T.no_Meter_kept (ge_var 0)) (ge_int)))
/-! ### Meter.at -/
theorem sc_Meter_at : FnScope ["self"] ["self"] (defScope s_Meter_at) := ⟨rfl, rfl, rfl, by decide +kernel, rfl, by decide +kernel, by decide +kernel⟩
theorem ok_Meter_at {nn : Bool} {P : Program} {w : World} {K : PySem.W.Frag} {mg : Str → Option Value} {base : Heap} {A : Ad} {f : Addr} {fd : FuncData} {dfs : List V} {kfs : List (Str × V)} (T : Txt K mg A) (F : FunD K "at" "Meter.at" (defArgs s_Meter_at) (defBody s_Meter_at) (defScope s_Meter_at) dfs kfs f fd)  :
    FnX ⟨false, nn, false⟩ P w K mg base 1 f fd ["self"] (spG K 1 (G_Meter_at A)) := by
  rw [D_Meter_at]
  refine fn_G F sc_Meter_at (fun cdv Ar outer s H E pp hgd hr tk hp => ?_)
  replace hr : Room 0 (Ar.deeper (PyProof.Rows.envOfC "Meter.at" (defScope s_Meter_at) s.heap.objs.size f cdv)) := hr
  exact gss_one (gs_ret (ge_ix ix_seq ro_ix (ge_fld T.k_Meter.cl T.no_Meter_kept (ge_var 0)) (ge_int)))
/-! ### Meter.sealed -/
theorem sc_Meter_sealed : FnScope ["self"] ["self"] (defScope s_Meter_sealed) := ⟨rfl, rfl, rfl, by decide +kernel, rfl, by decide +kernel, by decide +kernel⟩
theorem ok_Meter_sealed {nn : Bool} {P : Program} {w : World} {K : PySem.W.Frag} {mg : Str → Option Value} {base : Heap} {A : Ad} {f : Addr} {fd : FuncData} {dfs : List V} {kfs : List (Str × V)} (T : Txt K mg A) (F : FunD K "sealed" "Meter.sealed" (defArgs s_Meter_sealed) (defBody s_Meter_sealed) (defScope s_Meter_sealed) dfs kfs f fd)  :
    FnX ⟨false, nn, false⟩ P w K mg base 1 f fd ["self"] (spG K 1 (G_Meter_sealed A)) := by
  rw [D_Meter_sealed]
  refine fn_G F sc_Meter_sealed (fun cdv Ar outer s H E pp hgd hr tk hp => ?_)
  replace hr : Room 0 (Ar.deeper (PyProof.Rows.envOfC "Meter.sealed" (defScope s_Meter_sealed) s.heap.objs.size f cdv)) := hr
  exact gss_one (gs_ret (ge_ix ix_seq ro_ix (ge_fld T.k_Meter.cl T.no_Meter_kept (ge_var 0)) (ge_int)))
/-! ### line_of -/
theorem sc_line_of : FnScope ["item"] ["item"] (defScope s_line_of) := ⟨rfl, rfl, rfl, by decide +kernel, rfl, by decide +kernel, by decide +kernel⟩
theorem ok_line_of {nn : Bool} {P : Program} {w : World} {K : PySem.W.Frag} {mg : Str → Option Value} {base : Heap} {A : Ad} {f : Addr} {fd : FuncData} {dfs : List V} {kfs : List (Str × V)} (T : Txt K mg A) (F : FunD K "line_of" "line_of" (defArgs s_line_of) (defBody s_line_of) (defScope s_line_of) dfs kfs f fd) (c_Pipe_name : Pc P w K mg base nn (A.c "Pipe") "name" 1 (G_Pipe_name A)) (c_Pipe_start : Pc P w K mg base nn (A.c "Pipe") "start" 1 (G_Pipe_start A)) (c_Pipe_end : Pc P w K mg base nn (A.c "Pipe") "end" 1 (G_Pipe_end A)) (c_Meter_name : Pc P w K mg base nn (A.c "Meter") "name" 1 (G_Meter_name A)) (c_Meter_at : Pc P w K mg base nn (A.c "Meter") "at" 1 (G_Meter_at A)) (c_Meter_sealed : Pc P w K mg base nn (A.c "Meter") "sealed" 1 (G_Meter_sealed A)) :
    FnX ⟨false, nn, false⟩ P w K mg base 3 f fd ["item"] (spG K 1 (G_line_of A)) := by
  rw [D_line_of]
  refine fn_G F sc_line_of (fun cdv Ar outer s H E pp hgd hr tk hp => ?_)
  replace hr : Room 2 (Ar.deeper (PyProof.Rows.envOfC "line_of" (defScope s_line_of) s.heap.objs.size f cdv)) := hr
  exact gss_cons (gs_if (gt_tru tru_ok rt_tru (ge_callB call_isi (rc_isi T.own T.kit) T.n_isinstance (by decide +kernel) (ga_cons (ge_var 0) (ga_cons (ge_gref T.m_Pipe) (ga_nil))))) (gss_one (gs_ret (ge_joined (gj_cons (ge_str) (gj_cons (ge_fmt (ge_propF c_Pipe_name hr (ge_var 0))) (gj_cons (ge_str) (gj_cons (ge_fmt (ge_propF c_Pipe_start hr (ge_var 0))) (gj_cons (ge_str) (gj_cons (ge_fmt (ge_propF c_Pipe_end hr (ge_var 0))) (gj_nil)))))))))) (gss_nil))
    (gss_one (gs_ret (ge_ifExp (gt_tru tru_ok rt_tru (ge_propF c_Meter_sealed hr (ge_var 0))) (ge_joined (gj_cons (ge_str) (gj_cons (ge_fmt (ge_propF c_Meter_name hr (ge_var 0))) (gj_cons (ge_str) (gj_cons (ge_fmt (ge_propF c_Meter_at hr (ge_var 0))) (gj_cons (ge_str) (gj_nil))))))) (ge_joined (gj_cons (ge_str) (gj_cons (ge_fmt (ge_propF c_Meter_name hr (ge_var 0))) (gj_cons (ge_str) (gj_cons (ge_fmt (ge_propF c_Meter_at hr (ge_var 0))) (gj_nil)))))))))
/-! ### Net.__str__ -/
theorem sc_Net_str : FnScope ["self", "item"] ["self"] (defScope s_Net_str) := ⟨rfl, rfl, rfl, by decide +kernel, rfl, by decide +kernel, by decide +kernel⟩
theorem ok_Net_str {nn : Bool} {P : Program} {w : World} {K : PySem.W.Frag} {mg : Str → Option Value} {base : Heap} {A : Ad} {f : Addr} {fd : FuncData} {dfs : List V} {kfs : List (Str × V)} (T : Txt K mg A) (F : FunD K "__str__" "Net.__str__" (defArgs s_Net_str) (defBody s_Net_str) (defScope s_Net_str) dfs kfs f fd) (c_line_of : Fc P w K mg base ⟨false, nn, false⟩ "line_of" 3 1 (G_line_of A)) :
    FnX ⟨false, nn, false⟩ P w K mg base 4 f fd ["self"] (spG K 1 (G_Net_str A)) := by
  rw [D_Net_str]
  refine fn_G F sc_Net_str (fun cdv Ar outer s H E pp hgd hr tk hp => ?_)
  replace hr : Room 3 (Ar.deeper (PyProof.Rows.envOfC "Net.__str__" (defScope s_Net_str) s.heap.objs.size f cdv)) := hr
  exact gss_one (gs_ret (ge_join (ge_str) (ge_lc (own := [("item", 1)]) rfl sc_Net_str.nd (gi_tup (ge_tup (ga_star (ge_fld T.k_Net.cl T.no_Net_joined (ge_var 0)) (ga_star (ge_fld T.k_Net.cl T.no_Net_fitted (ge_var 0)) (ga_nil))))) (blkOk_by (by rfl)) (fun _ _ _ _ _ => gg_name 1 sc_Net_str.nd) (fun _ _ _ _ _ => gts_nil) (fun _ _ _ _ _ => ge_callF (h := false) tkF c_line_of nogd hr (ga_cons (ge_var 1) (ga_nil))))))
/-! ### _law_seen -/
theorem sc_seen_k10 : FnScope ["_law_thing"] ["_law_thing"] (defScope s_seen_k10) := ⟨rfl, rfl, rfl, by decide +kernel, rfl, by decide +kernel, by decide +kernel⟩
theorem ok_seen_k10 {P : Program} {w : World} {K : PySem.W.Frag} {mg : Str → Option Value} {base : Heap} {A : Ad} {f : Addr} {fd : FuncData} {dfs : List V} {kfs : List (Str × V)} (T : Txt K mg A) (F : FunD K "_law_seen" "_law_seen" (defArgs s_seen_k10) (defBody s_seen_k10) (defScope s_seen_k10) dfs kfs f fd) (c_Pipe_name : Pc P w K mg base false (A.c "Pipe") "name" 1 (G_Pipe_name A)) (c_Pipe_start : Pc P w K mg base false (A.c "Pipe") "start" 1 (G_Pipe_start A)) (c_Pipe_end : Pc P w K mg base false (A.c "Pipe") "end" 1 (G_Pipe_end A)) (c_Meter_name : Pc P w K mg base false (A.c "Meter") "name" 1 (G_Meter_name A)) (c_Meter_at : Pc P w K mg base false (A.c "Meter") "at" 1 (G_Meter_at A)) (c_Meter_sealed : Pc P w K mg base false (A.c "Meter") "sealed" 1 (G_Meter_sealed A)) (c_Net_str : Sc P w K mg base false (A.c "Net") "__str__" 4 1 (G_Net_str A)) :
    FnX ⟨true, false, false⟩ P w K mg base 7 f fd ["_law_thing"] (spG K 1 (G_seen_k10 A)) := by
  rw [D_seen_k10]
  refine fn_G F sc_seen_k10 (fun cdv Ar outer s H E pp hgd hr tk hp => ?_)
  replace hr : Room 6 (Ar.deeper (PyProof.Rows.envOfC "_law_seen" (defScope s_seen_k10) s.heap.objs.size f cdv)) := hr
  have hgd0 := hgd rfl
  exact gss_cons (gs_if (gt_tru tru_ok rt_tru (ge_callB call_isi (rc_isi T.own T.kit) T.n_isinstance (by decide +kernel) (ga_cons (ge_var 0) (ga_cons (ge_gref T.m_Pipe) (ga_nil))))) (gss_one (gs_ret (ge_op op_addA ro_addA (ge_op op_addA ro_addA (ge_op op_addA ro_addA (ge_op op_addA ro_addA (ge_op op_addA ro_addA (ge_str) (ge_propF c_Pipe_name hr (ge_var 0))) (ge_str)) (ge_propF c_Pipe_start hr (ge_var 0))) (ge_str)) (ge_propF c_Pipe_end hr (ge_var 0))))) (gss_nil))
    (gss_cons (gs_if (gt_tru tru_ok rt_tru (ge_callB call_isi (rc_isi T.own T.kit) T.n_isinstance (by decide +kernel) (ga_cons (ge_var 0) (ga_cons (ge_gref T.m_Meter) (ga_nil))))) (gss_one (gs_ret (ge_op op_addA ro_addA (ge_op op_addA ro_addA (ge_op op_addA ro_addA (ge_op op_addA ro_addA (ge_op op_addA ro_addA (ge_str) (ge_propF c_Meter_name hr (ge_var 0))) (ge_str)) (ge_propF c_Meter_at hr (ge_var 0))) (ge_str)) (ge_callTy call_strFl rc_strFl T.n_str (by decide +kernel) (ga_cons (ge_propF c_Meter_sealed hr (ge_var 0)) (ga_nil)))))) (gss_nil))
    (gss_cons (gs_if (gt_tru tru_ok rt_tru (ge_callB call_isi (rc_isi T.own T.kit) T.n_isinstance (by decide +kernel) (ga_cons (ge_var 0) (ga_cons (ge_gref T.m_Net) (ga_nil))))) (gss_one (gs_ret (ge_op op_addA ro_addA (ge_str) (ge_callTyM (call_strF c_Net_str hr) rcm_str T.n_str (by decide +kernel) (ga_cons (ge_var 0) (ga_nil)))))) (gss_nil))
    (gss_one (gs_ret (ge_ifExp (gt_tru tru_ok rt_tru (ge_callB call_isi (rc_isi T.own T.kit) T.n_isinstance (by decide +kernel) (ga_cons (ge_var 0) (ga_cons (ge_gref T.m_Sum) (ga_nil))))) (ge_op op_addA ro_addA (ge_str) (ge_never)) (ge_callB (call_repr2 (h := false) hgd0 hr) rc_repr2 T.n_repr (by decide +kernel) (ga_cons (ge_var 0) (ga_nil))))))))
/-! ### _law_seen -/
theorem sc_seen_k10_h : FnScope ["_law_thing"] ["_law_thing"] (defScope s_seen_k10_h) := ⟨rfl, rfl, rfl, by decide +kernel, rfl, by decide +kernel, by decide +kernel⟩
theorem ok_seen_k10_h {P : Program} {w : World} {K : PySem.W.Frag} {mg : Str → Option Value} {base : Heap} {A : Ad} {f : Addr} {fd : FuncData} {dfs : List V} {kfs : List (Str × V)} (T : Txt K mg A) (F : FunD K "_law_seen" "_law_seen" (defArgs s_seen_k10_h) (defBody s_seen_k10_h) (defScope s_seen_k10_h) dfs kfs f fd)  :
    FnX ⟨true, false, true⟩ P w K mg base 1 f fd ["_law_thing"] (spG K 1 (G_seen_k10_h A)) := by
  rw [D_seen_k10_h]
  refine fn_G F sc_seen_k10_h (fun cdv Ar outer s H E pp hgd hr tk hp => ?_)
  have hgd0 := hgd rfl
  exact gss_cons (gs_if (gt_tru tru_ok rt_tru (ge_callB call_isi (rc_isi T.own T.kit) T.n_isinstance (by decide +kernel) (ga_cons (ge_var 0) (ga_cons (ge_gref T.m_Pipe) (ga_nil))))) (gss_one (gs_ret (ge_op op_addA ro_addA (ge_op op_addA ro_addA (ge_op op_addA ro_addA (ge_op op_addA ro_addA (ge_op op_addA ro_addA (ge_str) (ge_never)) (ge_str)) (ge_never)) (ge_str)) (ge_never)))) (gss_nil))
    (gss_cons (gs_if (gt_tru tru_ok rt_tru (ge_callB call_isi (rc_isi T.own T.kit) T.n_isinstance (by decide +kernel) (ga_cons (ge_var 0) (ga_cons (ge_gref T.m_Meter) (ga_nil))))) (gss_one (gs_ret (ge_op op_addA ro_addA (ge_op op_addA ro_addA (ge_op op_addA ro_addA (ge_op op_addA ro_addA (ge_op op_addA ro_addA (ge_str) (ge_never)) (ge_str)) (ge_never)) (ge_str)) (ge_callTy call_strFl rc_strFl T.n_str (by decide +kernel) (ga_cons (ge_never) (ga_nil)))))) (gss_nil))
    (gss_cons (gs_if (gt_tru tru_ok rt_tru (ge_callB call_isi (rc_isi T.own T.kit) T.n_isinstance (by decide +kernel) (ga_cons (ge_var 0) (ga_cons (ge_gref T.m_Net) (ga_nil))))) (gss_one (gs_ret (ge_op op_addA ro_addA (ge_str) (ge_never)))) (gss_nil))
    (gss_one (gs_ret (ge_ifExp (gt_tru tru_ok rt_tru (ge_callB call_isi (rc_isi T.own T.kit) T.n_isinstance (by decide +kernel) (ga_cons (ge_var 0) (ga_cons (ge_gref T.m_Sum) (ga_nil))))) (ge_op op_addA ro_addA (ge_str) (ge_never)) (ge_callB (call_repr2 (h := true) hgd0 hr) rc_repr2 T.n_repr (by decide +kernel) (ga_cons (ge_var 0) (ga_nil))))))))
/-! ### _law_said -/
theorem sc_said_k10 : FnScope ["_law_e", "_law_sorts", "_law_at"] ["_law_e"] (defScope s_said_k10) := ⟨rfl, rfl, rfl, by decide +kernel, rfl, by decide +kernel, by decide +kernel⟩
theorem ok_said_k10 {P : Program} {w : World} {K : PySem.W.Frag} {mg : Str → Option Value} {base : Heap} {A : Ad} {f : Addr} {fd : FuncData} {dfs : List V} {kfs : List (Str × V)} (T : Txt K mg A) (F : FunD K "_law_said" "_law_said" (defArgs s_said_k10) (defBody s_said_k10) (defScope s_said_k10) dfs kfs f fd) (c_seen_k10_h : Fc P w K mg base ⟨true, false, true⟩ "_law_seen" 1 1 (G_seen_k10_h A)) :
    FnE true P w K mg base 2 f fd ["_law_e"] (fun a C d => spG K 1 (G_said_k10 A a C d)) := by
  rw [D_said_k10]
  refine fn_E F sc_said_k10 (fun cdv Ar outer s H a C d oe hgd hr hz hf => gss_wish fun hC => ?_)
  have hgd0 := hgd rfl
  exact gss_cons (gs_set 1 sc_said_k10.nd (ge_lst (ga_cons (ge_callB (call_isG (T.xc C hC) (List.mem_cons_self ..) hz hf) (rc_isX (tbX_ok T.xkit)) T.n_isinstance (by decide +kernel) (ga_cons (ge_var 0) (ga_cons (ge_gref T.m_InvalidPipes) (ga_nil)))) (ga_cons (ge_callB (call_isG (T.xc C hC) (List.mem_cons_self ..) hz hf) (rc_isX (tbX_ok T.xkit)) T.n_isinstance (by decide +kernel) (ga_cons (ge_var 0) (ga_cons (ge_gref T.m_InvalidMeters) (ga_nil)))) (ga_cons (ge_callB (call_isG (T.xc C hC) (List.mem_cons_self ..) hz hf) (rc_isX (tbX_ok T.xkit)) T.n_isinstance (by decide +kernel) (ga_cons (ge_var 0) (ga_cons (ge_gref T.m_InvalidName) (ga_nil)))) (ga_nil))))))
    (gss_cons (gs_set 1 sc_said_k10.nd (ge_op op_addA ro_addA (ge_var 1) (ge_lst (ga_cons (ge_callB (call_isG (T.xc C hC) (List.mem_cons_self ..) hz hf) (rc_isX (tbX_ok T.xkit)) T.n_isinstance (by decide +kernel) (ga_cons (ge_var 0) (ga_cons (ge_gref T.m_InvalidEnd) (ga_nil)))) (ga_cons (ge_callB (call_isG (T.xc C hC) (List.mem_cons_self ..) hz hf) (rc_isX (tbX_ok T.xkit)) T.n_isinstance (by decide +kernel) (ga_cons (ge_var 0) (ga_cons (ge_gref T.m_InvalidFlag) (ga_nil)))) (ga_cons (ge_callB (call_isG (T.xc C hC) (List.mem_cons_self ..) hz hf) (rc_isX (tbX_ok T.xkit)) T.n_isinstance (by decide +kernel) (ga_cons (ge_var 0) (ga_cons (ge_gref T.m_InvalidText) (ga_nil)))) (ga_nil)))))))
    (gss_cons (gs_set 1 sc_said_k10.nd (ge_op op_addA ro_addA (ge_var 1) (ge_lst (ga_cons (ge_callB (call_isG (T.xc C hC) (List.mem_cons_self ..) hz hf) (rc_isX (tbX_ok T.xkit)) T.n_isinstance (by decide +kernel) (ga_cons (ge_var 0) (ga_cons (ge_gref T.m_NotAMeter) (ga_nil)))) (ga_cons (ge_callB (call_isG (T.xc C hC) (List.mem_cons_self ..) hz hf) (rc_isX (tbX_ok T.xkit)) T.n_isinstance (by decide +kernel) (ga_cons (ge_var 0) (ga_cons (ge_gref T.m_UnknownName) (ga_nil)))) (ga_nil))))))
    (gss_cons (gs_if (GW.gt (gw_or (gt_cmp (op_neAH (h := true) hr) ro_neA (ge_count (ge_var 1) (ge_bl)) (ge_int) (nomark _)) (gw_or (gt_cmp (op_neAH (h := true) hr) ro_neA (ge_callB (call_isG (T.xc C hC) (List.mem_cons_self ..) hz hf) (rc_isX (tbX_ok T.xkit)) T.n_isinstance (by decide +kernel) (ga_cons (ge_var 0) (ga_cons (ge_gref T.m_BadName) (ga_nil)))) (ge_ix ix_seq ro_ix (ge_var 1) (ge_int)) (nomark _)) (gw_or1 (gt_cmp (op_eqAH (h := true) hr) ro_eqA (ge_callB (call_isG (T.xc C hC) (List.mem_cons_self ..) hz hf) (rc_isX (tbX_ok T.xkit)) T.n_isinstance (by decide +kernel) (ga_cons (ge_var 0) (ga_cons (ge_gref T.m_BadValue) (ga_nil)))) (ge_ix ix_seq ro_ix (ge_var 1) (ge_int)) (nomark _)))))) (gss_one (gs_ret (ge_lst (ga_cons (ge_str) (ga_nil))))) (gss_nil))
    (gss_cons (gs_set 2 sc_said_k10.nd (ge_index (ge_var 1) (ge_bl)))
    (gss_one (gs_ret (ge_lst (ga_cons (ge_var 2) (ga_cons (ge_ifExp (gt_cmp op_lt ro_lt (ge_var 2) (ge_int) (nomark _)) (ge_callB (call_repr2 (h := true) hgd0 hr) rc_repr2 T.n_repr (by decide +kernel) (ga_cons (ge_xg (excC_xf (T.xc C hC)) (T.xno_index C hC) (List.mem_cons_self ..) hz hf (ge_var 0)) (ga_nil))) (ge_callF (h := true) tkF c_seen_k10_h hgd hr (ga_cons (ge_xg (excC_xf (T.xc C hC)) (T.xno_given C hC) (List.mem_cons_self ..) hz hf (ge_var 0)) (ga_nil)))) (ga_nil))))))))))
/-! ### _law_caught -/
theorem sc_caught_k10 : FnScope ["_law_act", "_law_told", "_law_e"] ["_law_act"] (defScope s_caught_k10) := ⟨rfl, rfl, rfl, by decide +kernel, rfl, by decide +kernel, by decide +kernel⟩
theorem ok_caught_k10 {P : Program} {w : World} {K : PySem.W.Frag} {mg : Str → Option Value} {base : Heap} {A : Ad} {f : Addr} {fd : FuncData} {dfs : List V} {kfs : List (Str × V)} (T : Txt K mg A) (F : FunD K "_law_caught" "_law_caught" (defArgs s_caught_k10) (defBody s_caught_k10) (defScope s_caught_k10) dfs kfs f fd) (b : Binds K fd ["_law_act"] []) (kp : PySem.W.keepIn K (.ref f) = true) (hm : mg "_law_caught" = some (.ref f)) (c_seen_k10 : Fc P w K mg base ⟨true, nn, false⟩ "_law_seen" 7 1 (G_seen_k10 A)) (c_said_k10 : Fe P w K mg base true "_law_said" 2 1 (G_said_k10 A)) :
    Cc P w K mg base "_law_caught" 7 (errL A errNames) 3 1 2 (T_caught_k10 A) (S_caught_k10 A) := by
  obtain ⟨oc, od, dV, kV, doc, pm, an, cdv, ct, osl, rfl, lk, hcd, _, _⟩ := F.ex
  refine ⟨"_law_act", f, ["_law_act", "_law_told", "_law_e"], _, _, _, dV, kV, doc, pm, cdv, ct, oc, an, od, osl, lk, hcd, b, sc_caught_k10, rfl, Or.inl rfl, by decide, by decide, kp, hm, ?_⟩
  exact cc_body (i := 1) (j := 2) sc_caught_k10.nd rfl (Or.inl rfl) rfl T.xl (fun _ _ _ _ => rfl) (fun _ _ _ _ => ⟨rfl, by decide, .inl T.m_BadValue⟩) (fun _ _ _ _ => ⟨rfl, by decide, .inl T.m_BadName⟩) (fun _ _ _ _ => ⟨rfl, by decide, .inl T.m_NoAnswer⟩) (fun _ _ _ _ => rfl) (fun _ _ _ _ => rfl)
    (fun _ _ _ _ hg hr => ge_lst (ga_cons (ge_str) (ga_cons (ge_callF (h := false) tkF c_seen_k10 (fun _ => hg) hr (ga_cons (ge_var 1) (ga_nil))) (ga_nil))))
    (fun _ _ _ _ a C d _ _ hg hr hz hf => gss_one (gs_ret (ge_callE c_said_k10 (fun _ => hg) (L2H.roomH_mark hr _) rfl (List.mem_cons_self ..) hz hf (ga_cons (ge_var 2) (ga_nil)))))
/-! ### is_name -/
theorem sc_is_name : FnScope ["value", "sign"] ["value"] (defScope s_is_name) := ⟨rfl, rfl, rfl, by decide +kernel, rfl, by decide +kernel, by decide +kernel⟩
theorem ok_is_name {nn : Bool} {P : Program} {w : World} {K : PySem.W.Frag} {mg : Str → Option Value} {base : Heap} {A : Ad} {f : Addr} {fd : FuncData} {dfs : List V} {kfs : List (Str × V)} (T : Txt K mg A) (F : FunD K "is_name" "is_name" (defArgs s_is_name) (defBody s_is_name) (defScope s_is_name) dfs kfs f fd)  :
    FnX ⟨false, nn, false⟩ P w K mg base 1 f fd ["value"] (spG K 1 (G_is_name A)) := by
  rw [D_is_name]
  refine fn_G F sc_is_name (fun cdv Ar outer s H E pp hgd hr tk hp => ?_)
  replace hr : Room 0 (Ar.deeper (PyProof.Rows.envOfC "is_name" (defScope s_is_name) s.heap.objs.size f cdv)) := hr
  exact gss_cons (gs_if (GW.gt (gw_or (gt_not (gt_tru tru_ok rt_tru (ge_callB call_isi (rc_isi T.own T.kit) T.n_isinstance (by decide +kernel) (ga_cons (ge_var 0) (ga_cons (ge_ty T.n_str (by decide +kernel)) (ga_nil)))))) (gw_or (gt_not (gt_chain op_le op_le ro_le ro_le (ge_int) (ge_callB call_len rc_len T.n_len (by decide +kernel) (ga_cons (ge_var 0) (ga_nil))) (ge_gint T.g_LONGEST_NAME))) (gw_or1 (gt_cmp op_notIn_sign ro_notInS (ge_ix ix_seq ro_ix (ge_var 0) (ge_int)) (ge_gstr T.g_LETTERS) (by rfl)))))) (gss_one (gs_ret (ge_bl))) (gss_nil))
    (gss_one (gs_ret (ge_callB (cr_all rfl) rc_all T.n_all (by decide +kernel) (ga_cons (ge_lc (own := [("sign", 1)]) rfl sc_is_name.nd (gi_str (ge_var 0)) (blkOk_by (by rfl)) (fun _ _ _ _ _ => gg_name 1 sc_is_name.nd) (fun _ _ _ _ _ => gts_nil) (fun _ _ _ _ _ => ge_or (ge_cmp op_in_sign ro_inS (ge_var 1) (ge_gstr T.g_LETTERS) (by rfl)) (ge_one (ge_cmp op_in_sign ro_inS (ge_var 1) (ge_gstr T.g_DIGITS) (by rfl))))) (ga_nil)))))
/-! ### check_name -/
theorem sc_check_name : FnScope ["value"] ["value"] (defScope s_check_name) := ⟨rfl, rfl, rfl, by decide +kernel, rfl, by decide +kernel, by decide +kernel⟩
theorem ok_check_name {nn : Bool} {P : Program} {w : World} {K : PySem.W.Frag} {mg : Str → Option Value} {base : Heap} {A : Ad} {f : Addr} {fd : FuncData} {dfs : List V} {kfs : List (Str × V)} (T : Txt K mg A) (F : FunD K "check_name" "check_name" (defArgs s_check_name) (defBody s_check_name) (defScope s_check_name) dfs kfs f fd) (c_is_name : Fc P w K mg base ⟨false, nn, false⟩ "is_name" 1 1 (G_is_name A)) (x_InvalidName : Xc P w K mg base "InvalidName" (A.c "InvalidName") "given") :
    FnX ⟨false, nn, false⟩ P w K mg base 3 f fd ["value"] (spG K 1 (G_check_name A)) := by
  rw [D_check_name]
  refine fn_G F sc_check_name (fun cdv Ar outer s H E pp hgd hr tk hp => ?_)
  replace hr : Room 2 (Ar.deeper (PyProof.Rows.envOfC "check_name" (defScope s_check_name) s.heap.objs.size f cdv)) := hr
  exact gss_one (gs_if (gt_not (gt_tru tru_ok rt_tru (ge_callF (h := false) tk c_is_name nogd hr (ga_cons (ge_var 0) (ga_nil))))) (gss_one (gs_raise rfl tk x_InvalidName hr (ge_var 0))) (gss_nil))
/-! ### Pipe.__init__ -/
theorem sc_Pipe_init : FnScope ["self", "name", "start", "end"] ["self", "name", "start", "end"] (defScope s_Pipe_init) := ⟨rfl, rfl, rfl, by decide +kernel, rfl, by decide +kernel, by decide +kernel⟩
theorem ok_Pipe_init {nn : Bool} {P : Program} {w : World} {K : PySem.W.Frag} {mg : Str → Option Value} {base : Heap} {A : Ad} {f : Addr} {fd : FuncData} {dfs : List V} {kfs : List (Str × V)} (T : Txt K mg A) (F : FunD K "__init__" "Pipe.__init__" (defArgs s_Pipe_init) (defBody s_Pipe_init) (defScope s_Pipe_init) dfs kfs f fd) (c_check_name : Fc P w K mg base ⟨false, nn, false⟩ "check_name" 3 1 (G_check_name A)) (x_InvalidEnd : Xc P w K mg base "InvalidEnd" (A.c "InvalidEnd") "given") :
    FnX ⟨false, nn, false⟩ P w K mg base 4 f fd ["self", "name", "start", "end"] (spG K 4 (G_Pipe_init A)) := by
  rw [D_Pipe_init]
  refine fn_G F sc_Pipe_init (fun cdv Ar outer s H E pp hgd hr tk hp => ?_)
  replace hr : Room 3 (Ar.deeper (PyProof.Rows.envOfC "Pipe.__init__" (defScope s_Pipe_init) s.heap.objs.size f cdv)) := hr
  exact gss_cons (gs_expr (ge_callF (h := false) tk c_check_name nogd hr (ga_cons (ge_var 1) (ga_nil))))
    (gss_cons (gs_expr (ge_callF (h := false) tk c_check_name nogd hr (ga_cons (ge_var 2) (ga_nil))))
    (gss_cons (gs_expr (ge_callF (h := false) tk c_check_name nogd hr (ga_cons (ge_var 3) (ga_nil))))
    (gss_cons (gs_if (gt_cmp (op_eqA hr) ro_eqA (ge_var 3) (ge_var 2) (nomark _)) (gss_one (gs_raise rfl tk x_InvalidEnd hr (ge_var 3))) (gss_nil))
    (gss_one (gs_fld T.k_Pipe.cl T.no_Pipe_kept (ge_var 0) (ge_tup (ga_cons (ge_var 1) (ga_cons (ge_var 2) (ga_cons (ge_var 3) (ga_nil))))))))))
/-! ### Meter.__init__ -/
theorem sc_Meter_init : FnScope ["self", "name", "at", "sealed"] ["self", "name", "at", "sealed"] (defScope s_Meter_init) := ⟨rfl, rfl, rfl, by decide +kernel, rfl, by decide +kernel, by decide +kernel⟩
theorem ok_Meter_init {nn : Bool} {P : Program} {w : World} {K : PySem.W.Frag} {mg : Str → Option Value} {base : Heap} {A : Ad} {f : Addr} {fd : FuncData} {dfs : List V} {kfs : List (Str × V)} (T : Txt K mg A) (F : FunD K "__init__" "Meter.__init__" (defArgs s_Meter_init) (defBody s_Meter_init) (defScope s_Meter_init) dfs kfs f fd) (c_check_name : Fc P w K mg base ⟨false, nn, false⟩ "check_name" 3 1 (G_check_name A)) (x_InvalidFlag : Xc P w K mg base "InvalidFlag" (A.c "InvalidFlag") "given") :
    FnX ⟨false, nn, false⟩ P w K mg base 4 f fd ["self", "name", "at", "sealed"] (spG K 4 (G_Meter_init A)) := by
  rw [D_Meter_init]
  refine fn_G F sc_Meter_init (fun cdv Ar outer s H E pp hgd hr tk hp => ?_)
  replace hr : Room 3 (Ar.deeper (PyProof.Rows.envOfC "Meter.__init__" (defScope s_Meter_init) s.heap.objs.size f cdv)) := hr
  exact gss_cons (gs_expr (ge_callF (h := false) tk c_check_name nogd hr (ga_cons (ge_var 1) (ga_nil))))
    (gss_cons (gs_expr (ge_callF (h := false) tk c_check_name nogd hr (ga_cons (ge_var 2) (ga_nil))))
    (gss_cons (gs_if (gt_not (gt_tru tru_ok rt_tru (ge_callB call_isi (rc_isi T.own T.kit) T.n_isinstance (by decide +kernel) (ga_cons (ge_var 3) (ga_cons (ge_ty T.n_bool (by decide +kernel)) (ga_nil)))))) (gss_one (gs_raise rfl tk x_InvalidFlag hr (ge_var 3))) (gss_nil))
    (gss_one (gs_fld T.k_Meter.cl T.no_Meter_kept (ge_var 0) (ge_tup (ga_cons (ge_var 1) (ga_cons (ge_var 2) (ga_cons (ge_var 3) (ga_nil)))))))))
/-! ### item_of -/
theorem sc_item_of : FnScope ["line", "words"] ["line"] (defScope s_item_of) := ⟨rfl, rfl, rfl, by decide +kernel, rfl, by decide +kernel, by decide +kernel⟩
theorem ok_item_of {P : Program} {w : World} {K : PySem.W.Frag} {mg : Str → Option Value} {base : Heap} {A : Ad} {f : Addr} {fd : FuncData} {dfs : List V} {kfs : List (Str × V)} (T : Txt K mg A) (F : FunD K "item_of" "item_of" (defArgs s_item_of) (defBody s_item_of) (defScope s_item_of) dfs kfs f fd) (mk_Meter_2_sealed : Mk_ P w K mg base false "Meter" (A.c "Meter") 4 4 2 ["sealed"] (G_Meter_init A) (perm [0])) (mk_Pipe_3 : Mc P w K mg base false "Pipe" (A.c "Pipe") 4 4 (G_Pipe_init A) []) :
    FnX ⟨false, false, false⟩ P w K mg base 6 f fd ["line"] (spG K 1 (G_item_of A)) := by
  rw [D_item_of]
  refine fn_G F sc_item_of (fun cdv Ar outer s H E pp hgd hr tk hp => ?_)
  replace hr : Room 5 (Ar.deeper (PyProof.Rows.envOfC "item_of" (defScope s_item_of) s.heap.objs.size f cdv)) := hr
  exact gss_cons (gs_set 1 sc_item_of.nd (ge_split (ge_var 0) (ge_str)))
    (gss_cons (gs_try1 ⟨rfl, by decide, .inl T.m_BadValue⟩ T.xb_BadValue (fun _ _ _ tk => gss_cons (gs_if (GW.gt (gw_and (gt_cmp (op_eqA hr) ro_eqA (ge_callB call_len rc_len T.n_len (by decide +kernel) (ga_cons (ge_var 1) (ga_nil))) (ge_int) (nomark _)) (gw_and1 (gt_cmp (op_eqA hr) ro_eqA (ge_ix ix_seq ro_ix (ge_var 1) (ge_int)) (ge_str) (nomark _))))) (gss_one (gs_ret (ge_makeF tk mk_Pipe_3 hr (ga_cons (ge_ix ix_seq ro_ix (ge_var 1) (ge_int)) (ga_cons (ge_ix ix_seq ro_ix (ge_var 1) (ge_int)) (ga_cons (ge_ix ix_seq ro_ix (ge_var 1) (ge_int)) (ga_nil))))))) (gss_nil))
    (gss_one (gs_if (GW.gt (gw_and (gt_cmp op_in_seq ro_in (ge_callB call_len rc_len T.n_len (by decide +kernel) (ga_cons (ge_var 1) (ga_nil))) (ge_tup (ga_cons (ge_int) (ga_cons (ge_int) (ga_nil)))) (by rfl)) (gw_and1 (gt_cmp (op_eqA hr) ro_eqA (ge_ix ix_seq ro_ix (ge_var 1) (ge_int)) (ge_str) (nomark _))))) (gss_one (gs_ret (ge_makeKF (ks := ["sealed"]) tk mk_Meter_2_sealed hr (ga_cons (ge_ix ix_seq ro_ix (ge_var 1) (ge_int)) (ga_cons (ge_ix ix_seq ro_ix (ge_var 1) (ge_int)) (ga_nil))) (gk_cons (ge_cmp (op_eqA hr) ro_eqA (ge_callB call_len rc_len T.n_len (by decide +kernel) (ga_cons (ge_var 1) (ga_nil))) (ge_int) (nomark _)) (gk_nil))))) (gss_nil)))) (fun _ _ _ => gss_one (gs_ret (ge_non))))
    (gss_one (gs_ret (ge_non))))
/-! ### check_pipes -/
theorem sc_check_pipes : FnScope ["pipes", "names", "index", "pipe"] ["pipes"] (defScope s_check_pipes) := ⟨rfl, rfl, rfl, by decide +kernel, rfl, by decide +kernel, by decide +kernel⟩
theorem ok_check_pipes {nn : Bool} {P : Program} {w : World} {K : PySem.W.Frag} {mg : Str → Option Value} {base : Heap} {A : Ad} {f : Addr} {fd : FuncData} {dfs : List V} {kfs : List (Str × V)} (T : Txt K mg A) (F : FunD K "check_pipes" "check_pipes" (defArgs s_check_pipes) (defBody s_check_pipes) (defScope s_check_pipes) dfs kfs f fd) (c_Pipe_name : Pc P w K mg base nn (A.c "Pipe") "name" 1 (G_Pipe_name A)) (x_InvalidPipes : Xc P w K mg base "InvalidPipes" (A.c "InvalidPipes") "index") :
    FnX ⟨false, nn, false⟩ P w K mg base 3 f fd ["pipes"] (spG K 1 (G_check_pipes A)) := by
  rw [D_check_pipes]
  refine fn_G F sc_check_pipes (fun cdv Ar outer s H E pp hgd hr tk hp => ?_)
  replace hr : Room 2 (Ar.deeper (PyProof.Rows.envOfC "check_pipes" (defScope s_check_pipes) s.heap.objs.size f cdv)) := hr
  exact gss_cons (gs_if (GW.gt (gw_or (gt_not (gt_tru tru_ok rt_tru (ge_callB call_isi (rc_isi T.own T.kit) T.n_isinstance (by decide +kernel) (ga_cons (ge_var 0) (ga_cons (ge_ty T.n_tuple (by decide +kernel)) (ga_nil)))))) (gw_or1 (gt_cmp (op_eqA hr) ro_eqA (ge_callB call_len rc_len T.n_len (by decide +kernel) (ga_cons (ge_var 0) (ga_nil))) (ge_int) (nomark _))))) (gss_one (gs_raise rfl tk x_InvalidPipes hr (ge_non))) (gss_nil))
    (gss_cons (gs_set 1 sc_check_pipes.nd (ge_new (ga_nil)))
    (gss_one (gs_for hp rfl (gi_enumT T.n_enumerate (ga_cons (ge_var 0) (ga_nil))) (gg_tup rfl (ggs_cons (gg_name 2 sc_check_pipes.nd) (ggs_cons (gg_name 3 sc_check_pipes.nd) (ggs_nil)))) (gss_cons (gs_if (GW.gt (gw_or (gt_not (gt_tru tru_ok rt_tru (ge_callB call_isi (rc_isi T.own T.kit) T.n_isinstance (by decide +kernel) (ga_cons (ge_var 3) (ga_cons (ge_gref T.m_Pipe) (ga_nil)))))) (gw_or (gt_cmp op_in_seq ro_in (ge_propF c_Pipe_name hr (ge_var 3)) (ge_var 1) (by rfl)) (gw_or1 (gt_cmp op_ge ro_ge (ge_var 2) (ge_gint T.g_MOST_PIPES) (nomark _)))))) (gss_one (gs_raise rfl tk x_InvalidPipes hr (ge_var 2))) (gss_nil))
    (gss_one (gs_append (ge_var 1) (ge_propF c_Pipe_name hr (ge_var 3))))))))
/-! ### check_meters -/
theorem sc_check_meters : FnScope ["meters", "pipes", "places", "names", "index", "meter", "pipe"] ["meters", "pipes"] (defScope s_check_meters) := ⟨rfl, rfl, rfl, by decide +kernel, rfl, by decide +kernel, by decide +kernel⟩
theorem ok_check_meters {nn : Bool} {P : Program} {w : World} {K : PySem.W.Frag} {mg : Str → Option Value} {base : Heap} {A : Ad} {f : Addr} {fd : FuncData} {dfs : List V} {kfs : List (Str × V)} (T : Txt K mg A) (F : FunD K "check_meters" "check_meters" (defArgs s_check_meters) (defBody s_check_meters) (defScope s_check_meters) dfs kfs f fd) (c_Pipe_name : Pc P w K mg base nn (A.c "Pipe") "name" 1 (G_Pipe_name A)) (c_Meter_name : Pc P w K mg base nn (A.c "Meter") "name" 1 (G_Meter_name A)) (c_Meter_at : Pc P w K mg base nn (A.c "Meter") "at" 1 (G_Meter_at A)) (x_InvalidMeters : Xc P w K mg base "InvalidMeters" (A.c "InvalidMeters") "index") :
    FnX ⟨false, nn, false⟩ P w K mg base 3 f fd ["meters", "pipes"] (spG K 2 (G_check_meters A)) := by
  rw [D_check_meters]
  refine fn_G F sc_check_meters (fun cdv Ar outer s H E pp hgd hr tk hp => ?_)
  replace hr : Room 2 (Ar.deeper (PyProof.Rows.envOfC "check_meters" (defScope s_check_meters) s.heap.objs.size f cdv)) := hr
  exact gss_cons (gs_if (gt_not (gt_tru tru_ok rt_tru (ge_callB call_isi (rc_isi T.own T.kit) T.n_isinstance (by decide +kernel) (ga_cons (ge_var 0) (ga_cons (ge_ty T.n_tuple (by decide +kernel)) (ga_nil)))))) (gss_one (gs_raise rfl tk x_InvalidMeters hr (ge_non))) (gss_nil))
    (gss_cons (gs_setLc 2 (own := [("pipe", 6)]) rfl sc_check_meters.nd (gi_tup (ge_var 1)) (blkOk_by (by rfl)) (fun _ _ _ _ _ => gg_name 6 sc_check_meters.nd) (fun _ _ _ _ _ => gts_nil) (fun _ _ _ _ _ => ge_propF c_Pipe_name hr (ge_var 6)) (sw_true rfl rfl rfl (by decide +kernel)))
    (gss_cons (gs_set 3 sc_check_meters.nd (ge_new (ga_nil)))
    (gss_one (gs_for hp rfl (gi_enumT T.n_enumerate (ga_cons (ge_var 0) (ga_nil))) (gg_tup rfl (ggs_cons (gg_name 4 sc_check_meters.nd) (ggs_cons (gg_name 5 sc_check_meters.nd) (ggs_nil)))) (gss_cons (gs_if (GW.gt (gw_or (gt_not (gt_tru tru_ok rt_tru (ge_callB call_isi (rc_isi T.own T.kit) T.n_isinstance (by decide +kernel) (ga_cons (ge_var 5) (ga_cons (ge_gref T.m_Meter) (ga_nil)))))) (gw_or (gt_cmp op_in_seq ro_in (ge_propF c_Meter_name hr (ge_var 5)) (ge_var 3) (by rfl)) (gw_or (gt_cmp op_notIn_seq ro_in (ge_propF c_Meter_at hr (ge_var 5)) (ge_var 2) (by rfl)) (gw_or1 (gt_cmp op_ge ro_ge (ge_var 4) (ge_gint T.g_MOST_METERS) (nomark _))))))) (gss_one (gs_raise rfl tk x_InvalidMeters hr (ge_var 4))) (gss_nil))
    (gss_one (gs_append (ge_var 3) (ge_propF c_Meter_name hr (ge_var 5)))))))))
/-! ### Net.__init__ -/
theorem sc_Net_init : FnScope ["self", "pipes", "meters"] ["self", "pipes", "meters"] (defScope s_Net_init) := ⟨rfl, rfl, rfl, by decide +kernel, rfl, by decide +kernel, by decide +kernel⟩
theorem ok_Net_init {nn : Bool} {P : Program} {w : World} {K : PySem.W.Frag} {mg : Str → Option Value} {base : Heap} {A : Ad} {f : Addr} {fd : FuncData} {dfs : List V} {kfs : List (Str × V)} (T : Txt K mg A) (F : FunD K "__init__" "Net.__init__" (defArgs s_Net_init) (defBody s_Net_init) (defScope s_Net_init) dfs kfs f fd) (c_check_pipes : Fc P w K mg base ⟨false, nn, false⟩ "check_pipes" 3 1 (G_check_pipes A)) (c_check_meters : Fc P w K mg base ⟨false, nn, false⟩ "check_meters" 3 2 (G_check_meters A)) :
    FnX ⟨false, nn, false⟩ P w K mg base 4 f fd ["self", "pipes", "meters"] (spG K 3 (G_Net_init A)) := by
  rw [D_Net_init]
  refine fn_G F sc_Net_init (fun cdv Ar outer s H E pp hgd hr tk hp => ?_)
  replace hr : Room 3 (Ar.deeper (PyProof.Rows.envOfC "Net.__init__" (defScope s_Net_init) s.heap.objs.size f cdv)) := hr
  exact gss_cons (gs_expr (ge_callF (h := false) tk c_check_pipes nogd hr (ga_cons (ge_var 1) (ga_nil))))
    (gss_cons (gs_expr (ge_callF (h := false) tk c_check_meters nogd hr (ga_cons (ge_var 2) (ga_cons (ge_var 1) (ga_nil)))))
    (gss_cons (gs_fld T.k_Net.cl T.no_Net_joined (ge_var 0) (ge_var 1))
    (gss_one (gs_fld T.k_Net.cl T.no_Net_fitted (ge_var 0) (ge_var 2)))))
/-! ### Net.read -/
theorem sc_Net_read : FnScope ["cls", "text", "items", "pipes", "meters", "net", "line", "item"] ["cls", "text"] (defScope s_Net_read) := ⟨rfl, rfl, rfl, by decide +kernel, rfl, by decide +kernel, by decide +kernel⟩
theorem ok_Net_read {P : Program} {w : World} {K : PySem.W.Frag} {mg : Str → Option Value} {base : Heap} {A : Ad} {f : Addr} {fd : FuncData} {dfs : List V} {kfs : List (Str × V)} (T : Txt K mg A) (F : FunD K "read" "Net.read" (defArgs s_Net_read) (defBody s_Net_read) (defScope s_Net_read) dfs kfs f fd) (c_Net_str : Sc P w K mg base false (A.c "Net") "__str__" 4 1 (G_Net_str A)) (c_item_of : Fc P w K mg base ⟨false, false, false⟩ "item_of" 6 1 (G_item_of A)) (mk_Net_2_t : Mc P w K mg base true "Net" (A.c "Net") 4 3 (G_Net_init A) []) (x_InvalidText : Xc P w K mg base "InvalidText" (A.c "InvalidText") "given") :
    FnX ⟨false, false, false⟩ P w K mg base 7 f fd ["cls", "text"] (spG K 2 (G_Net_read A)) := by
  rw [D_Net_read]
  refine fn_G F sc_Net_read (fun cdv Ar outer s H E pp hgd hr tk hp => ?_)
  replace hr : Room 6 (Ar.deeper (PyProof.Rows.envOfC "Net.read" (defScope s_Net_read) s.heap.objs.size f cdv)) := hr
  exact gss_cons (gs_if (gt_not (gt_tru tru_ok rt_tru (ge_callB call_isi (rc_isi T.own T.kit) T.n_isinstance (by decide +kernel) (ga_cons (ge_var 1) (ga_cons (ge_ty T.n_str (by decide +kernel)) (ga_nil)))))) (gss_one (gs_raise rfl tk x_InvalidText hr (ge_var 1))) (gss_nil))
    (gss_cons (gs_setLc 2 (own := [("line", 6)]) rfl sc_Net_read.nd (gi_list (ge_split (ge_var 1) (ge_str))) (blkOk_by (by rfl)) (fun _ _ _ _ _ => gg_name 6 sc_Net_read.nd) (fun _ _ _ _ _ => gts_nil) (fun _ _ _ _ _ => ge_callF (h := false) tkF c_item_of nogd hr (ga_cons (ge_var 6) (ga_nil))) (sw_true rfl rfl rfl (by decide +kernel)))
    (gss_cons (gs_set 3 sc_Net_read.nd (ge_callTy call_tuple_of rc_tuple T.n_tuple (by decide +kernel) (ga_cons (ge_lc (own := [("item", 7)]) rfl sc_Net_read.nd (gi_list (ge_var 2)) (blkOk_by (by rfl)) (fun _ _ _ _ _ => gg_name 7 sc_Net_read.nd) (fun _ _ _ _ _ => gts_one (gt_tru tru_ok rt_tru (ge_callB call_isi (rc_isi T.own T.kit) T.n_isinstance (by decide +kernel) (ga_cons (ge_var 7) (ga_cons (ge_gref T.m_Pipe) (ga_nil)))))) (fun _ _ _ _ _ => ge_var 7)) (ga_nil))))
    (gss_cons (gs_set 4 sc_Net_read.nd (ge_callTy call_tuple_of rc_tuple T.n_tuple (by decide +kernel) (ga_cons (ge_lc (own := [("item", 7)]) rfl sc_Net_read.nd (gi_list (ge_var 2)) (blkOk_by (by rfl)) (fun _ _ _ _ _ => gg_name 7 sc_Net_read.nd) (fun _ _ _ _ _ => gts_one (gt_tru tru_ok rt_tru (ge_callB call_isi (rc_isi T.own T.kit) T.n_isinstance (by decide +kernel) (ga_cons (ge_var 7) (ga_cons (ge_gref T.m_Meter) (ga_nil)))))) (fun _ _ _ _ _ => ge_var 7)) (ga_nil))))
    (gss_cons (gs_try2 ⟨rfl, by decide, .inl T.m_BadValue⟩ T.xb_BadValue tk hr x_InvalidText T.ox_InvalidText (fun _ _ _ tk => gss_one (gs_set 5 sc_Net_read.nd (ge_makeLF 0 tk mk_Net_2_t hr (ga_cons (ge_var 3) (ga_cons (ge_var 4) (ga_nil)))))) (fun _ _ _ => ge_var 1) (L2H.passesAt_of rfl))
    (gss_cons (gs_if (gt_cmp (op_neA hr) ro_neA (ge_callTyM (call_strF c_Net_str hr) rcm_str T.n_str (by decide +kernel) (ga_cons (ge_var 5) (ga_nil))) (ge_var 1) (nomark _)) (gss_one (gs_raise rfl tk x_InvalidText hr (ge_var 1))) (gss_nil))
    (gss_one (gs_ret (ge_var 5))))))))
/-! ### Net.pipes -/
theorem sc_Net_pipes : FnScope ["self"] ["self"] (defScope s_Net_pipes) := ⟨rfl, rfl, rfl, by decide +kernel, rfl, by decide +kernel, by decide +kernel⟩
theorem ok_Net_pipes {nn : Bool} {P : Program} {w : World} {K : PySem.W.Frag} {mg : Str → Option Value} {base : Heap} {A : Ad} {f : Addr} {fd : FuncData} {dfs : List V} {kfs : List (Str × V)} (T : Txt K mg A) (F : FunD K "pipes" "Net.pipes" (defArgs s_Net_pipes) (defBody s_Net_pipes) (defScope s_Net_pipes) dfs kfs f fd)  :
    FnX ⟨false, nn, false⟩ P w K mg base 1 f fd ["self"] (spG K 1 (G_Net_pipes A)) := by
  rw [D_Net_pipes]
  refine fn_G F sc_Net_pipes (fun cdv Ar outer s H E pp hgd hr tk hp => ?_)
  replace hr : Room 0 (Ar.deeper (PyProof.Rows.envOfC "Net.pipes" (defScope s_Net_pipes) s.heap.objs.size f cdv)) := hr
  exact gss_one (gs_ret (ge_fld T.k_Net.cl T.no_Net_joined (ge_var 0)))
/-! ### Net.meters -/
theorem sc_Net_meters : FnScope ["self"] ["self"] (defScope s_Net_meters) := ⟨rfl, rfl, rfl, by decide +kernel, rfl, by decide +kernel, by decide +kernel⟩
theorem ok_Net_meters {nn : Bool} {P : Program} {w : World} {K : PySem.W.Frag} {mg : Str → Option Value} {base : Heap} {A : Ad} {f : Addr} {fd : FuncData} {dfs : List V} {kfs : List (Str × V)} (T : Txt K mg A) (F : FunD K "meters" "Net.meters" (defArgs s_Net_meters) (defBody s_Net_meters) (defScope s_Net_meters) dfs kfs f fd)  :
    FnX ⟨false, nn, false⟩ P w K mg base 1 f fd ["self"] (spG K 1 (G_Net_meters A)) := by
  rw [D_Net_meters]
  refine fn_G F sc_Net_meters (fun cdv Ar outer s H E pp hgd hr tk hp => ?_)
  replace hr : Room 0 (Ar.deeper (PyProof.Rows.envOfC "Net.meters" (defScope s_Net_meters) s.heap.objs.size f cdv)) := hr
  exact gss_one (gs_ret (ge_fld T.k_Net.cl T.no_Net_fitted (ge_var 0)))
/-! ### _law_net_text -/
theorem sc_net_text_k11 : FnScope ["_law_laid_here", "_law_fits_here", "_law_lines", "_law_row"] ["_law_laid_here", "_law_fits_here"] (defScope s_net_text_k11) := ⟨rfl, rfl, rfl, by decide +kernel, rfl, by decide +kernel, by decide +kernel⟩
theorem ok_net_text_k11 {P : Program} {w : World} {K : PySem.W.Frag} {mg : Str → Option Value} {base : Heap} {A : Ad} {f : Addr} {fd : FuncData} {dfs : List V} {kfs : List (Str × V)} (T : Txt K mg A) (F : FunD K "_law_net_text" "_law_net_text" (defArgs s_net_text_k11) (defBody s_net_text_k11) (defScope s_net_text_k11) dfs kfs f fd)  :
    FnX ⟨false, false, false⟩ P w K mg base 1 f fd ["_law_laid_here", "_law_fits_here"] (spG K 2 (G_net_text_k11 A)) := by
  rw [D_net_text_k11]
  refine fn_G F sc_net_text_k11 (fun cdv Ar outer s H E pp hgd hr tk hp => ?_)
  replace hr : Room 0 (Ar.deeper (PyProof.Rows.envOfC "_law_net_text" (defScope s_net_text_k11) s.heap.objs.size f cdv)) := hr
  exact gss_cons (gs_setLc 2 (own := [("_law_row", 3)]) rfl sc_net_text_k11.nd (gi_list (ge_var 0)) (blkOk_by (by rfl)) (fun _ _ _ _ _ => gg_name 3 sc_net_text_k11.nd) (fun _ _ _ _ _ => gts_nil) (fun _ _ _ _ _ => ge_op op_addA ro_addA (ge_str) (ge_join (ge_str) (ge_var 3))) (sw_true rfl rfl rfl (by decide +kernel)))
    (gss_cons (gs_set 2 sc_net_text_k11.nd (ge_op op_addA ro_addA (ge_var 2) (ge_lc (own := [("_law_row", 3)]) rfl sc_net_text_k11.nd (gi_list (ge_var 1)) (blkOk_by (by rfl)) (fun _ _ _ _ _ => gg_name 3 sc_net_text_k11.nd) (fun _ _ _ _ _ => gts_nil) (fun _ _ _ _ _ => ge_op op_addA ro_addA (ge_op op_addA ro_addA (ge_op op_addA ro_addA (ge_op op_addA ro_addA (ge_str) (ge_ix ix_seq ro_ix (ge_var 3) (ge_int))) (ge_str)) (ge_ix ix_seq ro_ix (ge_var 3) (ge_int))) (ge_ifExp (gt_tru tru_ok rt_tru (ge_ix ix_seq ro_ix (ge_var 3) (ge_int))) (ge_str) (ge_str))))))
    (gss_one (gs_ret (ge_join (ge_str) (ge_var 2)))))
/-! ### Net.__len__ -/
theorem sc_Net_len : FnScope ["self"] ["self"] (defScope s_Net_len) := ⟨rfl, rfl, rfl, by decide +kernel, rfl, by decide +kernel, by decide +kernel⟩
theorem ok_Net_len {nn : Bool} {P : Program} {w : World} {K : PySem.W.Frag} {mg : Str → Option Value} {base : Heap} {A : Ad} {f : Addr} {fd : FuncData} {dfs : List V} {kfs : List (Str × V)} (T : Txt K mg A) (F : FunD K "__len__" "Net.__len__" (defArgs s_Net_len) (defBody s_Net_len) (defScope s_Net_len) dfs kfs f fd)  :
    FnX ⟨false, nn, false⟩ P w K mg base 1 f fd ["self"] (spG K 1 (G_Net_len A)) := by
  rw [D_Net_len]
  refine fn_G F sc_Net_len (fun cdv Ar outer s H E pp hgd hr tk hp => ?_)
  replace hr : Room 0 (Ar.deeper (PyProof.Rows.envOfC "Net.__len__" (defScope s_Net_len) s.heap.objs.size f cdv)) := hr
  exact gss_one (gs_ret (ge_callB call_len rc_len T.n_len (by decide +kernel) (ga_cons (ge_fld T.k_Net.cl T.no_Net_joined (ge_var 0)) (ga_nil))))
/-! ### _law_is -/
theorem sc_is_k11 : FnScope ["_law_net", "_law_laid_here", "_law_fits_here", "_law_kinds", "_law_told", "_law_more", "_law_each"] ["_law_net", "_law_laid_here", "_law_fits_here"] (defScope s_is_k11) := ⟨rfl, rfl, rfl, by decide +kernel, rfl, by decide +kernel, by decide +kernel⟩
theorem ok_is_k11 {P : Program} {w : World} {K : PySem.W.Frag} {mg : Str → Option Value} {base : Heap} {A : Ad} {f : Addr} {fd : FuncData} {dfs : List V} {kfs : List (Str × V)} (T : Txt K mg A) (F : FunD K "_law_is" "_law_is" (defArgs s_is_k11) (defBody s_is_k11) (defScope s_is_k11) dfs kfs f fd) (c_Pipe_name : Pc P w K mg base false (A.c "Pipe") "name" 1 (G_Pipe_name A)) (c_Pipe_start : Pc P w K mg base false (A.c "Pipe") "start" 1 (G_Pipe_start A)) (c_Pipe_end : Pc P w K mg base false (A.c "Pipe") "end" 1 (G_Pipe_end A)) (c_Meter_name : Pc P w K mg base false (A.c "Meter") "name" 1 (G_Meter_name A)) (c_Meter_at : Pc P w K mg base false (A.c "Meter") "at" 1 (G_Meter_at A)) (c_Meter_sealed : Pc P w K mg base false (A.c "Meter") "sealed" 1 (G_Meter_sealed A)) (c_Net_str : Sc P w K mg base false (A.c "Net") "__str__" 4 1 (G_Net_str A)) (c_Net_pipes : Pc P w K mg base false (A.c "Net") "pipes" 1 (G_Net_pipes A)) (c_Net_meters : Pc P w K mg base false (A.c "Net") "meters" 1 (G_Net_meters A)) (c_net_text_k11 : Fc P w K mg base ⟨false, false, false⟩ "_law_net_text" 1 2 (G_net_text_k11 A)) (c_Net_len : Sc P w K mg base false (A.c "Net") "__len__" 1 1 (G_Net_len A)) :
    FnX ⟨true, false, false⟩ P w K mg base 7 f fd ["_law_net", "_law_laid_here", "_law_fits_here"] (spG K 3 (G_is_k11 A)) := by
  rw [D_is_k11]
  refine fn_G F sc_is_k11 (fun cdv Ar outer s H E pp hgd hr tk hp => ?_)
  replace hr : Room 6 (Ar.deeper (PyProof.Rows.envOfC "_law_is" (defScope s_is_k11) s.heap.objs.size f cdv)) := hr
  have hgd0 := hgd rfl
  exact gss_cons (gs_if (GW.gt (gw_or (gt_not (gt_tru tru_ok rt_tru (ge_callB call_isi (rc_isi T.own T.kit) T.n_isinstance (by decide +kernel) (ga_cons (ge_var 0) (ga_cons (ge_gref T.m_Net) (ga_nil)))))) (gw_or (gt_not (gt_tru tru_ok rt_tru (ge_callB call_isi (rc_isi T.own T.kit) T.n_isinstance (by decide +kernel) (ga_cons (ge_propF c_Net_pipes hr (ge_var 0)) (ga_cons (ge_ty T.n_tuple (by decide +kernel)) (ga_nil)))))) (gw_or1 (gt_not (gt_tru tru_ok rt_tru (ge_callB call_isi (rc_isi T.own T.kit) T.n_isinstance (by decide +kernel) (ga_cons (ge_propF c_Net_meters hr (ge_var 0)) (ga_cons (ge_ty T.n_tuple (by decide +kernel)) (ga_nil)))))))))) (gss_one (gs_ret (ge_bl))) (gss_nil))
    (gss_cons (gs_set 3 sc_is_k11.nd (ge_op op_addA ro_addA (ge_lc (own := [("_law_each", 6)]) rfl sc_is_k11.nd (gi_tup (ge_propF c_Net_pipes hr (ge_var 0))) (blkOk_by (by rfl)) (fun _ _ _ _ _ => gg_name 6 sc_is_k11.nd) (fun _ _ _ _ _ => gts_nil) (fun _ _ _ _ _ => ge_callB call_isi (rc_isi T.own T.kit) T.n_isinstance (by decide +kernel) (ga_cons (ge_var 6) (ga_cons (ge_gref T.m_Pipe) (ga_nil))))) (ge_lc (own := [("_law_each", 6)]) rfl sc_is_k11.nd (gi_tup (ge_propF c_Net_meters hr (ge_var 0))) (blkOk_by (by rfl)) (fun _ _ _ _ _ => gg_name 6 sc_is_k11.nd) (fun _ _ _ _ _ => gts_nil) (fun _ _ _ _ _ => ge_callB call_isi (rc_isi T.own T.kit) T.n_isinstance (by decide +kernel) (ga_cons (ge_var 6) (ga_cons (ge_gref T.m_Meter) (ga_nil)))))))
    (gss_cons (gs_if (gt_not (gt_tru tru_ok rt_tru (ge_callB (cr_all rfl) rc_all T.n_all (by decide +kernel) (ga_cons (ge_var 3) (ga_nil))))) (gss_one (gs_ret (ge_bl))) (gss_nil))
    (gss_cons (gs_setLc 4 (own := [("_law_each", 6)]) rfl sc_is_k11.nd (gi_tup (ge_propF c_Net_pipes hr (ge_var 0))) (blkOk_by (by rfl)) (fun _ _ _ _ _ => gg_name 6 sc_is_k11.nd) (fun _ _ _ _ _ => gts_nil) (fun _ _ _ _ _ => ge_tup (ga_cons (ge_propF c_Pipe_name hr (ge_var 6)) (ga_cons (ge_propF c_Pipe_start hr (ge_var 6)) (ga_cons (ge_propF c_Pipe_end hr (ge_var 6)) (ga_nil))))) (sw_true rfl rfl rfl (by decide +kernel)))
    (gss_cons (gs_setLc 5 (own := [("_law_each", 6)]) rfl sc_is_k11.nd (gi_tup (ge_propF c_Net_meters hr (ge_var 0))) (blkOk_by (by rfl)) (fun _ _ _ _ _ => gg_name 6 sc_is_k11.nd) (fun _ _ _ _ _ => gts_nil) (fun _ _ _ _ _ => ge_tup (ga_cons (ge_propF c_Meter_name hr (ge_var 6)) (ga_cons (ge_propF c_Meter_at hr (ge_var 6)) (ga_cons (ge_propF c_Meter_sealed hr (ge_var 6)) (ga_nil))))) (sw_true rfl rfl rfl (by decide +kernel)))
    (gss_one (gs_ret (ge_and (ge_cmp (op_eqA hr) ro_eqA (ge_callB (call_repr2 (h := false) hgd0 hr) rc_repr2 T.n_repr (by decide +kernel) (ga_cons (ge_lst (ga_cons (ge_var 4) (ga_cons (ge_var 5) (ga_nil)))) (ga_nil))) (ge_callB (call_repr2 (h := false) hgd0 hr) rc_repr2 T.n_repr (by decide +kernel) (ga_cons (ge_lst (ga_cons (ge_var 1) (ga_cons (ge_var 2) (ga_nil)))) (ga_nil))) (nomark _)) (ge_and (ge_cmp (op_eqA hr) ro_eqA (ge_callTyM (call_strF c_Net_str hr) rcm_str T.n_str (by decide +kernel) (ga_cons (ge_var 0) (ga_nil))) (ge_callF (h := false) tk c_net_text_k11 nogd hr (ga_cons (ge_var 1) (ga_cons (ge_var 2) (ga_nil)))) (nomark _)) (ge_one (ge_cmp (op_eqA hr) ro_eqA (ge_callBM (call_lenF c_Net_len hr) rcm_len T.n_len (by decide +kernel) (ga_cons (ge_var 0) (ga_nil))) (ge_callB call_len rc_len T.n_len (by decide +kernel) (ga_cons (ge_var 1) (ga_nil))) (nomark _)))))))))))
/-! ### _law_read_right -/
theorem sc_read_right_k13 : FnScope ["_law_given", "_law_due", "_law_told"] ["_law_given"] (defScope s_read_right_k13) := ⟨rfl, rfl, rfl, by decide +kernel, rfl, by decide +kernel, by decide +kernel⟩
theorem ok_read_right_k13 {P : Program} {w : World} {K : PySem.W.Frag} {mg : Str → Option Value} {base : Heap} {A : Ad} {f : Addr} {fd : FuncData} {dfs : List V} {kfs : List (Str × V)} (T : Txt K mg A) (F : FunD K "_law_read_right" "_law_read_right" (defArgs s_read_right_k13) (defBody s_read_right_k13) (defScope s_read_right_k13) dfs kfs f fd) (c_net_in_k13 : Fc P w K mg base ⟨false, false, false⟩ "_law_net_in" 3 1 (G_net_in_k13 A)) (c_caught_k10 : Cc P w K mg base "_law_caught" 7 (errL A errNames) 3 1 2 (T_caught_k10 A) (S_caught_k10 A)) (c_Net_read : Cm P w K mg base false (A.c "Net") "read" 7 2 (G_Net_read A)) (c_is_k11 : Fc P w K mg base ⟨true, false, false⟩ "_law_is" 7 3 (G_is_k11 A)) (ck_Net_read_text : CmK P w K mg base false (A.c "Net") "read" 7 2 ["text"] (G_Net_read A) (perm [0])) (t_tab : TabD K base mg f "_law_read_right" (A.t "_law_read_right")) :
    FnX ⟨true, false, false⟩ P w K mg base 10 f fd ["_law_given"] (spG K 1 (G_read_right_k13 A)) := by
  rw [D_read_right_k13]
  refine fn_GL F sc_read_right_k13 (fun cdv Ar outer s H E pp hcdv hgd hr tk hp => ?_)
  replace hr : Room 9 (Ar.deeper (PyProof.Rows.envOfC "_law_read_right" (defScope s_read_right_k13) s.heap.objs.size f cdv)) := hr
  have hgd0 := hgd rfl
  obtain ⟨cda, rfl, TB⟩ := t_tab cdv hcdv
  exact gss_cons (gs_set 1 sc_read_right_k13.nd (ge_ifExp (gt_tru tru_ok rt_tru (ge_callB call_isi (rc_isi T.own T.kit) T.n_isinstance (by decide +kernel) (ga_cons (ge_var 0) (ga_cons (ge_ty T.n_str (by decide +kernel)) (ga_nil))))) (ge_callF (h := false) tk c_net_in_k13 nogd hr (ga_cons (ge_var 0) (ga_nil))) (ge_non)))
    (gss_cons (gs_if (gt_cmp op_isN ro_isN (ge_var 1) (ge_non) (nomark _)) (gss_cons (gs_set 2 sc_read_right_k13.nd (ge_lst (ga_cons (ge_caught c_caught_k10 TB rfl hgd0 hr (LamX.lamS_by (by rfl)) (fun _ _ _ _ _ _ _ hgA hrA tkA => ge_cmeth tkA c_Net_read hrA (ge_gref T.m_Net) (ga_cons (ge_var 0) (ga_nil)))) (ga_nil))))
    (gss_one (gs_ret (ge_cmp (op_eqA hr) ro_eqA (ge_op op_addA ro_addA (ge_var 2) (ge_lst (ga_cons (ge_caught c_caught_k10 TB rfl hgd0 hr (LamX.lamS_by (by rfl)) (fun _ _ _ _ _ _ _ hgA hrA tkA => ge_cmethK (ks := ["text"]) tkA ck_Net_read_text hrA (ge_gref T.m_Net) (gk_cons (ge_var 0) (gk_nil)))) (ga_nil)))) (ge_op op_rep ro_repL (ge_lst (ga_cons (ge_lst (ga_cons (ge_int) (ga_cons (ge_callB (call_repr2 (h := false) hgd0 hr) rc_repr2 T.n_repr (by decide +kernel) (ga_cons (ge_var 0) (ga_nil))) (ga_nil)))) (ga_nil))) (ge_int)) (nomark _))))) (gss_nil))
    (gss_one (gs_ret (ge_and (ge_cmp (op_eqA hr) ro_eqA (ge_caught c_caught_k10 TB rfl hgd0 hr (LamX.lamS_by (by rfl)) (fun _ _ _ _ _ _ _ hgA hrA tkA => ge_cmeth tkA c_Net_read hrA (ge_gref T.m_Net) (ga_cons (ge_var 0) (ga_nil)))) (ge_lst (ga_cons (ge_str) (ga_cons (ge_op op_addA ro_addA (ge_str) (ge_var 0)) (ga_nil)))) (nomark _)) (ge_one (ge_callF (h := false) tk c_is_k11 hgd hr (ga_cons (ge_cmeth tk c_Net_read hr (ge_gref T.m_Net) (ga_cons (ge_var 0) (ga_nil))) (ga_cons (ge_ix ix_seq ro_ix (ge_var 1) (ge_int)) (ga_cons (ge_ix ix_seq ro_ix (ge_var 1) (ge_int)) (ga_nil))))))))))
/-! ### _law_well -/
theorem sc_well_k01 : FnScope ["_law_cells", "_law_k", "_law_cell", "_law_other"] ["_law_cells", "_law_k"] (defScope s_well_k01) := ⟨rfl, rfl, rfl, by decide +kernel, rfl, by decide +kernel, by decide +kernel⟩
theorem ok_well_k01 {P : Program} {w : World} {K : PySem.W.Frag} {mg : Str → Option Value} {base : Heap} {A : Ad} {f : Addr} {fd : FuncData} {dfs : List V} {kfs : List (Str × V)} (T : Txt K mg A) (F : FunD K "_law_well" "_law_well" (defArgs s_well_k01) (defBody s_well_k01) (defScope s_well_k01) dfs kfs f fd)  :
    FnX ⟨false, false, false⟩ P w K mg base 1 f fd ["_law_cells", "_law_k"] (spG K 2 (G_well_k01 A)) := by
  rw [D_well_k01]
  refine fn_N F sc_well_k01 (fun cdv Ar outer s H E pp hgd hr tk hp => ?_)
  replace hr : Room 0 (Ar.deeper (PyProof.Rows.envOfC "_law_well" (defScope s_well_k01) s.heap.objs.size f cdv)) := hr
  exact gss_cons (gs_set 2 sc_well_k01.nd (ge_ifExp (gt_cmp op_lt ro_lt (ge_var 1) (ge_callB call_len rc_len T.n_len (by decide +kernel) (ga_cons (ge_var 0) (ga_nil))) (nomark _)) (ge_ix ix_seq ro_ix (ge_var 0) (ge_var 1)) (ge_op op_mul ro_mul (ge_op op_mul ro_mul (ge_int) (ge_op op_addA ro_addA (ge_var 1) (ge_int))) (ge_op op_addA ro_addA (ge_var 1) (ge_int)))))
    (gss_cons (gs_if (gt_cmp op_ge ro_ge (ge_var 1) (ge_callB call_len rc_len T.n_len (by decide +kernel) (ga_cons (ge_var 0) (ga_nil))) (nomark _)) (gss_one (gs_for hp rfl (gi_list (ge_var 0)) (gg_name 3 sc_well_k01.nd) (gss_one (gs_set 2 sc_well_k01.nd (ge_op op_mod ro_mod (ge_callTy call_int1 rc_int1 T.n_int (by decide +kernel) (ga_cons (ge_op op_addA ro_addA (ge_op op_mul ro_mul (ge_var 2) (ge_int)) (ge_var 3)) (ga_nil))) (ge_int)))))) (gss_nil))
    (gss_one (gs_ret (ge_new (ga_cons (ge_op op_mod ro_mod (ge_callTy call_int1 rc_int1 T.n_int (by decide +kernel) (ga_cons (ge_var 2) (ga_nil))) (ge_int)) (ga_cons (ge_ifExp (gt_cmp op_ge ro_ge (ge_callB call_abs rc_abs T.n_abs (by decide +kernel) (ga_cons (ge_var 2) (ga_nil))) (ge_op op_pow ro_pow (ge_int) (ge_int)) (nomark _)) (ge_callB call_abs rc_abs T.n_abs (by decide +kernel) (ga_cons (ge_var 2) (ga_nil))) (ge_int)) (ga_cons (ge_int) (ga_nil))))))))
/-! ### _law_dip -/
theorem sc_dip_k01 : FnScope ["_law_well_here", "_law_many", "_law_digit", "_law_mixed"] ["_law_well_here", "_law_many"] (defScope s_dip_k01) := ⟨rfl, rfl, rfl, by decide +kernel, rfl, by decide +kernel, by decide +kernel⟩
theorem ok_dip_k01 {P : Program} {w : World} {K : PySem.W.Frag} {mg : Str → Option Value} {base : Heap} {A : Ad} {f : Addr} {fd : FuncData} {dfs : List V} {kfs : List (Str × V)} (T : Txt K mg A) (F : FunD K "_law_dip" "_law_dip" (defArgs s_dip_k01) (defBody s_dip_k01) (defScope s_dip_k01) dfs kfs f fd)  :
    FnX ⟨false, false, false⟩ P w K mg base 1 f fd ["_law_well_here", "_law_many"] (spG K 2 (G_dip_k01 A)) := by
  rw [D_dip_k01]
  refine fn_G F sc_dip_k01 (fun cdv Ar outer s H E pp hgd hr tk hp => ?_)
  replace hr : Room 0 (Ar.deeper (PyProof.Rows.envOfC "_law_dip" (defScope s_dip_k01) s.heap.objs.size f cdv)) := hr
  exact gss_cons (gs_setIx (ge_op op_addA ro_addA (ge_ix ix_seq ro_ix (ge_var 0) (ge_int)) (ge_int)) (ge_var 0) (ge_int))
    (gss_cons (gs_if (gt_cmp op_gt ro_gt (ge_ix ix_seq ro_ix (ge_var 0) (ge_int)) (ge_int) (nomark _)) (gss_cons (gs_pairSet 2 rfl sc_dip_k01.nd (ge_callB call_divmodW rc_divmod T.n_divmod (by decide +kernel) (ga_cons (ge_ix ix_seq ro_ix (ge_var 0) (ge_int)) (ga_cons (ge_var 1) (ga_nil)))) (ge_var 0) (ge_int))
    (gss_one (gs_ret (ge_var 2)))) (gss_nil))
    (gss_cons (gs_setIx (ge_op op_mod ro_mod (ge_callTy call_int1 rc_int1 T.n_int (by decide +kernel) (ga_cons (ge_op op_addA ro_addA (ge_op op_addA ro_addA (ge_op op_mul ro_mul (ge_ix ix_seq ro_ix (ge_var 0) (ge_int)) (ge_int)) (ge_op op_mul ro_mul (ge_op op_mul ro_mul (ge_int) (ge_ix ix_seq ro_ix (ge_var 0) (ge_int))) (ge_ix ix_seq ro_ix (ge_var 0) (ge_int)))) (ge_int)) (ga_nil))) (ge_int)) (ge_var 0) (ge_int))
    (gss_cons (gs_set 3 sc_dip_k01.nd (ge_op op_mod ro_mod (ge_callTy call_int1 rc_int1 T.n_int (by decide +kernel) (ga_cons (ge_op op_mul ro_mul (ge_ix ix_seq ro_ix (ge_var 0) (ge_int)) (ge_op op_addA ro_addA (ge_op op_mod ro_mod (ge_callTy call_int1 rc_int1 T.n_int (by decide +kernel) (ga_cons (ge_ix ix_seq ro_ix (ge_var 0) (ge_int)) (ga_nil))) (ge_int)) (ge_int))) (ga_nil))) (ge_int)))
    (gss_one (gs_ret (ge_op op_mod ro_mod (ge_callTy call_int1 rc_int1 T.n_int (by decide +kernel) (ga_cons (ge_op op_fdiv ro_fdiv (ge_var 3) (ge_int)) (ga_nil))) (ge_var 1)))))))
/-! ### _law_name -/
theorem sc_name_k02 : FnScope ["_law_well_here", "_law_signs", "_law_line", "_law_turn"] ["_law_well_here"] (defScope s_name_k02) := ⟨rfl, rfl, rfl, by decide +kernel, rfl, by decide +kernel, by decide +kernel⟩
theorem ok_name_k02 {P : Program} {w : World} {K : PySem.W.Frag} {mg : Str → Option Value} {base : Heap} {A : Ad} {f : Addr} {fd : FuncData} {dfs : List V} {kfs : List (Str × V)} (T : Txt K mg A) (F : FunD K "_law_name" "_law_name" (defArgs s_name_k02) (defBody s_name_k02) (defScope s_name_k02) dfs kfs f fd) (c_dip_k01 : Fc P w K mg base ⟨false, false, false⟩ "_law_dip" 1 2 (G_dip_k01 A)) :
    FnX ⟨false, false, false⟩ P w K mg base 2 f fd ["_law_well_here"] (spG K 1 (G_name_k02 A)) := by
  rw [D_name_k02]
  refine fn_G F sc_name_k02 (fun cdv Ar outer s H E pp hgd hr tk hp => ?_)
  replace hr : Room 1 (Ar.deeper (PyProof.Rows.envOfC "_law_name" (defScope s_name_k02) s.heap.objs.size f cdv)) := hr
  exact gss_cons (gs_if (gt_cmp (op_eqA hr) ro_eqA (ge_callF (h := false) tk c_dip_k01 nogd hr (ga_cons (ge_var 0) (ga_cons (ge_int) (ga_nil)))) (ge_int) (nomark _)) (gss_one (gs_ret (ge_ix ix_seq ro_ix (ge_lst (ga_cons (ge_str) (ga_cons (ge_str) (ga_cons (ge_str) (ga_cons (ge_str) (ga_cons (ge_str) (ga_cons (ge_str) (ga_cons (ge_str) (ga_cons (ge_str) (ga_nil)))))))))) (ge_callF (h := false) tk c_dip_k01 nogd hr (ga_cons (ge_var 0) (ga_cons (ge_int) (ga_nil))))))) (gss_nil))
    (gss_cons (gs_set 1 sc_name_k02.nd (ge_str))
    (gss_cons (gs_set 2 sc_name_k02.nd (ge_ix ix_seq ro_ix (ge_var 1) (ge_callF (h := false) tk c_dip_k01 nogd hr (ga_cons (ge_var 0) (ga_cons (ge_int) (ga_nil))))))
    (gss_cons (gs_for hp rfl (gi_range1 T.n_range (ga_cons (ge_callF (h := false) tk c_dip_k01 nogd hr (ga_cons (ge_var 0) (ga_cons (ge_int) (ga_nil)))) (ga_nil))) (gg_name 3 sc_name_k02.nd) (gss_one (gs_set 2 sc_name_k02.nd (ge_op op_addA ro_addA (ge_var 2) (ge_ix ix_seq ro_ix (ge_var 1) (ge_callF (h := false) tk c_dip_k01 nogd hr (ga_cons (ge_var 0) (ga_cons (ge_int) (ga_nil)))))))))
    (gss_one (gs_ret (ge_var 2))))))
/-! ### _law_fresh -/
theorem sc_fresh_k02 : FnScope ["_law_well_here", "_law_taken_here", "_law_way", "_law_title", "_law_mate", "_law_free", "_law_sign_here", "_law_each"] ["_law_well_here", "_law_taken_here"] (defScope s_fresh_k02) := ⟨rfl, rfl, rfl, by decide +kernel, rfl, by decide +kernel, by decide +kernel⟩
theorem ok_fresh_k02 {P : Program} {w : World} {K : PySem.W.Frag} {mg : Str → Option Value} {base : Heap} {A : Ad} {f : Addr} {fd : FuncData} {dfs : List V} {kfs : List (Str × V)} (T : Txt K mg A) (F : FunD K "_law_fresh" "_law_fresh" (defArgs s_fresh_k02) (defBody s_fresh_k02) (defScope s_fresh_k02) dfs kfs f fd) (c_dip_k01 : Fc P w K mg base ⟨false, false, false⟩ "_law_dip" 1 2 (G_dip_k01 A)) (c_name_k02 : Fc P w K mg base ⟨false, false, false⟩ "_law_name" 2 1 (G_name_k02 A)) :
    FnX ⟨false, false, false⟩ P w K mg base 3 f fd ["_law_well_here", "_law_taken_here"] (spG K 2 (G_fresh_k02 A)) := by
  rw [D_fresh_k02]
  refine fn_G F sc_fresh_k02 (fun cdv Ar outer s H E pp hgd hr tk hp => ?_)
  replace hr : Room 2 (Ar.deeper (PyProof.Rows.envOfC "_law_fresh" (defScope s_fresh_k02) s.heap.objs.size f cdv)) := hr
  exact gss_cons (gs_asg (ge_tup (ga_cons (ge_callF (h := false) tk c_dip_k01 nogd hr (ga_cons (ge_var 0) (ga_cons (ge_int) (ga_nil)))) (ga_cons (ge_callF (h := false) tk c_name_k02 nogd hr (ga_cons (ge_var 0) (ga_nil))) (ga_nil)))) (gg_tup rfl (ggs_cons (gg_name 2 sc_fresh_k02.nd) (ggs_cons (gg_name 3 sc_fresh_k02.nd) (ggs_nil)))))
    (gss_cons (gs_if (GW.gt (gw_and (gt_cmp (op_neA hr) ro_neA (ge_var 1) (ge_lst (ga_nil)) (nomark _)) (gw_and1 (gt_cmp op_lt ro_lt (ge_var 2) (ge_int) (nomark _))))) (gss_cons (gs_set 4 sc_fresh_k02.nd (ge_ix ix_seq ro_ix (ge_var 1) (ge_callF (h := false) tk c_dip_k01 nogd hr (ga_cons (ge_var 0) (ga_cons (ge_callB call_len rc_len T.n_len (by decide +kernel) (ga_cons (ge_var 1) (ga_nil))) (ga_nil))))))
    (gss_one (gs_set 3 sc_fresh_k02.nd (ge_ifExp (gt_cmp (op_eqA hr) ro_eqA (ge_var 2) (ge_int) (nomark _)) (ge_slice sl_A rsl_A (ge_op op_addA ro_addA (ge_var 4) (ge_var 3)) (go_none) (go_some (ge_int))) (ge_slice sl_A rsl_A (ge_var 4) (go_none) (go_some (ge_op op_addA ro_addA (ge_int) (ge_callF (h := false) tk c_dip_k01 nogd hr (ga_cons (ge_var 0) (ga_cons (ge_int) (ga_nil))))))))))) (gss_nil))
    (gss_cons (gs_if (gt_cmp op_notIn_seq ro_in (ge_var 3) (ge_var 1) (by rfl)) (gss_one (gs_ret (ge_var 3))) (gss_nil))
    (gss_cons (gs_setLc 5 (own := [("_law_sign_here", 6)]) rfl sc_fresh_k02.nd (gi_str (ge_str)) (blkOk_by (by rfl)) (fun _ _ _ _ _ => gg_name 6 sc_fresh_k02.nd) (fun _ _ _ _ _ => gts_nil) (fun _ _ _ _ _ => ge_op op_addA ro_addA (ge_slice sl_A rsl_A (ge_var 3) (go_none) (go_some (ge_int))) (ge_var 6)) (sw_true rfl rfl rfl (by decide +kernel)))
    (gss_one (gs_ret (ge_ix ix_seq ro_ix (ge_lc (own := [("_law_each", 7)]) rfl sc_fresh_k02.nd (gi_list (ge_var 5)) (blkOk_by (by rfl)) (fun _ _ _ _ _ => gg_name 7 sc_fresh_k02.nd) (fun _ _ _ _ _ => gts_one (gt_cmp op_notIn_seq ro_in (ge_var 7) (ge_var 1) (by rfl))) (fun _ _ _ _ _ => ge_var 7)) (ge_int)))))))
/-! ### _law_laid -/
theorem sc_laid_k11 : FnScope ["_law_well_here", "_law_least", "_law_most", "_law_places", "_law_found", "_law_turn", "_law_here", "_law_step", "_law_title", "_law_row"] ["_law_well_here", "_law_least", "_law_most"] (defScope s_laid_k11) := ⟨rfl, rfl, rfl, by decide +kernel, rfl, by decide +kernel, by decide +kernel⟩
theorem ok_laid_k11 {P : Program} {w : World} {K : PySem.W.Frag} {mg : Str → Option Value} {base : Heap} {A : Ad} {f : Addr} {fd : FuncData} {dfs : List V} {kfs : List (Str × V)} (T : Txt K mg A) (F : FunD K "_law_laid" "_law_laid" (defArgs s_laid_k11) (defBody s_laid_k11) (defScope s_laid_k11) dfs kfs f fd) (c_dip_k01 : Fc P w K mg base ⟨false, false, false⟩ "_law_dip" 1 2 (G_dip_k01 A)) (c_fresh_k02 : Fc P w K mg base ⟨false, false, false⟩ "_law_fresh" 3 2 (G_fresh_k02 A)) :
    FnX ⟨false, false, false⟩ P w K mg base 4 f fd ["_law_well_here", "_law_least", "_law_most"] (spG K 3 (G_laid_k11 A)) := by
  rw [D_laid_k11]
  refine fn_G F sc_laid_k11 (fun cdv Ar outer s H E pp hgd hr tk hp => ?_)
  replace hr : Room 3 (Ar.deeper (PyProof.Rows.envOfC "_law_laid" (defScope s_laid_k11) s.heap.objs.size f cdv)) := hr
  exact gss_cons (gs_par2 3 4 rfl sc_laid_k11.nd (ga_cons (ge_new (ga_nil)) (ga_cons (ge_new (ga_nil)) (ga_nil))))
    (gss_cons (gs_for hp rfl (gi_range1 T.n_range (ga_cons (ge_op op_addA ro_addA (ge_int) (ge_callF (h := false) tk c_dip_k01 nogd hr (ga_cons (ge_var 0) (ga_cons (ge_int) (ga_nil))))) (ga_nil))) (gg_name 5 sc_laid_k11.nd) (gss_one (gs_append (ge_var 3) (ge_callF (h := false) tk c_fresh_k02 nogd hr (ga_cons (ge_var 0) (ga_cons (ge_var 3) (ga_nil)))))))
    (gss_cons (gs_for hp rfl (gi_range1 T.n_range (ga_cons (ge_op op_addA ro_addA (ge_var 1) (ge_callF (h := false) tk c_dip_k01 nogd hr (ga_cons (ge_var 0) (ga_cons (ge_op op_sub ro_sub (ge_op op_addA ro_addA (ge_var 2) (ge_int)) (ge_var 1)) (ga_nil))))) (ga_nil))) (gg_name 5 sc_laid_k11.nd) (gss_cons (gs_par2 6 7 rfl sc_laid_k11.nd (ga_cons (ge_callF (h := false) tk c_dip_k01 nogd hr (ga_cons (ge_var 0) (ga_cons (ge_callB call_len rc_len T.n_len (by decide +kernel) (ga_cons (ge_var 3) (ga_nil))) (ga_nil)))) (ga_cons (ge_op op_addA ro_addA (ge_int) (ge_callF (h := false) tk c_dip_k01 nogd hr (ga_cons (ge_var 0) (ga_cons (ge_op op_sub ro_sub (ge_callB call_len rc_len T.n_len (by decide +kernel) (ga_cons (ge_var 3) (ga_nil))) (ge_int)) (ga_nil))))) (ga_nil))))
    (gss_cons (gs_set 8 sc_laid_k11.nd (ge_callF (h := false) tk c_fresh_k02 nogd hr (ga_cons (ge_var 0) (ga_cons (ge_lc (own := [("_law_row", 9)]) rfl sc_laid_k11.nd (gi_list (ge_var 4)) (blkOk_by (by rfl)) (fun _ _ _ _ _ => gg_name 9 sc_laid_k11.nd) (fun _ _ _ _ _ => gts_nil) (fun _ _ _ _ _ => ge_ix ix_seq ro_ix (ge_var 9) (ge_int))) (ga_nil)))))
    (gss_one (gs_append (ge_var 4) (ge_tup (ga_cons (ge_var 8) (ga_cons (ge_ix ix_seq ro_ix (ge_var 3) (ge_var 6)) (ga_cons (ge_ix ix_seq ro_ix (ge_var 3) (ge_op op_mod ro_mod (ge_callTy call_int1 rc_int1 T.n_int (by decide +kernel) (ga_cons (ge_op op_addA ro_addA (ge_var 6) (ge_var 7)) (ga_nil))) (ge_callB call_len rc_len T.n_len (by decide +kernel) (ga_cons (ge_var 3) (ga_nil))))) (ga_nil))))))))))
    (gss_one (gs_ret (ge_var 4)))))
/-! ### _law_fits -/
theorem sc_fits_k11 : FnScope ["_law_well_here", "_law_laid_here", "_law_most", "_law_found", "_law_turn", "_law_at", "_law_shut", "_law_twin", "_law_taken_here", "_law_title", "_law_row"] ["_law_well_here", "_law_laid_here", "_law_most"] (defScope s_fits_k11) := ⟨rfl, rfl, rfl, by decide +kernel, rfl, by decide +kernel, by decide +kernel⟩
theorem ok_fits_k11 {P : Program} {w : World} {K : PySem.W.Frag} {mg : Str → Option Value} {base : Heap} {A : Ad} {f : Addr} {fd : FuncData} {dfs : List V} {kfs : List (Str × V)} (T : Txt K mg A) (F : FunD K "_law_fits" "_law_fits" (defArgs s_fits_k11) (defBody s_fits_k11) (defScope s_fits_k11) dfs kfs f fd) (c_dip_k01 : Fc P w K mg base ⟨false, false, false⟩ "_law_dip" 1 2 (G_dip_k01 A)) (c_fresh_k02 : Fc P w K mg base ⟨false, false, false⟩ "_law_fresh" 3 2 (G_fresh_k02 A)) :
    FnX ⟨false, false, false⟩ P w K mg base 4 f fd ["_law_well_here", "_law_laid_here", "_law_most"] (spG K 3 (G_fits_k11 A)) := by
  rw [D_fits_k11]
  refine fn_G F sc_fits_k11 (fun cdv Ar outer s H E pp hgd hr tk hp => ?_)
  replace hr : Room 3 (Ar.deeper (PyProof.Rows.envOfC "_law_fits" (defScope s_fits_k11) s.heap.objs.size f cdv)) := hr
  exact gss_cons (gs_set 3 sc_fits_k11.nd (ge_new (ga_nil)))
    (gss_cons (gs_for hp rfl (gi_range1 T.n_range (ga_cons (ge_callF (h := false) tk c_dip_k01 nogd hr (ga_cons (ge_var 0) (ga_cons (ge_op op_addA ro_addA (ge_var 2) (ge_int)) (ga_nil)))) (ga_nil))) (gg_name 4 sc_fits_k11.nd) (gss_cons (gs_par3 5 6 7 rfl sc_fits_k11.nd (ga_cons (ge_callF (h := false) tk c_dip_k01 nogd hr (ga_cons (ge_var 0) (ga_cons (ge_callB call_len rc_len T.n_len (by decide +kernel) (ga_cons (ge_var 1) (ga_nil))) (ga_nil)))) (ga_cons (ge_cmp (op_eqA hr) ro_eqA (ge_callF (h := false) tk c_dip_k01 nogd hr (ga_cons (ge_var 0) (ga_cons (ge_int) (ga_nil)))) (ge_int) (nomark _)) (ga_cons (ge_cmp (op_eqA hr) ro_eqA (ge_callF (h := false) tk c_dip_k01 nogd hr (ga_cons (ge_var 0) (ga_cons (ge_int) (ga_nil)))) (ge_int) (nomark _)) (ga_nil)))))
    (gss_cons (gs_setLc 8 (own := [("_law_row", 10)]) rfl sc_fits_k11.nd (gi_list (ge_var 3)) (blkOk_by (by rfl)) (fun _ _ _ _ _ => gg_name 10 sc_fits_k11.nd) (fun _ _ _ _ _ => gts_nil) (fun _ _ _ _ _ => ge_ix ix_seq ro_ix (ge_var 10) (ge_int)) (sw_true rfl rfl rfl (by decide +kernel)))
    (gss_cons (gs_set 9 sc_fits_k11.nd (ge_ifExp (GW.gt (gw_and (gt_tru tru_ok rt_tru (ge_var 7)) (gw_and1 (gt_cmp op_notIn_seq ro_in (ge_ix ix_seq ro_ix (ge_ix ix_seq ro_ix (ge_var 1) (ge_var 5)) (ge_int)) (ge_var 8) (by rfl))))) (ge_ix ix_seq ro_ix (ge_ix ix_seq ro_ix (ge_var 1) (ge_var 5)) (ge_int)) (ge_callF (h := false) tk c_fresh_k02 nogd hr (ga_cons (ge_var 0) (ga_cons (ge_var 8) (ga_nil))))))
    (gss_one (gs_append (ge_var 3) (ge_tup (ga_cons (ge_var 9) (ga_cons (ge_ix ix_seq ro_ix (ge_ix ix_seq ro_ix (ge_var 1) (ge_var 5)) (ge_int)) (ga_cons (ge_var 6) (ga_nil)))))))))))
    (gss_one (gs_ret (ge_var 3))))
/-! ### _law_sign -/
theorem sc_sign_k04 : FnScope ["_law_well_here", "_law_often", "_law_signs"] ["_law_well_here", "_law_often"] (defScope s_sign_k04) := ⟨rfl, rfl, rfl, by decide +kernel, rfl, by decide +kernel, by decide +kernel⟩
theorem ok_sign_k04 {P : Program} {w : World} {K : PySem.W.Frag} {mg : Str → Option Value} {base : Heap} {A : Ad} {f : Addr} {fd : FuncData} {dfs : List V} {kfs : List (Str × V)} (T : Txt K mg A) (F : FunD K "_law_sign" "_law_sign" (defArgs s_sign_k04) (defBody s_sign_k04) (defScope s_sign_k04) dfs kfs f fd) (c_dip_k01 : Fc P w K mg base ⟨false, false, false⟩ "_law_dip" 1 2 (G_dip_k01 A)) :
    FnX ⟨false, false, false⟩ P w K mg base 2 f fd ["_law_well_here", "_law_often"] (spG K 2 (G_sign_k04 A)) := by
  rw [D_sign_k04]
  refine fn_G F sc_sign_k04 (fun cdv Ar outer s H E pp hgd hr tk hp => ?_)
  replace hr : Room 1 (Ar.deeper (PyProof.Rows.envOfC "_law_sign" (defScope s_sign_k04) s.heap.objs.size f cdv)) := hr
  exact gss_cons (gs_if (gt_cmp (op_eqA hr) ro_eqA (ge_callF (h := false) tk c_dip_k01 nogd hr (ga_cons (ge_var 0) (ga_cons (ge_int) (ga_nil)))) (ge_int) (nomark _)) (gss_one (gs_ret (ge_ix ix_seq ro_ix (ge_var 1) (ge_callF (h := false) tk c_dip_k01 nogd hr (ga_cons (ge_var 0) (ga_cons (ge_callB call_len rc_len T.n_len (by decide +kernel) (ga_cons (ge_var 1) (ga_nil))) (ga_nil))))))) (gss_nil))
    (gss_cons (gs_set 2 sc_sign_k04.nd (ge_str))
    (gss_cons (gs_set 2 sc_sign_k04.nd (ge_op op_addA ro_addA (ge_var 2) (ge_str)))
    (gss_one (gs_ret (ge_ix ix_seq ro_ix (ge_var 2) (ge_callF (h := false) tk c_dip_k01 nogd hr (ga_cons (ge_var 0) (ga_cons (ge_callB call_len rc_len T.n_len (by decide +kernel) (ga_cons (ge_var 2) (ga_nil))) (ga_nil)))))))))
/-! ### _law_bent_lines -/
theorem sc_bent_lines_k13 : FnScope ["_law_well_here", "_law_line", "_law_way", "_law_rows_here", "_law_here", "_law_there", "_law_words", "_law_mates", "_law_at"] ["_law_well_here", "_law_line", "_law_way"] (defScope s_bent_lines_k13) := ⟨rfl, rfl, rfl, by decide +kernel, rfl, by decide +kernel, by decide +kernel⟩
theorem ok_bent_lines_k13 {P : Program} {w : World} {K : PySem.W.Frag} {mg : Str → Option Value} {base : Heap} {A : Ad} {f : Addr} {fd : FuncData} {dfs : List V} {kfs : List (Str × V)} (T : Txt K mg A) (F : FunD K "_law_bent_lines" "_law_bent_lines" (defArgs s_bent_lines_k13) (defBody s_bent_lines_k13) (defScope s_bent_lines_k13) dfs kfs f fd) (c_dip_k01 : Fc P w K mg base ⟨false, false, false⟩ "_law_dip" 1 2 (G_dip_k01 A)) :
    FnX ⟨false, false, false⟩ P w K mg base 2 f fd ["_law_well_here", "_law_line", "_law_way"] (spG K 3 (G_bent_lines_k13 A)) := by
  rw [D_bent_lines_k13]
  refine fn_G F sc_bent_lines_k13 (fun cdv Ar outer s H E pp hgd hr tk hp => ?_)
  replace hr : Room 1 (Ar.deeper (PyProof.Rows.envOfC "_law_bent_lines" (defScope s_bent_lines_k13) s.heap.objs.size f cdv)) := hr
  exact gss_cons (gs_set 3 sc_bent_lines_k13.nd (ge_splitN (ge_var 1) (ge_str)))
    (gss_cons (gs_par2 4 5 rfl sc_bent_lines_k13.nd (ga_cons (ge_callF (h := false) tk c_dip_k01 nogd hr (ga_cons (ge_var 0) (ga_cons (ge_callB call_len rc_len T.n_len (by decide +kernel) (ga_cons (ge_var 3) (ga_nil))) (ga_nil)))) (ga_cons (ge_callF (h := false) tk c_dip_k01 nogd hr (ga_cons (ge_var 0) (ga_cons (ge_callB call_len rc_len T.n_len (by decide +kernel) (ga_cons (ge_var 3) (ga_nil))) (ga_nil)))) (ga_nil))))
    (gss_cons (gs_if (gt_cmp (op_eqA hr) ro_eqA (ge_var 2) (ge_int) (nomark _)) (gss_one (gs_pairSet2 rfl (ge_tup (ga_cons (ge_ix ix_seq ro_ix (ge_var 3) (ge_var 5)) (ga_cons (ge_ix ix_seq ro_ix (ge_var 3) (ge_var 4)) (ga_nil)))) (ge_var 3) (ge_var 4) (ge_var 3) (ge_var 5))) (gss_one (gs_if (gt_cmp (op_eqA hr) ro_eqA (ge_var 2) (ge_int) (nomark _)) (gss_one (gs_set 3 sc_bent_lines_k13.nd (ge_addN (ge_slice sl_list rsl_L (ge_var 3) (go_none) (go_some (ge_var 4))) (ge_slice sl_list rsl_L (ge_var 3) (go_some (ge_var 5)) (go_none))))) (gss_one (gs_if (gt_cmp (op_eqA hr) ro_eqA (ge_var 2) (ge_int) (nomark _)) (gss_one (gs_set 3 sc_bent_lines_k13.nd (ge_addN (ge_op op_addA ro_addA (ge_slice sl_list rsl_L (ge_var 3) (go_none) (go_some (ge_var 4))) (ge_slice sl_list rsl_L (ge_var 3) (go_some (ge_op op_addA ro_addA (ge_var 4) (ge_int))) (go_none))) (ge_lst (ga_cons (ge_ix ix_seq ro_ix (ge_var 3) (ge_var 4)) (ga_nil)))))) (gss_one (gs_if (gt_cmp (op_eqA hr) ro_eqA (ge_var 2) (ge_int) (nomark _)) (gss_one (gs_setIx (ge_op op_addA ro_addA (ge_ix ix_seq ro_ix (ge_var 3) (ge_var 4)) (ge_ix ix_seq ro_ix (ge_lst (ga_cons (ge_str) (ga_cons (ge_str) (ga_cons (ge_str) (ga_cons (ge_str) (ga_nil)))))) (ge_callF (h := false) tk c_dip_k01 nogd hr (ga_cons (ge_var 0) (ga_cons (ge_int) (ga_nil)))))) (ge_var 3) (ge_var 4))) (gss_cons (gs_par2 6 7 rfl sc_bent_lines_k13.nd (ga_cons (ge_splitN (ge_ix ix_seq ro_ix (ge_var 3) (ge_var 4)) (ge_str)) (ga_cons (ge_split (ge_ix ix_seq ro_ix (ge_var 3) (ge_var 5)) (ge_str)) (ga_nil))))
    (gss_cons (gs_set 8 sc_bent_lines_k13.nd (ge_callF (h := false) tk c_dip_k01 nogd hr (ga_cons (ge_var 0) (ga_cons (ge_callB call_len rc_len T.n_len (by decide +kernel) (ga_cons (ge_var 6) (ga_nil))) (ga_nil)))))
    (gss_cons (gs_setIx (ge_ix ix_seq ro_ix (ge_var 7) (ge_callF (h := false) tk c_dip_k01 nogd hr (ga_cons (ge_var 0) (ga_cons (ge_callB call_len rc_len T.n_len (by decide +kernel) (ga_cons (ge_var 7) (ga_nil))) (ga_nil))))) (ge_var 6) (ge_var 8))
    (gss_one (gs_setIx (ge_join (ge_str) (ge_ifExp (gt_cmp (op_eqA hr) ro_eqA (ge_var 2) (ge_int) (nomark _)) (ge_var 6) (ge_op op_addA ro_addA (ge_slice sl_list rsl_L (ge_var 6) (go_none) (go_some (ge_var 8))) (ge_slice sl_list rsl_L (ge_var 6) (go_some (ge_op op_addA ro_addA (ge_var 8) (ge_int))) (go_none))))) (ge_var 3) (ge_var 4)))))))))))))
    (gss_one (gs_ret (ge_join (ge_str) (ge_var 3))))))
/-! ### _law_bent -/
theorem sc_bent_k13 : FnScope ["_law_well_here", "_law_line", "_law_way", "_law_at", "_law_sign_here"] ["_law_well_here", "_law_line"] (defScope s_bent_k13) := ⟨rfl, rfl, rfl, by decide +kernel, rfl, by decide +kernel, by decide +kernel⟩
theorem ok_bent_k13 {P : Program} {w : World} {K : PySem.W.Frag} {mg : Str → Option Value} {base : Heap} {A : Ad} {f : Addr} {fd : FuncData} {dfs : List V} {kfs : List (Str × V)} (T : Txt K mg A) (F : FunD K "_law_bent" "_law_bent" (defArgs s_bent_k13) (defBody s_bent_k13) (defScope s_bent_k13) dfs kfs f fd) (c_dip_k01 : Fc P w K mg base ⟨false, false, false⟩ "_law_dip" 1 2 (G_dip_k01 A)) (c_sign_k04 : Fc P w K mg base ⟨false, false, false⟩ "_law_sign" 2 2 (G_sign_k04 A)) (c_bent_lines_k13 : Fc P w K mg base ⟨false, false, false⟩ "_law_bent_lines" 2 3 (G_bent_lines_k13 A)) :
    FnX ⟨false, false, false⟩ P w K mg base 3 f fd ["_law_well_here", "_law_line"] (spG K 2 (G_bent_k13 A)) := by
  rw [D_bent_k13]
  refine fn_G F sc_bent_k13 (fun cdv Ar outer s H E pp hgd hr tk hp => ?_)
  replace hr : Room 2 (Ar.deeper (PyProof.Rows.envOfC "_law_bent" (defScope s_bent_k13) s.heap.objs.size f cdv)) := hr
  exact gss_cons (gs_par2 2 3 rfl sc_bent_k13.nd (ga_cons (ge_callF (h := false) tk c_dip_k01 nogd hr (ga_cons (ge_var 0) (ga_cons (ge_int) (ga_nil)))) (ga_cons (ge_callF (h := false) tk c_dip_k01 nogd hr (ga_cons (ge_var 0) (ga_cons (ge_op op_addA ro_addA (ge_callB call_len rc_len T.n_len (by decide +kernel) (ga_cons (ge_var 1) (ga_nil))) (ge_int)) (ga_nil)))) (ga_nil))))
    (gss_cons (gs_set 4 sc_bent_k13.nd (ge_callF (h := false) tk c_sign_k04 nogd hr (ga_cons (ge_var 0) (ga_cons (ge_str) (ga_nil)))))
    (gss_cons (gs_if (gt_cmp op_lt ro_lt (ge_var 2) (ge_int) (nomark _)) (gss_one (gs_ret (ge_callF (h := false) tk c_bent_lines_k13 nogd hr (ga_cons (ge_var 0) (ga_cons (ge_var 1) (ga_cons (ge_var 2) (ga_nil))))))) (gss_nil))
    (gss_cons (gs_if (gt_cmp op_lt ro_lt (ge_var 2) (ge_int) (nomark _)) (gss_one (gs_ret (ge_op op_addA ro_addA (ge_op op_addA ro_addA (ge_slice sl_A rsl_A (ge_var 1) (go_none) (go_some (ge_var 3))) (ge_ix ix_seq ro_ix (ge_lst (ga_cons (ge_str) (ga_cons (ge_var 4) (ga_cons (ge_var 4) (ga_nil))))) (ge_op op_sub ro_sub (ge_var 2) (ge_int)))) (ge_slice sl_A rsl_A (ge_var 1) (go_some (ge_op op_addA ro_addA (ge_var 3) (ge_ix ix_seq ro_ix (ge_lst (ga_cons (ge_int) (ga_cons (ge_int) (ga_cons (ge_int) (ga_nil))))) (ge_op op_sub ro_sub (ge_var 2) (ge_int))))) (go_none))))) (gss_nil))
    (gss_one (gs_ret (ge_op op_addA ro_addA (ge_var 1) (ge_ix ix_seq ro_ix (ge_lst (ga_cons (ge_str) (ga_cons (ge_str) (ga_cons (ge_str) (ga_cons (ge_str) (ga_cons (ge_str) (ga_cons (ge_str) (ga_nil)))))))) (ge_callF (h := false) tk c_dip_k01 nogd hr (ga_cons (ge_var 0) (ga_cons (ge_int) (ga_nil)))))))))))
/-! ### _law_odd -/
theorem sc_odd_k04 : FnScope ["_law_well_here", "_law_at", "_law_some"] ["_law_well_here"] (defScope s_odd_k04) := ⟨rfl, rfl, rfl, by decide +kernel, rfl, by decide +kernel, by decide +kernel⟩
theorem ok_odd_k04 {P : Program} {w : World} {K : PySem.W.Frag} {mg : Str → Option Value} {base : Heap} {A : Ad} {f : Addr} {fd : FuncData} {dfs : List V} {kfs : List (Str × V)} (T : Txt K mg A) (F : FunD K "_law_odd" "_law_odd" (defArgs s_odd_k04) (defBody s_odd_k04) (defScope s_odd_k04) dfs kfs f fd) (c_dip_k01 : Fc P w K mg base ⟨false, false, false⟩ "_law_dip" 1 2 (G_dip_k01 A)) :
    FnX ⟨false, false, false⟩ P w K mg base 2 f fd ["_law_well_here"] (spG K 1 (G_odd_k04 A)) := by
  rw [D_odd_k04]
  refine fn_G F sc_odd_k04 (fun cdv Ar outer s H E pp hgd hr tk hp => ?_)
  replace hr : Room 1 (Ar.deeper (PyProof.Rows.envOfC "_law_odd" (defScope s_odd_k04) s.heap.objs.size f cdv)) := hr
  exact gss_cons (gs_set 1 sc_odd_k04.nd (ge_callF (h := false) tk c_dip_k01 nogd hr (ga_cons (ge_var 0) (ga_cons (ge_int) (ga_nil)))))
    (gss_cons (gs_set 2 sc_odd_k04.nd (ge_lst (ga_cons (ge_non) (ga_cons (ge_bl) (ga_cons (ge_bl) (ga_cons (ge_int) (ga_cons (ge_int) (ga_cons (ge_un un_neg ru_neg (ge_int)) (ga_cons (ge_int) (ga_cons (ge_op op_pow ro_pow (ge_int) (ge_int)) (ga_cons (ge_str) (ga_cons (ge_str) (ga_cons (ge_str) (ga_cons (ge_str) (ga_cons (ge_str) (ga_cons (ge_str) (ga_cons (ge_tup (ga_nil)) (ga_cons (ge_tup (ga_cons (ge_str) (ga_nil))) (ga_cons (ge_lst (ga_nil)) (ga_cons (ge_lst (ga_cons (ge_str) (ga_nil))) (ga_nil)))))))))))))))))))))
    (gss_one (gs_ret (ge_ix ix_seq ro_ix (ge_op op_addA ro_addA (ge_var 2) (ge_lst (ga_cons (ge_dic0) (ga_cons (ge_disp (gp_cons (ge_str) (ge_int) (gp_nil))) (ga_nil))))) (ge_var 1)))))
/-! ### _law_right -/
theorem sc_right_k13 : FnScope ["_law_well_here", "_law_laid_here", "_law_line", "_law_once", "_law_each"] ["_law_well_here"] (defScope s_right_k13) := ⟨rfl, rfl, rfl, by decide +kernel, rfl, by decide +kernel, by decide +kernel⟩
theorem ok_right_k13 {P : Program} {w : World} {K : PySem.W.Frag} {mg : Str → Option Value} {base : Heap} {A : Ad} {f : Addr} {fd : FuncData} {dfs : List V} {kfs : List (Str × V)} (T : Txt K mg A) (F : FunD K "_law_right" "_law_right" (defArgs s_right_k13) (defBody s_right_k13) (defScope s_right_k13) dfs kfs f fd) (c_net_text_k11 : Fc P w K mg base ⟨false, false, false⟩ "_law_net_text" 1 2 (G_net_text_k11 A)) (c_read_right_k13 : Fc P w K mg base ⟨true, false, false⟩ "_law_read_right" 10 1 (G_read_right_k13 A)) (c_laid_k11 : Fc P w K mg base ⟨false, false, false⟩ "_law_laid" 4 3 (G_laid_k11 A)) (c_fits_k11 : Fc P w K mg base ⟨false, false, false⟩ "_law_fits" 4 3 (G_fits_k11 A)) (c_bent_k13 : Fc P w K mg base ⟨false, false, false⟩ "_law_bent" 3 2 (G_bent_k13 A)) (c_odd_k04 : Fc P w K mg base ⟨false, false, false⟩ "_law_odd" 2 1 (G_odd_k04 A)) :
    FnX ⟨true, false, false⟩ P w K mg base 11 f fd ["_law_well_here"] (spG K 1 (G_right_k13 A)) := by
  rw [D_right_k13]
  refine fn_G F sc_right_k13 (fun cdv Ar outer s H E pp hgd hr tk hp => ?_)
  replace hr : Room 10 (Ar.deeper (PyProof.Rows.envOfC "_law_right" (defScope s_right_k13) s.heap.objs.size f cdv)) := hr
  have hgd0 := hgd rfl
  exact gss_cons (gs_set 1 sc_right_k13.nd (ge_callF (h := false) tk c_laid_k11 nogd hr (ga_cons (ge_var 0) (ga_cons (ge_int) (ga_cons (ge_int) (ga_nil))))))
    (gss_cons (gs_set 2 sc_right_k13.nd (ge_callF (h := false) tk c_net_text_k11 nogd hr (ga_cons (ge_var 1) (ga_cons (ge_callF (h := false) tk c_fits_k11 nogd hr (ga_cons (ge_var 0) (ga_cons (ge_var 1) (ga_cons (ge_int) (ga_nil))))) (ga_nil)))))
    (gss_cons (gs_set 3 sc_right_k13.nd (ge_callF (h := false) tk c_bent_k13 nogd hr (ga_cons (ge_var 0) (ga_cons (ge_var 2) (ga_nil)))))
    (gss_one (gs_ret (ge_callB (cr_all rfl) rc_all T.n_all (by decide +kernel) (ga_cons (ge_lc (own := [("_law_each", 4)]) rfl sc_right_k13.nd (gi_list (ge_lst (ga_cons (ge_var 2) (ga_cons (ge_var 3) (ga_cons (ge_callF (h := false) tk c_bent_k13 nogd hr (ga_cons (ge_var 0) (ga_cons (ge_var 3) (ga_nil)))) (ga_cons (ge_callF (h := false) tk c_odd_k04 nogd hr (ga_cons (ge_var 0) (ga_nil))) (ga_nil))))))) (blkOk_by (by rfl)) (fun _ _ _ _ _ => gg_name 4 sc_right_k13.nd) (fun _ _ _ _ _ => gts_nil) (fun _ _ _ _ _ => ge_callF (h := false) tkF c_read_right_k13 hgd hr (ga_cons (ge_var 4) (ga_nil)))) (ga_nil)))))))
/-! ### law -/
theorem sc_law_k13 : FnScope ["_law_cells", "_law_some", "_law_k", "_law_well_here", "_law_line", "_law_turn"] ["_law_cells"] (defScope s_law_k13) := ⟨rfl, rfl, rfl, by decide +kernel, rfl, by decide +kernel, by decide +kernel⟩
theorem ok_law_k13 {P : Program} {w : World} {K : PySem.W.Frag} {mg : Str → Option Value} {base : Heap} {A : Ad} {f : Addr} {fd : FuncData} {dfs : List V} {kfs : List (Str × V)} (T : Txt K mg A) (F : FunD K "law" "law" (defArgs s_law_k13) (defBody s_law_k13) (defScope s_law_k13) dfs kfs f fd) (c_read_right_k13 : Fc P w K mg base ⟨true, false, false⟩ "_law_read_right" 10 1 (G_read_right_k13 A)) (c_well_k01 : Fc P w K mg base ⟨false, false, false⟩ "_law_well" 1 2 (G_well_k01 A)) (c_right_k13 : Fc P w K mg base ⟨true, false, false⟩ "_law_right" 11 1 (G_right_k13 A)) :
    FnX ⟨true, false, false⟩ P w K mg base 12 f fd ["_law_cells"] (spG K 1 (G_law_k13 A)) := by
  rw [D_law_k13]
  refine fn_G F sc_law_k13 (fun cdv Ar outer s H E pp hgd hr tk hp => ?_)
  replace hr : Room 11 (Ar.deeper (PyProof.Rows.envOfC "law" (defScope s_law_k13) s.heap.objs.size f cdv)) := hr
  have hgd0 := hgd rfl
  exact gss_cons (gs_set 1 sc_law_k13.nd (ge_new (ga_cons (ge_str) (ga_cons (ge_str) (ga_cons (ge_str) (ga_cons (ge_str) (ga_cons (ge_str) (ga_cons (ge_str) (ga_nil)))))))))
    (gss_cons (gs_set 1 sc_law_k13.nd (ge_addN (ge_var 1) (ge_lst (ga_cons (ge_str) (ga_cons (ge_str) (ga_cons (ge_str) (ga_cons (ge_str) (ga_nil))))))))
    (gss_cons (gs_append (ge_var 1) (ge_str))
    (gss_cons (gs_if (gt_not (gt_tru tru_ok rt_tru (ge_callB (cr_all rfl) rc_all T.n_all (by decide +kernel) (ga_cons (ge_lc (own := [("_law_line", 4)]) rfl sc_law_k13.nd (gi_list (ge_var 1)) (blkOk_by (by rfl)) (fun _ _ _ _ _ => gg_name 4 sc_law_k13.nd) (fun _ _ _ _ _ => gts_nil) (fun _ _ _ _ _ => ge_callF (h := false) tkF c_read_right_k13 hgd hr (ga_cons (ge_var 4) (ga_nil)))) (ga_nil))))) (gss_one (gs_ret (ge_bl))) (gss_nil))
    (gss_cons (gs_for hp rfl (gi_range1 T.n_range (ga_cons (ge_callB (call_max2 rfl) rc_max2 T.n_max (by decide +kernel) (ga_cons (ge_int) (ga_cons (ge_callB (call_min2 rfl) rc_min2 T.n_min (by decide +kernel) (ga_cons (ge_callB call_len rc_len T.n_len (by decide +kernel) (ga_cons (ge_var 0) (ga_nil))) (ga_cons (ge_int) (ga_nil)))) (ga_nil)))) (ga_nil))) (gg_name 2 sc_law_k13.nd) (gss_cons (gs_set 3 sc_law_k13.nd (ge_callF (h := false) tk c_well_k01 nogd hr (ga_cons (ge_var 0) (ga_cons (ge_var 2) (ga_nil)))))
    (gss_one (gs_if (gt_not (gt_tru tru_ok rt_tru (ge_callB (cr_all rfl) rc_all T.n_all (by decide +kernel) (ga_cons (ge_lc (own := [("_law_turn", 5)]) rfl sc_law_k13.nd (gi_range1 T.n_range (ga_cons (ge_int) (ga_nil))) (blkOk_by (by rfl)) (fun _ _ _ _ _ => gg_name 5 sc_law_k13.nd) (fun _ _ _ _ _ => gts_nil) (fun _ _ _ _ _ => ge_callF (h := false) tkF c_right_k13 hgd hr (ga_cons (ge_var 3) (ga_nil)))) (ga_nil))))) (gss_one (gs_ret (ge_bl))) (gss_nil)))))
    (gss_one (gs_ret (ge_bl)))))))
end K13
end
section
namespace K13
open PySem L2 RV
theorem facts {P : Program} {w : World} {K : PySem.W.Frag} {h : Heap} {mg : Str → Option Value} {f : Addr} (X : K.In h) (G : h.Ns mainGlobals mg) (hfa : mg ("law" : Str) = some (.ref f)) (c : He5.SaysA fa fn K) (cx : exA K = true) :
    ∃ fd : FuncData, (∀ (s : Shared) (v : Value), BindsTo s fd ⟨[v], []⟩ [("_law_cells", v)]) ∧ ∀ base : Heap, K.In base → base.Ns mainGlobals mg → (∀ t ∈ tf.map (He.cT K), LamX.TabB base mg t.1 t.2) → FnX ⟨true, false, false⟩ P w K mg base 12 f fd ["_law_cells"] (spG K 1 (G_law_k13 (ad K))) := by
  have kk_Sum : KindC K ((ad K).c "Sum") := kindB_ok (He.cls_ok (c.fact 40 (f := .cls "Sum") rfl)) (exA_at cx 0 rfl)
  have kk_Pipe : KindC K ((ad K).c "Pipe") := kindB_ok (He.cls_ok (c.fact 43 (f := .cls "Pipe") rfl)) (exA_at cx 1 rfl)
  have kk_Meter : KindC K ((ad K).c "Meter") := kindB_ok (He.cls_ok (c.fact 46 (f := .cls "Meter") rfl)) (exA_at cx 5 rfl)
  have kk_Net : KindC K ((ad K).c "Net") := kindB_ok (He.cls_ok (c.fact 49 (f := .cls "Net") rfl)) (exA_at cx 9 rfl)
  have T : Txt K mg (ad K) :=
    { n_abs := He.free_ok X G (c.fact 55 (f := .free "abs") rfl)
      n_all := He.free_ok X G (c.fact 56 (f := .free "all") rfl)
      n_bool := He.free_ok X G (c.fact 57 (f := .free "bool") rfl)
      n_divmod := He.free_ok X G (c.fact 58 (f := .free "divmod") rfl)
      n_enumerate := He.free_ok X G (c.fact 59 (f := .free "enumerate") rfl)
      n_int := He.free_ok X G (c.fact 60 (f := .free "int") rfl)
      n_isinstance := He.free_ok X G (c.fact 61 (f := .free "isinstance") rfl)
      n_len := He.free_ok X G (c.fact 62 (f := .free "len") rfl)
      n_max := He.free_ok X G (c.fact 63 (f := .free "max") rfl)
      n_min := He.free_ok X G (c.fact 64 (f := .free "min") rfl)
      n_range := He.free_ok X G (c.fact 65 (f := .free "range") rfl)
      n_repr := He.free_ok X G (c.fact 66 (f := .free "repr") rfl)
      n_str := He.free_ok X G (c.fact 67 (f := .free "str") rfl)
      n_tuple := He.free_ok X G (c.fact 68 (f := .free "tuple") rfl)
      g_DIGITS := He.str_ok X G (c.fact 69 (f := .str "DIGITS" "0123456789") rfl)
      g_LETTERS := He.str_ok X G (c.fact 70 (f := .str "LETTERS" "abcdefghijklmnopqrstuvwxyz") rfl)
      g_LONGEST_NAME := He.int_ok X G (c.fact 71 (f := .int "LONGEST_NAME" 8) rfl)
      g_MOST_METERS := He.int_ok X G (c.fact 72 (f := .int "MOST_METERS" 12) rfl)
      g_MOST_PIPES := He.int_ok X G (c.fact 73 (f := .int "MOST_PIPES" 12) rfl)
      m_Sum := He.glo_ok X G (c.fact 39 (f := .glo "Sum") rfl)
      m_Pipe := He.glo_ok X G (c.fact 42 (f := .glo "Pipe") rfl)
      m_Meter := He.glo_ok X G (c.fact 45 (f := .glo "Meter") rfl)
      m_Net := He.glo_ok X G (c.fact 48 (f := .glo "Net") rfl)
      k_Sum := kk_Sum
      k_Pipe := kk_Pipe
      k_Meter := kk_Meter
      k_Net := kk_Net
      no_Meter_kept := He.noat_ok (c.fact 51 (f := .noat "Meter" "kept") rfl)
      no_Net_fitted := He.noat_ok (c.fact 52 (f := .noat "Net" "fitted") rfl)
      no_Net_joined := He.noat_ok (c.fact 53 (f := .noat "Net" "joined") rfl)
      no_Pipe_kept := He.noat_ok (c.fact 54 (f := .noat "Pipe" "kept") rfl)
      m_BadName := He.glo_ok X G (c.fact 28 (f := .glo "BadName") rfl)
      m_BadValue := He.glo_ok X G (c.fact 29 (f := .glo "BadValue") rfl)
      m_InvalidEnd := He.glo_ok X G (c.fact 30 (f := .glo "InvalidEnd") rfl)
      m_InvalidFlag := He.glo_ok X G (c.fact 31 (f := .glo "InvalidFlag") rfl)
      m_InvalidMeters := He.glo_ok X G (c.fact 32 (f := .glo "InvalidMeters") rfl)
      m_InvalidName := He.glo_ok X G (c.fact 33 (f := .glo "InvalidName") rfl)
      m_InvalidPipes := He.glo_ok X G (c.fact 34 (f := .glo "InvalidPipes") rfl)
      m_InvalidText := He.glo_ok X G (c.fact 35 (f := .glo "InvalidText") rfl)
      m_NoAnswer := He.glo_ok X G (c.fact 36 (f := .glo "NoAnswer") rfl)
      m_NotAMeter := He.glo_ok X G (c.fact 37 (f := .glo "NotAMeter") rfl)
      m_UnknownName := He.glo_ok X G (c.fact 38 (f := .glo "UnknownName") rfl)
      xc := fun C hC => excB_ok (errL_all (f := fun C => excB K C) (exA_at cx 22 rfl) C hC)
      xkit := (exA_at cx 23 rfl)
      xno_given := fun C hC => He.eqO_ok (errL_all (f := fun C => He.eqO (PySem.W.findIn K (.ref C) "given") (some none)) (exA_at cx 24 rfl) C hC)
      xno_index := fun C hC => He.eqO_ok (errL_all (f := fun C => He.eqO (PySem.W.findIn K (.ref C) "index") (some none)) (exA_at cx 25 rfl) C hC)
      xb_BadValue := fun C hC => of_decide_eq_true (errL_all (f := fun C => decide (PySem.W.exmOne K (.ref C) (.ref ((ad K).c "BadValue")) = some true)) (exA_at cx 27 rfl) C hC)
      ox_InvalidText := oexVB_ok (exA_at cx 28 rfl)
      xl := fun C hC => of_decide_eq_true (errL_all (f := fun C => decide (PySem.W.exmAny K (.ref C) [.ref ((ad K).c "BadValue"), .ref ((ad K).c "BadName"), .ref ((ad K).c "NoAnswer")] = some true)) (exA_at cx 26 rfl) C hC)
      own := own_of (fun n hn => by
        simp only [ad, List.mem_cons, List.mem_nil_iff, or_false] at hn
        rcases hn with rfl | rfl | rfl | rfl
        all_goals first | exact kk_Sum | exact kk_Pipe | exact kk_Meter | exact kk_Net)
      kit := tabB_ok (exA_at cx 32 rfl) }
  obtain ⟨fd_is_name_k04, F0_is_name_k04⟩ := c.def_ 0 (d := d_is_name_k04) rfl
  have F_is_name_k04 : FunD K "_law_is_name" "_law_is_name" (defArgs s_is_name_k04) (defBody s_is_name_k04) (defScope s_is_name_k04) [] [] (d_is_name_k04.at_ K) fd_is_name_k04 := F0_is_name_k04
  have b_is_name_k04 : Binds K fd_is_name_k04 ["_law_word"] [] := F_is_name_k04.bindsN fun _ _ _ _ _ _ us hl => match us, hl with | [_], _ => rfl
  obtain ⟨fd_taken_k13, F0_taken_k13⟩ := c.def_ 1 (d := d_taken_k13) rfl
  have F_taken_k13 : FunD K "_law_taken" "_law_taken" (defArgs s_taken_k13) (defBody s_taken_k13) (defScope s_taken_k13) [] [] (d_taken_k13.at_ K) fd_taken_k13 := F0_taken_k13
  have b_taken_k13 : Binds K fd_taken_k13 ["_law_words", "_law_laid_here", "_law_fits_here"] [] := F_taken_k13.bindsN fun _ _ _ _ _ _ us hl => match us, hl with | [_, _, _], _ => rfl
  obtain ⟨fd_net_in_k13, F0_net_in_k13⟩ := c.def_ 2 (d := d_net_in_k13) rfl
  have F_net_in_k13 : FunD K "_law_net_in" "_law_net_in" (defArgs s_net_in_k13) (defBody s_net_in_k13) (defScope s_net_in_k13) [] [] (d_net_in_k13.at_ K) fd_net_in_k13 := F0_net_in_k13
  have b_net_in_k13 : Binds K fd_net_in_k13 ["_law_line"] [] := F_net_in_k13.bindsN fun _ _ _ _ _ _ us hl => match us, hl with | [_], _ => rfl
  obtain ⟨fd_Pipe_name, F0_Pipe_name⟩ := c.def_ 3 (d := d_Pipe_name) rfl
  have F_Pipe_name : FunD K "name" "Pipe.name" (defArgs s_Pipe_name) (defBody s_Pipe_name) (defScope s_Pipe_name) [] [] (d_Pipe_name.at_ K) fd_Pipe_name := F0_Pipe_name
  have b_Pipe_name : Binds K fd_Pipe_name ["self"] [] := F_Pipe_name.bindsN fun _ _ _ _ _ _ us hl => match us, hl with | [_], _ => rfl
  obtain ⟨fd_Pipe_start, F0_Pipe_start⟩ := c.def_ 4 (d := d_Pipe_start) rfl
  have F_Pipe_start : FunD K "start" "Pipe.start" (defArgs s_Pipe_start) (defBody s_Pipe_start) (defScope s_Pipe_start) [] [] (d_Pipe_start.at_ K) fd_Pipe_start := F0_Pipe_start
  have b_Pipe_start : Binds K fd_Pipe_start ["self"] [] := F_Pipe_start.bindsN fun _ _ _ _ _ _ us hl => match us, hl with | [_], _ => rfl
  obtain ⟨fd_Pipe_end, F0_Pipe_end⟩ := c.def_ 5 (d := d_Pipe_end) rfl
  have F_Pipe_end : FunD K "end" "Pipe.end" (defArgs s_Pipe_end) (defBody s_Pipe_end) (defScope s_Pipe_end) [] [] (d_Pipe_end.at_ K) fd_Pipe_end := F0_Pipe_end
  have b_Pipe_end : Binds K fd_Pipe_end ["self"] [] := F_Pipe_end.bindsN fun _ _ _ _ _ _ us hl => match us, hl with | [_], _ => rfl
  obtain ⟨fd_Meter_name, F0_Meter_name⟩ := c.def_ 6 (d := d_Meter_name) rfl
  have F_Meter_name : FunD K "name" "Meter.name" (defArgs s_Meter_name) (defBody s_Meter_name) (defScope s_Meter_name) [] [] (d_Meter_name.at_ K) fd_Meter_name := F0_Meter_name
  have b_Meter_name : Binds K fd_Meter_name ["self"] [] := F_Meter_name.bindsN fun _ _ _ _ _ _ us hl => match us, hl with | [_], _ => rfl
  obtain ⟨fd_Meter_at, F0_Meter_at⟩ := c.def_ 7 (d := d_Meter_at) rfl
  have F_Meter_at : FunD K "at" "Meter.at" (defArgs s_Meter_at) (defBody s_Meter_at) (defScope s_Meter_at) [] [] (d_Meter_at.at_ K) fd_Meter_at := F0_Meter_at
  have b_Meter_at : Binds K fd_Meter_at ["self"] [] := F_Meter_at.bindsN fun _ _ _ _ _ _ us hl => match us, hl with | [_], _ => rfl
  obtain ⟨fd_Meter_sealed, F0_Meter_sealed⟩ := c.def_ 8 (d := d_Meter_sealed) rfl
  have F_Meter_sealed : FunD K "sealed" "Meter.sealed" (defArgs s_Meter_sealed) (defBody s_Meter_sealed) (defScope s_Meter_sealed) [] [] (d_Meter_sealed.at_ K) fd_Meter_sealed := F0_Meter_sealed
  have b_Meter_sealed : Binds K fd_Meter_sealed ["self"] [] := F_Meter_sealed.bindsN fun _ _ _ _ _ _ us hl => match us, hl with | [_], _ => rfl
  obtain ⟨fd_line_of, F0_line_of⟩ := c.def_ 9 (d := d_line_of) rfl
  have F_line_of : FunD K "line_of" "line_of" (defArgs s_line_of) (defBody s_line_of) (defScope s_line_of) [] [] (d_line_of.at_ K) fd_line_of := F0_line_of
  have b_line_of : Binds K fd_line_of ["item"] [] := F_line_of.bindsN fun _ _ _ _ _ _ us hl => match us, hl with | [_], _ => rfl
  obtain ⟨fd_Net_str, F0_Net_str⟩ := c.def_ 10 (d := d_Net_str) rfl
  have F_Net_str : FunD K "__str__" "Net.__str__" (defArgs s_Net_str) (defBody s_Net_str) (defScope s_Net_str) [] [] (d_Net_str.at_ K) fd_Net_str := F0_Net_str
  have b_Net_str : Binds K fd_Net_str ["self"] [] := F_Net_str.bindsN fun _ _ _ _ _ _ us hl => match us, hl with | [_], _ => rfl
  obtain ⟨fd_seen_k10, F0_seen_k10⟩ := c.def_ 11 (d := d_seen_k10) rfl
  have F_seen_k10 : FunD K "_law_seen" "_law_seen" (defArgs s_seen_k10) (defBody s_seen_k10) (defScope s_seen_k10) [] [] (d_seen_k10.at_ K) fd_seen_k10 := F0_seen_k10
  have b_seen_k10 : Binds K fd_seen_k10 ["_law_thing"] [] := F_seen_k10.bindsN fun _ _ _ _ _ _ us hl => match us, hl with | [_], _ => rfl
  obtain ⟨fd_seen_k10_h, F0_seen_k10_h⟩ := c.def_ 12 (d := d_seen_k10_h) rfl
  have F_seen_k10_h : FunD K "_law_seen" "_law_seen" (defArgs s_seen_k10_h) (defBody s_seen_k10_h) (defScope s_seen_k10_h) [] [] (d_seen_k10_h.at_ K) fd_seen_k10_h := F0_seen_k10_h
  have b_seen_k10_h : Binds K fd_seen_k10_h ["_law_thing"] [] := F_seen_k10_h.bindsN fun _ _ _ _ _ _ us hl => match us, hl with | [_], _ => rfl
  obtain ⟨fd_said_k10, F0_said_k10⟩ := c.def_ 13 (d := d_said_k10) rfl
  have F_said_k10 : FunD K "_law_said" "_law_said" (defArgs s_said_k10) (defBody s_said_k10) (defScope s_said_k10) [] [] (d_said_k10.at_ K) fd_said_k10 := F0_said_k10
  have b_said_k10 : Binds K fd_said_k10 ["_law_e"] [] := F_said_k10.bindsN fun _ _ _ _ _ _ us hl => match us, hl with | [_], _ => rfl
  obtain ⟨fd_caught_k10, F0_caught_k10⟩ := c.def_ 14 (d := d_caught_k10) rfl
  have F_caught_k10 : FunD K "_law_caught" "_law_caught" (defArgs s_caught_k10) (defBody s_caught_k10) (defScope s_caught_k10) [] [] (d_caught_k10.at_ K) fd_caught_k10 := F0_caught_k10
  have b_caught_k10 : Binds K fd_caught_k10 ["_law_act"] [] := F_caught_k10.bindsN fun _ _ _ _ _ _ us hl => match us, hl with | [_], _ => rfl
  obtain ⟨fd_is_name, F0_is_name⟩ := c.def_ 15 (d := d_is_name) rfl
  have F_is_name : FunD K "is_name" "is_name" (defArgs s_is_name) (defBody s_is_name) (defScope s_is_name) [] [] (d_is_name.at_ K) fd_is_name := F0_is_name
  have b_is_name : Binds K fd_is_name ["value"] [] := F_is_name.bindsN fun _ _ _ _ _ _ us hl => match us, hl with | [_], _ => rfl
  obtain ⟨fd_check_name, F0_check_name⟩ := c.def_ 16 (d := d_check_name) rfl
  have F_check_name : FunD K "check_name" "check_name" (defArgs s_check_name) (defBody s_check_name) (defScope s_check_name) [] [] (d_check_name.at_ K) fd_check_name := F0_check_name
  have b_check_name : Binds K fd_check_name ["value"] [] := F_check_name.bindsN fun _ _ _ _ _ _ us hl => match us, hl with | [_], _ => rfl
  obtain ⟨fd_Pipe_init, F0_Pipe_init⟩ := c.def_ 17 (d := d_Pipe_init) rfl
  have F_Pipe_init : FunD K "__init__" "Pipe.__init__" (defArgs s_Pipe_init) (defBody s_Pipe_init) (defScope s_Pipe_init) [] [] (d_Pipe_init.at_ K) fd_Pipe_init := F0_Pipe_init
  have b_Pipe_init : Binds K fd_Pipe_init ["self", "name", "start", "end"] [] := F_Pipe_init.bindsN fun _ _ _ _ _ _ us hl => match us, hl with | [_, _, _, _], _ => rfl
  obtain ⟨fd_Meter_init, F0_Meter_init⟩ := c.def_ 18 (d := d_Meter_init) rfl
  have F_Meter_init : FunD K "__init__" "Meter.__init__" (defArgs s_Meter_init) (defBody s_Meter_init) (defScope s_Meter_init) [] [("sealed", .bl false)] (d_Meter_init.at_ K) fd_Meter_init := F0_Meter_init
  obtain ⟨fd_item_of, F0_item_of⟩ := c.def_ 19 (d := d_item_of) rfl
  have F_item_of : FunD K "item_of" "item_of" (defArgs s_item_of) (defBody s_item_of) (defScope s_item_of) [] [] (d_item_of.at_ K) fd_item_of := F0_item_of
  have b_item_of : Binds K fd_item_of ["line"] [] := F_item_of.bindsN fun _ _ _ _ _ _ us hl => match us, hl with | [_], _ => rfl
  obtain ⟨fd_check_pipes, F0_check_pipes⟩ := c.def_ 20 (d := d_check_pipes) rfl
  have F_check_pipes : FunD K "check_pipes" "check_pipes" (defArgs s_check_pipes) (defBody s_check_pipes) (defScope s_check_pipes) [] [] (d_check_pipes.at_ K) fd_check_pipes := F0_check_pipes
  have b_check_pipes : Binds K fd_check_pipes ["pipes"] [] := F_check_pipes.bindsN fun _ _ _ _ _ _ us hl => match us, hl with | [_], _ => rfl
  obtain ⟨fd_check_meters, F0_check_meters⟩ := c.def_ 21 (d := d_check_meters) rfl
  have F_check_meters : FunD K "check_meters" "check_meters" (defArgs s_check_meters) (defBody s_check_meters) (defScope s_check_meters) [] [] (d_check_meters.at_ K) fd_check_meters := F0_check_meters
  have b_check_meters : Binds K fd_check_meters ["meters", "pipes"] [] := F_check_meters.bindsN fun _ _ _ _ _ _ us hl => match us, hl with | [_, _], _ => rfl
  obtain ⟨fd_Net_init, F0_Net_init⟩ := c.def_ 22 (d := d_Net_init) rfl
  have F_Net_init : FunD K "__init__" "Net.__init__" (defArgs s_Net_init) (defBody s_Net_init) (defScope s_Net_init) [.ref (He.dflAt ("Net", some "__init__") 0 K)] [] (d_Net_init.at_ K) fd_Net_init := F0_Net_init
  obtain ⟨dz_Net_init, vz_Net_init, b0_Net_init⟩ := F_Net_init.binds1 (ps := ["self", "pipes", "meters"]) 3 1 (by simp) (by simp) fun _ _ _ _ _ _ _ us its hu hi => match us, hu, its, hi with | [_, _, _], _, [_], _ => ⟨_, rfl, rfl⟩
  have b_Net_init : Binds K fd_Net_init ["self", "pipes", "meters"] [] := by cases vz_Net_init; exact b0_Net_init
  obtain ⟨fd_Net_read, F0_Net_read⟩ := c.def_ 23 (d := d_Net_read) rfl
  have F_Net_read : FunD K "read" "Net.read" (defArgs s_Net_read) (defBody s_Net_read) (defScope s_Net_read) [] [] (d_Net_read.at_ K) fd_Net_read := F0_Net_read
  have b_Net_read : Binds K fd_Net_read ["cls", "text"] [] := F_Net_read.bindsN fun _ _ _ _ _ _ us hl => match us, hl with | [_, _], _ => rfl
  obtain ⟨fd_Net_pipes, F0_Net_pipes⟩ := c.def_ 24 (d := d_Net_pipes) rfl
  have F_Net_pipes : FunD K "pipes" "Net.pipes" (defArgs s_Net_pipes) (defBody s_Net_pipes) (defScope s_Net_pipes) [] [] (d_Net_pipes.at_ K) fd_Net_pipes := F0_Net_pipes
  have b_Net_pipes : Binds K fd_Net_pipes ["self"] [] := F_Net_pipes.bindsN fun _ _ _ _ _ _ us hl => match us, hl with | [_], _ => rfl
  obtain ⟨fd_Net_meters, F0_Net_meters⟩ := c.def_ 25 (d := d_Net_meters) rfl
  have F_Net_meters : FunD K "meters" "Net.meters" (defArgs s_Net_meters) (defBody s_Net_meters) (defScope s_Net_meters) [] [] (d_Net_meters.at_ K) fd_Net_meters := F0_Net_meters
  have b_Net_meters : Binds K fd_Net_meters ["self"] [] := F_Net_meters.bindsN fun _ _ _ _ _ _ us hl => match us, hl with | [_], _ => rfl
  obtain ⟨fd_net_text_k11, F0_net_text_k11⟩ := c.def_ 26 (d := d_net_text_k11) rfl
  have F_net_text_k11 : FunD K "_law_net_text" "_law_net_text" (defArgs s_net_text_k11) (defBody s_net_text_k11) (defScope s_net_text_k11) [] [] (d_net_text_k11.at_ K) fd_net_text_k11 := F0_net_text_k11
  have b_net_text_k11 : Binds K fd_net_text_k11 ["_law_laid_here", "_law_fits_here"] [] := F_net_text_k11.bindsN fun _ _ _ _ _ _ us hl => match us, hl with | [_, _], _ => rfl
  obtain ⟨fd_Net_len, F0_Net_len⟩ := c.def_ 27 (d := d_Net_len) rfl
  have F_Net_len : FunD K "__len__" "Net.__len__" (defArgs s_Net_len) (defBody s_Net_len) (defScope s_Net_len) [] [] (d_Net_len.at_ K) fd_Net_len := F0_Net_len
  have b_Net_len : Binds K fd_Net_len ["self"] [] := F_Net_len.bindsN fun _ _ _ _ _ _ us hl => match us, hl with | [_], _ => rfl
  obtain ⟨fd_is_k11, F0_is_k11⟩ := c.def_ 28 (d := d_is_k11) rfl
  have F_is_k11 : FunD K "_law_is" "_law_is" (defArgs s_is_k11) (defBody s_is_k11) (defScope s_is_k11) [] [] (d_is_k11.at_ K) fd_is_k11 := F0_is_k11
  have b_is_k11 : Binds K fd_is_k11 ["_law_net", "_law_laid_here", "_law_fits_here"] [] := F_is_k11.bindsN fun _ _ _ _ _ _ us hl => match us, hl with | [_, _, _], _ => rfl
  obtain ⟨fd_read_right_k13, F0_read_right_k13⟩ := c.def_ 29 (d := d_read_right_k13) rfl
  have F_read_right_k13 : FunD K "_law_read_right" "_law_read_right" (defArgs s_read_right_k13) (defBody s_read_right_k13) (defScope s_read_right_k13) [] [] (d_read_right_k13.at_ K) fd_read_right_k13 := F0_read_right_k13
  have b_read_right_k13 : Binds K fd_read_right_k13 ["_law_given"] [] := F_read_right_k13.bindsN fun _ _ _ _ _ _ us hl => match us, hl with | [_], _ => rfl
  obtain ⟨fd_well_k01, F0_well_k01⟩ := c.def_ 30 (d := d_well_k01) rfl
  have F_well_k01 : FunD K "_law_well" "_law_well" (defArgs s_well_k01) (defBody s_well_k01) (defScope s_well_k01) [] [] (d_well_k01.at_ K) fd_well_k01 := F0_well_k01
  have b_well_k01 : Binds K fd_well_k01 ["_law_cells", "_law_k"] [] := F_well_k01.bindsN fun _ _ _ _ _ _ us hl => match us, hl with | [_, _], _ => rfl
  obtain ⟨fd_dip_k01, F0_dip_k01⟩ := c.def_ 31 (d := d_dip_k01) rfl
  have F_dip_k01 : FunD K "_law_dip" "_law_dip" (defArgs s_dip_k01) (defBody s_dip_k01) (defScope s_dip_k01) [] [] (d_dip_k01.at_ K) fd_dip_k01 := F0_dip_k01
  have b_dip_k01 : Binds K fd_dip_k01 ["_law_well_here", "_law_many"] [] := F_dip_k01.bindsN fun _ _ _ _ _ _ us hl => match us, hl with | [_, _], _ => rfl
  obtain ⟨fd_name_k02, F0_name_k02⟩ := c.def_ 32 (d := d_name_k02) rfl
  have F_name_k02 : FunD K "_law_name" "_law_name" (defArgs s_name_k02) (defBody s_name_k02) (defScope s_name_k02) [] [] (d_name_k02.at_ K) fd_name_k02 := F0_name_k02
  have b_name_k02 : Binds K fd_name_k02 ["_law_well_here"] [] := F_name_k02.bindsN fun _ _ _ _ _ _ us hl => match us, hl with | [_], _ => rfl
  obtain ⟨fd_fresh_k02, F0_fresh_k02⟩ := c.def_ 33 (d := d_fresh_k02) rfl
  have F_fresh_k02 : FunD K "_law_fresh" "_law_fresh" (defArgs s_fresh_k02) (defBody s_fresh_k02) (defScope s_fresh_k02) [] [] (d_fresh_k02.at_ K) fd_fresh_k02 := F0_fresh_k02
  have b_fresh_k02 : Binds K fd_fresh_k02 ["_law_well_here", "_law_taken_here"] [] := F_fresh_k02.bindsN fun _ _ _ _ _ _ us hl => match us, hl with | [_, _], _ => rfl
  obtain ⟨fd_laid_k11, F0_laid_k11⟩ := c.def_ 34 (d := d_laid_k11) rfl
  have F_laid_k11 : FunD K "_law_laid" "_law_laid" (defArgs s_laid_k11) (defBody s_laid_k11) (defScope s_laid_k11) [] [] (d_laid_k11.at_ K) fd_laid_k11 := F0_laid_k11
  have b_laid_k11 : Binds K fd_laid_k11 ["_law_well_here", "_law_least", "_law_most"] [] := F_laid_k11.bindsN fun _ _ _ _ _ _ us hl => match us, hl with | [_, _, _], _ => rfl
  obtain ⟨fd_fits_k11, F0_fits_k11⟩ := c.def_ 35 (d := d_fits_k11) rfl
  have F_fits_k11 : FunD K "_law_fits" "_law_fits" (defArgs s_fits_k11) (defBody s_fits_k11) (defScope s_fits_k11) [] [] (d_fits_k11.at_ K) fd_fits_k11 := F0_fits_k11
  have b_fits_k11 : Binds K fd_fits_k11 ["_law_well_here", "_law_laid_here", "_law_most"] [] := F_fits_k11.bindsN fun _ _ _ _ _ _ us hl => match us, hl with | [_, _, _], _ => rfl
  obtain ⟨fd_sign_k04, F0_sign_k04⟩ := c.def_ 36 (d := d_sign_k04) rfl
  have F_sign_k04 : FunD K "_law_sign" "_law_sign" (defArgs s_sign_k04) (defBody s_sign_k04) (defScope s_sign_k04) [] [] (d_sign_k04.at_ K) fd_sign_k04 := F0_sign_k04
  have b_sign_k04 : Binds K fd_sign_k04 ["_law_well_here", "_law_often"] [] := F_sign_k04.bindsN fun _ _ _ _ _ _ us hl => match us, hl with | [_, _], _ => rfl
  obtain ⟨fd_bent_lines_k13, F0_bent_lines_k13⟩ := c.def_ 37 (d := d_bent_lines_k13) rfl
  have F_bent_lines_k13 : FunD K "_law_bent_lines" "_law_bent_lines" (defArgs s_bent_lines_k13) (defBody s_bent_lines_k13) (defScope s_bent_lines_k13) [] [] (d_bent_lines_k13.at_ K) fd_bent_lines_k13 := F0_bent_lines_k13
  have b_bent_lines_k13 : Binds K fd_bent_lines_k13 ["_law_well_here", "_law_line", "_law_way"] [] := F_bent_lines_k13.bindsN fun _ _ _ _ _ _ us hl => match us, hl with | [_, _, _], _ => rfl
  obtain ⟨fd_bent_k13, F0_bent_k13⟩ := c.def_ 38 (d := d_bent_k13) rfl
  have F_bent_k13 : FunD K "_law_bent" "_law_bent" (defArgs s_bent_k13) (defBody s_bent_k13) (defScope s_bent_k13) [] [] (d_bent_k13.at_ K) fd_bent_k13 := F0_bent_k13
  have b_bent_k13 : Binds K fd_bent_k13 ["_law_well_here", "_law_line"] [] := F_bent_k13.bindsN fun _ _ _ _ _ _ us hl => match us, hl with | [_, _], _ => rfl
  obtain ⟨fd_odd_k04, F0_odd_k04⟩ := c.def_ 39 (d := d_odd_k04) rfl
  have F_odd_k04 : FunD K "_law_odd" "_law_odd" (defArgs s_odd_k04) (defBody s_odd_k04) (defScope s_odd_k04) [] [] (d_odd_k04.at_ K) fd_odd_k04 := F0_odd_k04
  have b_odd_k04 : Binds K fd_odd_k04 ["_law_well_here"] [] := F_odd_k04.bindsN fun _ _ _ _ _ _ us hl => match us, hl with | [_], _ => rfl
  obtain ⟨fd_right_k13, F0_right_k13⟩ := c.def_ 40 (d := d_right_k13) rfl
  have F_right_k13 : FunD K "_law_right" "_law_right" (defArgs s_right_k13) (defBody s_right_k13) (defScope s_right_k13) [] [] (d_right_k13.at_ K) fd_right_k13 := F0_right_k13
  have b_right_k13 : Binds K fd_right_k13 ["_law_well_here"] [] := F_right_k13.bindsN fun _ _ _ _ _ _ us hl => match us, hl with | [_], _ => rfl
  obtain ⟨fd_law_k13, F0_law_k13⟩ := c.def_ 41 (d := d_law_k13) rfl
  have F_law_k13 : FunD K "law" "law" (defArgs s_law_k13) (defBody s_law_k13) (defScope s_law_k13) [] [] (d_law_k13.at_ K) fd_law_k13 := F0_law_k13
  have b_law_k13 : Binds K fd_law_k13 ["_law_cells"] [] := F_law_k13.bindsN fun _ _ _ _ _ _ us hl => match us, hl with | [_], _ => rfl
  obtain ⟨fd_X_InvalidEnd, F0_X_InvalidEnd⟩ := c.def_ 42 (d := d_X_InvalidEnd) rfl
  have F_X_InvalidEnd : FunD K "__init__" "InvalidEnd.__init__" (defArgs s_X_InvalidEnd) (defBody s_X_InvalidEnd) (defScope s_X_InvalidEnd) [] [] (He.ma K (He.ga K "InvalidEnd") "__init__") fd_X_InvalidEnd := F0_X_InvalidEnd
  have b_X_InvalidEnd : Binds K fd_X_InvalidEnd ["self", "given"] [] := F_X_InvalidEnd.bindsN fun _ _ _ _ _ _ us hl => match us, hl with | [_, _], _ => rfl
  obtain ⟨fd_X_InvalidFlag, F0_X_InvalidFlag⟩ := c.def_ 43 (d := d_X_InvalidFlag) rfl
  have F_X_InvalidFlag : FunD K "__init__" "InvalidFlag.__init__" (defArgs s_X_InvalidFlag) (defBody s_X_InvalidFlag) (defScope s_X_InvalidFlag) [] [] (He.ma K (He.ga K "InvalidFlag") "__init__") fd_X_InvalidFlag := F0_X_InvalidFlag
  have b_X_InvalidFlag : Binds K fd_X_InvalidFlag ["self", "given"] [] := F_X_InvalidFlag.bindsN fun _ _ _ _ _ _ us hl => match us, hl with | [_, _], _ => rfl
  obtain ⟨fd_X_InvalidMeters, F0_X_InvalidMeters⟩ := c.def_ 44 (d := d_X_InvalidMeters) rfl
  have F_X_InvalidMeters : FunD K "__init__" "InvalidMeters.__init__" (defArgs s_X_InvalidMeters) (defBody s_X_InvalidMeters) (defScope s_X_InvalidMeters) [] [] (He.ma K (He.ga K "InvalidMeters") "__init__") fd_X_InvalidMeters := F0_X_InvalidMeters
  have b_X_InvalidMeters : Binds K fd_X_InvalidMeters ["self", "index"] [] := F_X_InvalidMeters.bindsN fun _ _ _ _ _ _ us hl => match us, hl with | [_, _], _ => rfl
  obtain ⟨fd_X_InvalidName, F0_X_InvalidName⟩ := c.def_ 45 (d := d_X_InvalidName) rfl
  have F_X_InvalidName : FunD K "__init__" "InvalidName.__init__" (defArgs s_X_InvalidName) (defBody s_X_InvalidName) (defScope s_X_InvalidName) [] [] (He.ma K (He.ga K "InvalidName") "__init__") fd_X_InvalidName := F0_X_InvalidName
  have b_X_InvalidName : Binds K fd_X_InvalidName ["self", "given"] [] := F_X_InvalidName.bindsN fun _ _ _ _ _ _ us hl => match us, hl with | [_, _], _ => rfl
  obtain ⟨fd_X_InvalidPipes, F0_X_InvalidPipes⟩ := c.def_ 46 (d := d_X_InvalidPipes) rfl
  have F_X_InvalidPipes : FunD K "__init__" "InvalidPipes.__init__" (defArgs s_X_InvalidPipes) (defBody s_X_InvalidPipes) (defScope s_X_InvalidPipes) [] [] (He.ma K (He.ga K "InvalidPipes") "__init__") fd_X_InvalidPipes := F0_X_InvalidPipes
  have b_X_InvalidPipes : Binds K fd_X_InvalidPipes ["self", "index"] [] := F_X_InvalidPipes.bindsN fun _ _ _ _ _ _ us hl => match us, hl with | [_, _], _ => rfl
  obtain ⟨fd_X_InvalidText, F0_X_InvalidText⟩ := c.def_ 47 (d := d_X_InvalidText) rfl
  have F_X_InvalidText : FunD K "__init__" "InvalidText.__init__" (defArgs s_X_InvalidText) (defBody s_X_InvalidText) (defScope s_X_InvalidText) [] [] (He.ma K (He.ga K "InvalidText") "__init__") fd_X_InvalidText := F0_X_InvalidText
  have b_X_InvalidText : Binds K fd_X_InvalidText ["self", "given"] [] := F_X_InvalidText.bindsN fun _ _ _ _ _ _ us hl => match us, hl with | [_, _], _ => rfl
  have e := hfa.symm.trans (He.glo_ok X G (c.fact 27 (f := .glo "law") rfl))
  cases e
  have bA := FunD.bindsA (ps := ["_law_cells"]) F_law_k13 fun _ _ _ _ _ _ us hl => match us, hl with | [_], _ => rfl
  refine ⟨fd_law_k13, fun s v => bA s [v] rfl, fun base _ _ hTB => ?_⟩
  have x_InvalidEnd : Xc P w K mg base "InvalidEnd" ((ad K).c "InvalidEnd") "given" := xc_of F_X_InvalidEnd sc_X_InvalidEnd rfl (exA_at cx 16 rfl) (fun _ _ _ _ _ _ _ _ _ => pss_one (ps_osG (pe_var (i := 0) rfl (Or.inl rfl)) (pe_var (i := 1) rfl (Or.inl rfl)))) b_X_InvalidEnd (He.glo_ok X G (c.fact 30 (f := .glo "InvalidEnd") rfl))
  have x_InvalidFlag : Xc P w K mg base "InvalidFlag" ((ad K).c "InvalidFlag") "given" := xc_of F_X_InvalidFlag sc_X_InvalidFlag rfl (exA_at cx 17 rfl) (fun _ _ _ _ _ _ _ _ _ => pss_one (ps_osG (pe_var (i := 0) rfl (Or.inl rfl)) (pe_var (i := 1) rfl (Or.inl rfl)))) b_X_InvalidFlag (He.glo_ok X G (c.fact 31 (f := .glo "InvalidFlag") rfl))
  have x_InvalidMeters : Xc P w K mg base "InvalidMeters" ((ad K).c "InvalidMeters") "index" := xc_of F_X_InvalidMeters sc_X_InvalidMeters rfl (exA_at cx 18 rfl) (fun _ _ _ _ _ _ _ _ _ => pss_one (ps_osG (pe_var (i := 0) rfl (Or.inl rfl)) (pe_var (i := 1) rfl (Or.inl rfl)))) b_X_InvalidMeters (He.glo_ok X G (c.fact 32 (f := .glo "InvalidMeters") rfl))
  have x_InvalidName : Xc P w K mg base "InvalidName" ((ad K).c "InvalidName") "given" := xc_of F_X_InvalidName sc_X_InvalidName rfl (exA_at cx 19 rfl) (fun _ _ _ _ _ _ _ _ _ => pss_one (ps_osG (pe_var (i := 0) rfl (Or.inl rfl)) (pe_var (i := 1) rfl (Or.inl rfl)))) b_X_InvalidName (He.glo_ok X G (c.fact 33 (f := .glo "InvalidName") rfl))
  have x_InvalidPipes : Xc P w K mg base "InvalidPipes" ((ad K).c "InvalidPipes") "index" := xc_of F_X_InvalidPipes sc_X_InvalidPipes rfl (exA_at cx 20 rfl) (fun _ _ _ _ _ _ _ _ _ => pss_one (ps_osG (pe_var (i := 0) rfl (Or.inl rfl)) (pe_var (i := 1) rfl (Or.inl rfl)))) b_X_InvalidPipes (He.glo_ok X G (c.fact 34 (f := .glo "InvalidPipes") rfl))
  have x_InvalidText : Xc P w K mg base "InvalidText" ((ad K).c "InvalidText") "given" := xc_of F_X_InvalidText sc_X_InvalidText rfl (exA_at cx 21 rfl) (fun _ _ _ _ _ _ _ _ _ => pss_one (ps_osG (pe_var (i := 0) rfl (Or.inl rfl)) (pe_var (i := 1) rfl (Or.inl rfl)))) b_X_InvalidText (He.glo_ok X G (c.fact 35 (f := .glo "InvalidText") rfl))
  have ok0_is_name_k04 := ok_is_name_k04 (P := P) (w := w) (base := base) T F_is_name_k04 
  have c_is_name_k04 : Fc P w K mg base ⟨false, false, false⟩ "_law_is_name" 1 1 (G_is_name_k04 (ad K)) := ⟨_, fd_is_name_k04, ["_law_word"], ok0_is_name_k04, b_is_name_k04, F_is_name_k04.kp, He.glo_ok X G (c.fact 0 (f := .glo "_law_is_name") rfl)⟩
  have ok0_taken_k13 := ok_taken_k13 (P := P) (w := w) (base := base) T F_taken_k13 c_is_name_k04
  have c_taken_k13 : Fc P w K mg base ⟨false, false, false⟩ "_law_taken" 2 3 (G_taken_k13 (ad K)) := ⟨_, fd_taken_k13, ["_law_words", "_law_laid_here", "_law_fits_here"], ok0_taken_k13, b_taken_k13, F_taken_k13.kp, He.glo_ok X G (c.fact 1 (f := .glo "_law_taken") rfl)⟩
  have ok0_net_in_k13 := ok_net_in_k13 (P := P) (w := w) (base := base) T F_net_in_k13 c_taken_k13
  have c_net_in_k13 : Fc P w K mg base ⟨false, false, false⟩ "_law_net_in" 3 1 (G_net_in_k13 (ad K)) := ⟨_, fd_net_in_k13, ["_law_line"], ok0_net_in_k13, b_net_in_k13, F_net_in_k13.kp, He.glo_ok X G (c.fact 2 (f := .glo "_law_net_in") rfl)⟩
  have ok0_Pipe_name := ok_Pipe_name (nn := false) (P := P) (w := w) (base := base) T F_Pipe_name 
  have c_Pipe_name : Pc P w K mg base false ((ad K).c "Pipe") "name" 1 (G_Pipe_name (ad K)) := ⟨_, _, fd_Pipe_name, ["self"], T.k_Pipe.cl, propB_ok (exA_at cx 2 rfl), ok0_Pipe_name, b_Pipe_name⟩
  have ok0_Pipe_name_t := ok_Pipe_name (nn := true) (P := P) (w := w) (base := base) T F_Pipe_name 
  have c_Pipe_name_t : Pc P w K mg base true ((ad K).c "Pipe") "name" 1 (G_Pipe_name (ad K)) := ⟨_, _, fd_Pipe_name, ["self"], T.k_Pipe.cl, propB_ok (exA_at cx 2 rfl), ok0_Pipe_name_t, b_Pipe_name⟩
  have ok0_Pipe_start := ok_Pipe_start (nn := false) (P := P) (w := w) (base := base) T F_Pipe_start 
  have c_Pipe_start : Pc P w K mg base false ((ad K).c "Pipe") "start" 1 (G_Pipe_start (ad K)) := ⟨_, _, fd_Pipe_start, ["self"], T.k_Pipe.cl, propB_ok (exA_at cx 3 rfl), ok0_Pipe_start, b_Pipe_start⟩
  have ok0_Pipe_end := ok_Pipe_end (nn := false) (P := P) (w := w) (base := base) T F_Pipe_end 
  have c_Pipe_end : Pc P w K mg base false ((ad K).c "Pipe") "end" 1 (G_Pipe_end (ad K)) := ⟨_, _, fd_Pipe_end, ["self"], T.k_Pipe.cl, propB_ok (exA_at cx 4 rfl), ok0_Pipe_end, b_Pipe_end⟩
  have ok0_Meter_name := ok_Meter_name (nn := false) (P := P) (w := w) (base := base) T F_Meter_name 
  have c_Meter_name : Pc P w K mg base false ((ad K).c "Meter") "name" 1 (G_Meter_name (ad K)) := ⟨_, _, fd_Meter_name, ["self"], T.k_Meter.cl, propB_ok (exA_at cx 6 rfl), ok0_Meter_name, b_Meter_name⟩
  have ok0_Meter_name_t := ok_Meter_name (nn := true) (P := P) (w := w) (base := base) T F_Meter_name 
  have c_Meter_name_t : Pc P w K mg base true ((ad K).c "Meter") "name" 1 (G_Meter_name (ad K)) := ⟨_, _, fd_Meter_name, ["self"], T.k_Meter.cl, propB_ok (exA_at cx 6 rfl), ok0_Meter_name_t, b_Meter_name⟩
  have ok0_Meter_at := ok_Meter_at (nn := false) (P := P) (w := w) (base := base) T F_Meter_at 
  have c_Meter_at : Pc P w K mg base false ((ad K).c "Meter") "at" 1 (G_Meter_at (ad K)) := ⟨_, _, fd_Meter_at, ["self"], T.k_Meter.cl, propB_ok (exA_at cx 7 rfl), ok0_Meter_at, b_Meter_at⟩
  have ok0_Meter_at_t := ok_Meter_at (nn := true) (P := P) (w := w) (base := base) T F_Meter_at 
  have c_Meter_at_t : Pc P w K mg base true ((ad K).c "Meter") "at" 1 (G_Meter_at (ad K)) := ⟨_, _, fd_Meter_at, ["self"], T.k_Meter.cl, propB_ok (exA_at cx 7 rfl), ok0_Meter_at_t, b_Meter_at⟩
  have ok0_Meter_sealed := ok_Meter_sealed (nn := false) (P := P) (w := w) (base := base) T F_Meter_sealed 
  have c_Meter_sealed : Pc P w K mg base false ((ad K).c "Meter") "sealed" 1 (G_Meter_sealed (ad K)) := ⟨_, _, fd_Meter_sealed, ["self"], T.k_Meter.cl, propB_ok (exA_at cx 8 rfl), ok0_Meter_sealed, b_Meter_sealed⟩
  have ok0_line_of := ok_line_of (nn := false) (P := P) (w := w) (base := base) T F_line_of c_Pipe_name c_Pipe_start c_Pipe_end c_Meter_name c_Meter_at c_Meter_sealed
  have c_line_of : Fc P w K mg base ⟨false, false, false⟩ "line_of" 3 1 (G_line_of (ad K)) := ⟨_, fd_line_of, ["item"], ok0_line_of, b_line_of, F_line_of.kp, He.glo_ok X G (c.fact 3 (f := .glo "line_of") rfl)⟩
  have ok0_Net_str := ok_Net_str (nn := false) (P := P) (w := w) (base := base) T F_Net_str c_line_of
  have c_Net_str : Sc P w K mg base false ((ad K).c "Net") "__str__" 4 1 (G_Net_str (ad K)) := sc_of (exA_at cx 15 rfl) ok0_Net_str b_Net_str
  have ok0_seen_k10 := ok_seen_k10 (P := P) (w := w) (base := base) T F_seen_k10 c_Pipe_name c_Pipe_start c_Pipe_end c_Meter_name c_Meter_at c_Meter_sealed c_Net_str
  have c_seen_k10 : Fc P w K mg base ⟨true, false, false⟩ "_law_seen" 7 1 (G_seen_k10 (ad K)) := ⟨_, fd_seen_k10, ["_law_thing"], ok0_seen_k10, b_seen_k10, F_seen_k10.kp, He.glo_ok X G (c.fact 5 (f := .glo "_law_seen") rfl)⟩
  have ok0_seen_k10_h := ok_seen_k10_h (P := P) (w := w) (base := base) T F_seen_k10_h 
  have c_seen_k10_h : Fc P w K mg base ⟨true, false, true⟩ "_law_seen" 1 1 (G_seen_k10_h (ad K)) := ⟨_, fd_seen_k10_h, ["_law_thing"], ok0_seen_k10_h, b_seen_k10_h, F_seen_k10_h.kp, He.glo_ok X G (c.fact 5 (f := .glo "_law_seen") rfl)⟩
  have ok0_said_k10 := ok_said_k10 (P := P) (w := w) (base := base) T F_said_k10 c_seen_k10_h
  have c_said_k10 : Fe P w K mg base true "_law_said" 2 1 (G_said_k10 (ad K)) := ⟨_, fd_said_k10, ["_law_e"], ok0_said_k10, b_said_k10, F_said_k10.kp, He.glo_ok X G (c.fact 6 (f := .glo "_law_said") rfl)⟩
  have c_caught_k10 : Cc P w K mg base "_law_caught" 7 (errL (ad K) errNames) 3 1 2 (T_caught_k10 (ad K)) (S_caught_k10 (ad K)) := ok_caught_k10 T F_caught_k10 b_caught_k10 F_caught_k10.kp (He.glo_ok X G (c.fact 7 (f := .glo "_law_caught") rfl)) c_seen_k10 c_said_k10
  have ok0_is_name := ok_is_name (nn := false) (P := P) (w := w) (base := base) T F_is_name 
  have c_is_name : Fc P w K mg base ⟨false, false, false⟩ "is_name" 1 1 (G_is_name (ad K)) := ⟨_, fd_is_name, ["value"], ok0_is_name, b_is_name, F_is_name.kp, He.glo_ok X G (c.fact 8 (f := .glo "is_name") rfl)⟩
  have ok0_check_name := ok_check_name (nn := false) (P := P) (w := w) (base := base) T F_check_name c_is_name x_InvalidName
  have c_check_name : Fc P w K mg base ⟨false, false, false⟩ "check_name" 3 1 (G_check_name (ad K)) := ⟨_, fd_check_name, ["value"], ok0_check_name, b_check_name, F_check_name.kp, He.glo_ok X G (c.fact 9 (f := .glo "check_name") rfl)⟩
  have ok0_Pipe_init := ok_Pipe_init (nn := false) (P := P) (w := w) (base := base) T F_Pipe_init c_check_name x_InvalidEnd
  have mk_Pipe_3 : Mc P w K mg base false "Pipe" ((ad K).c "Pipe") 4 4 (G_Pipe_init (ad K)) [] := ⟨_, fd_Pipe_init, ["self", "name", "start", "end"], [], [], He.mkr_ok (c.fact 44 (f := .mkr "Pipe") rfl), ok0_Pipe_init, b_Pipe_init, .nil, fun _ _ => .nil, T.m_Pipe⟩
  have ok0_Meter_init := ok_Meter_init (nn := false) (P := P) (w := w) (base := base) T F_Meter_init c_check_name x_InvalidFlag
  have mk_Meter_2_sealed : Mk_ P w K mg base false "Meter" ((ad K).c "Meter") 4 4 2 ["sealed"] (G_Meter_init (ad K)) (perm [0]) := mkK_of 2 ["sealed"] [0] F_Meter_init (He.mkr_ok (c.fact 47 (f := .mkr "Meter") rfl)) ok0_Meter_init T.m_Meter fun _ _ _ _ _ _ us ws hu hw => match us, hu, ws, hw with | [_, _, _], _, [_], _ => rfl
  have ok0_item_of := ok_item_of (P := P) (w := w) (base := base) T F_item_of mk_Meter_2_sealed mk_Pipe_3
  have c_item_of : Fc P w K mg base ⟨false, false, false⟩ "item_of" 6 1 (G_item_of (ad K)) := ⟨_, fd_item_of, ["line"], ok0_item_of, b_item_of, F_item_of.kp, He.glo_ok X G (c.fact 10 (f := .glo "item_of") rfl)⟩
  have ok0_check_pipes := ok_check_pipes (nn := false) (P := P) (w := w) (base := base) T F_check_pipes c_Pipe_name x_InvalidPipes
  have c_check_pipes : Fc P w K mg base ⟨false, false, false⟩ "check_pipes" 3 1 (G_check_pipes (ad K)) := ⟨_, fd_check_pipes, ["pipes"], ok0_check_pipes, b_check_pipes, F_check_pipes.kp, He.glo_ok X G (c.fact 11 (f := .glo "check_pipes") rfl)⟩
  have ok0_check_pipes_t := ok_check_pipes (nn := true) (P := P) (w := w) (base := base) T F_check_pipes c_Pipe_name_t x_InvalidPipes
  have c_check_pipes_t : Fc P w K mg base ⟨false, true, false⟩ "check_pipes" 3 1 (G_check_pipes (ad K)) := ⟨_, fd_check_pipes, ["pipes"], ok0_check_pipes_t, b_check_pipes, F_check_pipes.kp, He.glo_ok X G (c.fact 11 (f := .glo "check_pipes") rfl)⟩
  have ok0_check_meters := ok_check_meters (nn := false) (P := P) (w := w) (base := base) T F_check_meters c_Pipe_name c_Meter_name c_Meter_at x_InvalidMeters
  have c_check_meters : Fc P w K mg base ⟨false, false, false⟩ "check_meters" 3 2 (G_check_meters (ad K)) := ⟨_, fd_check_meters, ["meters", "pipes"], ok0_check_meters, b_check_meters, F_check_meters.kp, He.glo_ok X G (c.fact 12 (f := .glo "check_meters") rfl)⟩
  have ok0_check_meters_t := ok_check_meters (nn := true) (P := P) (w := w) (base := base) T F_check_meters c_Pipe_name_t c_Meter_name_t c_Meter_at_t x_InvalidMeters
  have c_check_meters_t : Fc P w K mg base ⟨false, true, false⟩ "check_meters" 3 2 (G_check_meters (ad K)) := ⟨_, fd_check_meters, ["meters", "pipes"], ok0_check_meters_t, b_check_meters, F_check_meters.kp, He.glo_ok X G (c.fact 12 (f := .glo "check_meters") rfl)⟩
  have ok0_Net_init := ok_Net_init (nn := false) (P := P) (w := w) (base := base) T F_Net_init c_check_pipes c_check_meters
  have mk_Net_2 : Mc P w K mg base false "Net" ((ad K).c "Net") 4 3 (G_Net_init (ad K)) [] := ⟨_, fd_Net_init, ["self", "pipes", "meters"], [], [], He.mkr_ok (c.fact 50 (f := .mkr "Net") rfl), ok0_Net_init, b_Net_init, .nil, fun _ _ => .nil, T.m_Net⟩
  have ok0_Net_init_t := ok_Net_init (nn := true) (P := P) (w := w) (base := base) T F_Net_init c_check_pipes_t c_check_meters_t
  have mk_Net_2_t : Mc P w K mg base true "Net" ((ad K).c "Net") 4 3 (G_Net_init (ad K)) [] := ⟨_, fd_Net_init, ["self", "pipes", "meters"], [], [], He.mkr_ok (c.fact 50 (f := .mkr "Net") rfl), ok0_Net_init_t, b_Net_init, .nil, fun _ _ => .nil, T.m_Net⟩
  have ok0_Net_read := ok_Net_read (P := P) (w := w) (base := base) T F_Net_read c_Net_str c_item_of mk_Net_2_t x_InvalidText
  have c_Net_read : Cm P w K mg base false ((ad K).c "Net") "read" 7 2 (G_Net_read (ad K)) := cm_of (exA_at cx 10 rfl) (exA_at cx 11 rfl) ok0_Net_read b_Net_read
  have ck_Net_read_text : CmK P w K mg base false ((ad K).c "Net") "read" 7 2 ["text"] (G_Net_read (ad K)) (perm [0]) := cmK_of ["text"] [0] (exA_at cx 10 rfl) (exA_at cx 11 rfl) F_Net_read ok0_Net_read fun _ _ _ _ _ _ us ws hu hw => match us, hu, ws, hw with | [_], _, [_], _ => rfl
  have ok0_Net_pipes := ok_Net_pipes (nn := false) (P := P) (w := w) (base := base) T F_Net_pipes 
  have c_Net_pipes : Pc P w K mg base false ((ad K).c "Net") "pipes" 1 (G_Net_pipes (ad K)) := ⟨_, _, fd_Net_pipes, ["self"], T.k_Net.cl, propB_ok (exA_at cx 12 rfl), ok0_Net_pipes, b_Net_pipes⟩
  have ok0_Net_meters := ok_Net_meters (nn := false) (P := P) (w := w) (base := base) T F_Net_meters 
  have c_Net_meters : Pc P w K mg base false ((ad K).c "Net") "meters" 1 (G_Net_meters (ad K)) := ⟨_, _, fd_Net_meters, ["self"], T.k_Net.cl, propB_ok (exA_at cx 13 rfl), ok0_Net_meters, b_Net_meters⟩
  have ok0_net_text_k11 := ok_net_text_k11 (P := P) (w := w) (base := base) T F_net_text_k11 
  have c_net_text_k11 : Fc P w K mg base ⟨false, false, false⟩ "_law_net_text" 1 2 (G_net_text_k11 (ad K)) := ⟨_, fd_net_text_k11, ["_law_laid_here", "_law_fits_here"], ok0_net_text_k11, b_net_text_k11, F_net_text_k11.kp, He.glo_ok X G (c.fact 13 (f := .glo "_law_net_text") rfl)⟩
  have ok0_Net_len := ok_Net_len (nn := false) (P := P) (w := w) (base := base) T F_Net_len 
  have c_Net_len : Sc P w K mg base false ((ad K).c "Net") "__len__" 1 1 (G_Net_len (ad K)) := sc_of (exA_at cx 14 rfl) ok0_Net_len b_Net_len
  have ok0_is_k11 := ok_is_k11 (P := P) (w := w) (base := base) T F_is_k11 c_Pipe_name c_Pipe_start c_Pipe_end c_Meter_name c_Meter_at c_Meter_sealed c_Net_str c_Net_pipes c_Net_meters c_net_text_k11 c_Net_len
  have c_is_k11 : Fc P w K mg base ⟨true, false, false⟩ "_law_is" 7 3 (G_is_k11 (ad K)) := ⟨_, fd_is_k11, ["_law_net", "_law_laid_here", "_law_fits_here"], ok0_is_k11, b_is_k11, F_is_k11.kp, He.glo_ok X G (c.fact 14 (f := .glo "_law_is") rfl)⟩
  have ok0_read_right_k13 := ok_read_right_k13 (P := P) (w := w) (base := base) T F_read_right_k13 c_net_in_k13 c_caught_k10 c_Net_read c_is_k11 ck_Net_read_text (tabD_of (p := ("_law_read_right", none)) (hTB _ (List.mem_map.mpr ⟨("_law_read_right", none), by simp [tf], rfl⟩)))
  have c_read_right_k13 : Fc P w K mg base ⟨true, false, false⟩ "_law_read_right" 10 1 (G_read_right_k13 (ad K)) := ⟨_, fd_read_right_k13, ["_law_given"], ok0_read_right_k13, b_read_right_k13, F_read_right_k13.kp, He.glo_ok X G (c.fact 15 (f := .glo "_law_read_right") rfl)⟩
  have ok0_well_k01 := ok_well_k01 (P := P) (w := w) (base := base) T F_well_k01 
  have c_well_k01 : Fc P w K mg base ⟨false, false, false⟩ "_law_well" 1 2 (G_well_k01 (ad K)) := ⟨_, fd_well_k01, ["_law_cells", "_law_k"], ok0_well_k01, b_well_k01, F_well_k01.kp, He.glo_ok X G (c.fact 16 (f := .glo "_law_well") rfl)⟩
  have ok0_dip_k01 := ok_dip_k01 (P := P) (w := w) (base := base) T F_dip_k01 
  have c_dip_k01 : Fc P w K mg base ⟨false, false, false⟩ "_law_dip" 1 2 (G_dip_k01 (ad K)) := ⟨_, fd_dip_k01, ["_law_well_here", "_law_many"], ok0_dip_k01, b_dip_k01, F_dip_k01.kp, He.glo_ok X G (c.fact 17 (f := .glo "_law_dip") rfl)⟩
  have ok0_name_k02 := ok_name_k02 (P := P) (w := w) (base := base) T F_name_k02 c_dip_k01
  have c_name_k02 : Fc P w K mg base ⟨false, false, false⟩ "_law_name" 2 1 (G_name_k02 (ad K)) := ⟨_, fd_name_k02, ["_law_well_here"], ok0_name_k02, b_name_k02, F_name_k02.kp, He.glo_ok X G (c.fact 18 (f := .glo "_law_name") rfl)⟩
  have ok0_fresh_k02 := ok_fresh_k02 (P := P) (w := w) (base := base) T F_fresh_k02 c_dip_k01 c_name_k02
  have c_fresh_k02 : Fc P w K mg base ⟨false, false, false⟩ "_law_fresh" 3 2 (G_fresh_k02 (ad K)) := ⟨_, fd_fresh_k02, ["_law_well_here", "_law_taken_here"], ok0_fresh_k02, b_fresh_k02, F_fresh_k02.kp, He.glo_ok X G (c.fact 19 (f := .glo "_law_fresh") rfl)⟩
  have ok0_laid_k11 := ok_laid_k11 (P := P) (w := w) (base := base) T F_laid_k11 c_dip_k01 c_fresh_k02
  have c_laid_k11 : Fc P w K mg base ⟨false, false, false⟩ "_law_laid" 4 3 (G_laid_k11 (ad K)) := ⟨_, fd_laid_k11, ["_law_well_here", "_law_least", "_law_most"], ok0_laid_k11, b_laid_k11, F_laid_k11.kp, He.glo_ok X G (c.fact 20 (f := .glo "_law_laid") rfl)⟩
  have ok0_fits_k11 := ok_fits_k11 (P := P) (w := w) (base := base) T F_fits_k11 c_dip_k01 c_fresh_k02
  have c_fits_k11 : Fc P w K mg base ⟨false, false, false⟩ "_law_fits" 4 3 (G_fits_k11 (ad K)) := ⟨_, fd_fits_k11, ["_law_well_here", "_law_laid_here", "_law_most"], ok0_fits_k11, b_fits_k11, F_fits_k11.kp, He.glo_ok X G (c.fact 21 (f := .glo "_law_fits") rfl)⟩
  have ok0_sign_k04 := ok_sign_k04 (P := P) (w := w) (base := base) T F_sign_k04 c_dip_k01
  have c_sign_k04 : Fc P w K mg base ⟨false, false, false⟩ "_law_sign" 2 2 (G_sign_k04 (ad K)) := ⟨_, fd_sign_k04, ["_law_well_here", "_law_often"], ok0_sign_k04, b_sign_k04, F_sign_k04.kp, He.glo_ok X G (c.fact 22 (f := .glo "_law_sign") rfl)⟩
  have ok0_bent_lines_k13 := ok_bent_lines_k13 (P := P) (w := w) (base := base) T F_bent_lines_k13 c_dip_k01
  have c_bent_lines_k13 : Fc P w K mg base ⟨false, false, false⟩ "_law_bent_lines" 2 3 (G_bent_lines_k13 (ad K)) := ⟨_, fd_bent_lines_k13, ["_law_well_here", "_law_line", "_law_way"], ok0_bent_lines_k13, b_bent_lines_k13, F_bent_lines_k13.kp, He.glo_ok X G (c.fact 23 (f := .glo "_law_bent_lines") rfl)⟩
  have ok0_bent_k13 := ok_bent_k13 (P := P) (w := w) (base := base) T F_bent_k13 c_dip_k01 c_sign_k04 c_bent_lines_k13
  have c_bent_k13 : Fc P w K mg base ⟨false, false, false⟩ "_law_bent" 3 2 (G_bent_k13 (ad K)) := ⟨_, fd_bent_k13, ["_law_well_here", "_law_line"], ok0_bent_k13, b_bent_k13, F_bent_k13.kp, He.glo_ok X G (c.fact 24 (f := .glo "_law_bent") rfl)⟩
  have ok0_odd_k04 := ok_odd_k04 (P := P) (w := w) (base := base) T F_odd_k04 c_dip_k01
  have c_odd_k04 : Fc P w K mg base ⟨false, false, false⟩ "_law_odd" 2 1 (G_odd_k04 (ad K)) := ⟨_, fd_odd_k04, ["_law_well_here"], ok0_odd_k04, b_odd_k04, F_odd_k04.kp, He.glo_ok X G (c.fact 25 (f := .glo "_law_odd") rfl)⟩
  have ok0_right_k13 := ok_right_k13 (P := P) (w := w) (base := base) T F_right_k13 c_net_text_k11 c_read_right_k13 c_laid_k11 c_fits_k11 c_bent_k13 c_odd_k04
  have c_right_k13 : Fc P w K mg base ⟨true, false, false⟩ "_law_right" 11 1 (G_right_k13 (ad K)) := ⟨_, fd_right_k13, ["_law_well_here"], ok0_right_k13, b_right_k13, F_right_k13.kp, He.glo_ok X G (c.fact 26 (f := .glo "_law_right") rfl)⟩
  exact ok_law_k13 T F_law_k13 c_read_right_k13 c_well_k01 c_right_k13
end K13
end
section
/-! Words for running the readings: one statement at a time; states with a well. -/
namespace RV
open PySem L2
theorem onS_some {α : Type} {a : α} {k : α → Prop} : onS (some a) k = k a := rfl
theorem onB_bl {b : Bool} {k : Bool → Prop} : onB (.bl b) k = k b := rfl
theorem iteB_t {p q : Prop} : iteB true p q = p := rfl
theorem iteB_f {p q : Prop} : iteB false p q = q := rfl
theorem iteB_by {b : Bool} {p q : Prop} (h1 : b = true → p) (h2 : b = false → q) : iteB b p q := by
  cases b
  · exact h2 rfl
  · exact h1 rfl
theorem iteB_dec {c : Prop} [Decidable c] {p q : Prop} (h1 : c → p) (h2 : ¬ c → q) : iteB (decide c) p q := iteB_by (fun h => h1 (of_decide_eq_true h)) (fun h => h2 (of_decide_eq_false h))
theorem look0 {d : Option D} {r : Env} : look (d :: r) 0 = d := rfl
theorem look1 {a0 a1 : Option D} {r : Env} : look (a0 :: a1 :: r) 1 = a1 := rfl
theorem look2 {a0 a1 a2 : Option D} {r : Env} : look (a0 :: a1 :: a2 :: r) 2 = a2 := rfl
theorem look3 {a0 a1 a2 a3 : Option D} {r : Env} : look (a0 :: a1 :: a2 :: a3 :: r) 3 = a3 := rfl
theorem look4 {a0 a1 a2 a3 a4 : Option D} {r : Env} : look (a0 :: a1 :: a2 :: a3 :: a4 :: r) 4 = a4 := rfl
theorem look5 {a0 a1 a2 a3 a4 a5 : Option D} {r : Env} : look (a0 :: a1 :: a2 :: a3 :: a4 :: a5 :: r) 5 = a5 := rfl
theorem look6 {a0 a1 a2 a3 a4 a5 a6 : Option D} {r : Env} : look (a0 :: a1 :: a2 :: a3 :: a4 :: a5 :: a6 :: r) 6 = a6 := rfl
theorem look7 {a0 a1 a2 a3 a4 a5 a6 a7 : Option D} {r : Env} : look (a0 :: a1 :: a2 :: a3 :: a4 :: a5 :: a6 :: a7 :: r) 7 = a7 := rfl
theorem look8 {a0 a1 a2 a3 a4 a5 a6 a7 a8 : Option D} {r : Env} : look (a0 :: a1 :: a2 :: a3 :: a4 :: a5 :: a6 :: a7 :: a8 :: r) 8 = a8 := rfl
theorem look9 {a0 a1 a2 a3 a4 a5 a6 a7 a8 a9 : Option D} {r : Env} : look (a0 :: a1 :: a2 :: a3 :: a4 :: a5 :: a6 :: a7 :: a8 :: a9 :: r) 9 = a9 := rfl
theorem look10 {a0 a1 a2 a3 a4 a5 a6 a7 a8 a9 a10 : Option D} {r : Env} : look (a0 :: a1 :: a2 :: a3 :: a4 :: a5 :: a6 :: a7 :: a8 :: a9 :: a10 :: r) 10 = a10 := rfl
theorem look11 {a0 a1 a2 a3 a4 a5 a6 a7 a8 a9 a10 a11 : Option D} {r : Env} : look (a0 :: a1 :: a2 :: a3 :: a4 :: a5 :: a6 :: a7 :: a8 :: a9 :: a10 :: a11 :: r) 11 = a11 := rfl
theorem look12 {a0 a1 a2 a3 a4 a5 a6 a7 a8 a9 a10 a11 a12 : Option D} {r : Env} : look (a0 :: a1 :: a2 :: a3 :: a4 :: a5 :: a6 :: a7 :: a8 :: a9 :: a10 :: a11 :: a12 :: r) 12 = a12 := rfl
theorem look13 {a0 a1 a2 a3 a4 a5 a6 a7 a8 a9 a10 a11 a12 a13 : Option D} {r : Env} : look (a0 :: a1 :: a2 :: a3 :: a4 :: a5 :: a6 :: a7 :: a8 :: a9 :: a10 :: a11 :: a12 :: a13 :: r) 13 = a13 := rfl
theorem look14 {a0 a1 a2 a3 a4 a5 a6 a7 a8 a9 a10 a11 a12 a13 a14 : Option D} {r : Env} : look (a0 :: a1 :: a2 :: a3 :: a4 :: a5 :: a6 :: a7 :: a8 :: a9 :: a10 :: a11 :: a12 :: a13 :: a14 :: r) 14 = a14 := rfl
theorem look15 {a0 a1 a2 a3 a4 a5 a6 a7 a8 a9 a10 a11 a12 a13 a14 a15 : Option D} {r : Env} : look (a0 :: a1 :: a2 :: a3 :: a4 :: a5 :: a6 :: a7 :: a8 :: a9 :: a10 :: a11 :: a12 :: a13 :: a14 :: a15 :: r) 15 = a15 := rfl
theorem seq_gen {m1 m2 : Env → MS} {ρ : Env} {S : WS} {k : Kt} (h : ∀ N : Env → WS → Prop, (N = fun ρ' S' => m2 ρ' S' k) → m1 ρ S ⟨N, k.rt, k.bk, k.ct, k.ex⟩) : sSeq m1 m2 ρ S k := h _ rfl
theorem onI_i {i : Int} {k : Int → Prop} : onI (.int i) k = k i := rfl
theorem onT_s {i : Str} {k : Str → Prop} : onT (.str i) k = k i := rfl
theorem onTu_t {i : List D} {k : List D → Prop} : onTu (.tup i) k = k i := rfl
theorem onCe_c {i : Nat} {k : Nat → Prop} : onCe (.cell i) k = k i := rfl
theorem on1_ {a : D} {k : D → Prop} : on1 [a] k = k a := rfl
theorem on2_ {a b : D} {k : D → D → Prop} : on2 [a, b] k = k a b := rfl
theorem on3_ {a b c : D} {k : D → D → D → Prop} : on3 [a, b, c] k = k a b c := rfl
theorem onLst_l {ds : List D} {k : List D → Prop} : onLst (.lst ds) k = k ds := rfl
theorem onOb_o {C : Addr} {fs : List (Str × D)} {k : Addr → List (Str × D) → Prop} : onOb (.ob C fs) k = k C fs := rfl
theorem onSeq_l {ds : List D} {S : WS} {q : List D → (WS → Prop) → WS → Prop} : onSeq (.lst ds) S q = q ds any_ S := rfl
theorem onSeq_r {ns : List Int} {S : WS} {q : List D → (WS → Prop) → WS → Prop} : onSeq (.scr ns) S q = q (ns.map D.int) any_ S := rfl
theorem onSeq_c {i : Nat} {S : WS} {q : List D → (WS → Prop) → WS → Prop} : onSeq (.cell i) S q = onS S[i]? fun c => onLst c fun ds => q ds (Holds i ds) S := rfl
theorem lkD_s {ds : List D} {S : WS} {q : D → WS → Prop} : lkD .still ds S q = q (.lst ds) S := rfl
theorem lkD_n {ds : List D} {S : WS} {q : D → WS → Prop} : lkD .new ds S q = (D.cleanL 0 ds = true ∧ q (.cell S.length) (S ++ [.lst ds])) := rfl
theorem lkO_s {C : Addr} {fs : List (Str × D)} {n : Nat} {S : WS} {q : D → WS → Prop} : lkO .still C fs n S q = q (.obj C fs) (S.take n) := rfl
theorem lkO_n {C : Addr} {fs : List (Str × D)} {n : Nat} {S : WS} {q : D → WS → Prop} : lkO .new C fs n S q = q (.cell n) (S.take n ++ [.ob C fs]) := rfl
theorem tTup_t {n : Nat} {g : List D → Env → Option Env} {ds : List D} {ρ : Env} : tTupD n g (.tup ds) ρ = if ds.length = n then g ds ρ else none := rfl
theorem tsCons_c {f : D → Env → Option Env} {g : List D → Env → Option Env} {d : D} {r : List D} {ρ : Env} : tsCons f g (d :: r) ρ = (f d ρ).bind fun ρ' => g r ρ' := rfl
theorem tsNil_n {ρ : Env} : tsNil [] ρ = some ρ := rfl
theorem any_t {S : WS} : any_ S = True := rfl
theorem isOb_obj {C C' : Addr} {S : WS} {fs : List (Str × D)} : isOb C S (.obj C' fs) = (C' = C) := rfl
theorem isN_non {neg : Bool} {S : WS} : isND neg S .non .non = some (.bl (!neg)) := rfl
theorem truD_bl {S : WS} {b : Bool} : truD S (.bl b) = some b := rfl
theorem small_0 : small 0 = true := rfl
theorem small_1 : small 1 = true := rfl
theorem small_2 : small 2 = true := rfl
theorem small_3 : small 3 = true := rfl
theorem small_4 : small 4 = true := rfl
theorem small_5 : small 5 = true := rfl
theorem small_6 : small 6 = true := rfl
theorem small_7 : small 7 = true := rfl
theorem small_8 : small 8 = true := rfl
theorem small_of {n : Nat} (h : n ≤ 100000) : small n = true := decide_eq_true h
theorem mulD_int {S : WS} {i j : Int} (h : mulOk i j = true) : mulD S (.int i) (.int j) = some (.int (i * j)) := if_pos h
theorem powD_int {S : WS} {i j : Int} (h : powOk i j = true) : powD S (.int i) (.int j) = some (.int (i ^ j.toNat)) := if_pos h
theorem modD_int {S : WS} {i j : Int} (h : 0 < j) : modD S (.int i) (.int j) = some (.int (i % j)) := if_pos (decide_eq_true h)
theorem fdivD_int {S : WS} {i j : Int} (h : divOk i j = true) : fdivD S (.int i) (.int j) = some (.int (i / j)) := if_pos h
theorem ltD_int {S : WS} {i j : Int} : ltD S (.int i) (.int j) = some (.bl (decide (i < j))) := rfl
theorem leD_int {S : WS} {i j : Int} : leD S (.int i) (.int j) = some (.bl (decide (i ≤ j))) := rfl
theorem gtD_int {S : WS} {i j : Int} : gtD S (.int i) (.int j) = some (.bl (decide (j < i))) := rfl
theorem geD_int {S : WS} {i j : Int} : geD S (.int i) (.int j) = some (.bl (decide (j ≤ i))) := rfl
theorem subD_int {S : WS} {i j : Int} : subD S (.int i) (.int j) = some (.int (i - j)) := rfl
theorem addD_int {S : WS} {i j : Int} : addD S (.int i) (.int j) = some (.int (i + j)) := rfl
theorem addD_str {S : WS} {a b : Str} (h : small (a.length + b.length) = true) : addD S (.str a) (.str b) = some (.str (a ++ b)) := if_pos h
theorem addD_lst {S : WS} {a b : List D} (h : small (a.length + b.length) = true) : addD S (.lst a) (.lst b) = some (.lst (a ++ b)) := if_pos h
theorem intOf_int {S : WS} {i : Int} : intOfD S [.int i] = some (.int i) := rfl
theorem absD_int {S : WS} {i : Int} : absD S [.int i] = some (.int (if i < 0 then -i else i)) := rfl
theorem eqD_int {S : WS} {i j : Int} : eqD S (.int i) (.int j) = some (.bl (decide (i = j))) := rfl
theorem neD_int {S : WS} {i j : Int} : neD S (.int i) (.int j) = some (.bl (!decide (i = j))) := rfl
theorem eqD_str {S : WS} {i j : Str} : eqD S (.str i) (.str j) = some (.bl (decide (i = j))) := rfl
theorem neD_str {S : WS} {i j : Str} : neD S (.str i) (.str j) = some (.bl (!decide (i = j))) := rfl
theorem eqD_bl {S : WS} {i j : Bool} : eqD S (.bl i) (.bl j) = some (.bl (decide (i = j))) := rfl
theorem neD_bl {S : WS} {i j : Bool} : neD S (.bl i) (.bl j) = some (.bl (!decide (i = j))) := rfl
theorem mulOk_l {i j : Int} (h : 0 ≤ i) (h1 : i < 18446744073709551616) : mulOk i j = true := decide_eq_true (.inl ⟨by omega, by simpa using h1⟩)
theorem mulOk_r {i j : Int} (h : 0 ≤ j) (h1 : j < 18446744073709551616) : mulOk i j = true := decide_eq_true (.inr ⟨by omega, by simpa using h1⟩)
theorem fin_self {S : WS} {d : D} {q : D → WS → Prop} : fin S.length d S q = q d S := if_pos rfl
theorem finX_self {S : WS} {d : D} {x : Xq} : finX S.length d S x = x d S := if_pos rfl
theorem atI_nat {α : Type} {xs : List α} {i : Int} (h0 : 0 ≤ i) (h1 : i < xs.length) : atI xs i = xs[i.toNat]? := by
  unfold atI ixN
  rw [if_pos h0, if_pos h1, Option.bind_some]
/-! ### a well -/
structure W where
  a : Int
  b : Int
  c : Int
def W.d (w : W) : Cell := .lst [.int w.a, .int w.b, .int w.c]
structure Good (n : Int) (w : W) : Prop where
  a0 : 0 ≤ w.a
  a1 : w.a < 2147483629
  b0 : 0 ≤ w.b
  c0 : 0 ≤ w.c
  c1 : w.c ≤ n
theorem Good.mono {n m : Int} {w : W} (h : Good n w) (e : n ≤ m) : Good m w := ⟨h.a0, h.a1, h.b0, h.c0, by have := h.c1; omega⟩
/-- the cells S with the well w at k, then T -/
def st (S : WS) (k : Nat) (w : W) (T : WS) : WS := S.set k w.d ++ T
section
variable {S T : WS} {k : Nat} {w w' : W} {c c' : Cell} {r : WS} {d : D} {q : D → WS → Prop}
theorem st_len : (st S k w T).length = S.length + T.length := by simp [st]
theorem st_app : st S k w T ++ r = st S k w (T ++ r) := by simp [st]
theorem st_at (hk : k < S.length) : (st S k w T)[k]? = some w.d := by
  unfold st
  rw [List.getElem?_append_left (by simpa using hk)]
  simp [hk]
theorem st_put (hk : k < S.length) {x y z : Int} : (st S k w T).set k (.lst [.int x, .int y, .int z]) = st S k ⟨x, y, z⟩ T := by
  unfold st W.d
  rw [List.set_append_left _ _ (by simpa using hk)]
  simp
theorem st_at0 : (st S k w (T ++ c :: r))[S.length + T.length]? = some c := by
  unfold st
  rw [← List.append_assoc, List.getElem?_append_right (by simp)]
  simp
theorem st_set0 : (st S k w (T ++ c :: r)).set (S.length + T.length) c' = st S k w (T ++ c' :: r) := by
  unfold st
  rw [← List.append_assoc, List.set_append_right _ _ (by simp)]
  simp
theorem st_at1 {b : Cell} : (st S k w (T ++ b :: c :: r))[S.length + T.length + 1]? = some c := by
  unfold st
  rw [← List.append_assoc, List.getElem?_append_right (by simp)]
  have : S.length + T.length + 1 - (List.set S k w.d ++ T).length = 1 := by simp
  rw [this]
  rfl
theorem st_set1 {b : Cell} : (st S k w (T ++ b :: c :: r)).set (S.length + T.length + 1) c' = st S k w (T ++ b :: c' :: r) := by
  unfold st
  rw [← List.append_assoc, List.set_append_right _ _ (by simp)]
  have : S.length + T.length + 1 - (List.set S k w.d ++ T).length = 1 := by simp
  rw [this]
  simp
theorem fin_st : fin (S.length + T.length) d (st S k w T) q = q d (st S k w T) := if_pos st_len
/-- a def's own cells are gone at its end -/
theorem fin_stT (h : D.clean (S.length + T.length) d = true) (hn : ∀ i, d ≠ .cell i) : fin (S.length + T.length) d (st S k w (T ++ c :: r)) q = q d (st S k w T) := by
  have hl : ¬ (st S k w (T ++ c :: r)).length = S.length + T.length := by
    rw [st_len]
    simp
  have ht : (st S k w (T ++ c :: r)).take (S.length + T.length) = st S k w T := by
    unfold st
    rw [← List.append_assoc, List.take_append_of_le_length (by simp), List.take_of_length_le (by simp)]
  unfold fin
  rw [if_neg hl]
  split
  · exact absurd rfl (hn _)
  · rw [ht, h]
    simp
/-- a list of its own is handed back -/
theorem fin_stL {ds : List D} : fin (S.length + T.length) (.cell (S.length + T.length)) (st S k w (T ++ .lst ds :: r)) q = q (.lst ds) (st S k w T) := by
  have hl : ¬ (st S k w (T ++ .lst ds :: r)).length = S.length + T.length := by
    rw [st_len]
    simp
  have ht : (st S k w (T ++ .lst ds :: r)).take (S.length + T.length) = st S k w T := by
    unfold st
    rw [← List.append_assoc, List.take_append_of_le_length (by simp), List.take_of_length_le (by simp)]
  unfold fin
  rw [if_neg hl]
  simp only [Nat.lt_irrefl, if_false, st_at0, onS_some, onLst_l, ht]
end
/-! the same for a state without a well -/
section
variable {S : WS} {c c' : Cell} {r : WS} {d : D} {q : D → WS → Prop}
theorem app_at0 : (S ++ c :: r)[S.length]? = some c := by simp
theorem app_set0 : (S ++ c :: r).set S.length c' = S ++ c' :: r := by simp
theorem app_at1 {b : Cell} : (S ++ b :: c :: r)[S.length + 1]? = some c := by simp
theorem app_set1 {b : Cell} : (S ++ b :: c :: r).set (S.length + 1) c' = S ++ b :: c' :: r := by
  rw [List.set_append_right _ _ (by omega)]
  simp
theorem fin_app (h : D.clean S.length d = true) (hn : ∀ i, d ≠ .cell i) : fin S.length d (S ++ c :: r) q = q d S := by
  have hl : ¬ (S ++ c :: r).length = S.length := by simp
  unfold fin
  rw [if_neg hl]
  split
  · exact absurd rfl (hn _)
  · rw [h]
    simp
end
theorem fin_appS {S : WS} {c c' : Cell} {d : D} {q : D → WS → Prop} : fin (S ++ [c']).length d (S ++ [c]) q = q d (S ++ [c]) := if_pos (by simp)
theorem atI_cons {α : Type} {a : α} {l : List α} : atI (a :: l) 0 = some a := by
  unfold atI ixN
  simp
theorem take_app {S r : WS} : (S ++ r).take S.length = S := by simp
/-! ### loops and comprehensions -/
section
variable {N : WS → Prop} {f : D → Env → Option Env} {mb : Env → MS} {mc : Env → MB} {me : Env → M} {ρ : Env} {S : WS} {k : Kt}
theorem for_cons {d : D} {ds : List D} : forD N f mb (d :: ds) ρ S k = (N S ∧ onS (f d ρ) fun ρ1 => mb ρ1 S ⟨fun ρ2 S2 => forD N f mb ds ρ2 S2 k, k.rt, k.nx, fun ρ2 S2 => forD N f mb ds ρ2 S2 k, k.ex⟩) := rfl
theorem for_name {N : WS → Prop} {i : Nat} {mb : RV.Env → MS} {ρ : RV.Env} {S : WS} {d : D} {ds : List D} {kt : Kt} (hN : N S) (h : mb (ρ.set i (some d)) S ⟨fun ρ2 S2 => forD N (tName i) mb ds ρ2 S2 kt, kt.rt, kt.nx, fun ρ2 S2 => forD N (tName i) mb ds ρ2 S2 kt, kt.ex⟩) : forD N (tName i) mb (d :: ds) ρ S kt := ⟨hN, h⟩
/-- a comprehension whose parts leave the state alone -/
theorem lc_eq {α : Type} {inj : α → D} {p : α → Bool} {g : α → D} {q : List D → WS → Prop} : ∀ (xs : List α) (acc : List D), N S → (∀ a ∈ xs, ∃ ρ1, f (inj a) ρ = some ρ1 ∧ (∀ q x, mc ρ1 S q x = q (p a) S) ∧ (p a = true → ∀ q x, me ρ1 S q x = q (g a) S)) →
    lcD N f mc me ρ (xs.map inj) acc S q = q (acc ++ (xs.filter p).map g) S
  | [], acc, hN, _ => by simp [lcD, hN]
  | a :: xs, acc, hN, hs => by
    obtain ⟨ρ1, h1, h2, h3⟩ := hs a (List.mem_cons_self ..)
    have ih := fun acc => lc_eq (q := q) xs acc hN (fun b hb => hs b (List.mem_cons_of_mem _ hb))
    rw [List.map_cons]
    unfold lcD
    rw [h1, onS_some, h2]
    cases hp : p a with
    | true =>
      rw [iteB_t, h3 hp, ih]
      simp [hN, hp]
    | false =>
      rw [iteB_f, ih]
      simp [hN, hp]
theorem lc_pure {α : Type} {inj : α → D} {p : α → Bool} {g : α → D} {q : List D → WS → Prop} (xs : List α) (acc : List D) (hN : N S) (hs : ∀ a ∈ xs, ∃ ρ1, f (inj a) ρ = some ρ1 ∧ (∀ q x, mc ρ1 S q x = q (p a) S) ∧ (p a = true → ∀ q x, me ρ1 S q x = q (g a) S))
    (h : q (acc ++ (xs.filter p).map g) S) : lcD N f mc me ρ (xs.map inj) acc S q := by
  rw [lc_eq xs acc hN hs]
  exact h
theorem lc_mapEq {α : Type} {inj : α → D} {g : α → D} {q : List D → WS → Prop} (xs : List α) (hN : N S) (h : ∀ a ∈ xs, ∃ ρ1, f (inj a) ρ = some ρ1 ∧ ∀ q x, me ρ1 S q x = q (g a) S) : lcD N f bYes me ρ (xs.map inj) [] S q = q (xs.map g) S := by
  rw [lc_eq (p := fun _ => true) (g := g) xs [] hN (fun a ha => by
    obtain ⟨ρ1, h1, h2⟩ := h a ha
    exact ⟨ρ1, h1, fun _ _ => rfl, fun _ => h2⟩), List.nil_append, List.filter_eq_self.mpr fun _ _ => rfl]
/-- .. without a test -/
theorem lc_map {α : Type} {inj : α → D} {g : α → D} {q : List D → WS → Prop} (xs : List α) (hN : N S) (h : ∀ a ∈ xs, ∃ ρ1, f (inj a) ρ = some ρ1 ∧ ∀ q x, me ρ1 S q x = q (g a) S) (hq : q (xs.map g) S) : lcD N f bYes me ρ (xs.map inj) [] S q :=
  lc_pure (p := fun _ => true) xs [] hN (fun a ha => by
    obtain ⟨ρ1, h1, h2⟩ := h a ha
    exact ⟨ρ1, h1, fun _ _ => rfl, fun _ => h2⟩) (by rw [List.nil_append, List.filter_eq_self.mpr fun _ _ => rfl]; exact hq)
end
theorem allD_true {S : WS} {n : Nat} : allD S [.lst (List.replicate n (.bl true))] = some (.bl true) := by
  have : boolsD (List.replicate n (.bl true)) = some (List.replicate n true) := by
    induction n with
    | zero => rfl
    | succ n ih => simp [List.replicate_succ, boolsD, ih]
  simp [allD, this]
theorem bools_map {α : Type} {p : α → Bool} : ∀ xs : List α, boolsD (xs.map fun a => D.bl (p a)) = some (xs.map p)
  | [] => rfl
  | a :: xs => by simp [boolsD, bools_map xs]
theorem allD_map {α : Type} {S : WS} {p : α → Bool} {xs : List α} : allD S [.lst (xs.map fun a => D.bl (p a))] = some (.bl (xs.all p)) := by
  simp [allD, bools_map, Function.comp_def]
end RV
end
section
/-! Names, in plain Lean. -/
namespace RV
open PySem L2
def letters : Str := "abcdefghijklmnopqrstuvwxyz"
def digits : Str := "0123456789"
def signs : Str := "abcdefghijklmnopqrstuvwxyz0123456789"
def isLt (c : Nat) : Bool := decide (c ∈ letters.cps.toList)
def isDg (c : Nat) : Bool := decide (c ∈ digits.cps.toList)
def nmL : List Nat → Bool
  | [] => false
  | c :: r => isLt c && (decide (r.length ≤ 7) && r.all fun x => isLt x || isDg x)
def Nm (s : Str) : Prop := nmL s.cps.toList = true
theorem signs_at {i : Nat} (h : i < 36) : ∃ c, signs.cps.toList[i]? = some c ∧ (isLt c || isDg c) = true ∧ (i < 26 → isLt c = true) := by
  have : ∀ i : Fin 36, (match signs.cps.toList[i.val]? with
    | some c => (isLt c || isDg c) && (decide (26 ≤ i.val) || isLt c)
    | none => false) = true := by decide +kernel
  have t := this ⟨i, h⟩
  simp only at t
  split at t
  · rename_i c e
    simp only [Bool.and_eq_true, Bool.or_eq_true, decide_eq_true_eq] at t
    exact ⟨c, e, by simpa using t.1, fun hi => by rcases t.2 with z | z; omega; exact z⟩
  · cases t
theorem signs_atI {r : Int} (h0 : 0 ≤ r) (h : r < 36) : ∃ c, atI signs.cps.toList r = some c ∧ (isLt c || isDg c) = true ∧ (r < 26 → isLt c = true) := by
  obtain ⟨c, e, h1, h2⟩ := signs_at (i := r.toNat) (by omega)
  refine ⟨c, ?_, h1, fun z => h2 (by omega)⟩
  unfold atI ixN
  rw [if_pos h0, if_pos (show r < ((signs.cps.toList.length : Nat) : Int) from h), Option.bind_some]
  exact e
theorem cat_cps (a b : Str) : (a ++ b).cps.toList = a.cps.toList ++ b.cps.toList := by
  show (a.cps ++ b.cps).toList = _
  simp
theorem len_cps (a : Str) : a.length = a.cps.toList.length := by
  show a.cps.size = _
  simp
theorem nm_len {s : Str} (h : Nm s) : 1 ≤ s.length ∧ s.length ≤ 8 := by
  rw [len_cps]
  unfold Nm nmL at h
  split at h
  · cases h
  · rename_i c r e
    simp only [Bool.and_eq_true, decide_eq_true_eq] at h
    rw [e]
    simp
    omega
theorem nm_snoc {s : Str} {c : Nat} (h : Nm s) (hl : s.length ≤ 7) (hc : (isLt c || isDg c) = true) : Nm (s ++ ⟨#[c]⟩) := by
  rw [len_cps] at hl
  unfold Nm at h ⊢
  rw [cat_cps]
  unfold nmL at h
  split at h
  · cases h
  · rename_i a r e
    rw [e] at hl ⊢
    simp only [Bool.and_eq_true, decide_eq_true_eq] at h
    simp only [List.length_cons] at hl
    show (isLt a && (decide ((r ++ [c]).length ≤ 7) && (r ++ [c]).all fun x => isLt x || isDg x)) = true
    simp only [Bool.and_eq_true, decide_eq_true_eq, List.length_append, List.length_singleton, List.all_append]
    refine ⟨h.1, by omega, h.2.2, by simpa using hc⟩
theorem nm_take {l : List Nat} (m : Nat) (h : nmL l = true) (hm : 0 < m) : nmL (l.take m) = true := by
  cases l with
  | nil => cases h
  | cons a r =>
    obtain ⟨m, rfl⟩ : ∃ j, m = j + 1 := ⟨m - 1, by omega⟩
    rw [List.take_succ_cons]
    simp only [nmL, Bool.and_eq_true, decide_eq_true_eq, List.all_eq_true] at h ⊢
    refine ⟨h.1, ?_, fun x hx => h.2.2 x (List.mem_of_mem_take hx)⟩
    rw [List.length_take]
    omega
def words : List D := [.str "pipe", .str "meter", .str "sealed", .str "self", .str "net", .str "tell", .str "if", .str "a"]
theorem words_at {r : Int} (h0 : 0 ≤ r) (h : r < 8) : ∃ s, atI words r = some (.str s) ∧ Nm s := by
  have : r = 0 ∨ r = 1 ∨ r = 2 ∨ r = 3 ∨ r = 4 ∨ r = 5 ∨ r = 6 ∨ r = 7 := by omega
  rcases this with e | e | e | e | e | e | e | e <;> subst e <;> exact ⟨_, rfl, by unfold Nm; decide +kernel⟩
theorem nm_one {c : Nat} (h : isLt c = true) : Nm ⟨#[c]⟩ := by
  unfold Nm
  show (isLt c && (decide (([] : List Nat).length ≤ 7) && ([] : List Nat).all fun x => isLt x || isDg x)) = true
  rw [h]
  rfl
theorem isAl_lt {c : Nat} (h : (isLt c || isDg c) = true) : c < 128 := by
  simp only [Bool.or_eq_true, isLt, isDg, decide_eq_true_eq] at h
  have h1 : ∀ c ∈ letters.cps.toList, c < 128 := by decide +kernel
  have h2 : ∀ c ∈ digits.cps.toList, c < 128 := by decide +kernel
  rcases h with h | h
  · exact h1 c h
  · exact h2 c h
theorem nm_all {s : Str} (h : Nm s) : ∀ c ∈ s.cps.toList, (isLt c || isDg c) = true := by
  unfold Nm nmL at h
  split at h
  · cases h
  · rename_i a r e
    rw [e]
    simp only [Bool.and_eq_true, decide_eq_true_eq, List.all_eq_true] at h
    intro c hc
    rcases List.mem_cons.mp hc with z | z
    · subst z
      rw [h.1]
      rfl
    · exact h.2.2 c z
theorem nm_strOk {s : Str} (h : Nm s) : PyData.strOk s = true := by
  unfold PyData.strOk
  rw [← Array.all_toList, List.all_eq_true]
  intro c hc
  exact decide_eq_true (Nat.lt_trans (isAl_lt (nm_all h c hc)) (by decide))
theorem nm_small {s : Str} (h : Nm s) : small s.length = true := decide_eq_true (by have := (nm_len h).2; omega)
theorem pyL_str : ∀ ts : List Str, D.pyL (ts.map D.str) = some (ts.map PyData.str)
  | [] => rfl
  | t :: ts => by simp [D.pyL, D.py, pyL_str ts]
theorem lay_strs : ∀ ts : List Str, (∀ t ∈ ts, PyData.strOk t = true) → PyData.canLayAll0 (ts.map PyData.str) = true
  | [], _ => rfl
  | t :: ts, h => by simp [PyData.canLayAll0, PyData.canLay0, h t (List.mem_cons_self ..), lay_strs ts fun u hu => h u (List.mem_cons_of_mem _ hu)]
theorem depth_strs : ∀ ts : List Str, PyData.depthAll (ts.map PyData.str) = 0
  | [] => rfl
  | t :: ts => by simp [PyData.depthAll, PyData.depth, depth_strs ts]
theorem shaped_strs {ts : List Str} (h : ∀ t ∈ ts, PyData.strOk t = true) : SeqAt.shaped (.list (ts.map PyData.str)) = true := by
  simp [SeqAt.shaped, PyData.canLay0, lay_strs ts h, PyData.depth, depth_strs]
theorem ne_nil {S : WS} {ts : List Str} (h : ∀ t ∈ ts, PyData.strOk t = true) : neD S (.lst (ts.map D.str)) (.lst []) = some (.bl (!ts.isEmpty)) := by
  have h2 : SeqAt.shaped (.list []) = true := rfl
  unfold neD eqAny eqPyS
  simp only [eqScal, pyS, D.py, pyL_str, D.pyL, Option.map_some, Option.bind_some, shaped_strs h, h2, and_self, if_true, Option.orElse]
  cases ts <;> rfl
theorem notIn_strs {S : WS} {t : Str} {ts : List Str} : inD true S (.str t) (.lst (ts.map D.str)) = some (.bl (decide (t ∉ ts))) := by
  have h1 : (ts.map D.str).all flatD = true := by
    rw [List.all_eq_true]
    intro x hx
    obtain ⟨u, _, rfl⟩ := List.mem_map.mp hx
    rfl
  have h2 : ((ts.map D.str).any fun y => eqFl y (.str t)) = decide (t ∈ ts) := by
    rw [Bool.eq_iff_iff, List.any_eq_true, decide_eq_true_eq]
    constructor
    · rintro ⟨x, hx, e⟩
      obtain ⟨u, hu, rfl⟩ := List.mem_map.mp hx
      have : u = t := eq_of_beq (show (u == t) = true from e)
      exact this ▸ hu
    · exact fun h => ⟨.str t, List.mem_map.mpr ⟨t, h, rfl⟩, (beq_self_eq_true t : (t == t) = true)⟩
  simp only [inD, itemsD, Option.bind_some, flatD, h1, and_self, if_true, h2]
  simp
theorem cut_to {z : Str} {m : Nat} : (cutS z none (some (m : Int))).cps.toList = z.cps.toList.take m := by
  unfold cutS
  rw [HT.sIx_none, HT.sIx_nat]
  simp only [List.drop_zero, Nat.sub_zero, len_cps]
  rw [List.take_eq_take_iff]
  simp
theorem nm_cut {z : Str} {m : Nat} (h : nmL (z.cps.toList.take m) = true) : Nm (cutS z none (some (m : Int))) := by
  unfold Nm
  rw [cut_to]
  exact h
theorem nm_cat8 {s t : Str} (hs : Nm s) (ht : Nm t) : Nm (cutS (s ++ t) none (some (8 : Int))) := by
  refine nm_cut (m := 8) ?_
  rw [cat_cps]
  have ha := nm_all ht
  unfold Nm nmL at hs
  split at hs
  · cases hs
  · rename_i a r e
    rw [e]
    simp only [Bool.and_eq_true, decide_eq_true_eq, List.all_eq_true] at hs
    show nmL ((a :: (r ++ t.cps.toList)).take 8) = true
    rw [List.take_succ_cons]
    simp only [nmL, Bool.and_eq_true, decide_eq_true_eq, List.all_eq_true]
    refine ⟨hs.1, by rw [List.length_take]; omega, fun x hx => ?_⟩
    rcases List.mem_append.mp (List.mem_of_mem_take hx) with z | z
    · exact hs.2.2 x z
    · exact ha x z
theorem nodup_le {α : Type} [DecidableEq α] : ∀ (l ts : List α), l.Nodup → (∀ x ∈ l, x ∈ ts) → l.length ≤ ts.length
  | [], _, _, _ => Nat.zero_le _
  | x :: l, ts, hn, h => by
    have hx := h x (List.mem_cons_self ..)
    have hn2 := List.nodup_cons.mp hn
    have := nodup_le l (ts.erase x) hn2.2 fun y hy => (List.mem_erase_of_ne (fun e : y = x => hn2.1 (e ▸ hy))).mpr (h y (List.mem_cons_of_mem _ hy))
    rw [List.length_erase_of_mem hx] at this
    have : 0 < ts.length := List.length_pos_of_mem hx
    simp only [List.length_cons]
    omega
/-- title[:7] and a sign -/
def alt (t : Str) (c : Nat) : Str := cutS t none (some (7 : Int)) ++ ⟨#[c]⟩
theorem alt_inj {t : Str} {c d : Nat} (h : alt t c = alt t d) : c = d := by
  have e : (alt t c).cps.toList = (alt t d).cps.toList := by rw [h]
  unfold alt at e
  rw [cat_cps, cat_cps] at e
  have := List.append_cancel_left e
  simpa using this
theorem nm_alt {t : Str} {c : Nat} (h : Nm t) (hc : (isLt c || isDg c) = true) : Nm (alt t c) := by
  refine nm_snoc (nm_cut (m := 7) (nm_take 7 h (by decide))) ?_ hc
  rw [len_cps, show cutS t none (some (7 : Int)) = cutS t none (some ((7 : Nat) : Int)) from rfl, cut_to, List.length_take]
  omega
theorem signs_all : ∀ c ∈ signs.cps.toList, (isLt c || isDg c) = true := by decide +kernel
theorem signs_nodup : signs.cps.toList.Nodup := by decide +kernel
/-- the first of them that is not taken -/
theorem alt_first {t : Str} {ts : List Str} (ht : Nm t) (hl : ts.length < 36) : ∃ c l, (isLt c || isDg c) = true ∧ alt t c ∉ ts ∧ (signs.cps.toList.map (alt t)).filter (fun z => decide (z ∉ ts)) = alt t c :: l := by
  cases e : (signs.cps.toList.map (alt t)).filter (fun z => decide (z ∉ ts)) with
  | nil =>
    exfalso
    rw [List.filter_eq_nil_iff] at e
    have nd : (signs.cps.toList.map (alt t)).Nodup := List.Pairwise.map _ (fun a b h e => h (alt_inj e)) signs_nodup
    have := nodup_le _ ts nd fun x hx => by simpa using e x hx
    rw [List.length_map] at this
    have : signs.cps.toList.length = 36 := by decide +kernel
    omega
  | cons z l =>
    have hm : z ∈ (signs.cps.toList.map (alt t)).filter (fun z => decide (z ∉ ts)) := by rw [e]; exact List.mem_cons_self ..
    obtain ⟨hm, hz⟩ := List.mem_filter.mp hm
    obtain ⟨c, hc, rfl⟩ := List.mem_map.mp hm
    exact ⟨c, l, signs_all c hc, of_decide_eq_true hz, rfl⟩
theorem strs_at {ts : List Str} {r : Int} (h0 : 0 ≤ r) (h : r < ts.length) : ∃ t, atI (ts.map D.str) r = some (.str t) ∧ t ∈ ts := by
  refine ⟨ts[r.toNat]'(by omega), ?_, List.getElem_mem _⟩
  unfold atI ixN
  rw [if_pos h0, if_pos (by rw [List.length_map]; exact h), Option.bind_some, List.getElem?_map, List.getElem?_eq_getElem (by omega)]
  rfl
theorem str_ext {a b : Str} (h : a.cps.toList = b.cps.toList) : a = b := by
  obtain ⟨⟨x⟩⟩ := a
  obtain ⟨⟨y⟩⟩ := b
  have : x = y := h
  rw [this]
theorem in_strs {S : WS} {x : D} {neg : Bool} {t : Str} {ts : List Str} (h : itemsD S x = some (ts.map D.str)) : inD neg S (.str t) x = some (.bl (if neg then decide (t ∉ ts) else decide (t ∈ ts))) := by
  have h1 : (ts.map D.str).all flatD = true := by
    rw [List.all_eq_true]
    intro x hx
    obtain ⟨u, _, rfl⟩ := List.mem_map.mp hx
    rfl
  have h2 : ((ts.map D.str).any fun y => eqFl y (.str t)) = decide (t ∈ ts) := by
    rw [Bool.eq_iff_iff, List.any_eq_true, decide_eq_true_eq]
    constructor
    · rintro ⟨x, hx, e⟩
      obtain ⟨u, hu, rfl⟩ := List.mem_map.mp hx
      have : u = t := eq_of_beq (show (u == t) = true from e)
      exact this ▸ hu
    · exact fun h => ⟨.str t, List.mem_map.mpr ⟨t, h, rfl⟩, (beq_self_eq_true t : (t == t) = true)⟩
  simp only [inD, h, Option.bind_some, flatD, h1, and_self, if_true, h2]
  cases neg <;> simp
theorem snoc_len {s : Str} {c : Nat} : (s ++ ⟨#[c]⟩ : Str).length = s.length + 1 := by
  rw [len_cps, cat_cps, List.length_append, len_cps]
  rfl
theorem cat_len {s t : Str} : (s ++ t).length = s.length + t.length := by
  rw [len_cps, cat_cps, List.length_append, len_cps, len_cps]
theorem one_len {c : Nat} : Str.length ⟨#[c]⟩ = 1 := rfl
/-- x is the list of texts ts: one that stands still, or a cell -/
inductive TkOk (S : WS) : D → List Str → Prop where
  | lst {ts : List Str} : TkOk S (.lst (ts.map D.str)) ts
  | cell {j : Nat} {ts : List Str} : S[j]? = some (.lst (ts.map D.str)) → TkOk S (.cell j) ts
section
variable {S : WS} {x : D} {ts : List Str}
theorem TkOk.items (h : TkOk S x ts) : itemsD S x = some (ts.map D.str) := by
  cases h with
  | lst => rfl
  | cell h => simp only [itemsD, h]
theorem TkOk.ne (h : TkOk S x ts) (hs : ∀ t ∈ ts, Nm t) : neD S x (.lst []) = some (.bl (!ts.isEmpty)) := by
  have e := ne_nil (S := S) (ts := ts) fun t ht => nm_strOk (hs t ht)
  cases h with
  | lst => exact e
  | cell h =>
    unfold neD eqAny eqPyS at e ⊢
    simp only [eqScal, pyS, D.py, h, eqLen, lstOf] at e ⊢
    exact e
theorem TkOk.len (h : TkOk S x ts) : lenD S [x] = some (.int (ts.length : Nat)) := by
  cases h with
  | lst => simp [lenD, itemsD]
  | cell h => simp [lenD, itemsD, h]
theorem TkOk.ix (h : TkOk S x ts) {r : Int} {d : D} (hd : atI (ts.map D.str) r = some d) : ixD S x (.int r) = some d := by
  cases h with
  | lst => simp only [ixD, hd]
  | cell h => simp only [ixD, h, hd]
end
end RV
end
section
local macro_rules | `(tactic| simp? [$xs,*]) => `(tactic| try simp -implicitDefEqProofs only [_root_.RV.eVar,_root_.RV.eC,_root_.RV.eOp,_root_.RV.eUn,_root_.RV.aNil,_root_.RV.aCons,_root_.RV.eSeq,_root_.RV.eCall,_root_.RV.eFn,_root_.RV.bBl,_root_.RV.onB_bl,_root_.RV.bTru,_root_.RV.eNotT,_root_.RV.bAnd,_root_.RV.bOr,_root_.RV.bNot,_root_.RV.eAnd,_root_.RV.eOr,_root_.RV.eIf,_root_.RV.bChain,_root_.RV.iteB_t,_root_.RV.iteB_f,_root_.RV.sNil,_root_.RV.sSeq,_root_.RV.sRet,_root_.RV.sDrop,_root_.RV.sAsg,_root_.RV.sIf,_root_.RV.sBreak,_root_.RV.sCont,_root_.RV.sAsgG,_root_.RV.sPar2,_root_.RV.sPar3,_root_.RV.sSetIx,_root_.RV.sPairSet,_root_.RV.sAppend,_root_.RV.onL,_root_.RV.onI_i,_root_.RV.onT_s,_root_.RV.onTu_t,_root_.RV.onCe_c,_root_.RV.on1_,_root_.RV.on2_,_root_.RV.on3_,_root_.RV.onLst_l,_root_.RV.onOb_o,_root_.RV.onSeq_l,_root_.RV.onSeq_r,_root_.RV.onSeq_c,_root_.RV.lkD_s,_root_.RV.lkD_n,_root_.RV.lkO_s,_root_.RV.lkO_n,_root_.RV.finO,_root_.RV.sFldD,_root_.RV.setFD,_root_.RV.eProp,_root_.RV.isOb_obj,_root_.RV.eMake,_root_.RV.eMakeK,_root_.RV.eMakeL,_root_.RV.eLc,_root_.RV.eNew,_root_.RV.eSl,_root_.RV.oNone,_root_.RV.oSome,_root_.RV.eOpM,_root_.RV.eCallM,_root_.RV.eCm,_root_.RV.eCmK,_root_.RV.eOpT,_root_.RV.jNil,_root_.RV.jCons,_root_.RV.eJoin,_root_.RV.aStar,_root_.RV.sCalm,_root_.RV.sTry1,_root_.RV.sTry2,_root_.RV.sFor,_root_.RV.iRange1,_root_.RV.iSeq,_root_.RV.iTupD,_root_.RV.iStrD,_root_.RV.iEnumT,_root_.RV.tName,_root_.RV.tTup_t,_root_.RV.tsCons_c,_root_.RV.tsNil_n,_root_.RV.any_t,_root_.RV.onS_some,_root_.RV.look0,_root_.RV.look1,_root_.RV.look2,_root_.RV.look3,_root_.RV.look4,_root_.RV.look5,_root_.RV.look6,_root_.RV.look7,_root_.RV.look8,_root_.RV.look9,_root_.RV.look10,_root_.RV.look11,_root_.RV.look12,_root_.RV.look13,_root_.RV.look14,_root_.RV.look15,_root_.RV.bYes,_root_.RV.wipeE,List.set_cons_zero,List.set_cons_succ,List.length_cons,List.length_nil,List.append_nil,List.nil_append,List.cons_append,List.append_assoc,Nat.zero_add,Nat.reduceAdd,Nat.reduceSub,Nat.reduceEqDiff,Nat.reduceLT,Nat.reduceLeDiff,Int.reduceNeg,true_and,and_true,and_self,if_true,if_false,Bool.not_true,Bool.not_false,Bool.false_eq_true,reduceIte,reduceCtorEq,decide_true,decide_false,_root_.RV.ltD_int,_root_.RV.leD_int,_root_.RV.gtD_int,_root_.RV.geD_int,_root_.RV.subD_int,_root_.RV.addD_int,_root_.RV.intOf_int,_root_.RV.absD_int,_root_.RV.eqD_int,_root_.RV.eqD_str,_root_.RV.neD_str,_root_.RV.neD_int,_root_.RV.isN_non,_root_.RV.truD_bl,_root_.RV.eqD_bl,_root_.RV.neD_bl,Option.map_some,Option.bind_some,_root_.RV.small_0,_root_.RV.small_1,_root_.RV.small_2,_root_.RV.small_3,_root_.RV.small_4,_root_.RV.small_5,_root_.RV.small_6,_root_.RV.small_7,_root_.RV.small_8,_root_.RV.eCaught,_root_.RV.onX_e,_root_.RV.sRaise,_root_.RV.eLm,_root_.RV.onLs_l,_root_.RV.eFnE,_root_.RV.eXg,_root_.RV.onV_v,_root_.RV.sWish,_root_.RV.eDic0,_root_.RV.eDisp,_root_.RV.eChain,_root_.RV.eOpX,_root_.RV.eMeth,_root_.RV.sPairSet2,_root_.RV.eMulR,_root_.RV.eNegX,_root_.RV.eCs,_root_.RV.eDget2,_root_.RV.sDputD,_root_.RV.eNewDic,_root_.RV.iRange3,_root_.RV.keyD_s,_root_.RV.on3I_i,_root_.RV.finX_self,_root_.RV.st_app,_root_.RV.st_len,_root_.RV.fin_st,_root_.RV.fin_stT,_root_.RV.fin_self,ite_self,$xs,*])
section
/-! Draws. -/
namespace RV
open PySem L2
theorem ixD_cell {S : WS} {k : Nat} {ds : List D} {i : Int} (h : S[k]? = some (.lst ds)) : ixD S (.cell k) (.int i) = atI ds i := by simp only [ixD, h]
theorem setIx_cell {S : WS} {k : Nat} {ds : List D} {i : Int} {d : D} (h : S[k]? = some (.lst ds)) (hc : D.clean 0 d = true) : setIxD (.cell k) (.int i) d S = (ixN ds.length i).map fun j => S.set k (.lst (ds.set j d)) := by simp only [setIxD, h, hc, if_true]
section
variable {A : Ad} {S T : WS} {k : Nat} {n m : Int} {w : W} {q : D → WS → Prop} {x : Xq}
theorem dip_ok (hk : k < S.length) (g : Good n w) (hm : 0 < m) (hm2 : m < 1000000000000000000000000000000000000000000000000000000000000) (hn : n < 1000000000000000000) (h : ∀ d w', 0 ≤ d → d < m → Good (n + 1) w' → q (.int d) (st S k w' T)) : G_dip_k01 A [.cell k, .int m] (st S k w T) q x := by
  obtain ⟨a, b, c⟩ := w
  obtain ⟨a0, a1, b0, c0, c1⟩ := g
  simp only at a0 a1 b0 c0 c1
  have at_ : ∀ w : W, (st S k w T)[k]? = some (.lst [.int w.a, .int w.b, .int w.c]) := fun w => st_at hk
  have i0 : ∀ (w : W), ixD (st S k w T) (.cell k) (.int 0) = some (.int w.a) := fun w => by rw [ixD_cell (at_ w)]; rfl
  have i1 : ∀ (w : W), ixD (st S k w T) (.cell k) (.int 1) = some (.int w.b) := fun w => by rw [ixD_cell (at_ w)]; rfl
  have i2 : ∀ (w : W), ixD (st S k w T) (.cell k) (.int 2) = some (.int w.c) := fun w => by rw [ixD_cell (at_ w)]; rfl
  have s0 : ∀ (w : W) (v : Int), setIxD (.cell k) (.int 0) (.int v) (st S k w T) = some (st S k ⟨v, w.b, w.c⟩ T) := fun w v => by rw [setIx_cell (at_ w) rfl]; exact congrArg some (st_put hk)
  have s1 : ∀ (w : W) (v : Int), setIxD (.cell k) (.int 1) (.int v) (st S k w T) = some (st S k ⟨w.a, v, w.c⟩ T) := fun w v => by rw [setIx_cell (at_ w) rfl]; exact congrArg some (st_put hk)
  have s2 : ∀ (w : W) (v : Int), setIxD (.cell k) (.int 2) (.int v) (st S k w T) = some (st S k ⟨w.a, w.b, v⟩ T) := fun w v => by rw [setIx_cell (at_ w) rfl]; exact congrArg some (st_put hk)
  have hd : dmOk m = true := decide_eq_true ⟨hm, Nat.lt_of_lt_of_le (m := 1000000000000000000000000000000000000000000000000000000000000) (by omega) (by decide +kernel)⟩
  have dm : ∀ S (v : Int), divmodD S [.int v, .int m] = some (.tup [.int (v / m), .int (v % m)]) := fun S v => by simp only [divmodD, hd, if_true]
  rw [D_dip_k01]
  unfold fnD startE
  simp only [List.map_cons, List.map_nil, List.length_cons, List.length_nil, Nat.reduceAdd, Nat.reduceSub, List.replicate, List.cons_append, List.nil_append, List.append_nil, Nat.zero_add]
  unfold B_dip_k01
  refine seq_gen fun N_ hN_ => ?_
  simp? [i2, s2]
  subst hN_
  refine seq_gen fun N_ hN_ => ?_
  simp? [i1]
  refine iteB_dec (fun hb => ?_) (fun hb => ?_)
  · simp? [i1, dm, s1]
    exact h _ _ (Int.emod_nonneg _ (by omega)) (Int.emod_lt_of_pos _ hm) ⟨a0, a1, Int.ediv_nonneg b0 (by omega), by show 0 ≤ c + 1; omega, by show c + 1 ≤ n + 1; omega⟩
  · subst hN_
    refine seq_gen fun N_ hN_ => ?_
    have e1 : mulOk a 69621 = true := mulOk_l a0 (by omega)
    have e2 : mulOk 31 (c + 1) = true := mulOk_l (by omega) (by omega)
    have e3 : mulOk (31 * (c + 1)) (c + 1) = true := mulOk_r (by omega) (by omega)
    simp? [i0, i2, mulD_int e1, mulD_int e2, mulD_int e3, modD_int (show (0 : Int) < 2147483629 by decide), s0]
    subst hN_
    refine seq_gen fun N_ hN_ => ?_
    have y1 : 0 ≤ (a * 69621 + 31 * (c + 1) * (c + 1) + 40503) % 2147483629 := Int.emod_nonneg _ (by omega)
    have y2 : (a * 69621 + 31 * (c + 1) * (c + 1) + 40503) % 2147483629 < 2147483629 := Int.emod_lt_of_pos _ (by omega)
    generalize (a * 69621 + 31 * (c + 1) * (c + 1) + 40503) % 2147483629 = y at y1 y2
    have e4 : mulOk y (y % 30011 + 17) = true := mulOk_l y1 (by omega)
    simp? [i0, modD_int (show (0 : Int) < 30011 by decide), mulD_int e4, modD_int (show (0 : Int) < 2147483587 by decide)]
    subst hN_
    simp? [fdivD_int (show divOk ((y * (y % 30011 + 17)) % 2147483587) 64 = true from rfl), modD_int hm]
    exact h _ _ (Int.emod_nonneg _ (by omega)) (Int.emod_lt_of_pos _ hm) ⟨y1, y2, by show 0 ≤ b; omega, by show 0 ≤ c + 1; omega, by show c + 1 ≤ n + 1; omega⟩
/-- the well of a cell: a new one, behind all others -/
theorem well_ok {S : WS} {ns : List Int} {i : Int} (h0 : 0 ≤ i) (h1 : i < 1000000) (h : ∀ w : W, Good 0 w → q (.cell S.length) (S ++ [w.d])) : G_well_k01 A [.scr ns, .int i] S q x := by
  have hp : ∀ i : Int, posR i 2147483629 = true := fun _ => rfl
  have hpw : powOk 10 18 = true := by decide +kernel
  have he : ((10 : Int) ^ (18 : Int).toNat) = 1000000000000000000 := by decide +kernel
  have e1 : mulOk 90017 (i + 3) = true := mulOk_l (by omega) (by omega)
  have e2 : mulOk (90017 * (i + 3)) (i + 5) = true := mulOk_l (by omega) (by omega)
  have ln : lenD S [.scr ns] = some (.int (ns.length : Int)) := by simp [lenD, itemsD]
  rw [D_well_k01]
  unfold fnN startE
  simp only [List.map_cons, List.map_nil, List.length_cons, List.length_nil, Nat.reduceAdd, Nat.reduceSub, List.replicate, List.cons_append, List.nil_append]
  unfold B_well_k01
  have last : ∀ (v : Int) (o : Option D), (sRet (eNew (aCons (eOp modD (eCall intOfD (aCons (eVar 2) (aNil))) (eC (.int 2147483629))) (aCons (eIf (bBl (eOp geD (eCall absD (aCons (eVar 2) (aNil))) (eOp powD (eC (.int 10)) (eC (.int 18))))) (eCall absD (aCons (eVar 2) (aNil))) (eC (.int 0))) (aCons (eC (.int 0)) (aNil)))))) [some (.scr ns), some (.int i), some (.int v), o] S
      ⟨fun _ _ => False, fun d S' => finN S.length d S' q, fun _ _ => False, fun _ _ => False, fun e _ S' => finX S.length e S' x⟩ := fun v o => by
    have fn : ∀ c : Cell, finN S.length (.cell S.length) (S ++ [c]) q = q (.cell S.length) (S ++ [c]) := fun c => by simp [finN, onS]
    simp? [modD_int (show (0 : Int) < 2147483629 by decide), powD_int hpw, he]
    refine iteB_dec (fun hv => ?_) (fun hv => ?_)
    · simp? [fn, D.cleanL, D.clean, Bool.and_self]
      exact h ⟨v % 2147483629, if v < 0 then -v else v, 0⟩ ⟨Int.emod_nonneg _ (by omega), Int.emod_lt_of_pos _ (by omega), by show 0 ≤ (if v < 0 then -v else v); split <;> omega, Int.le_refl _, Int.le_refl _⟩
    · simp? [fn, D.cleanL, D.clean, Bool.and_self]
      exact h ⟨v % 2147483629, 0, 0⟩ ⟨Int.emod_nonneg _ (by omega), Int.emod_lt_of_pos _ (by omega), Int.le_refl _, Int.le_refl _, Int.le_refl _⟩
  refine seq_gen fun N_ hN_ => ?_
  simp? [ln]
  refine iteB_dec (fun hi => ?_) (fun hi => ?_)
  · have ha : atI ns i = some (ns[i.toNat]'(by omega)) := by
      rw [atI_nat h0 hi]
      exact List.getElem?_eq_getElem _
    have hx : ixD S (.scr ns) (.int i) = some (.int (ns[i.toNat]'(by omega))) := by simp only [ixD, ha, Option.map_some]
    simp? [hx]
    subst hN_
    refine seq_gen fun N_ hN_ => ?_
    simp? [ln, show decide ((ns.length : Int) ≤ i) = false from decide_eq_false (by omega)]
    subst hN_
    exact last _ _
  · simp? [mulD_int e1, mulD_int e2]
    subst hN_
    refine seq_gen fun N_ hN_ => ?_
    simp? [ln, show decide ((ns.length : Int) ≤ i) = true from decide_eq_true (by omega)]
    subst hN_
    generalize 90017 * (i + 3) * (i + 5) = v
    have go : ∀ (ms : List Int) (v : Int) (o : Option D) (Q : Env → WS → Prop) (k : Kt), (∀ v o, Q [some (.scr ns), some (.int i), some (.int v), o] S) → k.nx = Q →
        forD any_ (tName 3) (sAsg 2 (eOp modD (eCall intOfD (aCons (eOp addD (eOp mulD (eVar 2) (eC (.int 52711))) (eVar 3)) (aNil))) (eC (.int 2147483629)))) (ms.map D.int) [some (.scr ns), some (.int i), some (.int v), o] S k := fun ms => by
      induction ms with
      | nil =>
        intro v o Q k hQ hk
        refine ⟨trivial, ?_⟩
        rw [hk]
        exact hQ _ _
      | cons m ms ih =>
        intro v o Q k hQ hk
        have e3 : mulOk v 52711 = true := mulOk_r (by decide) (by decide)
        rw [List.map_cons, for_cons]
        simp? [mulD_int e3, modD_int (show (0 : Int) < 2147483629 by decide)]
        exact ih _ _ Q k hQ hk
    exact go ns v none _ _ (fun v o => last v o) rfl
theorem signs_ix {S : WS} {r : Int} (h0 : 0 ≤ r) (h : r < 36) : ∃ c, ixD S (.str "abcdefghijklmnopqrstuvwxyz0123456789") (.int r) = some (.str ⟨#[c]⟩) ∧ (isLt c || isDg c) = true ∧ (r < 26 → isLt c = true) := by
  obtain ⟨c, hc, h1, h2⟩ := signs_atI h0 h
  have sg : ("abcdefghijklmnopqrstuvwxyz0123456789" : Str) = signs := rfl
  have hss : small signs.length = true := by decide +kernel
  exact ⟨c, by simp only [ixD, sg, hss, if_true, hc, Option.map_some], h1, h2⟩
theorem name_ok (hk : k < S.length) (g : Good n w) (hn : n < 100000000000000000) (h : ∀ s w', Nm s → Good (n + 10) w' → q (.str s) (st S k w' T)) : G_name_k02 A [.cell k] (st S k w T) q x := by
  rw [D_name_k02]
  unfold fnD startE
  simp only [List.map_cons, List.map_nil, List.length_cons, List.length_nil, Nat.reduceAdd, Nat.reduceSub, List.replicate, List.cons_append, List.nil_append, List.append_nil, Nat.zero_add]
  unfold B_name_k02
  refine seq_gen fun N_ hN_ => ?_
  simp? []
  refine dip_ok hk g (by omega) (by omega) (by omega) fun d w1 d0 d1 g1 => ?_
  simp? []
  refine iteB_dec (fun hd => ?_) (fun hd => ?_)
  · refine dip_ok hk g1 (by omega) (by omega) (by omega) fun d w2 d0 d1 g2 => ?_
    obtain ⟨s, hs, ns⟩ := words_at d0 d1
    have hx : ixD (st S k w2 T) (.lst words) (.int d) = some (.str s) := by simp only [ixD, hs]
    unfold words at hx
    simp? [hx]
    exact h s w2 ns (g2.mono (by omega))
  · subst hN_
    refine seq_gen fun N_ hN_ => ?_
    simp? []
    subst hN_
    refine seq_gen fun N_ hN_ => ?_
    simp? []
    refine dip_ok hk g1 (by omega) (by omega) (by omega) fun d w2 d0 d1 g2 => ?_
    obtain ⟨c, hc, _, hl⟩ := signs_ix (S := st S k w2 T) d0 (by omega)
    simp? [hc]
    subst hN_
    refine seq_gen fun N_ hN_ => ?_
    simp? []
    refine dip_ok hk g2 (by omega) (by omega) (by omega) fun m w3 m0 m1 g3 => ?_
    simp? []
    refine ⟨⟨by omega, by omega⟩, ?_⟩
    have go : ∀ (js : List Nat) (s : Str) (o : Option D) (n : Int) (w : W) (kt : Kt), Nm s → s.length + js.length ≤ 8 → Good n w → n + js.length < 200000000000000000 → (∀ s o w', Nm s → Good (n + js.length) w' → kt.nx [some (.cell k), some (.str "abcdefghijklmnopqrstuvwxyz0123456789"), some (.str s), o] (st S k w' T)) →
        forD any_ (tName 3) (sAsg 2 (eOp addD (eVar 2) (eOp ixD (eVar 1) (eFn 2 (G_dip_k01 A) [] (aCons (eVar 0) (aCons (eC (.int 36)) (aNil))))))) (js.map fun (i : Nat) => D.int (0 + (i : Int))) [some (.cell k), some (.str "abcdefghijklmnopqrstuvwxyz0123456789"), some (.str s), o] (st S k w T) kt := fun js => by
      induction js with
      | nil =>
        intro s o n w kt hs hl g hn hq
        exact ⟨trivial, hq _ _ _ hs (g.mono (by simp))⟩
      | cons j js ih =>
        intro s o n w kt hs hl g hn hq
        simp only [List.length_cons] at hl hn
        rw [List.map_cons, for_cons]
        simp? []
        refine dip_ok hk g (by omega) (by omega) (by omega) fun d w2 d0 d1 g2 => ?_
        obtain ⟨c, hc, ha, _⟩ := signs_ix (S := st S k w2 T) d0 d1
        have hsm : small (s.length + Str.length ⟨#[c]⟩) = true := small_of (by
          rw [one_len]
          have := (nm_len hs).2
          omega)
        simp? [hc, addD_str hsm]
        refine ih _ _ (n + 1) w2 kt (nm_snoc hs (by omega) ha) ?_ g2 (by omega) fun s o w' hs g' => hq s o w' hs (g'.mono (by simp only [List.length_cons]; omega))
        rw [snoc_len]
        omega
    refine go (List.range m.toNat) ⟨#[c]⟩ none (n + 1 + 1 + 1) w3 _ (nm_one (hl d1)) ?_ g3 (by rw [List.length_range]; omega) fun s o w' hs g' => ?_
    · rw [List.length_range]
      show 1 + m.toNat ≤ 8
      omega
    · subst hN_
      simp? []
      exact h s w' hs (g'.mono (by rw [List.length_range]; omega))
end
end RV
end
section
/-! A drawn name that is none of some. -/
namespace RV
open PySem L2
theorem slD_str {S : WS} {z : Str} {a b : Option Int} (h : small z.length = true) : slD S (.str z) a b = some (.str (cutS z a b)) := by simp only [slD, h, if_true]
theorem ixD_lst0 {S : WS} {a : D} {l : List D} : ixD S (.lst (a :: l)) (.int 0) = some a := by simp only [ixD, atI_cons]
section
variable {A : Ad} {S T : WS} {k : Nat} {n m : Int} {w : W} {q : D → WS → Prop} {x : Xq}
theorem fresh_tail {c r o : Option D} {tk : D} {t : Str} {ts : List Str} {kt : Kt} (tko : TkOk S tk ts) (ht : Nm t) (hl : ts.length < 36) (h : ∀ s, Nm s → s ∉ ts → kt.rt (.str s) S) :
    (sSeq (sIf (bBl (eOp (inD true) (eVar 3) (eVar 1))) (sRet (eVar 3)) (sNil)) (sSeq (sAsg 5 (eLc .still (iStrD (eC (.str "abcdefghijklmnopqrstuvwxyz0123456789"))) (tName 6) (bYes) (eOp addD (eSl slD (eVar 3) (oNone) (oSome (eC (.int 7)))) (eVar 6)) [6])) (sRet (eOp ixD (eLc .still (iSeq (eVar 5)) (tName 7) (bBl (eOp (inD true) (eVar 7) (eVar 1))) (eVar 7) [7]) (eC (.int 0)))))) [c, some tk, r, some (.str t), o, none, none, none] S kt := by
  have no : ∀ u, inD true S (.str u) tk = some (.bl (decide (u ∉ ts))) := fun u => by rw [in_strs tko.items]; rfl
  refine seq_gen fun N_ hN_ => ?_
  simp? [no]
  refine iteB_dec (fun hin => ?_) (fun hin => ?_)
  · exact h t ht hin
  · subst hN_
    obtain ⟨z, l, hz, hn, e⟩ := alt_first ht hl
    have sg : ("abcdefghijklmnopqrstuvwxyz0123456789" : Str).cps.toList = signs.cps.toList := rfl
    have h36 : small (signs.cps.toList.map fun c => D.str ⟨#[c]⟩).length = true := by decide +kernel
    have hst : small t.length = true := nm_small ht
    refine seq_gen fun N_ hN_ => ?_
    simp? [sg, h36]
    refine lc_map (g := fun c => D.str (alt t c)) _ trivial (fun c hc => ⟨_, rfl, fun q x => ?_⟩) ?_
    · have hsm : small ((cutS t none (some 7)).length + Str.length ⟨#[c]⟩) = true := small_of (by
        rw [one_len]
        have h7 : (cutS t none (some (7 : Int))).length ≤ 7 := by
          rw [len_cps, show cutS t none (some (7 : Int)) = cutS t none (some ((7 : Nat) : Int)) from rfl, cut_to, List.length_take]
          omega
        omega)
      simp? [slD_str hst, addD_str hsm]
      rfl
    · subst hN_
      have e2 : (signs.cps.toList.map fun c => D.str (alt t c)) = (signs.cps.toList.map (alt t)).map D.str := by simp
      have hl2 : small ((signs.cps.toList.map (alt t)).map D.str).length = true := by
        rw [List.length_map, List.length_map]
        decide +kernel
      rw [e2]
      simp? [hl2]
      refine lc_pure (p := fun z => decide (z ∉ ts)) (g := D.str) _ [] trivial (fun z hz => ⟨_, rfl, fun q x => ?_, fun _ q x => ?_⟩) ?_
      · simp? [no]
      · simp? []
      · rw [e]
        simp? [List.map_cons, ixD_lst0]
        exact h _ (nm_alt ht hz) hn
theorem fresh_ok {tk : D} {ts : List Str} (hk : k < S.length) (g : Good n w) (hn : n < 10000000000000000) (tko : ∀ w, TkOk (st S k w T) tk ts) (hts : ∀ t ∈ ts, Nm t) (hl : ts.length < 36) (h : ∀ s w', Nm s → s ∉ ts → Good (n + 13) w' → q (.str s) (st S k w' T)) :
    G_fresh_k02 A [.cell k, tk] (st S k w T) q x := by
  rw [D_fresh_k02]
  unfold fnD startE
  simp only [List.map_cons, List.map_nil, List.length_cons, List.length_nil, Nat.reduceAdd, Nat.reduceSub, List.replicate, List.cons_append, List.nil_append, List.append_nil, Nat.zero_add]
  unfold B_fresh_k02
  refine seq_gen fun N_ hN_ => ?_
  simp? []
  refine dip_ok hk g (by omega) (by omega) (by omega) fun r w1 r0 r1 g1 => ?_
  simp? []
  refine name_ok hk g1 (by omega) fun t w2 ht g2 => ?_
  simp? []
  subst hN_
  refine seq_gen fun N_ hN_ => ?_
  simp? [(tko w2).ne hts, (tko w2).len]
  have fin_ : ∀ (o : Option D) (w' : W) (t : Str), Nm t → Good (n + 13) w' → N_ [some (.cell k), some tk, some (.int r), some (.str t), o, none, none, none] (st S k w' T) := fun o w' t ht g' => by
    subst hN_
    refine fresh_tail (tko w') ht hl fun s hs hn => ?_
    simp? []
    exact h s w' hs hn g'
  cases he : ts.isEmpty with
  | true =>
    simp? []
    exact fin_ _ _ _ ht (g2.mono (by omega))
  | false =>
    have hpos : 0 < ts.length := by
      cases ts with
      | nil => cases he
      | cons => simp
    simp? []
    refine iteB_dec (fun hr => ?_) (fun hr => ?_)
    · refine dip_ok hk g2 (by omega) (by omega) (by omega) fun i w3 i0 i1 g3 => ?_
      obtain ⟨u, hu, mu⟩ := strs_at i0 i1
      have nu := hts u mu
      simp? [(tko w3).ix hu]
      refine iteB_dec (fun hr => ?_) (fun hr => ?_)
      · have hsm : small (u.length + t.length) = true := small_of (by have := (nm_len nu).2; have := (nm_len ht).2; omega)
        have hsm2 : small (u ++ t).length = true := by rw [cat_len]; exact hsm
        simp? [addD_str hsm, slD_str hsm2]
        exact fin_ _ _ _ (nm_cat8 nu ht) (g3.mono (by omega))
      · refine dip_ok hk g3 (by omega) (by omega) (by omega) fun j w4 j0 j1 g4 => ?_
        simp? [slD_str (nm_small nu)]
        have hj : (1 + j) = (((1 + j).toNat : Nat) : Int) := by omega
        rw [hj]
        exact fin_ _ _ _ (nm_cut (nm_take _ nu (by omega))) (g4.mono (by omega))
    · exact fin_ _ _ _ ht (g2.mono (by omega))
end
end RV
end
section
/-! repr of plain data. -/
namespace RV
open PySem L2
structure ShOk (k w : Nat) (p : PyData) : Prop where
  sh : p.showable = true
  nd : p.hasDict = false
  dp : p.depth ≤ k
  ls : p.leavesShort 60 = true
  wt : p.weight ≤ w
section
variable {k w : Nat} {xs : List PyData}
structure ShAll (k w : Nat) (xs : List PyData) : Prop where
  sh : PyData.showableAll xs = true
  nd : PyData.hasDictAll xs = false
  dp : PyData.depthAll xs ≤ k
  ls : PyData.leavesShortAll 60 xs = true
  wt : PyData.weightAll xs ≤ (w + 1) * xs.length
theorem ShAll.of : ∀ {xs : List PyData}, (∀ x ∈ xs, ShOk k w x) → ShAll k w xs
  | [], _ => ⟨rfl, rfl, Nat.zero_le _, rfl, Nat.zero_le _⟩
  | x :: xs, h => by
    have a := h x (List.mem_cons_self ..)
    have b := ShAll.of fun y hy => h y (List.mem_cons_of_mem _ hy)
    refine ⟨?_, ?_, ?_, ?_, ?_⟩
    · simp [PyData.showableAll, a.sh, b.sh]
    · simp [PyData.hasDictAll, a.nd, b.nd]
    · have := a.dp
      have := b.dp
      simp only [PyData.depthAll]
      omega
    · simp [PyData.leavesShortAll, a.ls, b.ls]
    · have h1 := a.wt
      have h2 := b.wt
      simp only [PyData.weightAll, List.length_cons, Nat.mul_succ]
      omega
theorem ShOk.list (h : ∀ x ∈ xs, ShOk k w x) : ShOk (k + 1) ((w + 1) * xs.length) (.list xs) := by
  have a := ShAll.of h
  refine ⟨?_, ?_, ?_, ?_, ?_⟩
  · simpa only [PyData.showable] using a.sh
  · simpa only [PyData.hasDict] using a.nd
  · have := a.dp
    simp only [PyData.depth]
    omega
  · simpa only [PyData.leavesShort] using a.ls
  · simpa only [PyData.weight] using a.wt
theorem ShOk.tuple (h : ∀ x ∈ xs, ShOk k w x) : ShOk (k + 1) ((w + 1) * xs.length) (.tuple xs) := by
  have a := ShAll.of h
  refine ⟨?_, ?_, ?_, ?_, ?_⟩
  · simpa only [PyData.showable] using a.sh
  · simpa only [PyData.hasDict] using a.nd
  · have := a.dp
    simp only [PyData.depth]
    omega
  · simpa only [PyData.leavesShort] using a.ls
  · simpa only [PyData.weight] using a.wt
theorem ShOk.mono {k' w' : Nat} {p : PyData} (h : ShOk k w p) (hk : k ≤ k') (hw : w ≤ w') : ShOk k' w' p := ⟨h.sh, h.nd, Nat.le_trans h.dp hk, h.ls, Nat.le_trans h.wt hw⟩
theorem ShOk.bool {b : Bool} : ShOk k w (.bool b) := ⟨rfl, rfl, Nat.zero_le _, rfl, Nat.zero_le _⟩
theorem ShOk.str {s : Str} (hs : PyData.strOk s = true) (hl : s.length ≤ w) : ShOk k w (.str s) := by
  refine ⟨rfl, rfl, Nat.zero_le _, ?_, hl⟩
  unfold PyData.strOk at hs
  rw [← Array.all_toList, List.all_eq_true] at hs
  simp only [PyData.leavesShort, List.all_eq_true]
  intro c hc
  have := of_decide_eq_true (hs c hc)
  exact decide_eq_true (Nat.lt_of_lt_of_le this (by decide))
theorem ShOk.nm {s : Str} (h : Nm s) : ShOk k 8 (.str s) := ShOk.str (nm_strOk h) (nm_len h).2
theorem repr_ok {S : WS} {d : D} {p : PyData} (hp : D.py d = some p) (h : ShOk k w p) (hk : k ≤ 64) (hw : w ≤ 200000) : reprD S [d] = some (.str p.shown) := by
  have h1 := PyData.shown_le 60 (by decide) p h.ls
  have h2 : p.shown.length ≤ sizeLine := by
    have e : sizeLine = 16777216 := by decide
    have := h.wt
    omega
  have h3 : p.depth ≤ 64 := Nat.le_trans h.dp hk
  simp only [reprD, hp, Option.bind_some, h.sh, h.nd, h2, h3, and_self, if_true]
theorem pyL_map {α : Type} {g : α → D} {g' : α → PyData} (h : ∀ a, D.py (g a) = some (g' a)) : ∀ xs : List α, D.pyL (xs.map g) = some (xs.map g')
  | [] => rfl
  | a :: xs => by simp [D.pyL, h a, pyL_map h xs]
end
end RV
end
section
/-! isinstance; names are judged; pipes and meters. -/
namespace RV
open PySem L2
section
variable {A : Ad} {S : WS} {x c : D} {t u : Value} {m n : String} {fs : List (Str × D)}
theorem isi_of (h1 : kindD (own A) x = some t) (h2 : clsD c = some u) (h3 : t ∈ kinds A) (h4 : u ∈ clss A) : isiD (own A) (tab A) S [x, c] = some (.bl (sub A t u)) := by
  simp only [isiD, h1, h2, Option.bind_some, tab, tabD, h3, h4, and_self, if_true, Option.map_some]
theorem own_here (h : m ∈ A.here) : own A (A.c m) = true := List.any_eq_true.mpr ⟨m, h, beq_self_eq_true _⟩
theorem kind_here (h : m ∈ A.here) : kindD (own A) (.obj (A.c m) fs) = some (.ref (A.c m)) := by simp only [kindD, own_here h, if_true]
theorem ref_kinds (h : m ∈ A.here) : Value.ref (A.c m) ∈ kinds A := List.mem_append_right _ (List.mem_map.mpr ⟨m, h, rfl⟩)
theorem ref_clss (h : m ∈ A.here) : Value.ref (A.c m) ∈ clss A := List.mem_append_right _ (List.mem_map.mpr ⟨m, h, rfl⟩)
theorem isi_own (h : m ∈ A.here) (h' : n ∈ A.here) : isiD (own A) (tab A) S [.obj (A.c m) fs, .adr (A.c n)] = some (.bl (decide (A.c m = A.c n))) := by
  rw [isi_of (kind_here h) rfl (ref_kinds h) (ref_clss h')]
  simp [sub]
theorem isi_str {s : Str} : isiD (own A) (tab A) S [.str s, .ty "str"] = some (.bl true) := by
  rw [isi_of (t := .type "str") (u := .type "str") rfl rfl (by simp [kinds]) (by simp [clss])]
  simp [sub]
theorem isi_tup {ds : List D} : isiD (own A) (tab A) S [.tup ds, .ty "tuple"] = some (.bl true) := by
  rw [isi_of (t := .type "tuple") (u := .type "tuple") rfl rfl (by simp [kinds]) (by simp [clss])]
  simp [sub]
theorem isi_bool {b : Bool} : isiD (own A) (tab A) S [.bl b, .ty "bool"] = some (.bl true) := by
  rw [isi_of (t := .type "bool") (u := .type "bool") rfl rfl (by simp [kinds]) (by simp [clss])]
  simp [sub]
end
/-- the classes of nets are there -/
structure NetsA (A : Ad) : Prop where
  p : "Pipe" ∈ A.here
  m : "Meter" ∈ A.here
  n : "Net" ∈ A.here
  pm : A.c "Pipe" ≠ A.c "Meter"
  pn : A.c "Pipe" ≠ A.c "Net"
  mn : A.c "Meter" ≠ A.c "Net"
section
variable {A : Ad} {S : WS} {q : D → WS → Prop} {x : Xq} {s a b c : Str} {f : Bool}
/-! ### names -/
def nmB (s : Str) : Bool := nmL s.cps.toList
theorem inS_letters {neg : Bool} {ch : Nat} : inSD neg S (.str ⟨#[ch]⟩) (.str "abcdefghijklmnopqrstuvwxyz") = some (.bl (if neg then !isLt ch else isLt ch)) := by
  cases neg <;> simp [inSD, isLt, letters]
theorem inS_digits {neg : Bool} {ch : Nat} : inSD neg S (.str ⟨#[ch]⟩) (.str "0123456789") = some (.bl (if neg then !isDg ch else isDg ch)) := by
  cases neg <;> simp [inSD, isDg, digits]
theorem isName_eq (hs : small s.length = true) : G_is_name A [.str s] S q x = q (.bl (nmB s)) S := by
  have hln : lenD S [.str s] = some (.int (s.length : Nat)) := by simp only [lenD, hs, if_true]
  have hlc : ∀ q : List D → WS → Prop, lcD any_ (tName 1) bYes (eOr (eOp (inSD false) (eVar 1) (eC (.str "abcdefghijklmnopqrstuvwxyz"))) (eOp (inSD false) (eVar 1) (eC (.str "0123456789")))) [some (.str s), none] (s.cps.toList.map fun c => D.str ⟨#[c]⟩) [] S q = q (s.cps.toList.map fun c => D.bl (isLt c || isDg c)) S := fun q => by
    refine lc_mapEq _ trivial fun c hc => ⟨_, rfl, fun q x => ?_⟩
    simp? [inS_letters, inS_digits]
    cases isLt c <;> rfl
  have hsm : small (s.cps.toList.map fun c => D.str ⟨#[c]⟩).length = true := by rw [List.length_map, ← len_cps]; exact hs
  rw [D_is_name]
  unfold fnD startE
  simp only [List.map_cons, List.map_nil, List.length_cons, List.length_nil, Nat.reduceAdd, Nat.reduceSub, List.replicate, List.cons_append, List.nil_append, List.append_nil, Nat.zero_add]
  unfold B_is_name
  simp? [isi_str, hln, hsm, hlc, allD_map]
  unfold nmB
  rcases hc : s.cps.toList with _ | ⟨ch, r⟩
  · have h0 : s.length = 0 := by rw [len_cps, hc]; rfl
    simp? [show decide ((1 : Int) ≤ ((s.length : Nat) : Int)) = false from decide_eq_false (by omega)]
    simp [nmL]
  · have h1 : s.length = r.length + 1 := by rw [len_cps, hc]; rfl
    have h0 : ixD S (.str s) (.int 0) = some (.str ⟨#[ch]⟩) := by
      simp only [ixD, hs, if_true, hc, atI_cons, Option.map_some]
    simp? [show decide ((1 : Int) ≤ ((s.length : Nat) : Int)) = true from decide_eq_true (by omega), h0, inS_letters]
    by_cases h8 : s.length ≤ 8
    · simp? [show decide (((s.length : Nat) : Int) ≤ 8) = true from decide_eq_true (by omega)]
      cases hl : isLt ch
      · simp? []
        simp [nmL, hl]
      · simp? []
        have : decide (r.length ≤ 7) = true := decide_eq_true (by omega)
        simp [nmL, hl, this]
    · simp? [show decide (((s.length : Nat) : Int) ≤ 8) = false from decide_eq_false (by omega)]
      have : decide (r.length ≤ 7) = false := decide_eq_false (by omega)
      simp [nmL, this]
theorem checkName_ok (h : Nm s) : G_check_name A [.str s] S q x = q .non S := by
  have e : nmB s = true := h
  rw [D_check_name]
  unfold fnD startE
  simp only [List.map_cons, List.map_nil, List.length_cons, List.length_nil, Nat.reduceAdd, Nat.reduceSub, List.replicate, List.cons_append, List.nil_append, List.append_nil, Nat.zero_add]
  unfold B_check_name
  simp? [isName_eq (nm_small h), e]
/-! ### pipes and meters -/
def pipeV (A : Ad) (a b c : Str) : D := .obj (A.c "Pipe") [("kept", .tup [.str a, .str b, .str c])]
def meterV (A : Ad) (a b : Str) (f : Bool) : D := .obj (A.c "Meter") [("kept", .tup [.str a, .str b, .bl f])]
theorem pipe_init_ok (ha : Nm a) (hb : Nm b) (hc : Nm c) (h : c ≠ b) : makeD .still (A.c "Pipe") 4 (G_Pipe_init A) [.str a, .str b, .str c] S q x = q (pipeV A a b c) S := by
  unfold makeD
  rw [D_Pipe_init]
  unfold fnD startE
  simp only [List.map_cons, List.map_nil, List.length_cons, List.length_nil, Nat.reduceAdd, Nat.reduceSub, List.replicate, List.cons_append, List.nil_append, List.append_nil, Nat.zero_add]
  unfold B_Pipe_init
  have cl : D.clean 0 (.tup [.str a, .str b, .str c]) = true := rfl
  have e : decide (c = b) = false := decide_eq_false h
  simp? [checkName_ok ha, checkName_ok hb, checkName_ok hc, e, app_at0, app_set0, cl, putD, fin_appS, take_app, Nat.lt_irrefl, show (0 : Nat) < 1000 from by decide]
  rfl
theorem meter_init_ok (ha : Nm a) (hb : Nm b) : makeD .still (A.c "Meter") 4 (G_Meter_init A) [.str a, .str b, .bl f] S q x = q (meterV A a b f) S := by
  unfold makeD
  rw [D_Meter_init]
  unfold fnD startE
  simp only [List.map_cons, List.map_nil, List.length_cons, List.length_nil, Nat.reduceAdd, Nat.reduceSub, List.replicate, List.cons_append, List.nil_append, List.append_nil, Nat.zero_add]
  unfold B_Meter_init
  have cl : D.clean 0 (.tup [.str a, .str b, .bl f]) = true := rfl
  simp? [checkName_ok ha, checkName_ok hb, isi_bool, app_at0, app_set0, cl, putD, fin_appS, take_app, show (0 : Nat) < 1000 from by decide]
  rfl
theorem kept_at {d : D} : List.lookup ("kept" : Str) [(("kept" : Str), d)] = some d := by simp [List.lookup]
theorem fld_pipe : fldD (A.c "Pipe") "kept" S (pipeV A a b c) = some (.tup [.str a, .str b, .str c]) := by simp only [fldD, pipeV, if_true, kept_at]
theorem fld_meter : fldD (A.c "Meter") "kept" S (meterV A a b f) = some (.tup [.str a, .str b, .bl f]) := by simp only [fldD, meterV, if_true, kept_at]
theorem ixT0 {a b c : D} : ixD S (.tup [a, b, c]) (.int 0) = some a := rfl
theorem ixT1 {a b c : D} : ixD S (.tup [a, b, c]) (.int 1) = some b := rfl
theorem ixT2 {a b c : D} : ixD S (.tup [a, b, c]) (.int 2) = some c := rfl
theorem p_name : G_Pipe_name A [pipeV A a b c] S q x = q (.str a) S := by
  rw [D_Pipe_name]
  unfold fnD startE
  simp only [List.map_cons, List.map_nil, List.length_cons, List.length_nil, Nat.reduceAdd, Nat.reduceSub, List.replicate, List.cons_append, List.nil_append, List.append_nil, Nat.zero_add]
  unfold B_Pipe_name
  simp? [fld_pipe, ixT0]
theorem p_start : G_Pipe_start A [pipeV A a b c] S q x = q (.str b) S := by
  rw [D_Pipe_start]
  unfold fnD startE
  simp only [List.map_cons, List.map_nil, List.length_cons, List.length_nil, Nat.reduceAdd, Nat.reduceSub, List.replicate, List.cons_append, List.nil_append, List.append_nil, Nat.zero_add]
  unfold B_Pipe_start
  simp? [fld_pipe, ixT1]
theorem p_end : G_Pipe_end A [pipeV A a b c] S q x = q (.str c) S := by
  rw [D_Pipe_end]
  unfold fnD startE
  simp only [List.map_cons, List.map_nil, List.length_cons, List.length_nil, Nat.reduceAdd, Nat.reduceSub, List.replicate, List.cons_append, List.nil_append, List.append_nil, Nat.zero_add]
  unfold B_Pipe_end
  simp? [fld_pipe, ixT2]
theorem m_name : G_Meter_name A [meterV A a b f] S q x = q (.str a) S := by
  rw [D_Meter_name]
  unfold fnD startE
  simp only [List.map_cons, List.map_nil, List.length_cons, List.length_nil, Nat.reduceAdd, Nat.reduceSub, List.replicate, List.cons_append, List.nil_append, List.append_nil, Nat.zero_add]
  unfold B_Meter_name
  simp? [fld_meter, ixT0]
theorem m_at : G_Meter_at A [meterV A a b f] S q x = q (.str b) S := by
  rw [D_Meter_at]
  unfold fnD startE
  simp only [List.map_cons, List.map_nil, List.length_cons, List.length_nil, Nat.reduceAdd, Nat.reduceSub, List.replicate, List.cons_append, List.nil_append, List.append_nil, Nat.zero_add]
  unfold B_Meter_at
  simp? [fld_meter, ixT1]
theorem m_sealed : G_Meter_sealed A [meterV A a b f] S q x = q (.bl f) S := by
  rw [D_Meter_sealed]
  unfold fnD startE
  simp only [List.map_cons, List.map_nil, List.length_cons, List.length_nil, Nat.reduceAdd, Nat.reduceSub, List.replicate, List.cons_append, List.nil_append, List.append_nil, Nat.zero_add]
  unfold B_Meter_sealed
  simp? [fld_meter, ixT2]
theorem isOb_p : isOb (A.c "Pipe") S (pipeV A a b c) = True := by simp [isOb, pipeV]
theorem isOb_m : isOb (A.c "Meter") S (meterV A a b f) = True := by simp [isOb, meterV]
end
end RV
end
section
/-! Plain values and their texts. -/
namespace RV
open PySem L2
/-! ### the text of a text has good signs -/
theorem char_lt (c : Char) : c.toNat < 0x110000 := by
  have := c.valid
  unfold Char.toNat
  rcases this with h | h
  · have : c.val.toNat < 0xd800 := h
    omega
  · exact h.2
theorem reprChar_lt {q c d : Nat} (hq : q < 128) (hc : c < 0x110000) (h : d ∈ Builtin.Str.reprChar q c) : d < 0x110000 := by
  have hex : ∀ w, d ∈ List.replicate (w - ((Nat.toDigits 16 c).map Char.toNat).length) 48 ++ (Nat.toDigits 16 c).map Char.toNat → d < 0x110000 := fun w h => by
    rcases List.mem_append.mp h with h | h
    · rw [(List.mem_replicate.mp h).2]
      decide
    · obtain ⟨e, _, rfl⟩ := List.mem_map.mp h
      exact char_lt e
  unfold Builtin.Str.reprChar at h
  dsimp only at h
  repeat' split at h
  all_goals first
    | (simp only [List.mem_cons, List.not_mem_nil, or_false] at h
       omega)
    | (rcases List.mem_append.mp h with z | z
       · simp only [List.mem_cons, List.not_mem_nil, or_false] at z
         omega
       · exact hex _ z)
theorem foldl_mem {q d : Nat} : ∀ (l : List Nat) (acc : Array Nat), d ∈ (l.foldl (fun out c => out ++ (Builtin.Str.reprChar q c).toArray) acc) → d ∈ acc ∨ ∃ c ∈ l, d ∈ Builtin.Str.reprChar q c
  | [], acc, h => .inl h
  | c :: r, acc, h => by
    rw [List.foldl_cons] at h
    rcases foldl_mem r _ h with z | ⟨e, he, z⟩
    · rcases Array.mem_append.mp z with z | z
      · exact .inl z
      · exact .inr ⟨c, List.mem_cons_self .., by simpa using z⟩
    · exact .inr ⟨e, List.mem_cons_of_mem _ he, z⟩
theorem quote_lt {x : Str} : reprQuote x < 128 := by
  unfold reprQuote
  split <;> decide
theorem strOk_lt {x : Str} (h : PyData.strOk x = true) : ∀ c ∈ x.cps.toList, c < 0x110000 := fun c hc => by
  unfold PyData.strOk at h
  rw [← Array.all_toList, List.all_eq_true] at h
  exact of_decide_eq_true (h c hc)
theorem strOk_of {x : Str} (h : ∀ c ∈ x.cps.toList, c < 0x110000) : PyData.strOk x = true := by
  unfold PyData.strOk
  rw [← Array.all_toList, List.all_eq_true]
  exact fun c hc => decide_eq_true (h c hc)
theorem strOk_repr {x : Str} (h : PyData.strOk x = true) : PyData.strOk (PyData.str x).shown = true := by
  refine strOk_of fun d hd => ?_
  have hd : d ∈ (reprText x).cps.toList := hd
  unfold reprText at hd
  simp only [Array.toList_push, List.mem_append, List.mem_singleton] at hd
  rcases hd with hd | hd
  · rw [← Array.foldl_toList] at hd
    rcases foldl_mem _ _ (Array.mem_toList_iff.mp hd) with z | ⟨c, hc, z⟩
    · have : d = reprQuote x := by simpa using z
      rw [this]
      exact Nat.lt_trans quote_lt (by decide)
    · exact reprChar_lt quote_lt (strOk_lt h c hc) z
  · rw [hd]
    exact Nat.lt_trans quote_lt (by decide)
/-! ### plain values -/
def plainT : List Value := [.type "NoneType", .type "bool", .type "int", .type "str", .type "tuple", .type "list", .type "dict"]
theorem repr_up {S : WS} {d v : D} (h : reprD S [d] = some v) (hd : ∀ kvs, d ≠ .dic kvs) : reprD2 S [d] = some v := by
  cases d with
  | dic kvs => exact absurd rfl (hd kvs)
  | tup ds =>
    first
    | exact h
    | (show (reprD S [.tup ds]).orElse _ = _
       rw [h]
       rfl)
  | _ => exact h
/-- a plain value, its kind, its text -/
structure Vl (A : Ad) (d : D) (t : Value) (r : Str) : Prop where
  k : kindD (own A) d = some t
  p : t ∈ plainT
  rp : ∀ S, reprD2 S [d] = some (.str r)
  ok : PyData.strOk r = true
  cl : ∀ n, D.clean n d = true
  sm : ∀ s, d = .str s → small s.length = true
  st : t = .type "str" → ∃ s, d = .str s
section
variable {A : Ad} {S : WS} {d : D} {t : Value} {r : Str} {n : String} {q : D → WS → Prop} {x : Xq}
theorem plain_kinds (h : t ∈ plainT) : t ∈ kinds A := List.mem_append_left _ h
theorem plain_ref (h : t ∈ plainT) (a : Addr) : t ≠ .ref a := fun z => by
  subst z
  simp [plainT] at h
theorem isi_plain (h : Vl A d t r) (hn : n ∈ A.here) : isiD (own A) (tab A) S [d, .adr (A.c n)] = some (.bl false) := by
  rw [isi_of h.k rfl (plain_kinds h.p) (ref_clss hn)]
  simp [sub, plain_ref h.p]
theorem Vl.str {s : Str} (h1 : PyData.strOk s = true) (h2 : s.length ≤ 1000) : Vl A (.str s) (.type "str") (PyData.str s).shown :=
  ⟨rfl, by simp [plainT], fun S => (show reprD2 S [.str s] = reprD S [.str s] from rfl).trans (repr_ok (k := 0) (w := 1000) (p := .str s) rfl (ShOk.str h1 h2) (by decide) (by decide)), strOk_repr h1, fun _ => rfl, fun s' e => by cases e; exact small_of (by omega), fun _ => ⟨s, rfl⟩⟩
/-! ### is it a name -/
def nmD : D → Bool
  | .str s => nmB s
  | _ => false
theorem isi_ty (h : Vl A d t r) {u : String} (hu : Value.type u ∈ clss A) : isiD (own A) (tab A) S [d, .ty u] = some (.bl (sub A t (.type u))) := isi_of h.k rfl (plain_kinds h.p) hu
theorem isi_nostr (h : Vl A d t r) (hs : t ≠ .type "str") : isiD (own A) (tab A) S [d, .ty "str"] = some (.bl false) := by
  rw [isi_ty h (by simp [clss])]
  simp [sub, hs]
theorem nmD_no (h : Vl A d t r) (hs : t ≠ .type "str") : nmD d = false := by
  cases d with
  | str s => cases h.k; exact absurd rfl hs
  | _ => rfl
theorem isNameV (h : Vl A d t r) : G_is_name A [d] S q x = q (.bl (nmD d)) S := by
  by_cases hs : t = .type "str"
  · obtain ⟨s, rfl⟩ := h.st hs
    exact isName_eq (h.sm s rfl)
  · rw [nmD_no h hs]
    rw [D_is_name]
    unfold fnD startE
    simp only [List.map_cons, List.map_nil, List.length_cons, List.length_nil, Nat.reduceAdd, Nat.reduceSub, List.replicate, List.cons_append, List.nil_append, List.append_nil, Nat.zero_add]
    unfold B_is_name
    simp? [isi_nostr h hs]
theorem checkNameT (h : Vl A d t r) (hn : nmD d = true) : G_check_name A [d] S q x = q .non S := by
  rw [D_check_name]
  unfold fnD startE
  simp only [List.map_cons, List.map_nil, List.length_cons, List.length_nil, Nat.reduceAdd, Nat.reduceSub, List.replicate, List.cons_append, List.nil_append, List.append_nil, Nat.zero_add]
  unfold B_check_name
  simp? [isNameV h, hn]
theorem checkNameF (h : Vl A d t r) (hn : nmD d = false) : G_check_name A [d] S q x = x (.exc (A.c "InvalidName") [("given", d)]) S := by
  rw [D_check_name]
  unfold fnD startE
  simp only [List.map_cons, List.map_nil, List.length_cons, List.length_nil, Nat.reduceAdd, Nat.reduceSub, List.replicate, List.cons_append, List.nil_append, List.append_nil, Nat.zero_add]
  unfold B_check_name
  simp? [isNameV h, hn]
end
end RV
end
section
/-! What the law sees of a value, says of an error, catches. -/
namespace RV
open PySem L2
/-- the classes of errors are told apart -/
def ErrsA (A : Ad) : Prop := ∀ m n, m ∈ errAll → n ∈ errAll → A.c m = A.c n → m = n
theorem inj_of_nodup {A : Ad} : ∀ {l : List String}, (l.map A.c).Nodup → ∀ m n, m ∈ l → n ∈ l → A.c m = A.c n → m = n
  | [], _, m, n, hm, _, _ => nomatch hm
  | a :: l, h, m, n, hm, hn, e => by
    rw [List.map_cons, List.nodup_cons] at h
    rcases List.mem_cons.mp hm with rfl | hm'
    · rcases List.mem_cons.mp hn with rfl | hn'
      · rfl
      · exact absurd (List.mem_map.mpr ⟨n, hn', e.symm⟩) h.1
    · rcases List.mem_cons.mp hn with rfl | hn'
      · exact absurd (List.mem_map.mpr ⟨m, hm', e⟩) h.1
      · exact inj_of_nodup h.2 m n hm' hn' e
theorem find_inj {A : Ad} {m : String} {l : List String} : ∀ {anc : List (String × List String)}, (∀ p ∈ anc, A.c p.1 = A.c m → p.1 = m) → anc.find? (fun p => p.1 == m) = some (m, l) → anc.find? (fun p => A.c p.1 == A.c m) = some (m, l)
  | [], _, h => nomatch h
  | p :: anc, hi, h => by
    by_cases e : p.1 = m
    · rw [List.find?_cons_of_pos (by simpa using e)] at h
      rw [List.find?_cons_of_pos (by simp [e])]
      exact h
    · rw [List.find?_cons_of_neg (by simpa using e)] at h
      rw [List.find?_cons_of_neg (by simpa using fun z => e (hi p (List.mem_cons_self ..) z))]
      exact find_inj (fun q hq => hi q (List.mem_cons_of_mem _ hq)) h
/-- an error's class m, with its bases l -/
structure ErrC (m : String) (l : List String) : Prop where
  at_ : errAnc.find? (fun p => p.1 == m) = some (m, l)
  mem : m ∈ errNames
  anc : ∀ k ∈ l, k ∈ errAll
theorem anc_all : ∀ p ∈ errAnc, p.1 ∈ errAll := by decide +kernel
theorem names_all : ∀ p ∈ errNames, p ∈ errAll := by decide +kernel
section
variable {A : Ad} {S : WS} {m n : String} {l : List String} {a d : Addr} {fs : List (Str × D)} {q : D → WS → Prop} {x : Xq}
theorem isX_eq (hE : ErrsA A) (hm : ErrC m l) (hn : n ∈ errAll) : isXD a (A.c m) d (tbX A errAll errAnc (A.c m)) S [.exv a (A.c m) d fs, .adr (A.c n)] = some (.bl (decide (n ∈ l))) := by
  have h1 := find_inj (A := A) (fun p hp e => hE _ _ (anc_all p hp) (names_all _ hm.mem) e) hm.at_
  have h2 : Value.ref (A.c n) ∈ errAll.map fun n => Value.ref (A.c n) := List.mem_map.mpr ⟨n, hn, rfl⟩
  have h3 : (l.any fun k => Value.ref (A.c n) == Value.ref (A.c k)) = decide (n ∈ l) := by
    rw [Bool.eq_iff_iff, List.any_eq_true, decide_eq_true_eq]
    constructor
    · rintro ⟨k, hk, e⟩
      have e : A.c n = A.c k := by
        have := beq_iff_eq.mp e
        injection this
      rw [hE n k hn (hm.anc k hk) e]
      exact hk
    · exact fun h => ⟨n, h, beq_self_eq_true _⟩
  unfold isXD
  simp only [clsD, tbX, h1, Option.bind_some, h2, if_true, h3, and_self, Option.map_some]
end
/-! ### seen -/
/-- the classes of nets and sums are there -/
structure NetsS (A : Ad) : Prop extends NetsA A where
  s : "Sum" ∈ A.here
  sp : A.c "Sum" ≠ A.c "Pipe"
  sm : A.c "Sum" ≠ A.c "Meter"
  sn : A.c "Sum" ≠ A.c "Net"
section
variable {A : Ad} {S : WS} {v : D} {t : Value} {r a b c : Str} {f : Bool} {q : D → WS → Prop} {x : Xq}
theorem seen_plain_h (hA : NetsS A) (h : Vl A v t r) : G_seen_k10_h A [v] S q x = q (.str r) S := by
  rw [D_seen_k10_h]
  unfold fnD startE
  simp only [List.map_cons, List.map_nil, List.length_cons, List.length_nil, Nat.reduceAdd, Nat.reduceSub, List.replicate, List.cons_append, List.nil_append, List.append_nil, Nat.zero_add]
  unfold B_seen_k10_h
  simp? [isi_plain h hA.p, isi_plain h hA.m, isi_plain h hA.n, isi_plain h hA.s, h.rp]
end
section
variable {S : WS}
theorem addS {a b : Str} (h : a.length + b.length ≤ 100000) : addD S (.str a) (.str b) = some (.str (a ++ b)) := addD_str (small_of h)
end
section
variable {A : Ad} {S : WS} {v : D} {t : Value} {r a b c : Str} {f : Bool} {q : D → WS → Prop} {x : Xq}
end
/-! ### said -/
def sorts8 : List String := ["InvalidPipes", "InvalidMeters", "InvalidName", "InvalidEnd", "InvalidFlag", "InvalidText", "NotAMeter", "UnknownName"]
def bs8 (l : List String) : List Bool := sorts8.map fun n => decide (n ∈ l)
/-- an error of class m (bases l) is said as number i -/
structure Said (m : String) (l : List String) (i : Nat) : Prop extends ErrC m l where
  one : (bs8 l).count true = 1
  ix : (bs8 l).findIdx? (· == true) = some i
  bn : (bs8 l)[7]? = some (decide ("BadName" ∈ l))
  bv : decide ("BadValue" ∈ l) = !decide ("BadName" ∈ l)
theorem flat_bls (bs : List Bool) : (bs.map D.bl).all flatD = true := by
  rw [List.all_map]
  exact List.all_eq_true.mpr fun _ _ => rfl
theorem count_bls (bs : List Bool) : countF (bs.map D.bl) (.bl true) = some (.int ((bs.count true : Nat) : Int)) := by
  have h : ((bs.map D.bl).countP fun y => eqFl y (.bl true)) = bs.count true := by
    rw [List.countP_map, List.count]
    congr 1
  simp only [countF, flat_bls, flatD, and_self, if_true, h]
theorem index_bls {bs : List Bool} {i : Nat} (h : bs.findIdx? (· == true) = some i) : indexF (bs.map D.bl) (.bl true) = some (.int (i : Int)) := by
  have h : ((bs.map D.bl).findIdx? fun y => eqFl y (.bl true)) = some i := by
    rw [List.findIdx?_map, ← h]
    congr 1
  simp only [indexF, flat_bls, flatD, and_self, if_true, h, Option.map_some]
section
variable {A : Ad} {S : WS} {v : D} {t : Value} {r : Str} {m : String} {l : List String} {i : Nat} {a d f : Addr} {q : D → WS → Prop} {x : Xq} {T : Addr}
theorem said_given (hA : NetsS A) (hE : ErrsA A) (h : Said m l i) (h2 : 2 ≤ i) (hv : Vl A v t r) (hq : q (.lst [.int (i : Int), .str r]) S) : G_said_k10 A a (A.c m) d [.exv a (A.c m) d [("given", v)]] S q x := by
  have e := fun n hn => isX_eq (A := A) (S := S) (a := a) (d := d) (fs := [("given", v)]) hE h.toErrC (n := n) hn
  have e0 := e "InvalidPipes" (by decide +kernel)
  have e1 := e "InvalidMeters" (by decide +kernel)
  have e2 := e "InvalidName" (by decide +kernel)
  have e3 := e "InvalidEnd" (by decide +kernel)
  have e4 := e "InvalidFlag" (by decide +kernel)
  have e5 := e "InvalidText" (by decide +kernel)
  have e6 := e "NotAMeter" (by decide +kernel)
  have e7 := e "UnknownName" (by decide +kernel)
  have eB := e "BadName" (by decide +kernel)
  have eV := e "BadValue" (by decide +kernel)
  have a1 : addD S (.lst [.bl (decide ("InvalidPipes" ∈ l)), .bl (decide ("InvalidMeters" ∈ l)), .bl (decide ("InvalidName" ∈ l))]) (.lst [.bl (decide ("InvalidEnd" ∈ l)), .bl (decide ("InvalidFlag" ∈ l)), .bl (decide ("InvalidText" ∈ l))]) = some (.lst [.bl (decide ("InvalidPipes" ∈ l)), .bl (decide ("InvalidMeters" ∈ l)), .bl (decide ("InvalidName" ∈ l)), .bl (decide ("InvalidEnd" ∈ l)), .bl (decide ("InvalidFlag" ∈ l)), .bl (decide ("InvalidText" ∈ l))]) := rfl
  have a2 : addD S (.lst [.bl (decide ("InvalidPipes" ∈ l)), .bl (decide ("InvalidMeters" ∈ l)), .bl (decide ("InvalidName" ∈ l)), .bl (decide ("InvalidEnd" ∈ l)), .bl (decide ("InvalidFlag" ∈ l)), .bl (decide ("InvalidText" ∈ l))]) (.lst [.bl (decide ("NotAMeter" ∈ l)), .bl (decide ("UnknownName" ∈ l))]) = some (.lst ((bs8 l).map D.bl)) := rfl
  have c1 : countF ((bs8 l).map D.bl) (.bl true) = some (.int 1) := by rw [count_bls, h.one]; rfl
  have c2 := index_bls h.ix
  have c3 : ixD S (.lst ((bs8 l).map D.bl)) (.int 7) = some (.bl (decide ("BadName" ∈ l))) := by
    have hb := h.bn
    have hl : (bs8 l).length = 8 := rfl
    simp only [ixD]
    rw [atI_nat (by decide) (by rw [List.length_map, hl]; decide)]
    rw [show (7 : Int).toNat = 7 from rfl, List.getElem?_map, hb]
    rfl
  have hlk : List.lookup ("given" : Str) [(("given" : Str), v)] = some v := by simp [List.lookup]
  have lt : decide (((i : Nat) : Int) < 2) = false := decide_eq_false (by omega)
  have hm : A.c m ∈ errL A errNames := List.mem_map.mpr ⟨m, h.mem, rfl⟩
  have hbv := h.bv
  rw [D_said_k10]
  unfold fnD startE
  simp only [List.map_cons, List.map_nil, List.length_cons, List.length_nil, Nat.reduceAdd, Nat.reduceSub, List.replicate, List.cons_append, List.nil_append, List.append_nil, Nat.zero_add]
  unfold B_said_k10
  refine ⟨hm, ?_⟩
  simp? [e0, e1, e2, e3, e4, e5, e6, e7, eB, eV, a1, a2, c1, c2, c3, lt, hlk, seen_plain_h hA hv, hbv]
  cases decide ("BadName" ∈ l) <;> simp? [decide_true, decide_false] <;> exact hq
/-! ### caught -/
theorem told_eq {s : Str} (h : ∀ q x, G_seen_k10 A [v] S q x = q (.str s) S) : qTold 3 1 f (T_caught_k10 A) S.length q v S = q (.lst [.str "told", .str s]) S := by
  unfold qTold T_caught_k10 startE
  simp only [List.map_cons, List.map_nil, List.length_cons, List.length_nil, Nat.reduceAdd, Nat.reduceSub, List.replicate, List.cons_append, List.nil_append, List.append_nil, Nat.zero_add]
  simp? [h]
theorem said_x (hA : NetsS A) (hE : ErrsA A) (h : Said m l i) (h2 : 2 ≤ i) (hv : Vl A v t r) (hq : q (.lst [.int (i : Int), .str r]) S) : xSaid (errL A errNames) 3 2 f (S_caught_k10 A) S.length q (.exc (A.c m) [("given", v)]) S := by
  have hm : A.c m ∈ errL A errNames := List.mem_map.mpr ⟨m, h.mem, rfl⟩
  unfold xSaid
  rw [onX_e]
  refine ⟨hm, fun b d => ?_⟩
  unfold S_caught_k10 startE ktC
  simp only [List.map_cons, List.map_nil, List.length_cons, List.length_nil, Nat.reduceAdd, Nat.reduceSub, List.replicate, List.cons_append, List.nil_append, List.append_nil, Nat.zero_add]
  simp? []
  refine said_given hA hE h h2 hv ?_
  simp? []
  exact hq
end
end RV
end
section
/-! Drawn values: of any kind, names, bent names. -/
namespace RV
open PySem L2
/-! ### texts with signs below 128 -/
def low (s : Str) : Prop := ∀ c ∈ s.cps.toList, c < 128
theorem low_ok {s : Str} (h : low s) : PyData.strOk s = true := strOk_of fun c hc => Nat.lt_trans (h c hc) (by decide)
theorem low_nm {s : Str} (h : Nm s) : low s := fun c hc => isAl_lt (nm_all h c hc)
theorem low_cat {a b : Str} (ha : low a) (hb : low b) : low (a ++ b) := fun c hc => by
  rw [cat_cps] at hc
  exact (List.mem_append.mp hc).elim (ha c) (hb c)
theorem low_cut {s : Str} {lo hi : Option Int} (h : low s) : low (cutS s lo hi) := fun c hc => h c (List.mem_of_mem_drop (List.mem_of_mem_take hc))
theorem cut_len {s : Str} {lo hi : Option Int} : (cutS s lo hi).length ≤ s.length := by
  rw [len_cps, len_cps]
  show ((s.cps.toList.drop _).take _).length ≤ _
  rw [List.length_take, List.length_drop]
  omega
section
variable {A : Ad} {S T : WS} {k : Nat} {n m : Int} {w : W} {q : D → WS → Prop} {x : Xq} {s : Str}
theorem ix_str {r : Int} (hs : small s.length = true) (h0 : 0 ≤ r) (h1 : r < (s.length : Nat)) : ∃ c ∈ s.cps.toList, ixD S (.str s) (.int r) = some (.str ⟨#[c]⟩) := by
  rw [len_cps] at h1
  have hl : r.toNat < s.cps.toList.length := by omega
  refine ⟨s.cps.toList[r.toNat], List.getElem_mem _, ?_⟩
  simp only [ixD, hs, if_true, atI_nat h0 h1, List.getElem?_eq_getElem hl, Option.map_some]
theorem len_str (hs : small s.length = true) : lenD S [.str s] = some (.int (s.length : Nat)) := by simp only [lenD, hs, if_true]
theorem sl_str (hs : small s.length = true) {lo hi : Option Int} : slD S (.str s) lo hi = some (.str (cutS s lo hi)) := if_pos hs
/-! ### a value of any kind -/
def odds : List D := [.non, .bl true, .bl false, .int 0, .int 1, .int (-1), .int 3, .int 1000000000000000000000000000000, .str "", .str "A", .str "1a", .str "a b", .str "a_b", .str "abcdefghi", .tup [], .tup [.str "a"], .lst [], .lst [.str "a"], .dic [], .dic [(.inr "a", .int 1)]]
theorem vl_py {d : D} {p : PyData} {t : Value} (hk : kindD (own A) d = some t) (hp : t ∈ plainT) (h : D.py d = some p) (hd : ∀ kvs, d ≠ .dic kvs) (hs : ShOk 3 1000 p) (ho : PyData.strOk p.shown = true) (hc : ∀ n, D.clean n d = true) (h1 : ∀ s, d = .str s → small s.length = true) (h2 : t = .type "str" → ∃ s, d = .str s) : Vl A d t p.shown :=
  ⟨hk, hp, fun S => by
    exact repr_up (repr_ok h hs (by decide) (by decide)) hd, ho, hc, h1, h2⟩
theorem odd_vl : ∀ d ∈ odds, ∃ t r, Vl A d t r := fun d hd => by
  simp only [odds, List.mem_cons, List.not_mem_nil, or_false] at hd
  rcases hd with e | e | e | e | e | e | e | e | e | e | e | e | e | e | e | e | e | e | e | e <;> subst e
  · exact ⟨_, _, vl_py (p := .none) rfl (by simp [plainT]) rfl (fun _ z => nomatch z) ⟨by decide +kernel, by decide +kernel, by decide +kernel, by decide +kernel, by decide +kernel⟩ (by decide +kernel) (fun _ => rfl) (fun _ z => nomatch z) (fun z => nomatch z)⟩
  · exact ⟨_, _, vl_py (p := .bool true) rfl (by simp [plainT]) rfl (fun _ z => nomatch z) ⟨by decide +kernel, by decide +kernel, by decide +kernel, by decide +kernel, by decide +kernel⟩ (by decide +kernel) (fun _ => rfl) (fun _ z => nomatch z) (fun z => by simp at z)⟩
  · exact ⟨_, _, vl_py (p := .bool false) rfl (by simp [plainT]) rfl (fun _ z => nomatch z) ⟨by decide +kernel, by decide +kernel, by decide +kernel, by decide +kernel, by decide +kernel⟩ (by decide +kernel) (fun _ => rfl) (fun _ z => nomatch z) (fun z => by simp at z)⟩
  · exact ⟨_, _, vl_py (p := .int 0) rfl (by simp [plainT]) rfl (fun _ z => nomatch z) ⟨by decide +kernel, by decide +kernel, by decide +kernel, by decide +kernel, by decide +kernel⟩ (by decide +kernel) (fun _ => rfl) (fun _ z => nomatch z) (fun z => by simp at z)⟩
  · exact ⟨_, _, vl_py (p := .int 1) rfl (by simp [plainT]) rfl (fun _ z => nomatch z) ⟨by decide +kernel, by decide +kernel, by decide +kernel, by decide +kernel, by decide +kernel⟩ (by decide +kernel) (fun _ => rfl) (fun _ z => nomatch z) (fun z => by simp at z)⟩
  · exact ⟨_, _, vl_py (p := .int (-1)) rfl (by simp [plainT]) rfl (fun _ z => nomatch z) ⟨by decide +kernel, by decide +kernel, by decide +kernel, by decide +kernel, by decide +kernel⟩ (by decide +kernel) (fun _ => rfl) (fun _ z => nomatch z) (fun z => by simp at z)⟩
  · exact ⟨_, _, vl_py (p := .int 3) rfl (by simp [plainT]) rfl (fun _ z => nomatch z) ⟨by decide +kernel, by decide +kernel, by decide +kernel, by decide +kernel, by decide +kernel⟩ (by decide +kernel) (fun _ => rfl) (fun _ z => nomatch z) (fun z => by simp at z)⟩
  · exact ⟨_, _, vl_py (p := .int 1000000000000000000000000000000) rfl (by simp [plainT]) rfl (fun _ z => nomatch z) ⟨by decide +kernel, by decide +kernel, by decide +kernel, by decide +kernel, by decide +kernel⟩ (by decide +kernel) (fun _ => rfl) (fun _ z => nomatch z) (fun z => by simp at z)⟩
  · exact ⟨_, _, Vl.str (by decide +kernel) (by decide +kernel)⟩
  · exact ⟨_, _, Vl.str (by decide +kernel) (by decide +kernel)⟩
  · exact ⟨_, _, Vl.str (by decide +kernel) (by decide +kernel)⟩
  · exact ⟨_, _, Vl.str (by decide +kernel) (by decide +kernel)⟩
  · exact ⟨_, _, Vl.str (by decide +kernel) (by decide +kernel)⟩
  · exact ⟨_, _, Vl.str (by decide +kernel) (by decide +kernel)⟩
  · exact ⟨_, _, vl_py (p := .tuple []) rfl (by simp [plainT]) rfl (fun _ z => nomatch z) ⟨by decide +kernel, by decide +kernel, by decide +kernel, by decide +kernel, by decide +kernel⟩ (by decide +kernel) (fun _ => rfl) (fun _ z => nomatch z) (fun z => by simp at z)⟩
  · exact ⟨_, _, vl_py (p := .tuple [.str "a"]) rfl (by simp [plainT]) rfl (fun _ z => nomatch z) ⟨by decide +kernel, by decide +kernel, by decide +kernel, by decide +kernel, by decide +kernel⟩ (by decide +kernel) (fun _ => rfl) (fun _ z => nomatch z) (fun z => by simp at z)⟩
  · exact ⟨_, _, vl_py (p := .list []) rfl (by simp [plainT]) rfl (fun _ z => nomatch z) ⟨by decide +kernel, by decide +kernel, by decide +kernel, by decide +kernel, by decide +kernel⟩ (by decide +kernel) (fun _ => rfl) (fun _ z => nomatch z) (fun z => by simp at z)⟩
  · exact ⟨_, _, vl_py (p := .list [.str "a"]) rfl (by simp [plainT]) rfl (fun _ z => nomatch z) ⟨by decide +kernel, by decide +kernel, by decide +kernel, by decide +kernel, by decide +kernel⟩ (by decide +kernel) (fun _ => rfl) (fun _ z => nomatch z) (fun z => by simp at z)⟩
  · exact ⟨.type "dict", (PyData.dict []).shown, rfl, by simp [plainT], fun S => (show reprD2 S [.dic []] = (if (PyData.dict []).showable = true ∧ (PyData.dict []).depth ≤ 64 ∧ (PyData.dict []).shown.length ≤ sizeLine then some (.str (PyData.dict []).shown) else none) from rfl).trans (if_pos ⟨by decide +kernel, by decide +kernel, by decide +kernel⟩), by decide +kernel, fun _ => rfl, fun _ z => (nomatch z), fun z => by simp at z⟩
  · exact ⟨.type "dict", (PyData.dict [(.str "a", .int 1)]).shown, rfl, by simp [plainT], fun S => (show reprD2 S [.dic [(.inr "a", .int 1)]] = (if (PyData.dict [(.str "a", .int 1)]).showable = true ∧ (PyData.dict [(.str "a", .int 1)]).depth ≤ 64 ∧ (PyData.dict [(.str "a", .int 1)]).shown.length ≤ sizeLine then some (.str (PyData.dict [(.str "a", .int 1)]).shown) else none) from rfl).trans (if_pos ⟨by decide +kernel, by decide +kernel, by decide +kernel⟩), by decide +kernel, fun _ => rfl, fun _ z => (nomatch z), fun z => by simp at z⟩
theorem odd_ok (hk : k < S.length) (g : Good n w) (hn : n < 100000000000000000) (h : ∀ d t r w', d ∈ odds → Vl A d t r → Good (n + 1) w' → q d (st S k w' T)) : G_odd_k04 A [.cell k] (st S k w T) q x := by
  have hpw : powOk 10 30 = true := by decide +kernel
  have he : ((10 : Int) ^ (30 : Int).toNat) = 1000000000000000000000000000000 := by decide +kernel
  have ng : ∀ S, negD S (.int 1) = some (.int (-1)) := fun _ => rfl
  have s18 : small 18 = true := rfl
  have pd : pairD [.str "a", .int 1] = some [(.inr "a", .int 1)] := rfl
  have ad : ∀ S, addD S (.lst [.non, .bl true, .bl false, .int 0, .int 1, .int (-1), .int 3, .int 1000000000000000000000000000000, .str "", .str "A", .str "1a", .str "a b", .str "a_b", .str "abcdefghi", .tup [], .tup [.str "a"], .lst [], .lst [.str "a"]]) (.lst [.dic [], .dic (mergeD [] [(.inr "a", .int 1)])]) = some (.lst odds) := fun _ => rfl
  rw [D_odd_k04]
  unfold fnD startE
  simp only [List.map_cons, List.map_nil, List.length_cons, List.length_nil, Nat.reduceAdd, Nat.reduceSub, List.replicate, List.cons_append, List.nil_append, List.append_nil, Nat.zero_add]
  unfold B_odd_k04
  refine seq_gen fun N_ hN_ => ?_
  simp? []
  refine dip_ok hk g (by omega) (by omega) (by omega) fun d w1 d0 d1 g1 => ?_
  simp? []
  subst hN_
  refine seq_gen fun N_ hN_ => ?_
  simp? [ng, powD_int hpw, he, s18]
  subst hN_
  have hl : d < ((odds.length : Nat) : Int) := d1
  have hx : ixD (st S k w1 T) (.lst odds) (.int d) = some (odds[d.toNat]'(by omega)) := by
    simp only [ixD, atI_nat d0 hl, List.getElem?_eq_getElem (show d.toNat < odds.length by omega)]
  simp? [pd, ad, hx]
  obtain ⟨t, r, hv⟩ := odd_vl (A := A) (odds[d.toNat]'(by omega)) (List.getElem_mem _)
  exact h _ t r w1 (List.getElem_mem _) hv g1
/-! ### a drawn sign -/
theorem sign_ok {often : Str} (hk : k < S.length) (g : Good n w) (hn : n < 100000000000000000) (ho : low often) (h1 : 1 ≤ often.length) (h2 : often.length ≤ 100) (h : ∀ c w', c < 128 → Good (n + 2) w' → q (.str ⟨#[c]⟩) (st S k w' T)) : G_sign_k04 A [.cell k, .str often] (st S k w T) q x := by
  have so : small often.length = true := small_of (by omega)
  rw [D_sign_k04]
  unfold fnD startE
  simp only [List.map_cons, List.map_nil, List.length_cons, List.length_nil, Nat.reduceAdd, Nat.reduceSub, List.replicate, List.cons_append, List.nil_append, List.append_nil, Nat.zero_add]
  unfold B_sign_k04
  refine seq_gen fun N_ hN_ => ?_
  simp? []
  refine dip_ok hk g (by omega) (by omega) (by omega) fun d w1 d0 d1 g1 => ?_
  simp? []
  refine iteB_dec (fun hd => ?_) (fun hd => ?_)
  · simp? [len_str so]
    refine dip_ok hk g1 (by omega) (by omega) (by omega) fun e w2 e0 e1 g2 => ?_
    obtain ⟨c, hc, hx⟩ := ix_str (S := st S k w2 T) so e0 e1
    simp? [hx]
    exact h c w2 (ho c hc) (g2.mono (by omega))
  · subst hN_
    refine seq_gen fun N_ hN_ => ?_
    simp? []
    subst hN_
    refine seq_gen fun N_ hN_ => ?_
    have ha : addD (st S k w1 T) (.str " !#$&'()*+,-./0123456789:;<=>?@ABCDEFGHIJKLMNOPQRSTUVWXYZ[]^_`") (.str "abcdefghijklmnopqrstuvwxyz{|}~\"\\\n") = some (.str (" !#$&'()*+,-./0123456789:;<=>?@ABCDEFGHIJKLMNOPQRSTUVWXYZ[]^_`" ++ "abcdefghijklmnopqrstuvwxyz{|}~\"\\\n")) := addD_str (by decide +kernel)
    simp? [ha]
    subst hN_
    have hl : low (" !#$&'()*+,-./0123456789:;<=>?@ABCDEFGHIJKLMNOPQRSTUVWXYZ[]^_`" ++ "abcdefghijklmnopqrstuvwxyz{|}~\"\\\n") := by
      unfold low
      decide +kernel
    have hn2 : ((" !#$&'()*+,-./0123456789:;<=>?@ABCDEFGHIJKLMNOPQRSTUVWXYZ[]^_`" ++ "abcdefghijklmnopqrstuvwxyz{|}~\"\\\n") : Str).length = 95 := by decide +kernel
    generalize ((" !#$&'()*+,-./0123456789:;<=>?@ABCDEFGHIJKLMNOPQRSTUVWXYZ[]^_`" ++ "abcdefghijklmnopqrstuvwxyz{|}~\"\\\n") : Str) = z at hl hn2
    have sz : small z.length = true := by rw [hn2]; rfl
    simp? [len_str sz]
    refine dip_ok hk g1 (by omega) (by omega) (by omega) fun e w2 e0 e1 g2 => ?_
    obtain ⟨c, hc, hx⟩ := ix_str (S := st S k w2 T) sz e0 e1
    simp? [hx]
    exact h c w2 (hl c hc) (g2.mono (by omega))
/-! ### names, bent -/
theorem low_one {c : Nat} (h : c < 128) : low ⟨#[c]⟩ := fun d hd => by
  have : d = c := by simpa using hd
  omega
end
end RV
end
section
/-! Names judged by the law; pipes and meters of any values. -/
namespace RV
open PySem L2
section
variable {A : Ad} {S T : WS} {k : Nat} {n m : Int} {w : W} {q : D → WS → Prop} {x : Xq} {s : Str} {v v1 v2 v3 : D} {t t1 t2 t3 : Value} {r r1 r2 r3 : Str} {f : Addr}
theorem signs_26 : cutS ("abcdefghijklmnopqrstuvwxyz0123456789" : Str) none (some 26) = "abcdefghijklmnopqrstuvwxyz" := by decide +kernel
theorem in_signs {ch : Nat} : inSD false S (.str ⟨#[ch]⟩) (.str "abcdefghijklmnopqrstuvwxyz0123456789") = some (.bl (isLt ch || isDg ch)) := by
  have e : (("abcdefghijklmnopqrstuvwxyz0123456789" : Str)).cps.toList = letters.cps.toList ++ digits.cps.toList := by decide +kernel
  have h : decide (ch ∈ ("abcdefghijklmnopqrstuvwxyz0123456789" : Str).cps.toList) = (isLt ch || isDg ch) := by
    rw [e]
    unfold isLt isDg
    rw [← Bool.decide_or]
    simp only [List.mem_append]
  rw [← h]
  simp [inSD]
theorem lawName_eq (hs : small s.length = true) : G_is_name_k04 A [.str s] S q x = q (.bl (nmB s)) S := by
  have hln := len_str (S := S) hs
  have s36 : small ("abcdefghijklmnopqrstuvwxyz0123456789" : Str).length = true := by decide +kernel
  have hlc : ∀ q : List D → WS → Prop, lcD any_ (tName 2) bYes (eOp (inSD false) (eVar 2) (eVar 1)) [some (.str s), some (.str "abcdefghijklmnopqrstuvwxyz0123456789"), none] (s.cps.toList.map fun c => D.str ⟨#[c]⟩) [] S q = q (s.cps.toList.map fun c => D.bl (isLt c || isDg c)) S := fun q => by
    refine lc_mapEq _ trivial fun c hc => ⟨_, rfl, fun q x => ?_⟩
    simp? [in_signs]
  have hsm : small (s.cps.toList.map fun c => D.str ⟨#[c]⟩).length = true := by rw [List.length_map, ← len_cps]; exact hs
  rw [D_is_name_k04]
  unfold fnD startE
  simp only [List.map_cons, List.map_nil, List.length_cons, List.length_nil, Nat.reduceAdd, Nat.reduceSub, List.replicate, List.cons_append, List.nil_append, List.append_nil, Nat.zero_add]
  unfold B_is_name_k04
  simp? [hln, hsm, hlc, allD_map, sl_str s36, signs_26]
  unfold nmB
  rcases hc : s.cps.toList with _ | ⟨ch, r⟩
  · have h0 : s.length = 0 := by rw [len_cps, hc]; rfl
    simp? [show decide ((0 : Int) < ((s.length : Nat) : Int)) = false from decide_eq_false (by omega)]
    simp [nmL]
  · have h1 : s.length = r.length + 1 := by rw [len_cps, hc]; rfl
    have h0 : ixD S (.str s) (.int 0) = some (.str ⟨#[ch]⟩) := by
      simp only [ixD, hs, if_true, hc, atI_cons, Option.map_some]
    simp? [show decide ((0 : Int) < ((s.length : Nat) : Int)) = true from decide_eq_true (by omega), h0, inS_letters]
    by_cases h8 : s.length ≤ 8
    · simp? [show decide (((s.length : Nat) : Int) < 9) = true from decide_eq_true (by omega)]
      cases hl : isLt ch
      · simp? []
        simp [nmL, hl]
      · simp? []
        have : decide (r.length ≤ 7) = true := decide_eq_true (by omega)
        simp [nmL, hl, this]
    · simp? [show decide (((s.length : Nat) : Int) < 9) = false from decide_eq_false (by omega)]
      have : decide (r.length ≤ 7) = false := decide_eq_false (by omega)
      simp [nmL, this]
/-! ### made of any values -/
theorem finX_appV {c : Cell} {C : Addr} {g : Str} (h : ∀ n, D.clean n v = true) : finX S.length (.exc C [(g, v)]) (S ++ [c]) x = x (.exc C [(g, v)]) S := by
  unfold finX
  rw [if_neg (by simp)]
  simp [D.clean, D.cleanF, h]
theorem pipe_x1 (h1 : Vl A v1 t1 r1) (n1 : nmD v1 = false) : makeD .still (A.c "Pipe") 4 (G_Pipe_init A) [v1, v2, v3] S q x = x (.exc (A.c "InvalidName") [("given", v1)]) S := by
  unfold makeD
  rw [D_Pipe_init]
  unfold fnD startE
  simp only [List.map_cons, List.map_nil, List.length_cons, List.length_nil, Nat.reduceAdd, Nat.reduceSub, List.replicate, List.cons_append, List.nil_append, List.append_nil, Nat.zero_add]
  unfold B_Pipe_init
  simp? [checkNameF h1 n1, finX_appV h1.cl]
theorem pipe_x2 (h1 : Vl A v1 t1 r1) (n1 : nmD v1 = true) (h2 : Vl A v2 t2 r2) (n2 : nmD v2 = false) : makeD .still (A.c "Pipe") 4 (G_Pipe_init A) [v1, v2, v3] S q x = x (.exc (A.c "InvalidName") [("given", v2)]) S := by
  unfold makeD
  rw [D_Pipe_init]
  unfold fnD startE
  simp only [List.map_cons, List.map_nil, List.length_cons, List.length_nil, Nat.reduceAdd, Nat.reduceSub, List.replicate, List.cons_append, List.nil_append, List.append_nil, Nat.zero_add]
  unfold B_Pipe_init
  simp? [checkNameT h1 n1, checkNameF h2 n2, finX_appV h2.cl]
theorem pipe_x3 (h1 : Vl A v1 t1 r1) (n1 : nmD v1 = true) (h2 : Vl A v2 t2 r2) (n2 : nmD v2 = true) (h3 : Vl A v3 t3 r3) (n3 : nmD v3 = false) : makeD .still (A.c "Pipe") 4 (G_Pipe_init A) [v1, v2, v3] S q x = x (.exc (A.c "InvalidName") [("given", v3)]) S := by
  unfold makeD
  rw [D_Pipe_init]
  unfold fnD startE
  simp only [List.map_cons, List.map_nil, List.length_cons, List.length_nil, Nat.reduceAdd, Nat.reduceSub, List.replicate, List.cons_append, List.nil_append, List.append_nil, Nat.zero_add]
  unfold B_Pipe_init
  simp? [checkNameT h1 n1, checkNameT h2 n2, checkNameF h3 n3, finX_appV h3.cl]
theorem pipe_x4 {a b : Str} (ha : Nm a) (hb : Nm b) : makeD .still (A.c "Pipe") 4 (G_Pipe_init A) [.str a, .str b, .str b] S q x = x (.exc (A.c "InvalidEnd") [("given", .str b)]) S := by
  unfold makeD
  rw [D_Pipe_init]
  unfold fnD startE
  simp only [List.map_cons, List.map_nil, List.length_cons, List.length_nil, Nat.reduceAdd, Nat.reduceSub, List.replicate, List.cons_append, List.nil_append, List.append_nil, Nat.zero_add]
  unfold B_Pipe_init
  simp? [checkName_ok ha, checkName_ok hb, finX_appV (v := .str b) (fun _ => rfl)]
theorem meter_x1 (h1 : Vl A v1 t1 r1) (n1 : nmD v1 = false) : makeD .still (A.c "Meter") 4 (G_Meter_init A) [v1, v2, v3] S q x = x (.exc (A.c "InvalidName") [("given", v1)]) S := by
  unfold makeD
  rw [D_Meter_init]
  unfold fnD startE
  simp only [List.map_cons, List.map_nil, List.length_cons, List.length_nil, Nat.reduceAdd, Nat.reduceSub, List.replicate, List.cons_append, List.nil_append, List.append_nil, Nat.zero_add]
  unfold B_Meter_init
  simp? [checkNameF h1 n1, finX_appV h1.cl]
theorem meter_x2 (h1 : Vl A v1 t1 r1) (n1 : nmD v1 = true) (h2 : Vl A v2 t2 r2) (n2 : nmD v2 = false) : makeD .still (A.c "Meter") 4 (G_Meter_init A) [v1, v2, v3] S q x = x (.exc (A.c "InvalidName") [("given", v2)]) S := by
  unfold makeD
  rw [D_Meter_init]
  unfold fnD startE
  simp only [List.map_cons, List.map_nil, List.length_cons, List.length_nil, Nat.reduceAdd, Nat.reduceSub, List.replicate, List.cons_append, List.nil_append, List.append_nil, Nat.zero_add]
  unfold B_Meter_init
  simp? [checkNameT h1 n1, checkNameF h2 n2, finX_appV h2.cl]
end
end RV
end
section
/-! Nets: made, their texts, read. -/
namespace RV
open PySem L2
abbrev LR := Str × Str × Str
abbrev FR := Str × Str × Bool
def pv (A : Ad) (r : LR) : D := pipeV A r.1 r.2.1 r.2.2
def mv (A : Ad) (r : FR) : D := meterV A r.1 r.2.1 r.2.2
def netV (A : Ad) (rs : List LR) (fs : List FR) : D := .obj (A.c "Net") [("joined", .tup (rs.map (pv A))), ("fitted", .tup (fs.map (mv A)))]
structure RowOk (r : LR) : Prop where
  n : Nm r.1
  s : Nm r.2.1
  e : Nm r.2.2
  ne : r.2.2 ≠ r.2.1
structure LaidOk (rs : List LR) : Prop where
  rows : ∀ r ∈ rs, RowOk r
  nd : (rs.map (·.1)).Nodup
  lo : 1 ≤ rs.length
  hi : rs.length ≤ 12
structure FitsOk (rs : List LR) (fs : List FR) : Prop where
  n : ∀ f ∈ fs, Nm f.1
  at_ : ∀ f ∈ fs, f.2.1 ∈ rs.map (·.1)
  nd : (fs.map (·.1)).Nodup
  hi : fs.length ≤ 12
/-- .. with two more than a net may have -/
structure LaidW (rs : List LR) : Prop where
  rows : ∀ r ∈ rs, RowOk r
  lo : 1 ≤ rs.length
  hi : rs.length ≤ 14
structure FitsW (rs : List LR) (fs : List FR) : Prop where
  n : ∀ f ∈ fs, Nm f.1
  at_ : ∀ f ∈ fs, f.2.1 ∈ rs.map (·.1)
  hi : fs.length ≤ 14
theorem LaidOk.w {rs : List LR} (h : LaidOk rs) : LaidW rs := ⟨h.rows, h.lo, by have := h.hi; omega⟩
theorem FitsOk.w {rs : List LR} {fs : List FR} (h : FitsOk rs fs) : FitsW rs fs := ⟨h.n, h.at_, by have := h.hi; omega⟩
theorem FitsW.nmAt {rs : List LR} {fs : List FR} (h : FitsW rs fs) (l : LaidW rs) {f : FR} (hf : f ∈ fs) : Nm f.2.1 := by
  obtain ⟨r, hr, e⟩ := List.mem_map.mp (h.at_ f hf)
  rw [← e]
  exact (l.rows r hr).n
theorem FitsOk.nmAt {rs : List LR} {fs : List FR} (h : FitsOk rs fs) (l : LaidOk rs) {f : FR} (hf : f ∈ fs) : Nm f.2.1 := by
  obtain ⟨r, hr, e⟩ := List.mem_map.mp (h.at_ f hf)
  rw [← e]
  exact (l.rows r hr).n
section
variable {A : Ad} {S : WS} {q : D → WS → Prop} {x : Xq} {rs : List LR} {fs : List FR} {r : LR} {f : FR} {a b : D}
theorem isi_pp (hA : NetsA A) : isiD (own A) (tab A) S [pv A r, .adr (A.c "Pipe")] = some (.bl true) := by simp only [pv, pipeV, isi_own hA.p hA.p, decide_true]
theorem isi_pm (hA : NetsA A) : isiD (own A) (tab A) S [pv A r, .adr (A.c "Meter")] = some (.bl false) := by simp only [pv, pipeV, isi_own hA.p hA.m, decide_eq_false hA.pm]
theorem isi_mm (hA : NetsA A) : isiD (own A) (tab A) S [mv A f, .adr (A.c "Meter")] = some (.bl true) := by simp only [mv, meterV, isi_own hA.m hA.m, decide_true]
theorem isi_mp (hA : NetsA A) : isiD (own A) (tab A) S [mv A f, .adr (A.c "Pipe")] = some (.bl false) := by simp only [mv, meterV, isi_own hA.m hA.p, decide_eq_false hA.pm.symm]
theorem isi_nn (hA : NetsA A) : isiD (own A) (tab A) S [netV A rs fs, .adr (A.c "Net")] = some (.bl true) := by simp only [netV, isi_own hA.n hA.n, decide_true]
theorem ob_pv : isOb (A.c "Pipe") S (pv A r) = True := isOb_p
theorem ob_mv : isOb (A.c "Meter") S (mv A f) = True := isOb_m
theorem ob_nv : isOb (A.c "Net") S (netV A rs fs) = True := by simp [isOb, netV]
theorem pv_name : G_Pipe_name A [pv A r] S q x = q (.str r.1) S := p_name
theorem pv_start : G_Pipe_start A [pv A r] S q x = q (.str r.2.1) S := p_start
theorem pv_end : G_Pipe_end A [pv A r] S q x = q (.str r.2.2) S := p_end
theorem mv_name : G_Meter_name A [mv A f] S q x = q (.str f.1) S := m_name
theorem mv_at : G_Meter_at A [mv A f] S q x = q (.str f.2.1) S := m_at
theorem mv_sealed : G_Meter_sealed A [mv A f] S q x = q (.bl f.2.2) S := m_sealed
theorem lenD_tup {ds : List D} : lenD S [.tup ds] = some (.int (ds.length : Nat)) := rfl
theorem cleanL_map {α : Type} {g : α → D} {n : Nat} {xs : List α} (h : ∀ a ∈ xs, D.clean n (g a) = true) : D.cleanL n (xs.map g) = true := by
  induction xs with
  | nil => rfl
  | cons a xs ih => simp [D.cleanL, h a (List.mem_cons_self ..), ih fun b hb => h b (List.mem_cons_of_mem _ hb)]
theorem clean_tupP {n : Nat} : D.clean n (.tup (rs.map (pv A))) = true := by
  unfold D.clean
  exact cleanL_map fun _ _ => rfl
theorem clean_tupM {n : Nat} : D.clean n (.tup (fs.map (mv A))) = true := by
  unfold D.clean
  exact cleanL_map fun _ _ => rfl
theorem jf : ¬ (("joined" : Str) = "fitted") := by decide +kernel
theorem put_j {d : D} : putD "joined" d [] = [(("joined" : Str), d)] := rfl
theorem put_f {d e : D} : putD "fitted" e [(("joined" : Str), d)] = [(("joined" : Str), d), (("fitted" : Str), e)] := by
  unfold putD
  rw [if_neg jf]
  rfl
/-! ### things in the place of pipes and meters -/
/-- d is the pipe of a row, or no pipe -/
inductive PTh (A : Ad) : D → Option LR → Prop where
  | pipe (r : LR) : PTh A (pv A r) (some r)
  | not {d : D} : (∀ S, isiD (own A) (tab A) S [d, .adr (A.c "Pipe")] = some (.bl false)) → PTh A d none
inductive MTh (A : Ad) : D → Option FR → Prop where
  | meter (f : FR) : MTh A (mv A f) (some f)
  | not {d : D} : (∀ S, isiD (own A) (tab A) S [d, .adr (A.c "Meter")] = some (.bl false)) → MTh A d none
/-- the first mark that is none, came before, or is the thirteenth -/
def fB (i : Nat) (done : List Str) : List (Option Str) → Option Nat
  | [] => none
  | none :: _ => some i
  | some s :: r => if s ∈ done ∨ 12 ≤ i then some i else fB (i + 1) (done ++ [s]) r
def markP (o : Option LR) : Option Str := o.map (·.1)
def markM (names : List Str) (o : Option FR) : Option Str := o.bind fun f => if f.2.1 ∈ names then some f.1 else none
theorem fB_none : ∀ {ms : List (Option Str)} {i : Nat} {done : List Str}, done.Nodup → i ≤ 12 → fB i done ms = none → ∃ ss : List Str, ms = ss.map some ∧ (done ++ ss).Nodup ∧ i + ss.length ≤ 12
  | [], i, done, hd, hi, h => ⟨[], rfl, by simpa using hd, by simpa using hi⟩
  | none :: r, i, done, hd, hi, h => nomatch h
  | some s :: r, i, done, hd, hi, h => by
    unfold fB at h
    split at h
    · cases h
    · rename_i hn
      have hs : s ∉ done := fun z => hn (.inl z)
      have h12 : i < 12 := by
        have : ¬ 12 ≤ i := fun z => hn (.inr z)
        omega
      have hd' : (done ++ [s]).Nodup := by
        rw [List.nodup_append]
        exact ⟨hd, by simp, fun a ha b hb => by
          rw [List.mem_singleton] at hb
          subst hb
          exact fun z => hs (z ▸ ha)⟩
      obtain ⟨ss, e1, e2, e3⟩ := fB_none (i := i + 1) hd' (by omega) h
      exact ⟨s :: ss, by rw [e1]; rfl, by simpa using e2, by simp only [List.length_cons]; omega⟩
theorem fB_ok : ∀ {ss : List Str} {i : Nat} {done : List Str}, (done ++ ss).Nodup → i + ss.length ≤ 12 → fB i done (ss.map some) = none
  | [], _, _, _, _ => rfl
  | s :: ss, i, done, hd, hl => by
    have hs : s ∉ done := fun z => by
      rw [List.nodup_append] at hd
      exact hd.2.2 s z s (by simp) rfl
    simp only [List.length_cons] at hl
    rw [List.map_cons]
    unfold fB
    rw [if_neg (fun z => z.elim hs (by omega))]
    exact fB_ok (by simpa using hd) (by omega)
/-! ### the checks -/
theorem check_pipes_run (hA : NetsA A) {ts : List (D × Option LR)} (h : ∀ p ∈ ts, PTh A p.1 p.2) (h0 : ts ≠ []) (hq : fB 0 [] (ts.map fun p => markP p.2) = none → q .non S) (hx : ∀ i, fB 0 [] (ts.map fun p => markP p.2) = some i → x (.exc (A.c "InvalidPipes") [("index", .int (i : Nat))]) S) : G_check_pipes A [.tup (ts.map (·.1))] S q x := by
  have hl : 1 ≤ (ts.map (·.1)).length := by
    rw [List.length_map]
    cases ts with
    | nil => exact absurd rfl h0
    | cons => simp
  rw [D_check_pipes]
  unfold fnD startE
  simp only [List.map_cons, List.map_nil, List.length_cons, List.length_nil, Nat.reduceAdd, Nat.reduceSub, List.replicate, List.cons_append, List.nil_append, List.append_nil, Nat.zero_add]
  unfold B_check_pipes
  refine seq_gen fun N_ hN_ => ?_
  simp? [isi_tup, lenD_tup, show decide ((((ts.map (·.1)).length : Nat) : Int) = 0) = false from decide_eq_false (by omega)]
  subst hN_
  refine seq_gen fun N_ hN_ => ?_
  simp? [D.cleanL]
  subst hN_
  simp? []
  have go : ∀ (rest : List (D × Option LR)) (done : List Str) (o2 o3 : Option D) (kt : Kt), (∀ p ∈ rest, PTh A p.1 p.2) → done.length ≤ 12 → (fB done.length done (rest.map fun p => markP p.2) = none → ∀ o2 o3 l, kt.nx [some (.tup (ts.map (·.1))), some (.cell S.length), o2, o3] (S ++ [.lst l])) →
      (∀ i, fB done.length done (rest.map fun p => markP p.2) = some i → ∀ ρ l, kt.ex (.exc (A.c "InvalidPipes") [("index", .int (i : Nat))]) ρ (S ++ [.lst l])) →
      forD any_ (tTupD 2 (tsCons (tName 2) (tsCons (tName 3) (tsNil)))) (L_check_pipes_0 A)
        (enumL done.length (rest.map (·.1))) [some (.tup (ts.map (·.1))), some (.cell S.length), o2, o3] (S ++ [.lst (done.map D.str)]) kt := fun rest => by
    induction rest with
    | nil =>
      intro done o2 o3 kt _ _ hk _
      exact ⟨trivial, hk rfl _ _ _⟩
    | cons p rest ih =>
      intro done o2 o3 kt hp hd hk hx
      have hp0 := hp p (List.mem_cons_self ..)
      obtain ⟨d, o⟩ := p
      simp only at hp0
      rw [List.map_cons, enumL, for_cons]
      unfold L_check_pipes_0
      cases hp0 with
      | not hn =>
        simp? [hn]
        exact hx done.length rfl _ _
      | pipe r =>
        have hm : markP (some r) = some r.1 := rfl
        simp only [List.map_cons, hm] at hk hx
        have hsm : small (done.map D.str).length = true := small_of (by simp; omega)
        by_cases hin : r.1 ∈ done
        · have hin' : inD false (S ++ [.lst (done.map D.str)]) (.str r.1) (.cell S.length) = some (.bl true) := by
            rw [in_strs (ts := done) (by simp [itemsD])]
            simp [hin]
          simp? [isi_pp hA, ob_pv, pv_name, hin']
          refine hx done.length ?_ _ _
          unfold fB
          rw [if_pos (.inl hin)]
        · have hin' : inD false (S ++ [.lst (done.map D.str)]) (.str r.1) (.cell S.length) = some (.bl false) := by
            rw [in_strs (ts := done) (by simp [itemsD])]
            simp [hin]
          by_cases h12 : 12 ≤ done.length
          · have hge : decide ((12 : Int) ≤ ((done.length : Nat) : Int)) = true := decide_eq_true (by omega)
            simp? [isi_pp hA, ob_pv, pv_name, hin', hge]
            refine hx done.length ?_ _ _
            unfold fB
            rw [if_pos (.inr h12)]
          · have hge : decide ((12 : Int) ≤ ((done.length : Nat) : Int)) = false := decide_eq_false (by omega)
            have e : fB done.length done (some r.1 :: rest.map fun p => markP p.2) = fB (done.length + 1) (done ++ [r.1]) (rest.map fun p => markP p.2) := by
              conv => lhs; unfold fB
              rw [if_neg (fun z => z.elim hin h12)]
            rw [e] at hk hx
            have ih' := ih (done ++ [r.1]) (some (.int (done.length : Nat))) (some (pv A r)) kt (fun p hp' => hp p (List.mem_cons_of_mem _ hp')) (by simp; omega) (by rw [List.length_append]; exact hk) (by rw [List.length_append]; exact hx)
            rw [List.map_append, List.length_append] at ih'
            simp? [isi_pp hA, ob_pv, pv_name, hin', hge, app_at0, app_set0, D.clean, hsm]
            exact ih'
  refine go ts [] none none _ h (by simp) (fun e o2 o3 l => ?_) (fun i e ρ l => ?_)
  · simp? []
    rw [fin_app rfl (fun i h => by cases h)]
    exact hq e
  · show finX S.length _ _ x
    rw [finX_appV (fun _ => rfl)]
    exact hx i e
theorem check_pipes_nil : G_check_pipes A [.tup []] S q x = x (.exc (A.c "InvalidPipes") [("index", .non)]) S := by
  rw [D_check_pipes]
  unfold fnD startE
  simp only [List.map_cons, List.map_nil, List.length_cons, List.length_nil, Nat.reduceAdd, Nat.reduceSub, List.replicate, List.cons_append, List.nil_append, List.append_nil, Nat.zero_add]
  unfold B_check_pipes
  simp? [isi_tup, lenD_tup, List.length_nil, show decide (((0 : Nat) : Int) = 0) = true from rfl]
theorem check_meters_run (hA : NetsA A) {ts : List (D × Option FR)} (hr : rs.length ≤ 12) (h : ∀ p ∈ ts, MTh A p.1 p.2) (hq : fB 0 [] (ts.map fun p => markM (rs.map (·.1)) p.2) = none → q .non S) (hx : ∀ i, fB 0 [] (ts.map fun p => markM (rs.map (·.1)) p.2) = some i → x (.exc (A.c "InvalidMeters") [("index", .int (i : Nat))]) S) : G_check_meters A [.tup (ts.map (·.1)), .tup (rs.map (pv A))] S q x := by
  have hs : small (rs.map (pv A)).length = true := small_of (by rw [List.length_map]; omega)
  rw [D_check_meters]
  unfold fnD startE
  simp only [List.map_cons, List.map_nil, List.length_cons, List.length_nil, Nat.reduceAdd, Nat.reduceSub, List.replicate, List.cons_append, List.nil_append, List.append_nil, Nat.zero_add]
  unfold B_check_meters
  refine seq_gen fun N_ hN_ => ?_
  simp? [isi_tup]
  subst hN_
  refine seq_gen fun N_ hN_ => ?_
  simp? [hs]
  refine lc_map (g := fun r : LR => D.str r.1) _ trivial (fun r hr => ⟨_, rfl, fun q x => ?_⟩) ?_
  · unfold C_check_meters_0
    simp? [ob_pv, pv_name]
  subst hN_
  refine seq_gen fun N_ hN_ => ?_
  simp? [D.cleanL]
  subst hN_
  simp? []
  have go : ∀ (rest : List (D × Option FR)) (done : List Str) (o2 o3 o6 : Option D) (kt : Kt), (∀ p ∈ rest, MTh A p.1 p.2) → done.length ≤ 12 → (fB done.length done (rest.map fun p => markM (rs.map (·.1)) p.2) = none → ∀ o2 o3 l, kt.nx [some (.tup (ts.map (·.1))), some (.tup (rs.map (pv A))), some (.lst (rs.map fun r => D.str r.1)), some (.cell S.length), o2, o3, o6] (S ++ [.lst l])) →
      (∀ i, fB done.length done (rest.map fun p => markM (rs.map (·.1)) p.2) = some i → ∀ ρ l, kt.ex (.exc (A.c "InvalidMeters") [("index", .int (i : Nat))]) ρ (S ++ [.lst l])) →
      forD any_ (tTupD 2 (tsCons (tName 4) (tsCons (tName 5) (tsNil)))) (L_check_meters_0 A)
        (enumL done.length (rest.map (·.1))) [some (.tup (ts.map (·.1))), some (.tup (rs.map (pv A))), some (.lst (rs.map fun r => D.str r.1)), some (.cell S.length), o2, o3, o6] (S ++ [.lst (done.map D.str)]) kt := fun rest => by
    induction rest with
    | nil =>
      intro done o2 o3 o6 kt _ _ hk _
      exact ⟨trivial, hk rfl _ _ _⟩
    | cons p rest ih =>
      intro done o2 o3 o6 kt hp hd hk hx
      have hp0 := hp p (List.mem_cons_self ..)
      obtain ⟨d, o⟩ := p
      simp only at hp0
      rw [List.map_cons, enumL, for_cons]
      unfold L_check_meters_0
      cases hp0 with
      | not hn =>
        simp? [hn]
        exact hx done.length rfl _ _
      | meter f =>
        have hm : markM (rs.map (·.1)) (some f) = if f.2.1 ∈ rs.map (·.1) then some f.1 else none := rfl
        simp only [List.map_cons, hm] at hk hx
        have hsm : small (done.map D.str).length = true := small_of (by simp; omega)
        have hat : inD true (S ++ [.lst (done.map D.str)]) (.str f.2.1) (.lst (rs.map fun r => D.str r.1)) = some (.bl (!decide (f.2.1 ∈ rs.map (·.1)))) := by
          rw [in_strs (ts := rs.map (·.1)) (by simp [itemsD])]
          simp
        have hin' : inD false (S ++ [.lst (done.map D.str)]) (.str f.1) (.cell S.length) = some (.bl (decide (f.1 ∈ done))) := by
          rw [in_strs (ts := done) (by simp [itemsD])]
          simp
        by_cases hpl : f.2.1 ∈ rs.map (·.1)
        · rw [if_pos hpl] at hk hx
          by_cases hin : f.1 ∈ done
          · simp? [isi_mm hA, ob_mv, mv_name, hin', decide_eq_true hin]
            refine hx done.length ?_ _ _
            unfold fB
            rw [if_pos (.inl hin)]
          · by_cases h12 : 12 ≤ done.length
            · have hge : decide ((12 : Int) ≤ ((done.length : Nat) : Int)) = true := decide_eq_true (by omega)
              simp? [isi_mm hA, ob_mv, mv_name, mv_at, hin', decide_eq_false hin, hat, decide_eq_true hpl, hge]
              refine hx done.length ?_ _ _
              unfold fB
              rw [if_pos (.inr h12)]
            · have hge : decide ((12 : Int) ≤ ((done.length : Nat) : Int)) = false := decide_eq_false (by omega)
              have e : fB done.length done (some f.1 :: rest.map fun p => markM (rs.map (·.1)) p.2) = fB (done.length + 1) (done ++ [f.1]) (rest.map fun p => markM (rs.map (·.1)) p.2) := by
                conv => lhs; unfold fB
                rw [if_neg (fun z => z.elim hin h12)]
              rw [e] at hk hx
              have ih' := ih (done ++ [f.1]) (some (.int (done.length : Nat))) (some (mv A f)) o6 kt (fun p hp' => hp p (List.mem_cons_of_mem _ hp')) (by simp; omega) (by rw [List.length_append]; exact hk) (by rw [List.length_append]; exact hx)
              rw [List.map_append, List.length_append] at ih'
              simp? [isi_mm hA, ob_mv, mv_name, mv_at, hin', decide_eq_false hin, hat, decide_eq_true hpl, hge, app_at0, app_set0, D.clean, hsm]
              exact ih'
        · rw [if_neg hpl] at hk hx
          by_cases hin : f.1 ∈ done
          · simp? [isi_mm hA, ob_mv, mv_name, hin', decide_eq_true hin]
            exact hx done.length rfl _ _
          · simp? [isi_mm hA, ob_mv, mv_name, mv_at, hin', decide_eq_false hin, hat, decide_eq_false hpl]
            exact hx done.length rfl _ _
  refine go ts [] none none none _ h (by simp) (fun e o2 o3 l => ?_) (fun i e ρ l => ?_)
  · simp? []
    rw [fin_app rfl (fun i h => by cases h)]
    exact hq e
  · show finX S.length _ _ x
    rw [finX_appV (fun _ => rfl)]
    exact hx i e
/-- a net of any things -/
theorem net_run (hA : NetsA A) {ts : List (D × Option LR)} {us : List (D × Option FR)} (ht : ∀ p ∈ ts, PTh A p.1 p.2) (hu : ∀ p ∈ us, MTh A p.1 p.2) (h0 : ts ≠ [])
    (h1 : ∀ i, fB 0 [] (ts.map fun p => markP p.2) = some i → x (.exc (A.c "InvalidPipes") [("index", .int (i : Nat))]) S)
    (h2 : ∀ rs : List LR, ts.map (·.1) = rs.map (pv A) → ts.map (·.2) = rs.map some → (rs.map (·.1)).Nodup → rs.length ≤ 12 → ∀ i, fB 0 [] (us.map fun p => markM (rs.map (·.1)) p.2) = some i → x (.exc (A.c "InvalidMeters") [("index", .int (i : Nat))]) S)
    (h3 : ∀ (rs : List LR) (fs : List FR), ts.map (·.1) = rs.map (pv A) → ts.map (·.2) = rs.map some → us.map (·.1) = fs.map (mv A) → us.map (·.2) = fs.map some → (rs.map (·.1)).Nodup → 1 ≤ rs.length → rs.length ≤ 12 → (fs.map (·.1)).Nodup → fs.length ≤ 12 → (∀ f ∈ fs, f.2.1 ∈ rs.map (·.1)) → q (netV A rs fs) S) :
    makeD .still (A.c "Net") 3 (G_Net_init A) [.tup (ts.map (·.1)), .tup (us.map (·.1))] S q x := by
  refine ⟨rfl, ?_⟩
  rw [D_Net_init]
  unfold fnD startE
  simp only [List.map_cons, List.map_nil, List.length_cons, List.length_nil, Nat.reduceAdd, Nat.reduceSub, List.replicate, List.cons_append, List.nil_append, List.append_nil, Nat.zero_add]
  unfold B_Net_init
  refine seq_gen fun N_ hN_ => ?_
  simp? []
  refine check_pipes_run hA ht h0 (fun e => ?_) (fun i e => ?_)
  rotate_left
  · simp? []
    rw [finX_appV (fun _ => rfl)]
    exact h1 i e
  subst hN_
  obtain ⟨rs, e1, e2, e3, e4⟩ : ∃ rs : List LR, ts.map (·.1) = rs.map (pv A) ∧ ts.map (·.2) = rs.map some ∧ (rs.map (·.1)).Nodup ∧ rs.length ≤ 12 := by
    obtain ⟨ss, a1, a2, a3⟩ := fB_none (by simp) (by decide) e
    have key : ∀ (ts : List (D × Option LR)) (ss : List Str), (∀ p ∈ ts, PTh A p.1 p.2) → ts.map (fun p => markP p.2) = ss.map some → ∃ rs : List LR, ts.map (·.1) = rs.map (pv A) ∧ ts.map (·.2) = rs.map some ∧ rs.map (·.1) = ss := fun ts => by
      induction ts with
      | nil =>
        intro ss _ h
        cases ss with
        | nil => exact ⟨[], rfl, rfl, rfl⟩
        | cons => cases h
      | cons p ts ih =>
        intro ss hp h
        cases ss with
        | nil => cases h
        | cons s ss =>
          simp only [List.map_cons, List.cons.injEq] at h
          obtain ⟨rs, b1, b2, b3⟩ := ih ss (fun p hp' => hp p (List.mem_cons_of_mem _ hp')) h.2
          have hp0 := hp p (List.mem_cons_self ..)
          obtain ⟨d, o⟩ := p
          cases hp0 with
          | not _ => cases h.1
          | pipe r =>
            refine ⟨r :: rs, by simp [b1]; rfl, by simp [b2], ?_⟩
            have : r.1 = s := by
              have := h.1
              simp only [markP, Option.map_some, Option.some.injEq] at this
              exact this
            simp [b3, this]
    obtain ⟨rs, b1, b2, b3⟩ := key ts ss ht a1
    refine ⟨rs, b1, b2, by rw [b3]; simpa using a2, ?_⟩
    have : rs.length = ss.length := by rw [← b3, List.length_map]
    omega
  refine seq_gen fun N_ hN_ => ?_
  simp? []
  rw [e1]
  refine check_meters_run hA e4 hu (fun e' => ?_) (fun i e' => ?_)
  rotate_left
  · simp? []
    rw [finX_appV (fun _ => rfl)]
    exact h2 rs e1 e2 e3 e4 i e'
  subst hN_
  obtain ⟨fs, f1, f2, f3, f4, f5⟩ : ∃ fs : List FR, us.map (·.1) = fs.map (mv A) ∧ us.map (·.2) = fs.map some ∧ (fs.map (·.1)).Nodup ∧ fs.length ≤ 12 ∧ ∀ f ∈ fs, f.2.1 ∈ rs.map (·.1) := by
    obtain ⟨ss, a1, a2, a3⟩ := fB_none (by simp) (by decide) e'
    have key : ∀ (ts : List (D × Option FR)) (ss : List Str), (∀ p ∈ ts, MTh A p.1 p.2) → ts.map (fun p => markM (rs.map (·.1)) p.2) = ss.map some → ∃ fs : List FR, ts.map (·.1) = fs.map (mv A) ∧ ts.map (·.2) = fs.map some ∧ fs.map (·.1) = ss ∧ ∀ f ∈ fs, f.2.1 ∈ rs.map (·.1) := fun ts => by
      induction ts with
      | nil =>
        intro ss _ h
        cases ss with
        | nil => exact ⟨[], rfl, rfl, rfl, by simp⟩
        | cons => cases h
      | cons p ts ih =>
        intro ss hp h
        cases ss with
        | nil => cases h
        | cons s ss =>
          simp only [List.map_cons, List.cons.injEq] at h
          obtain ⟨rs', b1, b2, b3, b4⟩ := ih ss (fun p hp' => hp p (List.mem_cons_of_mem _ hp')) h.2
          have hp0 := hp p (List.mem_cons_self ..)
          obtain ⟨d, o⟩ := p
          cases hp0 with
          | not _ => cases h.1
          | meter f =>
            have := h.1
            have hm : markM (rs.map (·.1)) (some f) = if f.2.1 ∈ rs.map (·.1) then some f.1 else none := rfl
            rw [hm] at this
            split at this
            · rename_i hf
              injection this with this
              exact ⟨f :: rs', by simp [b1]; rfl, by simp [b2], by simp [b3, this], fun g hg => by
                rcases List.mem_cons.mp hg with z | z
                · rw [z]; exact hf
                · exact b4 g z⟩
            · cases this
    obtain ⟨fs, b1, b2, b3, b4⟩ := key us ss hu a1
    refine ⟨fs, b1, b2, by rw [b3]; simpa using a2, ?_, b4⟩
    have : fs.length = ss.length := by rw [← b3, List.length_map]
    omega
  have hrl : 1 ≤ rs.length := by
    have := congrArg List.length e1
    rw [List.length_map, List.length_map] at this
    cases ts with
    | nil => exact absurd rfl h0
    | cons => simp only [List.length_cons] at this; omega
  rw [f1]
  refine seq_gen fun N_ hN_ => ?_
  simp? [app_at0, app_set0, clean_tupP, put_j, show (0 : Nat) < 1000 from by decide]
  subst hN_
  simp? [app_at0, app_set0, clean_tupM, put_f, fin_appS, take_app, show (1 : Nat) < 1000 from by decide]
  exact h3 rs fs e1 e2 f1 f2 e3 hrl e4 f3 f4 f5
theorem net_x00 {e : D} : makeD .still (A.c "Net") 3 (G_Net_init A) [.tup [], e] S q x = x (.exc (A.c "InvalidPipes") [("index", .non)]) S := by
  unfold makeD
  rw [D_Net_init]
  unfold fnD startE
  simp only [List.map_cons, List.map_nil, List.length_cons, List.length_nil, Nat.reduceAdd, Nat.reduceSub, List.replicate, List.cons_append, List.nil_append, List.append_nil, Nat.zero_add]
  unfold B_Net_init
  simp? [check_pipes_nil, finX_appV (v := .non) (fun _ => rfl)]
theorem net_ok (hA : NetsA A) (hL : LaidOk rs) (h : FitsOk rs fs) (hq : q (netV A rs fs) S) : makeD .still (A.c "Net") 3 (G_Net_init A) [.tup (rs.map (pv A)), .tup (fs.map (mv A))] S q x := by
  have e1 : rs.map (pv A) = (rs.map fun r => (pv A r, some r)).map (·.1) := by simp [Function.comp_def]
  have e2 : fs.map (mv A) = (fs.map fun r => (mv A r, some r)).map (·.1) := by simp [Function.comp_def]
  have pi : ∀ {rs rs' : List LR}, (rs.map fun r => (pv A r, some r)).map (·.2) = rs'.map some → rs' = rs := fun {rs rs'} h => by
    have h' : rs.map some = rs'.map some := by simpa [Function.comp_def] using h
    exact ((List.map_inj_right (fun _ _ z => Option.some.inj z)).mp h').symm
  have mi : ∀ {rs rs' : List FR}, (rs.map fun r => (mv A r, some r)).map (·.2) = rs'.map some → rs' = rs := fun {rs rs'} h => by
    have h' : rs.map some = rs'.map some := by simpa [Function.comp_def] using h
    exact ((List.map_inj_right (fun _ _ z => Option.some.inj z)).mp h').symm
  have m1 : (rs.map fun r => (pv A r, some r)).map (fun p => markP p.2) = (rs.map (·.1)).map some := by simp [Function.comp_def, markP]
  have m2 : (fs.map fun r => (mv A r, some r)).map (fun p => markM (rs.map (·.1)) p.2) = (fs.map (·.1)).map some := by
    simp only [List.map_map]
    refine List.map_congr_left fun f hf => ?_
    have := h.at_ f hf
    simp only [Function.comp, markM, Option.bind_some, this, if_true]
  have b1 := fB_ok (i := 0) (done := []) (ss := rs.map (·.1)) (by simpa using hL.nd) (by simpa using hL.hi)
  have b2 := fB_ok (i := 0) (done := []) (ss := fs.map (·.1)) (by simpa using h.nd) (by simpa using h.hi)
  rw [e1, e2]
  refine net_run hA (fun p hp => ?_) (fun p hp => ?_) (fun z => ?_) (fun i e => ?_) (fun rs' a b _ _ i e => ?_) (fun rs' fs' a1 a2 a3 a4 _ _ _ _ _ _ => ?_)
  · obtain ⟨r, _, rfl⟩ := List.mem_map.mp hp
    exact .pipe r
  · obtain ⟨r, _, rfl⟩ := List.mem_map.mp hp
    exact .meter r
  · have z1 := congrArg List.length z
    have z2 := hL.lo
    rw [List.length_map, List.length_nil] at z1
    omega
  · rw [m1, b1] at e
    cases e
  · rw [pi b, m2, b2] at e
    cases e
  · rw [pi a2, mi a4]
    exact hq
end
end RV
end
section
/-! The texts of nets. -/
namespace RV
open PySem L2
section
variable {A : Ad} {S : WS} {q : D → WS → Prop} {x : Xq} {rs : List LR} {fs : List FR} {r : LR} {f : FR} {a b : D}
/-! ### lines -/
def lineP (r : LR) : Str := Txt.join " " ["pipe", r.1, r.2.1, r.2.2]
def lineM (f : FR) : Str := Txt.join " " ([("meter" : Str), f.1, f.2.1] ++ if f.2.2 then [("sealed" : Str)] else [])
theorem lineP_eq : lineP r = "pipe " ++ r.1 ++ " " ++ r.2.1 ++ " " ++ r.2.2 := by
  unfold lineP
  rw [TL.join_eq]
  refine str_ext ?_
  show (("pipe" : Str) ++ (" " : Str) ++ (r.1 ++ (" " : Str) ++ (r.2.1 ++ (" " : Str) ++ r.2.2))).cps.toList = _
  simp only [cat_cps, show ("pipe " : Str).cps.toList = ("pipe" : Str).cps.toList ++ (" " : Str).cps.toList from rfl, List.append_assoc]
theorem lineM_eq : lineM f = "meter " ++ f.1 ++ " " ++ f.2.1 ++ (if f.2.2 then (" sealed" : Str) else "") := by
  unfold lineM
  rw [TL.join_eq]
  refine str_ext ?_
  cases f.2.2 with
  | true =>
    show (("meter" : Str) ++ (" " : Str) ++ (f.1 ++ (" " : Str) ++ (f.2.1 ++ (" " : Str) ++ ("sealed" : Str)))).cps.toList = _
    simp only [if_true, cat_cps, show ("meter " : Str).cps.toList = ("meter" : Str).cps.toList ++ (" " : Str).cps.toList from rfl, show (" sealed" : Str).cps.toList = (" " : Str).cps.toList ++ ("sealed" : Str).cps.toList from rfl, List.append_assoc]
  | false =>
    show (("meter" : Str) ++ (" " : Str) ++ (f.1 ++ (" " : Str) ++ f.2.1)).cps.toList = _
    simp only [Bool.false_eq_true, if_false, cat_cps, show ("meter " : Str).cps.toList = ("meter" : Str).cps.toList ++ (" " : Str).cps.toList from rfl, show ("" : Str).cps.toList = [] from rfl, List.append_assoc, List.append_nil]
theorem emp_app {s : Str} : Str.empty ++ s = s := str_ext (by rw [cat_cps]; rfl)
theorem app_emp {s : Str} : s ++ ("" : Str) = s := str_ext (by rw [cat_cps]; exact List.append_nil _)
theorem len_pipe : ("pipe " : Str).length = 5 := by decide +kernel
theorem len_meter : ("meter " : Str).length = 6 := by decide +kernel
theorem len_sp : (" " : Str).length = 1 := by decide +kernel
theorem len_sealed : (" sealed" : Str).length = 7 := by decide +kernel
theorem fmt_str {s : Str} (h : small s.length = true) : fmtD S (.str s) = some (.str s) := by simp only [fmtD, h, if_true]
theorem emp_len : Str.empty.length = 0 := rfl
theorem line_p (hA : NetsA A) (h : RowOk r) : G_line_of A [pv A r] S q x = q (.str (lineP r)) S := by
  have l1 := (nm_len h.n).2
  have l2 := (nm_len h.s).2
  have l3 := (nm_len h.e).2
  rw [D_line_of]
  unfold fnD startE
  simp only [List.map_cons, List.map_nil, List.length_cons, List.length_nil, Nat.reduceAdd, Nat.reduceSub, List.replicate, List.cons_append, List.nil_append, List.append_nil, Nat.zero_add]
  unfold B_line_of
  simp? [isi_pp hA, ob_pv, pv_name, pv_start, pv_end, fmt_str (nm_small h.n), fmt_str (nm_small h.s), fmt_str (nm_small h.e), emp_app, cat_len, len_pipe, len_sp, emp_len]
  rw [small_of (by omega), small_of (by omega), small_of (by omega), small_of (by omega), small_of (by omega), lineP_eq]
  simp only [true_and]
theorem line_m (hA : NetsA A) (h1 : Nm f.1) (h2 : Nm f.2.1) : G_line_of A [mv A f] S q x = q (.str (lineM f)) S := by
  have l1 := (nm_len h1).2
  have l2 := (nm_len h2).2
  rw [lineM_eq]
  rw [D_line_of]
  unfold fnD startE
  simp only [List.map_cons, List.map_nil, List.length_cons, List.length_nil, Nat.reduceAdd, Nat.reduceSub, List.replicate, List.cons_append, List.nil_append, List.append_nil, Nat.zero_add]
  unfold B_line_of
  simp? [isi_mp hA, ob_mv, mv_name, mv_at, mv_sealed, fmt_str (nm_small h1), fmt_str (nm_small h2), emp_app, cat_len, len_meter, len_sp, len_sealed, emp_len]
  cases f.2.2 with
  | true =>
    simp? []
    rw [small_of (by omega), small_of (by omega), small_of (by omega), small_of (by omega)]
    simp only [true_and]
  | false =>
    simp? [app_emp]
    rw [small_of (by omega), small_of (by omega), small_of (by omega)]
    simp only [true_and]
def netText (rs : List LR) (fs : List FR) : Str := Txt.join "\n" (rs.map lineP ++ fs.map lineM)
theorem lineP_len (h : RowOk r) : (lineP r).length ≤ 40 := by
  rw [lineP_eq]
  simp only [cat_len, len_pipe, len_sp]
  have l1 := (nm_len h.n).2
  have l2 := (nm_len h.s).2
  have l3 := (nm_len h.e).2
  omega
theorem lineM_len (h1 : Nm f.1) (h2 : Nm f.2.1) : (lineM f).length ≤ 40 := by
  rw [lineM_eq]
  have l1 := (nm_len h1).2
  have l2 := (nm_len h2).2
  cases f.2.2
  · simp only [cat_len, len_meter, len_sp, Bool.false_eq_true, if_false, show ("" : Str).length = 0 from rfl]
    omega
  · simp only [cat_len, len_meter, len_sp, if_true, len_sealed]
    omega
theorem sum_le {xs : List Str} (h : ∀ s ∈ xs, s.length ≤ 40) : (xs.map (·.length)).sum ≤ 40 * xs.length := by
  induction xs with
  | nil => simp
  | cons a xs ih =>
    have h1 := h a (List.mem_cons_self ..)
    have h2 := ih fun s hs => h s (List.mem_cons_of_mem _ hs)
    simp only [List.map_cons, List.sum_cons, List.length_cons]
    omega
theorem strsD_map {xs : List Str} : strsD (xs.map D.str) = some xs := by
  induction xs with
  | nil => rfl
  | cons a xs ih => simp [strsD, ih]
theorem join_strs {x : D} {sep : Str} {xs : List Str} (hi : itemsD S x = some (xs.map D.str)) (h : (xs.map (·.length)).sum + xs.length * sep.length ≤ 100000) : joinD S (.str sep) x = some (.str (Txt.join sep xs)) := by
  simp only [joinD, onStr, hi, Option.bind_some, strsD_map, h, if_true]
theorem lines_lenW (hL : LaidW rs) (hF : FitsW rs fs) : ∀ s ∈ rs.map lineP ++ fs.map lineM, s.length ≤ 40 := fun s hs => by
  rcases List.mem_append.mp hs with h | h
  · obtain ⟨r, hr, rfl⟩ := List.mem_map.mp h
    exact lineP_len (hL.rows r hr)
  · obtain ⟨f, hf, rfl⟩ := List.mem_map.mp h
    exact lineM_len (hF.n f hf) (hF.nmAt hL hf)
theorem lines_len (hL : LaidOk rs) (hF : FitsOk rs fs) : ∀ s ∈ rs.map lineP ++ fs.map lineM, s.length ≤ 40 := lines_lenW hL.w hF.w
theorem len_nl : ("\n" : Str).length = 1 := by decide +kernel
theorem lines_joinW (hL : LaidW rs) (hF : FitsW rs fs) {x : D} (hi : itemsD S x = some ((rs.map lineP ++ fs.map lineM).map D.str)) : joinD S (.str "\n") x = some (.str (netText rs fs)) := by
  refine join_strs hi ?_
  have h1 := sum_le (lines_lenW hL hF)
  have h2 := hL.hi
  have h3 := hF.hi
  rw [len_nl]
  simp only [List.length_append, List.length_map] at h1 ⊢
  omega
theorem lines_join (hL : LaidOk rs) (hF : FitsOk rs fs) {x : D} (hi : itemsD S x = some ((rs.map lineP ++ fs.map lineM).map D.str)) : joinD S (.str "\n") x = some (.str (netText rs fs)) := lines_joinW hL.w hF.w hi
theorem nf1 : List.lookup ("fitted" : Str) [(("joined" : Str), a), (("fitted" : Str), b)] = some b := by
  have h : (("fitted" : Str) == "joined") = false := by decide +kernel
  simp [List.lookup, h]
theorem nf0 : List.lookup ("joined" : Str) [(("joined" : Str), a), (("fitted" : Str), b)] = some a := by simp [List.lookup]
theorem fld_joined : fldD (A.c "Net") "joined" S (netV A rs fs) = some (.tup (rs.map (pv A))) := by simp only [fldD, netV, if_true, nf0]
theorem fld_fitted : fldD (A.c "Net") "fitted" S (netV A rs fs) = some (.tup (fs.map (mv A))) := by simp only [fldD, netV, if_true, nf1]
theorem net_pipes : G_Net_pipes A [netV A rs fs] S q x = q (.tup (rs.map (pv A))) S := by
  rw [D_Net_pipes]
  unfold fnD startE
  simp only [List.map_cons, List.map_nil, List.length_cons, List.length_nil, Nat.reduceAdd, Nat.reduceSub, List.replicate, List.cons_append, List.nil_append, List.append_nil, Nat.zero_add]
  unfold B_Net_pipes
  simp? [fld_joined]
theorem net_meters : G_Net_meters A [netV A rs fs] S q x = q (.tup (fs.map (mv A))) S := by
  rw [D_Net_meters]
  unfold fnD startE
  simp only [List.map_cons, List.map_nil, List.length_cons, List.length_nil, Nat.reduceAdd, Nat.reduceSub, List.replicate, List.cons_append, List.nil_append, List.append_nil, Nat.zero_add]
  unfold B_Net_meters
  simp? [fld_fitted]
theorem net_len : G_Net_len A [netV A rs fs] S q x = q (.int (rs.length : Nat)) S := by
  rw [D_Net_len]
  unfold fnD startE
  simp only [List.map_cons, List.map_nil, List.length_cons, List.length_nil, Nat.reduceAdd, Nat.reduceSub, List.replicate, List.cons_append, List.nil_append, List.append_nil, Nat.zero_add]
  unfold B_Net_len
  simp? [fld_joined, lenD_tup, List.length_map]
theorem net_str (hA : NetsA A) (hL : LaidOk rs) (hF : FitsOk rs fs) : G_Net_str A [netV A rs fs] S q x = q (.str (netText rs fs)) S := by
  have h1 : small (rs.map (pv A) ++ fs.map (mv A)).length = true := small_of (by
    have := hL.hi
    have := hF.hi
    simp only [List.length_append, List.length_map]
    omega)
  have e : rs.map (pv A) ++ fs.map (mv A) = (rs.map Sum.inl ++ fs.map Sum.inr).map (fun z : LR ⊕ FR => match z with | .inl r => pv A r | .inr f => mv A f) := by simp [Function.comp_def]
  have e2 : (rs.map Sum.inl ++ fs.map Sum.inr).map (fun z : LR ⊕ FR => match z with | .inl r => D.str (lineP r) | .inr f => D.str (lineM f)) = (rs.map lineP ++ fs.map lineM).map D.str := by simp [Function.comp_def]
  rw [D_Net_str]
  unfold fnD startE
  simp only [List.map_cons, List.map_nil, List.length_cons, List.length_nil, Nat.reduceAdd, Nat.reduceSub, List.replicate, List.cons_append, List.nil_append, List.append_nil, Nat.zero_add]
  unfold B_Net_str
  simp? [fld_joined, fld_fitted, itemsD, h1]
  rw [e, lc_mapEq (g := fun z : LR ⊕ FR => match z with | .inl r => D.str (lineP r) | .inr f => D.str (lineM f)) _ trivial, e2]
  · simp? [lines_join hL hF (x := .lst ((rs.map lineP ++ fs.map lineM).map D.str)) rfl]
  · rintro (r | f) hz
    · refine ⟨_, rfl, fun q x => ?_⟩
      have hr : r ∈ rs := by simpa using hz
      simp? [line_p hA (hL.rows r hr)]
    · refine ⟨_, rfl, fun q x => ?_⟩
      have hf : f ∈ fs := by simpa using hz
      simp? [line_m hA (hF.n f hf) (hF.nmAt hL hf)]
end
end RV
end
section
/-! Nets are read. -/
namespace RV
open PySem L2
section
variable {A : Ad} {S : WS} {q : D → WS → Prop} {x : Xq} {rs : List LR} {fs : List FR} {r : LR} {f : FR} {a b : D}
theorem nm_no {s : Str} {c : Nat} (h : Nm s) (hc : (isLt c || isDg c) = false) : c ∉ TL.tl s := fun z => by
  have := nm_all h c z
  rw [hc] at this
  cases this
theorem no32 : (isLt 32 || isDg 32) = false := by decide +kernel
theorem no10 : (isLt 10 || isDg 10) = false := by decide +kernel
theorem tl_pipe : 32 ∉ TL.tl ("pipe" : Str) := by decide +kernel
theorem tl_meter : 32 ∉ TL.tl ("meter" : Str) := by decide +kernel
theorem tl_sealed : 32 ∉ TL.tl ("sealed" : Str) := by decide +kernel
theorem sp_len : (" " : Str).length ≠ 0 := by decide +kernel
theorem nl_len : ("\n" : Str).length ≠ 0 := by decide +kernel
def wordsM (f : FR) : List Str := [("meter" : Str), f.1, f.2.1] ++ if f.2.2 then [("sealed" : Str)] else []
theorem split_p (h : RowOk r) : splitD S (.str (lineP r)) (.str " ") = some (.lst [.str "pipe", .str r.1, .str r.2.1, .str r.2.2]) := by
  have hs : small (lineP r).length = true := small_of (by have := lineP_len h; omega)
  have e : Txt.split (lineP r) " " = [("pipe" : Str), r.1, r.2.1, r.2.2] := by
    unfold lineP
    refine TL.split_join (s := 32) (S := []) rfl (by decide +kernel) (by simp) fun p hp => ?_
    simp only [List.mem_cons, List.not_mem_nil, or_false] at hp
    rcases hp with z | z | z | z <;> subst z
    · exact tl_pipe
    · exact nm_no h.n no32
    · exact nm_no h.s no32
    · exact nm_no h.e no32
  simp only [splitD, onStr, hs, sp_len, ne_eq, not_false_eq_true, and_self, if_true, e, List.map_cons, List.map_nil]
theorem split_m (h1 : Nm f.1) (h2 : Nm f.2.1) : splitD S (.str (lineM f)) (.str " ") = some (.lst ((wordsM f).map D.str)) := by
  have hs : small (lineM f).length = true := small_of (by have := lineM_len h1 h2; omega)
  have e : Txt.split (lineM f) " " = wordsM f := by
    unfold lineM wordsM
    refine TL.split_join (s := 32) (S := []) rfl (by decide +kernel) (by simp) fun p hp => ?_
    rcases List.mem_append.mp hp with hp | hp
    · simp only [List.mem_cons, List.not_mem_nil, or_false] at hp
      rcases hp with z | z | z <;> subst z
      · exact tl_meter
      · exact nm_no h1 no32
      · exact nm_no h2 no32
    · split at hp
      · simp only [List.mem_cons, List.not_mem_nil, or_false] at hp
        subst hp
        exact tl_sealed
      · cases hp
  simp only [splitD, onStr, hs, sp_len, ne_eq, not_false_eq_true, and_self, if_true, e]
theorem mp_ne : decide (("meter" : Str) = "pipe") = false := by decide +kernel
theorem pp_eq : decide (("pipe" : Str) = "pipe") = true := by decide +kernel
theorem mm_eq : decide (("meter" : Str) = "meter") = true := by decide +kernel
theorem l4_0 {a b c d : D} : ixD S (.lst [a, b, c, d]) (.int 0) = some a := rfl
theorem l4_1 {a b c d : D} : ixD S (.lst [a, b, c, d]) (.int 1) = some b := rfl
theorem l4_2 {a b c d : D} : ixD S (.lst [a, b, c, d]) (.int 2) = some c := rfl
theorem l4_3 {a b c d : D} : ixD S (.lst [a, b, c, d]) (.int 3) = some d := rfl
theorem l3_0 {a b c : D} : ixD S (.lst [a, b, c]) (.int 0) = some a := rfl
theorem l3_1 {a b c : D} : ixD S (.lst [a, b, c]) (.int 1) = some b := rfl
theorem l3_2 {a b c : D} : ixD S (.lst [a, b, c]) (.int 2) = some c := rfl
theorem len4 {a b c d : D} : lenD S [.lst [a, b, c, d]] = some (.int 4) := rfl
theorem len3 {a b c : D} : lenD S [.lst [a, b, c]] = some (.int 3) := rfl
theorem in34_4 : inD false S (.int 4) (.tup [.int 3, .int 4]) = some (.bl true) := rfl
theorem in34_3 : inD false S (.int 3) (.tup [.int 3, .int 4]) = some (.bl true) := rfl
theorem d44 : decide ((4 : Int) = 4) = true := rfl
theorem d34 : decide ((3 : Int) = 4) = false := rfl
theorem perm0 {α : Type} {us : List α} {w : α} : perm [0] us [w] = us ++ [w] := rfl
theorem item_p (h : RowOk r) : G_item_of A [.str (lineP r)] S q x = q (pv A r) S := by
  rw [D_item_of]
  unfold fnD startE
  simp only [List.map_cons, List.map_nil, List.length_cons, List.length_nil, Nat.reduceAdd, Nat.reduceSub, List.replicate, List.cons_append, List.nil_append, List.append_nil, Nat.zero_add]
  unfold B_item_of
  simp? [split_p h, len4, d44, l4_0, l4_1, l4_2, l4_3, pp_eq, pipe_init_ok h.n h.s h.e h.ne]
  rfl
theorem item_m (h1 : Nm f.1) (h2 : Nm f.2.1) : G_item_of A [.str (lineM f)] S q x = q (mv A f) S := by
  obtain ⟨a, b, c⟩ := f
  have sp := split_m (S := S) (f := (a, b, c)) h1 h2
  cases c with
  | true =>
    have e : (wordsM (a, b, true)).map D.str = [.str "meter", .str a, .str b, .str "sealed"] := rfl
    rw [e] at sp
    rw [D_item_of]
    unfold fnD startE
    simp only [List.map_cons, List.map_nil, List.length_cons, List.length_nil, Nat.reduceAdd, Nat.reduceSub, List.replicate, List.cons_append, List.nil_append, List.append_nil, Nat.zero_add]
    unfold B_item_of
    simp? [sp, len4, d44, l4_0, l4_1, l4_2, mp_ne, in34_4, mm_eq, perm0, meter_init_ok h1 h2]
    rfl
  | false =>
    have e : (wordsM (a, b, false)).map D.str = [.str "meter", .str a, .str b] := rfl
    rw [e] at sp
    rw [D_item_of]
    unfold fnD startE
    simp only [List.map_cons, List.map_nil, List.length_cons, List.length_nil, Nat.reduceAdd, Nat.reduceSub, List.replicate, List.cons_append, List.nil_append, List.append_nil, Nat.zero_add]
    unfold B_item_of
    simp? [sp, len3, d34, l3_0, l3_1, l3_2, mp_ne, in34_3, mm_eq, perm0, meter_init_ok h1 h2]
    rfl
end
end RV
end
section
/-! Nets by rows; their texts; read again. -/
namespace RV
open PySem L2
def rowD (r : LR) : D := .tup [.str r.1, .str r.2.1, .str r.2.2]
def fitD (f : FR) : D := .tup [.str f.1, .str f.2.1, .bl f.2.2]
section
variable {A : Ad} {S : WS} {q : D → WS → Prop} {x : Xq} {rs : List LR} {fs : List FR} {r : LR} {f : FR} {a b : D}
/-! ### a net of rows -/
def zs (rs : List LR) (fs : List FR) : List (LR ⊕ FR) := rs.map Sum.inl ++ fs.map Sum.inr
def zLine : LR ⊕ FR → Str
  | .inl r => lineP r
  | .inr f => lineM f
def zObj (A : Ad) : LR ⊕ FR → D
  | .inl r => pv A r
  | .inr f => mv A f
theorem zs_line : (zs rs fs).map zLine = rs.map lineP ++ fs.map lineM := by simp [zs, Function.comp_def, zLine]
theorem zs_p : ((zs rs fs).filter Sum.isLeft).map (zObj A) = rs.map (pv A) := by
  have h1 : (rs.map (Sum.inl (β := FR))).filter Sum.isLeft = rs.map Sum.inl := List.filter_eq_self.mpr fun z hz => by
    obtain ⟨r, _, rfl⟩ := List.mem_map.mp hz
    rfl
  have h2 : (fs.map (Sum.inr (α := LR))).filter Sum.isLeft = [] := List.filter_eq_nil_iff.mpr fun z hz => by
    obtain ⟨r, _, rfl⟩ := List.mem_map.mp hz
    simp
  simp [zs, List.filter_append, h1, h2, Function.comp_def, zObj]
theorem zs_m : ((zs rs fs).filter Sum.isRight).map (zObj A) = fs.map (mv A) := by
  have h1 : (rs.map (Sum.inl (β := FR))).filter Sum.isRight = [] := List.filter_eq_nil_iff.mpr fun z hz => by
    obtain ⟨r, _, rfl⟩ := List.mem_map.mp hz
    simp
  have h2 : (fs.map (Sum.inr (α := LR))).filter Sum.isRight = fs.map Sum.inr := List.filter_eq_self.mpr fun z hz => by
    obtain ⟨r, _, rfl⟩ := List.mem_map.mp hz
    rfl
  simp [zs, List.filter_append, h1, h2, Function.comp_def, zObj]
theorem zs_okW (hL : LaidW rs) (hF : FitsW rs fs) {z : LR ⊕ FR} (hz : z ∈ zs rs fs) : (∃ r, z = .inl r ∧ RowOk r) ∨ ∃ f, z = .inr f ∧ Nm f.1 ∧ Nm f.2.1 := by
  rcases List.mem_append.mp hz with h | h
  · obtain ⟨r, hr, rfl⟩ := List.mem_map.mp h
    exact .inl ⟨r, rfl, hL.rows r hr⟩
  · obtain ⟨f, hf, rfl⟩ := List.mem_map.mp h
    exact .inr ⟨f, rfl, hF.n f hf, hF.nmAt hL hf⟩
theorem zs_ok (hL : LaidOk rs) (hF : FitsOk rs fs) {z : LR ⊕ FR} (hz : z ∈ zs rs fs) : (∃ r, z = .inl r ∧ RowOk r) ∨ ∃ f, z = .inr f ∧ Nm f.1 ∧ Nm f.2.1 := zs_okW hL.w hF.w hz
theorem zs_len (hL : LaidOk rs) (hF : FitsOk rs fs) : (zs rs fs).length ≤ 24 := by
  have := hL.hi
  have := hF.hi
  simp only [zs, List.length_append, List.length_map]
  omega
theorem lit10 : 10 ∉ TL.tl ("pipe " : Str) ∧ 10 ∉ TL.tl (" " : Str) ∧ 10 ∉ TL.tl ("meter " : Str) ∧ 10 ∉ TL.tl (" sealed" : Str) ∧ 10 ∉ TL.tl ("" : Str) := by decide +kernel
theorem no_app {a b : Str} {c : Nat} (ha : c ∉ TL.tl a) (hb : c ∉ TL.tl b) : c ∉ TL.tl (a ++ b) := by
  rw [TL.tl_append]
  simp [ha, hb]
theorem line_nlW (hL : LaidW rs) (hF : FitsW rs fs) {z : LR ⊕ FR} (hz : z ∈ zs rs fs) : 10 ∉ TL.tl (zLine z) := by
  obtain ⟨l1, l2, l3, l4, l5⟩ := lit10
  rcases zs_okW hL hF hz with ⟨r, rfl, h⟩ | ⟨f, rfl, h1, h2⟩
  · show 10 ∉ TL.tl (lineP r)
    rw [lineP_eq]
    exact no_app (no_app (no_app (no_app (no_app l1 (nm_no h.n no10)) l2) (nm_no h.s no10)) l2) (nm_no h.e no10)
  · show 10 ∉ TL.tl (lineM f)
    rw [lineM_eq]
    refine no_app (no_app (no_app (no_app l3 (nm_no h1 no10)) l2) (nm_no h2 no10)) ?_
    cases f.2.2
    · exact l5
    · exact l4
theorem netText_eq : netText rs fs = Txt.join "\n" ((zs rs fs).map zLine) := by rw [zs_line]; rfl
theorem join_len {sep : Str} : ∀ {xs : List Str}, (Txt.join sep xs).length ≤ (xs.map (·.length)).sum + xs.length * sep.length := by
  intro xs
  rw [TL.join_eq]
  induction xs with
  | nil => exact Nat.zero_le _
  | cons a xs ih =>
    cases xs with
    | nil =>
      show a.length ≤ _
      simp
    | cons b xs =>
      show (a ++ sep ++ Str.join sep (b :: xs)).length ≤ _
      rw [cat_len, cat_len]
      simp only [List.map_cons, List.sum_cons, List.length_cons, Nat.succ_mul] at ih ⊢
      omega
theorem netText_lenW (hL : LaidW rs) (hF : FitsW rs fs) : (netText rs fs).length ≤ 1200 := by
  have h0 := join_len (sep := "\n") (xs := rs.map lineP ++ fs.map lineM)
  have h1 := sum_le (lines_lenW hL hF)
  have h2 := hL.hi
  have h3 := hF.hi
  rw [len_nl] at h0
  unfold netText
  simp only [List.length_append, List.length_map] at h0 h1
  omega
theorem netText_len (hL : LaidOk rs) (hF : FitsOk rs fs) : (netText rs fs).length ≤ 1000 := by
  have h0 := join_len (sep := "\n") (xs := rs.map lineP ++ fs.map lineM)
  have h1 := sum_le (lines_len hL hF)
  have h2 := hL.hi
  have h3 := hF.hi
  rw [len_nl] at h0
  unfold netText
  simp only [List.length_append, List.length_map] at h0 h1
  omega
theorem split_netW (hL : LaidW rs) (hF : FitsW rs fs) : splitD S (.str (netText rs fs)) (.str "\n") = some (.lst ((zs rs fs).map fun z => .str (zLine z))) := by
  have hs : small (netText rs fs).length = true := small_of (by have := netText_lenW hL hF; omega)
  have e : Txt.split (netText rs fs) "\n" = (zs rs fs).map zLine := by
    rw [netText_eq]
    refine TL.split_join (s := 10) (S := []) rfl (by decide +kernel) ?_ fun p hp => ?_
    · have := hL.lo
      intro h
      have := congrArg List.length h
      simp [zs] at this
      rw [this.1] at hL
      exact absurd hL.lo (by simp)
    · obtain ⟨z, hz, rfl⟩ := List.mem_map.mp hp
      exact line_nlW hL hF hz
  simp only [splitD, onStr, hs, nl_len, ne_eq, not_false_eq_true, and_self, if_true, e, List.map_map]
  rfl
theorem split_net (hL : LaidOk rs) (hF : FitsOk rs fs) : splitD S (.str (netText rs fs)) (.str "\n") = some (.lst ((zs rs fs).map fun z => .str (zLine z))) := split_netW hL.w hF.w
theorem tuple_lst {ds : List D} : tupleD S [.lst ds] = some (.tup ds) := rfl
theorem str_own (hA : NetsA A) (hL : LaidOk rs) (hF : FitsOk rs fs) : strOwnD (A.c "Net") (G_Net_str A) [netV A rs fs] S q x = q (.str (netText rs fs)) S := by
  unfold strOwnD
  simp? [ob_nv, net_str hA hL hF]
theorem len_own (hL : LaidOk rs) : lenOwnD (A.c "Net") (G_Net_len A) [netV A rs fs] S q x = q (.int (rs.length : Nat)) S := by
  unfold lenOwnD
  have := hL.hi
  simp? [ob_nv, net_len, show (0 ≤ ((rs.length : Nat) : Int) ∧ ((rs.length : Nat) : Int) < 2 ^ 62) = True from by simp; omega]
theorem read_ok (hA : NetsA A) (hL : LaidOk rs) (hF : FitsOk rs fs) (hq : q (netV A rs fs) S) : G_Net_read A [.adr (A.c "Net"), .str (netText rs fs)] S q x := by
  have h24 : small (zs rs fs).length = true := small_of (by have := zs_len hL hF; omega)
  rw [D_Net_read]
  unfold fnD startE
  simp only [List.map_cons, List.map_nil, List.length_cons, List.length_nil, Nat.reduceAdd, Nat.reduceSub, List.replicate, List.cons_append, List.nil_append, List.append_nil, Nat.zero_add]
  unfold B_Net_read
  refine seq_gen fun N_ hN_ => ?_
  simp? [isi_str]
  subst hN_
  refine seq_gen fun N_ hN_ => ?_
  simp? [split_net hL hF, List.length_map, h24]
  rw [lc_mapEq (g := zObj A) _ trivial (fun z hz => ?_)]
  rotate_left
  · refine ⟨_, rfl, fun q x => ?_⟩
    rcases zs_ok hL hF hz with ⟨r, rfl, h⟩ | ⟨f, rfl, h1, h2⟩
    · simp? [zLine, item_p h]
      rfl
    · simp? [zLine, item_m h1 h2]
      rfl
  simp? []
  subst hN_
  refine seq_gen fun N_ hN_ => ?_
  simp? [List.length_map, h24]
  rw [lc_eq (p := Sum.isLeft) (g := zObj A) _ _ trivial (fun z hz => ?_)]
  rotate_left
  · refine ⟨_, rfl, fun q x => ?_, fun hp q x => ?_⟩
    · rcases z with r | f
      · simp? [zObj, isi_pp hA, Sum.isLeft]
      · simp? [zObj, isi_mp hA, Sum.isLeft]
    · simp? []
  simp? [zs_p, tuple_lst]
  subst hN_
  refine seq_gen fun N_ hN_ => ?_
  simp? [List.length_map, h24]
  rw [lc_eq (p := Sum.isRight) (g := zObj A) _ _ trivial (fun z hz => ?_)]
  rotate_left
  · refine ⟨_, rfl, fun q x => ?_, fun hp q x => ?_⟩
    · rcases z with r | f
      · simp? [zObj, isi_pm hA, Sum.isRight]
      · simp? [zObj, isi_mm hA, Sum.isRight]
    · simp? []
  simp? [zs_m, tuple_lst]
  subst hN_
  refine seq_gen fun N_ hN_ => ?_
  simp? []
  refine net_ok hA hL hF ?_
  subst hN_
  simp? [str_own hA hL hF]
  exact hq
/-! ### the law's own -/
theorem lineP_cat : lineP r = "pipe " ++ Txt.join " " [r.1, r.2.1, r.2.2] := by
  unfold lineP
  rw [TL.join_eq, TL.join_eq]
  refine str_ext ?_
  show (("pipe" : Str) ++ (" " : Str) ++ (r.1 ++ (" " : Str) ++ (r.2.1 ++ (" " : Str) ++ r.2.2))).cps.toList = (("pipe " : Str) ++ (r.1 ++ (" " : Str) ++ (r.2.1 ++ (" " : Str) ++ r.2.2))).cps.toList
  simp only [cat_cps, show ("pipe " : Str).cps.toList = ("pipe" : Str).cps.toList ++ (" " : Str).cps.toList from rfl, List.append_assoc]
theorem fix0 : ixD S (fitD f) (.int 0) = some (.str f.1) := rfl
theorem fix1 : ixD S (fitD f) (.int 1) = some (.str f.2.1) := rfl
theorem fix2 : ixD S (fitD f) (.int 2) = some (.bl f.2.2) := rfl
theorem rix0 : ixD S (rowD r) (.int 0) = some (.str r.1) := rfl
theorem text_okW (hL : LaidW rs) (hF : FitsW rs fs) : G_net_text_k11 A [.lst (rs.map rowD), .lst (fs.map fitD)] S q x = q (.str (netText rs fs)) S := by
  have h1 : small rs.length = true := small_of (by have := hL.hi; omega)
  have h2 : small fs.length = true := small_of (by have := hF.hi; omega)
  have h3 : small (rs.length + fs.length) = true := small_of (by have := hL.hi; have := hF.hi; omega)
  have l1 : ∀ (q : List D → WS → Prop), lcD any_ (tName 3) bYes (eOp addD (eC (.str "pipe ")) (eOpT joinD (eC (.str " ")) (eVar 3))) [some (.lst (rs.map rowD)), some (.lst (fs.map fitD)), none, none] (rs.map rowD) [] S q = q (rs.map fun r => .str (lineP r)) S := fun q => by
    refine lc_mapEq _ trivial fun r hr => ⟨_, rfl, fun q x => ?_⟩
    have h := hL.rows r hr
    have a1 := (nm_len h.n).2
    have a2 := (nm_len h.s).2
    have a3 := (nm_len h.e).2
    have hj : joinD S (.str " ") (rowD r) = some (.str (Txt.join " " [r.1, r.2.1, r.2.2])) := by
      refine join_strs (xs := [r.1, r.2.1, r.2.2]) rfl ?_
      simp only [List.map_cons, List.map_nil, List.sum_cons, List.sum_nil, List.length_cons, List.length_nil, len_sp]
      omega
    have hs : small (("pipe " : Str).length + (Txt.join " " [r.1, r.2.1, r.2.2]).length) = true := by
      rw [← cat_len, ← lineP_cat]
      exact small_of (by have := lineP_len h; omega)
    simp? [hj, addD_str hs]
    rw [lineP_cat]
  have l2 : ∀ (o : D) (q : List D → WS → Prop), lcD any_ (tName 3) bYes (eOp addD (eOp addD (eOp addD (eOp addD (eC (.str "meter ")) (eOp ixD (eVar 3) (eC (.int 0)))) (eC (.str " "))) (eOp ixD (eVar 3) (eC (.int 1)))) (eIf (bTru truD (eOp ixD (eVar 3) (eC (.int 2)))) (eC (.str " sealed")) (eC (.str "")))) [some (.lst (rs.map rowD)), some (.lst (fs.map fitD)), some o, none] (fs.map fitD) [] S q = q (fs.map fun f => .str (lineM f)) S := fun o q => by
    refine lc_mapEq _ trivial fun f hf => ⟨_, rfl, fun q x => ?_⟩
    have a1 := (nm_len (hF.n f hf)).2
    have a2 := (nm_len (hF.nmAt hL hf)).2
    have s1 : small (("meter " : Str).length + f.1.length) = true := small_of (by rw [len_meter]; omega)
    have s2 : small ((("meter " : Str) ++ f.1).length + (" " : Str).length) = true := small_of (by rw [cat_len, len_meter, len_sp]; omega)
    have s3 : small ((("meter " : Str) ++ f.1 ++ " ").length + f.2.1.length) = true := small_of (by rw [cat_len, cat_len, len_meter, len_sp]; omega)
    have s4 : small ((("meter " : Str) ++ f.1 ++ " " ++ f.2.1).length + (" sealed" : Str).length) = true := small_of (by rw [cat_len, cat_len, cat_len, len_meter, len_sp, len_sealed]; omega)
    have s5 : small ((("meter " : Str) ++ f.1 ++ " " ++ f.2.1).length + ("" : Str).length) = true := small_of (by rw [cat_len, cat_len, cat_len, len_meter, len_sp, show ("" : Str).length = 0 from rfl]; omega)
    simp? [fix0, fix1, fix2, addD_str s1, addD_str s2, addD_str s3]
    rw [lineM_eq]
    cases f.2.2
    · simp? [addD_str s5]
    · simp? [addD_str s4]
  have e : rs.map (fun r => D.str (lineP r)) ++ fs.map (fun f => D.str (lineM f)) = (rs.map lineP ++ fs.map lineM).map D.str := by simp [Function.comp_def]
  have h4 : small ((rs.map fun r => D.str (lineP r)).length + (fs.map fun f => D.str (lineM f)).length) = true := by
    rw [List.length_map, List.length_map]
    exact h3
  rw [D_net_text_k11]
  unfold fnD startE
  simp only [List.map_cons, List.map_nil, List.length_cons, List.length_nil, Nat.reduceAdd, Nat.reduceSub, List.replicate, List.cons_append, List.nil_append, List.append_nil, Nat.zero_add]
  unfold B_net_text_k11
  simp? [List.length_map, h1, h2, l1, l2, addD_lst h4]
  rw [e]
  simp? [lines_joinW hL hF (x := .lst ((rs.map lineP ++ fs.map lineM).map D.str)) rfl]
theorem text_ok (hL : LaidOk rs) (hF : FitsOk rs fs) : G_net_text_k11 A [.lst (rs.map rowD), .lst (fs.map fitD)] S q x = q (.str (netText rs fs)) S := text_okW hL.w hF.w
end
end RV
end
section
/-! Nets by rows; their texts; equal nets. -/
namespace RV
open PySem L2
section
variable {A : Ad} {S : WS} {q : D → WS → Prop} {x : Xq} {rs : List LR} {fs fs' : List FR} {r : LR} {f : FR} {a b : D}
/-! ### equal nets -/
/-! ### the law's own look at a net -/
def rowPy (r : LR) : PyData := .tuple [.str r.1, .str r.2.1, .str r.2.2]
def fitPy (f : FR) : PyData := .tuple [.str f.1, .str f.2.1, .bool f.2.2]
theorem py_row {r : LR} : D.py (rowD r) = some (rowPy r) := rfl
theorem py_fit {f : FR} : D.py (fitD f) = some (fitPy f) := rfl
theorem sh_row (h : RowOk r) : ShOk 1 27 (rowPy r) := ShOk.tuple (k := 0) (w := 8) (xs := [.str r.1, .str r.2.1, .str r.2.2]) fun y hy => by
  simp only [List.mem_cons, List.not_mem_nil, or_false] at hy
  rcases hy with e | e | e <;> subst e
  · exact ShOk.nm h.n
  · exact ShOk.nm h.s
  · exact ShOk.nm h.e
theorem sh_fit (h1 : Nm f.1) (h2 : Nm f.2.1) : ShOk 1 27 (fitPy f) := ShOk.tuple (k := 0) (w := 8) (xs := [.str f.1, .str f.2.1, .bool f.2.2]) fun y hy => by
  simp only [List.mem_cons, List.not_mem_nil, or_false] at hy
  rcases hy with e | e | e <;> subst e
  · exact ShOk.nm h1
  · exact ShOk.nm h2
  · exact ShOk.bool
theorem repr_rows (hL : LaidOk rs) (hF : FitsOk rs fs) : reprD S [.lst [.lst (rs.map rowD), .lst (fs.map fitD)]] = some (.str (PyData.shown (.list [.list (rs.map rowPy), .list (fs.map fitPy)]))) := by
  refine repr_ok (k := 2 + 1) (w := (336 + 1) * 2) ?_ (ShOk.list (k := 2) (w := 336) (xs := [.list (rs.map rowPy), .list (fs.map fitPy)]) fun y hy => ?_) (by decide) (by decide)
  · simp only [D.py, D.pyL, pyL_map (fun r => py_row), pyL_map (fun r => py_fit), Option.map_some, Option.bind_some]
  · simp only [List.mem_cons, List.not_mem_nil, or_false] at hy
    rcases hy with e | e <;> subst e
    · refine (ShOk.list (k := 1) (w := 27) fun z hz => ?_).mono (Nat.le_refl _) ?_
      · obtain ⟨r, hr, rfl⟩ := List.mem_map.mp hz
        exact sh_row (hL.rows r hr)
      · have := hL.hi
        rw [List.length_map]
        omega
    · refine (ShOk.list (k := 1) (w := 27) fun z hz => ?_).mono (Nat.le_refl _) ?_
      · obtain ⟨f, hf, rfl⟩ := List.mem_map.mp hz
        exact sh_fit (hF.n f hf) (hF.nmAt hL hf)
      · have := hF.hi
        rw [List.length_map]
        omega
theorem eqD_self {s : Str} : eqD S (.str s) (.str s) = some (.bl true) := by rw [eqD_str, decide_eq_true rfl]
theorem eqI_self {s : Int} : eqD S (.int s) (.int s) = some (.bl true) := by rw [eqD_int, decide_eq_true rfl]
theorem lenD_lst {ds : List D} : lenD S [.lst ds] = some (.int (ds.length : Nat)) := rfl
theorem repr_rows2 (hL : LaidOk rs) (hF : FitsOk rs fs) : reprD2 S [.lst [.lst (rs.map rowD), .lst (fs.map fitD)]] = some (.str (PyData.shown (.list [.list (rs.map rowPy), .list (fs.map fitPy)]))) := by
  have h : reprD2 S [.lst [.lst (rs.map rowD), .lst (fs.map fitD)]] = reprD S [.lst [.lst (rs.map rowD), .lst (fs.map fitD)]] := rfl
  rw [h, repr_rows hL hF]

theorem is_ok (hA : NetsA A) (hL : LaidOk rs) (hF : FitsOk rs fs) (hq : q (.bl true) S) : G_is_k11 A [netV A rs fs, .lst (rs.map rowD), .lst (fs.map fitD)] S q x := by
  have h1 : small rs.length = true := small_of (by have := hL.hi; omega)
  have h2 : small fs.length = true := small_of (by have := hF.hi; omega)
  have h3 : ∀ {g : LR → D} {h : FR → D}, small ((rs.map g).length + (fs.map h).length) = true := by
    intro g h
    rw [List.length_map, List.length_map]
    exact small_of (by have := hL.hi; have := hF.hi; omega)
  have l1 : ∀ (e : RV.Env) (hl : e.length = 7) (q : List D → WS → Prop), lcD any_ (tName 6) bYes (eCall (isiD (own A) (tab A)) (aCons (eVar 6) (aCons (eC (.adr (A.c "Pipe"))) aNil))) e (rs.map (pv A)) [] S q = q (rs.map fun _ => .bl true) S := fun e hl q => by
    refine lc_mapEq _ trivial fun r hr => ⟨_, rfl, fun q x => ?_⟩
    obtain ⟨e0, e1, e2, e3, e4, e5, e6, rfl⟩ : ∃ e0 e1 e2 e3 e4 e5 e6, e = [e0, e1, e2, e3, e4, e5, e6] := by
      match e, hl with
      | [e0, e1, e2, e3, e4, e5, e6], _ => exact ⟨_, _, _, _, _, _, _, rfl⟩
    simp? [isi_pp hA]
  have l2 : ∀ (e : RV.Env) (hl : e.length = 7) (q : List D → WS → Prop), lcD any_ (tName 6) bYes (eCall (isiD (own A) (tab A)) (aCons (eVar 6) (aCons (eC (.adr (A.c "Meter"))) aNil))) e (fs.map (mv A)) [] S q = q (fs.map fun _ => .bl true) S := fun e hl q => by
    refine lc_mapEq _ trivial fun r hr => ⟨_, rfl, fun q x => ?_⟩
    obtain ⟨e0, e1, e2, e3, e4, e5, e6, rfl⟩ : ∃ e0 e1 e2 e3 e4 e5 e6, e = [e0, e1, e2, e3, e4, e5, e6] := by
      match e, hl with
      | [e0, e1, e2, e3, e4, e5, e6], _ => exact ⟨_, _, _, _, _, _, _, rfl⟩
    simp? [isi_mm hA]
  have e3 : (rs.map fun _ => D.bl true) ++ (fs.map fun _ => D.bl true) = (zs rs fs).map fun _ => .bl ((fun _ => true) ()) := by simp [zs, Function.comp_def]
  have e4 : allD S [.lst ((rs.map fun _ => D.bl true) ++ (fs.map fun _ => D.bl true))] = some (.bl true) := by
    rw [e3, allD_map (p := fun _ => true)]
    simp
  rw [D_is_k11]
  unfold fnD startE
  simp only [List.map_cons, List.map_nil, List.length_cons, List.length_nil, Nat.reduceAdd, Nat.reduceSub, List.replicate, List.cons_append, List.nil_append, List.append_nil, Nat.zero_add]
  unfold B_is_k11
  refine seq_gen fun N_ hN_ => ?_
  simp? [isi_nn hA, ob_nv, net_pipes, net_meters, isi_tup]
  subst hN_
  refine seq_gen fun N_ hN_ => ?_
  simp? [ob_nv, net_pipes, net_meters, List.length_map, h1, h2]
  rw [l1 _ rfl]
  simp? [ob_nv, net_pipes, net_meters, List.length_map, h1, h2]
  rw [l2 _ rfl]
  simp? [addD_lst h3]
  subst hN_
  refine seq_gen fun N_ hN_ => ?_
  simp? [e4]
  subst hN_
  refine seq_gen fun N_ hN_ => ?_
  simp? [ob_nv, net_pipes, List.length_map, h1]
  rw [lc_mapEq (g := rowD) _ trivial (fun r hr => ?_)]
  rotate_left
  · refine ⟨_, rfl, fun q x => ?_⟩
    simp? [ob_pv, pv_name, pv_start, pv_end]
    rfl
  simp? []
  subst hN_
  refine seq_gen fun N_ hN_ => ?_
  simp? [ob_nv, net_meters, List.length_map, h2]
  rw [lc_mapEq (g := fitD) _ trivial (fun f hf => ?_)]
  rotate_left
  · refine ⟨_, rfl, fun q x => ?_⟩
    simp? [ob_mv, mv_name, mv_at, mv_sealed]
    rfl
  simp? []
  subst hN_
  simp? [repr_rows hL hF, repr_rows2 hL hF, eqD_self, str_own hA hL hF, text_ok hL hF, len_own hL, lenD_lst, List.length_map, eqI_self]
  exact hq
end
end RV
end
section
/-! Drawn nets. -/
namespace RV
open PySem L2
section
variable {A : Ad} {S T : WS} {k : Nat} {n m lo hi : Int} {w : W} {q : D → WS → Prop} {x : Xq} {rs : List LR} {fs : List FR}
structure PlacesOk (ts : List Str) : Prop where
  nm : ∀ t ∈ ts, Nm t
  nd : ts.Nodup
theorem PlacesOk.snoc {ts : List Str} {s : Str} (h : PlacesOk ts) (hs : Nm s) (hn : s ∉ ts) : PlacesOk (ts ++ [s]) := by
  refine ⟨fun t ht => ?_, ?_⟩
  · rcases List.mem_append.mp ht with z | z
    · exact h.nm t z
    · rw [List.mem_singleton.mp z]
      exact hs
  · rw [List.nodup_append]
    refine ⟨h.nd, by simp, fun a ha b hb e => ?_⟩
    rw [List.mem_singleton.mp hb] at e
    exact hn (e ▸ ha)
theorem nodup_ne {ts : List Str} (h : ts.Nodup) {i j : Nat} (hi : i < ts.length) (hj : j < ts.length) (hij : i ≠ j) : ts[i] ≠ ts[j] := by
  have p := List.pairwise_iff_getElem.mp h
  rcases Nat.lt_or_gt_of_ne hij with z | z
  · exact p i j hi hj z
  · exact fun e => p j i hj hi z e.symm
theorem atI_get {ts : List Str} {i : Int} (h0 : 0 ≤ i) (h1 : i < ts.length) : atI (ts.map D.str) i = some (.str (ts[i.toNat]'(by omega))) := by
  rw [atI_nat h0 (by simpa using h1), List.getElem?_map, List.getElem?_eq_getElem (by omega)]
  rfl
theorem ixC {j : Nat} {ts : List Str} {i : Int} (h : S[j]? = some (.lst (ts.map D.str))) (h0 : 0 ≤ i) (h1 : i < ts.length) : ixD S (.cell j) (.int i) = some (.str (ts[i.toNat]'(by omega))) := by rw [ixD_cell h, atI_get h0 h1]
theorem lenC {j : Nat} {ds : List D} (h : S[j]? = some (.lst ds)) : lenD S [.cell j] = some (.int (ds.length : Nat)) := by simp [lenD, itemsD, h]
structure RowsOk (rs : List LR) : Prop where
  rows : ∀ r ∈ rs, RowOk r
  nd : (rs.map (·.1)).Nodup
theorem RowsOk.snoc {r : LR} (h : RowsOk rs) (hr : RowOk r) (hn : r.1 ∉ rs.map (·.1)) : RowsOk (rs ++ [r]) := by
  refine ⟨fun t ht => ?_, ?_⟩
  · rcases List.mem_append.mp ht with z | z
    · exact h.rows t z
    · rw [List.mem_singleton.mp z]
      exact hr
  · rw [List.map_append, List.nodup_append]
    refine ⟨h.nd, by simp, fun a ha b hb e => ?_⟩
    simp only [List.map_cons, List.map_nil, List.mem_singleton] at hb
    rw [hb] at e
    exact hn (e ▸ ha)
abbrev lE (S T : WS) (k : Nat) (lo hi : Int) (o5 o6 o7 o8 : Option D) : RV.Env := [some (.cell k), some (.int lo), some (.int hi), some (.cell (S.length + T.length)), some (.cell (S.length + T.length + 1)), o5, o6, o7, o8, none]
theorem laid1 (hk : k < S.length) : ∀ (js : List Nat) (ts : List Str) (o : Option D) (n : Int) (w : W) (kt : Kt), Good n w → PlacesOk ts → ts.length + js.length < 36 → n + 13 * js.length < 10000000000000000 →
    (∀ ts' o w', ts'.length = ts.length + js.length → PlacesOk ts' → Good (n + 13 * js.length) w' → kt.nx (lE S T k lo hi o none none none) (st S k w' (T ++ [.lst (ts'.map D.str), .lst []]))) →
    forD any_ (tName 5) (sAppend (eVar 3) (eFn 2 (G_fresh_k02 A) [] (aCons (eVar 0) (aCons (eVar 3) (aNil))))) (js.map fun (i : Nat) => D.int (0 + (i : Int))) (lE S T k lo hi o none none none) (st S k w (T ++ [.lst (ts.map D.str), .lst []])) kt := fun js => by
  induction js with
  | nil =>
    intro ts o n w kt g hp hl hn hq
    exact ⟨trivial, hq ts o w rfl hp (g.mono (by simp))⟩
  | cons j js ih =>
    intro ts o n w kt g hp hl hn hq
    simp only [List.length_cons] at hl hn
    rw [List.map_cons, for_cons]
    simp? [st_at0]
    refine fresh_ok hk g (by omega) (fun w => .cell st_at0) hp.nm (by omega) fun s w2 hs hnot g2 => ?_
    have hsm : small (ts.map D.str).length = true := small_of (by rw [List.length_map]; omega)
    simp? [st_at0, st_set0, D.clean, hsm]
    have ih' := ih (ts ++ [s]) (some (.int (0 + (j : Int)))) (n + 13) w2 kt g2 (hp.snoc hs hnot) (by simp; omega) (by omega) fun ts' o w' e hp' g' => hq ts' o w' (by rw [e]; simp; omega) hp' (g'.mono (by simp; omega))
    rw [List.map_append] at ih'
    exact ih'
theorem laid2 (hk : k < S.length) {ts : List Str} (hp : PlacesOk ts) (h2 : 2 ≤ ts.length) (h36 : ts.length < 36) : ∀ (js : List Nat) (rs : List LR) (o5 o6 o7 o8 : Option D) (n : Int) (w : W) (kt : Kt), Good n w → RowsOk rs → rs.length + js.length < 36 → n + 15 * js.length < 10000000000000000 →
    (∀ rs' o5 o6 o7 o8 w', rs'.length = rs.length + js.length → RowsOk rs' → Good (n + 15 * js.length) w' → kt.nx (lE S T k lo hi o5 o6 o7 o8) (st S k w' (T ++ [.lst (ts.map D.str), .lst (rs'.map rowD)]))) →
    forD any_ (tName 5) (sSeq (sPar2 6 7 (aCons (eFn 2 (G_dip_k01 A) [] (aCons (eVar 0) (aCons (eCall lenD (aCons (eVar 3) (aNil))) (aNil)))) (aCons (eOp addD (eC (.int 1)) (eFn 2 (G_dip_k01 A) [] (aCons (eVar 0) (aCons (eOp subD (eCall lenD (aCons (eVar 3) (aNil))) (eC (.int 1))) (aNil))))) (aNil)))) (sSeq (sAsg 8 (eFn 2 (G_fresh_k02 A) [] (aCons (eVar 0) (aCons (eLc .still (iSeq (eVar 4)) (tName 9) (bYes) (eOp ixD (eVar 9) (eC (.int 0))) [9]) (aNil))))) (sAppend (eVar 4) (eSeq .tup (aCons (eVar 8) (aCons (eOp ixD (eVar 3) (eVar 6)) (aCons (eOp ixD (eVar 3) (eOp modD (eCall intOfD (aCons (eOp addD (eVar 6) (eVar 7)) (aNil))) (eCall lenD (aCons (eVar 3) (aNil))))) (aNil))))))))
      (js.map fun (i : Nat) => D.int (0 + (i : Int))) (lE S T k lo hi o5 o6 o7 o8) (st S k w (T ++ [.lst (ts.map D.str), .lst (rs.map rowD)])) kt := fun js => by
  have ln : ∀ w (c : Cell), lenD (st S k w (T ++ [.lst (ts.map D.str), c])) [.cell (S.length + T.length)] = some (.int (ts.length : Nat)) := fun w c => by rw [lenC st_at0, List.length_map]
  induction js with
  | nil =>
    intro rs o5 o6 o7 o8 n w kt g hr hl hn hq
    exact ⟨trivial, hq rs o5 o6 o7 o8 w rfl hr (g.mono (by simp))⟩
  | cons j js ih =>
    intro rs o5 o6 o7 o8 n w kt g hr hl hn hq
    simp only [List.length_cons] at hl hn
    refine for_name trivial (seq_gen fun N_ hN_ => ?_)
    simp? [ln]
    refine dip_ok hk g (by omega) (by omega) (by omega) fun d w1 d0 d1 g1 => ?_
    simp? [ln]
    refine dip_ok hk g1 (by omega) (by omega) (by omega) fun e w2 e0 e1 g2 => ?_
    simp? []
    subst hN_
    refine seq_gen fun N_ hN_ => ?_
    have hsm : small (rs.map rowD).length = true := small_of (by rw [List.length_map]; omega)
    simp? [st_at1, hsm]
    rw [lc_mapEq (g := fun r : LR => D.str r.1) _ st_at1 (fun r hr => ?_)]
    rotate_left
    · refine ⟨_, rfl, fun q x => ?_⟩
      simp? [rix0]
    simp? []
    have em : (rs.map fun r => D.str r.1) = (rs.map (·.1)).map D.str := by simp [Function.comp_def]
    rw [em]
    refine fresh_ok hk g2 (by omega) (fun w => .lst) (fun t ht => ?_) (by rw [List.length_map]; omega) fun s w3 hs hnot g3 => ?_
    · obtain ⟨r, hr', rfl⟩ := List.mem_map.mp ht
      exact (hr.rows r hr').n
    simp? []
    subst hN_
    have hm0 : 0 ≤ (d + (1 + e)) % (ts.length : Int) := Int.emod_nonneg _ (by omega)
    have hm1 : (d + (1 + e)) % (ts.length : Int) < (ts.length : Int) := Int.emod_lt_of_pos _ (by omega)
    have hne : ((d + (1 + e)) % (ts.length : Int)).toNat ≠ d.toNat := by
      intro h
      have h3 : (d + (1 + e)) % (ts.length : Int) = d := by omega
      have h4 : (d + (1 + e)) % (ts.length : Int) = (if d + (1 + e) < ts.length then d + (1 + e) else d + (1 + e) - ts.length) := by
        split
        · exact Int.emod_eq_of_lt (by omega) (by omega)
        · rw [← Int.sub_emod_right]
          exact Int.emod_eq_of_lt (by omega) (by omega)
      rw [h4] at h3
      split at h3 <;> omega
    simp? [st_at1, ixC st_at0 d0 d1, ln, modD_int (show (0 : Int) < ((ts.length : Nat) : Int) by omega), ixC st_at0 hm0 hm1, st_set1, D.clean, D.cleanL, Bool.and_self, hsm]
    have ih' := ih (rs ++ [(s, ts[d.toNat]'(by omega), ts[((d + (1 + e)) % (ts.length : Int)).toNat]'(by omega))]) (some (.int (0 + (j : Int)))) (some (.int d)) (some (.int (1 + e))) (some (.str s)) (n + 15) w3 kt (g3.mono (by omega))
      (hr.snoc ⟨hs, hp.nm _ (List.getElem_mem _), hp.nm _ (List.getElem_mem _), nodup_ne hp.nd _ _ hne⟩ hnot) (by simp; omega) (by omega) fun rs' o5 o6 o7 o8 w' e hp' g' => hq rs' o5 o6 o7 o8 w' (by rw [e]; simp; omega) hp' (g'.mono (by simp; omega))
    rw [List.map_append] at ih'
    exact ih'
theorem laid_okW (hk : k < S.length) (g : Good n w) (hn : n < 1000000000000000) (hlo : 1 ≤ lo) (hhi : lo ≤ hi) (h12 : hi ≤ 14) (h : ∀ rs w', RowsOk rs → Good (n + 300) w' → lo ≤ (rs.length : Int) → (rs.length : Int) ≤ hi → q (.lst (rs.map rowD)) (st S k w' T)) :
    G_laid_k11 A [.cell k, .int lo, .int hi] (st S k w T) q x := by
  rw [D_laid_k11]
  unfold fnD startE
  simp only [List.map_cons, List.map_nil, List.length_cons, List.length_nil, Nat.reduceAdd, Nat.reduceSub, List.replicate, List.cons_append, List.nil_append, List.append_nil, Nat.zero_add]
  unfold B_laid_k11
  refine seq_gen fun N_ hN_ => ?_
  simp? [D.cleanL, List.length_append]
  rw [← Nat.add_assoc]
  subst hN_
  refine seq_gen fun N_ hN_ => ?_
  simp? []
  refine dip_ok hk g (by omega) (by omega) (by omega) fun d w1 d0 d1 g1 => ?_
  simp? []
  refine ⟨⟨by omega, by omega⟩, ?_⟩
  refine laid1 hk _ [] _ (n + 1) _ _ g1 ⟨by simp, by simp⟩ (by simp; omega) (by simp; omega) fun ts o w2 e hp g2 => ?_
  rw [List.length_range] at e g2
  simp only [List.length_nil, Nat.zero_add] at e
  dsimp only
  subst hN_
  refine seq_gen fun N_ hN_ => ?_
  simp? []
  refine dip_ok hk g2 (by omega) (by omega) (by omega) fun d' w3 d0' d1' g3 => ?_
  simp? []
  refine ⟨⟨by omega, by omega⟩, ?_⟩
  refine laid2 hk hp (by omega) (by omega) _ [] _ _ _ _ _ _ _ g3 ⟨by simp, by simp⟩ (by simp; omega) (by simp; omega) fun rs o5 o6 o7 o8 w4 e' hr g4 => ?_
  rw [List.length_range] at e' g4
  simp only [List.length_nil, Nat.zero_add] at e'
  dsimp only
  subst hN_
  simp? []
  have hlen : ¬ (st S k w4 (T ++ [.lst (ts.map D.str), .lst (rs.map rowD)])).length = S.length + T.length := by
    rw [st_len]
    simp
  have ht : (st S k w4 (T ++ [.lst (ts.map D.str), .lst (rs.map rowD)])).take (S.length + T.length) = st S k w4 T := by
    unfold st
    rw [← List.append_assoc, List.take_append_of_le_length (by simp), List.take_of_length_le (by simp)]
  unfold fin
  rw [if_neg hlen]
  simp only [show ¬ (S.length + T.length + 1 < S.length + T.length) by omega, if_false, st_at1, onS_some, onLst_l, ht]
  exact h rs w4 hr (g4.mono (by omega)) (by omega) (by omega)
theorem laid_ok (hk : k < S.length) (g : Good n w) (hn : n < 1000000000000000) (hlo : 1 ≤ lo) (hhi : lo ≤ hi) (h12 : hi ≤ 12) (h : ∀ rs w', LaidOk rs → Good (n + 300) w' → (rs.length : Int) ≤ hi → q (.lst (rs.map rowD)) (st S k w' T)) :
    G_laid_k11 A [.cell k, .int lo, .int hi] (st S k w T) q x :=
  laid_okW hk g hn hlo hhi (by omega) fun rs w' hr g' h1 h2 => h rs w' ⟨hr.rows, hr.nd, by omega, by omega⟩ g' h2
end
end RV
end
section
/-! Drawn meters. -/
namespace RV
open PySem L2
section
variable {A : Ad} {S T : WS} {k : Nat} {n m lo hi : Int} {w : W} {q : D → WS → Prop} {x : Xq} {rs : List LR} {fs : List FR}
structure FitRows (rs : List LR) (fs : List FR) : Prop where
  n : ∀ f ∈ fs, Nm f.1
  at_ : ∀ f ∈ fs, f.2.1 ∈ rs.map (·.1)
  nd : (fs.map (·.1)).Nodup
theorem FitRows.snoc {f : FR} (h : FitRows rs fs) (h1 : Nm f.1) (h2 : f.2.1 ∈ rs.map (·.1)) (hn : f.1 ∉ fs.map (·.1)) : FitRows rs (fs ++ [f]) := by
  refine ⟨fun t ht => ?_, fun t ht => ?_, ?_⟩
  · rcases List.mem_append.mp ht with z | z
    · exact h.n t z
    · rw [List.mem_singleton.mp z]
      exact h1
  · rcases List.mem_append.mp ht with z | z
    · exact h.at_ t z
    · rw [List.mem_singleton.mp z]
      exact h2
  · rw [List.map_append, List.nodup_append]
    refine ⟨h.nd, by simp, fun a ha b hb e => ?_⟩
    simp only [List.map_cons, List.map_nil, List.mem_singleton] at hb
    rw [hb] at e
    exact hn (e ▸ ha)
theorem ix_rows {i : Int} (h0 : 0 ≤ i) (h1 : i < rs.length) : ixD S (.lst (rs.map rowD)) (.int i) = some (rowD (rs[i.toNat]'(by omega))) := by
  simp only [ixD]
  rw [atI_nat h0 (by simpa using h1), List.getElem?_map, List.getElem?_eq_getElem (by omega)]
  rfl
abbrev fE (S T : WS) (k : Nat) (rs : List LR) (m : Int) (o4 o5 o6 o7 o8 o9 : Option D) : RV.Env := [some (.cell k), some (.lst (rs.map rowD)), some (.int m), some (.cell (S.length + T.length)), o4, o5, o6, o7, o8, o9, none]
theorem fits1 (hk : k < S.length) (hL : LaidOk rs) : ∀ (js : List Nat) (fs : List FR) (o4 o5 o6 o7 o8 o9 : Option D) (n : Int) (w : W) (kt : Kt), Good n w → FitRows rs fs → fs.length + js.length < 36 → n + 16 * js.length < 10000000000000000 →
    (∀ fs' o4 o5 o6 o7 o8 o9 w', fs'.length = fs.length + js.length → FitRows rs fs' → Good (n + 16 * js.length) w' → kt.nx (fE S T k rs m o4 o5 o6 o7 o8 o9) (st S k w' (T ++ [.lst (fs'.map fitD)]))) →
    forD any_ (tName 4) (sSeq (sPar3 5 6 7 (aCons (eFn 2 (G_dip_k01 A) [] (aCons (eVar 0) (aCons (eCall lenD (aCons (eVar 1) (aNil))) (aNil)))) (aCons (eOp eqD (eFn 2 (G_dip_k01 A) [] (aCons (eVar 0) (aCons (eC (.int 4)) (aNil)))) (eC (.int 0))) (aCons (eOp eqD (eFn 2 (G_dip_k01 A) [] (aCons (eVar 0) (aCons (eC (.int 5)) (aNil)))) (eC (.int 0))) (aNil))))) (sSeq (sAsg 8 (eLc .still (iSeq (eVar 3)) (tName 10) (bYes) (eOp ixD (eVar 10) (eC (.int 0))) [10])) (sSeq (sAsg 9 (eIf (bAnd (bTru truD (eVar 7)) (bBl (eOp (inD true) (eOp ixD (eOp ixD (eVar 1) (eVar 5)) (eC (.int 0))) (eVar 8)))) (eOp ixD (eOp ixD (eVar 1) (eVar 5)) (eC (.int 0))) (eFn 2 (G_fresh_k02 A) [] (aCons (eVar 0) (aCons (eVar 8) (aNil)))))) (sAppend (eVar 3) (eSeq .tup (aCons (eVar 9) (aCons (eOp ixD (eOp ixD (eVar 1) (eVar 5)) (eC (.int 0))) (aCons (eVar 6) (aNil)))))))))
      (js.map fun (i : Nat) => D.int (0 + (i : Int))) (fE S T k rs m o4 o5 o6 o7 o8 o9) (st S k w (T ++ [.lst (fs.map fitD)])) kt := fun js => by
  have hlo := hL.lo
  have hhi := hL.hi
  induction js with
  | nil =>
    intro fs o4 o5 o6 o7 o8 o9 n w kt g hr hl hn hq
    exact ⟨trivial, hq fs o4 o5 o6 o7 o8 o9 w rfl hr (g.mono (by simp))⟩
  | cons j js ih =>
    intro fs o4 o5 o6 o7 o8 o9 n w kt g hr hl hn hq
    simp only [List.length_cons] at hl hn
    refine for_name trivial (seq_gen fun N_ hN_ => ?_)
    simp? [lenD_lst, List.length_map]
    refine dip_ok hk g (by omega) (by omega) (by omega) fun d w1 d0 d1 g1 => ?_
    simp? []
    refine dip_ok hk g1 (by omega) (by omega) (by omega) fun e w2 e0 e1 g2 => ?_
    simp? []
    refine dip_ok hk g2 (by omega) (by omega) (by omega) fun c w3 c0 c1 g3 => ?_
    simp? []
    subst hN_
    refine seq_gen fun N_ hN_ => ?_
    have hsm : small (fs.map fitD).length = true := small_of (by rw [List.length_map]; omega)
    simp? [st_at0, hsm]
    rw [lc_mapEq (g := fun r : FR => D.str r.1) _ st_at0 (fun r hr => ?_)]
    rotate_left
    · refine ⟨_, rfl, fun q x => ?_⟩
      simp? [fix0]
    simp? []
    have em : (fs.map fun r => D.str r.1) = (fs.map (·.1)).map D.str := by simp [Function.comp_def]
    rw [em]
    subst hN_
    refine seq_gen fun N_ hN_ => ?_
    have hrow := List.getElem_mem (l := rs) (n := d.toNat) (h := by omega)
    have hix : ∀ S : WS, ixD S (.lst (rs.map rowD)) (.int d) = some (rowD (rs[d.toNat]'(by omega))) := fun S => ix_rows d0 d1
    generalize rs[d.toNat]'(by omega) = row at hrow hix
    have hno : ∀ S : WS, inD true S (.str row.1) (.lst ((fs.map (·.1)).map D.str)) = some (.bl (decide (row.1 ∉ fs.map (·.1)))) := fun S => notIn_strs
    have done : ∀ (t : Str) (o7 : Option D) (o8 : Option D) (w' : W), Nm t → t ∉ fs.map (·.1) → Good (n + 16) w' → N_ [some (.cell k), some (.lst (rs.map rowD)), some (.int m), some (.cell (S.length + T.length)), some (.int (0 + (j : Int))), some (.int d), some (.bl (decide (e = 0))), o7, o8, some (.str t), none] (st S k w' (T ++ [.lst (fs.map fitD)])) := fun t o7 o8 w' ht hnot g' => by
      subst hN_
      simp? [st_at0, hix, rix0, st_set0, D.clean, D.cleanL, Bool.and_self, hsm]
      have ih' := ih (fs ++ [(t, row.1, decide (e = 0))]) (some (.int (0 + (j : Int)))) (some (.int d)) (some (.bl (decide (e = 0)))) o7 o8 (some (.str t)) (n + 16) w' kt g'
        (hr.snoc ht (List.mem_map.mpr ⟨row, hrow, rfl⟩) hnot) (by simp; omega) (by omega) fun fs' o4 o5 o6 o7 o8 o9 w' e hp' g' => hq fs' o4 o5 o6 o7 o8 o9 w' (by rw [e]; simp; omega) hp' (g'.mono (by simp; omega))
      rw [List.map_append] at ih'
      exact ih'
    have fresh : ∀ (o7 : Option D) (x : Xq), G_fresh_k02 A [.cell k, .lst ((fs.map (·.1)).map D.str)] (st S k w3 (T ++ [.lst (fs.map fitD)])) (fun t S' => N_ [some (.cell k), some (.lst (rs.map rowD)), some (.int m), some (.cell (S.length + T.length)), some (.int (0 + (j : Int))), some (.int d), some (.bl (decide (e = 0))), o7, some (.lst ((fs.map (·.1)).map D.str)), some t, none] S') x := fun o7 x => by
      refine fresh_ok hk g3 (by omega) (fun w => .lst) (fun t ht => ?_) (by rw [List.length_map]; omega) fun s w3 hs hnot g3 => ?_
      · obtain ⟨r, hr', rfl⟩ := List.mem_map.mp ht
        exact hr.n r hr'
      · exact done s _ _ w3 hs hnot (g3.mono (by omega))
    simp? []
    refine iteB_dec (fun hc => ?_) (fun hc => ?_)
    · simp? [hix, rix0, hno]
      refine iteB_dec (fun hc => ?_) (fun hc => ?_)
      · exact done _ _ _ w3 (hL.rows row hrow).n hc (g3.mono (by omega))
      · exact fresh _ _
    · exact fresh _ _
theorem fits_ok (hk : k < S.length) (hL : LaidOk rs) (g : Good n w) (hn : n < 1000000000000000) (hm : 0 ≤ m) (h12 : m ≤ 12) (h : ∀ fs w', FitsOk rs fs → Good (n + 300) w' → (fs.length : Int) ≤ m → q (.lst (fs.map fitD)) (st S k w' T)) :
    G_fits_k11 A [.cell k, .lst (rs.map rowD), .int m] (st S k w T) q x := by
  rw [D_fits_k11]
  unfold fnD startE
  simp only [List.map_cons, List.map_nil, List.length_cons, List.length_nil, Nat.reduceAdd, Nat.reduceSub, List.replicate, List.cons_append, List.nil_append, List.append_nil, Nat.zero_add]
  unfold B_fits_k11
  refine seq_gen fun N_ hN_ => ?_
  simp? [D.cleanL, List.length_append]
  subst hN_
  refine seq_gen fun N_ hN_ => ?_
  simp? []
  refine dip_ok hk g (by omega) (by omega) (by omega) fun d w1 d0 d1 g1 => ?_
  simp? []
  refine ⟨⟨by omega, by omega⟩, ?_⟩
  refine fits1 hk hL _ [] _ _ _ _ _ _ (n + 1) _ _ g1 ⟨by simp, by simp, by simp⟩ (by simp; omega) (by simp; omega) fun fs o4 o5 o6 o7 o8 o9 w2 e hp g2 => ?_
  rw [List.length_range] at e g2
  simp only [List.length_nil, Nat.zero_add] at e
  dsimp only
  subst hN_
  simp? [fin_stL]
  exact h fs w2 ⟨hp.n, hp.at_, hp.nd, by omega⟩ (g2.mono (by omega)) (by omega)
end
end RV
end
section
/-! == of what is caught; comprehensions of checks that draw. -/
namespace RV
open PySem L2
section
variable {S T : WS} {k : Nat} {n m : Int} {w : W} {q : D → WS → Prop} {x : Xq}
theorem eqD_same {u v : D} {p : PyData} (h0 : eqScal u v = none) (hu : pyS S u = some p) (hv : pyS S v = some p) (h : PyData.canLay0 p = true) (hd : p.depth ≤ 64) : eqD S u v = some (.bl true) := by
  have hs : SeqAt.shaped p = true := by
    unfold SeqAt.shaped
    rw [h, decide_eq_true hd]
    rfl
  unfold eqD eqAny eqPyS
  simp only [h0, hu, hv, Option.bind_some, hs, and_self, if_true, SeqAt.eqv_refl p h, Option.orElse, Option.map_some]
theorem st_tab {i : Nat} {c : Cell} (h : S[i]? = some c) (hk : i ≠ k) : (st S k w T)[i]? = some c := by
  unfold st
  have hl : i < S.length := (List.getElem?_eq_some_iff.mp h).1
  rw [List.getElem?_append_left (by simpa using hl), List.getElem?_set_ne (fun z => hk z.symm)]
  exact h
/-- checks that draw, each of which comes out well -/
theorem lc_well {f : D → RV.Env → Option RV.Env} {me : RV.Env → M} {ρ : RV.Env} {c B : Int} {Q : List D → WS → Prop} (hc : 0 ≤ c) : ∀ (ds acc : List D) (n : Int) (w : W), Good n w → n + c * ds.length ≤ B →
    (∀ d ∈ ds, ∃ ρ1, f d ρ = some ρ1 ∧ ∀ (n : Int) (w : W) (q : D → WS → Prop), Good n w → n + c ≤ B → (∀ w', Good (n + c) w' → q (.bl true) (st S k w' T)) → me ρ1 (st S k w T) q noX) →
    (∀ w', Good (n + c * ds.length) w' → Q (acc ++ List.replicate ds.length (.bl true)) (st S k w' T)) → lcD any_ f bYes me ρ ds acc (st S k w T) Q
  | [], acc, n, w, g, hB, _, h => by
    have := h w (g.mono (by simp))
    simpa [lcD, any_] using this
  | d :: ds, acc, n, w, g, hB, hs, h => by
    have hm : c * ((d :: ds).length : Nat) = c * (ds.length : Nat) + c := by
      rw [List.length_cons, Int.natCast_add, Int.mul_add]
      simp
    have hp : 0 ≤ c * (ds.length : Nat) := Int.mul_nonneg hc (by omega)
    rw [hm] at hB h
    obtain ⟨ρ1, h1, h2⟩ := hs d (List.mem_cons_self ..)
    unfold lcD
    refine ⟨trivial, ?_⟩
    rw [h1]
    show me ρ1 _ _ noX
    refine h2 n w _ g (by omega) fun w' g' => ?_
    refine lc_well hc ds _ (n + c) w' g' (by omega) (fun e he => hs e (List.mem_cons_of_mem _ he)) fun w2 g2 => ?_
    have := h w2 (g2.mono (by omega))
    rw [List.append_assoc]
    rw [List.length_cons, List.replicate_succ] at this
    exact this
theorem st_new {S : WS} {w : W} : S ++ [w.d] = st (S ++ [w.d]) S.length w [] := by simp [st]
theorem st_old {S : WS} {w w' : W} : st (S ++ [w.d]) S.length w' [] = S ++ [w'.d] := by
  unfold st
  rw [List.set_append_right _ _ (Nat.le_refl _)]
  simp
theorem max_min {ns : List Int} {c : Nat} (hc : 2 ≤ c) : ∃ j : Nat, j ≤ c ∧ (if (if (c : Int) < (ns.length : Nat) then (c : Int) else (ns.length : Nat)) > 2 then (if (c : Int) < (ns.length : Nat) then (c : Int) else (ns.length : Nat)) else 2) = ((j : Nat) : Int) := by
  refine ⟨(if (if (c : Int) < (ns.length : Nat) then (c : Int) else (ns.length : Nat)) > 2 then (if (c : Int) < (ns.length : Nat) then (c : Int) else (ns.length : Nat)) else 2).toNat, ?_, ?_⟩ <;> split <;> split at * <;> omega
theorem min2_ {i j : Int} : min2D S [.int i, .int j] = some (.int (if j < i then j else i)) := rfl
theorem max2_ {i j : Int} : max2D S [.int i, .int j] = some (.int (if j > i then j else i)) := rfl
theorem len_scr {ns : List Int} : lenD S [.scr ns] = some (.int (ns.length : Nat)) := by simp [lenD, itemsD]
end
section
variable {A : Ad} {S : WS} {r : Str}
/-! ### what is caught, as data -/
structure Out (o : D) (p : PyData) : Prop where
  py : D.py o = some p
  cl : PyData.canLay0 p = true
  dp : p.depth ≤ 2
  cn : D.clean 0 o = true
theorem out_i {i : Int} (h : PyData.strOk r = true) : Out (.lst [.int i, .str r]) (.list [.int i, .str r]) := by
  refine ⟨rfl, ?_, by simp [PyData.depth, PyData.depthAll], rfl⟩
  simp [PyData.canLay0, PyData.canLayAll0, h]
theorem out_t (h : PyData.strOk r = true) : Out (.lst [.str "told", .str r]) (.list [.str "told", .str r]) := by
  refine ⟨rfl, ?_, by simp [PyData.depth, PyData.depthAll], rfl⟩
  have : PyData.strOk "told" = true := by decide +kernel
  simp [PyData.canLay0, PyData.canLayAll0, h, this]
end
end RV
end
section
/-! Nets seen; errors with an index said; marks. -/
namespace RV
open PySem L2
section
variable {A : Ad} {S T : WS} {v : D} {t : Value} {r : Str} {m : String} {l : List String} {i : Nat} {a d f : Addr} {q : D → WS → Prop} {x : Xq} {rs : List LR} {fs : List FR}
theorem low_linesW (hL : LaidW rs) (hF : FitsW rs fs) : low (netText rs fs) := by
  have lj : ∀ {sep : Str} {xs : List Str}, low sep → (∀ y ∈ xs, low y) → low (Txt.join sep xs) := fun {sep xs} h hx => by
    rw [TL.join_eq]
    induction xs with
    | nil => exact fun c hc => nomatch (show c ∈ ([] : List Nat) from hc)
    | cons a xs ih =>
      cases xs with
      | nil => exact hx a (by simp)
      | cons b xs =>
        have := ih fun y hy => hx y (List.mem_cons_of_mem _ hy)
        exact low_cat (low_cat (hx a (by simp)) h) this
  have l1 : low " " ∧ low "\n" ∧ low "pipe" ∧ low "meter" ∧ low "sealed" := by
    unfold low
    decide +kernel
  refine lj l1.2.1 fun y hy => ?_
  rcases List.mem_append.mp hy with h | h
  · obtain ⟨r, hr, rfl⟩ := List.mem_map.mp h
    have ho := hL.rows r hr
    refine lj l1.1 fun y hy => ?_
    simp only [List.mem_cons, List.not_mem_nil, or_false] at hy
    rcases hy with z | z | z | z <;> subst z
    · exact l1.2.2.1
    · exact low_nm ho.n
    · exact low_nm ho.s
    · exact low_nm ho.e
  · obtain ⟨f, hf, rfl⟩ := List.mem_map.mp h
    refine lj l1.1 fun y hy => ?_
    rcases List.mem_append.mp hy with hy | hy
    · simp only [List.mem_cons, List.not_mem_nil, or_false] at hy
      rcases hy with z | z | z <;> subst z
      · exact l1.2.2.2.1
      · exact low_nm (hF.n f hf)
      · exact low_nm (hF.nmAt hL hf)
    · split at hy
      · rw [List.mem_singleton.mp hy]
        exact l1.2.2.2.2
      · cases hy
theorem low_lines (hL : LaidOk rs) (hF : FitsOk rs fs) : low (netText rs fs) := low_linesW hL.w hF.w
theorem len_net4 : ("net " : Str).length = 4 := by decide +kernel
theorem seen_net (hA : NetsS A) (hL : LaidOk rs) (hF : FitsOk rs fs) : G_seen_k10 A [netV A rs fs] S q x = q (.str ("net " ++ netText rs fs)) S := by
  have i1 : isiD (own A) (tab A) S [netV A rs fs, .adr (A.c "Pipe")] = some (.bl false) := by simp only [netV, isi_own hA.n hA.p, decide_eq_false hA.pn.symm]
  have i2 : isiD (own A) (tab A) S [netV A rs fs, .adr (A.c "Meter")] = some (.bl false) := by simp only [netV, isi_own hA.n hA.m, decide_eq_false hA.mn.symm]
  have hl := netText_len hL hF
  have ha : addD S (.str "net ") (.str (netText rs fs)) = some (.str ("net " ++ netText rs fs)) := addS (by rw [len_net4]; omega)
  rw [D_seen_k10]
  unfold fnD startE
  simp only [List.map_cons, List.map_nil, List.length_cons, List.length_nil, Nat.reduceAdd, Nat.reduceSub, List.replicate, List.cons_append, List.nil_append, List.append_nil, Nat.zero_add]
  unfold B_seen_k10
  simp? [i1, i2, isi_nn hA.toNetsA, str_own hA.toNetsA hL hF, ha]
theorem low_net4 : low "net " := by
  unfold low
  decide +kernel
/-! ### marks as data -/
theorem cut_n {ds : List D} {i : Nat} : cutD ds none (some ((i : Nat) : Int)) = ds.take i := by
  unfold cutD
  rw [HT.sIx_none, HT.sIx_nat, List.drop_zero, Nat.sub_zero]
  by_cases h : i ≤ ds.length
  · rw [Nat.min_eq_left h]
  · rw [Nat.min_eq_right (by omega), List.take_length, List.take_of_length_le (by omega)]
end
end RV
end
section
/-! Texts split and joined again; lines judged. No program in sight. -/
namespace RV
open PySem L2
/-! ### split, then join -/
theorem pre_one {s c : Nat} {r : List Nat} : TL.pre [s] (c :: r) = decide (c = s) := by
  have e : TL.pre [s] (c :: r) = (c == s) := by simp [TL.pre]
  rw [e]
  by_cases h : c = s <;> simp [h]
theorem spl_ne {s : Nat} : ∀ (l acc : List Nat), TL.spl [s] 0 acc l ≠ []
  | [], acc => by rw [TL.spl_nil]; simp
  | c :: r, acc => by
    by_cases h : c = s
    · rw [TL.spl_hit (by rw [pre_one]; exact decide_eq_true h)]
      simp
    · rw [TL.spl_miss (by rw [pre_one]; exact decide_eq_false h)]
      exact spl_ne r _
theorem joinL_cons {S p : List Nat} : ∀ {ps : List (List Nat)}, ps ≠ [] → TL.joinL S (p :: ps) = p ++ S ++ TL.joinL S ps
  | [], h => absurd rfl h
  | q :: ps, _ => by simp [TL.joinL]
theorem join_spl {s : Nat} : ∀ (l acc : List Nat), TL.joinL [s] (TL.spl [s] 0 acc l) = acc ++ l
  | [], acc => by rw [TL.spl_nil]; simp [TL.joinL]
  | c :: r, acc => by
    by_cases h : c = s
    · rw [TL.spl_hit (by rw [pre_one]; exact decide_eq_true h)]
      have hne := spl_ne (s := s) r []
      have ih := join_spl (s := s) r []
      rw [show [s].length - 1 = 0 from rfl, joinL_cons hne, ih, h]
      simp
    · rw [TL.spl_miss (by rw [pre_one]; exact decide_eq_false h), join_spl r _]
      simp
theorem spl_mem {s : Nat} : ∀ (l acc : List Nat), s ∉ acc → ∀ p ∈ TL.spl [s] 0 acc l, s ∉ p ∧ p.length ≤ acc.length + l.length ∧ ∀ c ∈ p, c ∈ acc ∨ c ∈ l
  | [], acc, h => by
    rw [TL.spl_nil]
    intro p hp
    rw [List.mem_singleton.mp hp]
    exact ⟨h, by simp, fun c hc => .inl hc⟩
  | c :: r, acc, h => by
    by_cases e : c = s
    · rw [TL.spl_hit (by rw [pre_one]; exact decide_eq_true e)]
      intro p hp
      rcases List.mem_cons.mp hp with z | z
      · subst z
        exact ⟨h, by simp, fun c hc => .inl hc⟩
      · obtain ⟨h1, h2, h3⟩ := spl_mem r [] (by simp) p z
        refine ⟨h1, by simp at h2 ⊢; omega, fun d hd => ?_⟩
        rcases h3 d hd with w | w
        · cases w
        · exact .inr (List.mem_cons_of_mem _ w)
    · rw [TL.spl_miss (by rw [pre_one]; exact decide_eq_false e)]
      intro p hp
      obtain ⟨h1, h2, h3⟩ := spl_mem r (acc ++ [c]) (by
        rw [List.mem_append, not_or]
        exact ⟨h, by simpa using fun z => e z.symm⟩) p hp
      refine ⟨h1, by simp at h2 ⊢; omega, fun d hd => ?_⟩
      rcases h3 d hd with w | w
      · rcases List.mem_append.mp w with w | w
        · exact .inl w
        · rw [List.mem_singleton.mp w]; exact .inr (List.mem_cons_self ..)
      · exact .inr (List.mem_cons_of_mem _ w)
theorem spl_len {s : Nat} : ∀ (l acc : List Nat), (TL.spl [s] 0 acc l).length ≤ l.length + 1
  | [], acc => by rw [TL.spl_nil]; simp
  | c :: r, acc => by
    by_cases h : c = s
    · rw [TL.spl_hit (by rw [pre_one]; exact decide_eq_true h)]
      have := spl_len (s := s) r []
      simp only [List.length_cons] at this ⊢
      show (TL.spl [s] 0 [] r).length + 1 ≤ _
      omega
    · rw [TL.spl_miss (by rw [pre_one]; exact decide_eq_false h)]
      have := spl_len (s := s) r (acc ++ [c])
      simp only [List.length_cons]
      omega
/-- a sign between words or lines -/
def Sep (y : Str) (s : Nat) : Prop := TL.tl y = [s] ∧ y.cps.all (· < 256) = true
theorem sep_sp : Sep " " 32 := ⟨by decide +kernel, by decide +kernel⟩
theorem sep_nl : Sep "\n" 10 := ⟨by decide +kernel, by decide +kernel⟩
section
variable {x y a b : Str} {s : Nat}
theorem tl_split (h : Sep y s) : (Txt.split x y).map TL.tl = TL.spl [s] 0 [] (TL.tl x) := by
  have := TL.split_spl x y (by rw [h.1]; simp) (TL.kind_ok h.2)
  rw [h.1] at this
  exact this
theorem join_split (h : Sep y s) : Txt.join y (Txt.split x y) = x := by
  rw [TL.join_eq]
  refine TL.ext_tl ?_
  rw [TL.tl_join, tl_split h, h.1, join_spl]
  simp
theorem split_ne (h : Sep y s) : Txt.split x y ≠ [] := fun z => by
  have := tl_split (x := x) h
  rw [z] at this
  exact spl_ne _ _ this.symm
theorem split_mem (h : Sep y s) {p : Str} (hp : p ∈ Txt.split x y) : s ∉ TL.tl p ∧ p.length ≤ x.length ∧ ∀ c ∈ p.cps.toList, c ∈ x.cps.toList := by
  have hm : TL.tl p ∈ TL.spl [s] 0 [] (TL.tl x) := by
    rw [← tl_split h]
    exact List.mem_map.mpr ⟨p, hp, rfl⟩
  obtain ⟨h1, h2, h3⟩ := spl_mem _ _ (by simp) _ hm
  refine ⟨h1, by rw [TL.len_tl, TL.len_tl]; simpa using h2, fun c hc => ?_⟩
  rcases h3 c hc with z | z
  · cases z
  · exact z
theorem split_len (h : Sep y s) : (Txt.split x y).length ≤ x.length + 1 := by
  have e := congrArg List.length (tl_split (x := x) h)
  rw [List.length_map] at e
  rw [e, TL.len_tl]
  exact spl_len _ _
theorem low_split (h : Sep y s) (hx : low x) {p : Str} (hp : p ∈ Txt.split x y) : low p := fun c hc => hx c ((split_mem h hp).2.2 c hc)
end
/-! ### lines judged -/
abbrev NetR := List LR × List FR
def w_ (ws : List Str) (i : Nat) : Str := ws.getD i ""
/-- the words of a line behind pipes and meters -/
def stepF (ws : List Str) (z : NetR) : Option NetR :=
  if (ws.length = 3 ∨ ws.length = 4) ∧ (ws.drop 1).all nmB = true then
    if w_ ws 0 = "pipe" then
      if ws.length = 3 ∨ z.2 ≠ [] ∨ w_ ws 2 = w_ ws 3 ∨ w_ ws 1 ∈ z.1.map (·.1) then none else some (z.1 ++ [(w_ ws 1, w_ ws 2, w_ ws 3)], z.2)
    else if w_ ws 0 ≠ "meter" ∨ (ws.length = 4 ∧ w_ ws 3 ≠ "sealed") ∨ w_ ws 1 ∈ z.2.map (·.1) then none
    else if w_ ws 2 ∈ z.1.map (·.1) then some (z.1, z.2 ++ [(w_ ws 1, w_ ws 2, decide (ws.length = 4))]) else none
  else none
def linesF : List Str → NetR → Option NetR
  | [], z => some z
  | l :: ls, z => match stepF (Txt.split l " ") z with
    | some z' => linesF ls z'
    | none => none
/-- pipes and meters so far -/
structure Sofar (z : NetR) : Prop where
  rows : ∀ r ∈ z.1, RowOk r
  nd : (z.1.map (·.1)).Nodup
  n : ∀ f ∈ z.2, Nm f.1
  at_ : ∀ f ∈ z.2, f.2.1 ∈ z.1.map (·.1)
  fd : (z.2.map (·.1)).Nodup
def linesOf (z : NetR) : List Str := z.1.map lineP ++ z.2.map lineM
section
variable {ws : List Str} {z z' : NetR} {l : Str} {ls : List Str}
theorem nd_snoc {α : Type} {g : α → Str} {xs : List α} {a : α} (h : (xs.map g).Nodup) (ha : g a ∉ xs.map g) : ((xs ++ [a]).map g).Nodup := by
  rw [List.map_append, List.nodup_append]
  refine ⟨h, by simp, fun b hb c hc e => ?_⟩
  rw [List.map_cons, List.map_nil, List.mem_singleton] at hc
  subst hc
  exact ha (e ▸ hb)
theorem len34 (h : ws.length = 3 ∨ ws.length = 4) : ws = [w_ ws 0, w_ ws 1, w_ ws 2] ∨ ws = [w_ ws 0, w_ ws 1, w_ ws 2, w_ ws 3] := by
  match ws, h with
  | [a, b, c], _ => exact .inl rfl
  | [a, b, c, d], _ => exact .inr rfl
theorem step_sound (h : Sofar z) (e : stepF (Txt.split l " ") z = some z') : Sofar z' ∧ linesOf z' = linesOf z ++ [l] := by
  have hj := join_split (x := l) sep_sp
  generalize Txt.split l " " = ws at e hj
  unfold stepF at e
  split at e
  · rename_i hc
    obtain ⟨h34, hn⟩ := hc
    have hnm : ∀ i, 1 ≤ i → i < ws.length → Nm (w_ ws i) := fun i h1 h2 => by
      rw [List.all_eq_true] at hn
      refine hn _ ?_
      rw [List.mem_iff_getElem]
      refine ⟨i - 1, by simp; omega, ?_⟩
      unfold w_
      rw [List.getElem_drop, List.getD_eq_getElem?_getD, List.getElem?_eq_getElem h2]
      simp only [Option.getD_some]
      congr 1
      omega
    split at e
    · rename_i hp
      split at e
      · cases e
      · rename_i hc2
        cases e
        simp only [not_or, Decidable.not_not] at hc2
        obtain ⟨c1, c2, c3, c4⟩ := hc2
        have h4 : ws.length = 4 := by rcases h34 with q | q; exact absurd q c1; exact q
        have ew : ws = [w_ ws 0, w_ ws 1, w_ ws 2, w_ ws 3] := by
          rcases len34 h34 with q | q
          · rw [q] at h4; cases h4
          · exact q
        refine ⟨⟨fun r hr => ?_, nd_snoc h.nd c4, h.n, fun f hf => (by rw [c2] at hf; cases hf), h.fd⟩, ?_⟩
        · rcases List.mem_append.mp hr with q | q
          · exact h.rows r q
          · rw [List.mem_singleton.mp q]
            exact ⟨hnm 1 (by omega) (by omega), hnm 2 (by omega) (by omega), hnm 3 (by omega) (by omega), fun q => c3 q.symm⟩
        · unfold linesOf
          rw [c2, List.map_append]
          simp only [List.map_cons, List.map_nil, List.append_nil]
          rw [← hj, ew, hp]
          rfl
    · split at e
      · cases e
      · rename_i hp hc2
        simp only [not_or, Decidable.not_not, not_and] at hc2
        obtain ⟨c1, c2, c3⟩ := hc2
        split at e
        · rename_i c4
          cases e
          refine ⟨⟨h.rows, h.nd, fun f hf => ?_, fun f hf => ?_, nd_snoc h.fd c3⟩, ?_⟩
          · rcases List.mem_append.mp hf with q | q
            · exact h.n f q
            · rw [List.mem_singleton.mp q]
              exact hnm 1 (by omega) (by omega)
          · rcases List.mem_append.mp hf with q | q
            · exact h.at_ f q
            · rw [List.mem_singleton.mp q]
              exact c4
          · unfold linesOf
            rw [List.map_append, ← List.append_assoc]
            simp only [List.map_cons, List.map_nil]
            rw [← hj]
            rcases len34 h34 with q | q
            · have h3 : ws.length = 3 := by rw [q]; rfl
              rw [h3]
              conv => rhs; rw [q, c1]
              rfl
            · have h4 : ws.length = 4 := by rw [q]; rfl
              rw [h4]
              conv => rhs; rw [q, c1, c2 h4]
              rfl
        · cases e
  · cases e
theorem lines_sound : ∀ {ls : List Str} {z z' : NetR}, Sofar z → linesF ls z = some z' → Sofar z' ∧ linesOf z' = linesOf z ++ ls
  | [], z, z', h, e => by
    cases e
    exact ⟨h, by simp⟩
  | l :: ls, z, z', h, e => by
    unfold linesF at e
    cases h1 : stepF (Txt.split l " ") z with
    | none => rw [h1] at e; cases e
    | some z1 =>
      rw [h1] at e
      obtain ⟨s1, s2⟩ := step_sound h h1
      obtain ⟨s3, s4⟩ := lines_sound s1 e
      exact ⟨s3, by rw [s4, s2, List.append_assoc]; rfl⟩
theorem words_p {r : LR} (h : RowOk r) : Txt.split (lineP r) " " = [("pipe" : Str), r.1, r.2.1, r.2.2] := by
  unfold lineP
  refine TL.split_join (s := 32) (S := []) rfl (by decide +kernel) (by simp) fun p hp => ?_
  simp only [List.mem_cons, List.not_mem_nil, or_false] at hp
  rcases hp with z | z | z | z <;> subst z
  · exact tl_pipe
  · exact nm_no h.n no32
  · exact nm_no h.s no32
  · exact nm_no h.e no32
theorem words_m {f : FR} (h1 : Nm f.1) (h2 : Nm f.2.1) : Txt.split (lineM f) " " = wordsM f := by
  unfold lineM wordsM
  refine TL.split_join (s := 32) (S := []) rfl (by decide +kernel) (by simp) fun p hp => ?_
  rcases List.mem_append.mp hp with hp | hp
  · simp only [List.mem_cons, List.not_mem_nil, or_false] at hp
    rcases hp with z | z | z <;> subst z
    · exact tl_meter
    · exact nm_no h1 no32
    · exact nm_no h2 no32
  · split at hp
    · simp only [List.mem_cons, List.not_mem_nil, or_false] at hp
      subst hp
      exact tl_sealed
    · cases hp
theorem nm_seal : nmB "sealed" = true := by decide +kernel
theorem mp_ne2 : ¬ (("meter" : Str) = "pipe") := by decide +kernel
theorem step_p {r : LR} {rs : List LR} (h : RowOk r) (hn : r.1 ∉ rs.map (·.1)) : stepF (Txt.split (lineP r) " ") (rs, []) = some (rs ++ [r], []) := by
  have n1 : nmB r.1 = true := h.n
  have n2 : nmB r.2.1 = true := h.s
  have n3 : nmB r.2.2 = true := h.e
  have ne : ¬ r.2.1 = r.2.2 := fun z => h.ne z.symm
  rw [words_p h]
  unfold stepF
  rw [if_pos ⟨.inr rfl, by simp [n1, n2, n3]⟩, if_pos (show w_ [("pipe" : Str), r.1, r.2.1, r.2.2] 0 = "pipe" from rfl), if_neg]
  · rfl
  · rintro (q | q | q | q)
    · cases q
    · exact q rfl
    · exact ne q
    · exact hn q
theorem step_m {f : FR} {rs : List LR} {fs : List FR} (h1 : Nm f.1) (h2 : Nm f.2.1) (ha : f.2.1 ∈ rs.map (·.1)) (hn : f.1 ∉ fs.map (·.1)) : stepF (Txt.split (lineM f) " ") (rs, fs) = some (rs, fs ++ [f]) := by
  have n1 : nmB f.1 = true := h1
  have n2 : nmB f.2.1 = true := h2
  rw [words_m h1 h2]
  obtain ⟨a, b, c⟩ := f
  cases c with
  | true =>
    show stepF [("meter" : Str), a, b, "sealed"] (rs, fs) = _
    unfold stepF
    rw [if_pos ⟨.inr rfl, by simp [n1, n2, nm_seal]⟩, if_neg (show ¬ w_ [("meter" : Str), a, b, "sealed"] 0 = "pipe" from mp_ne2), if_neg, if_pos]
    · rfl
    · exact ha
    · rintro (q | q | q)
      · exact q rfl
      · exact q.2 rfl
      · exact hn q
  | false =>
    show stepF [("meter" : Str), a, b] (rs, fs) = _
    unfold stepF
    rw [if_pos ⟨.inl rfl, by simp [n1, n2]⟩, if_neg (show ¬ w_ [("meter" : Str), a, b] 0 = "pipe" from mp_ne2), if_neg, if_pos]
    · rfl
    · exact ha
    · rintro (q | q | q)
      · exact q rfl
      · exact absurd q.1 (by simp)
      · exact hn q
theorem lines_m {rs : List LR} : ∀ (us : List FR) (fs : List FR), (∀ f ∈ us, Nm f.1 ∧ Nm f.2.1 ∧ f.2.1 ∈ rs.map (·.1)) → ((fs ++ us).map (·.1)).Nodup → linesF (us.map lineM) (rs, fs) = some (rs, fs ++ us)
  | [], fs, _, _ => by simp [linesF]
  | f :: us, fs, h, nd => by
    obtain ⟨h1, h2, h3⟩ := h f (List.mem_cons_self ..)
    have hn : f.1 ∉ fs.map (·.1) := fun z => by
      rw [List.map_append, List.nodup_append] at nd
      exact nd.2.2 f.1 z f.1 (by simp) rfl
    rw [List.map_cons]
    unfold linesF
    rw [step_m h1 h2 h3 hn]
    have := lines_m us (fs ++ [f]) (fun g hg => h g (List.mem_cons_of_mem _ hg)) (by simpa using nd)
    simpa using this
theorem lines_p {fs : List FR} : ∀ (us : List LR) (rs : List LR), (∀ r ∈ us, RowOk r) → ((rs ++ us).map (·.1)).Nodup → linesF (us.map lineP ++ fs.map lineM) (rs, []) = linesF (fs.map lineM) (rs ++ us, [])
  | [], rs, _, _ => by simp
  | r :: us, rs, h, nd => by
    have hn : r.1 ∉ rs.map (·.1) := fun z => by
      rw [List.map_append, List.nodup_append] at nd
      exact nd.2.2 r.1 z r.1 (by simp) rfl
    rw [List.map_cons, List.cons_append]
    conv => lhs; unfold linesF
    rw [step_p (h r (List.mem_cons_self ..)) hn]
    have := lines_p (fs := fs) us (rs ++ [r]) (fun g hg => h g (List.mem_cons_of_mem _ hg)) (by simpa using nd)
    simpa using this
/-- a text of a net -/
def IsNet (s : Str) (rs : List LR) (fs : List FR) : Prop := LaidOk rs ∧ FitsOk rs fs ∧ s = netText rs fs
theorem net_split {rs : List LR} {fs : List FR} (hL : LaidOk rs) (hF : FitsOk rs fs) : Txt.split (netText rs fs) "\n" = rs.map lineP ++ fs.map lineM := by
  have h := split_net (S := []) hL hF
  unfold splitD onStr at h
  simp only at h
  split at h
  · have := Option.some.inj h
    have e := D.lst.inj this
    have e3 : ((zs rs fs).map fun z => D.str (zLine z)) = (rs.map lineP ++ fs.map lineM).map D.str := by rw [← zs_line, List.map_map]; rfl
    rw [e3] at e
    have inj : ∀ {a b : List Str}, a.map D.str = b.map D.str → a = b := fun {a} => by
      induction a with
      | nil => intro b e; cases b with | nil => rfl | cons => cases e
      | cons x a ih => intro b e; cases b with | nil => cases e | cons y b => simp only [List.map_cons, List.cons.injEq, D.str.injEq] at e; rw [e.1, ih e.2]
    exact inj e
  · cases h
theorem net_lines {rs : List LR} {fs : List FR} {s : Str} (h : IsNet s rs fs) : linesF (Txt.split s "\n") ([], []) = some (rs, fs) := by
  obtain ⟨hL, hF, rfl⟩ := h
  rw [net_split hL hF, lines_p rs [] hL.rows (by simpa using hL.nd), List.nil_append, lines_m fs [] (fun f hf => ⟨hF.n f hf, hF.nmAt hL hf, hF.at_ f hf⟩) (by simpa using hF.nd), List.nil_append]
theorem lines_net {s : Str} {z : NetR} (h : linesF (Txt.split s "\n") ([], []) = some z) (h1 : 0 < z.1.length) (h2 : z.1.length < 13) (h3 : z.2.length < 13) : IsNet s z.1 z.2 := by
  obtain ⟨s1, s2⟩ := lines_sound (z := ([], [])) ⟨by simp, by simp, by simp, by simp, by simp⟩ h
  refine ⟨⟨s1.rows, s1.nd, h1, by omega⟩, ⟨s1.n, s1.at_, s1.fd, by omega⟩, ?_⟩
  have hj := join_split (x := s) sep_nl
  rw [show linesOf ([], []) = [] from rfl, List.nil_append] at s2
  rw [← hj, ← s2]
  rfl
end
end RV
end
section
/-! The law's own reading of texts of nets. -/
namespace RV
open PySem L2
theorem sIf_by {b : Bool} {mc : RV.Env → MB} {m1 m2 : RV.Env → MS} {ρ : RV.Env} {S : WS} {kt : Kt} (h : ∀ (P : Bool → WS → Prop) (z : Xq), P b S → mc ρ S P z) (h2 : iteB b (m1 ρ S kt) (m2 ρ S kt)) : sIf mc m1 m2 ρ S kt := h _ _ h2
theorem for_nameE {N : WS → Prop} {i : Nat} {mb : RV.Env → MS} {ρ : RV.Env} {S : WS} {d : D} {ds : List D} {kt : Kt} (hN : N S) (h : ∀ F : RV.Env → WS → Prop, (F = fun ρ2 S2 => forD N (tName i) mb ds ρ2 S2 kt) → mb (ρ.set i (some d)) S ⟨F, kt.rt, kt.nx, F, kt.ex⟩) : forD N (tName i) mb (d :: ds) ρ S kt := ⟨hN, h _ rfl⟩
/-- what is handed back with two lists of its own -/
theorem finF_two {S : WS} {a b : List D} {q : D → WS → Prop} : finF S.length (.lst [.cell S.length, .cell (S.length + 1)]) (S ++ [.lst a, .lst b]) q = q (.lst [.lst a, .lst b]) S := by
  have hl : ¬ (S ++ [Cell.lst a, .lst b]).length = S.length := by simp
  have hf : frzD S.length (S ++ [.lst a, .lst b]) (.lst [.cell S.length, .cell (S.length + 1)]) = some (.lst [.lst a, .lst b]) := by
    unfold frzD
    simp only [frzL, frzD, Nat.lt_irrefl, if_false, app_at0, app_at1, show ¬ (S.length + 1 < S.length) from by omega, Option.map_some, Option.bind_some]
  unfold finF
  rw [if_neg hl, hf, onS_some]
  simp
theorem finF_non {S : WS} {a b : Cell} {q : D → WS → Prop} : finF S.length .non (S ++ [a, b]) q = q .non S := by
  have hl : ¬ (S ++ [a, b]).length = S.length := by simp
  unfold finF
  rw [if_neg hl, show frzD S.length (S ++ [a, b]) .non = some .non from rfl, onS_some]
  simp
section
variable {A : Ad} {S : WS} {q : D → WS → Prop} {x : Xq} {ws ls : List Str} {z z' : NetR} {s : Str}
theorem in34 {n : Nat} : inD true S (.int (n : Int)) (.lst [.int 3, .int 4]) = some (.bl (!decide (n = 3 ∨ n = 4))) := by
  have e : ((3 : Int) == (n : Int) || ((4 : Int) == (n : Int) || false)) = decide (n = 3 ∨ n = 4) := by
    rw [Bool.eq_iff_iff]
    simp only [Bool.or_eq_true, beq_iff_eq, Bool.or_false, decide_eq_true_eq]
    omega
  unfold inD
  simp only [itemsD, Option.bind_some, flatD, List.all_cons, List.all_nil, Bool.and_self, and_self, if_true, List.any_cons, List.any_nil, eqFl, e]
theorem len_strs : lenD S [.lst (ws.map D.str)] = some (.int (ws.length : Nat)) := by simp [lenD, itemsD]
theorem sl1 : slLD S (.lst (ws.map D.str)) (some 1) none = some (.lst ((ws.drop 1).map D.str)) := by
  have e : cutD (ws.map D.str) (some 1) none = (ws.drop 1).map D.str := by
    rw [List.map_drop]
    unfold cutD
    cases ws with
    | nil => simp
    | cons a ws => simp [HT.sIx, List.take_of_length_le]
  simp only [slLD, itemsD, Option.map_some, e]
theorem row_nm {r : LR} : ixD S (rowD r) (.int 0) = some (.str r.1) := rfl
theorem fit_nm {f : FR} : ixD S (fitD f) (.int 0) = some (.str f.1) := rfl
theorem in_rows {t : Str} {rs : List LR} : inD false S (.str t) (.lst (rs.map fun r => D.str r.1)) = some (.bl (decide (t ∈ rs.map (·.1)))) := by
  rw [in_strs (ts := rs.map (·.1)) (by simp [itemsD, Function.comp_def]), if_neg (by decide)]
theorem in_fits {t : Str} {fs : List FR} : inD false S (.str t) (.lst (fs.map fun r => D.str r.1)) = some (.bl (decide (t ∈ fs.map (·.1)))) := by
  rw [in_strs (ts := fs.map (·.1)) (by simp [itemsD, Function.comp_def]), if_neg (by decide)]
theorem ne_cellE {k : Nat} {ds : List D} (h : S[k]? = some (.lst ds)) : neD S (.cell k) (.lst []) = some (.bl (!ds.isEmpty)) := by
  have hl : eqLen S (.cell k) (.lst []) = if ds = [] then none else some false := by
    cases ds <;> simp [eqLen, lstOf, h]
  unfold neD eqAny
  rw [show eqScal (.cell k) (.lst []) = none from rfl, hl]
  unfold eqPyS
  have e2 : pyS S (.lst []) = some (.list []) := rfl
  have e1 : pyS S (.cell k) = (D.pyL ds).map PyData.list := by simp [pyS, h]
  rw [e1, e2]
  cases ds with
  | nil => rfl
  | cons d ds =>
    cases hp : D.pyL (d :: ds) with
    | none => rfl
    | some ps =>
      rw [Option.map_some, Option.bind_some, Option.bind_some]
      cases ps with
      | nil =>
        simp only [D.pyL] at hp
        simp [Option.bind_eq_some_iff] at hp
      | cons p ps =>
        split
        · rfl
        · rfl
theorem fin_two {S : WS} {a b c e : Cell} {d : D} {q : D → WS → Prop} : fin (S ++ [a, b]).length d (S ++ [c, e]) q = q d (S ++ [c, e]) := if_pos (by simp)
theorem takenG (hs : ∀ w ∈ ws, small w.length = true) (hl : ws.length ≤ 100000) (hl1 : z.1.length ≤ 10000) (hl2 : z.2.length ≤ 10000)
    (h0 : stepF ws z = none → ∀ a b, q (.bl false) (S ++ [.lst a, .lst b])) (h1 : ∀ z', stepF ws z = some z' → q (.bl true) (S ++ [.lst (z'.1.map rowD), .lst (z'.2.map fitD)])) :
    G_taken_k13 A [.lst (ws.map D.str), .cell S.length, .cell (S.length + 1)] (S ++ [.lst (z.1.map rowD), .lst (z.2.map fitD)]) q x := by
  obtain ⟨rs, fs⟩ := z
  dsimp only at hl1 hl2 h1 ⊢
  have sr : small (rs.map rowD).length = true := small_of (by rw [List.length_map]; omega)
  have sf : small (fs.map fitD).length = true := small_of (by rw [List.length_map]; omega)
  have lcr : ∀ (C : RV.Env → M) (e : RV.Env) (Q : List D → WS → Prop), (∀ r q x, C (e.set 4 (some (rowD r))) (S ++ [.lst (rs.map rowD), .lst (fs.map fitD)]) q x = q (.str r.1) (S ++ [.lst (rs.map rowD), .lst (fs.map fitD)])) →
      lcD (Holds S.length (rs.map rowD)) (tName 4) bYes C e (rs.map rowD) [] (S ++ [.lst (rs.map rowD), .lst (fs.map fitD)]) Q = Q (rs.map fun r => D.str r.1) (S ++ [.lst (rs.map rowD), .lst (fs.map fitD)]) := fun C e Q hC =>
    lc_mapEq (inj := rowD) (g := fun r : LR => D.str r.1) rs (by simp [Holds]) fun r hr => ⟨_, rfl, fun q x => hC r q x⟩
  have lcf : ∀ (C : RV.Env → M) (e : RV.Env) (Q : List D → WS → Prop), (∀ r q x, C (e.set 4 (some (fitD r))) (S ++ [.lst (rs.map rowD), .lst (fs.map fitD)]) q x = q (.str r.1) (S ++ [.lst (rs.map rowD), .lst (fs.map fitD)])) →
      lcD (Holds (S.length + 1) (fs.map fitD)) (tName 4) bYes C e (fs.map fitD) [] (S ++ [.lst (rs.map rowD), .lst (fs.map fitD)]) Q = Q (fs.map fun r => D.str r.1) (S ++ [.lst (rs.map rowD), .lst (fs.map fitD)]) := fun C e Q hC =>
    lc_mapEq (inj := fitD) (g := fun r : FR => D.str r.1) fs (by simp [Holds]) fun r hr => ⟨_, rfl, fun q x => hC r q x⟩
  have c1 : ∀ (e : RV.Env) r (S : WS) q x, e.length = 5 → C_taken_k13_1 A (e.set 4 (some (rowD r))) S q x = q (.str r.1) S := fun e r S q x he => by
    match e, he with
    | [_, _, _, _, _], _ =>
      unfold C_taken_k13_1
      simp? [row_nm]
  have c3 : ∀ (e : RV.Env) r (S : WS) q x, e.length = 5 → C_taken_k13_3 A (e.set 4 (some (rowD r))) S q x = q (.str r.1) S := fun e r S q x he => by
    match e, he with
    | [_, _, _, _, _], _ =>
      unfold C_taken_k13_3
      simp? [row_nm]
  have c2 : ∀ (e : RV.Env) r (S : WS) q x, e.length = 5 → C_taken_k13_2 A (e.set 4 (some (fitD r))) S q x = q (.str r.1) S := fun e r S q x he => by
    match e, he with
    | [_, _, _, _, _], _ =>
      unfold C_taken_k13_2
      simp? [fit_nm]
  rw [D_taken_k13]
  unfold fnD startE
  simp only [List.map_cons, List.map_nil, List.length_cons, List.length_nil, Nat.reduceAdd, Nat.reduceSub, List.replicate, List.cons_append, List.nil_append, List.append_nil, Nat.zero_add]
  unfold B_taken_k13
  refine seq_gen fun N_ hN_ => ?_
  refine sIf_by (b := !decide (ws.length = 3 ∨ ws.length = 4) || !(ws.drop 1).all nmB) (fun P y hp => ?_) ?_
  · cases hd : decide (ws.length = 3 ∨ ws.length = 4) with
    | false =>
      rw [hd] at hp
      simp? [len_strs, in34, hd]
      exact hp
    | true =>
      rw [hd] at hp
      simp? [len_strs, in34, hd, sl1, small_of (n := ((ws.drop 1).map D.str).length) (by simp; omega)]
      rw [lc_mapEq (inj := D.str) (g := fun w : Str => D.bl (nmB w)) (ws.drop 1) trivial (fun w hw => ⟨_, rfl, fun q x => by
        unfold C_taken_k13_0
        simp? [lawName_eq (A := A) (S := S ++ [.lst (rs.map rowD), .lst (fs.map fitD)]) (hs w (List.mem_of_mem_drop hw))]⟩)]
      simp? [allD_map]
      exact hp
  by_cases hc : (ws.length = 3 ∨ ws.length = 4) ∧ (ws.drop 1).all nmB = true
  · have hb : (!decide (ws.length = 3 ∨ ws.length = 4) || !(ws.drop 1).all nmB) = false := by
      rw [decide_eq_true hc.1, hc.2]
      rfl
    rw [hb, iteB_f]
    simp? []
    subst hN_
    have hst : ∀ r, (if w_ ws 0 = "pipe" then
      if ws.length = 3 ∨ fs ≠ [] ∨ w_ ws 2 = w_ ws 3 ∨ w_ ws 1 ∈ rs.map (·.1) then none else some (rs ++ [(w_ ws 1, w_ ws 2, w_ ws 3)], fs)
    else if w_ ws 0 ≠ "meter" ∨ (ws.length = 4 ∧ w_ ws 3 ≠ "sealed") ∨ w_ ws 1 ∈ fs.map (·.1) then none
    else if w_ ws 2 ∈ rs.map (·.1) then some (rs, fs ++ [(w_ ws 1, w_ ws 2, decide (ws.length = 4))]) else none) = r → stepF ws (rs, fs) = r := fun r e => by
      rw [← e]
      unfold stepF
      rw [if_pos hc]
    have e5 : ∀ (a b c d : D), ([a, b, c, d] : List D).map some = [some a, some b, some c, some d] := fun _ _ _ _ => rfl
    rcases len34 hc.1 with hw | hw
    · -- three words
      generalize w_ ws 0 = a at hw hst
      generalize w_ ws 1 = b at hw hst
      generalize w_ ws 2 = c at hw hst
      subst hw
      simp only [List.map_cons, List.map_nil]
      by_cases ha : a = "pipe"
      · have hn := hst none (by rw [if_pos ha, if_pos (.inl rfl)])
        refine seq_gen fun N_ hN_ => ?_
        simp? [l3_0, decide_eq_true ha, len3, show decide ((3 : Int) = 3) = true from rfl]
        exact h0 hn _ _
      · refine seq_gen fun N_ hN_ => ?_
        simp? [l3_0, decide_eq_false ha]
        subst hN_
        by_cases hm : a = "meter"
        · by_cases hf : b ∈ fs.map (·.1)
          · have hn := hst none (by rw [if_neg ha, if_pos (.inr (.inr hf))])
            refine seq_gen fun N_ hN_ => ?_
            simp? [l3_0, decide_eq_true hm, len3, d34, l3_1, app_at1, sf]
            rw [lcf _ _ _ fun r q x => c2 _ r _ q x rfl]
            simp? [in_fits, decide_eq_true hf]
            exact h0 hn _ _
          · refine seq_gen fun N_ hN_ => ?_
            simp? [l3_0, decide_eq_true hm, len3, d34, l3_1, app_at1, sf]
            rw [lcf _ _ _ fun r q x => c2 _ r _ q x rfl]
            simp? [in_fits, decide_eq_false hf]
            subst hN_
            have ef : fs.map fitD ++ [D.tup [.str b, .str c, .bl false]] = (fs ++ [(b, c, false)]).map fitD := by rw [List.map_append]; rfl
            refine seq_gen fun N_ hN_ => ?_
            simp? [l3_1, l3_2, len3, d34, app_at1, app_set1, show D.clean 0 (.tup [.str b, .str c, .bl false]) = true from rfl, sf]
            subst hN_
            rw [ef]
            simp? [l3_2, app_at0, sr]
            rw [lc_mapEq (inj := rowD) (g := fun r : LR => D.str r.1) rs (by simp [Holds]) fun r hr => ⟨_, rfl, fun q x => c3 _ r _ q x rfl⟩]
            simp? [in_rows]
            by_cases hr : c ∈ rs.map (·.1)
            · have hn := hst _ (by rw [if_neg ha, if_neg (by rintro (q | q | q); exact q hm; exact absurd q.1 (by simp); exact hf q), if_pos hr])
              rw [decide_eq_true hr, fin_two]
              exact h1 _ hn
            · have hn := hst none (by rw [if_neg ha, if_neg (by rintro (q | q | q); exact q hm; exact absurd q.1 (by simp); exact hf q), if_neg hr])
              rw [decide_eq_false hr, fin_two]
              exact h0 hn _ _
        · have hn := hst none (by rw [if_neg ha, if_pos (.inl hm)])
          refine seq_gen fun N_ hN_ => ?_
          simp? [l3_0, decide_eq_false hm]
          exact h0 hn _ _
    · -- four words
      generalize w_ ws 0 = a at hw hst
      generalize w_ ws 1 = b at hw hst
      generalize w_ ws 2 = c at hw hst
      generalize w_ ws 3 = d at hw hst
      subst hw
      simp only [List.map_cons, List.map_nil]
      by_cases ha : a = "pipe"
      · refine seq_gen fun N_ hN_ => ?_
        simp? [l4_0, decide_eq_true ha, len4, show decide ((4 : Int) = 3) = false from rfl, ne_cellE (S := S ++ [.lst (rs.map rowD), .lst (fs.map fitD)]) app_at1]
        cases hfs : fs with
        | cons f fs' =>
          have hn := hst none (by rw [if_pos ha, if_pos (.inr (.inl (by rw [hfs]; simp)))])
          simp? [List.map_cons, List.isEmpty_cons]
          exact h0 hn _ _
        | nil =>
          subst hfs
          simp? [List.map_nil, List.isEmpty_nil, l4_2, l4_3]
          by_cases hcd : c = d
          · have hn := hst none (by rw [if_pos ha, if_pos (.inr (.inr (.inl hcd)))])
            simp? [decide_eq_true hcd]
            exact h0 hn _ _
          · simp? [decide_eq_false hcd, l4_1, app_at0, sr]
            rw [lc_mapEq (inj := rowD) (g := fun r : LR => D.str r.1) rs (by simp [Holds]) fun r hr => ⟨_, rfl, fun q x => c1 _ r _ q x rfl⟩]
            simp? [in_rows]
            by_cases hr : b ∈ rs.map (·.1)
            · have hn := hst none (by rw [if_pos ha, if_pos (.inr (.inr (.inr hr)))])
              rw [decide_eq_true hr]
              simp? []
              exact h0 hn _ _
            · have hn := hst _ (by rw [if_pos ha, if_neg (by rintro (q | q | q | q); cases q; exact q rfl; exact hcd q; exact hr q)])
              rw [decide_eq_false hr]
              have er : rs.map rowD ++ [D.tup [.str b, .str c, .str d]] = (rs ++ [(b, c, d)]).map rowD := by rw [List.map_append]; rfl
              simp? [l4_1, l4_2, l4_3, app_at0, app_set0, show D.clean 0 (.tup [.str b, .str c, .str d]) = true from rfl, sr, er]
              rw [fin_two]
              exact h1 _ hn
      · refine seq_gen fun N_ hN_ => ?_
        simp? [l4_0, decide_eq_false ha]
        subst hN_
        by_cases hm : a = "meter"
        · by_cases hd : d = "sealed"
          · by_cases hf : b ∈ fs.map (·.1)
            · have hn := hst none (by rw [if_neg ha, if_pos (.inr (.inr hf))])
              refine seq_gen fun N_ hN_ => ?_
              simp? [l4_0, decide_eq_true hm, len4, d44, l4_1, l4_3, decide_eq_true hd, app_at1, sf]
              rw [lcf _ _ _ fun r q x => c2 _ r _ q x rfl]
              simp? [in_fits, decide_eq_true hf]
              exact h0 hn _ _
            · refine seq_gen fun N_ hN_ => ?_
              simp? [l4_0, decide_eq_true hm, len4, d44, l4_1, l4_3, decide_eq_true hd, app_at1, sf]
              rw [lcf _ _ _ fun r q x => c2 _ r _ q x rfl]
              simp? [in_fits, decide_eq_false hf]
              subst hN_
              have ef : fs.map fitD ++ [D.tup [.str b, .str c, .bl true]] = (fs ++ [(b, c, true)]).map fitD := by rw [List.map_append]; rfl
              refine seq_gen fun N_ hN_ => ?_
              simp? [l4_1, l4_2, len4, d44, app_at1, app_set1, show D.clean 0 (.tup [.str b, .str c, .bl true]) = true from rfl, sf]
              subst hN_
              rw [ef]
              simp? [l4_2, app_at0, sr]
              rw [lc_mapEq (inj := rowD) (g := fun r : LR => D.str r.1) rs (by simp [Holds]) fun r hr => ⟨_, rfl, fun q x => c3 _ r _ q x rfl⟩]
              simp? [in_rows]
              by_cases hr : c ∈ rs.map (·.1)
              · have hn := hst _ (by rw [if_neg ha, if_neg (by rintro (q | q | q); exact q hm; exact q.2 hd; exact hf q), if_pos hr])
                rw [decide_eq_true hr, fin_two]
                exact h1 _ hn
              · have hn := hst none (by rw [if_neg ha, if_neg (by rintro (q | q | q); exact q hm; exact q.2 hd; exact hf q), if_neg hr])
                rw [decide_eq_false hr, fin_two]
                exact h0 hn _ _
          · have hn := hst none (by rw [if_neg ha, if_pos (.inr (.inl ⟨rfl, hd⟩))])
            refine seq_gen fun N_ hN_ => ?_
            simp? [l4_0, decide_eq_true hm, len4, d44, l4_3, decide_eq_false hd]
            exact h0 hn _ _
        · have hn := hst none (by rw [if_neg ha, if_pos (.inl hm)])
          refine seq_gen fun N_ hN_ => ?_
          simp? [l4_0, decide_eq_false hm]
          exact h0 hn _ _
  · have hb : (!decide (ws.length = 3 ∨ ws.length = 4) || !(ws.drop 1).all nmB) = true := by
      by_cases h : ws.length = 3 ∨ ws.length = 4
      · have : ¬ (ws.drop 1).all nmB = true := fun y => hc ⟨h, y⟩
        rw [decide_eq_true h]
        simpa using this
      · rw [decide_eq_false h]
        rfl
    rw [hb, iteB_t]
    simp? []
    exact h0 (by unfold stepF; rw [if_neg hc]) _ _
theorem step_len (h : stepF ws z = some z') : z'.1.length + z'.2.length ≤ z.1.length + z.2.length + 1 := by
  unfold stepF at h
  split at h
  · split at h
    · split at h
      · cases h
      · cases h
        simp
        omega
    · split at h
      · cases h
      · split at h
        · cases h
          simp
          omega
        · cases h
  · cases h
theorem net_inG (hs : s.length ≤ 5000) (h0 : linesF (Txt.split s "\n") ([], []) = none → q .non S)
    (h1 : ∀ z, linesF (Txt.split s "\n") ([], []) = some z → q (if 0 < z.1.length ∧ z.1.length < 13 ∧ z.2.length < 13 then .lst [.lst (z.1.map rowD), .lst (z.2.map fitD)] else .non) S) : G_net_in_k13 A [.str s] S q x := by
  have sp : ∀ (S : WS) (t : Str), t.length ≤ 5000 → splitD S (.str t) (.str " ") = some (.lst ((Txt.split t " ").map D.str)) := fun S t ht => by
    simp only [splitD, onStr, sp_len, ne_eq, not_false_eq_true, small_of (n := t.length) (by omega), and_self, if_true]
  have sn : ∀ (S : WS) (t : Str), t.length ≤ 5000 → splitD S (.str t) (.str "\n") = some (.lst ((Txt.split t "\n").map D.str)) := fun S t ht => by
    simp only [splitD, onStr, nl_len, ne_eq, not_false_eq_true, small_of (n := t.length) (by omega), and_self, if_true]
  have go : ∀ (us : List Str) (z : NetR) (o3 : Option D) (kt : Kt), (∀ u ∈ us, u.length ≤ 5000) → z.1.length + z.2.length + us.length ≤ 5001 →
      (linesF us z = none → ∀ a b, kt.rt .non (S ++ [.lst a, .lst b])) →
      (∀ z', linesF us z = some z' → ∀ o3, kt.nx [some (.str s), some (.cell S.length), some (.cell (S.length + 1)), o3] (S ++ [.lst (z'.1.map rowD), .lst (z'.2.map fitD)])) →
      forD any_ (tName 3) (L_net_in_k13_0 A) (us.map D.str) [some (.str s), some (.cell S.length), some (.cell (S.length + 1)), o3] (S ++ [.lst (z.1.map rowD), .lst (z.2.map fitD)]) kt := fun us => by
    induction us with
    | nil =>
      intro z o3 kt _ _ k0 k1
      exact ⟨trivial, k1 z rfl _⟩
    | cons u us ih =>
      intro z o3 kt hu hl k0 k1
      simp only [List.length_cons] at hl
      have hul := hu u (List.mem_cons_self ..)
      rw [List.map_cons]
      refine for_nameE trivial fun F hF => ?_
      unfold L_net_in_k13_0
      unfold linesF at k0 k1
      have tk := fun (P : D → WS → Prop) (y : Xq) => takenG (A := A) (S := S) (q := P) (x := y) (ws := Txt.split u " ") (z := z) (fun w hw => small_of (by have := (split_mem sep_sp hw).2.1; omega)) (by have := split_len (x := u) sep_sp; omega) (by omega) (by omega)
      cases hst : stepF (Txt.split u " ") z with
      | none =>
        rw [hst] at k0
        simp? [sp _ _ hul]
        refine tk _ _ (fun _ a b => ?_) (fun z' e => by rw [hst] at e; cases e)
        simp? []
        exact k0 rfl a b
      | some z1 =>
        rw [hst] at k0 k1
        simp? [sp _ _ hul]
        refine tk _ _ (fun e => by rw [hst] at e; cases e) (fun z' e => ?_)
        rw [hst] at e
        cases e
        simp? []
        rw [hF]
        exact ih z1 _ kt (fun v hv => hu v (List.mem_cons_of_mem _ hv)) (by have := step_len hst; omega) k0 k1
  have hsm : ∀ u ∈ Txt.split s "\n", u.length ≤ 5000 := fun u hu => by
    have := (split_mem sep_nl hu).2.1
    omega
  have hsl := split_len (x := s) sep_nl
  have lc0 : ∀ (S' : WS) (k : Nat) (ds : List D), S'[k]? = some (.lst ds) → lenD S' [.cell k] = some (.int (ds.length : Nat)) := fun S' k ds h => by simp [lenD, itemsD, h]
  rw [D_net_in_k13]
  unfold fnF startE
  simp only [List.map_cons, List.map_nil, List.length_cons, List.length_nil, Nat.reduceAdd, Nat.reduceSub, List.replicate, List.cons_append, List.nil_append, List.append_nil, Nat.zero_add]
  unfold B_net_in_k13
  refine seq_gen fun N_ hN_ => ?_
  simp? [D.cleanL, List.length_append]
  subst hN_
  refine seq_gen fun N_ hN_ => ?_
  simp? [sn _ _ hs]
  refine go _ ([], []) none _ hsm (by have := hsl; simp only [List.length_nil]; omega) (fun e a b => ?_) (fun z' e o3 => ?_)
  · dsimp only
    rw [finF_non]
    exact h0 e
  · dsimp only
    subst hN_
    have hz := h1 z' e
    simp? [lc0 _ _ _ app_at0, lc0 _ _ _ app_at1, List.length_map]
    by_cases a1 : 0 < z'.1.length
    · by_cases a2 : z'.1.length < 13
      · by_cases a3 : z'.2.length < 13
        · rw [if_pos ⟨a1, a2, a3⟩] at hz
          simp? [show decide ((0 : Int) < (z'.1.length : Int)) = true from decide_eq_true (by omega), show decide ((z'.1.length : Int) < 13) = true from decide_eq_true (by omega), show decide ((z'.2.length : Int) < 13) = true from decide_eq_true (by omega), small_of (n := 2) (by omega)]
          rw [finF_two]
          exact hz
        · rw [if_neg (fun q => a3 q.2.2)] at hz
          simp? [show decide ((0 : Int) < (z'.1.length : Int)) = true from decide_eq_true (by omega), show decide ((z'.1.length : Int) < 13) = true from decide_eq_true (by omega), show decide ((z'.2.length : Int) < 13) = false from decide_eq_false (by omega)]
          rw [finF_non]
          exact hz
      · rw [if_neg (fun q => a2 q.2.1)] at hz
        simp? [show decide ((0 : Int) < (z'.1.length : Int)) = true from decide_eq_true (by omega), show decide ((z'.1.length : Int) < 13) = false from decide_eq_false (by omega)]
        rw [finF_non]
        exact hz
    · rw [if_neg (fun q => a1 q.1)] at hz
      simp? [show decide ((0 : Int) < (z'.1.length : Int)) = false from decide_eq_false (by omega)]
      rw [finF_non]
      exact hz
end
end RV
end
section
/-! The program's reading of any text. -/
namespace RV
open PySem L2
theorem lc_impE {α : Type} {N : WS → Prop} {f : D → RV.Env → Option RV.Env} {mc : RV.Env → MB} {me : RV.Env → M} {ρ : RV.Env} {S : WS} {inj : α → D} {p : α → Bool} {g : α → D} {q : List D → WS → Prop} : ∀ (xs : List α) (acc : List D), N S → (∀ a ∈ xs, ∃ ρ1, f (inj a) ρ = some ρ1 ∧ (∀ (q : Bool → WS → Prop) x, q (p a) S → mc ρ1 S q x) ∧ (p a = true → ∀ (q : D → WS → Prop) x, q (g a) S → me ρ1 S q x)) →
    q (acc ++ (xs.filter p).map g) S → lcD N f mc me ρ (xs.map inj) acc S q
  | [], acc, hN, _, h => ⟨hN, by simpa using h⟩
  | a :: xs, acc, hN, hs, h => by
    obtain ⟨ρ1, h1, h2, h3⟩ := hs a (List.mem_cons_self ..)
    have ih := fun acc h => lc_impE (q := q) xs acc hN (fun b hb => hs b (List.mem_cons_of_mem _ hb)) h
    rw [List.map_cons]
    unfold lcD
    rw [h1, onS_some]
    refine ⟨hN, h2 _ _ ?_⟩
    cases hp : p a with
    | true =>
      rw [iteB_t]
      refine h3 hp _ _ (ih _ ?_)
      rw [List.filter_cons_of_pos hp] at h
      simpa using h
    | false =>
      rw [iteB_f]
      refine ih _ ?_
      rw [List.filter_cons_of_neg (by simp [hp])] at h
      exact h
def ItF (l : Str) : Option (LR ⊕ FR) :=
  let ws := Txt.split l " "
  if ws.length = 4 ∧ w_ ws 0 = "pipe" then
    if nmB (w_ ws 1) = true ∧ nmB (w_ ws 2) = true ∧ nmB (w_ ws 3) = true ∧ w_ ws 3 ≠ w_ ws 2 then some (.inl (w_ ws 1, w_ ws 2, w_ ws 3)) else none
  else if (ws.length = 3 ∨ ws.length = 4) ∧ w_ ws 0 = "meter" then
    if nmB (w_ ws 1) = true ∧ nmB (w_ ws 2) = true then some (.inr (w_ ws 1, w_ ws 2, decide (ws.length = 4))) else none
  else none
def itD (A : Ad) : Option (LR ⊕ FR) → D
  | none => .non
  | some z => zObj A z
def pipesF : List (Option (LR ⊕ FR)) → List LR
  | [] => []
  | some (.inl r) :: os => r :: pipesF os
  | _ :: os => pipesF os
def metersF : List (Option (LR ⊕ FR)) → List FR
  | [] => []
  | some (.inr f) :: os => f :: metersF os
  | _ :: os => metersF os
def isP : Option (LR ⊕ FR) → Bool
  | some (.inl _) => true
  | _ => false
def isM : Option (LR ⊕ FR) → Bool
  | some (.inr _) => true
  | _ => false
theorem it_row {l : Str} {r : LR} (h : ItF l = some (.inl r)) : RowOk r := by
  unfold ItF at h
  dsimp only at h
  split at h
  · split at h
    · rename_i hc
      cases h
      exact ⟨hc.1, hc.2.1, hc.2.2.1, hc.2.2.2⟩
    · cases h
  · split at h
    · split at h
      · cases h
      · cases h
    · cases h
theorem it_fit {l : Str} {f : FR} (h : ItF l = some (.inr f)) : Nm f.1 := by
  unfold ItF at h
  dsimp only at h
  split at h
  · split at h
    · cases h
    · cases h
  · split at h
    · split at h
      · rename_i hc
        cases h
        exact hc.1
      · cases h
    · cases h
theorem mem_pipesF {r : LR} : ∀ {os : List (Option (LR ⊕ FR))}, r ∈ pipesF os → some (.inl r) ∈ os
  | [], h => nomatch h
  | none :: os, h => List.mem_cons_of_mem _ (mem_pipesF (os := os) h)
  | some (.inl r') :: os, h => by
    rcases List.mem_cons.mp h with e | e
    · subst e; exact List.mem_cons_self ..
    · exact List.mem_cons_of_mem _ (mem_pipesF e)
  | some (.inr f) :: os, h => List.mem_cons_of_mem _ (mem_pipesF (os := os) h)
theorem mem_metersF {f : FR} : ∀ {os : List (Option (LR ⊕ FR))}, f ∈ metersF os → some (.inr f) ∈ os
  | [], h => nomatch h
  | none :: os, h => List.mem_cons_of_mem _ (mem_metersF (os := os) h)
  | some (.inr f') :: os, h => by
    rcases List.mem_cons.mp h with e | e
    · subst e; exact List.mem_cons_self ..
    · exact List.mem_cons_of_mem _ (mem_metersF e)
  | some (.inl r) :: os, h => List.mem_cons_of_mem _ (mem_metersF (os := os) h)
theorem filt_p {A : Ad} : ∀ os : List (Option (LR ⊕ FR)), (os.filter isP).map (itD A) = (pipesF os).map (pv A)
  | [] => rfl
  | none :: os => filt_p os
  | some (.inl r) :: os => congrArg (pv A r :: ·) (filt_p os)
  | some (.inr f) :: os => filt_p os
theorem filt_m {A : Ad} : ∀ os : List (Option (LR ⊕ FR)), (os.filter isM).map (itD A) = (metersF os).map (mv A)
  | [] => rfl
  | none :: os => filt_m os
  | some (.inl r) :: os => filt_m os
  | some (.inr f) :: os => congrArg (mv A f :: ·) (filt_m os)
theorem pipesF_len : ∀ os : List (Option (LR ⊕ FR)), (pipesF os).length ≤ os.length
  | [] => Nat.le_refl _
  | none :: os => Nat.le_succ_of_le (pipesF_len os)
  | some (.inl r) :: os => Nat.succ_le_succ (pipesF_len os)
  | some (.inr f) :: os => Nat.le_succ_of_le (pipesF_len os)
theorem VlL {A : Ad} {s : Str} (h1 : low s) (h2 : s.length ≤ 100000) : Vl A (.str s) (.type "str") (PyData.str s).shown :=
  ⟨rfl, by simp [plainT], fun S => (show reprD2 S [.str s] = reprD S [.str s] from rfl).trans (repr_ok (k := 0) (w := 100000) (p := .str s) rfl (ShOk.str (low_ok h1) h2) (by decide) (by decide)), strOk_repr (low_ok h1), fun _ => rfl, fun s' e => by cases e; exact small_of (by omega), fun _ => ⟨s, rfl⟩⟩
section
variable {A : Ad} {S : WS} {q : D → WS → Prop} {x : Xq} {l s : Str}
theorem inE {L : List String} {n : String} (h : n ∈ L) : A.c n ∈ errL A L := List.mem_map.mpr ⟨n, h, rfl⟩
theorem in34t {n : Nat} : inD false S (.int (n : Int)) (.tup [.int 3, .int 4]) = some (.bl (decide (n = 3 ∨ n = 4))) := by
  have e : ((3 : Int) == (n : Int) || ((4 : Int) == (n : Int) || false)) = decide (n = 3 ∨ n = 4) := by
    rw [Bool.eq_iff_iff]
    simp only [Bool.or_eq_true, beq_iff_eq, Bool.or_false, decide_eq_true_eq]
    omega
  unfold inD
  simp only [itemsD, Option.bind_some, flatD, List.all_cons, List.all_nil, Bool.and_self, and_self, if_true, List.any_cons, List.any_nil, eqFl, e, Bool.false_eq_true, if_false]
theorem item_any (hs : low l) (hl : l.length ≤ 5000) (hq : q (itD A (ItF l)) S) : G_item_of A [.str l] S q x := by
  have sp : ∀ S, splitD S (.str l) (.str " ") = some (.lst ((Txt.split l " ").map D.str)) := fun S => by
    simp only [splitD, onStr, sp_len, ne_eq, not_false_eq_true, small_of (n := l.length) (by omega), and_self, if_true]
  have hvl : ∀ w ∈ Txt.split l " ", Vl A (.str w) (.type "str") (PyData.str w).shown := fun w hw => VlL (low_split sep_sp hs hw) (by have := (split_mem sep_sp hw).2.1; omega)
  have hne := split_ne (x := l) sep_sp
  have hln := split_len (x := l) sep_sp
  unfold ItF at hq
  dsimp only at hq
  generalize Txt.split l " " = ws at sp hvl hne hq hln
  have x0 : ∀ S, ixD S (.lst (ws.map D.str)) (.int 0) = some (.str (w_ ws 0)) := fun S => by
    cases ws with
    | nil => exact absurd rfl hne
    | cons a ws => simp [ixD, atI, ixN, w_]
  have d4 : decide ((ws.length : Int) = 4) = decide (ws.length = 4) := by
    rw [decide_eq_decide]
    omega
  rw [D_item_of]
  unfold fnD startE
  simp only [List.map_cons, List.map_nil, List.length_cons, List.length_nil, Nat.reduceAdd, Nat.reduceSub, List.replicate, List.cons_append, List.nil_append, List.append_nil, Nat.zero_add]
  unfold B_item_of
  refine seq_gen fun N_ hN_ => ?_
  simp? [sp]
  subst hN_
  by_cases hp : ws.length = 4 ∧ w_ ws 0 = "pipe"
  · rw [if_pos hp] at hq
    have ew : ws = [w_ ws 0, w_ ws 1, w_ ws 2, w_ ws 3] := by
      rcases len34 (.inr hp.1) with h | h
      · rw [h] at hp; exact absurd hp.1 (by simp)
      · exact h
    generalize w_ ws 0 = a at *
    generalize w_ ws 1 = b at *
    generalize w_ ws 2 = c at *
    generalize w_ ws 3 = d at *
    subst ew
    simp only [List.map_cons, List.map_nil]
    have v1 := hvl b (by simp)
    have v2 := hvl c (by simp)
    have v3 := hvl d (by simp)
    have n1 : nmD (.str b) = nmB b := rfl
    have n2 : nmD (.str c) = nmB c := rfl
    have n3 : nmD (.str d) = nmB d := rfl
    simp? [len4, d44, l4_0, l4_1, l4_2, l4_3, decide_eq_true hp.2]
    by_cases h1 : nmB b = true
    · by_cases h2 : nmB c = true
      · by_cases h3 : nmB d = true
        · by_cases h4 : d = c
          · rw [if_neg (fun z => z.2.2.2 h4)] at hq
            subst h4
            rw [pipe_x4 h1 h2]
            simp? []
            refine ⟨inE (by simp), ?_⟩
            simp? []
            exact hq
          · rw [if_pos ⟨h1, h2, h3, h4⟩] at hq
            simp? [pipe_init_ok (A := A) (S := S) (show Nm b from h1) (show Nm c from h2) (show Nm d from h3) h4]
            exact hq
        · rw [if_neg (fun z => h3 z.2.2.1)] at hq
          rw [pipe_x3 v1 h1 v2 h2 v3 (by rw [n3]; simpa using h3)]
          simp? []
          refine ⟨inE (by simp), ?_⟩
          simp? []
          exact hq
      · rw [if_neg (fun z => h2 z.2.1)] at hq
        rw [pipe_x2 v1 h1 v2 (by rw [n2]; simpa using h2)]
        simp? []
        refine ⟨inE (by simp), ?_⟩
        simp? []
        exact hq
    · rw [if_neg (fun z => h1 z.1)] at hq
      rw [pipe_x1 v1 (by rw [n1]; simpa using h1)]
      simp? []
      refine ⟨inE (by simp), ?_⟩
      simp? []
      exact hq
  · rw [if_neg hp] at hq
    have eqs : (ws.length = 4 ∧ w_ ws 0 ≠ "pipe") ∨ ws.length ≠ 4 := by
      by_cases h4 : ws.length = 4
      · exact .inl ⟨h4, fun z => hp ⟨h4, z⟩⟩
      · exact .inr h4
    rcases eqs with ⟨h4, h0⟩ | h4
    · have ew : ws = [w_ ws 0, w_ ws 1, w_ ws 2, w_ ws 3] := by
        rcases len34 (.inr h4) with h | h
        · rw [h] at h4; exact absurd h4 (by simp)
        · exact h
      generalize w_ ws 0 = a at *
      generalize w_ ws 1 = b at *
      generalize w_ ws 2 = c at *
      generalize w_ ws 3 = d at *
      subst ew
      simp only [List.map_cons, List.map_nil]
      have v1 := hvl b (by simp)
      have v2 := hvl c (by simp)
      have n1 : nmD (.str b) = nmB b := rfl
      have n2 : nmD (.str c) = nmB c := rfl
      by_cases hm : a = "meter"
      · rw [if_pos ⟨.inr rfl, hm⟩] at hq
        simp? [len4, d44, l4_0, l4_1, l4_2, decide_eq_false h0, in34_4, decide_eq_true hm, perm0]
        by_cases h1 : nmB b = true
        · by_cases h2 : nmB c = true
          · rw [if_pos ⟨h1, h2⟩] at hq
            simp? [meter_init_ok (A := A) (S := S) (f := true) (show Nm b from h1) (show Nm c from h2)]
            exact hq
          · rw [if_neg (fun z => h2 z.2)] at hq
            rw [meter_x2 v1 h1 v2 (by rw [n2]; simpa using h2)]
            simp? []
            refine ⟨inE (by simp), ?_⟩
            simp? []
            exact hq
        · rw [if_neg (fun z => h1 z.1)] at hq
          rw [meter_x1 v1 (by rw [n1]; simpa using h1)]
          simp? []
          refine ⟨inE (by simp), ?_⟩
          simp? []
          exact hq
      · rw [if_neg (fun z => hm z.2)] at hq
        simp? [len4, d44, l4_0, decide_eq_false h0, in34_4, decide_eq_false hm]
        exact hq
    · by_cases h3 : ws.length = 3
      · have ew : ws = [w_ ws 0, w_ ws 1, w_ ws 2] := by
          rcases len34 (.inl h3) with h | h
          · exact h
          · rw [h] at h3; exact absurd h3 (by simp)
        generalize w_ ws 0 = a at *
        generalize w_ ws 1 = b at *
        generalize w_ ws 2 = c at *
        subst ew
        simp only [List.map_cons, List.map_nil]
        have v1 := hvl b (by simp)
        have v2 := hvl c (by simp)
        have n1 : nmD (.str b) = nmB b := rfl
        have n2 : nmD (.str c) = nmB c := rfl
        by_cases hm : a = "meter"
        · rw [if_pos ⟨.inl rfl, hm⟩] at hq
          simp? [len3, d34, l3_0, l3_1, l3_2, in34_3, decide_eq_true hm, perm0]
          by_cases h1 : nmB b = true
          · by_cases h2 : nmB c = true
            · rw [if_pos ⟨h1, h2⟩] at hq
              simp? [meter_init_ok (A := A) (S := S) (f := false) (show Nm b from h1) (show Nm c from h2)]
              exact hq
            · rw [if_neg (fun z => h2 z.2)] at hq
              rw [meter_x2 v1 h1 v2 (by rw [n2]; simpa using h2)]
              simp? []
              refine ⟨inE (by simp), ?_⟩
              simp? []
              exact hq
          · rw [if_neg (fun z => h1 z.1)] at hq
            rw [meter_x1 v1 (by rw [n1]; simpa using h1)]
            simp? []
            refine ⟨inE (by simp), ?_⟩
            simp? []
            exact hq
        · rw [if_neg (fun z => hm z.2)] at hq
          simp? [len3, d34, l3_0, in34_3, decide_eq_false hm]
          exact hq
      · rw [if_neg (fun z => z.1.elim h3 h4)] at hq
        simp? [len_strs, d4, decide_eq_false h4, in34t, show decide (ws.length = 3 ∨ ws.length = 4) = false from decide_eq_false (fun z => z.elim h3 h4)]
        exact hq
theorem read_any (hA : NetsA A) (hs : low s) (hl : s.length ≤ 5000) (h1 : ∀ rs fs, IsNet s rs fs → q (netV A rs fs) S) (h0 : (¬ ∃ rs fs, IsNet s rs fs) → x (.exc (A.c "InvalidText") [("given", .str s)]) S) : G_Net_read A [.adr (A.c "Net"), .str s] S q x := by
  by_cases hn : ∃ rs fs, IsNet s rs fs
  · obtain ⟨rs, fs, hL, hF, rfl⟩ := hn
    exact read_ok hA hL hF (h1 rs fs ⟨hL, hF, rfl⟩)
  · have hx := h0 hn
    have sn : ∀ S, splitD S (.str s) (.str "\n") = some (.lst ((Txt.split s "\n").map D.str)) := fun S => by
      simp only [splitD, onStr, nl_len, ne_eq, not_false_eq_true, small_of (n := s.length) (by omega), and_self, if_true]
    have hlw : ∀ l ∈ Txt.split s "\n", low l ∧ l.length ≤ 5000 := fun l hl2 => ⟨low_split sep_nl hs hl2, by have := (split_mem sep_nl hl2).2.1; omega⟩
    have hln := split_len (x := s) sep_nl
    have hj := join_split (x := s) sep_nl
    generalize Txt.split s "\n" = ls at sn hlw hln hj
    have so : small ((ls.map ItF).map (itD A)).length = true := small_of (by simp only [List.length_map]; omega)
    have hit : ∀ o ∈ ls.map ItF, ∃ l, ItF l = o := fun o ho => by
      obtain ⟨l, _, e⟩ := List.mem_map.mp ho
      exact ⟨l, e⟩
    have hpl := pipesF_len (ls.map ItF)
    rw [List.length_map] at hpl
    generalize hos : ls.map ItF = os at so hit hpl
    have so2 : small os.length = true := by simpa using so
    rw [D_Net_read]
    unfold fnD startE
    simp only [List.map_cons, List.map_nil, List.length_cons, List.length_nil, Nat.reduceAdd, Nat.reduceSub, List.replicate, List.cons_append, List.nil_append, List.append_nil, Nat.zero_add]
    unfold B_Net_read
    refine seq_gen fun N_ hN_ => ?_
    simp? [isi_str]
    subst hN_
    refine seq_gen fun N_ hN_ => ?_
    simp? [sn, List.length_map, small_of (n := ls.length) (by omega)]
    refine lc_impE (p := fun _ => true) (inj := D.str) (g := fun l => itD A (ItF l)) ls [] trivial (fun l hl2 => ⟨_, rfl, fun q x h => h, fun _ q x h => ?_⟩) ?_
    · simp? []
      exact item_any (hlw l hl2).1 (hlw l hl2).2 h
    have em : (ls.map fun l => itD A (ItF l)) = os.map (itD A) := by rw [← hos, List.map_map]; rfl
    rw [List.nil_append, List.filter_eq_self.mpr fun _ _ => rfl, em]
    simp? []
    subst hN_
    have isN : ∀ (n : String), n ∈ A.here → ∀ S, isiD (own A) (tab A) S [.non, .adr (A.c n)] = some (.bl false) := fun n hn S => by
      obtain ⟨t, r, hv⟩ := odd_vl (A := A) .non (by simp [odds])
      exact isi_plain hv hn
    refine seq_gen fun N_ hN_ => ?_
    simp? [so2, List.length_map]
    rw [lc_eq (inj := itD A) (p := isP) (g := itD A) os [] trivial (fun o ho => ⟨_, rfl, fun q x => by
      match o with
      | none => simp? [itD, isN _ hA.p, isP]
      | some (.inl r) => simp? [itD, zObj, isi_pp hA, isP]
      | some (.inr f) => simp? [itD, zObj, isi_mp hA, isP], fun _ q x => by simp? []⟩)]
    rw [List.nil_append, filt_p]
    simp? [tuple_lst]
    subst hN_
    refine seq_gen fun N_ hN_ => ?_
    simp? [so2, List.length_map]
    rw [lc_eq (inj := itD A) (p := isM) (g := itD A) os [] trivial (fun o ho => ⟨_, rfl, fun q x => by
      match o with
      | none => simp? [itD, isN _ hA.m, isM]
      | some (.inl r) => simp? [itD, zObj, isi_pm hA, isM]
      | some (.inr f) => simp? [itD, zObj, isi_mm hA, isM], fun _ q x => by simp? []⟩)]
    rw [List.nil_append, filt_m]
    simp? [tuple_lst]
    subst hN_
    have hrow : ∀ r ∈ pipesF os, RowOk r := fun r hr => by
      obtain ⟨l, e⟩ := hit _ (mem_pipesF hr)
      exact it_row e
    have hfit : ∀ f ∈ metersF os, Nm f.1 := fun f hf => by
      obtain ⟨l, e⟩ := hit _ (mem_metersF hf)
      exact it_fit e
    generalize pipesF os = rs at hrow hpl
    generalize metersF os = fs at hfit
    refine seq_gen fun N_ hN_ => ?_
    simp? []
    by_cases hr0 : rs = []
    · subst hr0
      rw [List.map_nil, net_x00]
      simp? []
      refine ⟨inE (by simp), ?_⟩
      simp? []
      exact hx
    have e1 : rs.map (pv A) = (rs.map fun r => (pv A r, some r)).map (·.1) := by simp [Function.comp_def]
    have e2 : fs.map (mv A) = (fs.map fun r => (mv A r, some r)).map (·.1) := by simp [Function.comp_def]
    have inj1 : ∀ {α : Type} {a b : List α}, a.map some = b.map some → a = b := fun {α a b} h => by
      have := congrArg (List.map fun o : Option α => o.toList) h
      induction a generalizing b with
      | nil => cases b with | nil => rfl | cons => cases h
      | cons x a ih => cases b with | nil => cases h | cons y b => simp only [List.map_cons, List.cons.injEq, Option.some.injEq] at h; rw [h.1, ih h.2 (congrArg (List.map fun o : Option α => o.toList) h.2)]
    rw [e1, e2]
    refine net_run hA (fun p hp => ?_) (fun p hp => ?_) (fun z => hr0 (List.map_eq_nil_iff.mp z)) (fun i e => ?_) (fun rs' a1 a2 a3 a4 i e => ?_) (fun rs' fs' a1 a2 b1 b2 a3 hl0 a4 b3 b4 b5 => ?_)
    · obtain ⟨r, hr, rfl⟩ := List.mem_map.mp hp
      exact .pipe r
    · obtain ⟨r, hr, rfl⟩ := List.mem_map.mp hp
      exact .meter r
    · simp? []
      refine ⟨inE (by simp), ?_⟩
      simp? []
      exact hx
    · simp? []
      refine ⟨inE (by simp), ?_⟩
      simp? []
      exact hx
    · have er : rs = rs' := inj1 (by rw [← a2, List.map_map]; rfl)
      have ef : fs = fs' := inj1 (by rw [← b2, List.map_map]; rfl)
      subst er
      subst ef
      have hL : LaidOk rs := ⟨hrow, a3, hl0, a4⟩
      have hF : FitsOk rs fs := ⟨hfit, b5, b3, b4⟩
      have hne : ¬ netText rs fs = s := fun z => hn ⟨rs, fs, hL, hF, z.symm⟩
      simp? []
      subst hN_
      simp? [str_own hA hL hF, neD_str, decide_eq_false hne]
      exact hx
end
end RV
end
section
/-! Texts bent. -/
namespace RV
open PySem L2
def wt (xs : List Str) : Nat := (xs.map fun s => s.length + 1).sum
theorem wt_cons {a : Str} {xs : List Str} : wt (a :: xs) = a.length + 1 + wt xs := by simp [wt]
theorem wt_app {xs ys : List Str} : wt (xs ++ ys) = wt xs + wt ys := by simp [wt]
theorem wt_len : ∀ {xs : List Str}, xs.length ≤ wt xs
  | [] => Nat.zero_le _
  | b :: xs => by
    have := wt_len (xs := xs)
    rw [wt_cons, List.length_cons]
    omega
theorem wt_take : ∀ (xs : List Str) (i : Nat), wt (xs.take i) ≤ wt xs
  | [], i => by simp
  | b :: xs, 0 => by simp [wt]
  | b :: xs, i + 1 => by
    have := wt_take xs i
    rw [List.take_succ_cons, wt_cons, wt_cons]
    omega
theorem wt_drop : ∀ (xs : List Str) (i : Nat), wt (xs.drop i) ≤ wt xs
  | [], i => by simp
  | b :: xs, 0 => by simp
  | b :: xs, i + 1 => by
    have := wt_drop xs i
    rw [List.drop_succ_cons, wt_cons]
    omega
theorem wt_set {a : Str} : ∀ (xs : List Str) (i : Nat), wt (xs.set i a) ≤ wt xs + a.length + 1
  | [], i => by simp only [List.set_nil]; omega
  | b :: xs, 0 => by
    rw [List.set_cons_zero, wt_cons, wt_cons]
    omega
  | b :: xs, i + 1 => by
    have := wt_set (a := a) xs i
    rw [List.set_cons_succ, wt_cons, wt_cons]
    omega
theorem wt_sum : ∀ {xs : List Str}, (xs.map (·.length)).sum + xs.length = wt xs
  | [] => rfl
  | b :: xs => by
    have := wt_sum (xs := xs)
    simp only [List.map_cons, List.sum_cons, List.length_cons]
    rw [wt_cons]
    omega
theorem join_wt {y : Str} {xs : List Str} (hy : y.length = 1) : (Txt.join y xs).length ≤ wt xs := by
  have h := join_len (sep := y) (xs := xs)
  rw [hy, Nat.mul_one] at h
  have := wt_sum (xs := xs)
  omega
theorem spl_wt {s : Nat} : ∀ (l acc : List Nat), ((TL.spl [s] 0 acc l).map fun p => p.length + 1).sum = acc.length + l.length + 1
  | [], acc => by rw [TL.spl_nil]; simp
  | c :: r, acc => by
    by_cases h : c = s
    · rw [TL.spl_hit (by rw [pre_one]; exact decide_eq_true h)]
      have := spl_wt (s := s) r []
      simp only [List.map_cons, List.sum_cons, List.length_cons, List.length_nil] at this ⊢
      show acc.length + 1 + ((TL.spl [s] 0 [] r).map fun p => p.length + 1).sum = _
      omega
    · rw [TL.spl_miss (by rw [pre_one]; exact decide_eq_false h), spl_wt r _]
      simp
      omega
theorem split_wt {x y : Str} {s : Nat} (h : Sep y s) : wt (Txt.split x y) = x.length + 1 := by
  have e := spl_wt (s := s) (TL.tl x) []
  rw [← tl_split h, List.map_map] at e
  unfold wt
  rw [show (fun s : Str => s.length + 1) = ((fun p : List Nat => p.length + 1) ∘ TL.tl) from by funext t; simp [TL.len_tl], e, TL.len_tl]
  simp
def Lows (xs : List Str) : Prop := ∀ a ∈ xs, low a
theorem low_joinL {S : List Nat} (hS : ∀ c ∈ S, c < 128) : ∀ {ps : List (List Nat)}, (∀ p ∈ ps, ∀ c ∈ p, c < 128) → ∀ c ∈ TL.joinL S ps, c < 128
  | [], _, c, h => by simp [TL.joinL] at h
  | [p], hp, c, h => hp p (by simp) c (by simpa [TL.joinL] using h)
  | p :: q :: r, hp, c, h => by
    rw [joinL_cons (by simp)] at h
    rcases List.mem_append.mp h with h | h
    · rcases List.mem_append.mp h with h | h
      · exact hp p (by simp) c h
      · exact hS c h
    · exact low_joinL hS (fun z hz => hp z (List.mem_cons_of_mem _ hz)) c h
theorem low_join {y : Str} {xs : List Str} (hy : low y) (h : Lows xs) : low (Txt.join y xs) := fun c hc => by
  have hc2 : c ∈ TL.tl (Txt.join y xs) := hc
  rw [TL.join_eq, TL.tl_join] at hc2
  exact low_joinL (S := TL.tl y) (fun c h => hy c h) (fun p hp => by
    obtain ⟨a, ha, rfl⟩ := List.mem_map.mp hp
    exact fun c hc => h a ha c hc) c hc2
theorem low_sp : low " " := by
  intro c hc
  have : ∀ c ∈ (" " : Str).cps.toList, c < 128 := by decide +kernel
  exact this c hc
theorem low_nl : low "\n" := by
  intro c hc
  have : ∀ c ∈ ("\n" : Str).cps.toList, c < 128 := by decide +kernel
  exact this c hc
theorem Lows.set {xs : List Str} {a : Str} {i : Nat} (h : Lows xs) (ha : low a) : Lows (xs.set i a) := fun b hb => by
  rcases List.mem_or_eq_of_mem_set hb with e | e
  · exact h b e
  · rw [e]; exact ha
theorem Lows.app {xs ys : List Str} (h : Lows xs) (h2 : Lows ys) : Lows (xs ++ ys) := fun b hb => by
  rcases List.mem_append.mp hb with e | e
  · exact h b e
  · exact h2 b e
theorem Lows.take {xs : List Str} {i : Nat} (h : Lows xs) : Lows (xs.take i) := fun b hb => h b (List.mem_of_mem_take hb)
theorem Lows.drop {xs : List Str} {i : Nat} (h : Lows xs) : Lows (xs.drop i) := fun b hb => h b (List.mem_of_mem_drop hb)
theorem lows_split {x y : Str} {s : Nat} (h : Sep y s) (hx : low x) : Lows (Txt.split x y) := fun a ha => low_split h hx ha
section
variable {A : Ad} {S T : WS} {k : Nat} {n m : Int} {w : W} {q : D → WS → Prop} {x : Xq} {xs : List Str} {s y : Str} {i : Nat}
theorem ix_cell {j : Nat} (h : S[j]? = some (.lst (xs.map D.str))) (hi : i < xs.length) : ixD S (.cell j) (.int (i : Int)) = some (.str (xs.getD i "")) := by
  have e : ixD S (.cell j) (.int (i : Int)) = atI (xs.map D.str) (i : Int) := by simp only [ixD, h]
  rw [e, atI_nat (by omega) (by simp; omega), Int.toNat_natCast, List.getElem?_map, List.getElem?_eq_getElem hi, Option.map_some, List.getD_eq_getElem?_getD, List.getElem?_eq_getElem hi]
  rfl
theorem ix_strs (hi : i < xs.length) : ixD S (.lst (xs.map D.str)) (.int (i : Int)) = some (.str (xs.getD i "")) := by
  have e : ixD S (.lst (xs.map D.str)) (.int (i : Int)) = atI (xs.map D.str) (i : Int) := rfl
  rw [e, atI_nat (by omega) (by simp; omega), Int.toNat_natCast, List.getElem?_map, List.getElem?_eq_getElem hi, Option.map_some, List.getD_eq_getElem?_getD, List.getElem?_eq_getElem hi]
  rfl
theorem set_cell {j : Nat} {a : Str} (h : S[j]? = some (.lst (xs.map D.str))) (hi : i < xs.length) : setIxD (.cell j) (.int (i : Int)) (.str a) S = some (S.set j (.lst ((xs.set i a).map D.str))) := by
  have e : setIxD (.cell j) (.int (i : Int)) (.str a) S = (ixN (xs.map D.str).length (i : Int)).map fun z => S.set j (.lst ((xs.map D.str).set z (.str a))) := by
    simp only [setIxD, h]
    rfl
  rw [e]
  unfold ixN
  rw [if_pos (by omega), if_pos (by simp; omega), Option.map_some, Int.toNat_natCast, List.map_set]
theorem len_cellS {j : Nat} (h : S[j]? = some (.lst (xs.map D.str))) : lenD S [.cell j] = some (.int (xs.length : Nat)) := by simp [lenD, itemsD, h]
theorem sl_hiC {j : Nat} (h : S[j]? = some (.lst (xs.map D.str))) : slLD S (.cell j) none (some (i : Int)) = some (.lst ((xs.take i).map D.str)) := by
  simp only [slLD, itemsD, h, Option.map_some]
  rw [show cutD (xs.map D.str) none (some (i : Int)) = (xs.map D.str).take i from cut_n, List.map_take]
theorem cut_lo {ds : List D} (hi : i ≤ ds.length) : cutD ds (some (i : Int)) none = ds.drop i := by
  unfold cutD
  rw [show HT.sIx ds.length 0 (some (i : Int)) = i from by unfold HT.sIx; simp only; rw [if_neg (by omega)]; simp; omega, show HT.sIx ds.length ds.length none = ds.length from rfl]
  rw [List.take_of_length_le (by simp)]
theorem sl_loC {j : Nat} (h : S[j]? = some (.lst (xs.map D.str))) (hi : i ≤ xs.length) : slLD S (.cell j) (some (i : Int)) none = some (.lst ((xs.drop i).map D.str)) := by
  simp only [slLD, itemsD, h, Option.map_some]
  rw [cut_lo (by simpa using hi), List.map_drop]
theorem joinC {y' : D} {sep : Str} (hsep : sep.length = 1) (h : itemsD S y' = some (xs.map D.str)) (hw : wt xs ≤ 100000) : joinD S (.str sep) y' = some (.str (Txt.join sep xs)) := by
  have := wt_sum (xs := xs)
  simp only [joinD, onStr, h, Option.bind_some, strsD_map, hsep, Nat.mul_one]
  rw [if_pos (by omega)]
theorem lds {z : Str} {sep : Str} (hsep : sep.length ≠ 0) (hz : z.length ≤ 100000) : splitD S (.str z) (.str sep) = some (.lst ((Txt.split z sep).map D.str)) := by
  simp only [splitD, onStr, hsep, ne_eq, not_false_eq_true, small_of hz, and_self, if_true]
theorem cln_strs {c : Nat} {xs : List Str} : D.cleanL c (xs.map D.str) = true := by
  induction xs with
  | nil => rfl
  | cons a xs ih =>
    rw [List.map_cons]
    unfold D.cleanL
    rw [ih]
    rfl
theorem bent_linesG {way : Nat} (hk : k < S.length) (g : Good n w) (hn : n < 100000000000000) (hs : low s) (hl : s.length ≤ 20000)
    (h : ∀ s' w', low s' → s'.length ≤ 3 * (s.length + 1) + 10 → Good (n + 10) w' → q (.str s') (st S k w' T)) : G_bent_lines_k13 A [.cell k, .str s, .int (way : Nat)] (st S k w T) q x := by
  have hne := split_ne (x := s) sep_nl
  have hwt := split_wt (x := s) sep_nl
  have hlo := lows_split sep_nl hs
  have hlm : ∀ a ∈ Txt.split s "\n", a.length ≤ s.length := fun a ha => (split_mem sep_nl ha).2.1
  have hsp : ∀ S, splitD S (.str s) (.str "\n") = some (.lst ((Txt.split s "\n").map D.str)) := fun S => lds nl_len (by omega)
  generalize Txt.split s "\n" = rows at hne hwt hlo hlm hsp
  have hrl : 0 < rows.length := List.length_pos_iff.mpr hne
  have hrl2 := wt_len (xs := rows)
  have len_st : ∀ (xs : List Str) (w : W) (r : WS), lenD (st S k w (T ++ .lst (xs.map D.str) :: r)) [.cell (S.length + T.length)] = some (.int (xs.length : Nat)) := fun xs w r => len_cellS st_at0
  have ixR : ∀ (xs : List Str) (i : Nat) (r : WS) (w : W), i < xs.length → ixD (st S k w (T ++ .lst (xs.map D.str) :: r)) (.cell (S.length + T.length)) (.int (i : Int)) = some (.str (xs.getD i "")) := fun xs i r w hi => ix_cell st_at0 hi
  have setR : ∀ (xs : List Str) (i : Nat) (a : Str) (r : WS) (w : W), i < xs.length → setIxD (.cell (S.length + T.length)) (.int (i : Int)) (.str a) (st S k w (T ++ .lst (xs.map D.str) :: r)) = some (st S k w (T ++ .lst ((xs.set i a).map D.str) :: r)) := fun xs i a r w hi => by
    rw [set_cell st_at0 hi, st_set0]
  have hga : ∀ i, i < rows.length → low (rows.getD i "") ∧ (rows.getD i "").length ≤ s.length := fun i hi => by
    have hm : rows.getD i "" ∈ rows := by
      rw [List.getD_eq_getElem?_getD, List.getElem?_eq_getElem hi]
      exact List.getElem_mem _
    exact ⟨hlo _ hm, hlm _ hm⟩
  -- what is handed back
  have back : ∀ (xs : List Str) (w' : W) (c : Cell) (e : List Cell) (j : Nat) (ρ : RV.Env), Lows xs → wt xs ≤ 3 * (s.length + 1) + 10 → Good (n + 10) w' → look ρ 3 = some (.cell j) → (st S k w' (T ++ c :: e))[j]? = some (.lst (xs.map D.str)) →
      sRet (eOpT joinD (eC (.str "\n")) (eVar 3)) ρ (st S k w' (T ++ c :: e)) ⟨fun _ S' => fin (st S k w T).length .non S' q, fun d S' => fin (st S k w T).length d S' q, fun _ _ => False, fun _ _ => False, fun e _ S' => finX (st S k w T).length e S' x⟩ := fun xs w' c e j ρ h1 h2 g' hl3 hj0 => by
    have hj : joinD (st S k w' (T ++ c :: e)) (.str "\n") (.cell j) = some (.str (Txt.join "\n" xs)) := joinC rfl (by simp [itemsD, hj0]) (by omega)
    simp? [hl3, hj]
    rw [fin_stT (by rfl) (fun i z => by cases z)]
    exact h _ w' (low_join low_nl h1) (Nat.le_trans (join_wt rfl) h2) g'
  rw [D_bent_lines_k13]
  unfold fnD startE
  simp only [List.map_cons, List.map_nil, List.length_cons, List.length_nil, Nat.reduceAdd, Nat.reduceSub, List.replicate, List.cons_append, List.nil_append, List.append_nil, Nat.zero_add]
  unfold B_bent_lines_k13
  refine seq_gen fun N_ hN_ => ?_
  simp? [hsp, eSplitN, cln_strs]
  subst hN_
  refine seq_gen fun N_ hN_ => ?_
  simp? [len_st rows w []]
  refine dip_ok hk g (by omega) (by omega) (by omega) fun d w1 d0 d1 g1 => ?_
  obtain ⟨a, rfl⟩ : ∃ b : Nat, d = (b : Int) := ⟨d.toNat, by omega⟩
  simp? [len_st rows w1 []]
  refine dip_ok hk g1 (by omega) (by omega) (by omega) fun d w2 e0 e1 g2 => ?_
  obtain ⟨b, rfl⟩ : ∃ b : Nat, d = (b : Int) := ⟨d.toNat, by omega⟩
  simp? []
  subst hN_
  have ha : a < rows.length := by omega
  have hb : b < rows.length := by omega
  have hra := hga a ha
  have hrb := hga b hb
  have at1 : ∀ (w : W) (b c : Cell) (r : WS), (st S k w (T ++ b :: c :: r))[S.length + (T.length + 1)]? = some c := fun w b c r => st_at1
  refine seq_gen fun N_ hN_ => ?_
  by_cases w0 : way = 0
  · have hset2 := setR (rows.set a (rows.getD b "")) b (rows.getD a "") [] w2 (by simpa using hb)
    simp? [show decide ((way : Int) = 0) = true from decide_eq_true (by omega), ixR rows b [] w2 hb, ixR rows a [] w2 ha, setR rows a (rows.getD b "") [] w2 ha, hset2]
    subst hN_
    dsimp only
    refine back _ w2 _ [] _ _ ((hlo.set hrb.1).set hra.1) ?_ (g2.mono (by omega)) (by rfl) (by exact st_at0)
    have := wt_set (a := rows.getD b "") rows a
    have := wt_set (a := rows.getD a "") (rows.set a (rows.getD b "")) b
    omega
  by_cases w1' : way = 1
  · have adc : ∀ S, addC S (.lst ((rows.take a).map D.str)) (.lst ((rows.drop b).map D.str)) = some (.lst ((rows.take a ++ rows.drop b).map D.str)) := fun S => by
      simp only [addC, lstOf, Option.bind_some]
      rw [if_pos (small_of (by simp only [List.length_map, List.length_take, List.length_drop]; omega)), List.map_append]
    simp? [show decide ((way : Int) = 0) = false from decide_eq_false (by omega), show decide ((way : Int) = 1) = true from decide_eq_true (by omega), eAddN, sl_hiC (S := st S k w2 (T ++ [.lst (rows.map D.str)])) (i := a) st_at0, sl_loC (S := st S k w2 (T ++ [.lst (rows.map D.str)])) (i := b) st_at0 (Nat.le_of_lt hb), adc, cln_strs, List.length_append]
    subst hN_
    dsimp only
    refine back _ w2 _ _ _ _ (hlo.take.app hlo.drop) ?_ (g2.mono (by omega)) (by rfl) (by first | exact at1 _ _ _ _ | (rw [List.append_assoc] at *; exact at1 _ _ _ _))
    have := wt_take rows a
    have := wt_drop rows b
    rw [wt_app]
    omega
  by_cases w2' : way = 2
  · have ad1 : ∀ S, addD S (.lst ((rows.take a).map D.str)) (.lst ((rows.drop (a + 1)).map D.str)) = some (.lst ((rows.take a ++ rows.drop (a + 1)).map D.str)) := fun S => by
      rw [addD_lst (small_of (by simp only [List.length_map, List.length_take, List.length_drop]; omega)), List.map_append]
    have adc : ∀ S, addC S (.lst ((rows.take a ++ rows.drop (a + 1)).map D.str)) (.lst [.str (rows.getD a "")]) = some (.lst ((rows.take a ++ rows.drop (a + 1) ++ [rows.getD a ""]).map D.str)) := fun S => by
      simp only [addC, lstOf, Option.bind_some]
      rw [if_pos (small_of (by simp only [List.length_map, List.length_append, List.length_take, List.length_drop, List.length_cons, List.length_nil]; omega)), List.map_append (l₂ := [rows.getD a ""])]
      rfl
    simp? [show decide ((way : Int) = 0) = false from decide_eq_false (by omega), show decide ((way : Int) = 1) = false from decide_eq_false (by omega), show decide ((way : Int) = 2) = true from decide_eq_true (by omega), eAddN, sl_hiC (S := st S k w2 (T ++ [.lst (rows.map D.str)])) (i := a) st_at0, show ((a : Int) + 1) = ((a + 1 : Nat) : Int) from by omega, sl_loC (S := st S k w2 (T ++ [.lst (rows.map D.str)])) (i := a + 1) st_at0 (by omega), ad1, ixR rows a [] w2 ha, adc, cln_strs, List.length_append]
    subst hN_
    dsimp only
    refine back _ w2 _ _ _ _ ((hlo.take.app hlo.drop).app (fun z hz => by rw [List.mem_singleton.mp hz]; exact hra.1)) ?_ (g2.mono (by omega)) (by rfl) (by first | exact at1 _ _ _ _ | (rw [List.append_assoc] at *; exact at1 _ _ _ _))
    have := wt_take rows a
    have := wt_drop rows (a + 1)
    rw [wt_app, wt_app, wt_cons]
    simp only [wt, List.map_nil, List.sum_nil] at *
    omega
  by_cases w3 : way = 3
  · simp? [show decide ((way : Int) = 0) = false from decide_eq_false (by omega), show decide ((way : Int) = 1) = false from decide_eq_false (by omega), show decide ((way : Int) = 2) = false from decide_eq_false (by omega), show decide ((way : Int) = 3) = true from decide_eq_true (by omega), ixR rows a [] w2 ha]
    refine dip_ok hk g2 (by omega) (by omega) (by omega) fun d w3 f0 f1 g3 => ?_
    obtain ⟨c, hc1, hc2, hc3⟩ : ∃ c : Str, ixD (st S k w3 (T ++ [.lst (rows.map D.str)])) (.lst [.str " sealed", .str " ", .str " a", .str " meter"]) (.int d) = some (.str c) ∧ low c ∧ c.length ≤ 7 := by
      have lw : ∀ c ∈ [(" sealed" : Str), " ", " a", " meter"], low c ∧ c.length ≤ 7 := by
        intro c hc
        have : ∀ c ∈ [(" sealed" : Str), " ", " a", " meter"], (∀ z ∈ c.cps.toList, z < 128) ∧ c.length ≤ 7 := by decide +kernel
        exact this c hc
      have : d = 0 ∨ d = 1 ∨ d = 2 ∨ d = 3 := by omega
      rcases this with rfl | rfl | rfl | rfl
      · exact ⟨_, rfl, lw _ (by simp)⟩
      · exact ⟨_, rfl, lw _ (by simp)⟩
      · exact ⟨_, rfl, lw _ (by simp)⟩
      · exact ⟨_, rfl, lw _ (by simp)⟩
    simp? [hc1, addS (S := st S k w3 (T ++ [.lst (rows.map D.str)])) (a := rows.getD a "") (b := c) (by omega), setR rows a (rows.getD a "" ++ c) [] w3 ha]
    subst hN_
    dsimp only
    refine back _ w3 _ [] _ _ (hlo.set (low_cat hra.1 hc2)) ?_ (g3.mono (by omega)) (by rfl) (by exact st_at0)
    have := wt_set (a := rows.getD a "" ++ c) rows a
    rw [cat_len] at this
    omega
  · have hwa := split_wt (x := rows.getD a "") sep_sp
    have hwb := split_wt (x := rows.getD b "") sep_sp
    have hna := split_ne (x := rows.getD a "") sep_sp
    have hnb := split_ne (x := rows.getD b "") sep_sp
    have hla := lows_split sep_sp hra.1
    have hlb := lows_split sep_sp hrb.1
    have hmb : ∀ z ∈ Txt.split (rows.getD b "") " ", z.length ≤ s.length := fun z hz => Nat.le_trans (split_mem sep_sp hz).2.1 hrb.2
    have spa : ∀ S, splitD S (.str (rows.getD a "")) (.str " ") = some (.lst ((Txt.split (rows.getD a "") " ").map D.str)) := fun S => lds sp_len (by omega)
    have spb : ∀ S, splitD S (.str (rows.getD b "")) (.str " ") = some (.lst ((Txt.split (rows.getD b "") " ").map D.str)) := fun S => lds sp_len (by omega)
    generalize Txt.split (rows.getD a "") " " = wa at hwa hna hla spa
    generalize Txt.split (rows.getD b "") " " = wb at hwb hnb hlb spb hmb
    have hal : 0 < wa.length := List.length_pos_iff.mpr hna
    have hbl : 0 < wb.length := List.length_pos_iff.mpr hnb
    have hal2 := wt_len (xs := wa)
    have hbl2 := wt_len (xs := wb)
    have ix1 : ∀ (xs : List Str) (w : W) (c : Cell) (r : WS) (i : Nat), i < xs.length → ixD (st S k w (T ++ c :: .lst (xs.map D.str) :: r)) (.cell (S.length + (T.length + 1))) (.int (i : Int)) = some (.str (xs.getD i "")) := fun xs w c r i hi => ix_cell (at1 _ _ _ _) hi
    have ln1 : ∀ (xs : List Str) (w : W) (c : Cell) (r : WS), lenD (st S k w (T ++ c :: .lst (xs.map D.str) :: r)) [.cell (S.length + (T.length + 1))] = some (.int (xs.length : Nat)) := fun xs w c r => len_cellS (at1 _ _ _ _)
    have set1 : ∀ (xs : List Str) (i : Nat) (z : Str) (c : Cell) (r : WS) (w : W), i < xs.length → setIxD (.cell (S.length + (T.length + 1))) (.int (i : Int)) (.str z) (st S k w (T ++ c :: .lst (xs.map D.str) :: r)) = some (st S k w (T ++ c :: .lst ((xs.set i z).map D.str) :: r)) := fun xs i z c r w hi => by
      rw [set_cell (at1 _ _ _ _) hi, show S.length + (T.length + 1) = S.length + T.length + 1 from rfl, st_set1]
    have lnb : ∀ S, lenD S [.lst (wb.map D.str)] = some (.int (wb.length : Nat)) := fun S => by simp [lenD, itemsD]
    simp? [show decide ((way : Int) = 0) = false from decide_eq_false (by omega), show decide ((way : Int) = 1) = false from decide_eq_false (by omega), show decide ((way : Int) = 2) = false from decide_eq_false (by omega), show decide ((way : Int) = 3) = false from decide_eq_false (by omega), ixR rows a [] w2 ha, spa, eSplitN, cln_strs, ixR rows b [.lst (wa.map D.str)] w2 hb, spb, ln1, List.length_append]
    refine dip_ok hk g2 (by omega) (by omega) (by omega) fun d w3 f0 f1 g3 => ?_
    obtain ⟨c, rfl⟩ : ∃ b : Nat, d = (b : Int) := ⟨d.toNat, by omega⟩
    simp? [lnb]
    refine dip_ok hk g3 (by omega) (by omega) (by omega) fun d w4 h0 h1 g4 => ?_
    obtain ⟨e, rfl⟩ : ∃ b : Nat, d = (b : Int) := ⟨d.toNat, by omega⟩
    have hc : c < wa.length := by omega
    have he : e < wb.length := by omega
    have hme : wb.getD e "" ∈ wb := by
      rw [List.getD_eq_getElem?_getD, List.getElem?_eq_getElem he]
      exact List.getElem_mem _
    have hws := wt_set (a := wb.getD e "") wa c
    have hm2 := hmb _ hme
    have hls : Lows (wa.set c (wb.getD e "")) := hla.set (hlb _ hme)
    have hcs : c < (wa.set c (wb.getD e "")).length := by simpa using hc
    simp? [ix_strs (S := st S k w4 (T ++ [.lst (rows.map D.str), .lst (wa.map D.str)])) (xs := wb) he, set1 wa c (wb.getD e "") (.lst (rows.map D.str)) [] w4 hc]
    generalize wa.set c (wb.getD e "") = wc at hws hls hcs
    have done : ∀ (ys : List Str), Lows ys → wt ys ≤ wt wc → N_ [some (.cell k), some (.str s), some (.int (way : Nat)), some (.cell (S.length + T.length)), some (.int (a : Int)), some (.int (b : Int)), some (.cell (S.length + (T.length + 1))), some (.lst (wb.map D.str)), some (.int (c : Int))] (st S k w4 (T ++ [.lst ((rows.set a (Txt.join " " ys)).map D.str), .lst (wc.map D.str)])) := fun ys hy1 hy2 => by
      subst hN_
      dsimp only
      refine back _ w4 _ _ _ _ (hlo.set (low_join low_sp hy1)) ?_ (g4.mono (by omega)) (by rfl) (by exact st_at0)
      have := wt_set (a := Txt.join " " ys) rows a
      have := join_wt (y := " ") (xs := ys) rfl
      omega
    by_cases w4' : way = 4
    · have hj : joinD (st S k w4 (T ++ [.lst (rows.map D.str), .lst (wc.map D.str)])) (.str " ") (.cell (S.length + (T.length + 1))) = some (.str (Txt.join " " wc)) := joinC rfl (by simp [itemsD, at1]) (by omega)
      simp? [show decide ((way : Int) = 4) = true from decide_eq_true (by omega), hj, setR rows a (Txt.join " " wc) [.lst (wc.map D.str)] w4 ha]
      exact done wc hls (Nat.le_refl _)
    · have hcw := wt_len (xs := wc)
      have ad1 : ∀ S, addD S (.lst ((wc.take c).map D.str)) (.lst ((wc.drop (c + 1)).map D.str)) = some (.lst ((wc.take c ++ wc.drop (c + 1)).map D.str)) := fun S => by
        rw [addD_lst (small_of (by simp only [List.length_map, List.length_take, List.length_drop]; omega)), List.map_append]
      have hcut : wt (wc.take c ++ wc.drop (c + 1)) ≤ wt wc := by
        have h1 : wt (wc.take c) + wt (wc.drop c) = wt wc := by rw [← wt_app, List.take_append_drop]
        have h2 : wt (wc.drop (c + 1)) ≤ wt (wc.drop c) := by
          rw [show wc.drop (c + 1) = (wc.drop c).drop 1 from by rw [List.drop_drop]]
          exact wt_drop _ 1
        rw [wt_app]
        omega
      have hj : joinD (st S k w4 (T ++ [.lst (rows.map D.str), .lst (wc.map D.str)])) (.str " ") (.lst ((wc.take c ++ wc.drop (c + 1)).map D.str)) = some (.str (Txt.join " " (wc.take c ++ wc.drop (c + 1)))) := joinC rfl rfl (by omega)
      simp? [show decide ((way : Int) = 4) = false from decide_eq_false (by omega), sl_hiC (S := st S k w4 (T ++ [.lst (rows.map D.str), .lst (wc.map D.str)])) (j := S.length + (T.length + 1)) (xs := wc) (i := c) (at1 _ _ _ _), show ((c : Int) + 1) = ((c + 1 : Nat) : Int) from by omega, sl_loC (S := st S k w4 (T ++ [.lst (rows.map D.str), .lst (wc.map D.str)])) (j := S.length + (T.length + 1)) (xs := wc) (i := c + 1) (at1 _ _ _ _) (by omega), ad1, hj, setR rows a (Txt.join " " (wc.take c ++ wc.drop (c + 1))) [.lst (wc.map D.str)] w4 ha]
      exact done _ (hls.take.app hls.drop) hcut
end
end RV
end
section
/-! Law k13. -/
namespace RV
open PySem L2
theorem lines41 : ∀ {xs : List Str}, (∀ a ∈ xs, a.length ≤ 40) → wt xs ≤ 41 * xs.length
  | [], _ => by simp [wt]
  | a :: xs, h => by
    have h1 := h a (List.mem_cons_self ..)
    have h2 := lines41 (xs := xs) fun b hb => h b (List.mem_cons_of_mem _ hb)
    rw [wt_cons, List.length_cons]
    omega
theorem netText_410 {rs : List LR} {fs : List FR} (hL : LaidOk rs) (hF : FitsOk rs fs) (h1 : rs.length ≤ 5) (h2 : fs.length ≤ 5) : (netText rs fs).length ≤ 410 := by
  have := lines41 (xs := rs.map lineP ++ fs.map lineM) fun a ha => by
    rcases List.mem_append.mp ha with z | z
    · obtain ⟨r, hr, rfl⟩ := List.mem_map.mp z
      exact lineP_len (hL.rows r hr)
    · obtain ⟨f, hf, rfl⟩ := List.mem_map.mp z
      exact lineM_len (hF.n f hf) (hF.nmAt hL hf)
  have h3 := join_wt (y := "\n") (xs := rs.map lineP ++ fs.map lineM) rfl
  simp only [List.length_append, List.length_map] at this
  unfold netText
  omega
section
variable {A : Ad} {S T : WS} {k : Nat} {n m : Int} {w : W} {q : D → WS → Prop} {x : Xq} {s : Str} {o v : D}
theorem low_empty : low "" := by
  intro c hc
  have : ∀ c ∈ ("" : Str).cps.toList, c < 128 := by decide +kernel
  exact this c hc
theorem low_signs : low " \na9AZ_pmz" := by
  intro c hc
  have : ∀ c ∈ (" \na9AZ_pmz" : Str).cps.toList, c < 128 := by decide +kernel
  exact this c hc
theorem bentG (hk : k < S.length) (g : Good n w) (hn : n < 10000000000000) (hs : low s) (hl : s.length ≤ 20000)
    (h : ∀ s' w', low s' → s'.length ≤ 3 * (s.length + 1) + 10 → Good (n + 20) w' → q (.str s') (st S k w' T)) : G_bent_k13 A [.cell k, .str s] (st S k w T) q x := by
  have sm : small s.length = true := small_of (by omega)
  have ls : ∀ S, lenD S [.str s] = some (.int (s.length : Nat)) := fun S => len_str sm
  rw [D_bent_k13]
  unfold fnD startE
  simp only [List.map_cons, List.map_nil, List.length_cons, List.length_nil, Nat.reduceAdd, Nat.reduceSub, List.replicate, List.cons_append, List.nil_append, List.append_nil, Nat.zero_add]
  unfold B_bent_k13
  refine seq_gen fun N_ hN_ => ?_
  simp? []
  refine dip_ok hk g (by omega) (by omega) (by omega) fun d w1 d0 d1 g1 => ?_
  obtain ⟨way, rfl⟩ : ∃ b : Nat, d = (b : Int) := ⟨d.toNat, by omega⟩
  simp? [ls]
  refine dip_ok hk g1 (by omega) (by omega) (by omega) fun d w2 e0 e1 g2 => ?_
  obtain ⟨a, rfl⟩ : ∃ b : Nat, d = (b : Int) := ⟨d.toNat, by omega⟩
  simp? []
  subst hN_
  refine seq_gen fun N_ hN_ => ?_
  simp? []
  refine sign_ok hk g2 (by omega) low_signs (by decide +kernel) (by decide +kernel) fun ch w3 hch g3 => ?_
  simp? []
  subst hN_
  have hsg : low ⟨#[ch]⟩ := low_one hch
  have hsl : (⟨#[ch]⟩ : Str).length = 1 := rfl
  refine seq_gen fun N_ hN_ => ?_
  by_cases h6 : way < 6
  · simp? [show decide ((way : Int) < 6) = true from decide_eq_true (by omega)]
    refine bent_linesG hk g3 (by omega) hs hl fun s' w' h1 h2 g' => ?_
    simp? []
    exact h s' w' h1 h2 (g'.mono (by omega))
  · simp? [show decide ((way : Int) < 6) = false from decide_eq_false (by omega)]
    subst hN_
    refine seq_gen fun N_ hN_ => ?_
    by_cases h9 : way < 9
    · have mid : ∃ (c : Str) (z : Nat), low c ∧ c.length ≤ 1 ∧ z ≤ 1 ∧ (∀ S, ixD S (.lst [.str "", .str ⟨#[ch]⟩, .str ⟨#[ch]⟩]) (.int ((way : Int) - 6)) = some (.str c)) ∧ ∀ S, ixD S (.lst [.int 1, .int 0, .int 1]) (.int ((way : Int) - 6)) = some (.int (z : Int)) := by
        have : way = 6 ∨ way = 7 ∨ way = 8 := by omega
        rcases this with rfl | rfl | rfl
        · exact ⟨"", 1, low_empty, by decide, by decide, fun _ => rfl, fun _ => rfl⟩
        · exact ⟨⟨#[ch]⟩, 0, hsg, by rw [hsl]; decide, by decide, fun _ => rfl, fun _ => rfl⟩
        · exact ⟨⟨#[ch]⟩, 1, hsg, by rw [hsl]; decide, by decide, fun _ => rfl, fun _ => rfl⟩
      obtain ⟨c, z, hc1, hc2, hz, hx1, hx2⟩ := mid
      have c1 := cut_len (s := s) (lo := none) (hi := some (a : Int))
      have c2 := cut_len (s := s) (lo := some ((a : Int) + (z : Int))) (hi := none)
      have a1 : ∀ S, addD S (.str (cutS s none (some (a : Int)))) (.str c) = some (.str (cutS s none (some (a : Int)) ++ c)) := fun S => addS (by omega)
      have a2 : ∀ S, addD S (.str (cutS s none (some (a : Int)) ++ c)) (.str (cutS s (some ((a : Int) + (z : Int))) none)) = some (.str (cutS s none (some (a : Int)) ++ c ++ cutS s (some ((a : Int) + (z : Int))) none)) := fun S => addS (by rw [cat_len]; omega)
      simp? [show decide ((way : Int) < 9) = true from decide_eq_true (by omega), sl_str sm, hx1, hx2, a1, a2]
      refine h _ w3 (low_cat (low_cat (low_cut hs) hc1) (low_cut hs)) ?_ (g3.mono (by omega))
      rw [cat_len, cat_len]
      omega
    · simp? [show decide ((way : Int) < 9) = false from decide_eq_false (by omega)]
      subst hN_
      simp? []
      refine dip_ok hk g3 (by omega) (by omega) (by omega) fun d w4 f0 f1 g4 => ?_
      obtain ⟨c, hc1, hc2, hc3⟩ : ∃ c : Str, ixD (st S k w4 T) (.lst [.str "\n", .str " ", .str "\n\n", .str "\npipe q a b", .str "\nmeter q p", .str " sealed"]) (.int d) = some (.str c) ∧ low c ∧ c.length ≤ 12 := by
        have lw : ∀ c ∈ [("\n" : Str), " ", "\n\n", "\npipe q a b", "\nmeter q p", " sealed"], low c ∧ c.length ≤ 12 := by
          intro c hc
          have : ∀ c ∈ [("\n" : Str), " ", "\n\n", "\npipe q a b", "\nmeter q p", " sealed"], (∀ z ∈ c.cps.toList, z < 128) ∧ c.length ≤ 12 := by decide +kernel
          exact this c hc
        have : d = 0 ∨ d = 1 ∨ d = 2 ∨ d = 3 ∨ d = 4 ∨ d = 5 := by omega
        rcases this with rfl | rfl | rfl | rfl | rfl | rfl
        · exact ⟨_, rfl, lw _ (by simp)⟩
        · exact ⟨_, rfl, lw _ (by simp)⟩
        · exact ⟨_, rfl, lw _ (by simp)⟩
        · exact ⟨_, rfl, lw _ (by simp)⟩
        · exact ⟨_, rfl, lw _ (by simp)⟩
        · exact ⟨_, rfl, lw _ (by simp)⟩
      simp? [hc1, addS (S := st S k w4 T) (a := s) (b := c) (by omega)]
      refine h _ w4 (low_cat hs hc2) ?_ (g4.mono (by omega))
      rw [cat_len]
      omega
theorem eq_pairE {o : D} {pd : PyData} (h : Out o pd) : eqD S (.lst [o, o]) (.lst [o, o]) = some (.bl true) := by
  have pl : D.pyL [o, o] = some [pd, pd] := by simp [D.pyL, h.py]
  refine eqD_same (p := .list [pd, pd]) rfl ?_ ?_ ?_ ?_
  · simp only [pyS, D.py, pl, Option.map_some]
  · simp only [pyS, D.py, pl, Option.map_some]
  · simp [PyData.canLay0, PyData.canLayAll0, h.cl]
  · have := h.dp
    simp [PyData.depth, PyData.depthAll]
    omega
theorem s_text : Said "InvalidText" ["InvalidText", "BadValue"] 5 := ⟨⟨by decide +kernel, by decide +kernel, by decide +kernel⟩, by decide +kernel, by decide +kernel, by decide +kernel, by decide +kernel⟩
/-- what is no text of a net is refused -/
theorem refusedG (hA : NetsS A) (hE : ErrsA A) (hT : S[0]? = some (.tab (A.t "_law_read_right") "_law_read_right.<locals>.<lambda>")) {t : Value} {r : Str} (hv : Vl A v t r)
    (hr : ∀ (q : D → WS → Prop) x, x (.exc (A.c "InvalidText") [("given", v)]) S → G_Net_read A [.adr (A.c "Net"), v] S q x) {kt : Kt} {e2 : Option D} (hq : kt.rt (.bl true) S) :
    sSeq (sAsg 2 (eSeq .lst (aCons (eCaught 0 (A.t "_law_read_right") "_law_read_right.<locals>.<lambda>" (errL A errNames) 3 1 2 (T_caught_k10 A) (S_caught_k10 A) (eCm (A.c "Net") 2 (G_Net_read A) (eC (.adr (A.c "Net"))) (aCons (eVar 0) (aNil)))) (aNil)))) (sRet (eOp eqD (eOp addD (eVar 2) (eSeq .lst (aCons (eCaught 0 (A.t "_law_read_right") "_law_read_right.<locals>.<lambda>" (errL A errNames) 3 1 2 (T_caught_k10 A) (S_caught_k10 A) (eCmK (A.c "Net") 2 1 (G_Net_read A) (perm [0]) (eC (.adr (A.c "Net"))) (aCons (eVar 0) (aNil)))) (aNil)))) (eOp repLD (eSeq .lst (aCons (eSeq .lst (aCons (eC (.int 5)) (aCons (eCall reprD2 (aCons (eVar 0) (aNil))) (aNil)))) (aNil))) (eC (.int 2)))))
      [some v, some .non, e2] S kt := by
  have e5 : ∀ S, addD S (.lst [.lst [.int ((5 : Nat) : Int), .str r]]) (.lst [.lst [.int ((5 : Nat) : Int), .str r]]) = some (.lst [.lst [.int ((5 : Nat) : Int), .str r], .lst [.int ((5 : Nat) : Int), .str r]]) := fun S => addD_lst (small_of (by simp))
  have e6 : ∀ S, repLD S (.lst [.lst [.int 5, .str r]]) (.int 2) = some (.lst [.lst [.int 5, .str r], .lst [.int 5, .str r]]) := fun S => rfl
  have e7 : ∀ S, eqD S (.lst [.lst [.int ((5 : Nat) : Int), .str r], .lst [.int ((5 : Nat) : Int), .str r]]) (.lst [.lst [.int 5, .str r], .lst [.int 5, .str r]]) = some (.bl true) := fun S => eq_pairE (out_i hv.ok)
  refine seq_gen fun N_ hN_ => ?_
  simp? [hT]
  intro f
  refine hr _ _ ?_
  refine said_x hA hE s_text (by decide) hv ?_
  simp? []
  subst hN_
  simp? [hT]
  intro f
  simp? [perm0]
  refine hr _ _ ?_
  refine said_x hA hE s_text (by decide) hv ?_
  simp? [e5, hv.rp, e6, e7]
  exact hq
theorem read_strG (hA : NetsS A) (hE : ErrsA A) (hT : S[0]? = some (.tab (A.t "_law_read_right") "_law_read_right.<locals>.<lambda>")) (hs : low s) (hl : s.length ≤ 5000) (hq : q (.bl true) S) : G_read_right_k13 A [.str s] S q x := by
  have hv : Vl A (.str s) (.type "str") (PyData.str s).shown := VlL hs (by omega)
  -- what is none
  have none_ : (¬ ∃ rs fs, IsNet s rs fs) → ∀ (N : RV.Env → WS → Prop), (N = fun ρ' S' => (sSeq (sIf (bBl (eOp (isND false) (eVar 1) (eC .non))) (sSeq (sAsg 2 (eSeq .lst (aCons (eCaught 0 (A.t "_law_read_right") "_law_read_right.<locals>.<lambda>" (errL A errNames) 3 1 2 (T_caught_k10 A) (S_caught_k10 A) (eCm (A.c "Net") 2 (G_Net_read A) (eC (.adr (A.c "Net"))) (aCons (eVar 0) (aNil)))) (aNil)))) (sRet (eOp eqD (eOp addD (eVar 2) (eSeq .lst (aCons (eCaught 0 (A.t "_law_read_right") "_law_read_right.<locals>.<lambda>" (errL A errNames) 3 1 2 (T_caught_k10 A) (S_caught_k10 A) (eCmK (A.c "Net") 2 1 (G_Net_read A) (perm [0]) (eC (.adr (A.c "Net"))) (aCons (eVar 0) (aNil)))) (aNil)))) (eOp repLD (eSeq .lst (aCons (eSeq .lst (aCons (eC (.int 5)) (aCons (eCall reprD2 (aCons (eVar 0) (aNil))) (aNil)))) (aNil))) (eC (.int 2)))))) (sNil)) (sRet (eAnd (eOp eqD (eCaught 0 (A.t "_law_read_right") "_law_read_right.<locals>.<lambda>" (errL A errNames) 3 1 2 (T_caught_k10 A) (S_caught_k10 A) (eCm (A.c "Net") 2 (G_Net_read A) (eC (.adr (A.c "Net"))) (aCons (eVar 0) (aNil)))) (eSeq .lst (aCons (eC (.str "told")) (aCons (eOp addD (eC (.str "net ")) (eVar 0)) (aNil))))) (eFn 3 (G_is_k11 A) [] (aCons (eCm (A.c "Net") 2 (G_Net_read A) (eC (.adr (A.c "Net"))) (aCons (eVar 0) (aNil))) (aCons (eOp ixD (eVar 1) (eC (.int 0))) (aCons (eOp ixD (eVar 1) (eC (.int 1))) (aNil)))))))) ρ' S' ⟨fun _ S' => fin S.length .non S' q, fun d S' => fin S.length d S' q, fun _ _ => False, fun _ _ => False, fun e _ S' => finX S.length e S' x⟩) →
      N [some (.str s), some .non, none] S := fun hn N hN => by
    subst hN
    refine seq_gen fun N_ hN_ => ?_
    refine sIf_by (b := true) (fun P z hp => by simp? [show isND false S .non .non = some (.bl true) from rfl]; exact hp) ?_
    rw [iteB_t]
    refine refusedG hA hE hT hv (fun q x hx => read_any hA.toNetsA hs hl (fun rs fs h => absurd ⟨rs, fs, h⟩ hn) fun _ => hx) ?_
    simp? []
    exact hq
  rw [D_read_right_k13]
  unfold fnD startE
  simp only [List.map_cons, List.map_nil, List.length_cons, List.length_nil, Nat.reduceAdd, Nat.reduceSub, List.replicate, List.cons_append, List.nil_append, List.append_nil, Nat.zero_add]
  unfold B_read_right_k13
  refine seq_gen fun N_ hN_ => ?_
  simp? [isi_str]
  refine net_inG hl (fun e => ?_) (fun z e => ?_)
  · refine none_ (fun ⟨rs, fs, h⟩ => ?_) _ hN_
    rw [net_lines h] at e
    cases e
  · by_cases hz : 0 < z.1.length ∧ z.1.length < 13 ∧ z.2.length < 13
    · have hI := lines_net e hz.1 hz.2.1 hz.2.2
      obtain ⟨hL, hF, hst⟩ := hI
      rw [if_pos hz]
      simp? []
      subst hN_
      obtain ⟨rs, fs⟩ := z
      dsimp only at hL hF hst ⊢
      subst hst
      have hlt := netText_len hL hF
      have hn4 : ∀ S, addD S (.str "net ") (.str (netText rs fs)) = some (.str ("net " ++ netText rs fs)) := fun S => addS (by rw [len_net4]; omega)
      have ho := out_t (r := "net " ++ netText rs fs) (low_ok (low_cat low_net4 hs))
      have ee : ∀ S, eqD S (.lst [.str "told", .str ("net " ++ netText rs fs)]) (.lst [.str "told", .str ("net " ++ netText rs fs)]) = some (.bl true) := fun S => eqD_same rfl ho.py ho.py ho.cl (by have := ho.dp; omega)
      have isn : ∀ S d, isND false S (.lst d) .non = some (.bl false) := fun S d => rfl
      have z0 : ∀ (S : WS) (a b : D), ixD S (.lst [a, b]) (.int 0) = some a := fun _ _ _ => rfl
      have z1 : ∀ (S : WS) (a b : D), ixD S (.lst [a, b]) (.int 1) = some b := fun _ _ _ => rfl
      refine seq_gen fun N_ hN_ => ?_
      simp? [isn]
      subst hN_
      simp? [hT]
      intro f
      refine read_ok hA.toNetsA hL hF ?_
      rw [told_eq fun q x => seen_net hA hL hF]
      simp? [hn4, ee]
      refine read_ok hA.toNetsA hL hF ?_
      simp? [z0, z1]
      refine is_ok hA.toNetsA hL hF ?_
      simp? []
      exact hq
    · rw [if_neg hz]
      simp? []
      refine none_ (fun ⟨rs, fs, h⟩ => ?_) _ hN_
      have := net_lines h
      rw [e] at this
      cases this
      obtain ⟨hL, hF, _⟩ := h
      exact hz ⟨hL.lo, by show rs.length < 13; have := hL.hi; omega, by show fs.length < 13; have := hF.hi; omega⟩
theorem read_oddG (hA : NetsS A) (hE : ErrsA A) (hT : S[0]? = some (.tab (A.t "_law_read_right") "_law_read_right.<locals>.<lambda>")) {t : Value} {r : Str} (hv : Vl A v t r) (ht : t ≠ .type "str") (hq : q (.bl true) S) : G_read_right_k13 A [v] S q x := by
  have isn : isND false S .non .non = some (.bl true) := rfl
  rw [D_read_right_k13]
  unfold fnD startE
  simp only [List.map_cons, List.map_nil, List.length_cons, List.length_nil, Nat.reduceAdd, Nat.reduceSub, List.replicate, List.cons_append, List.nil_append, List.append_nil, Nat.zero_add]
  unfold B_read_right_k13
  refine seq_gen fun N_ hN_ => ?_
  simp? [isi_nostr hv ht]
  subst hN_
  refine seq_gen fun N_ hN_ => ?_
  refine sIf_by (b := true) (fun P z hp => by simp? [isn]; exact hp) ?_
  rw [iteB_t]
  refine refusedG hA hE hT hv (fun q x hx => ?_) ?_
  · rw [D_Net_read]
    unfold fnD startE
    simp only [List.map_cons, List.map_nil, List.length_cons, List.length_nil, Nat.reduceAdd, Nat.reduceSub, List.replicate, List.cons_append, List.nil_append, List.append_nil, Nat.zero_add]
    unfold B_Net_read
    simp? [isi_nostr hv ht]
    exact hx
  · simp? []
    exact hq
end
end RV
end
section
/-! Law k13: one drawn net, and the law. -/
namespace RV
open PySem L2
section
variable {A : Ad} {S T : WS} {k : Nat} {n m : Int} {w : W} {q : D → WS → Prop} {x : Xq} {s : Str} {o v d : D}
theorem odd_low : d ∈ odds → (∃ s, d = .str s ∧ low s ∧ s.length ≤ 5000) ∨ ∀ s, d ≠ .str s := by
  have lw : ∀ s ∈ [("" : Str), "A", "1a", "a b", "a_b", "abcdefghi"], low s ∧ s.length ≤ 5000 := by
    intro s hs
    have : ∀ s ∈ [("" : Str), "A", "1a", "a b", "a_b", "abcdefghi"], (∀ z ∈ s.cps.toList, z < 128) ∧ s.length ≤ 5000 := by decide +kernel
    exact this s hs
  intro hd
  cases d with
  | str s =>
    refine .inl ⟨s, rfl, lw s ?_⟩
    simp only [odds, List.mem_cons, D.str.injEq, reduceCtorEq, false_or, or_false, List.not_mem_nil] at hd
    simpa using hd
  | _ => exact .inr fun s z => nomatch z
theorem right_ok (hA : NetsS A) (hE : ErrsA A) (hk : k < S.length) (hk0 : k ≠ 0) (hT : S[0]? = some (.tab (A.t "_law_read_right") "_law_read_right.<locals>.<lambda>")) (g : Good n w) (hn : n < 1000000000000)
    (h : ∀ w', Good (n + 2000) w' → q (.bl true) (st S k w' T)) : G_right_k13 A [.cell k] (st S k w T) q x := by
  rw [D_right_k13]
  unfold fnD startE
  simp only [List.map_cons, List.map_nil, List.length_cons, List.length_nil, Nat.reduceAdd, Nat.reduceSub, List.replicate, List.cons_append, List.nil_append, List.append_nil, Nat.zero_add]
  unfold B_right_k13
  refine seq_gen fun N_ hN_ => ?_
  simp? []
  refine laid_ok hk g (by omega) (by omega) (by omega) (by omega) fun rs w1 hL g1 hr => ?_
  subst hN_
  refine seq_gen fun N_ hN_ => ?_
  simp? []
  refine fits_ok hk hL g1 (by omega) (by omega) (by omega) fun fs w2 hF g2 hf => ?_
  simp? []
  rw [text_ok hL hF]
  subst hN_
  have l0 := netText_410 hL hF (by omega) (by omega)
  have w0 := low_lines hL hF
  generalize netText rs fs = s0 at *
  refine seq_gen fun N_ hN_ => ?_
  simp? []
  refine bentG hk g2 (by omega) w0 (by omega) fun s1 w3 w1 l1 g3 => ?_
  subst hN_
  simp? []
  refine bentG hk g3 (by omega) w1 (by omega) fun s2 w4 w2 l2 g4 => ?_
  simp? []
  refine odd_ok hk g4 (by omega) fun d t r w5 hd hv g5 => ?_
  have hT' := st_tab (w := w5) (T := T) hT hk0.symm
  have e1 : ([.str s0, .str s1, .str s2, d] : List D) = [.str s0, .str s1, .str s2, d].map id := by simp
  have ha : ∀ S, allD S [.lst ([.str s0, .str s1, .str s2, d].map fun _ : D => D.bl true)] = some (.bl true) := fun S => rfl
  rw [e1]
  refine lc_impE (inj := id) (mc := bYes) (p := fun _ => true) (g := fun _ => D.bl true) [.str s0, .str s1, .str s2, d] [] trivial (fun b hb => ⟨_, rfl, fun q x h => h, fun _ q x h => ?_⟩) ?_
  · unfold C_right_k13_0
    simp? []
    simp only [List.mem_cons, List.not_mem_nil, or_false] at hb
    rcases hb with e | e | e | e <;> subst e
    · exact read_strG hA hE hT' w0 (by omega) h
    · exact read_strG hA hE hT' w1 (by omega) h
    · exact read_strG hA hE hT' w2 (by omega) h
    · rcases odd_low hd with ⟨s, rfl, hs, hl⟩ | hns
      · exact read_strG hA hE hT' hs hl h
      · refine read_oddG hA hE hT' hv (fun e => ?_) h
        obtain ⟨s, e⟩ := hv.st e
        exact hns s e
  · rw [List.filter_eq_self.mpr (by simp), List.nil_append]
    simp? [ha]
    exact h _ (g5.mono (by omega))
end
/-! ### the law -/
/-- a short text of the first 128 signs -/
def lowD : D → Bool
  | .str s => s.cps.toList.all (fun c => decide (c < 128)) && decide (s.length ≤ 5000)
  | _ => false
theorem lowD_str {d : D} (h : lowD d = true) : ∃ s, d = .str s ∧ low s ∧ s.length ≤ 5000 := by
  cases d with
  | str s =>
    simp only [lowD, Bool.and_eq_true] at h
    exact ⟨s, rfl, fun c hc => of_decide_eq_true (List.all_eq_true.mp h.1 c hc), of_decide_eq_true h.2⟩
  | _ => simp [lowD] at h
theorem law_true_law_k13 {A : Ad} {ns : List Int} {q : D → WS → Prop} {x : Xq} (hA : AdOk A ["Sum", "Pipe", "Meter", "Net"]) (hE : (["Sum", "Pipe", "Meter", "Net", "BadName", "BadValue", "InvalidEnd", "InvalidFlag", "InvalidMeters", "InvalidName", "InvalidPipes", "InvalidText", "NoAnswer", "NotAMeter", "UnknownName"].map A.c).Nodup) (hl : ns.length ≤ 63) (hq : q (.bl true) (tabs A)) : G_law_k13 A [.scr ns] (tabs A) q x := by
  have hE : ErrsA A := fun m n hm hn e => inj_of_nodup hE m n (List.mem_append_right ["Sum", "Pipe", "Meter", "Net"] hm) (List.mem_append_right ["Sum", "Pipe", "Meter", "Net"] hn) e
  have hA : NetsS A := by
    have hn := hA.nd
    simp only [List.map_cons, List.map_nil, List.nodup_cons, List.mem_cons, List.not_mem_nil, or_false, not_or] at hn
    exact { p := by rw [hA.here]; simp, m := by rw [hA.here]; simp, n := by rw [hA.here]; simp, pm := hn.2.1.1, pn := hn.2.1.2, mn := hn.2.2.1, s := by rw [hA.here]; simp, sp := hn.1.1, sm := hn.1.2.1, sn := hn.1.2.2 }
  rw [D_law_k13]
  unfold fnD startE
  simp only [List.map_cons, List.map_nil, List.length_cons, List.length_nil, Nat.reduceAdd, Nat.reduceSub, List.replicate, List.cons_append, List.nil_append, List.append_nil, Nat.zero_add]
  unfold B_law_k13
  refine seq_gen fun N_ hN_ => ?_
  simp? []
  refine ⟨rfl, ?_⟩
  subst hN_
  refine seq_gen fun N_ hN_ => ?_
  simp? []
  unfold eAddN
  simp? []
  have ac : addC (tabs A ++ [Cell.lst [.str "", .str "\n", .str "pipe a b b", .str "pipe a b c\n", .str "pipe a b c\nmeter m a unsealed", .str "meter m a\npipe a b c"]]) (.cell (tabs A).length) (.lst [.str "pipe a b", .str "pipe a b c\npipe a d e", .str "pipe a b c\nmeter m b", .str "pipe a b c d"]) = some (.lst [.str "", .str "\n", .str "pipe a b b", .str "pipe a b c\n", .str "pipe a b c\nmeter m a unsealed", .str "meter m a\npipe a b c", .str "pipe a b", .str "pipe a b c\npipe a d e", .str "pipe a b c\nmeter m b", .str "pipe a b c d"]) := rfl
  rw [ac, onS_some]
  refine (show D.cleanL 0 _ = true ∧ _ from ⟨rfl, ?_⟩)
  show N_ [some (D.scr ns), some (D.cell 2), none, none, none, none] (tabs A ++ [Cell.lst [.str "", .str "\n", .str "pipe a b b", .str "pipe a b c\n", .str "pipe a b c\nmeter m a unsealed", .str "meter m a\npipe a b c"]] ++ [Cell.lst [.str "", .str "\n", .str "pipe a b b", .str "pipe a b c\n", .str "pipe a b c\nmeter m a unsealed", .str "meter m a\npipe a b c", .str "pipe a b", .str "pipe a b c\npipe a d e", .str "pipe a b c\nmeter m b", .str "pipe a b c d"]])
  subst hN_
  refine seq_gen fun N_ hN_ => ?_
  have g2 : ∀ (c : Cell) (d : Cell), (tabs A ++ [c, d])[2]? = some d := fun _ _ => rfl
  have s2 : ∀ (c d e : Cell), (tabs A ++ [c, d]).set 2 e = tabs A ++ [c, e] := fun _ _ _ => rfl
  simp? [g2, s2]
  refine ⟨⟨rfl, rfl⟩, ?_⟩
  subst hN_
  refine seq_gen fun N_ hN_ => ?_
  refine sIf_by (b := false) (fun P z hp => ?_) ?_
  · simp? [g2]
    refine ⟨rfl, ?_⟩
    have key : ∀ (ds : List D) (N : WS → Prop) (S : WS) (ρ : RV.Env) (Q : List D → WS → Prop), N S → S[0]? = some (.tab (A.t "_law_read_right") "_law_read_right.<locals>.<lambda>") → (∀ d, ∃ ρ1, tName 4 d ρ = some ρ1 ∧ look ρ1 4 = some d) → ds.all lowD = true → Q (ds.map fun _ => .bl true) S → lcD N (tName 4) bYes (C_law_k13_0 A) ρ ds [] S Q := fun ds N S ρ Q hN hT hρ hds hQ => by
      have hl := List.all_eq_true.mp hds
      have := lc_impE (N := N) (f := tName 4) (me := C_law_k13_0 A) (ρ := ρ) (S := S) (q := Q) (inj := id) (mc := bYes) (p := fun _ => true) (g := fun _ => D.bl true) ds [] hN (fun b hb => by
        obtain ⟨ρ1, h1, h2⟩ := hρ b
        refine ⟨ρ1, h1, fun q x h => h, fun _ q x h => ?_⟩
        obtain ⟨s, rfl, hs, hl⟩ := lowD_str (hl b hb)
        unfold C_law_k13_0
        simp? []
        rw [h2, onS_some]
        exact read_strG hA hE hT hs hl h) (by rw [List.filter_eq_self.mpr (by simp), List.nil_append]; exact hQ)
      rwa [List.map_id] at this
    refine key _ _ _ _ _ rfl rfl (fun d => ⟨_, rfl, rfl⟩) (by decide +kernel) ?_
    have ha : ∀ S, allD S [.lst (List.replicate 11 (.bl true))] = some (.bl true) := fun S => allD_true
    show onS (allD _ [.lst (List.replicate 11 (.bl true))]) _
    simp? [ha]
    exact hp
  rw [iteB_f]
  simp? []
  subst hN_
  refine seq_gen fun N_ hN_ => ?_
  simp? [len_scr, min2_, max2_]
  obtain ⟨j, hj, ej⟩ := max_min (ns := ns) (c := 4) (by decide)
  have ej' : (if (if (4 : Int) < (ns.length : Nat) then (4 : Int) else (ns.length : Nat)) > 2 then (if (4 : Int) < (ns.length : Nat) then (4 : Int) else (ns.length : Nat)) else 2) = ((j : Nat) : Int) := ej
  rw [ej']
  refine ⟨⟨by omega, by omega⟩, ?_⟩
  have go : ∀ (js : List Nat) (R : WS) (o1 o2 o3 o4 o5 : Option D) (kt : Kt), (∀ i ∈ js, i < 4) → (∀ o1 o2 o3 o4 o5 R, kt.nx [some (.scr ns), o1, o2, o3, o4, o5] (tabs A ++ R)) →
      forD any_ (tName 2) (L_law_k13_0 A)
        (js.map fun (i : Nat) => D.int (0 + (i : Int))) [some (.scr ns), o1, o2, o3, o4, o5] (tabs A ++ R) kt := fun js => by
    induction js with
    | nil =>
      intro R o1 o2 o3 o4 o5 kt hj hk
      exact ⟨trivial, hk _ _ _ _ _ _⟩
    | cons i js ih =>
      intro R o1 o2 o3 o4 o5 kt hj hk
      have h4 := hj i (List.mem_cons_self ..)
      refine for_name trivial ?_
      unfold L_law_k13_0
      refine seq_gen fun N_ hN_ => ?_
      simp? []
      refine well_ok (by omega) (by omega) fun w g => ?_
      subst hN_
      simp? []
      refine ⟨⟨by omega, by omega⟩, rfl, ?_⟩
      have hlen : (tabs A ++ R).length = 1 + R.length := by simp [tabs]; omega
      rw [← List.append_assoc, st_new]
      refine lc_well (c := 2000) (B := 1000000) (by decide) (upto 6) [] 0 w g (by rw [show (upto 6).length = 6 from rfl]; decide) (fun d hd => ⟨_, rfl, fun n w1 q g1 hn hq => ?_⟩) fun w2 g2 => ?_
      · have t1 : (tabs A ++ R ++ [w.d])[0]? = some (.tab (A.t "_law_read_right") "_law_read_right.<locals>.<lambda>") := rfl
        have hlt' : (tabs A ++ R).length < (tabs A ++ R ++ [w.d]).length := by simp
        unfold C_law_k13_1
        simp? []
        refine right_ok hA hE hlt' (by rw [hlen]; omega) t1 g1 (by omega) fun w3 g3 => ?_
        exact hq w3 g3
      · rw [st_old]
        have ha : ∀ S, allD S [.lst (List.replicate (upto 6).length (.bl true))] = some (.bl true) := fun S => allD_true
        rw [List.nil_append]
        simp? [ha]
        exact ih _ _ _ _ _ _ kt (fun i hi => hj i (List.mem_cons_of_mem _ hi)) hk
  refine go (List.range j) [_, _] _ none none none none _ (fun i hi => by have := List.mem_range.mp hi; omega) fun o1 o2 o3 o4 o5 R => ?_
  dsimp only
  subst hN_
  simp? []
  cases R with
  | nil => exact hq
  | cons c R =>
    rw [fin_app rfl (fun i z => by cases z)]
    exact hq
end RV
end
section

end
section
open PySem PySem.W PySem.Calls PyProof.Rows
theorem PySem.Challenge.cw_ringvotes_k13_net_texts_that_are_none_holds : PySem.Challenge.rw_ringvotes_k13_net_texts_that_are_none.Holds := by
  w_on; o_law
  refine HandSHeadRun.head_any (r := OpenLaw.row PySem.Challenge.rw_ringvotes_k13_net_texts_that_are_none) (q := view (OpenLaw.row PySem.Challenge.rw_ringvotes_k13_net_texts_that_are_none).prog [68]) (H := K13.hk) (ob := K13.ob) (M := 40000) (loose := [("_wall" : PySem.Str), ("BadValue" : PySem.Str), ("BadName" : PySem.Str), ("NoAnswer" : PySem.Str), ("InvalidName" : PySem.Str), ("InvalidEnd" : PySem.Str), ("InvalidFlag" : PySem.Str), ("InvalidText" : PySem.Str), ("InvalidNumber" : PySem.Str), ("NotAMeter" : PySem.Str), ("NotASum" : PySem.Str), ("InvalidPipes" : PySem.Str), ("InvalidMeters" : PySem.Str), ("InvalidTerms" : PySem.Str), ("UnknownName" : PySem.Str), ("MOST_PIPES" : PySem.Str), ("MOST_METERS" : PySem.Str), ("LETTERS" : PySem.Str), ("DIGITS" : PySem.Str), ("LONGEST_NAME" : PySem.Str), ("BLOCK" : PySem.Str), ("is_integer" : PySem.Str), ("is_name" : PySem.Str), ("check_name" : PySem.Str), ("read_number" : PySem.Str), ("digits_of" : PySem.Str), ("check_terms" : PySem.Str), ("merged" : PySem.Str), ("scaled" : PySem.Str), ("term_text" : PySem.Str), ("text_of" : PySem.Str), ("read_term" : PySem.Str), ("read_terms" : PySem.Str), ("Sum" : PySem.Str), ("check_sum" : PySem.Str), ("check_factor" : PySem.Str), ("Pipe" : PySem.Str), ("Meter" : PySem.Str), ("check_pipes" : PySem.Str), ("check_meters" : PySem.Str), ("line_of" : PySem.Str), ("item_of" : PySem.Str), ("Net" : PySem.Str), ("_law_well" : PySem.Str), ("_law_dip" : PySem.Str), ("_law_name" : PySem.Str), ("_law_fresh" : PySem.Str), ("_law_sign" : PySem.Str), ("_law_odd" : PySem.Str), ("_law_laid" : PySem.Str), ("_law_fits" : PySem.Str), ("_law_net_text" : PySem.Str), ("_law_is" : PySem.Str), ("_law_seen" : PySem.Str), ("_law_said" : PySem.Str), ("_law_caught" : PySem.Str), ("_law_is_name" : PySem.Str), ("_law_taken" : PySem.Str), ("_law_net_in" : PySem.Str), ("_law_bent_lines" : PySem.Str), ("_law_bent" : PySem.Str), ("_law_read_right" : PySem.Str), ("_law_right" : PySem.Str)]) (d := HandSHeadRun.topDef (OpenLaw.row PySem.Challenge.rw_ringvotes_k13_net_texts_that_are_none).prog 68) (kwd := []) K13.ob_eq
    (by kernel_rfl) (fun s => by kernel_rfl) K13.run (by kernel_rfl) (by kernel_rfl) (by kernel_rfl) (by rfl) (by first | assumption | decide +kernel) (by decide +kernel) ⟨rfl, rfl, rfl, rfl, rfl, by decide +kernel⟩ ?hw ?hc
  case hw => w_witness2
  case hc =>
    refine RV.walk_GT (nn := false) (l := PySem.Challenge.rw_ringvotes_k13_net_texts_that_are_none) (n := 63) (k := 12) (x := "_law_cells") rfl (by decide) (by kernel_rfl) ⟨rfl, by decide, by decide⟩ ?F
    intro w mg fa h Y G hmg0
    obtain ⟨K, KX, c, cx, ct⟩ := Y
    have hmg : mg ("law" : PySem.Str) = some (.ref fa) := by
      have e : (HandSHeadRun.topDef (OpenLaw.row PySem.Challenge.rw_ringvotes_k13_net_texts_that_are_none).prog 68).name = ("law" : PySem.Str) := by kernel_rfl
      rw [← e]
      exact hmg0
    obtain ⟨fd, hb, hF⟩ := K13.facts (P := (PySem.Challenge.rw_ringvotes_k13_net_texts_that_are_none).prog) (w := w) KX G hmg c cx
    exact ⟨K, fd, RV.G_law_k13 (K13.ad K), K13.tf.map (He.cT K), K13.tq, KX, fun t ht => by
        obtain ⟨p, hp, rfl⟩ := List.mem_map.mp ht
        exact ct.empty p hp, fun t ht => by
        obtain ⟨p, hp, rfl⟩ := List.mem_map.mp ht
        exact ct.out p hp, fun t ht => by
        obtain ⟨p, hp, rfl⟩ := List.mem_map.mp ht
        exact PySem.W.codeHd_of_K KX (ct.hd p hp), K13.tabs_nd cx, rfl, hb, fun ns q x hl hq => RV.law_true_law_k13 (K13.ad_ok cx) (K13.ad_nd cx) hl hq, hF⟩
end
end
