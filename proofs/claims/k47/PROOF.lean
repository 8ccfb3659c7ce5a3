import PyProof.Rows.All
import Wide.All
import OpenK.AllK
import Wide.FinOn
import HandS.ForMost
import HandS.ForExc
import HandS.Property
import HandS.MakeKw
import HandS.MakeKwOnly
import HandS.WideBits
import HandS.IsInst
import HandS.OwnEq
import HandS.Flow
import HandS.ExcCtx
import HandS.ExcInit
import HandS.HotCalls
import HandS.SuiteRaise
import HandS.RaiseFrom
import HandS.ExcInitHot
import HandS.Lambda
import HandS.Style
import HandS.Head0
import HandS.Head1
import HandS.Head2
import HandS.HeadEnd
import HandS.HeadHook1
import HandS.HeadHook2
import HandS.HeadHook3
import HandS.HeadHook4
import KE.KStateDown
import HandS.HeadNt
import HandS.ClsMeth
import HandS.Star
import HandS.FStr
import HandS.CallLocal
import HandS.RaiseMore
import HandS.Iter
import KE.GoesEnum
import KE.KCallOwn
import KE.KExcInit
import HandS.ExcIs
import HandS.ExcField
import HandS.Dict
import HandS.EndTab
import KE.KOpsOwn
import HandS.Deep
import HandS.Set
import HandS.SetFor
import HandS.More
import HandS.Strs
import HandS.Text
import HandS.Wide
import OpenK.KMeth
import OpenK.KOps
import PyProof.WalksMore
import HandS.Zip
import HandS.DictComp
import HandS.SetBool
import HandS.TupLe
import HandS.TryOnly
import PyProof.Raises
import PySem.Challenge.RW_ringvotes_k47_rules_made
import PyProof.EqAt
import HandS.Conv
import KE.KDictZip
import HandS.TupAny
import HandS.MethStar
import KE.GoesEnumKw
import HandS.Nested
import KE.KItemsList
import HandS.ListItems
import KE.KSortTupG
import HandS.TupSets
import HandS.Small
import HandS.TupMul
import PyProof.Rows.Range3
import PyProof.StrBlock2
set_option Elab.async false
set_option linter.all false
set_option maxRecDepth 100000
set_option maxHeartbeats 0
section
/-! Data without a heap (D), how it lies in a heap (Rp), and what a piece of the text computes over it. -/
namespace RV
open PySem L2
inductive D where
  | non
  | bl (b : Bool)
  | int (i : Int)
  | str (s : Str)
  | ty (n : String)
  | adr (a : Addr)
  | cell (k : Nat)
  | scr (ns : List Int)
  | tup (ds : List D)
  | lst (ds : List D)
  | obj (C : Addr) (fs : List (Str × D))
  | dic (kvs : List (Key × D))
  | exc (C : Addr) (fs : List (Str × D))
  | exv (a C d : Addr) (fs : List (Str × D))
  | ptu (ds : List D)
  | clo (f : Addr) (o : HO) (c : Addr) (o2 : HO) (cs : List D) (vs : List V)

/-- a tuple known exactly, without an attribute dict -/
def FzT (F : Hp) (a : Addr) (xs : List V) : Prop := ∃ o : Obj, F a = some (.frz o (.tup xs)) ∧ o.dict = none
mutual
inductive Rp (K : PySem.W.Frag) (as : List Addr) (F : Hp) : D → V → Prop where
  | non : Rp K as F .non .non
  | bl (b : Bool) : Rp K as F (.bl b) (.bl b)
  | int (i : Int) : Rp K as F (.int i) (.int i)
  | str (s : Str) : Rp K as F (.str s) (.str s)
  | ty (n : String) : Rp K as F (.ty n) (.ty n)
  | adr (a : Addr) : Rp K as F (.adr a) (.ref a)
  | cell {k : Nat} {a : Addr} : as[k]? = some a → Rp K as F (.cell k) (.ref a)
  | scr {a : Addr} {ns : List Int} : SqL K F a (ns.map V.int) → Rp K as F (.scr ns) (.ref a)
  | tup {a : Addr} {xs : List V} {ds : List D} : SqT K F a xs → RpL K as F ds xs → Rp K as F (.tup ds) (.ref a)
  | lst {a : Addr} {xs : List V} {ds : List D} : F a = some (.lst xs) → RpL K as F ds xs → Rp K as F (.lst ds) (.ref a)
  | obj {a C dx : Addr} {fs : List (Str × D)} {vfs : List (Str × V)} : F a = some (.ins C dx vfs) → RpF K as F fs vfs → Rp K as F (.obj C fs) (.ref a)
  | dic {a : Addr} {kvs : List (Key × D)} {vkv : List (Key × V)} : F a = some (.dK vkv) → RpK K as F kvs vkv → Rp K as F (.dic kvs) (.ref a)
  | exv {a C d : Addr} {fs : List (Str × D)} {vfs : List (Str × V)} : F d = some (.xd vfs) → RpF K as F fs vfs → Rp K as F (.exv a C d fs) (.ref a)
  | ptu {a : Addr} {xs : List V} {ds : List D} : FzT F a xs → RpL K as F ds xs → Rp K as F (.ptu ds) (.ref a)
  | clo {f c : Addr} {o o2 : HO} {cs : List D} {vs : List V} : F f = some o → F c = some o2 → RpL K as F cs vs → Rp K as F (.clo f o c o2 cs vs) (.ref f)
inductive RpL (K : PySem.W.Frag) (as : List Addr) (F : Hp) : List D → List V → Prop where
  | nil : RpL K as F [] []
  | cons {d : D} {v : V} {ds : List D} {vs : List V} : Rp K as F d v → RpL K as F ds vs → RpL K as F (d :: ds) (v :: vs)
inductive RpF (K : PySem.W.Frag) (as : List Addr) (F : Hp) : List (Str × D) → List (Str × V) → Prop where
  | nil : RpF K as F [] []
  | cons {n : Str} {d : D} {v : V} {fs : List (Str × D)} {vfs : List (Str × V)} : Rp K as F d v → RpF K as F fs vfs → RpF K as F ((n, d) :: fs) ((n, v) :: vfs)
inductive RpK (K : PySem.W.Frag) (as : List Addr) (F : Hp) : List (Key × D) → List (Key × V) → Prop where
  | nil : RpK K as F [] []
  | cons {n : Key} {d : D} {v : V} {fs : List (Key × D)} {vfs : List (Key × V)} : Rp K as F d v → RpK K as F fs vfs → RpK K as F ((n, d) :: fs) ((n, v) :: vfs)
end

/-- what F knows, H knows -/
def Ex (F H : Hp) : Prop := ∀ a o, F a = some o → H a = some o
theorem Ex.refl (F : Hp) : Ex F F := fun _ _ h => h
theorem Ex.trans {F G H : Hp} (a : Ex F G) (b : Ex G H) : Ex F H := fun x o h => b x o (a x o h)
theorem Ex.sqT {K : PySem.W.Frag} {F H : Hp} {a : Addr} {xs : List V} (e : Ex F H) (h : SqT K F a xs) : SqT K H a xs := by
  rcases h with h | h
  · rcases h with h | ⟨o, h⟩
    · exact .inl (.inl (e a _ h))
    · exact .inl (.inr ⟨o, e a _ h⟩)
  · exact .inr h
theorem Ex.fzT {F H : Hp} {a : Addr} {xs : List V} (e : Ex F H) (h : FzT F a xs) : FzT H a xs := let ⟨o, h1, h2⟩ := h; ⟨o, e a _ h1, h2⟩
theorem Ex.sqL {K : PySem.W.Frag} {F H : Hp} {a : Addr} {xs : List V} (e : Ex F H) (h : SqL K F a xs) : SqL K H a xs := by
  rcases h with h | h
  · rcases h with h | ⟨o, h⟩
    · exact .inl (.inl (e a _ h))
    · exact .inl (.inr ⟨o, e a _ h⟩)
  · exact .inr h
theorem Ex.new {F : Hp} {p : Addr} {o : HO} (h : F p = none) : Ex F (upd F p o) := fun a u q => by
  rw [upd_ne (ne_of_none q h)]
  exact q
theorem Ex.both {F H : Hp} {p : Addr} {o : HO} (e : Ex F H) : Ex (upd F p o) (upd H p o) := fun a u q => by
  by_cases h : a = p
  · subst h
    rw [upd_same] at q ⊢
    exact q
  · rw [upd_ne h] at q ⊢
    exact e a u q

def Pre (as bs : List Addr) : Prop := ∀ (i : Nat) (a : Addr), as[i]? = some a → bs[i]? = some a
theorem Pre.refl (as : List Addr) : Pre as as := fun _ _ h => h
theorem Pre.trans {as bs cs : List Addr} (a : Pre as bs) (b : Pre bs cs) : Pre as cs := fun i x h => b i x (a i x h)

section
variable {K : PySem.W.Frag} {as bs : List Addr} {F G : Hp}
mutual
theorem Rp.mono (e : Ex F G) (p : Pre as bs) : ∀ {d : D} {v : V}, Rp K as F d v → Rp K bs G d v
  | _, _, .non => .non
  | _, _, .bl b => .bl b
  | _, _, .int i => .int i
  | _, _, .str s => .str s
  | _, _, .ty n => .ty n
  | _, _, .adr a => .adr a
  | _, _, .cell h => .cell (p _ _ h)
  | _, _, .scr h => .scr (e.sqL h)
  | _, _, .tup h r => .tup (e.sqT h) (RpL.mono e p r)
  | _, _, .lst h r => .lst (e _ _ h) (RpL.mono e p r)
  | _, _, .obj h r => .obj (e _ _ h) (RpF.mono e p r)
  | _, _, .dic h r => .dic (e _ _ h) (RpK.mono e p r)
  | _, _, .exv h r => .exv (e _ _ h) (RpF.mono e p r)
  | _, _, .ptu h r => .ptu (e.fzT h) (RpL.mono e p r)
  | _, _, .clo h h2 r => .clo (e _ _ h) (e _ _ h2) (RpL.mono e p r)
theorem RpL.mono (e : Ex F G) (p : Pre as bs) : ∀ {ds : List D} {vs : List V}, RpL K as F ds vs → RpL K bs G ds vs
  | _, _, .nil => .nil
  | _, _, .cons h r => .cons (Rp.mono e p h) (RpL.mono e p r)
theorem RpF.mono (e : Ex F G) (p : Pre as bs) : ∀ {fs : List (Str × D)} {vfs : List (Str × V)}, RpF K as F fs vfs → RpF K bs G fs vfs
  | _, _, .nil => .nil
  | _, _, .cons h r => .cons (Rp.mono e p h) (RpF.mono e p r)
theorem RpK.mono (e : Ex F G) (p : Pre as bs) : ∀ {fs : List (Key × D)} {vfs : List (Key × V)}, RpK K as F fs vfs → RpK K bs G fs vfs
  | _, _, .nil => .nil
  | _, _, .cons h r => .cons (Rp.mono e p h) (RpK.mono e p r)
end
theorem RpL.length : ∀ {ds : List D} {vs : List V}, RpL K as F ds vs → ds.length = vs.length
  | _, _, .nil => rfl
  | _, _, .cons _ r => congrArg (· + 1) r.length
theorem RpL.append : ∀ {ds es : List D} {vs ws : List V}, RpL K as F ds vs → RpL K as F es ws → RpL K as F (ds ++ es) (vs ++ ws)
  | _, _, _, _, .nil, s => s
  | _, _, _, _, .cons h r, s => .cons h (r.append s)
theorem RpL.get : ∀ {ds : List D} {vs : List V}, RpL K as F ds vs → ∀ {i : Nat} {d : D}, ds[i]? = some d → ∃ v, vs[i]? = some v ∧ Rp K as F d v
  | _, _, .nil, i, d, h => by simp at h
  | _, _, .cons h r, 0, d, e => by
    simp only [List.getElem?_cons_zero, Option.some.injEq] at e
    subst e
    exact ⟨_, rfl, h⟩
  | _, _, .cons h r, i + 1, d, e => by
    obtain ⟨v, q, z⟩ := r.get (i := i) (d := d) (by simpa using e)
    exact ⟨v, by simpa using q, z⟩
theorem RpL.set {d : D} {v : V} (h : Rp K as F d v) : ∀ {ds : List D} {vs : List V} (i : Nat), RpL K as F ds vs → RpL K as F (ds.set i d) (vs.set i v)
  | _, _, _, .nil => .nil
  | _, _, 0, .cons _ r => .cons h r
  | _, _, i + 1, .cons q r => .cons q (RpL.set h i r)
theorem RpL.drop : ∀ {ds : List D} {vs : List V} (n : Nat), RpL K as F ds vs → RpL K as F (ds.drop n) (vs.drop n)
  | _, _, 0, r => r
  | _, _, _ + 1, .nil => .nil
  | _, _, n + 1, .cons _ r => RpL.drop n r
theorem RpL.take : ∀ {ds : List D} {vs : List V} (n : Nat), RpL K as F ds vs → RpL K as F (ds.take n) (vs.take n)
  | _, _, 0, _ => .nil
  | _, _, _ + 1, .nil => .nil
  | _, _, n + 1, .cons h r => .cons h (RpL.take n r)
theorem RpF.look {f : Str} : ∀ {fs : List (Str × D)} {vfs : List (Str × V)} {d : D}, RpF K as F fs vfs → fs.lookup f = some d → ∃ v, vfs.lookup f = some v ∧ Rp K as F d v
  | _, _, d, .nil, e => by simp at e
  | _, _, d, .cons (n := n) h r, e => by
    by_cases q : (f == n) = true
    · simp only [List.lookup, q] at e ⊢
      cases e
      exact ⟨_, rfl, h⟩
    · have q' : (f == n) = false := by simpa using q
      simp only [List.lookup, q'] at e ⊢
      exact r.look e
theorem RpF.look0 {f : Str} : ∀ {fs : List (Str × D)} {vfs : List (Str × V)}, RpF K as F fs vfs → fs.lookup f = none → vfs.lookup f = none
  | _, _, .nil, e => rfl
  | _, _, .cons (n := n) h r, e => by
    by_cases q : (f == n) = true
    · simp only [List.lookup, q] at e
      cases e
    · have q' : (f == n) = false := by simpa using q
      simp only [List.lookup, q'] at e ⊢
      exact r.look0 e
theorem RpL.unsn {ds : List D} {d : D} {vs : List V} (r : RpL K as F (d :: ds) vs) : ∃ v ws, vs = v :: ws ∧ Rp K as F d v ∧ RpL K as F ds ws := by
  cases r with
  | cons h r => exact ⟨_, _, rfl, h, r⟩
theorem RpL.unnil {vs : List V} (r : RpL K as F [] vs) : vs = [] := by
  cases r
  rfl
end

/-! ### cells: lists, dicts, objects that change; what they hold names no cell -/
inductive Cell where
  | lst (ds : List D)
  | dic (kvs : List (Key × D))
  | ob (C : Addr) (fs : List (Str × D))
  | tab (P : Addr) (q : Str)
  | hid
def Cell.isHid : Cell → Bool
  | .hid => true
  | _ => false
abbrev WS := List Cell
/-- what a table of code objects holds -/
def TabOk (F : Hp) (q : Str) (ps : Array Value) : Prop := TriplesOk ps.toList ∧ ∀ (pos : Pos) (cv : Value), codeAmong pos ps.toList = some cv → ∃ c, cv = .ref c ∧ F c = some (LamX.CodeO c q)
def CellOf (K : PySem.W.Frag) (F : Hp) (p : Addr) : Cell → HO → Prop
  | .lst ds, .lst xs => RpL K [] F ds xs
  | .dic kvs, .dK vkv => RpK K [] F kvs vkv
  | .ob C fs, .ins C' _ vfs => C' = C ∧ RpF K [] F fs vfs
  | .tab P q, .tbl ps => p = P ∧ TabOk F q ps
  | .hid, _ => True
  | _, _ => False
theorem CellOf.mono {K : PySem.W.Frag} {F G : Hp} {p : Addr} (e : Ex F G) : ∀ {c : Cell} {o : HO}, CellOf K F p c o → CellOf K G p c o := by
  intro c o h
  cases c with
  | hid => trivial
  | tab P q =>
    cases o with
    | tbl ps => exact ⟨h.1, h.2.1, fun pos cv hc => let ⟨c, e1, e2⟩ := h.2.2 pos cv hc; ⟨c, e1, e _ _ e2⟩⟩
    | _ => exact h.elim
  | lst ds =>
    cases o with
    | lst xs => exact RpL.mono e (Pre.refl _) h
    | _ => exact h.elim
  | dic ds =>
    cases o with
    | dK xs => exact RpK.mono e (Pre.refl _) h
    | _ => exact h.elim
  | ob C fs =>
    cases o with
    | ins C' dx vfs => exact ⟨h.1, RpF.mono e (Pre.refl _) h.2⟩
    | _ => exact h.elim
structure CellAt (K : PySem.W.Frag) (F H : Hp) (p : Addr) (c : Cell) : Prop where
  out : c.isHid = false → F p = none
  at_ : ∃ o, H p = some o ∧ CellOf K F p c o
theorem CellAt.there {K : PySem.W.Frag} {F H : Hp} {p : Addr} {c : Cell} (h : CellAt K F H p c) : H p ≠ none := by
  obtain ⟨o, e, _⟩ := h.at_
  rw [e]
  simp
/-- F: what stands still; H: the heap; as, S: the cells -/
structure Sit (K : PySem.W.Frag) (as : List Addr) (F H : Hp) (S : WS) : Prop where
  len : as.length = S.length
  ex : Ex F H
  nd : as.Nodup
  cell : ∀ (i : Nat) (p : Addr) (c : Cell), as[i]? = some p → S[i]? = some c → CellAt K F H p c
theorem Sit.at_ {K : PySem.W.Frag} {as : List Addr} {F H : Hp} {S : WS} (I : Sit K as F H S) {i : Nat} {c : Cell} (h : S[i]? = some c) : ∃ p, as[i]? = some p ∧ CellAt K F H p c := by
  have hl : i < as.length := by
    rw [I.len]
    exact (List.getElem?_eq_some_iff.mp h).1
  exact ⟨as[i], List.getElem?_eq_getElem hl, I.cell i _ c (List.getElem?_eq_getElem hl) h⟩
theorem Sit.there {K : PySem.W.Frag} {as : List Addr} {F H : Hp} {S : WS} (I : Sit K as F H S) {p : Addr} (h : p ∈ as) : H p ≠ none := by
  obtain ⟨i, hi⟩ := List.getElem?_of_mem h
  have hl : i < S.length := by
    rw [← I.len]
    exact (List.getElem?_eq_some_iff.mp hi).1
  exact (I.cell i p S[i] hi (List.getElem?_eq_getElem hl)).there
structure Grow (K : PySem.W.Frag) (as : List Addr) (F H : Hp) (bs : List Addr) (F' H' : Hp) (S' : WS) : Prop where
  sit : Sit K bs F' H' S'
  pre : Pre as bs
  ex : Ex F F'
  new : ∀ a, F' a ≠ none → F a ≠ none ∨ H a = none
  newc : ∀ p ∈ bs, p ∈ as ∨ H p = none
  old : ∀ a o, a ∉ as → H a = some o → H' a = some o
  there : ∀ a, H a ≠ none → H' a ≠ none
section
variable {K : PySem.W.Frag} {as bs cs : List Addr} {F H F1 H1 F2 H2 : Hp} {S S1 S2 : WS}
theorem Grow.refl (I : Sit K as F H S) : Grow K as F H as F H S :=
  ⟨I, Pre.refl _, Ex.refl _, fun _ h => .inl h, fun _ h => .inl h, fun _ _ _ h => h, fun _ h => h⟩
theorem none_back {a : Addr} (t : H a ≠ none → H1 a ≠ none) (h : H1 a = none) : H a = none := by
  cases q : H a with
  | none => rfl
  | some o => exact absurd h (t (by rw [q]; simp))
theorem Grow.trans (a : Grow K as F H bs F1 H1 S1) (b : Grow K bs F1 H1 cs F2 H2 S2) : Grow K as F H cs F2 H2 S2 where
  sit := b.sit
  pre := a.pre.trans b.pre
  ex := a.ex.trans b.ex
  new := fun x h => by
    rcases b.new x h with h | h
    · exact a.new x h
    · exact .inr (none_back (a.there x) h)
  newc := fun p h => by
    rcases b.newc p h with h | h
    · exact a.newc p h
    · exact .inr (none_back (a.there p) h)
  old := fun x o h q => by
    have q1 := a.old x o h q
    refine b.old x o (fun hx => ?_) q1
    rcases a.newc x hx with z | z
    · exact h z
    · rw [z] at q
      cases q
  there := fun x h => b.there x (a.there x h)
theorem RpE_aux {d : D} {v : V} (g : Grow K as F H bs F1 H1 S1) (r : Rp K as F d v) : Rp K bs F1 d v := r.mono g.ex g.pre
theorem Sit.out {p : Addr} (I : Sit K as F H S) (hp : H p = none) : F p = none := by
  cases q : F p with
  | none => rfl
  | some u =>
    have z := I.ex p u q
    rw [hp] at z
    cases z
theorem upd_there {p a : Addr} {o : HO} (h : H a ≠ none) : upd H p o a ≠ none := by
  by_cases e : a = p
  · subst e
    rw [upd_same]
    simp
  · rw [upd_ne e]
    exact h
/-- a new thing that stands still -/
theorem Sit.grow {p : Addr} {o : HO} (I : Sit K as F H S) (hp : H p = none) : Grow K as F H as (upd F p o) (upd H p o) S := by
  have fp : F p = none := I.out hp
  have np : ∀ q ∈ as, q ≠ p := fun q hq e => I.there (e ▸ hq) hp
  refine ⟨⟨I.len, I.ex.both, I.nd, fun i q c h1 h2 => ?_⟩, Pre.refl _, Ex.new fp, fun a h => ?_, fun _ h => .inl h, fun a u _ h => ?_, fun a h => upd_there h⟩
  · obtain ⟨z1, ob, z2, z3⟩ := I.cell i q c h1 h2
    have nq : q ≠ p := np q (List.mem_of_getElem? h1)
    exact ⟨fun h => by rw [upd_ne nq]; exact z1 h, ob, by rw [upd_ne nq]; exact z2, z3.mono (Ex.new fp)⟩
  · by_cases e : a = p
    · subst e
      exact .inr hp
    · rw [upd_ne e] at h
      exact .inl h
  · rw [upd_ne (ne_of_none h hp)]
    exact h
/-- a thing that neither stands still nor is a cell changes -/
theorem Sit.other {p : Addr} {o : HO} (I : Sit K as F H S) (hf : F p = none) (ha : p ∉ as) : Sit K as F (upd H p o) S := by
  refine ⟨I.len, fun a u h => ?_, I.nd, fun i q c h1 h2 => ?_⟩
  · have np : a ≠ p := fun z => by rw [z, hf] at h; cases h
    rw [upd_ne np]
    exact I.ex a u h
  · obtain ⟨z1, ob, z2, z3⟩ := I.cell i q c h1 h2
    have nq : q ≠ p := fun z => ha (z ▸ List.mem_of_getElem? h1)
    exact ⟨z1, ob, by rw [upd_ne nq]; exact z2, z3⟩
/-- a thing that is no cell stands still from here on -/
theorem Sit.freeze {p : Addr} {o : HO} (I : Sit K as F H S) (hf : F p = none) (ha : p ∉ as) (hp : H p = some o) : Sit K as (upd F p o) H S := by
  refine ⟨I.len, fun a u h => ?_, I.nd, fun i q c h1 h2 => ?_⟩
  · by_cases e2 : a = p
    · subst e2
      rw [upd_same] at h
      cases h
      exact hp
    · rw [upd_ne e2] at h
      exact I.ex a u h
  · obtain ⟨z1, ob, z2, z3⟩ := I.cell i q c h1 h2
    have nq : q ≠ p := fun z => ha (z ▸ List.mem_of_getElem? h1)
    exact ⟨fun h => by rw [upd_ne nq]; exact z1 h, ob, z2, z3.mono (Ex.new hf)⟩
end

/-! ### what is computed -/
abbrev Env := List (Option D)
abbrev Xq := D → WS → Prop
abbrev M := WS → (D → WS → Prop) → Xq → Prop
abbrev MB := WS → (Bool → WS → Prop) → Xq → Prop
abbrev ML := WS → (List D → WS → Prop) → Xq → Prop
/-- where a statement may go on -/
structure Kt where
  nx : Env → WS → Prop
  rt : D → WS → Prop
  bk : Env → WS → Prop
  ct : Env → WS → Prop
  ex : D → Env → WS → Prop
abbrev MS := WS → Kt → Prop
/-- the slots -/
structure RpE (K : PySem.W.Frag) (as : List Addr) (F : Hp) (ρ : Env) (σ : L2.St) : Prop where
  len : ρ.length = σ.length
  at_ : ∀ (i : Nat) (d : D), ρ[i]? = some (some d) → ∃ v, σ[i]? = some (some v) ∧ Rp K as F d v
theorem RpE.mono {K : PySem.W.Frag} {as bs : List Addr} {F G : Hp} {ρ : Env} {σ : L2.St} (r : RpE K as F ρ σ) (e : Ex F G) (p : Pre as bs) : RpE K bs G ρ σ :=
  ⟨r.len, fun i d h => let ⟨v, h1, h2⟩ := r.at_ i d h; ⟨v, h1, h2.mono e p⟩⟩
theorem RpE.grow {K : PySem.W.Frag} {as bs : List Addr} {F H F1 H1 : Hp} {S1 : WS} {ρ : Env} {σ : L2.St} (r : RpE K as F ρ σ) (g : Grow K as F H bs F1 H1 S1) : RpE K bs F1 ρ σ := r.mono g.ex g.pre
theorem RpE.set {K : PySem.W.Frag} {as : List Addr} {F : Hp} {ρ : Env} {σ : L2.St} {i : Nat} {d : D} {v : V} (r : RpE K as F ρ σ) (h : Rp K as F d v) : RpE K as F (ρ.set i (some d)) (σ.set i (some v)) := by
  refine ⟨by rw [List.length_set, List.length_set]; exact r.len, fun j e q => ?_⟩
  by_cases hj : i = j
  · subst hj
    have hl : i < ρ.length := by
      have := (List.getElem?_eq_some_iff.mp q).1
      rwa [List.length_set] at this
    rw [List.getElem?_set_self hl] at q
    cases q
    exact ⟨v, List.getElem?_set_self (by rw [← r.len]; exact hl), h⟩
  · rw [List.getElem?_set_ne hj] at q ⊢
    exact r.at_ j e q
/-- an error in flight -/
def RxD (K : PySem.W.Frag) (as : List Addr) (F : Hp) (e : D) (cls : Value) (dd : Option Addr) : Prop := ∃ (C d : Addr) (fs : List (Str × D)) (vfs : List (Str × V)), e = .exc C fs ∧ cls = .ref C ∧ dd = some d ∧ F d = some (.xd vfs) ∧ RpF K as F fs vfs
theorem RxD.mono {K : PySem.W.Frag} {as bs : List Addr} {F G : Hp} {e : D} {cls : Value} {dd : Option Addr} (x : Ex F G) (p : Pre as bs) (r : RxD K as F e cls dd) : RxD K bs G e cls dd := by
  obtain ⟨C, d, fs, vfs, e1, e2, e3, e4, e5⟩ := r
  exact ⟨C, d, fs, vfs, e1, e2, e3, x _ _ e4, e5.mono x p⟩
/-- the value's end -/
def NQ (K : PySem.W.Frag) (as : List Addr) (F H : Hp) (q : D → WS → Prop) (Q : VK) : Prop := ∀ d S' bs F' H' v, q d S' → Grow K as F H bs F' H' S' → Rp K bs F' d v → Q v H'
/-- the error's end -/
def XQ (K : PySem.W.Frag) (as : List Addr) (F H : Hp) (x : Xq) (E : XK) : Prop := ∀ e S' bs F' H' cls dd, x e S' → Grow K as F H bs F' H' S' → RxD K bs F' e cls dd → E cls dd H'
section
variable {K : PySem.W.Frag} {as bs : List Addr} {F H F1 H1 : Hp} {S1 : WS} {q : D → WS → Prop} {Q : VK} {x : Xq} {E : XK}
theorem NQ.step (h : NQ K as F H q Q) (g : Grow K as F H bs F1 H1 S1) : NQ K bs F1 H1 q Q := fun d S' cs F' H' v a b c => h d S' cs F' H' v a (g.trans b) c
theorem XQ.step (h : XQ K as F H x E) (g : Grow K as F H bs F1 H1 S1) : XQ K bs F1 H1 x E := fun d S' cs F' H' v w a b c => h d S' cs F' H' v w a (g.trans b) c
theorem XQ.no : XQ K as F H (fun _ _ => False) E := fun _ _ _ _ _ _ _ h => h.elim
end
/-- the value of an expression's reading, by the data -/
def ME (K : PySem.W.Frag) (W : WX) (te : TE) (m : Env → M) : Prop := ∀ (as : List Addr) (F H : Hp) (S : WS) (ρ : Env) (σ : L2.St), Sit K as F H S → RpE K as F ρ σ → ∀ q x, m ρ S q x →
  ∀ Q : VK, NQ K as F H q Q → XQ K as F H x (WE W σ) → te σ H Q
def MTt (K : PySem.W.Frag) (W : WX) (te : TT) (m : Env → MB) : Prop := ∀ (as : List Addr) (F H : Hp) (S : WS) (ρ : Env) (σ : L2.St), Sit K as F H S → RpE K as F ρ σ → ∀ q x, m ρ S q x →
  ∀ Q : Bool → Hp → Prop, (∀ b S' bs F' H', q b S' → Grow K as F H bs F' H' S' → Q b H') → XQ K as F H x (WE W σ) → te σ H Q
def MA (K : PySem.W.Frag) (W : WX) (te : TA) (m : Env → ML) : Prop := ∀ (as : List Addr) (F H : Hp) (S : WS) (ρ : Env) (σ : L2.St), Sit K as F H S → RpE K as F ρ σ → ∀ q x, m ρ S q x →
  ∀ Q : List V → Hp → Prop, (∀ ds S' bs F' H' vs, q ds S' → Grow K as F H bs F' H' S' → RpL K bs F' ds vs → Q vs H') → XQ K as F H x (WE W σ) → te σ H Q
structure SQ (K : PySem.W.Frag) (W : WX) (as : List Addr) (F H : Hp) (k : Kt) (E : Ends) : Prop where
  nx : ∀ ρ' S' bs F' H' σ', k.nx ρ' S' → Grow K as F H bs F' H' S' → RpE K bs F' ρ' σ' → E.nx σ' H'
  rt : ∀ d S' bs F' H' v, k.rt d S' → Grow K as F H bs F' H' S' → Rp K bs F' d v → E.rt v H'
  bk : ∀ ρ' S' bs F' H' σ', k.bk ρ' S' → Grow K as F H bs F' H' S' → RpE K bs F' ρ' σ' → E.bk σ' H'
  ct : ∀ ρ' S' bs F' H' σ', k.ct ρ' S' → Grow K as F H bs F' H' S' → RpE K bs F' ρ' σ' → E.ct σ' H'
  ex : ∀ e ρ' S' bs F' H' σ' cls dd, k.ex e ρ' S' → Grow K as F H bs F' H' S' → RpE K bs F' ρ' σ' → RxD K bs F' e cls dd → W cls dd σ' H'
theorem SQ.step {K : PySem.W.Frag} {W : WX} {as bs : List Addr} {F H F1 H1 : Hp} {S1 : WS} {k : Kt} {E : Ends} (h : SQ K W as F H k E) (g : Grow K as F H bs F1 H1 S1) : SQ K W bs F1 H1 k E :=
  ⟨fun a b c d e f x y => h.nx a b c d e f x (g.trans y), fun a b c d e f x y => h.rt a b c d e f x (g.trans y), fun a b c d e f x y => h.bk a b c d e f x (g.trans y), fun a b c d e f x y => h.ct a b c d e f x (g.trans y), fun a b c d e f i j l x y => h.ex a b c d e f i j l x (g.trans y)⟩
/-- an expression's error within a statement -/
theorem SQ.xq {K : PySem.W.Frag} {W : WX} {as : List Addr} {F H : Hp} {k : Kt} {E : Ends} {ρ : Env} {σ : L2.St} (h : SQ K W as F H k E) (R : RpE K as F ρ σ) : XQ K as F H (fun e S' => k.ex e ρ S') (WE W σ) := fun e S' bs F' H' cls dd a g r => h.ex e ρ S' bs F' H' σ cls dd a g (R.grow g) r
def MSt (K : PySem.W.Frag) (W : WX) (ts : TS) (m : Env → MS) : Prop := ∀ (as : List Addr) (F H : Hp) (S : WS) (ρ : Env) (σ : L2.St), Sit K as F H S → RpE K as F ρ σ → ∀ k, m ρ S k →
  ∀ E : Ends, SQ K W as F H k E → ts E σ H

structure GE (X : Cx) (W : WX) (e : Expr) (m : Env → M) : Prop where
  ex : ∃ te, PE X e te ∧ ME X.K W te m
structure GT (X : Cx) (W : WX) (e : Expr) (m : Env → MB) : Prop where
  ex : ∃ te, PT X e te ∧ MTt X.K W te m
structure GW (X : Cx) (W : WX) (e : Expr) (m : Env → MB) : Prop where
  ex : ∃ te, PW X e te ∧ MTt X.K W te m
structure GA (X : Cx) (W : WX) (es : List Expr) (m : Env → ML) : Prop where
  ex : ∃ te, PA X es te ∧ MA X.K W te m
structure GS (X : Cx) (W : WX) (st : Stmt) (m : Env → MS) : Prop where
  ex : ∃ ts, PS X st ts ∧ MSt X.K W ts m
structure GSs (X : Cx) (W : WX) (sts : List Stmt) (m : Env → MS) : Prop where
  ex : ∃ ts, PSs X sts ts ∧ MSt X.K W ts m
end RV
end
section
namespace RV
/-- whether the errors that are caught are known to have no context -/
def zN : Bool := false
end RV
end
section
/-! Expressions: what each construct computes, and that its reading keeps to it. -/
namespace RV
open PySem L2
section
variable {X : Cx} {W : WX} {a b c e : Expr} {pos : Pos} {ea eb ec ee : Env → M}

def onS {α : Type} (o : Option α) (k : α → Prop) : Prop := match o with
  | some a => k a
  | none => False
theorem onS_ok {α : Type} {o : Option α} {k : α → Prop} (h : onS o k) : ∃ a, o = some a ∧ k a := by
  cases o with
  | none => exact h.elim
  | some a => exact ⟨a, rfl, h⟩
def look : Env → Nat → Option D
  | [], _ => none
  | d :: _, 0 => d
  | _ :: r, n + 1 => look r n
theorem look_at : ∀ {ρ : Env} {i : Nat} {d : D}, look ρ i = some d → ρ[i]? = some (some d)
  | [], _, _, h => by cases h
  | _ :: _, 0, _, h => by
    unfold look at h
    rw [h]
    rfl
  | _ :: _, n + 1, _, h => by
    unfold look at h
    simpa using look_at h
def eVar (i : Nat) : Env → M := fun ρ S q _ => onS (look ρ i) fun d => q d S
def eC (d : D) : Env → M := fun _ S q _ => q d S
theorem ge_var (i : Nat) {x : Str} (hN : X.N[i]? = some x := by rfl) (hv : Vis X.env.scope x := by first | exact Or.inl rfl | exact Or.inr (Or.inl rfl) | exact Or.inr (Or.inr rfl))
    (hd : (x == ("__debug__" : Str)) = false := by decide) (hcd : (x == ("__classdict__" : Str)) = false := by decide) : GE X W (.Name x pos) (eVar i) := by
  refine ⟨tVar i, pe_var hN hv hd hcd, fun as F H S ρ σ I R q x h Q hq _ => ?_⟩
  obtain ⟨d, h1, h2⟩ := onS_ok h
  obtain ⟨v, h3, h4⟩ := R.at_ i _ (look_at h1)
  exact ⟨v, h3, hq d S as F H v h2 (Grow.refl I) h4⟩
theorem me_c {K : PySem.W.Frag} {v : V} {d : D} (h : ∀ as F, Rp K as F d v) : ME K W (tC v) (eC d) := fun as F H S ρ σ I R q x e Q hq _ => hq d S as F H v e (Grow.refl I) (h as F)
theorem ge_int {i : Int} {j : Nat} : GE X W (.Constant (.int i) j pos) (eC (.int i)) := ⟨_, pe_int, me_c fun _ _ => .int i⟩
theorem ge_bl {i : Bool} {j : Nat} : GE X W (.Constant (.bool i) j pos) (eC (.bl i)) := ⟨_, pe_bl, me_c fun _ _ => .bl i⟩
theorem ge_str {i : Str} {j : Nat} : GE X W (.Constant (.str i) j pos) (eC (.str i)) := ⟨_, pe_str, me_c fun _ _ => .str i⟩
theorem ge_non {j : Nat} : GE X W (.Constant .none j pos) (eC .non) := ⟨_, pe_non, me_c fun _ _ => .non⟩
/-- a module's text, number, class -/
theorem ge_gstr {x z : Str} (hm : ∃ t, X.mg x = some (.str z t)) (hg : Gl X x := by rfl) (hd : (x == ("__debug__" : Str)) = false := by decide) : GE X W (.Name x pos) (eC (.str z)) := by
  obtain ⟨t, hm⟩ := hm
  exact ⟨_, pe_glob (v := .str z) hg hm ⟨t, rfl⟩ hd, me_c fun _ _ => .str z⟩
theorem ge_gint {x : Str} {i : Int} (hm : ∃ t, X.mg x = some (.int i t)) (hg : Gl X x := by rfl) (hd : (x == ("__debug__" : Str)) = false := by decide) : GE X W (.Name x pos) (eC (.int i)) := by
  obtain ⟨t, hm⟩ := hm
  exact ⟨_, pe_glob (v := .int i) hg hm ⟨t, rfl⟩ hd, me_c fun _ _ => .int i⟩
theorem ge_gref {x : Str} {a : Addr} (hm : X.mg x = some (.ref a)) (hg : Gl X x := by rfl) (hd : (x == ("__debug__" : Str)) = false := by decide) : GE X W (.Name x pos) (eC (.adr a)) :=
  ⟨_, pe_glob (v := .ref a) hg hm rfl hd, me_c fun _ _ => .adr a⟩
theorem ge_ty {x : Str} {n : String} (hm : X.mg x = none) (hv : bootBuiltins x = some (.type n)) (hg : Gl X x := by rfl) (hn : x ≠ "__name__" := by decide) (hd : (x == ("__debug__" : Str)) = false := by decide) : GE X W (.Name x pos) (eC (.ty n)) :=
  ⟨_, pe_bltn (v := .ty n) hg hm hv rfl hn hd, me_c fun _ _ => .ty n⟩

/-! ### operations -/
/-- an operation on values by one on data; nothing but new things comes -/
def RO (K : PySem.W.Frag) (r : R2) (f : WS → D → D → Option D) : Prop := ∀ (as : List Addr) (F H : Hp) (S : WS) (x y d : D) (vx vy : V), Sit K as F H S → Rp K as F x vx → Rp K as F y vy → f S x y = some d →
  ∀ Q : VK, (∀ F' H' v, Grow K as F H as F' H' S → Rp K as F' d v → Q v H') → r vx vy H Q
def eOp (f : WS → D → D → Option D) (ea eb : Env → M) : Env → M := fun ρ S q x => ea ρ S (fun u S1 => eb ρ S1 (fun v S2 => onS (f S2 u v) fun d => q d S2) x) x
theorem me_op {K : PySem.W.Frag} {r : R2} {f : WS → D → D → Option D} {ta tb : TE} (hr : RO K r f) (ha : ME K W ta ea) (hb : ME K W tb eb) : ME K W (tOp r ta tb) (eOp f ea eb) := fun as F H S ρ σ I R q x h Q hq hx => by
  refine ha as F H S ρ σ I R _ x h _ (fun u S1 bs F1 H1 v1 h1 g1 r1 => ?_) hx
  refine hb bs F1 H1 S1 ρ σ g1.sit (R.grow g1) _ x h1 _ (fun w S2 cs F2 H2 v2 h2 g2 r2 => ?_) (hx.step g1)
  obtain ⟨d, h3, h4⟩ := onS_ok h2
  exact hr cs F2 H2 S2 u w d v1 v2 g2.sit (RpE_aux g2 r1) r2 h3 Q fun F3 H3 v3 g3 r3 => hq d S2 cs F3 H3 v3 h4 ((g1.trans g2).trans g3) r3
theorem ge_op {op : Operator} {r : R2} {f : WS → D → D → Option D} (ho : OpR X (binaryOp op) r) (hr : RO X.K r f) (ha : GE X W a ea) (hb : GE X W b eb) : GE X W (.BinOp a op b pos) (eOp f ea eb) := by
  obtain ⟨ta, pa, ma⟩ := ha
  obtain ⟨tb, pb, mb⟩ := hb
  exact ⟨_, pe_op ho pa pb, me_op hr ma mb⟩
theorem ge_cmp {op : CmpOp} {r : R2} {f : WS → D → D → Option D} (ho : OpR X (compareOp op) r) (hr : RO X.K r f) (ha : GE X W a ea) (hb : GE X W b eb) (hm : behindInMarks op b = false) : GE X W (.Compare a [op] [b] pos) (eOp f ea eb) := by
  obtain ⟨ta, pa, ma⟩ := ha
  obtain ⟨tb, pb, mb⟩ := hb
  exact ⟨_, pe_cmpR ho pa pb hm, me_op hr ma mb⟩
theorem ge_ix {r : R2} {f : WS → D → D → Option D} (ho : IxR X r) (hr : RO X.K r f) (ha : GE X W a ea) (hb : GE X W b eb) (hs : PlainIx b := by exact fun _ _ => rfl) : GE X W (.Subscript a b pos) (eOp f ea eb) := by
  obtain ⟨ta, pa, ma⟩ := ha
  obtain ⟨tb, pb, mb⟩ := hb
  exact ⟨_, pe_ix ho pa pb hs, me_op hr ma mb⟩
def RU (K : PySem.W.Frag) (r : V → Hp → VK → Prop) (f : WS → D → Option D) : Prop := ∀ (as : List Addr) (F H : Hp) (S : WS) (x d : D) (vx : V), Sit K as F H S → Rp K as F x vx → f S x = some d →
  ∀ Q : VK, (∀ F' H' v, Grow K as F H as F' H' S → Rp K as F' d v → Q v H') → r vx H Q
def eUn (f : WS → D → Option D) (ea : Env → M) : Env → M := fun ρ S q x => ea ρ S (fun u S1 => onS (f S1 u) fun d => q d S1) x
theorem me_un {K : PySem.W.Frag} {r : V → Hp → VK → Prop} {f : WS → D → Option D} {ta : TE} (hr : RU K r f) (ha : ME K W ta ea) : ME K W (tUn r ta) (eUn f ea) := fun as F H S ρ σ I R q x h Q hq hx => by
  refine ha as F H S ρ σ I R _ x h _ (fun u S1 bs F1 H1 v1 h1 g1 r1 => ?_) hx
  obtain ⟨d, h3, h4⟩ := onS_ok h1
  exact hr bs F1 H1 S1 u d v1 g1.sit r1 h3 Q fun F3 H3 v3 g3 r3 => hq d S1 bs F3 H3 v3 h4 (g1.trans g3) r3
theorem ge_un {op : UnaryOp} {r : V → Hp → VK → Prop} {f : WS → D → Option D} (ho : UnR X (unaryOp op) r) (hr : RU X.K r f) (ha : GE X W a ea) : GE X W (.UnaryOp op a pos) (eUn f ea) := by
  obtain ⟨ta, pa, ma⟩ := ha
  exact ⟨_, pe_un ho pa, me_un hr ma⟩

/-! ### arguments -/
def aNil : Env → ML := fun _ S q _ => q [] S
def aCons (ea : Env → M) (er : Env → ML) : Env → ML := fun ρ S q x => ea ρ S (fun u S1 => er ρ S1 (fun ds S2 => q (u :: ds) S2) x) x
theorem ma_nil {K : PySem.W.Frag} : MA K W tNil aNil := fun as F H S ρ σ I R q x h Q hq _ => hq [] S as F H [] h (Grow.refl I) .nil
theorem ma_cons {K : PySem.W.Frag} {ta : TE} {tr : TA} {er : Env → ML} (ha : ME K W ta ea) (hr : MA K W tr er) : MA K W (tCons ta tr) (aCons ea er) := fun as F H S ρ σ I R q x h Q hq hx => by
  refine ha as F H S ρ σ I R _ x h _ (fun u S1 bs F1 H1 v1 h1 g1 r1 => ?_) hx
  refine hr bs F1 H1 S1 ρ σ g1.sit (R.grow g1) _ x h1 _ (fun ds S2 cs F2 H2 vs h2 g2 r2 => ?_) (hx.step g1)
  exact hq (u :: ds) S2 cs F2 H2 (v1 :: vs) h2 (g1.trans g2) (.cons (RpE_aux g2 r1) r2)
theorem ga_nil : GA X W [] aNil := ⟨_, pa_nil, ma_nil⟩
theorem ga_cons {es : List Expr} {er : Env → ML} (ha : GE X W e ea) (hr : GA X W es er) (hs : starEach (e :: es) X.env = (false, eval e X.env) :: starEach es X.env := by rfl) : GA X W (e :: es) (aCons ea er) := by
  obtain ⟨ta, pa, ma⟩ := ha
  obtain ⟨tr, pr, mr⟩ := hr
  exact ⟨_, pa_cons pa pr hs, ma_cons ma mr⟩
structure GK (X : Cx) (W : WX) (kws : List Keyword) (m : Env → ML) : Prop where
  ex : ∃ te, PK X kws te ∧ MA X.K W te m
theorem gk_nil : GK X W [] aNil := ⟨_, pk_nil, ma_nil⟩
theorem gk_cons {nm : Option Str} {kpos : Pos} {kws : List Keyword} {er : Env → ML} (ha : GE X W e ea) (hr : GK X W kws er) : GK X W (⟨nm, e, kpos⟩ :: kws) (aCons ea er) := by
  obtain ⟨ta, pa, ma⟩ := ha
  obtain ⟨tr, pr, mr⟩ := hr
  exact ⟨_, pk_cons pa pr, ma_cons ma mr⟩

/-! ### displays -/
def small (n : Nat) : Bool := decide (n ≤ 100000)
theorem small_le {n : Nat} (h : small n = true) : n ≤ sizeLine := Nat.le_trans (of_decide_eq_true h) (by decide)
def eSeq (mk : List D → D) (er : Env → ML) : Env → M := fun ρ S q x => er ρ S (fun ds S1 => small ds.length = true ∧ q (mk ds) S1) x
theorem me_tup {K : PySem.W.Frag} {t : TA} {er : Env → ML} (h : MA K W t er) : ME K W (tTup t) (eSeq .tup er) := fun as F H S ρ σ I R q x e Q hq hx => by
  refine h as F H S ρ σ I R _ x e _ (fun ds S1 bs F1 H1 vs h1 g1 r1 => ⟨?_, fun a ha => ?_⟩) hx
  · rw [← r1.length]
    exact small_le h1.1
  · have g2 := g1.sit.grow (o := .tup vs) ha
    exact hq _ S1 bs _ _ _ h1.2 (g1.trans g2) (.tup (SqT.of upd_same) (r1.mono g2.ex g2.pre))
theorem me_lst {K : PySem.W.Frag} {t : TA} {er : Env → ML} (h : MA K W t er) : ME K W (tLst t) (eSeq .lst er) := fun as F H S ρ σ I R q x e Q hq hx => by
  refine h as F H S ρ σ I R _ x e _ (fun ds S1 bs F1 H1 vs h1 g1 r1 => ⟨?_, fun a ha => ?_⟩) hx
  · rw [← r1.length]
    exact small_le h1.1
  · have g2 := g1.sit.grow (o := .lst vs) ha
    exact hq _ S1 bs _ _ _ h1.2 (g1.trans g2) (.lst upd_same (r1.mono g2.ex g2.pre))
theorem ge_tup {es : List Expr} {er : Env → ML} {x1} (h : GA X W es er) : GE X W (.Tuple es x1 pos) (eSeq .tup er) := by
  obtain ⟨t, p, m⟩ := h
  exact ⟨_, pe_tup p, me_tup m⟩
theorem ge_lst {es : List Expr} {er : Env → ML} (h : GA X W es er) : GE X W (.List es pos) (eSeq .lst er) := by
  obtain ⟨t, p, m⟩ := h
  exact ⟨_, pe_lst p, me_lst m⟩

/-! ### calls of built-ins -/
def RC (K : PySem.W.Frag) (r : List V → Hp → VK → Prop) (f : WS → List D → Option D) : Prop := ∀ (as : List Addr) (F H : Hp) (S : WS) (ds : List D) (d : D) (vs : List V), Sit K as F H S → RpL K as F ds vs → f S ds = some d →
  ∀ Q : VK, (∀ F' H' v, Grow K as F H as F' H' S → Rp K as F' d v → Q v H') → r vs H Q
def eCall (f : WS → List D → Option D) (er : Env → ML) : Env → M := fun ρ S q x => er ρ S (fun ds S1 => onS (f S1 ds) fun d => q d S1) x
theorem me_cb {K : PySem.W.Frag} {r : List V → Hp → VK → Prop} {f : WS → List D → Option D} {t : TA} {er : Env → ML} (hr : RC K r f) (h : MA K W t er) : ME K W (tCB r t) (eCall f er) := fun as F H S ρ σ I R q x e Q hq hx => by
  refine h as F H S ρ σ I R _ x e _ (fun ds S1 bs F1 H1 vs h1 g1 r1 => ?_) hx
  obtain ⟨d, h3, h4⟩ := onS_ok h1
  exact hr bs F1 H1 S1 ds d vs g1.sit r1 h3 Q fun F3 H3 v3 g3 r3 => hq d S1 bs F3 H3 v3 h4 (g1.trans g3) r3
theorem ge_callB {x : Str} {id : String} {r : List V → Hp → VK → Prop} {f : WS → List D → Option D} {p : Pos} {es : List Expr} {er : Env → ML} (hc : CallR X (.builtin id) r) (hr : RC X.K r f) (hm : X.mg x = none) (hv : bootBuiltins x = some (.builtin id)) (ha : GA X W (e :: es) er)
    (hg : Gl X x := by rfl) (hn : x ≠ "__name__" := by decide) (hdb : (x == ("__debug__" : Str)) = false := by decide) (h1 : starEach (e :: es) X.env = (false, eval e X.env) :: starEach es X.env := by rfl) (h2 : (backTo pos (starEach es X.env)).any (·.1) = false := by rfl) :
    GE X W (.Call (.Name x p) (e :: es) [] pos) (eCall f er) := by
  obtain ⟨t, p, m⟩ := ha
  exact ⟨_, pe_callB hc hg hm hv p hn hdb h1 h2, me_cb hr m⟩
theorem ge_callTy {x : Str} {T : String} {r : List V → Hp → VK → Prop} {f : WS → List D → Option D} {p : Pos} {es : List Expr} {er : Env → ML} (hc : CallR X (.type T) r) (hr : RC X.K r f) (hm : X.mg x = none) (hv : bootBuiltins x = some (.type T)) (ha : GA X W (e :: es) er)
    (hg : Gl X x := by rfl) (hn : x ≠ "__name__" := by decide) (hdb : (x == ("__debug__" : Str)) = false := by decide) (h1 : starEach (e :: es) X.env = (false, eval e X.env) :: starEach es X.env := by rfl) (h2 : (backTo pos (starEach es X.env)).any (·.1) = false := by rfl) :
    GE X W (.Call (.Name x p) (e :: es) [] pos) (eCall f er) := by
  obtain ⟨t, p, m⟩ := ha
  exact ⟨_, pe_callTy hc hg hm hv p hn hdb h1 h2, me_cb hr m⟩

/-! ### calls of defs -/
/-- the promise of a def: it goes on as G says -/
def spG (K : PySem.W.Frag) (n : Nat) (G : List D → M) : Sp := fun vs H Q E => ∃ (as : List Addr) (F : Hp) (S : WS) (ds : List D) (q : D → WS → Prop) (x : Xq), Sit K as F H S ∧ RpL K as F ds vs ∧ ds.length = n ∧ G ds S q x ∧ NQ K as F H q Q ∧ XQ K as F H x E
/-- how a def is asked: g: only where no text of a thing is being made; n: what it raises has no context; h: while an error is handled -/
structure Md where
  g : Bool
  n : Bool
  h : Bool
def CXm (n : Bool) (P : Program) (w : World) : CXT := match n with
  | true => L2N.CX P w
  | false => L2.CX P w
theorem cxm_no {n : Bool} {P : Program} {w : World} {outer : List PySem.Env} {H : Hp} {s s' : Shared} {u : Value} (c : CXm n P w outer H s (fun _ _ _ => False) u s') : False := by
  cases n <;> (obtain ⟨a, B, H', cls, d, c⟩ := c; exact c.2.2.2.2.2.2.2.elim)
def Tk (n : Bool) (X : Cx) (W : WX) : Prop := match n with
  | true => L2N.Takes X W
  | false => L2.Takes X W
theorem Tk.pass {n : Bool} {X : Cx} {W : WX} (tk : Tk n X W) (σ : L2.St) : PassesAt (CXm n X.prog X.w) X σ (WE W σ) := by
  cases n
  · exact L2.passAt tk σ
  · exact L2N.passAt tk σ
/-- what is known of a caught error's object -/
def Zz (n : Bool) (cls : Value) (d : Option Addr) : Obj → Prop := match n with
  | true => L2N.Zn cls d
  | false => Zc cls d
/-- the error at p is handled -/
def Hq (A : Around) (p : Addr × Obj) : Prop := A.handled = some (.ref p.1) ∧ (zN = true → ∃ vs : Array Value, p.2.data = .fields vs ∧ vs[2]? = some .none)
/-- room for k calls more -/
def Rx (h : Bool) (k : Nat) (X : Cx) : Prop := match h with
  | false => Room k X.A
  | true => L2H.RoomH k X.A ∧ ∃ p, p ∈ X.pn ∧ Hq X.A p
def Rs (h : Bool) (k : Nat) (A : Around) (outer : List PySem.Env) (H : Hp) (s : Shared) : Prop := match h with
  | false => Room k A
  | true => L2H.RoomH k A ∧ ∃ p, L2H.PinOk outer H s p ∧ Hq A p
theorem Rx.mono {h : Bool} {j k : Nat} {X : Cx} (r : Rx h k X) (e : j ≤ k) : Rx h j X := by
  cases h
  · exact Room.mono r e
  · exact ⟨r.1.mono e, r.2⟩
theorem Rx.at {h : Bool} {k : Nat} {X : Cx} {pins : List (Addr × Obj)} {σ : L2.St} {H : Hp} {s : Shared} (r : Rx h k X) (I : Inv X pins σ H s) : Rs h k X.A X.stack H s := by
  cases h
  · exact r
  · obtain ⟨r1, p, hp, e⟩ := r
    have P1 := I.pin p (List.mem_append_left _ hp)
    exact ⟨r1, p, ⟨P1.1, P1.2.1, fun hm => (List.mem_cons.mp (I.stkSub p.1 hm)).elim P1.2.2.1 P1.2.2.2.1, P1.2.2.2.2⟩, e⟩
def eFn (n : Nat) (G : List D → M) (dvs : List D) (er : Env → ML) : Env → M := fun ρ S q x => er ρ S (fun ds S1 => (ds ++ dvs).length = n ∧ G (ds ++ dvs) S1 q x) x
/-- arguments, then a promise -/
def tFn (sp : Sp) (dv : List V) (E : L2.St → XK) (t : TA) : TE := fun σ H Q => t σ H fun vs H1 => sp (vs ++ dv) H1 Q (E σ)
theorem me_fn {K : PySem.W.Frag} {n : Nat} {G : List D → M} {dvs : List D} {dv : List V} {t : TA} {er : Env → ML} (hd : ∀ as F, RpL K as F dvs dv) (h : MA K W t er) : ME K W (tFn (spG K n G) dv (WE W) t) (eFn n G dvs er) := fun as F H S ρ σ I R q x e Q hq hx => by
  refine h as F H S ρ σ I R _ x e _ (fun ds S1 bs F1 H1 vs h1 g1 r1 => ?_) hx
  exact ⟨bs, F1, S1, ds ++ dvs, q, x, g1.sit, r1.append (hd bs F1), h1.1, h1.2, hq.step g1, hx.step g1⟩
/-- a def of the program runs; gd: it is asked only where no text of a thing is being made -/
structure FnX (gd : Md) (P : Program) (w : World) (K : PySem.W.Frag) (mg : Str → Option Value) (base : Heap) (k : Nat) (f : Addr) (fd : FuncData) (ps : List Str) (sp : Sp) : Prop where
  len : ∀ vs H Q E, sp vs H Q E → vs.length = ps.length
  run : ∀ (A : Around) (outer : List PySem.Env) (s : Shared) (H : Hp) (args : Args) (us : List Value) (vs : List V) (Q : VK) (E : XK), (gd.g = true → A.guards = some []) → Rs gd.h k A outer H s → Env0 P w K mg base A outer s H → BindsTo s fd args (ps.zip us) → Vals vs us → sp vs H Q E →
    codeAny (model P w) A (.call (.ref f) args) (CR (CXm gd.n P w) outer P w H s Q E) s
section
variable {k j n : Nat} {f C : Addr} {fd : FuncData} {ps : List Str} {sp : Sp} {gd : Md} {nn : Bool}
theorem FnX.ok {P : Program} {w : World} {K : PySem.W.Frag} {mg : Str → Option Value} {base : Heap} (F : FnX ⟨false, nn, false⟩ P w K mg base k f fd ps sp) : FnOk P w K mg base (CXm nn P w) k f fd ps sp :=
  ⟨F.len, fun A outer s H args us vs Q E => F.run A outer s H args us vs Q E (fun h => nomatch h)⟩
theorem FnX.of {P : Program} {w : World} {K : PySem.W.Frag} {mg : Str → Option Value} {base : Heap} (F : FnOk P w K mg base (CXm nn P w) k f fd ps sp) {g : Bool} : FnX ⟨g, nn, false⟩ P w K mg base k f fd ps sp :=
  ⟨F.len, fun A outer s H args us vs Q E _ => F.run A outer s H args us vs Q E⟩
theorem run_X {pins : List (Addr × Obj)} {σ : L2.St} {H : Hp} {s : Shared} {Q : VK} {us : List Value} {vs dv : List V} {ds : List Value} (F : FnX gd X.prog X.w X.K X.mg X.base k f fd ps sp) (hgd : gd.g = true → X.A.guards = some []) (hr : Rx gd.h k X) (hb : Binds X.K fd ps ds) (hd : Vals dv ds) (tk : Tk gd.n X W)
    (I : Inv X pins σ H s) (r : Vals vs us) (h : sp (vs ++ dv) H Q (WE W σ)) : wpAny (model X.prog X.w) X.A (PySem.call (.ref f) us) (EP X pins σ Q) X.xe s := by
  have r2 : Vals (vs ++ dv) (us ++ ds) := r.append hd
  have hl : (us ++ ds).length = ps.length := r2.length.symm.trans (F.len _ _ _ _ h)
  refine wpAny_call (codeAny_mono (F.run X.A X.stack s H ⟨us, []⟩ _ (vs ++ dv) Q (WE W σ) hgd (hr.at I) I.env0 (hb s us I.kIn hl) r2 h) fun r s' hq => ?_)
  cases r with
  | error er => exact tk.pass σ pins H s er s' I hq
  | ok fl =>
    cases fl with
    | ret u => exact I.after hq
    | next => exact hq.elim
    | brk => exact hq.elim
    | cont => exact hq.elim
theorem ge_call {G : List D → M} {dvs : List D} {dv : List V} {ds : List Value} {x : Str} {p : Pos} {es : List Expr} {er : Env → ML} (tk : Tk gd.n X W)
    (F : FnX gd X.prog X.w X.K X.mg X.base k f fd ps (spG X.K n G)) (hgd : gd.g = true → X.A.guards = some []) (hr : Rx gd.h j X) (hj : k ≤ j) (hm : X.mg x = some (.ref f)) (hk : PySem.W.keepIn X.K (.ref f) = true) (hb : Binds X.K fd ps ds) (hd : Vals dv ds)
    (hdv : ∀ as F, RpL X.K as F dvs dv) (ha : GA X W (e :: es) er) (hg : Gl X x := by rfl) (hdb : (x == ("__debug__" : Str)) = false := by decide) (h1 : starEach (e :: es) X.env = (false, eval e X.env) :: starEach es X.env := by rfl) (h2 : (backTo pos (starEach es X.env)).any (·.1) = false := by rfl) :
    GE X W (.Call (.Name x p) (e :: es) [] pos) (eFn n G dvs er) := by
  obtain ⟨t, pa, m⟩ := ha
  refine ⟨tFn (spG X.K n G) dv (WE W) t, ⟨fun pins s σ H Q I h => ?_⟩, me_fn hdv m⟩
  refine wpAny_Call_Name_kw (ld_glob I hg hm ?_ hdb)
  refine PySem.W.callWith_K (h₀ := X.base) I.ok.mod.kin hk (thn (pa.run pos pins s σ H _ I h) fun us s1 hh => ?_) h1 h2
  obtain ⟨vs, H1, I1, r1, q1⟩ := hh
  exact ⟨I1.kIn, run_X F hgd (hr.mono hj) hb hd tk I1 r1 q1⟩
end
end
end RV
end
section
/-! Tests and statements. -/
namespace RV
open PySem L2
section
variable {X : Cx} {W : WX} {a b c e : Expr} {pos : Pos} {ea eb ec ee : Env → M} {ma mb : Env → MB}
def iteB (b : Bool) (p q : Prop) : Prop := match b with
  | true => p
  | false => q
def onB (d : D) (k : Bool → Prop) : Prop := match d with
  | .bl b => k b
  | _ => False
def onI (d : D) (k : Int → Prop) : Prop := match d with
  | .int i => k i
  | _ => False
def onT (d : D) (k : Str → Prop) : Prop := match d with
  | .str s => k s
  | _ => False
def onTu (d : D) (k : List D → Prop) : Prop := match d with
  | .tup ds => k ds
  | _ => False
def onCe (d : D) (k : Nat → Prop) : Prop := match d with
  | .cell i => k i
  | _ => False
def on1 (ds : List D) (k : D → Prop) : Prop := match ds with
  | [x] => k x
  | _ => False
def on2 (ds : List D) (k : D → D → Prop) : Prop := match ds with
  | [x, y] => k x y
  | _ => False
def on3 (ds : List D) (k : D → D → D → Prop) : Prop := match ds with
  | [x, y, z] => k x y z
  | _ => False
def onLst (c : Cell) (k : List D → Prop) : Prop := match c with
  | .lst ds => k ds
  | _ => False
def onOb (c : Cell) (k : Addr → List (Str × D) → Prop) : Prop := match c with
  | .ob C fs => k C fs
  | _ => False
theorem onI_ok {d : D} {k : Int → Prop} (h : onI d k) : ∃ i, d = .int i ∧ k i := by
  cases d with
  | int i => exact ⟨i, rfl, h⟩
  | _ => exact h.elim
theorem onT_ok {d : D} {k : Str → Prop} (h : onT d k) : ∃ i, d = .str i ∧ k i := by
  cases d with
  | str i => exact ⟨i, rfl, h⟩
  | _ => exact h.elim
theorem onTu_ok {d : D} {k : List D → Prop} (h : onTu d k) : ∃ i, d = .tup i ∧ k i := by
  cases d with
  | tup i => exact ⟨i, rfl, h⟩
  | _ => exact h.elim
theorem on1_ok {ds : List D} {k : D → Prop} (h : on1 ds k) : ∃ x, ds = [x] ∧ k x := by
  unfold on1 at h
  split at h
  · exact ⟨_, rfl, h⟩
  · exact h.elim
theorem on2_ok {ds : List D} {k : D → D → Prop} (h : on2 ds k) : ∃ x y, ds = [x, y] ∧ k x y := by
  unfold on2 at h
  split at h
  · exact ⟨_, _, rfl, h⟩
  · exact h.elim
theorem onLst_ok {c : Cell} {k : List D → Prop} (h : onLst c k) : ∃ ds, c = .lst ds ∧ k ds := by
  cases c with
  | lst ds => exact ⟨ds, rfl, h⟩
  | _ => exact h.elim
def bBl (m : Env → M) : Env → MB := fun ρ S q x => m ρ S (fun d S1 => onB d fun b => q b S1) x
theorem mt_test {K : PySem.W.Frag} {t : TE} (h : ME K W t ea) : MTt K W (tTest t) (bBl ea) := fun as F H S ρ σ I R q x e Q hq hx => by
  refine h as F H S ρ σ I R _ x e _ (fun d S1 bs F1 H1 v h1 g r => ?_) hx
  cases r with
  | bl b => exact ⟨b, rfl, hq b S1 bs F1 H1 h1 g⟩
  | _ => exact h1.elim
theorem gt_cmp {op : CmpOp} {r : R2} {f : WS → D → D → Option D} (ho : OpR X (compareOp op) r) (hr : RO X.K r f) (ha : GE X W a ea) (hb : GE X W b eb) (hm : behindInMarks op b = false) : GT X W (.Compare a [op] [b] pos) (bBl (eOp f ea eb)) := by
  obtain ⟨ta, pa, ma⟩ := ha
  obtain ⟨tb, pb, mb⟩ := hb
  exact ⟨_, pt_cmpR ho pa pb hm, mt_test (me_op hr ma mb)⟩
/-- by truth -/
def RT (K : PySem.W.Frag) (r : V → Hp → (Bool → Hp → Prop) → Prop) (f : WS → D → Option Bool) : Prop := ∀ (as : List Addr) (F H : Hp) (S : WS) (x : D) (b : Bool) (vx : V), Sit K as F H S → Rp K as F x vx → f S x = some b →
  ∀ Q : Bool → Hp → Prop, (∀ F' H', Grow K as F H as F' H' S → Q b H') → r vx H Q
def bTru (f : WS → D → Option Bool) (ea : Env → M) : Env → MB := fun ρ S q x => ea ρ S (fun u S1 => onS (f S1 u) fun b => q b S1) x
theorem mt_tru {K : PySem.W.Frag} {r : V → Hp → (Bool → Hp → Prop) → Prop} {f : WS → D → Option Bool} {ta : TE} (hr : RT K r f) (ha : ME K W ta ea) : MTt K W (fun σ H Q => ta σ H fun x H' => r x H' Q) (bTru f ea) := fun as F H S ρ σ I R q x e Q hq hx => by
  refine ha as F H S ρ σ I R _ x e _ (fun u S1 bs F1 H1 v1 h1 g1 r1 => ?_) hx
  obtain ⟨b, h3, h4⟩ := onS_ok h1
  exact hr bs F1 H1 S1 u b v1 g1.sit r1 h3 Q fun F3 H3 g3 => hq b S1 bs F3 H3 h4 (g1.trans g3)
theorem pt_truthR {ta : TE} {r : V → Hp → (Bool → Hp → Prop) → Prop} (ht : TruR X r) (ha : PE X a ta) (he : ∀ whole, isTrue a X.env whole = (do let v ← whole; standAt a.pos; holding [v] (truthy v))) :
    PT X a (fun σ H Q => ta σ H fun x H' => r x H' Q) :=
  ⟨fun pins s σ H Q I h => PyProof.Rows.isTrue_plain (thn (ha.run pins s σ H _ I h) fun v s1 ⟨x, H1, I1, r1, q1⟩ => ht pins s1 σ H1 x v Q I1 r1 q1) (he _)⟩
theorem gt_tru {r : V → Hp → (Bool → Hp → Prop) → Prop} {f : WS → D → Option Bool} (ht : TruR X r) (hr : RT X.K r f) (ha : GE X W a ea) (he : ∀ whole, isTrue a X.env whole = (do let v ← whole; standAt a.pos; holding [v] (truthy v)) := by intro _; rfl) : GT X W a (bTru f ea) := by
  obtain ⟨ta, pa, ma⟩ := ha
  exact ⟨_, pt_truthR ht pa he, mt_tru hr ma⟩
def eNotT (m : Env → MB) : Env → M := fun ρ S q x => m ρ S (fun b S1 => q (.bl (!b)) S1) x
/-- not a, as a value -/
theorem ge_notT {r : V → Hp → (Bool → Hp → Prop) → Prop} {f : WS → D → Option Bool} (ht : TruR X r) (hr : RT X.K r f) (ha : GE X W a ea) : GE X W (.UnaryOp .Not a pos) (eNotT (bTru f ea)) := by
  obtain ⟨ta, pa, ma⟩ := ha
  have mt := mt_tru hr ma
  refine ⟨fun σ H Q => ta σ H fun x H1 => r x H1 fun c H2 => Q (.bl (!c)) H2, ⟨fun pins s σ H Q I h => ?_⟩, fun as F H S ρ σ I R q x e Q hq hx => ?_⟩
  · refine PyProof.Rows.UnaryOp_ (thn (pa.run pins s σ H _ I h) fun v s1 ⟨x, H1, I1, r1, q1⟩ => ?_)
    exact PyProof.Rows.not_of (thn (ht pins s1 σ H1 x v _ I1 r1 q1) fun c s2 ⟨H2, I2, q2⟩ => ⟨.bl (!c), H2, I2, rfl, q2⟩)
  · exact mt as F H S ρ σ I R _ x e (fun c H2 => Q (.bl (!c)) H2) (fun b S' bs F' H' h g => hq _ S' bs F' H' _ h g (.bl _)) hx
def bAnd (ma mb : Env → MB) : Env → MB := fun ρ S q x => ma ρ S (fun b S1 => iteB b (mb ρ S1 q x) (q false S1)) x
def bOr (ma mb : Env → MB) : Env → MB := fun ρ S q x => ma ρ S (fun b S1 => iteB b (q true S1) (mb ρ S1 q x)) x
def bNot (ma : Env → MB) : Env → MB := fun ρ S q x => ma ρ S (fun b S1 => q (!b) S1) x
theorem mt_and {K : PySem.W.Frag} {t u : TT} (h1 : MTt K W t ma) (h2 : MTt K W u mb) : MTt K W (tAnd t u) (bAnd ma mb) := fun as F H S ρ σ I R q x e Q hq hx => by
  refine h1 as F H S ρ σ I R _ x e _ (fun b S1 bs F1 H1 h g1 => ?_) hx
  cases b with
  | true => exact h2 bs F1 H1 S1 ρ σ g1.sit (R.grow g1) q x h Q (fun b S' cs F' H' h g => hq b S' cs F' H' h (g1.trans g)) (hx.step g1)
  | false => exact hq false S1 bs F1 H1 h g1
theorem mt_or {K : PySem.W.Frag} {t u : TT} (h1 : MTt K W t ma) (h2 : MTt K W u mb) : MTt K W (tOr t u) (bOr ma mb) := fun as F H S ρ σ I R q x e Q hq hx => by
  refine h1 as F H S ρ σ I R _ x e _ (fun b S1 bs F1 H1 h g1 => ?_) hx
  cases b with
  | false => exact h2 bs F1 H1 S1 ρ σ g1.sit (R.grow g1) q x h Q (fun b S' cs F' H' h g => hq b S' cs F' H' h (g1.trans g)) (hx.step g1)
  | true => exact hq true S1 bs F1 H1 h g1
theorem mt_not {K : PySem.W.Frag} {t : TT} (h1 : MTt K W t ma) : MTt K W (tNot t) (bNot ma) := fun as F H S ρ σ I R q x e Q hq hx =>
  h1 as F H S ρ σ I R _ x e _ (fun b S1 bs F1 H1 h g1 => hq _ S1 bs F1 H1 h g1) hx
theorem GW.gt (h : GW X W e ma) : GT X W e ma := by
  obtain ⟨t, p, m⟩ := h
  exact ⟨_, p.pt, m⟩
theorem gw_and1 (ha : GT X W a ma) : GW X W (.BoolOp .And [a] pos) ma := by
  obtain ⟨t, p, m⟩ := ha
  exact ⟨_, pw_and1 p, m⟩
theorem gw_or1 (ha : GT X W a ma) : GW X W (.BoolOp .Or [a] pos) ma := by
  obtain ⟨t, p, m⟩ := ha
  exact ⟨_, pw_or1 p, m⟩
theorem gw_and {rest : List Expr} (ha : GT X W a ma) (hb : GW X W (.BoolOp .And (b :: rest) pos) mb) : GW X W (.BoolOp .And (a :: b :: rest) pos) (bAnd ma mb) := by
  obtain ⟨t, p, m⟩ := ha
  obtain ⟨u, p', m'⟩ := hb
  exact ⟨_, pw_and p p', mt_and m m'⟩
theorem gw_or {rest : List Expr} (ha : GT X W a ma) (hb : GW X W (.BoolOp .Or (b :: rest) pos) mb) : GW X W (.BoolOp .Or (a :: b :: rest) pos) (bOr ma mb) := by
  obtain ⟨t, p, m⟩ := ha
  obtain ⟨u, p', m'⟩ := hb
  exact ⟨_, pw_or p p', mt_or m m'⟩
theorem gt_not (ha : GT X W a ma) : GT X W (.UnaryOp .Not a pos) (bNot ma) := by
  obtain ⟨t, p, m⟩ := ha
  exact ⟨_, pt_not p, mt_not m⟩
/-! bools as values -/
def eAnd (ea eb : Env → M) : Env → M := fun ρ S q x => bBl ea ρ S (fun b S1 => iteB b (eb ρ S1 q x) (q (.bl false) S1)) x
def eOr (ea eb : Env → M) : Env → M := fun ρ S q x => bBl ea ρ S (fun b S1 => iteB b (q (.bl true) S1) (eb ρ S1 q x)) x
theorem ge_one {op : BoolOp} (ha : GE X W a ea) : GE X W (.BoolOp op [a] pos) ea := by
  obtain ⟨t, p, m⟩ := ha
  exact ⟨_, pe_one p, m⟩
theorem ge_and {rest : List Expr} (ha : GE X W a ea) (hb : GE X W (.BoolOp .And (b :: rest) pos) eb) : GE X W (.BoolOp .And (a :: b :: rest) pos) (eAnd ea eb) := by
  obtain ⟨t, p, m⟩ := ha
  obtain ⟨u, p', m'⟩ := hb
  refine ⟨_, pe_and p p', fun as F H S ρ σ I R q x e Q hq hx => ?_⟩
  refine m as F H S ρ σ I R _ x e _ (fun d S1 bs F1 H1 v h g1 r1 => ?_) hx
  cases r1 with
  | bl c =>
    refine ⟨c, rfl, ?_⟩
    cases c with
    | true => exact m' bs F1 H1 S1 ρ σ g1.sit (R.grow g1) q x h Q (hq.step g1) (hx.step g1)
    | false => exact hq _ S1 bs F1 H1 _ h g1 (.bl _)
  | _ => exact h.elim
theorem ge_or {rest : List Expr} (ha : GE X W a ea) (hb : GE X W (.BoolOp .Or (b :: rest) pos) eb) : GE X W (.BoolOp .Or (a :: b :: rest) pos) (eOr ea eb) := by
  obtain ⟨t, p, m⟩ := ha
  obtain ⟨u, p', m'⟩ := hb
  refine ⟨_, pe_or p p', fun as F H S ρ σ I R q x e Q hq hx => ?_⟩
  refine m as F H S ρ σ I R _ x e _ (fun d S1 bs F1 H1 v h g1 r1 => ?_) hx
  cases r1 with
  | bl c =>
    refine ⟨c, rfl, ?_⟩
    cases c with
    | false => exact m' bs F1 H1 S1 ρ σ g1.sit (R.grow g1) q x h Q (hq.step g1) (hx.step g1)
    | true => exact hq _ S1 bs F1 H1 _ h g1 (.bl _)
  | _ => exact h.elim
def eIf (mc : Env → MB) (ea eb : Env → M) : Env → M := fun ρ S q x => mc ρ S (fun b S1 => iteB b (ea ρ S1 q x) (eb ρ S1 q x)) x
theorem ge_ifExp (hc : GT X W c ma) (ha : GE X W a ea) (hb : GE X W b eb) : GE X W (.IfExp c a b pos) (eIf ma ea eb) := by
  obtain ⟨tc, pc, mc⟩ := hc
  obtain ⟨t, p, m⟩ := ha
  obtain ⟨u, p', m'⟩ := hb
  refine ⟨_, pe_ifExp pc p p', fun as F H S ρ σ I R q x e Q hq hx => ?_⟩
  refine mc as F H S ρ σ I R _ x e _ (fun d S1 bs F1 H1 h g1 => ?_) hx
  cases d with
  | true => exact m bs F1 H1 S1 ρ σ g1.sit (R.grow g1) q x h Q (hq.step g1) (hx.step g1)
  | false => exact m' bs F1 H1 S1 ρ σ g1.sit (R.grow g1) q x h Q (hq.step g1) (hx.step g1)
def bChain (f g : WS → D → D → Option D) (ea eb ec : Env → M) : Env → MB := fun ρ S q x => ea ρ S (fun u S1 => eb ρ S1 (fun v S2 => onS (f S2 u v) fun d => onB d fun b => iteB b (ec ρ S2 (fun w S3 => onS (g S3 v w) fun d => onB d fun b => q b S3) x) (q false S2)) x) x
end
section
variable {X : Cx} {W : WX} {a b c e : Expr} {pos : Pos} {ea eb ec ee : Env → M} {ma mb : Env → MB}
/-! ### statements -/
variable {st : Stmt} {sts rest : List Stmt} {m1 m2 : Env → MS}
def sNil : Env → MS := fun ρ S k => k.nx ρ S
def sSeq (m1 m2 : Env → MS) : Env → MS := fun ρ S k => m1 ρ S ⟨fun ρ' S' => m2 ρ' S' k, k.rt, k.bk, k.ct, k.ex⟩
theorem ms_nil {K : PySem.W.Frag} : MSt K W tNext sNil := fun as F H S ρ σ I R k e E q => q.nx ρ S as F H σ e (Grow.refl I) R
theorem ms_seq {K : PySem.W.Frag} {t u : TS} (h1 : MSt K W t m1) (h2 : MSt K W u m2) : MSt K W (tSeq t u) (sSeq m1 m2) := fun as F H S ρ σ I R k e E q =>
  h1 as F H S ρ σ I R _ e _ ⟨fun ρ' S' bs F' H' σ' h g R' => h2 bs F' H' S' ρ' σ' g.sit R' k h E (q.step g), q.rt, q.bk, q.ct, q.ex⟩
theorem gss_nil : GSs X W [] sNil := ⟨_, pss_nil, ms_nil⟩
theorem gss_cons (h1 : GS X W st m1) (h2 : GSs X W rest m2) : GSs X W (st :: rest) (sSeq m1 m2) := by
  obtain ⟨t, p, m⟩ := h1
  obtain ⟨u, p', m'⟩ := h2
  exact ⟨_, pss_cons p p', ms_seq m m'⟩
theorem gss_one (h1 : GS X W st m1) : GSs X W [st] m1 := by
  obtain ⟨t, p, m⟩ := h1
  exact ⟨_, pss_one p, m⟩
def sNever : Env → MS := fun _ _ _ => False
theorem gs_never : GS X W st sNever := ⟨_, ps_never, fun as F H S ρ σ I R k e => e.elim⟩
def sRet (ea : Env → M) : Env → MS := fun ρ S k => ea ρ S k.rt fun e S' => k.ex e ρ S'
theorem gs_ret (h : GE X W e ea) : GS X W (.Return (some e) pos) (sRet ea) := by
  obtain ⟨t, p, m⟩ := h
  exact ⟨_, ps_ret p, fun as F H S ρ σ I R k h E q => m as F H S ρ σ I R _ _ h _ (fun d S' bs F' H' v a g r => q.rt d S' bs F' H' v a g r) (q.xq R)⟩
def sDrop (ea : Env → M) : Env → MS := fun ρ S k => ea ρ S (fun _ S' => k.nx ρ S') fun e S' => k.ex e ρ S'
theorem gs_expr (h : GE X W e ea) (hs : swapsWith e none pos.line X.env = pure false := by rfl) : GS X W (.Expr e pos) (sDrop ea) := by
  obtain ⟨t, p, m⟩ := h
  exact ⟨_, ps_expr p hs, fun as F H S ρ σ I R k h E q => m as F H S ρ σ I R _ _ h _ (fun d S' bs F' H' v a g r => q.nx ρ S' bs F' H' σ a g (R.grow g)) (q.xq R)⟩
def sAsg (i : Nat) (ea : Env → M) : Env → MS := fun ρ S k => ea ρ S (fun d S' => k.nx (ρ.set i (some d)) S') fun e S' => k.ex e ρ S'
theorem ms_asg {K : PySem.W.Frag} {i : Nat} {t : TE} (m : ME K W t ea) : MSt K W (tAsg t (gName i)) (sAsg i ea) := fun as F H S ρ σ I R k h E q =>
  m as F H S ρ σ I R _ _ h _ (fun d S' bs F' H' v a g r => q.nx _ S' bs F' H' _ a g ((R.grow g).set r)) (q.xq R)
theorem gs_set (i : Nat) {x : Str} {pos' : Pos} (hN : X.N.Nodup) (h : GE X W e ea) (hi : X.N[i]? = some x := by rfl) (hx : Loc X.env.scope x := by first | exact Or.inl rfl | exact Or.inr rfl) (hs : swapsWith e (some (.Name x pos')) pos.line X.env = pure false := by rfl)
    (hf : X.fn x = true ∨ X.env.scope.names.lookup x = some .local := by first | exact .inl rfl | exact .inr rfl | assumption) : GS X W (.Assign [.Name x pos'] e pos) (sAsg i ea) := by
  obtain ⟨t, p, m⟩ := h
  exact ⟨_, ps_set (i := i) hN hi hx p hs hf, ms_asg m⟩
def sIf (mc : Env → MB) (m1 m2 : Env → MS) : Env → MS := fun ρ S k => mc ρ S (fun b S' => iteB b (m1 ρ S' k) (m2 ρ S' k)) fun e S' => k.ex e ρ S'
theorem gs_if {as bs : List Stmt} (hc : GT X W c ma) (ha : GSs X W as m1) (hb : GSs X W bs m2) : GS X W (.If c as bs pos) (sIf ma m1 m2) := by
  obtain ⟨tc, pc, mc⟩ := hc
  obtain ⟨t, p, m⟩ := ha
  obtain ⟨u, p', m'⟩ := hb
  refine ⟨_, ps_if pc p p', fun as F H S ρ σ I R k h E q => ?_⟩
  refine mc as F H S ρ σ I R _ _ h _ (fun d S1 bs F1 H1 h g1 => ?_) (q.xq R)
  cases d with
  | true => exact m bs F1 H1 S1 ρ σ g1.sit (R.grow g1) k h E (q.step g1)
  | false => exact m' bs F1 H1 S1 ρ σ g1.sit (R.grow g1) k h E (q.step g1)
end
end RV
end
section
/-! Targets, walks, for. -/
namespace RV
open PySem L2
section
variable {X : Cx} {W : WX} {a b c e tg iter : Expr} {pos : Pos} {ea eb ec ee : Env → M} {ma mb : Env → MB} {m1 m2 mbody : Env → MS}
/-! ### targets: vs the slots that are touched -/
def Agr (vs : List Nat) (σ σ' : L2.St) : Prop := σ'.length = σ.length ∧ ∀ j, j ∉ vs → σ'[j]? = σ[j]?
theorem Agr.refl {vs : List Nat} {σ : L2.St} : Agr vs σ σ := ⟨rfl, fun _ _ => rfl⟩
theorem Agr.app {vs ws : List Nat} {σ σ1 σ2 : L2.St} (a : Agr vs σ σ1) (b : Agr ws σ1 σ2) : Agr (vs ++ ws) σ σ2 :=
  ⟨b.1.trans a.1, fun j h => (b.2 j fun z => h (List.mem_append_right _ z)).trans (a.2 j fun z => h (List.mem_append_left _ z))⟩
theorem Agr.set {i : Nat} {σ : L2.St} {v : Option V} : Agr [i] σ (σ.set i v) := ⟨List.length_set, fun j h => List.getElem?_set_ne (fun z => h (by rw [z]; exact List.mem_singleton.mpr rfl))⟩
def MG (K : PySem.W.Frag) (g : TG) (vs : List Nat) (f : D → Env → Option Env) : Prop := ∀ (as : List Addr) (F H : Hp) (S : WS) (ρ : Env) (σ : L2.St) (x : D) (v : V) (ρ' : Env), Sit K as F H S → RpE K as F ρ σ → Rp K as F x v → f x ρ = some ρ' →
  ∀ Q : L2.St → Hp → Prop, (∀ σ', Agr vs σ σ' → RpE K as F ρ' σ' → Q σ' H) → g v σ H Q
structure GG (X : Cx) (tg : Expr) (vs : List Nat) (f : D → Env → Option Env) : Prop where
  ex : ∃ g, PG X tg g ∧ MG X.K g vs f
def MGs (K : PySem.W.Frag) (g : TGs) (vs : List Nat) (f : List D → Env → Option Env) : Prop := ∀ (as : List Addr) (F H : Hp) (S : WS) (ρ : Env) (σ : L2.St) (xs : List D) (us : List V) (ρ' : Env), Sit K as F H S → RpE K as F ρ σ → RpL K as F xs us → f xs ρ = some ρ' →
  ∀ Q : L2.St → Hp → Prop, (∀ σ', Agr vs σ σ' → RpE K as F ρ' σ' → Q σ' H) → g us σ H Q
structure GGs (X : Cx) (ts : List Expr) (n : Nat) (vs : List Nat) (f : List D → Env → Option Env) : Prop where
  ex : ts.length = n ∧ ∃ g, PGs X ts g ∧ MGs X.K g vs f
def tName (i : Nat) : D → Env → Option Env := fun d ρ => some (ρ.set i (some d))
theorem gg_name (i : Nat) {x : Str} (hN : X.N.Nodup) (hi : X.N[i]? = some x := by rfl) (hx : Loc X.env.scope x := by first | exact Or.inl rfl | exact Or.inr rfl) (hf : X.fn x = true ∨ X.env.scope.names.lookup x = some .local := by first | exact .inl rfl | exact .inr rfl | assumption) :
    GG X (.Name x pos) [i] (tName i) := by
  refine ⟨_, pg_name (i := i) hN hi hx hf, fun as F H S ρ σ x v ρ' I R r e Q q => ?_⟩
  cases e
  exact q _ Agr.set (R.set r)
def tsNil : List D → Env → Option Env := fun ds ρ => match ds with
  | [] => some ρ
  | _ => none
def tsCons (f : D → Env → Option Env) (g : List D → Env → Option Env) : List D → Env → Option Env := fun ds ρ => match ds with
  | [] => none
  | d :: r => (f d ρ).bind fun ρ' => g r ρ'
theorem ggs_nil : GGs X [] 0 [] tsNil := by
  refine ⟨rfl, _, pgs_nil, fun as F H S ρ σ xs us ρ' I R r e Q q => ?_⟩
  unfold tsNil at e
  cases r with
  | nil =>
    cases e
    exact ⟨rfl, q σ Agr.refl R⟩
  | cons _ _ => cases e
theorem ggs_cons {n : Nat} {vs ws : List Nat} {es : List Expr} {f : D → Env → Option Env} {g : List D → Env → Option Env} (h1 : GG X e vs f) (h2 : GGs X es n ws g) (hs : (assignEach (e :: es) X.env).map (·.2) = assign e X.env :: (assignEach es X.env).map (·.2) := by rfl) :
    GGs X (e :: es) (n + 1) (vs ++ ws) (tsCons f g) := by
  obtain ⟨t, p, m⟩ := h1
  obtain ⟨hn, u, p', m'⟩ := h2
  refine ⟨by rw [List.length_cons, hn], _, pgs_cons p p' hs, fun as F H S ρ σ xs us ρ' I R r e Q q => ?_⟩
  cases r with
  | nil => cases e
  | cons h r =>
    rename_i d v ds ws
    unfold tsCons at e
    cases h1 : f d ρ with
    | none => simp [h1] at e
    | some ρ1 =>
      simp only [h1, Option.bind_some] at e
      exact ⟨v, ws, rfl, m as F H S ρ σ d v ρ1 I R h h1 _ fun σ1 A1 R1 => m' as F H S ρ1 σ1 ds ws ρ' I R1 r e Q fun σ2 A2 R2 => q σ2 (A1.app A2) R2⟩
def tTupD (n : Nat) (g : List D → Env → Option Env) : D → Env → Option Env := fun d ρ => match d with
  | .tup ds => if ds.length = n then g ds ρ else none
  | _ => none
theorem gg_tup {es : List Expr} {k n : Nat} {vs : List Nat} {g : List D → Env → Option Env} (hc : X.calm = true) (h : GGs X es n vs g) (hn : (assignEach es X.env).length = n := by rfl) (hst : (assignEach es X.env).findIdx? (·.1) = none := by rfl) : GG X (.Tuple es k pos) vs (tTupD n g) := by
  obtain ⟨hl, t, p, m⟩ := h
  refine ⟨_, pg_tup hc p hn hst, fun as F H S ρ σ x v ρ' I R r e Q q => ?_⟩
  cases r with
  | tup hq rl =>
    unfold tTupD at e
    simp only at e
    split at e
    · rename_i hz
      exact ⟨_, _, rfl, I.ex.sqT hq, by rw [← rl.length]; exact hz, m as F H S ρ σ _ _ ρ' I R rl e Q q⟩
    · cases e
  | _ => cases e

/-! ### walks: N is what must stay so that the walk goes on -/
structure Walks (K : PySem.W.Frag) (J : It) (as : List Addr) (F : Hp) (ds : List D) (N : WS → Prop) : Prop where
  stop : ∀ bs F2 H2 S2, Sit K bs F2 H2 S2 → Ex F F2 → Pre as bs → N S2 → J.stop ds.length H2
  go : ∀ i, i < ds.length → ∀ bs F2 H2 S2, Sit K bs F2 H2 S2 → Ex F F2 → Pre as bs → N S2 → J.go i H2
  yld : ∀ (i : Nat) (d : D), ds[i]? = some d → ∀ bs F2 H2 S2, Sit K bs F2 H2 S2 → Ex F F2 → Pre as bs → N S2 → ∀ x H', J.yld i H2 x H' → ∃ F', Grow K bs F2 H2 bs F' H' S2 ∧ Rp K bs F' d x
abbrev MW := WS → (List D → (WS → Prop) → WS → Prop) → Xq → Prop
def any_ : WS → Prop := fun _ => True
def MI (K : PySem.W.Frag) (W : WX) (wi : TI) (m : Env → MW) : Prop := ∀ (as : List Addr) (F H : Hp) (S : WS) (ρ : Env) (σ : L2.St), Sit K as F H S → RpE K as F ρ σ → ∀ q x, m ρ S q x →
  ∀ R : It → Hp → Prop, (∀ ds N S' bs F' H' J, q ds N S' → Grow K as F H bs F' H' S' → Walks K J bs F' ds N → R J H') → XQ K as F H x (WE W σ) → wi σ H R
structure GI (X : Cx) (W : WX) (tg iter : Expr) (m : Env → MW) : Prop where
  ex : ∃ wi, PI X tg iter wi ∧ MI X.K W wi m
theorem walks_range {K : PySem.W.Frag} {as : List Addr} {F : Hp} {lo : Int} {n : Nat} {N : WS → Prop} : Walks K (Itr lo n) as F ((List.range n).map fun (i : Nat) => D.int (lo + (i : Int))) N := by
  refine ⟨fun bs F2 H2 S2 I _ _ _ => ?_, fun i h bs F2 H2 S2 I _ _ _ => ?_, fun i d h bs F2 H2 S2 I _ _ _ x H' y => ?_⟩
  · show n ≤ ((List.range n).map fun (i : Nat) => D.int (lo + (i : Int))).length
    simp
  · have h2 : i < n := by simpa using h
    exact h2
  · obtain ⟨rfl, rfl⟩ := y
    simp only [List.getElem?_map, Option.map_eq_some_iff] at h
    obtain ⟨j, hj, rfl⟩ := h
    have hji : j = i := by
      have := List.getElem?_eq_some_iff.mp hj
      obtain ⟨q, w⟩ := this
      simpa using w.symm
    subst hji
    exact ⟨F2, Grow.refl I, .int _⟩
/-- 0, 1, .. -/
def upto (j : Int) : List D := (List.range j.toNat).map fun (i : Nat) => D.int (0 + (i : Int))
def iRange1 (er : Env → ML) : Env → MW := fun ρ S q x => er ρ S (fun ds S1 => on1 ds fun d => onI d fun j => (-(2 ^ 62) ≤ j ∧ j < 2 ^ 62) ∧ q (upto j) any_ S1) x
theorem gi_range1 {er : Env → ML} {p : Pos} (hm : X.mg "range" = none) (ha : GA X W [a] er) (hg : Gl X "range" := by rfl) (hs : starEach [a] X.env = [(false, eval a X.env)] := by rfl) : GI X W tg (.Call (.Name "range" p) [a] [] pos) (iRange1 er) := by
  obtain ⟨t, p, m⟩ := ha
  refine ⟨_, pi_range1 hg hm p hs, fun as F H S ρ σ I R q x e Q hq hx => ?_⟩
  refine m as F H S ρ σ I R _ x e _ (fun ds S1 bs F1 H1 vs h1 g r => ?_) hx
  obtain ⟨y, rfl, h1⟩ := on1_ok h1
  obtain ⟨j, rfl, h1⟩ := onI_ok h1
  obtain ⟨v, ws, rfl, rv, rn⟩ := r.unsn
  obtain rfl := rn.unnil
  cases rv
  exact ⟨_, rfl, h1.1.1, h1.1.2, hq _ _ S1 bs F1 H1 _ h1.2 g walks_range⟩
/-- the cell k holds the list ds -/
def Holds (k : Nat) (ds : List D) (S : WS) : Prop := S[k]? = some (.lst ds)
theorem walks_list {K : PySem.W.Frag} {as : List Addr} {F : Hp} {p : Addr} {xs : List V} {ds : List D} {N : WS → Prop} (h : SqL K F p xs) (r : RpL K as F ds xs) : Walks K (Itl K p) as F ds N := by
  refine ⟨fun bs F2 H2 S2 I e _ _ => ?_, fun i hi bs F2 H2 S2 I e _ _ => ?_, fun i d hd bs F2 H2 S2 I e pr _ x H' y => ?_⟩
  · have hq : SqL K H2 p xs := I.ex.sqL (e.sqL h)
    refine ⟨xs, hq, ?_⟩
    rw [← r.length]
    exact Nat.le_refl _
  · have hq : SqL K H2 p xs := I.ex.sqL (e.sqL h)
    have hl : i < xs.length := by
      rw [← r.length]
      exact hi
    exact ⟨xs, xs[i], hq, List.getElem?_eq_getElem hl⟩
  · have hq : SqL K H2 p xs := I.ex.sqL (e.sqL h)
    obtain ⟨rfl, y⟩ := y
    have y1 := y xs hq
    obtain ⟨v, hv, rv⟩ := r.get hd
    rw [hv] at y1
    cases y1
    exact ⟨F2, Grow.refl I, rv.mono e pr⟩
theorem pre_nil {as : List Addr} : Pre [] as := fun i a h => by simp at h
theorem walks_cell {K : PySem.W.Frag} {as : List Addr} {F : Hp} {a : Addr} {k : Nat} {ds : List D} (ha : as[k]? = some a) : Walks K (Itl K a) as F ds (Holds k ds) := by
  have at_ : ∀ bs F2 H2 S2, Sit K bs F2 H2 S2 → Ex F F2 → Pre as bs → Holds k ds S2 → ∃ ys, H2 a = some (.lst ys) ∧ RpL K [] F2 ds ys := fun bs F2 H2 S2 I2 _ p2 hN => by
    obtain ⟨_, o2, y2, y3⟩ := I2.cell k a _ (p2 k a ha) hN
    cases o2 with
    | lst ys => exact ⟨ys, y2, y3⟩
    | _ => exact y3.elim
  refine ⟨fun bs F2 H2 S2 I2 x2 p2 hN => ?_, fun i hi bs F2 H2 S2 I2 x2 p2 hN => ?_, fun i d hd bs F2 H2 S2 I2 x2 p2 hN x H' y => ?_⟩
  · obtain ⟨ys, y2, y3⟩ := at_ bs F2 H2 S2 I2 x2 p2 hN
    exact ⟨ys, SqL.of y2, by rw [RpL.length y3]; exact Nat.le_refl _⟩
  · obtain ⟨ys, y2, y3⟩ := at_ bs F2 H2 S2 I2 x2 p2 hN
    have hl : i < ys.length := by rw [← RpL.length y3]; exact hi
    exact ⟨ys, ys[i], SqL.of y2, List.getElem?_eq_getElem hl⟩
  · obtain ⟨ys, y2, y3⟩ := at_ bs F2 H2 S2 I2 x2 p2 hN
    obtain ⟨rfl, hx⟩ := y
    obtain ⟨v, hv, rv⟩ := y3.get hd
    have := hx ys (SqL.of y2)
    rw [this] at hv
    cases hv
    exact ⟨F2, Grow.refl I2, rv.mono (Ex.refl _) pre_nil⟩
theorem rpl_ints {K : PySem.W.Frag} {as : List Addr} {F : Hp} : ∀ ns : List Int, RpL K as F (ns.map D.int) (ns.map V.int)
  | [] => .nil
  | n :: ns => .cons (.int n) (rpl_ints ns)
theorem walks_tup {K : PySem.W.Frag} {as : List Addr} {F : Hp} {p : Addr} {xs : List V} {ds : List D} {N : WS → Prop} (h : SqT K F p xs) (r : RpL K as F ds xs) : Walks K (Itt K p) as F ds N := by
  refine ⟨fun bs F2 H2 S2 I e _ _ => ?_, fun i hi bs F2 H2 S2 I e _ _ => ?_, fun i d hd bs F2 H2 S2 I e pr _ x H' y => ?_⟩
  · have hq : SqT K H2 p xs := I.ex.sqT (e.sqT h)
    refine ⟨xs, hq, ?_⟩
    rw [← r.length]
    exact Nat.le_refl _
  · have hq : SqT K H2 p xs := I.ex.sqT (e.sqT h)
    have hl : i < xs.length := by
      rw [← r.length]
      exact hi
    exact ⟨xs, xs[i], hq, List.getElem?_eq_getElem hl⟩
  · have hq : SqT K H2 p xs := I.ex.sqT (e.sqT h)
    obtain ⟨rfl, y⟩ := y
    have y1 := y xs hq
    obtain ⟨v, hv, rv⟩ := r.get hd
    rw [hv] at y1
    cases y1
    exact ⟨F2, Grow.refl I, rv.mono e pr⟩
theorem walks_str {K : PySem.W.Frag} {as : List Addr} {F : Hp} {x : Str} {N : WS → Prop} : Walks K (Its x) as F (x.cps.toList.map fun c => D.str ⟨#[c]⟩) N := by
  refine ⟨fun bs F2 H2 S2 I _ _ _ => ?_, fun i h bs F2 H2 S2 I _ _ _ => ?_, fun i d h bs F2 H2 S2 I _ _ _ y H' z => ?_⟩
  · show x.length ≤ (x.cps.toList.map fun c => D.str ⟨#[c]⟩).length
    simp [Str.length]
  · show i < x.length
    simpa [Str.length] using h
  · obtain ⟨rfl, z⟩ := z
    simp only [List.getElem?_map, Option.map_eq_some_iff] at h
    obtain ⟨j, hj, rfl⟩ := h
    have z2 : ∃ c, x.cps.toList[i]? = some c ∧ y = V.str ⟨#[c]⟩ := by
      first
        | exact z
        | simpa using z
    obtain ⟨c, hc, rfl⟩ := z2
    rw [hj] at hc
    cases hc
    exact ⟨F2, Grow.refl I, .str _⟩
/-- over a list, a tuple, a text -/
def onSeq (d : D) (S : WS) (q : List D → (WS → Prop) → WS → Prop) : Prop := match d with
  | .lst ds => q ds any_ S
  | .scr ns => q (ns.map D.int) any_ S
  | .cell k => onS S[k]? fun c => onLst c fun ds => q ds (Holds k ds) S
  | _ => False
def iSeq (ea : Env → M) : Env → MW := fun ρ S q x => ea ρ S (fun d S1 => onSeq d S1 q) x
def iTupD (ea : Env → M) : Env → MW := fun ρ S q x => ea ρ S (fun d S1 => onTu d fun ds => q ds any_ S1) x
def iStrD (ea : Env → M) : Env → MW := fun ρ S q x => ea ρ S (fun d S1 => onT d fun z => q (z.cps.toList.map fun c => D.str ⟨#[c]⟩) any_ S1) x
theorem gi_list (ha : GE X W a ea) : GI X W tg a (iSeq ea) := by
  obtain ⟨t, p, m⟩ := ha
  refine ⟨_, pi_list p, fun as F H S ρ σ I R q x e Q hq hx => ?_⟩
  refine m as F H S ρ σ I R _ x e _ (fun d S1 bs F1 H1 v h1 g r => ?_) hx
  cases r with
  | lst hp rl => exact ⟨_, rfl, ⟨_, SqL.of (g.sit.ex _ _ hp)⟩, hq _ _ S1 bs F1 H1 _ h1 g (walks_list (SqL.of hp) rl)⟩
  | scr hp => exact ⟨_, rfl, ⟨_, g.sit.ex.sqL hp⟩, hq _ _ S1 bs F1 H1 _ h1 g (walks_list hp (rpl_ints _))⟩
  | cell ha =>
    obtain ⟨c, hS, h2⟩ := onS_ok h1
    cases c with
    | lst ds =>
      obtain ⟨_, o, z2, z3⟩ := g.sit.cell _ _ _ ha hS
      cases o with
      | lst xs => exact ⟨_, rfl, ⟨xs, SqL.of z2⟩, hq _ _ S1 bs F1 H1 _ h2 g (walks_cell ha)⟩
      | _ => exact z3.elim
    | _ => exact h2.elim
  | _ => exact h1.elim
theorem gi_tup (ha : GE X W a ea) : GI X W tg a (iTupD ea) := by
  obtain ⟨t, p, m⟩ := ha
  refine ⟨_, pi_tup p, fun as F H S ρ σ I R q x e Q hq hx => ?_⟩
  refine m as F H S ρ σ I R _ x e _ (fun d S1 bs F1 H1 v h1 g r => ?_) hx
  cases r with
  | tup hp rl => exact ⟨_, rfl, ⟨_, g.sit.ex.sqT hp⟩, hq _ _ S1 bs F1 H1 _ h1 g (walks_tup hp rl)⟩
  | _ => exact h1.elim
theorem gi_str (ha : GE X W a ea) : GI X W tg a (iStrD ea) := by
  obtain ⟨t, p, m⟩ := ha
  refine ⟨_, pi_str p, fun as F H S ρ σ I R q x e Q hq hx => ?_⟩
  refine m as F H S ρ σ I R _ x e _ (fun d S1 bs F1 H1 v h1 g r => ?_) hx
  cases r with
  | str z => exact ⟨_, rfl, hq _ _ S1 bs F1 H1 _ h1 g walks_str⟩
  | _ => exact h1.elim

/-! ### for -/
def forD (N : WS → Prop) (f : D → Env → Option Env) (mb : Env → MS) : List D → Env → MS
  | [], ρ, S, k => N S ∧ k.nx ρ S
  | d :: ds, ρ, S, k => N S ∧ onS (f d ρ) fun ρ1 => mb ρ1 S ⟨fun ρ2 S2 => forD N f mb ds ρ2 S2 k, k.rt, k.nx, fun ρ2 S2 => forD N f mb ds ρ2 S2 k, k.ex⟩
theorem forD_N {N : WS → Prop} {f : D → Env → Option Env} {mb : Env → MS} {ds : List D} {ρ : Env} {S : WS} {k : Kt} (h : forD N f mb ds ρ S k) : N S := by
  cases ds with
  | nil => exact h.1
  | cons d ds => exact h.1
def sFor (mi : Env → MW) (f : D → Env → Option Env) (mb : Env → MS) : Env → MS := fun ρ S k => mi ρ S (fun ds N S1 => forD N f mb ds ρ S1 k) fun e S' => k.ex e ρ S'
theorem ms_for {K : PySem.W.Frag} {wi : TI} {g : TG} {tb : TS} {mi : Env → MW} {f : D → Env → Option Env} {vs : List Nat} (hi : MI K W wi mi) (hg : MG K g vs f) (hb : MSt K W tb mbody) : MSt K W (tFor wi g tb) (sFor mi f mbody) := fun as F H S ρ σ I R k e E q => by
  refine hi as F H S ρ σ I R _ _ e _ (fun ds N S0 as F0 H0 J h0 g0 wk => ?_) (q.xq R)
  have q0 := q.step g0
  refine ⟨fun i m σ H => m = ds.length - i ∧ i ≤ ds.length ∧ ∃ bs F1 S1 ρ1, Grow K as F0 H0 bs F1 H S1 ∧ RpE K bs F1 ρ1 σ ∧ forD N f mbody (ds.drop i) ρ1 S1 k, ⟨ds.length, by simp, Nat.zero_le _, as, F0, S0, ρ, Grow.refl g0.sit, R.grow g0, by simpa using h0⟩, ?_⟩
  rintro i m σ1 H1 ⟨rfl, hle, bs, F1, S1, ρ1, g1, R1, e1⟩
  have hN := forD_N e1
  by_cases hlt : i < ds.length
  · right
    refine ⟨wk.go i hlt bs F1 H1 S1 g1.sit g1.ex g1.pre hN, fun σ' H' => ∃ m', m' < ds.length - i ∧ m' = ds.length - (i + 1) ∧ i + 1 ≤ ds.length ∧ ∃ bs F1 S1 ρ1, Grow K as F0 H0 bs F1 H' S1 ∧ RpE K bs F1 ρ1 σ' ∧ forD N f mbody (ds.drop (i + 1)) ρ1 S1 k, fun σ' H' n => ?_, fun x H' y => ?_⟩
    · obtain ⟨m', h1, h2, h3, h4⟩ := n
      exact ⟨m', h1, h2, h3, h4⟩
    · have hd : ds[i]? = some ds[i] := List.getElem?_eq_getElem hlt
      obtain ⟨F2, g2, rx⟩ := wk.yld i ds[i] hd bs F1 H1 S1 g1.sit g1.ex g1.pre hN x H' y
      rw [List.drop_eq_getElem_cons hlt] at e1
      obtain ⟨ρ2, hf, hm⟩ := onS_ok e1.2
      refine hg bs F2 H' S1 ρ1 σ1 ds[i] x ρ2 g2.sit (R1.grow g2) rx hf _ fun σ2 _ R2 => ?_
      have g12 := g1.trans g2
      refine hb bs F2 H' S1 ρ2 σ2 g2.sit R2 _ hm _ ⟨fun ρ3 S2 cs F3 H3 σ3 h3 g3 R3 => ?_, fun d S' cs F3 H3 v h3 g3 => q0.rt d S' cs F3 H3 v h3 (g12.trans g3), fun ρ3 S2 cs F3 H3 σ3 h3 g3 => q0.nx ρ3 S2 cs F3 H3 σ3 h3 (g12.trans g3), fun ρ3 S2 cs F3 H3 σ3 h3 g3 R3 => ?_, fun e ρ' S' cs F3 H3 σ3 cls dd h3 g3 => q0.ex e ρ' S' cs F3 H3 σ3 cls dd h3 (g12.trans g3)⟩
      · exact ⟨_, by omega, rfl, hlt, cs, F3, S2, ρ3, g12.trans g3, R3, h3⟩
      · exact ⟨_, by omega, rfl, hlt, cs, F3, S2, ρ3, g12.trans g3, R3, h3⟩
  · left
    have hi2 : i = ds.length := by omega
    subst hi2
    refine ⟨wk.stop bs F1 H1 S1 g1.sit g1.ex g1.pre hN, ?_⟩
    rw [List.drop_length] at e1
    exact q0.nx ρ1 S1 bs F1 H1 σ1 e1.2 g1 R1
theorem gs_for {body : List Stmt} {mi : Env → MW} {vs : List Nat} {f : D → Env → Option Env} (hp : PassesOwn (model X.prog X.w) X.A X.env X.xe) (hc : X.calm = true) (hi : GI X W tg iter mi) (hg : GG X tg vs f) (hb : GSs X W body mbody)
    (hs : ∀ (x : Value), foldedSetIterable iter X.env x = pure x := by intro _; rfl) : GS X W (.For tg iter body [] pos) (sFor mi f mbody) := by
  obtain ⟨wi, pi, mi'⟩ := hi
  obtain ⟨g, pg, mg⟩ := hg
  obtain ⟨t, pt, mt⟩ := hb
  exact ⟨_, ps_for hp hc pi pg pt hs, ms_for mi' mg mt⟩
end
end RV
end
section
/-! Comprehensions. -/
namespace RV
open PySem L2
abbrev WF : WX := fun _ _ _ _ => False
abbrev noX : Xq := fun _ _ => False
section
variable {X : Cx} {W : WX} {a b c e tg iter elt : Expr} {pos : Pos} {ea eb ec ee : Env → M} {ma mb mc : Env → MB} {m1 m2 mbody : Env → MS}
/-! ### the reading that says just what m says; nothing is raised -/
def rdE (K : PySem.W.Frag) (m : Env → M) : TE := fun σ H Q => ∃ (as : List Addr) (F : Hp) (S : WS) (ρ : Env) (q : D → WS → Prop), Sit K as F H S ∧ RpE K as F ρ σ ∧ m ρ S q noX ∧ NQ K as F H q Q
theorem GE.canon (h : GE X WF e ea) : PE X e (rdE X.K ea) := by
  obtain ⟨t, p, m⟩ := h
  refine ⟨fun pins s σ H Q I h => ?_⟩
  obtain ⟨as, F, S, ρ, q, I', R, hm, hq⟩ := h
  exact p.run pins s σ H Q I (m as F H S ρ σ I' R q noX hm Q hq XQ.no)
def rdT (K : PySem.W.Frag) (m : Env → MB) : TT := fun σ H Q => ∃ (as : List Addr) (F : Hp) (S : WS) (ρ : Env) (q : Bool → WS → Prop), Sit K as F H S ∧ RpE K as F ρ σ ∧ m ρ S q noX ∧ ∀ b S' bs F' H', q b S' → Grow K as F H bs F' H' S' → Q b H'
theorem GT.canon (h : GT X WF e ma) : PT X e (rdT X.K ma) := by
  obtain ⟨t, p, m⟩ := h
  refine ⟨fun pins s σ H Q I h => ?_⟩
  obtain ⟨as, F, S, ρ, q, I', R, hm, hq⟩ := h
  exact p.run pins s σ H Q I (m as F H S ρ σ I' R q noX hm Q hq XQ.no)
def rdG (K : PySem.W.Frag) (vs : List Nat) (f : D → Env → Option Env) : TG := fun v σ H Q => ∃ (as : List Addr) (F : Hp) (S : WS) (ρ : Env) (x : D) (ρ' : Env), Sit K as F H S ∧ RpE K as F ρ σ ∧ Rp K as F x v ∧ f x ρ = some ρ' ∧ ∀ σ', Agr vs σ σ' → RpE K as F ρ' σ' → Q σ' H
theorem GG.canon {vs : List Nat} {f : D → Env → Option Env} (h : GG X tg vs f) : PG X tg (rdG X.K vs f) := by
  obtain ⟨t, p, m⟩ := h
  refine ⟨fun pins s σ H v u Q I r h => ?_⟩
  obtain ⟨as, F, S, ρ, x, ρ', I', R, rx, hm, q⟩ := h
  exact p.run pins s σ H v u Q I r (m as F H S ρ σ x v ρ' I' R rx hm Q q)
/-- tests of a comprehension: none or one -/
structure GTs (X : Cx) (ifs : List Expr) (m : Env → MB) : Prop where
  ex : PTs X ifs (rdT X.K m)
def bYes : Env → MB := fun _ S q _ => q true S
theorem gts_nil : GTs X [] bYes := by
  refine ⟨⟨fun pins s σ H Q I h => ?_⟩⟩
  obtain ⟨as, F, S, ρ, q, I', R, hm, hq⟩ := h
  exact pts_nil.run pins s σ H Q I (hq _ S as F H hm (Grow.refl I'))
theorem gts_one (h : GT X WF c mc) : GTs X [c] mc := ⟨pts_one h.canon⟩

/-! ### comprehensions -/
def wipeE (ρ : Env) : List Nat → Env
  | [] => ρ
  | v :: vs => (wipeE ρ vs).set v none
theorem set_none {K : PySem.W.Frag} {as : List Addr} {F : Hp} {ρ : Env} {σ : L2.St} {i : Nat} (r : RpE K as F ρ σ) : RpE K as F (ρ.set i none) (σ.set i none) := by
  refine ⟨by rw [List.length_set, List.length_set]; exact r.len, fun j d q => ?_⟩
  by_cases hj : i = j
  · subst hj
    by_cases hl : i < ρ.length
    · rw [List.getElem?_set_self hl] at q
      cases q
    · rw [List.getElem?_eq_none (by rw [List.length_set]; omega)] at q
      cases q
  · rw [List.getElem?_set_ne hj] at q ⊢
    exact r.at_ j d q
theorem RpE.wipe {K : PySem.W.Frag} {as : List Addr} {F : Hp} {ρ : Env} {σ : L2.St} (r : RpE K as F ρ σ) : ∀ vs : List Nat, RpE K as F (wipeE ρ vs) (L2.wipe σ vs)
  | [] => r
  | v :: vs => set_none (r.wipe vs)
theorem wipe_at (σ : L2.St) (j : Nat) : ∀ vs : List Nat, (L2.wipe σ vs)[j]? = if j ∈ vs then (if j < σ.length then some none else none) else σ[j]?
  | [] => by simp [L2.wipe]
  | v :: vs => by
    unfold L2.wipe
    by_cases h : v = j
    · subst h
      by_cases hl : v < σ.length
      · rw [List.getElem?_set_self (by rw [wipe_length]; exact hl)]
        simp [hl]
      · rw [List.getElem?_eq_none (by rw [List.length_set, wipe_length]; omega)]
        simp [hl]
    · rw [List.getElem?_set_ne h, wipe_at σ j vs]
      have : j ≠ v := fun z => h z.symm
      simp [this]
theorem wipe_agr {σ σ2 : L2.St} {us vs : List Nat} (h : Agr us (L2.wipe σ vs) σ2) (hs : ∀ x ∈ us, x ∈ vs) : L2.wipe σ2 vs = L2.wipe σ vs := by
  have hl : σ2.length = σ.length := h.1.trans (wipe_length σ vs)
  refine List.ext_getElem? fun j => ?_
  rw [wipe_at, wipe_at, hl]
  by_cases hj : j ∈ vs
  · simp [hj]
  · rw [if_neg hj, if_neg hj, h.2 j fun z => hj (hs j z), wipe_at, if_neg hj]
def lcD (N : WS → Prop) (f : D → Env → Option Env) (mc : Env → MB) (me : Env → M) (ρ : Env) : List D → List D → WS → (List D → WS → Prop) → Prop
  | [], acc, S, q => N S ∧ q acc S
  | d :: ds, acc, S, q => N S ∧ onS (f d ρ) fun ρ1 => mc ρ1 S (fun b S1 => iteB b (me ρ1 S1 (fun y S2 => lcD N f mc me ρ ds (acc ++ [y]) S2 q) noX) (lcD N f mc me ρ ds acc S1 q)) noX
theorem lcD_N {N : WS → Prop} {f : D → Env → Option Env} {mc : Env → MB} {me : Env → M} {ρ : Env} {ds acc : List D} {S : WS} {q : List D → WS → Prop} (h : lcD N f mc me ρ ds acc S q) : N S := by
  cases ds with
  | nil => exact h.1
  | cons d ds => exact h.1
/-- what becomes of a new list: it stands still, or it is a new cell -/
inductive Lk where
  | still
  | new
mutual
/-- data that names no cell from n on -/
def D.clean (n : Nat) : D → Bool
  | .cell k => decide (k < n)
  | .tup ds => D.cleanL n ds
  | .ptu ds => D.cleanL n ds
  | .clo _ _ _ _ cs _ => D.cleanL n cs
  | .lst ds => D.cleanL n ds
  | .obj _ fs => D.cleanF n fs
  | .exc _ fs => D.cleanF n fs
  | .exv _ _ _ _ => false
  | .dic fs => D.cleanK n fs
  | .non | .bl _ | .int _ | .str _ | .ty _ | .adr _ | .scr _ => true
def D.cleanL (n : Nat) : List D → Bool
  | [] => true
  | d :: ds => D.clean n d && D.cleanL n ds
def D.cleanF (n : Nat) : List (Str × D) → Bool
  | [] => true
  | (_, d) :: ds => D.clean n d && D.cleanF n ds
def D.cleanK (n : Nat) : List (Key × D) → Bool
  | [] => true
  | (_, d) :: ds => D.clean n d && D.cleanK n ds
end
section
variable {K : PySem.W.Frag} {as bs : List Addr} {F : Hp} {n : Nat}
mutual
theorem Rp.back (p : ∀ k a, k < n → bs[k]? = some a → as[k]? = some a) : ∀ {d : D} {v : V}, Rp K bs F d v → D.clean n d = true → Rp K as F d v
  | _, _, .non, _ => .non
  | _, _, .bl b, _ => .bl b
  | _, _, .int i, _ => .int i
  | _, _, .str s, _ => .str s
  | _, _, .ty n, _ => .ty n
  | _, _, .adr a, _ => .adr a
  | _, _, .scr h, _ => .scr h
  | _, _, .cell h, c => .cell (p _ _ (by unfold D.clean at c; exact of_decide_eq_true c) h)
  | _, _, .tup h r, c => .tup h (RpL.back p r (by unfold D.clean at c; exact c))
  | _, _, .ptu h r, c => .ptu h (RpL.back p r (by unfold D.clean at c; exact c))
  | _, _, .clo h h2 r, c => .clo h h2 (RpL.back p r (by unfold D.clean at c; exact c))
  | _, _, .lst h r, c => .lst h (RpL.back p r (by unfold D.clean at c; exact c))
  | _, _, .obj h r, c => .obj h (RpF.back p r (by unfold D.clean at c; exact c))
  | _, _, .dic h r, c => .dic h (RpK.back p r (by unfold D.clean at c; exact c))
theorem RpL.back (p : ∀ k a, k < n → bs[k]? = some a → as[k]? = some a) : ∀ {ds : List D} {vs : List V}, RpL K bs F ds vs → D.cleanL n ds = true → RpL K as F ds vs
  | _, _, .nil, _ => .nil
  | _, _, .cons h r, c => by
    unfold D.cleanL at c
    obtain ⟨c1, c2⟩ := Bool.and_eq_true_iff.mp c
    exact .cons (Rp.back p h c1) (RpL.back p r c2)
theorem RpF.back (p : ∀ k a, k < n → bs[k]? = some a → as[k]? = some a) : ∀ {fs : List (Str × D)} {vfs : List (Str × V)}, RpF K bs F fs vfs → D.cleanF n fs = true → RpF K as F fs vfs
  | _, _, .nil, _ => .nil
  | _, _, .cons h r, c => by
    unfold D.cleanF at c
    obtain ⟨c1, c2⟩ := Bool.and_eq_true_iff.mp c
    exact .cons (Rp.back p h c1) (RpF.back p r c2)
theorem RpK.back (p : ∀ k a, k < n → bs[k]? = some a → as[k]? = some a) : ∀ {fs : List (Key × D)} {vfs : List (Key × V)}, RpK K bs F fs vfs → D.cleanK n fs = true → RpK K as F fs vfs
  | _, _, .nil, _ => .nil
  | _, _, .cons h r, c => by
    unfold D.cleanK at c
    obtain ⟨c1, c2⟩ := Bool.and_eq_true_iff.mp c
    exact .cons (Rp.back p h c1) (RpK.back p r c2)
end
theorem rpl_clean0 {ds : List D} {vs : List V} (r : RpL K as F ds vs) (h : D.cleanL 0 ds = true) : RpL K [] F ds vs := r.back (n := 0) (fun k a hk => absurd hk (by omega)) h
end
/-- a new list hands on -/
def lkD (l : Lk) (ds : List D) (S : WS) (q : D → WS → Prop) : Prop := match l with
  | .still => q (.lst ds) S
  | .new => D.cleanL 0 ds = true ∧ q (.cell S.length) (S ++ [.lst ds])
theorem sit_cell {K : PySem.W.Frag} {as : List Addr} {F H : Hp} {S : WS} {x : Addr} {c : Cell} {o : HO} {H' : Hp} (I : Sit K as F H S) (nx : x ∉ as) (fx : F x = none) (hH : ∀ a u, a ∈ as ∨ F a ≠ none → H a = some u → H' a = some u) (hx' : H' x = some o) (hc : c.isHid = false) (ho : CellOf K F x c o) : Sit K (as ++ [x]) F H' (S ++ [c]) := by
  refine ⟨by simp [I.len], fun a u h => hH _ _ (.inr (by rw [h]; simp)) (I.ex a u h), ?_, fun i q c2 h1 h2 => ?_⟩
  · rw [List.nodup_append]
    refine ⟨I.nd, by simp, fun a ha b hb e => ?_⟩
    rw [List.mem_singleton] at hb
    subst hb
    exact nx (e ▸ ha)
  · by_cases hi : i < as.length
    · rw [List.getElem?_append_left hi] at h1
      rw [List.getElem?_append_left (by rw [← I.len]; exact hi)] at h2
      obtain ⟨z1, ob, z2, z3⟩ := I.cell i q c2 h1 h2
      exact ⟨z1, ob, hH _ _ (.inl (List.mem_of_getElem? h1)) z2, z3⟩
    · have hi2 : i = as.length := by
        have := (List.getElem?_eq_some_iff.mp h1).1
        simp at this
        omega
      subst hi2
      rw [List.getElem?_append_right (Nat.le_refl _)] at h1
      rw [List.getElem?_append_right (by rw [I.len]; exact Nat.le_refl _)] at h2
      simp at h1
      simp [I.len] at h2
      subst h1
      subst h2
      exact ⟨fun _ => fx, o, hx', ho⟩
theorem pre_app {as bs : List Addr} : Pre as (as ++ bs) := fun i a h => by
  rw [List.getElem?_append_left (List.getElem?_eq_some_iff.mp h).1]
  exact h
/-- the list at p, which is neither still nor a cell, is handed on -/
theorem lk_ok {K : PySem.W.Frag} {as bs : List Addr} {F H F1 H1 : Hp} {S1 : WS} {p : Addr} {ds : List D} {vs : List V} {l : Lk} {q : D → WS → Prop} {Q : VK} (hq : NQ K as F H q Q) (g : Grow K as F H bs F1 H1 S1) (hp : H p = none) (fp : F1 p = none) (bp : p ∉ bs) (hl : H1 p = some (.lst vs)) (r : RpL K bs F1 ds vs) (h : lkD l ds S1 q) : Q (.ref p) H1 := by
  cases l with
  | still =>
    have ex : Ex F1 (upd F1 p (.lst vs)) := Ex.new fp
    refine hq _ S1 bs (upd F1 p (.lst vs)) H1 _ h ⟨g.sit.freeze fp bp hl, g.pre, g.ex.trans ex, fun a ha => ?_, g.newc, g.old, g.there⟩ (.lst upd_same (r.mono ex (Pre.refl _)))
    by_cases e2 : a = p
    · subst e2
      exact .inr hp
    · rw [upd_ne e2] at ha
      exact g.new a ha
  | new =>
    have s2 : Sit K (bs ++ [p]) F1 H1 (S1 ++ [.lst ds]) := sit_cell g.sit bp fp (fun _ _ _ h => h) hl rfl (rpl_clean0 r h.1)
    refine hq _ _ (bs ++ [p]) F1 H1 _ h.2 ⟨s2, g.pre.trans pre_app, g.ex, g.new, fun a ha => ?_, g.old, g.there⟩ (.cell (by rw [← g.sit.len]; simp))
    rcases List.mem_append.mp ha with z | z
    · exact g.newc a z
    · rw [List.mem_singleton] at z
      subst z
      exact .inr hp
def eLc (l : Lk) (mi : Env → MW) (f : D → Env → Option Env) (mc : Env → MB) (me : Env → M) (vs : List Nat) : Env → M := fun ρ S q x => mi ρ S (fun ds N S1 => small ds.length = true ∧ lcD N f mc me (wipeE ρ vs) ds [] S1 fun es S2 => lkD l es S2 q) x
/-- a list that is being made: neither still nor a cell -/
theorem grow_free {K : PySem.W.Frag} {as bs : List Addr} {F H F1 H1 : Hp} {S1 : WS} {p : Addr} {o o' : HO} (g : Grow K as F H bs F1 H1 S1) (hp : H p = some o) (fp : F p = none) (ap : p ∉ as) : F1 p = none ∧ p ∉ bs ∧ H1 p = some o := by
  refine ⟨?_, fun z => ?_, g.old p o ap hp⟩
  · cases q3 : F1 p with
    | none => rfl
    | some u =>
      rcases g.new p (by rw [q3]; simp) with z | z
      · exact absurd fp z
      · rw [hp] at z
        cases z
  · rcases g.newc p z with z | z
    · exact ap z
    · rw [hp] at z
      cases z
theorem me_lc {K : PySem.W.Frag} {wi : TI} {l : Lk} {mi : Env → MW} {us vs : List Nat} {f : D → Env → Option Env} (hi : MI K W wi mi) (hs : ∀ x ∈ us, x ∈ vs) : ME K W (tLc wi (rdG K us f) (rdT K mc) (rdE K ee) vs) (eLc l mi f mc ee vs) := fun as F H S ρ σ I R q x e Q hq hx => by
  refine hi as F H S ρ σ I R _ _ e _ (fun ds N S0 as F0 H0 J h0 g0 wk D0 hD => ?_) hx
  obtain ⟨hsm, h2⟩ := h0
  have fD : F0 D0 = none := g0.sit.out hD
  have aD : D0 ∉ as := fun z => g0.sit.there z hD
  have RW : RpE K as F0 (wipeE ρ vs) (L2.wipe σ vs) := (R.grow g0).wipe vs
  have q0 := hq.step g0
  refine ⟨fun i m H1 => m = ds.length - i ∧ i ≤ ds.length ∧ ∃ bs F1 S1 acc done, Grow K as F0 H0 bs F1 H1 S1 ∧ F1 D0 = none ∧ D0 ∉ bs ∧ H1 D0 = some (.lst acc) ∧ RpL K bs F1 done acc ∧ done.length ≤ i ∧ lcD N f mc ee (wipeE ρ vs) (ds.drop i) done S1 (fun es S2 => lkD l es S2 q), ⟨ds.length, by simp, Nat.zero_le _, as, F0, S0, [], [], ?_, fD, aD, upd_same, .nil, Nat.le_refl _, by simpa using h2⟩, ?_⟩
  · exact ⟨g0.sit.other fD aD, Pre.refl _, Ex.refl _, fun _ h => .inl h, fun _ h => .inl h, fun a o _ h => by rw [upd_ne (ne_of_none h hD)]; exact h, fun a h => upd_there h⟩
  rintro i m H1 ⟨rfl, hle, bs, F1, S1, acc, done, g1, f1, b1, hD1, ra, hdl, e1⟩
  have hN := lcD_N e1
  have hacc : acc.length < sizeLine := by
    rw [← ra.length]
    have h5 : ds.length ≤ 100000 := of_decide_eq_true hsm
    have h6 : (100000 : Nat) < sizeLine := by decide
    omega
  by_cases hlt : i < ds.length
  · right
    refine ⟨wk.go i hlt bs F1 H1 S1 g1.sit g1.ex g1.pre hN, fun H' => ∃ m', m' < ds.length - i ∧ m' = ds.length - (i + 1) ∧ i + 1 ≤ ds.length ∧ ∃ bs F1 S1 acc done, Grow K as F0 H0 bs F1 H' S1 ∧ F1 D0 = none ∧ D0 ∉ bs ∧ H' D0 = some (.lst acc) ∧ RpL K bs F1 done acc ∧ done.length ≤ i + 1 ∧ lcD N f mc ee (wipeE ρ vs) (ds.drop (i + 1)) done S1 (fun es S2 => lkD l es S2 q), fun H' n => ?_, fun x H' y => ?_⟩
    · obtain ⟨m', n1, n2, n3, n4⟩ := n
      exact ⟨m', n1, n2, n3, n4⟩
    · have hd : ds[i]? = some ds[i] := List.getElem?_eq_getElem hlt
      obtain ⟨F2, g2, rx⟩ := wk.yld i ds[i] hd bs F1 H1 S1 g1.sit g1.ex g1.pre hN x H' y
      rw [List.drop_eq_getElem_cons hlt] at e1
      obtain ⟨ρ2, hf, hm⟩ := onS_ok e1.2
      have g12 := g1.trans g2
      refine ⟨bs, F2, S1, wipeE ρ vs, ds[i], ρ2, g2.sit, RW.mono g12.ex g12.pre, rx, hf, fun σ2 A2 R2 => ⟨wipe_agr A2 hs, ?_⟩⟩
      refine ⟨bs, F2, S1, ρ2, _, g2.sit, R2, hm, fun pb S2 cs F3 H3 h3 g3 => ?_⟩
      have g23 := g2.trans g3
      cases pb with
      | true =>
        refine ⟨cs, F3, S2, ρ2, _, g3.sit, R2.grow g3, h3, fun d S4 ls F4 H4 v h4 g4 r4 => ?_⟩
        have g24 := g23.trans g4
        have g5 := g1.trans g24
        obtain ⟨f4, b4, hD4⟩ := grow_free (o' := .lst []) g24 hD1 f1 b1
        refine ⟨acc, hD4, hacc, _, by omega, rfl, hlt, ls, F4, S4, acc ++ [v], done ++ [d], ?_, f4, b4, upd_same, (ra.mono g24.ex g24.pre).append (.cons r4 .nil), ?_, h4⟩
        · exact ⟨g5.sit.other f4 b4, g5.pre, g5.ex, g5.new, g5.newc, fun a o ha h => by
            rw [upd_ne (ne_of_none h hD)]
            exact g5.old a o ha h, fun a h => upd_there (g5.there a h)⟩
        · rw [List.length_append]
          show done.length + 1 ≤ i + 1
          omega
      | false =>
        obtain ⟨f4, b4, hD4⟩ := grow_free (o' := .lst []) g23 hD1 f1 b1
        exact ⟨_, by omega, rfl, hlt, cs, F3, S2, acc, done, g1.trans g23, f4, b4, hD4, ra.mono g23.ex g23.pre, by omega, h3⟩
  · left
    have hi2 : i = ds.length := by omega
    subst hi2
    refine ⟨wk.stop bs F1 H1 S1 g1.sit g1.ex g1.pre hN, ?_⟩
    rw [List.drop_length] at e1
    exact lk_ok q0 g1 hD f1 b1 hD1 ra e1.2
theorem ge_lc {l : Lk} {scope : Scope} {own : List (Str × Nat)} {ifs : List Expr} {mi : Env → MW} {us : List Nat} {f : D → Env → Option Env} (hc : X.calm = true) (hN : X.N.Nodup) (hi : GI X W tg iter mi) (ok : BlkOk X.N X.env.scope scope own)
    (hg : ∀ (s : Shared) (H : Hp) (C : Addr) (cl : List (Str × Addr)) (fp : List Addr), GG (X.blk s H scope (compEnvC scope cl C X.env) fp) tg us f)
    (ht : ∀ (s : Shared) (H : Hp) (C : Addr) (cl : List (Str × Addr)) (fp : List Addr), GTs (X.blk s H scope (compEnvC scope cl C X.env) fp) ifs mc)
    (he : ∀ (s : Shared) (H : Hp) (C : Addr) (cl : List (Str × Addr)) (fp : List Addr), GE (X.blk s H scope (compEnvC scope cl C X.env) fp) WF elt ee)
    (hu : ∀ x ∈ us, x ∈ own.map (·.2) := by decide) (hs : ∀ (x : Value), foldedSetIterable iter X.env x = pure x := by intro _; rfl) :
    GE X W (.ListComp elt [⟨tg, iter, ifs, 0⟩] scope pos) (eLc l mi f mc ee (own.map (·.2))) := by
  obtain ⟨wi, pi, mi'⟩ := hi
  exact ⟨_, pe_lc (own := own) hc hN pi ok (fun s H C cl fp => (hg s H C cl fp).canon) (fun s H C cl fp => (ht s H C cl fp).ex) (fun s H C cl fp => (he s H C cl fp).canon) hs, me_lc mi' hu⟩
/-- a display as a new cell -/
def eNew (er : Env → ML) : Env → M := fun ρ S q x => er ρ S (fun ds S1 => small ds.length = true ∧ lkD .new ds S1 q) x
theorem ge_new {es : List Expr} {er : Env → ML} (h : GA X W es er) : GE X W (.List es pos) (eNew er) := by
  obtain ⟨t, p, m⟩ := h
  refine ⟨_, pe_lst p, fun as F H S ρ σ I R q x e Q hq hx => ?_⟩
  refine m as F H S ρ σ I R _ x e _ (fun ds S1 bs F1 H1 vs h1 g1 r1 => ⟨?_, fun a ha => ?_⟩) hx
  · rw [← r1.length]
    exact small_le h1.1
  · have f1 := g1.sit.out ha
    have b1 : a ∉ bs := fun z => g1.sit.there z ha
    have g2 : Grow X.K bs F1 H1 bs F1 (upd H1 a (.lst vs)) S1 := ⟨g1.sit.other f1 b1, Pre.refl _, Ex.refl _, fun _ h => .inl h, fun _ h => .inl h, fun c o _ h => by rw [upd_ne (ne_of_none h ha)]; exact h, fun c h => upd_there h⟩
    exact lk_ok (hq.step g1) g2 ha f1 b1 upd_same r1 h1.2
end
end RV
end
section
/-! A def by its body; instances. -/
namespace RV
open PySem L2
def startE (n : Nat) (ds : List D) : Env := ds.map some ++ List.replicate (n - ds.length) none
theorem startE_ok {K : PySem.W.Frag} {as : List Addr} {F : Hp} {N : List Str} {ds : List D} {vs : List V} (r : RpL K as F ds vs) : RpE K as F (startE N.length ds) (L2.start N vs) := by
  have hl := r.length
  refine ⟨by simp [startE, L2.start, hl], fun i d h => ?_⟩
  unfold startE at h
  unfold L2.start
  by_cases hi : i < ds.length
  · rw [List.getElem?_append_left (by simpa using hi)] at h
    rw [List.getElem?_append_left (by simpa [← hl] using hi)]
    simp only [List.getElem?_map, Option.map_eq_some_iff] at h
    obtain ⟨d', h1, h2⟩ := h
    cases h2
    obtain ⟨v, hv, rv⟩ := r.get h1
    exact ⟨v, by simp [hv], rv⟩
  · rw [List.getElem?_append_right (by simpa using hi)] at h
    simp [List.getElem?_replicate] at h
/-- what a body hands back: a list of the def's own stands still from here on -/
def fin (n : Nat) (d : D) (S : WS) (q : D → WS → Prop) : Prop := if S.length = n then q d S else match d with
  | .cell k => if k < n then q d (S.take n) else onS S[k]? fun c => onLst c fun ds => q (.lst ds) (S.take n)
  | d => D.clean n d = true ∧ q d (S.take n)
/-- .. or it is a new cell -/
def finN (n : Nat) (d : D) (S : WS) (q : D → WS → Prop) : Prop := match d with
  | .cell k => n ≤ k ∧ onS S[k]? fun c => q (.cell n) (S.take n ++ [c])
  | _ => False
def finX (n : Nat) (e : D) (S : WS) (x : Xq) : Prop := if S.length = n then x e S else D.clean n e = true ∧ x e (S.take n)
def fnD (n : Nat) (m : Env → MS) : List D → M := fun ds S q x => m (startE n ds) S ⟨fun _ S' => fin S.length .non S' q, fun d S' => fin S.length d S' q, fun _ _ => False, fun _ _ => False, fun e _ S' => finX S.length e S' x⟩
def fnN (n : Nat) (m : Env → MS) : List D → M := fun ds S q x => m (startE n ds) S ⟨fun _ _ => False, fun d S' => finN S.length d S' q, fun _ _ => False, fun _ _ => False, fun e _ S' => finX S.length e S' x⟩
theorem Sit.take {K : PySem.W.Frag} {as bs : List Addr} {F H : Hp} {S : WS} (I : Sit K bs F H S) (p : Pre as bs) (hl : as.length ≤ bs.length) (hn : as.Nodup) : Sit K as F H (S.take as.length) := by
  refine ⟨by rw [List.length_take, ← I.len]; omega, I.ex, hn, fun i q c h1 h2 => ?_⟩
  have hi := (List.getElem?_eq_some_iff.mp h1).1
  rw [List.getElem?_take_of_lt hi] at h2
  exact I.cell i q c (p i q h1) h2
theorem pre_len {as bs : List Addr} (p : Pre as bs) : as.length ≤ bs.length := by
  by_cases h : as.length = 0
  · omega
  · have hl : as.length - 1 < as.length := by omega
    have := p (as.length - 1) _ (List.getElem?_eq_getElem hl)
    have := (List.getElem?_eq_some_iff.mp this).1
    omega
theorem pre_back {as bs : List Addr} (p : Pre as bs) : ∀ k a, k < as.length → bs[k]? = some a → as[k]? = some a := fun k a hk h => by
  have := p k _ (List.getElem?_eq_getElem hk)
  rw [h] at this
  cases this
  exact List.getElem?_eq_getElem hk
/-- what was a cell of the def's own is out of sight -/
theorem Grow.drop {K : PySem.W.Frag} {as bs : List Addr} {F H F' H' : Hp} {S' : WS} (g : Grow K as F H bs F' H' S') (hn : as.Nodup) : Grow K as F H as F' H' (S'.take as.length) :=
  ⟨g.sit.take g.pre (pre_len g.pre) hn, Pre.refl _, g.ex, g.new, fun _ h => .inl h, g.old, g.there⟩
theorem cell_out {as bs : List Addr} {k : Nat} {a : Addr} (p : Pre as bs) (nd : bs.Nodup) (hk : as.length ≤ k) (ha : bs[k]? = some a) : a ∉ as := fun z => by
  obtain ⟨i, hi⟩ := List.getElem?_of_mem z
  have h1 := p i a hi
  have hib : i < bs.length := (List.getElem?_eq_some_iff.mp h1).1
  have h2 : i = k := (List.getElem?_inj hib nd).mp (h1.trans ha.symm)
  have := (List.getElem?_eq_some_iff.mp hi).1
  omega
theorem fin_ok {K : PySem.W.Frag} {as bs : List Addr} {F H F' H' : Hp} {S S1 : WS} {d : D} {v : V} {q : D → WS → Prop} {Q : VK} (I : Sit K as F H S) (hq : NQ K as F H q Q) (g : Grow K as F H bs F' H' S1) (r : Rp K bs F' d v) (h : fin S.length d S1 q) : Q v H' := by
  have hl : bs.length = S1.length := g.sit.len
  have hn : as.length = S.length := I.len
  unfold fin at h
  split at h
  · rename_i e
    exact hq d S1 bs F' H' v h g r
  · have gd := g.drop I.nd
    rw [hn] at gd
    have other : ∀ x : D, D.clean S.length x = true → Rp K bs F' x v → Rp K as F' x v := fun x hx rx => rx.back (fun k a hk => pre_back g.pre k a (by omega)) hx
    split at h
    · rename_i k
      split at h
      · rename_i hk
        exact hq _ _ as F' H' v h gd (other _ (by unfold D.clean; exact decide_eq_true hk) r)
      · rename_i hk
        obtain ⟨c, hS, h⟩ := onS_ok h
        cases c with
        | lst ds =>
          cases r with
          | cell ha =>
            rename_i a
            obtain ⟨z1, o, z2, z3⟩ := g.sit.cell k a _ ha hS
            cases o with
            | lst xs =>
              have fa : F' a = none := z1 rfl
              have na : a ∉ as := cell_out g.pre g.sit.nd (by omega) ha
              refine hq _ _ as (upd F' a (.lst xs)) H' _ h ⟨gd.sit.freeze fa na z2, Pre.refl _, gd.ex.trans (Ex.new fa), fun b hb => ?_, fun _ h => .inl h, gd.old, gd.there⟩ (.lst upd_same (RpL.mono (Ex.new fa) pre_nil z3))
              by_cases e2 : b = a
              · subst e2
                rcases g.newc b (List.mem_of_getElem? ha) with z | z
                · exact absurd z na
                · exact .inr z
              · rw [upd_ne e2] at hb
                exact gd.new b hb
            | _ => exact z3.elim
        | _ => exact h.elim
    · exact hq _ _ as F' H' v h.2 gd (other _ h.1 r)
theorem Grow.only {K : PySem.W.Frag} {as bs : List Addr} {F H F' H' : Hp} {S1 : WS} {k : Nat} {a : Addr} {c : Cell} (g : Grow K as F H bs F' H' S1) (hn : as.Nodup) (hk : as.length ≤ k) (ha : bs[k]? = some a) (hS : S1[k]? = some c) : Grow K as F H (as ++ [a]) F' H' (S1.take as.length ++ [c]) := by
  have gd := g.drop hn
  have na : a ∉ as := cell_out g.pre g.sit.nd hk ha
  have hl : (S1.take as.length).length = as.length := gd.sit.len.symm
  refine ⟨⟨by rw [List.length_append, List.length_append, ← gd.sit.len]; rfl, gd.sit.ex, ?_, fun i q c2 h1 h2 => ?_⟩, fun i p hi => by rw [List.getElem?_append_left (List.getElem?_eq_some_iff.mp hi).1]; exact hi, g.ex, g.new, fun p hp => ?_, g.old, g.there⟩
  · rw [List.nodup_append]
    refine ⟨hn, by simp, fun x hx b hb e => ?_⟩
    rw [List.mem_singleton] at hb
    subst hb
    exact na (e ▸ hx)
  · by_cases hi : i < as.length
    · rw [List.getElem?_append_left hi] at h1
      rw [List.getElem?_append_left (by rw [hl]; exact hi)] at h2
      exact gd.sit.cell i q c2 h1 h2
    · have hi2 : i = as.length := by
        have := (List.getElem?_eq_some_iff.mp h1).1
        simp at this
        omega
      subst hi2
      rw [List.getElem?_append_right (Nat.le_refl _)] at h1
      rw [List.getElem?_append_right (by omega), hl] at h2
      simp at h1 h2
      subst h1 h2
      exact g.sit.cell k a c ha hS
  · rcases List.mem_append.mp hp with z | z
    · exact .inl z
    · rw [List.mem_singleton] at z
      subst z
      exact g.newc p (List.mem_of_getElem? ha)
theorem finN_ok {K : PySem.W.Frag} {as bs : List Addr} {F H F' H' : Hp} {S S1 : WS} {d : D} {v : V} {q : D → WS → Prop} {Q : VK} (I : Sit K as F H S) (hq : NQ K as F H q Q) (g : Grow K as F H bs F' H' S1) (r : Rp K bs F' d v) (h : finN S.length d S1 q) : Q v H' := by
  unfold finN at h
  split at h
  · rename_i k
    obtain ⟨hk, h⟩ := h
    obtain ⟨c, hS, h⟩ := onS_ok h
    cases r with
    | cell ha =>
      have g2 := g.only I.nd (by rw [I.len]; exact hk) ha hS
      rw [I.len] at g2
      refine hq _ _ _ F' H' _ h g2 (.cell ?_)
      rw [← I.len]
      simp
  · exact h.elim
theorem finX_ok {K : PySem.W.Frag} {as bs : List Addr} {F H F' H' : Hp} {S S1 : WS} {e : D} {cls : Value} {dd : Option Addr} {x : Xq} {E : XK} (I : Sit K as F H S) (hx : XQ K as F H x E) (g : Grow K as F H bs F' H' S1) (r : RxD K bs F' e cls dd) (h : finX S.length e S1 x) : E cls dd H' := by
  unfold finX at h
  have hn : as.length = S.length := I.len
  split at h
  · exact hx e S1 bs F' H' cls dd h g r
  · have gd := g.drop I.nd
    rw [hn] at gd
    obtain ⟨C, d, fs, vfs, e1, e2, e3, e4, e5⟩ := r
    subst e1
    have hc := h.1
    unfold D.clean at hc
    exact hx _ _ as F' H' cls dd h.2 gd ⟨C, d, fs, vfs, rfl, e2, e3, e4, e5.back (fun k a hk => pre_back g.pre k a (by omega)) hc⟩
abbrev WofE (E : XK) : WX := fun cls d _ H => E cls d H
theorem fnD_run {K : PySem.W.Frag} {N : List Str} {m : Env → MS} {ts : TS} {n : Nat} {vs : List V} {H : Hp} {Q : VK} {E : XK} (hm : MSt K (WofE E) ts m) (h : spG K n (fnD N.length m) vs H Q E) :
    ts { nx := fun _ H' => Q .non H', rt := Q } (L2.start N vs) H := by
  obtain ⟨as, F, S, ds, q, x, I, r, hl, e, hq, hx⟩ := h
  exact hm as F H S _ _ I (startE_ok r) _ e _ ⟨fun ρ' S' bs F' H' σ' h g R => fin_ok I hq g .non h, fun d S' bs F' H' v h g r => fin_ok I hq g r h, fun _ _ _ _ _ _ h => h.elim, fun _ _ _ _ _ _ h => h.elim, fun e ρ' S' bs F' H' σ' cls dd h g R r => finX_ok I hx g r h⟩
theorem fnN_run {K : PySem.W.Frag} {N : List Str} {m : Env → MS} {ts : TS} {n : Nat} {vs : List V} {H : Hp} {Q : VK} {E : XK} (hm : MSt K (WofE E) ts m) (h : spG K n (fnN N.length m) vs H Q E) :
    ts { nx := fun _ H' => Q .non H', rt := Q } (L2.start N vs) H := by
  obtain ⟨as, F, S, ds, q, x, I, r, hl, e, hq, hx⟩ := h
  exact hm as F H S _ _ I (startE_ok r) _ e _ ⟨fun _ _ _ _ _ _ h => h.elim, fun d S' bs F' H' v h g r => finN_ok I hq g r h, fun _ _ _ _ _ _ h => h.elim, fun _ _ _ _ _ _ h => h.elim, fun e ρ' S' bs F' H' σ' cls dd h g R r => finX_ok I hx g r h⟩
theorem tkF {nn : Bool} {X : Cx} : Tk nn X WF := by
  cases nn <;> (intro u s' x; obtain ⟨a, B, sI, pins, σ, H, cls, d, e, I, nb, up, sky, na, os, ag, w⟩ := x; exact w.elim)
section
variable {P : Program} {w : World} {K : PySem.W.Frag} {mg : Str → Option Value} {base : Heap}
def pnM (h : Bool) (p : Addr × Obj) : List (Addr × Obj) := match h with
  | false => []
  | true => [p]
/-- the context of a def's body; p: the error that is handled, if one is -/
abbrev cxG (n h : Bool) (P : Program) (w : World) (K : PySem.W.Frag) (mg : Str → Option Value) (base : Heap) (N : List Str) (qual : Str) (scope : Scope) (f : Addr) (cdv : Value) (A : Around) (outer : List PySem.Env) (s : Shared) (H : Hp) (E : XK) (p : Addr × Obj) : Cx :=
  { cxOf (CXm n P w) P w K mg base N qual scope f cdv A outer s H E with calm := !h, pn := pnM h p }
/-- the code object of the def at f -/
def CdOf (K : PySem.W.Frag) (f : Addr) (qual : Str) (cdv : Value) : Prop := ∃ (oc : Value) (od : Option Addr) (fd : FuncData) (osl : Array (Option Value)), K.lookup f = some ⟨oc, od, .func fd, osl⟩ ∧ fd.code = cdv ∧ PySem.W.codeIn K cdv qual = true
theorem fnX_of {gd : Md} {f : Addr} {name qual : Str} {params : Arguments} {body : List Stmt} {scope : Scope} {dvs : List V} {kws : List (Str × V)} {fd : FuncData} {N ps : List Str} {sp : Sp} {k : Nat} (F : FunD K name qual params body scope dvs kws f fd) (S : FnScope N ps scope)
    (len : ∀ vs H Q E, sp vs H Q E → vs.length = ps.length)
    (hbody : ∀ (cdv : Value) (A : Around) (outer : List PySem.Env) (s : Shared) (H : Hp) (vs : List V) (Q : VK) (E : XK) (p : Addr × Obj), CdOf K f qual cdv → (gd.g = true → A.guards = some []) → Rx gd.h k (cxG gd.n gd.h P w K mg base N qual scope f cdv A outer s H E p) → sp vs H Q E →
      ∃ t, PSs (cxG gd.n gd.h P w K mg base N qual scope f cdv A outer s H E p) body t ∧ t { nx := fun _ H' => Q .non H', rt := Q } (L2.start N vs) H) :
    FnX gd P w K mg base (k + 1) f fd ps sp := by
  obtain ⟨oc, od, dV, kV, doc, pm, an, cdv, ct, osl, rfl, lk, hcd, _, _⟩ := F.ex
  obtain ⟨gg, nn, hh⟩ := gd
  refine ⟨len, fun A outer s H args us vs Q E hg hr e0 hb r hsp => ?_⟩
  have still : ∀ b o, base.get? b = some o → s.heap.get? b = some o := fun b o e => (e0.bs b o e).1
  have KX : K.In s.heap := e0.mod.kin.keeps still
  have bound : ∀ y ∈ ps.zip us, scope.names.lookup y.1 = some .local ∨ (scope.names.lookup y.1 = some .cell ∧ ((cellsFrom (s.heap.objs.size + 1) scope.names []).lookup y.1).isSome = true) := by
    rintro ⟨n, v⟩ hy
    rcases S.par n (List.of_mem_zip hy).1 with q | q
    · exact Or.inl q
    · exact Or.inr ⟨q, PySem.W.cellsFrom_some _ _ _ (.inl q)⟩
  have hdp : A.depth < recursionLimit := by
    cases hh
    · exact Room.depth hr
    · exact hr.1.depth
  refine codeAny_call_function hdp (KX _ _ lk) rfl S.co S.gen rfl (PySem.W.codeRec_of KX hcd) (hb _ _ _ _ ?_)
  refine wpAny_newFunctionEnv_cells S.kind bound fun env he s1 x => ?_
  subst he
  refine ⟨(e0.mod.nolimit.keeps still).keeps x.toInCall.keep, codeAny_func ?_⟩
  have start : ∃ p, Rx hh k (cxG nn hh P w K mg base N qual scope f cdv A outer s H E p) ∧ Inv (cxG nn hh P w K mg base N qual scope f cdv A outer s H E p) [] (L2.start N vs) H s1 := by
    cases hh
    · exact ⟨(0, default), Room.deeper hr _, inv_start (CX := CXm nn P w) (E := E) (f := f) (cd := cdv) (qual := qual) S (Room.hd hr) e0 (len _ _ _ _ hsp) r x⟩
    · obtain ⟨r1, p, hp, e⟩ := hr
      exact ⟨p, ⟨r1.deeper _, p, List.mem_cons_self .., e⟩, L2H.inv_startH (CX := CXm nn P w) (E := E) (f := f) (cd := cdv) (qual := qual) S hp e0 (len _ _ _ _ hsp) r x⟩
  obtain ⟨p, hrx, I⟩ := start
  obtain ⟨t, ht, hq⟩ := hbody cdv A outer s H vs Q E p ⟨_, _, _, _, lk, rfl, hcd⟩ hg hrx hsp
  refine wpAny_mono (ht.run [] s1 (L2.start N vs) H _ I hq) (fun fl s' hs => ?_) fun e s' hs => hs
  cases fl with
  | ret u =>
    obtain ⟨v, σ', H', J, rv, q⟩ := hs
    exact ⟨v, H', J.os, J.bare, J.base, J.hok, rv, q⟩
  | next =>
    obtain ⟨σ', H', J, q⟩ := hs
    exact ⟨V.non, H', J.os, J.bare, J.base, J.hok, rfl, q⟩
  | brk =>
    obtain ⟨_, _, _, q⟩ := hs
    exact q.elim
  | cont =>
    obtain ⟨_, _, _, q⟩ := hs
    exact q.elim
theorem spG_len {n : Nat} {G : List D → M} : ∀ vs H Q E, spG K n G vs H Q E → vs.length = n := fun vs H Q E h => by
  obtain ⟨as, F, S, ds, q, x, I, r, hl, e, hq, hx⟩ := h
  rw [← r.length]
  exact hl
/-- a body's facts: what is raised goes out -/
abbrev BodyOk (gd : Md) (P : Program) (w : World) (K : PySem.W.Frag) (mg : Str → Option Value) (base : Heap) (N : List Str) (qual : Str) (scope : Scope) (f : Addr) (k : Nat) (body : List Stmt) (m : Env → MS) : Prop :=
  ∀ (cdv : Value) (A : Around) (outer : List PySem.Env) (s : Shared) (H : Hp) (E : XK) (pp : Addr × Obj), (gd.g = true → (cxG gd.n gd.h P w K mg base N qual scope f cdv A outer s H E pp).A.guards = some []) → Rx gd.h k (cxG gd.n gd.h P w K mg base N qual scope f cdv A outer s H E pp) →
    Tk gd.n (cxG gd.n gd.h P w K mg base N qual scope f cdv A outer s H E pp) (WofE E) → PassesOwn (model P w) (cxG gd.n gd.h P w K mg base N qual scope f cdv A outer s H E pp).A (cxG gd.n gd.h P w K mg base N qual scope f cdv A outer s H E pp).env (cxG gd.n gd.h P w K mg base N qual scope f cdv A outer s H E pp).xe →
    GSs (cxG gd.n gd.h P w K mg base N qual scope f cdv A outer s H E pp) (WofE E) body m
theorem tk_of {n h : Bool} {N : List Str} {qual : Str} {scope : Scope} {f : Addr} {cdv : Value} {A : Around} {outer : List PySem.Env} {s : Shared} {H : Hp} {E : XK} {pp : Addr × Obj} : Tk n (cxG n h P w K mg base N qual scope f cdv A outer s H E pp) (WofE E) := by
  cases n
  · exact L2.takes_of rfl rfl rfl rfl
  · exact L2N.takes_of rfl rfl rfl rfl
theorem fn_G {gd : Md} {x qual : Str} {params : Arguments} {body : List Stmt} {scope : Scope} {dvs : List V} {kws : List (Str × V)} {f : Addr} {fd : FuncData} {N ps : List Str} {k : Nat} {m : Env → MS} (F : FunD K x qual params body scope dvs kws f fd) (S : FnScope N ps scope)
    (hb : BodyOk gd P w K mg base N qual scope f k body m) : FnX gd P w K mg base (k + 1) f fd ps (spG K ps.length (fnD N.length m)) := by
  refine fnX_of F S spG_len (fun cdv A outer s H vs Q E pp _ hg hr h => ?_)
  obtain ⟨ts, p, hm⟩ := hb cdv A outer s H E pp hg hr tk_of (passes_of rfl)
  exact ⟨ts, p, fnD_run hm h⟩
theorem fn_N {gd : Md} {x qual : Str} {params : Arguments} {body : List Stmt} {scope : Scope} {dvs : List V} {kws : List (Str × V)} {f : Addr} {fd : FuncData} {N ps : List Str} {k : Nat} {m : Env → MS} (F : FunD K x qual params body scope dvs kws f fd) (S : FnScope N ps scope)
    (hb : BodyOk gd P w K mg base N qual scope f k body m) : FnX gd P w K mg base (k + 1) f fd ps (spG K ps.length (fnN N.length m)) := by
  refine fnX_of F S spG_len (fun cdv A outer s H vs Q E pp _ hg hr h => ?_)
  obtain ⟨ts, p, hm⟩ := hb cdv A outer s H E pp hg hr tk_of (passes_of rfl)
  exact ⟨ts, p, fnN_run hm h⟩
end
end RV
end
section
/-! Instances: made, their fields read and set, properties. -/
namespace RV
open PySem L2
variable {nn : Bool}
section
variable {X : Cx} {W : WX} {e o : Expr} {es : List Expr} {pos p apos : Pos} {er ek : Env → ML} {ea eb : Env → M} {C : Addr} {f : Str}
/-- o.f of an instance of the class at C: one that stands still, or a cell -/
def fldD (C : Addr) (f : Str) (S : WS) : D → Option D
  | .obj C' fs => if C' = C then fs.lookup f else none
  | .cell k => match S[k]? with
    | some (.ob C' fs) => if C' = C then fs.lookup f else none
    | _ => none
  | _ => none
theorem fld_at {K : PySem.W.Frag} {as : List Addr} {F H : Hp} {S : WS} {x d : D} {v : V} (I : Sit K as F H S) (r : Rp K as F x v) (h : fldD C f S x = some d) : ∃ a dx vfs u, v = .ref a ∧ H a = some (.ins C dx vfs) ∧ vfs.lookup f = some u ∧ Rp K as F d u := by
  cases x with
  | obj C' fs =>
    unfold fldD at h
    simp only at h
    split at h
    · rename_i e
      subst e
      cases r with
      | obj ha rf =>
        obtain ⟨u, h1, h2⟩ := rf.look h
        exact ⟨_, _, _, u, rfl, I.ex _ _ ha, h1, h2⟩
    · cases h
  | cell k =>
    unfold fldD at h
    cases hS : S[k]? with
    | none => simp [hS] at h
    | some c =>
      cases c with
      | ob C' fs =>
        simp only [hS] at h
        split at h
        · rename_i e
          subst e
          cases r with
          | cell ha =>
            obtain ⟨z1, ob, z2, z3⟩ := I.cell k _ _ ha hS
            cases ob with
            | ins C2 dx vfs =>
              obtain ⟨e2, z3⟩ := z3
              subst e2
              obtain ⟨u, h1, h2⟩ := z3.look h
              exact ⟨_, dx, vfs, u, rfl, z2, h1, h2.mono (Ex.refl _) pre_nil⟩
            | _ => exact z3.elim
        · cases h
      | _ => simp [hS] at h
  | _ => cases h
theorem ge_fld (cl : Cls X.K C) (no : NoAttr X.K C f) (ha : GE X W e ea) (hb : attributeBase e f X.env (eval e X.env) = eval e X.env := by rfl) : GE X W (.Attribute e f pos) (eUn (fldD C f) ea) := by
  obtain ⟨t, pa, m⟩ := ha
  refine ⟨_, pe_fld pa hb, fun as F H S ρ σ I R q x h Q hq hx => ?_⟩
  refine m as F H S ρ σ I R _ x h _ (fun z S1 bs F1 H1 v h1 g r => ?_) hx
  obtain ⟨d, h3, h4⟩ := onS_ok h1
  obtain ⟨a, dx, vfs, u, rfl, ha, hl, ru⟩ := fld_at g.sit r h3
  exact ⟨a, C, dx, vfs, u, rfl, ha, cl, no, hl, hq d S1 bs F1 H1 u h4 g ru⟩
/-- is it an instance of the class at C -/
def isOb (C : Addr) (S : WS) : D → Prop
  | .obj C' _ => C' = C
  | .cell k => onS S[k]? fun c => onOb c fun C' _ => C' = C
  | _ => False
theorem isOb_at {K : PySem.W.Frag} {as : List Addr} {F H : Hp} {S : WS} {x : D} {v : V} (I : Sit K as F H S) (r : Rp K as F x v) (h : isOb C S x) : ∃ a dx vfs, v = .ref a ∧ H a = some (.ins C dx vfs) := by
  cases r with
  | obj ha rf =>
    have h : _ = C := h
    subst h
    exact ⟨_, _, _, rfl, I.ex _ _ ha⟩
  | cell ha =>
    obtain ⟨c, hS, h⟩ := onS_ok h
    cases c with
    | ob C' fs =>
      have h : C' = C := h
      subst h
      obtain ⟨z1, ob, z2, z3⟩ := I.cell _ _ _ ha hS
      cases ob with
      | ins C2 dx vfs =>
        obtain ⟨e2, z3⟩ := z3
        subst e2
        exact ⟨_, _, _, rfl, z2⟩
      | _ => exact z3.elim
    | _ => exact h.elim
  | _ => exact h.elim
/-- o.f, a property of the class at C, which raises nothing -/
def eProp (C : Addr) (G : List D → M) (ea : Env → M) : Env → M := fun ρ S q x => ea ρ S (fun d S1 => isOb C S1 d ∧ G [d] S1 q noX) x
theorem ge_prop {k j : Nat} {pr g : Addr} {fd : FuncData} {ps : List Str} {G : List D → M} (cl : Cls X.K C) (hp : PropOf X.K C f pr g) (Fn : FnX ⟨false, nn, false⟩ X.prog X.w X.K X.mg X.base k g fd ps (spG X.K 1 G)) (hr : Room j X.A) (hj : k + 1 ≤ j) (hb : Binds X.K fd ps []) (ha : GE X W e ea)
    (hab : attributeBase e f X.env (eval e X.env) = eval e X.env := by rfl) : GE X W (.Attribute e f pos) (eProp C G ea) := by
  obtain ⟨t, pa, m⟩ := ha
  refine ⟨_, pe_prop (CX := CXm nn X.prog X.w) (dvs := []) (E := fun _ _ _ => False) pa cl hp Fn.ok (hr.mono hj) hb .nil (fun pins σ H s e s' I c => ?_) hab, fun as F H S ρ σ I R q x h Q hq hx => ?_⟩
  · exact (cxm_no c).elim
  · refine m as F H S ρ σ I R _ x h _ (fun z S1 bs F1 H1 v h1 g r => ?_) hx
    obtain ⟨a, dx, vfs, rfl, ha⟩ := isOb_at g.sit r h1.1
    exact ⟨a, dx, vfs, rfl, ha, bs, F1, S1, [z], q, noX, g.sit, .cons r .nil, rfl, h1.2, hq.step g, XQ.no⟩

/-! ### a cell's content changes -/
theorem Sit.put {K : PySem.W.Frag} {as : List Addr} {F H : Hp} {S : WS} {k : Nat} {p : Addr} {c c' : Cell} {o : HO} (I : Sit K as F H S) (ha : as[k]? = some p) (hS : S[k]? = some c) (hc : c.isHid = false) (hc' : c'.isHid = false) (ho : CellOf K F p c' o) :
    Grow K as F H as F (upd H p o) (S.set k c') := by
  have z := I.cell k p c ha hS
  have fp : F p = none := z.out hc
  have hk : k < S.length := (List.getElem?_eq_some_iff.mp hS).1
  refine ⟨⟨by rw [List.length_set]; exact I.len, fun a u h => ?_, I.nd, fun i q c2 h1 h2 => ?_⟩, Pre.refl _, Ex.refl _, fun _ h => .inl h, fun _ h => .inl h, fun a u na h => ?_, fun a h => upd_there h⟩
  · have np : a ≠ p := fun z => by rw [z, fp] at h; cases h
    rw [upd_ne np]
    exact I.ex a u h
  · by_cases e : k = i
    · subst e
      rw [ha] at h1
      cases h1
      rw [List.getElem?_set_self hk] at h2
      cases h2
      exact ⟨fun _ => fp, o, upd_same, ho⟩
    · rw [List.getElem?_set_ne e] at h2
      have nq : q ≠ p := fun z => by
        subst z
        have hia : k < as.length := (List.getElem?_eq_some_iff.mp ha).1
        exact e ((List.getElem?_inj hia I.nd).mp (ha.trans h1.symm))
      obtain ⟨z1, ob, z2, z3⟩ := I.cell i q c2 h1 h2
      exact ⟨z1, ob, by rw [upd_ne nq]; exact z2, z3⟩
  · have np : a ≠ p := fun z => na (z ▸ List.mem_of_getElem? ha)
    rw [upd_ne np]
    exact h
def putD (f : Str) (d : D) : List (Str × D) → List (Str × D)
  | [] => [(f, d)]
  | (g, x) :: r => if g = f then (g, d) :: r else (g, x) :: putD f d r
theorem RpF.put {K : PySem.W.Frag} {as : List Addr} {F : Hp} {d : D} {v : V} (h : Rp K as F d v) : ∀ {fs : List (Str × D)} {vfs : List (Str × V)}, RpF K as F fs vfs → RpF K as F (putD f d fs) (putF f v vfs)
  | _, _, .nil => .cons h .nil
  | _, _, .cons (n := n) hd r => by
    unfold putD putF
    by_cases e : n = f
    · rw [if_pos e, if_pos e]
      exact .cons h r
    · rw [if_neg e, if_neg e]
      exact .cons hd (RpF.put h r)
theorem RpF.length {K : PySem.W.Frag} {as : List Addr} {F : Hp} : ∀ {fs : List (Str × D)} {vfs : List (Str × V)}, RpF K as F fs vfs → fs.length = vfs.length
  | _, _, .nil => rfl
  | _, _, .cons _ r => congrArg (· + 1) r.length
/-- o.f = e, o an instance that is a cell -/
def setFD (C : Addr) (f : Str) (d o : D) (S : WS) (q : WS → Prop) : Prop := onCe o fun k => onS S[k]? fun c => onOb c fun C' fs => (C' = C ∧ D.clean 0 d = true ∧ fs.length < 1000) ∧ q (S.set k (.ob C (putD f d fs)))
def sFldD (C : Addr) (f : Str) (eo ee : Env → M) : Env → MS := fun ρ S k => ee ρ S (fun d S1 => eo ρ S1 (fun o S2 => setFD C f d o S2 fun S3 => k.nx ρ S3) fun e S' => k.ex e ρ S') fun e S' => k.ex e ρ S'
theorem gs_fld {ppos : Pos} (cl : Cls X.K C) (no : NoAttr X.K C f) (ho : GE X W o ea) (he : GE X W e eb) (hs : swapsWith e (some (.Attribute o f ppos)) pos.line X.env = pure false := by rfl) : GS X W (.Assign [.Attribute o f ppos] e pos) (sFldD C f ea eb) := by
  obtain ⟨t, pt, mt⟩ := ho
  obtain ⟨u, pu, mu⟩ := he
  refine ⟨_, ps_fld pt pu hs, fun as F H S ρ σ I R k h E q => ?_⟩
  refine mu as F H S ρ σ I R _ _ h _ (fun y S1 bs F1 H1 v1 h1 g1 r1 => ?_) (q.xq R)
  refine mt bs F1 H1 S1 ρ σ g1.sit (R.grow g1) _ _ h1 _ (fun z S2 cs F2 H2 v2 h2 g2 r2 => ?_) ((q.step g1).xq (R.grow g1))
  cases r2 with
  | cell h0 =>
    obtain ⟨c, hS, h3⟩ := onS_ok h2
    cases c with
    | ob C' fs =>
      obtain ⟨⟨e1, hcl, hlen⟩, h3⟩ := h3
      subst e1
      obtain ⟨z1, ob, z2, z3⟩ := g2.sit.cell _ _ _ h0 hS
      cases ob with
      | ins C2 dx vfs =>
        obtain ⟨e2, z3⟩ := z3
        subst e2
        have r1' : Rp X.K [] F2 y v1 := (RpE_aux g2 r1).back (n := 0) (fun k a hk => absurd hk (by omega)) hcl
        have g3 := g2.sit.put (c' := .ob C2 (putD f y fs)) (o := .ins C2 dx (putF f v1 vfs)) h0 hS rfl rfl ⟨rfl, z3.put r1'⟩
        refine ⟨_, _, dx, vfs, rfl, z2, cl, no, by rw [← z3.length]; exact hlen, ?_⟩
        have g4 := (g1.trans g2).trans g3
        exact q.nx ρ _ cs _ _ σ h3 g4 (R.grow g4)
      | _ => exact z3.elim
    | _ => exact h3.elim
  | _ => exact h2.elim

/-! ### an instance made -/
def lkO (l : Lk) (C : Addr) (fs : List (Str × D)) (n : Nat) (S : WS) (q : D → WS → Prop) : Prop := match l with
  | .still => q (.obj C fs) (S.take n)
  | .new => q (.cell n) (S.take n ++ [.ob C fs])
/-- behind the __init__: the instance stands still, or is a cell -/
def finO (l : Lk) (C : Addr) (n : Nat) (d : D) (S : WS) (q : D → WS → Prop) : Prop := d = .non ∧ onS S[n]? fun c => onOb c fun C' fs => C' = C ∧ lkO l C fs n S q
def makeD (l : Lk) (C : Addr) (n : Nat) (G : List D → M) (ds : List D) (S : WS) (q : D → WS → Prop) (x : Xq) : Prop := ds.length + 1 = n ∧ G (.cell S.length :: ds) (S ++ [.ob C []]) (fun d S2 => finO l C S.length d S2 q) fun e S2 => finX S.length e S2 x
theorem make_ok {K : PySem.W.Frag} {as : List Addr} {F H : Hp} {S : WS} {n : Nat} {l : Lk} {G : List D → M} {ds : List D} {vs : List V} {q : D → WS → Prop} {x : Xq} {E : XK} {Q : VK} (I : Sit K as F H S) (r : RpL K as F ds vs) (h : makeD l C n G ds S q x)
    (hq : NQ K as F H q Q) (hx : XQ K as F H x E) (p dx : Addr) (hp : H p = none) (hdx : H dx = none) (ne : dx ≠ p) :
    spG K n G (.ref p :: vs) (upd (upd H dx (.own p)) p (.ins C dx [])) (fun v H2 => v = .non ∧ Q (.ref p) H2) E := by
  obtain ⟨hn, h⟩ := h
  have hH : ∀ a u, H a = some u → upd (upd H dx (.own p)) p (.ins C dx []) a = some u := fun a u e => by
    rw [upd_ne (ne_of_none e hp), upd_ne (ne_of_none e hdx)]
    exact e
  have np : p ∉ as := fun z => I.there z hp
  have I2 : Sit K (as ++ [p]) F (upd (upd H dx (.own p)) p (.ins C dx [])) (S ++ [.ob C []]) := sit_cell I np (I.out hp) (fun a u _ => hH a u) upd_same rfl ⟨rfl, .nil⟩
  have up : ∀ {bs : List Addr} {F1 H1 : Hp} {S2 : WS}, Grow K (as ++ [p]) F (upd (upd H dx (.own p)) p (.ins C dx [])) bs F1 H1 S2 → Grow K as F H bs F1 H1 S2 := fun {bs F1 H1 S2} g => by
    refine ⟨g.sit, pre_app.trans g.pre, g.ex, fun a ha => ?_, fun a ha => ?_, fun a u na e => ?_, fun a e => g.there a (upd_there (upd_there e))⟩
    · rcases g.new a ha with z | z
      · exact .inl z
      · by_cases e3 : a = p
        · subst e3
          exact .inr hp
        · rw [upd_ne e3] at z
          exact .inr (none_back (H1 := upd H dx (.own p)) (fun h => upd_there h) z)
    · rcases g.newc a ha with z | z
      · rcases List.mem_append.mp z with z | z
        · exact .inl z
        · rw [List.mem_singleton] at z
          subst z
          exact .inr hp
      · by_cases e3 : a = p
        · subst e3
          exact .inr hp
        · rw [upd_ne e3] at z
          exact .inr (none_back (H1 := upd H dx (.own p)) (fun h => upd_there h) z)
    · refine g.old a u (fun z => ?_) (hH a u e)
      rcases List.mem_append.mp z with z | z
      · exact na z
      · rw [List.mem_singleton] at z
        subst z
        rw [hp] at e
        cases e
  refine ⟨as ++ [p], F, S ++ [.ob C []], .cell S.length :: ds, _, _, I2, .cons (.cell (by rw [← I.len]; simp)) (r.mono (Ex.refl _) pre_app), by rw [List.length_cons]; exact hn, h, fun d S2 bs F1 H1 v hd g rv => ?_, fun e S2 bs F1 H1 cls dd he g rx => finX_ok I hx (up g) rx he⟩
  obtain ⟨e1, h2⟩ := hd
  subst e1
  cases rv
  refine ⟨rfl, ?_⟩
  obtain ⟨c, hS, h3⟩ := onS_ok h2
  cases c with
  | ob C' fs =>
    obtain ⟨e2, h3⟩ := h3
    subst e2
    have ha : bs[S.length]? = some p := g.pre _ _ (by rw [← I.len]; simp)
    have gu := up g
    cases l with
    | still =>
      obtain ⟨z1, ob, z2, z3⟩ := g.sit.cell S.length p _ ha hS
      cases ob with
      | ins C2 dx2 vfs =>
        obtain ⟨e2, z3⟩ := z3
        subst e2
        have fx : F1 p = none := z1 rfl
        have gd := gu.drop I.nd
        rw [I.len] at gd
        refine hq _ _ as (upd F1 p (.ins C2 dx2 vfs)) H1 (.ref p) h3 ⟨gd.sit.freeze fx np z2, Pre.refl _, gd.ex.trans (Ex.new fx), fun a ha => ?_, fun _ h => .inl h, gd.old, gd.there⟩ (.obj upd_same (RpF.mono (Ex.new fx) pre_nil z3))
        by_cases e3 : a = p
        · subst e3
          exact .inr hp
        · rw [upd_ne e3] at ha
          exact gd.new a ha
      | _ => exact z3.elim
    | new =>
      have g2 := gu.only I.nd (by rw [I.len]; exact Nat.le_refl _) ha hS
      rw [I.len] at g2
      refine hq _ _ _ F1 H1 _ h3 g2 (.cell ?_)
      rw [← I.len]
      simp
  | _ => exact h3.elim
section
variable {k j n : Nat} {fI : Addr} {fd : FuncData} {ps ks : List Str} {l : Lk} {G : List D → M} {dvs : List D} {dv : List V} {ds : List Value} {x : Str}
theorem run_makeX {sp : Sp} {pins : List (Addr × Obj)} {σ : L2.St} {H : Hp} {s : Shared} {Q : VK} {us : List Value} {vs : List V} (M : Mk X.K C fI) (Fn : FnX ⟨false, nn, false⟩ X.prog X.w X.K X.mg X.base k fI fd ps sp) (hr : Room (k + 1) X.A) (hb : Binds X.K fd ps ds) (hd : Vals dv ds) (tk : Tk nn X W) (I : Inv X pins σ H s) (r : Vals vs us)
    (h : ∀ z dx, H z = none → H dx = none → dx ≠ z → sp (.ref z :: (vs ++ dv)) (upd (upd H dx (.own z)) z (.ins C dx [])) (fun v H2 => v = .non ∧ Q (.ref z) H2) (WE W σ)) :
    wpAny (model X.prog X.w) X.A (PySem.call (.ref C) us) (EP X pins σ Q) X.xe s := by
  have hq := h (s.heap.objs.size + 1) s.heap.objs.size (I.hok.fresh (Nat.le_succ _)) (I.hok.fresh (Nat.le_refl _)) (Nat.ne_of_lt (Nat.lt_succ_self _))
  have J := Inv.made (C := C) I
  have r2 : Vals (V.ref (s.heap.objs.size + 1) :: (vs ++ dv)) (Value.ref (s.heap.objs.size + 1) :: (us ++ ds)) := .cons rfl (r.append hd)
  have hl : (Value.ref (s.heap.objs.size + 1) :: us ++ ds).length = ps.length := r2.length.symm.trans (Fn.len _ _ _ _ hq)
  refine wpAny_call (make_map (f := fI) I.kIn M.makes M.init (beq_iff_eq.mp M.fn) ?_)
  refine codeAny_mono (Fn.ok.run _ X.stack _ _ _ _ _ _ (WE W σ) (hr.make C us []) (J.env0.make C us []) (hb _ _ J.kIn hl) r2 hq) fun r s' hz => ?_
  cases r with
  | error er => exact tk.pass σ pins _ _ er s' J hz
  | ok fl =>
    cases fl with
    | ret u =>
      obtain ⟨v, H', J3, rv, ev, q3⟩ := J.after hz
      subst ev
      exact ⟨rv, ⟨.ref _, H', J3, rfl, q3⟩⟩
    | next => exact hz.elim
    | brk => exact hz.elim
    | cont => exact hz.elim
def tMakeX (C : Addr) (sp : Sp) (dv : List V) (E : L2.St → XK) (t : TA) : TE := fun σ H Q => t σ H fun vs H1 => ∀ z dx, H1 z = none → H1 dx = none → dx ≠ z → sp (.ref z :: (vs ++ dv)) (upd (upd H1 dx (.own z)) z (.ins C dx [])) (fun v H2 => v = .non ∧ Q (.ref z) H2) (E σ)
def eMake (l : Lk) (C : Addr) (n : Nat) (G : List D → M) (dvs : List D) (er : Env → ML) : Env → M := fun ρ S q x => er ρ S (fun ds S1 => makeD l C n G (ds ++ dvs) S1 q x) x
theorem me_make {K : PySem.W.Frag} {t : TA} (hdv : ∀ as F, RpL K as F dvs dv) (m : MA K W t er) : ME K W (tMakeX C (spG K n G) dv (WE W) t) (eMake l C n G dvs er) := fun as F H S ρ σ I R q x h Q hq hx => by
  refine m as F H S ρ σ I R _ x h _ (fun ds S1 bs F1 H1 vs h1 g r => ?_) hx
  intro z dx hz hdx ne
  exact make_ok g.sit (r.append (hdv bs F1)) h1 (hq.step g) (hx.step g) z dx hz hdx ne
theorem ge_make (tk : Tk nn X W) (Mm : Mk X.K C fI) (Fn : FnX ⟨false, nn, false⟩ X.prog X.w X.K X.mg X.base k fI fd ps (spG X.K n G)) (hr : Room j X.A) (hj : k + 1 ≤ j)
    (hm : X.mg x = some (.ref C)) (hb : Binds X.K fd ps ds) (hd : Vals dv ds) (hdv : ∀ as F, RpL X.K as F dvs dv) (ha : GA X W (e :: es) er) (hg : Gl X x := by rfl) (hdb : (x == ("__debug__" : Str)) = false := by decide)
    (h1 : starEach (e :: es) X.env = (false, eval e X.env) :: starEach es X.env := by rfl) (h2 : (backTo pos (starEach es X.env)).any (·.1) = false := by rfl) : GE X W (.Call (.Name x p) (e :: es) [] pos) (eMake l C n G dvs er) := by
  obtain ⟨t, pa, m⟩ := ha
  refine ⟨tMakeX C (spG X.K n G) dv (WE W) t, ⟨fun pins s σ H Q I h => ?_⟩, me_make hdv m⟩
  refine wpAny_Call_Name_kw (ld_glob I hg hm ?_ hdb)
  refine PySem.W.callWith_K (h₀ := X.base) I.ok.mod.kin Mm.kp (thn (pa.run pos pins s σ H _ I h) fun us s1 hh => ?_) h1 h2
  obtain ⟨vs, H1, I1, r1, q1⟩ := hh
  exact ⟨I1.kIn, run_makeX Mm Fn (hr.mono hj) hb hd tk I1 r1 q1⟩
/-- C(e, .., k = v, ..): gD puts the values and the keywords' values in the parameters' order (without self) -/
def eMakeK (l : Lk) (C : Addr) (n m1 m2 : Nat) (G : List D → M) (gD : List D → List D → List D) (er ek : Env → ML) : Env → M := fun ρ S q x => er ρ S (fun ds S1 => ek ρ S1 (fun zs S2 => (ds.length = m1 ∧ zs.length = m2) ∧ makeD l C n G (gD ds zs) S2 q x) x) x
def tMakeKX (C : Addr) (m1 m2 : Nat) (sp : Sp) (gV : List V → List V → List V) (E : L2.St → XK) (t u : TA) : TE := fun σ H Q => t σ H fun vs H1 => u σ H1 fun ws H2 => (vs.length = m1 ∧ ws.length = m2) ∧ ∀ z dx, H2 z = none → H2 dx = none → dx ≠ z → sp (gV (.ref z :: vs) ws) (upd (upd H2 dx (.own z)) z (.ins C dx [])) (fun v H3 => v = .non ∧ Q (.ref z) H3) (E σ)
theorem run_makeKX {sp : Sp} {m1 : Nat} {g : List Value → List Value → List Value} {gV : List V → List V → List V} {pins : List (Addr × Obj)} {σ : L2.St} {H : Hp} {s : Shared} {Q : VK} {us ws : List Value} {vs zs : List V} (M : Mk X.K C fI) (Fn : FnX ⟨false, nn, false⟩ X.prog X.w X.K X.mg X.base k fI fd ps sp) (hr : Room (k + 1) X.A) (hb : KBn X.K fd ps (m1 + 1) ks g gV) (tk : Tk nn X W) (I : Inv X pins σ H s) (r : Vals vs us) (rz : Vals zs ws) (l1 : vs.length = m1) (l2 : zs.length = ks.length)
    (h : ∀ z dx, H z = none → H dx = none → dx ≠ z → sp (gV (.ref z :: vs) zs) (upd (upd H dx (.own z)) z (.ins C dx [])) (fun v H2 => v = .non ∧ Q (.ref z) H2) (WE W σ)) :
    wpAny (model X.prog X.w) X.A (PySem.call (.ref C) us (ks.zip ws)) (EP X pins σ Q) X.xe s := by
  have hq := h (s.heap.objs.size + 1) s.heap.objs.size (I.hok.fresh (Nat.le_succ _)) (I.hok.fresh (Nat.le_refl _)) (Nat.ne_of_lt (Nat.lt_succ_self _))
  have J := Inv.made (C := C) I
  have r1 : Vals (V.ref (s.heap.objs.size + 1) :: vs) (Value.ref (s.heap.objs.size + 1) :: us) := .cons rfl r
  have e1 : (Value.ref (s.heap.objs.size + 1) :: us).length = m1 + 1 := by rw [← r1.length, List.length_cons, l1]
  have e2 : ws.length = ks.length := by rw [← rz.length, l2]
  refine wpAny_call (make_map (f := fI) I.kIn M.makes M.init (beq_iff_eq.mp M.fn) ?_)
  refine codeAny_mono (Fn.ok.run _ X.stack _ _ _ _ _ _ (WE W σ) (hr.make C us _) (J.env0.make C us _) (hb.to _ _ ws J.kIn e1 e2) (hb.rel r1 rz) hq) fun r s' hz => ?_
  cases r with
  | error er => exact tk.pass σ pins _ _ er s' J hz
  | ok fl =>
    cases fl with
    | ret u =>
      obtain ⟨v, H', J3, rv, ev, q3⟩ := J.after hz
      subst ev
      exact ⟨rv, ⟨.ref _, H', J3, rfl, q3⟩⟩
    | next => exact hz.elim
    | brk => exact hz.elim
    | cont => exact hz.elim
theorem me_makeK {K : PySem.W.Frag} {m1 m2 : Nat} {gV : List V → List V → List V} {gD : List D → List D → List D} {t u : TA} (hgD : ∀ as F (ds zs : List D) (vs ws : List V) (s : V), RpL K as F ds vs → RpL K as F zs ws → ds.length = m1 → zs.length = m2 → ∃ us, gV (s :: vs) ws = s :: us ∧ RpL K as F (gD ds zs) us)
    (m : MA K W t er) (mk : MA K W u ek) : ME K W (tMakeKX C m1 m2 (spG K n G) gV (WE W) t u) (eMakeK l C n m1 m2 G gD er ek) := fun as F H S ρ σ I R q x h Q hq hx => by
  refine m as F H S ρ σ I R _ x h _ (fun ds S1 bs F1 H1 vs h1 g1 r1 => ?_) hx
  refine mk bs F1 H1 S1 ρ σ g1.sit (R.grow g1) _ x h1 _ (fun zs S2 cs F2 H2 ws h2 g2 r2 => ?_) (hx.step g1)
  refine ⟨⟨r1.length.symm.trans h2.1.1, r2.length.symm.trans h2.1.2⟩, fun z dx hz hdx ne => ?_⟩
  obtain ⟨us, e1, r3⟩ := hgD cs F2 ds zs vs ws (.ref z) (r1.mono g2.ex g2.pre) r2 h2.1.1 h2.1.2
  rw [e1]
  exact make_ok g2.sit r3 h2.2 ((hq.step g1).step g2) ((hx.step g1).step g2) z dx hz hdx ne
theorem ge_makeK0 {g : List Value → List Value → List Value} {gV : List V → List V → List V} {gD : List D → List D → List D} {kws : List Keyword} (tk : Tk nn X W) (Mm : Mk X.K C fI) (Fn : FnX ⟨false, nn, false⟩ X.prog X.w X.K X.mg X.base k fI fd ps (spG X.K n G)) (hr : Room j X.A) (hj : k + 1 ≤ j)
    (hm : X.mg x = some (.ref C)) (hb : KBn X.K fd ps 1 ks g gV) (hgD : ∀ as F (ds zs : List D) (vs ws : List V) (s : V), RpL X.K as F ds vs → RpL X.K as F zs ws → ds.length = 0 → zs.length = ks.length → ∃ us, gV (s :: vs) ws = s :: us ∧ RpL X.K as F (gD ds zs) us) (hk : GK X W kws ek) (hg : Gl X x := by rfl)
    (hall : (backToKw pos (keywordEach kws X.env)).all (·.1.isSome) = true := by rfl) (hks : (backToKw pos (keywordEach kws X.env)).filterMap (·.1) = ks := by rfl) (hdb : (x == ("__debug__" : Str)) = false := by decide)
    (hpl : ((backTo pos (starEach [] X.env)).any (·.1) || (backToKw pos (keywordEach kws X.env)).any (·.1.isNone)) = false := by rfl) :
    GE X W (.Call (.Name x p) [] kws pos) (eMakeK l C n 0 ks.length G gD aNil ek) := by
  obtain ⟨u, pk, mk⟩ := hk
  refine ⟨tMakeKX C 0 ks.length (spG X.K n G) gV (WE W) tNil u, ⟨fun pins s σ H Q I h => ?_⟩, me_makeK hgD ma_nil mk⟩
  refine wpAny_Call_Name_kw (ld_glob I hg hm ?_ hdb)
  refine PySem.W.callWith_KW0 (h₀ := X.base) I.ok.mod.kin Mm.kp hall (thn (pk.run pos pins s σ H _ I h) fun ws s2 hh2 => ?_) hpl
  obtain ⟨zs, H2, I2, rz, ll, q2⟩ := hh2
  refine ⟨I2.kIn, ?_⟩
  rw [hks]
  exact run_makeKX (us := []) (vs := []) Mm Fn (hr.mono hj) hb tk I2 .nil rz ll.1 ll.2 q2
end
end
end RV
end
section
/-! Operations on data. -/
namespace RV
open PySem L2
section
variable {K : PySem.W.Frag} {as : List Addr} {F H : Hp} {S : WS}
/-- nothing new comes: the value itself -/
theorem keep {S : WS} {Q : VK} {d : D} {v : V} (I : Sit K as F H S) (q : ∀ F' H' v, Grow K as F H as F' H' S → Rp K as F' d v → Q v H') (r : Rp K as F d v) : Q v H := q F H v (Grow.refl I) r
theorem fresh {Q : VK} {o : HO} {d : D} (I : Sit K as F H S) (q : ∀ F' H' v, Grow K as F H as F' H' S → Rp K as F' d v → Q v H') (r : ∀ p, Rp K as (upd F p o) d (.ref p)) : ∀ p, H p = none → Q (.ref p) (upd H p o) := fun p hp => q _ _ _ (I.grow hp) (r p)
/-! ### numbers -/
def intD (f : Int → Int → Int) : WS → D → D → Option D := fun _ x y => match x, y with
  | .int i, .int j => some (.int (f i j))
  | _, _ => none
def cmpD (f : Int → Int → Bool) : WS → D → D → Option D := fun _ x y => match x, y with
  | .int i, .int j => some (.bl (f i j))
  | _, _ => none
theorem ro_int {f : Int → Int → Int} : RO K (rI0 fun i j => .int (f i j)) (intD f) := fun as F H S x y d vx vy I rx ry h Q q => by
  unfold intD at h
  split at h
  · cases h
    cases rx
    cases ry
    exact ⟨_, _, rfl, rfl, keep I q (.int _)⟩
  · cases h
theorem ro_cmp {f : Int → Int → Bool} : RO K (rI0 fun i j => .bl (f i j)) (cmpD f) := fun as F H S x y d vx vy I rx ry h Q q => by
  unfold cmpD at h
  split at h
  · cases h
    cases rx
    cases ry
    exact ⟨_, _, rfl, rfl, keep I q (.bl _)⟩
  · cases h
/-- under a condition that can be told -/
def intCD (c : Int → Int → Bool) (f : Int → Int → Int) : WS → D → D → Option D := fun _ x y => match x, y with
  | .int i, .int j => if c i j = true then some (.int (f i j)) else none
  | _, _ => none
theorem ro_intC {C : Int → Int → Prop} {c : Int → Int → Bool} {f : Int → Int → Int} (hc : ∀ i j, c i j = true → C i j) : RO K (rI C fun i j => .int (f i j)) (intCD c f) := fun as F H S x y d vx vy I rx ry h Q q => by
  unfold intCD at h
  split at h
  · split at h
    · rename_i hh
      cases h
      cases rx
      cases ry
      exact ⟨_, _, rfl, rfl, hc _ _ hh, keep I q (.int _)⟩
    · cases h
  · cases h
theorem RO.or {r r' : R2} {f g : WS → D → D → Option D} (h : RO K r f) (h' : RO K r' g) : RO K (fun x y H Q => r x y H Q ∨ r' x y H Q) (fun S x y => (f S x y).orElse fun _ => g S x y) := fun as F H S x y d vx vy I rx ry e Q q => by
  replace e : ((f S x y).orElse fun _ => g S x y) = some d := e
  cases h1 : f S x y with
  | some z =>
    rw [h1] at e
    have e' : z = d := by simpa using e
    subst e'
    exact .inl (h as F H S x y z vx vy I rx ry h1 Q q)
  | none =>
    rw [h1] at e
    exact .inr (h' as F H S x y d vx vy I rx ry (by simpa using e) Q q)
def mulOk (i j : Int) : Bool := decide ((-(2 ^ 64) < i ∧ i < 2 ^ 64) ∨ (-(2 ^ 64) < j ∧ j < 2 ^ 64))
def powOk (i j : Int) : Bool := decide (0 ≤ j ∧ j ≤ 1000000 ∧ i.natAbs < 2 ^ 64)
theorem mulOk_c {i j : Int} (h : mulOk i j = true) : CMul i j := by
  unfold mulOk at h
  simp only [decide_eq_true_eq] at h
  exact h
theorem powOk_c {i j : Int} (h : powOk i j = true) : CPow i j := by
  unfold powOk at h
  simp only [decide_eq_true_eq] at h
  exact h
def posR (_ j : Int) : Bool := decide (0 < j)
def divOk (_ j : Int) : Bool := decide (0 < j ∧ j < 1073741824)
/-! ### texts -/
def catS : WS → D → D → Option D := fun _ x y => match x, y with
  | .str a, .str b => if small (a.length + b.length) = true then some (.str (a ++ b)) else none
  | _, _ => none
theorem ro_catS : RO K (fun x y H Q => ∃ i j, x = .str i ∧ y = .str j ∧ i.length + j.length ≤ sizeLine ∧ Q (.str (i ++ j)) H) catS := fun as F H S x y d vx vy I rx ry h Q q => by
  unfold catS at h
  split at h
  · split at h
    · rename_i hh
      cases h
      cases rx
      cases ry
      exact ⟨_, _, rfl, rfl, small_le hh, keep I q (.str _)⟩
    · cases h
  · cases h
/-- lists together -/
def catL : WS → D → D → Option D := fun _ x y => match x, y with
  | .lst a, .lst b => if small (a.length + b.length) = true then some (.lst (a ++ b)) else none
  | _, _ => none
theorem ro_catL : RO K rCat catL := fun as F H S x y d vx vy I rx ry h Q q => by
  unfold catL at h
  split at h
  · split at h
    · rename_i hh
      cases h
      cases rx with
      | lst h1 r1 =>
        cases ry with
        | lst h2 r2 =>
          refine ⟨_, _, _, _, rfl, rfl, I.ex _ _ h1, I.ex _ _ h2, by rw [← r1.length, ← r2.length]; exact small_le hh, fun p hp => ?_⟩
          refine q _ _ _ (I.grow hp) (.lst upd_same ((r1.append r2).mono (Ex.new (I.out hp)) (Pre.refl _)))
    · cases h
  · cases h
/-! ### an item -/
def ixD : WS → D → D → Option D := fun S x y => match x, y with
  | .lst ds, .int i => atI ds i
  | .tup ds, .int i => atI ds i
  | .str s, .int i => if small s.length = true then (atI s.cps.toList i).map fun c => .str ⟨#[c]⟩ else none
  | .cell k, .int i => match S[k]? with
    | some (.lst ds) => atI ds i
    | _ => none
  | .scr ns, .int i => (atI ns i).map D.int
  | _, _ => none
theorem atI_map {ns : List Int} {i n : Int} (h : L2.atI ns i = some n) : L2.atI (ns.map V.int) i = some (V.int n) := by
  unfold L2.atI at h ⊢
  rw [List.length_map]
  cases h1 : ixN ns.length i with
  | none => rw [h1] at h; cases h
  | some j =>
    rw [h1] at h
    simp only [Option.bind_some] at h ⊢
    rw [List.getElem?_map, h]
    rfl
theorem RpL.atI {ds : List D} {vs : List V} (r : RpL K as F ds vs) {i : Int} {d : D} (h : L2.atI ds i = some d) : ∃ v, L2.atI vs i = some v ∧ Rp K as F d v := by
  unfold L2.atI at h ⊢
  rw [← r.length]
  cases h1 : ixN ds.length i with
  | none => rw [h1] at h; cases h
  | some j =>
    rw [h1] at h
    simp only [Option.bind_some] at h ⊢
    exact r.get h
theorem ro_ix : RO K (rIx K) ixD := fun as F H S x y d vx vy I rx ry h Q q => by
  unfold ixD at h
  split at h
  · cases ry
    cases rx with
    | lst h1 r1 =>
      obtain ⟨v, e, rv⟩ := r1.atI h
      exact .inl ⟨_, _, _, v, rfl, rfl, SqL.of (I.ex _ _ h1), e, keep I q rv⟩
  · cases ry
    cases rx with
    | tup h1 r1 =>
      obtain ⟨v, e, rv⟩ := r1.atI h
      exact .inr (.inl ⟨_, _, _, v, rfl, rfl, I.ex.sqT h1, e, keep I q rv⟩)
  · split at h
    · rename_i hh
      cases ry
      cases rx
      rename_i s i
      cases h1 : atI s.cps.toList i with
      | none => rw [h1] at h; cases h
      | some c =>
        rw [h1] at h
        cases h
        exact .inr (.inr ⟨_, _, c, rfl, rfl, small_le hh, h1, keep I q (.str _)⟩)
    · cases h
  · rename_i k i
    split at h
    · rename_i ds hS
      cases ry
      cases rx with
      | cell ha =>
        obtain ⟨z1, ob, z2, z3⟩ := I.cell k _ _ ha hS
        cases ob with
        | lst xs =>
          obtain ⟨v, e, rv⟩ := RpL.atI (K := K) (as := []) (F := F) z3 h
          exact .inl ⟨_, _, _, v, rfl, rfl, SqL.of z2, e, keep I q (rv.mono (Ex.refl _) pre_nil)⟩
        | _ => exact z3.elim
    · cases h
  · simp only [Option.map_eq_some_iff] at h
    obtain ⟨n, h1, rfl⟩ := h
    cases ry
    cases rx with
    | scr hs => exact .inl ⟨_, _, _, _, rfl, rfl, I.ex.sqL hs, atI_map h1, keep I q (.int n)⟩
  · cases h
/-! ### in -/
def flatD : D → Bool
  | .non => true
  | .bl _ => true
  | .int _ => true
  | .str _ => true
  | _ => false
def eqFl : D → D → Bool
  | .non, .non => true
  | .bl a, .bl b => a == b
  | .bl a, .int b => (if a then 1 else 0) == b
  | .int a, .bl b => a == (if b then 1 else 0)
  | .int a, .int b => a == b
  | .str a, .str b => a == b
  | _, _ => false
theorem flat_v {d : D} {v : V} (r : Rp K as F d v) (h : flatD d = true) : flatV v = true := by
  cases r <;> first | rfl | cases h
theorem flat_all : ∀ {ds : List D} {vs : List V}, RpL K as F ds vs → ds.all flatD = true → vs.all flatV = true
  | _, _, .nil, _ => rfl
  | _, _, .cons h r, e => by
    simp only [List.all_cons, Bool.and_eq_true] at e ⊢
    exact ⟨flat_v h e.1, flat_all r e.2⟩
theorem eqFl_v {d e : D} {v u : V} (r : Rp K as F d v) (s : Rp K as F e u) (hd : flatD d = true) (he : flatD e = true) : eqV v u = eqFl d e := by
  cases r <;> first | (cases hd; done) | (cases s <;> first | rfl | (cases he; done))
theorem any_v {x : D} {vx : V} (rx : Rp K as F x vx) (hx : flatD x = true) : ∀ {ds : List D} {vs : List V}, RpL K as F ds vs → ds.all flatD = true → inV vx vs = ds.any fun y => eqFl y x
  | _, _, .nil, _ => rfl
  | _, _, .cons h r, e => by
    simp only [List.all_cons, Bool.and_eq_true] at e
    have ih := any_v rx hx r e.2
    unfold inV at ih ⊢
    simp only [List.any_cons, ih, eqFl_v h rx e.1 hx]
def itemsD (S : WS) : D → Option (List D)
  | .lst ds => some ds
  | .tup ds => some ds
  | .scr ns => some (ns.map D.int)
  | .cell k => match S[k]? with
    | some (.lst ds) => some ds
    | _ => none
  | _ => none
theorem items_v {x : D} {v : V} {ds : List D} (I : Sit K as F H S) (r : Rp K as F x v) (h : itemsD S x = some ds) : ∃ a xs, v = .ref a ∧ (SqL K H a xs ∨ SqT K H a xs) ∧ RpL K as F ds xs := by
  cases x with
  | lst ds' =>
    cases h
    cases r with
    | lst h1 r1 => exact ⟨_, _, rfl, .inl (SqL.of (I.ex _ _ h1)), r1⟩
  | tup ds' =>
    cases h
    cases r with
    | tup h1 r1 => exact ⟨_, _, rfl, .inr (I.ex.sqT h1), r1⟩
  | scr ns =>
    cases h
    cases r with
    | scr h1 => exact ⟨_, _, rfl, .inl (I.ex.sqL h1), rpl_ints ns⟩
  | cell k =>
    unfold itemsD at h
    cases hS : S[k]? with
    | none => simp [hS] at h
    | some c =>
      cases c with
      | lst es =>
        simp only [hS] at h
        cases h
        cases r with
        | cell ha =>
          obtain ⟨z1, ob, z2, z3⟩ := I.cell k _ _ ha hS
          cases ob with
          | lst xs => exact ⟨_, _, rfl, .inl (SqL.of z2), RpL.mono (Ex.refl _) pre_nil z3⟩
          | _ => exact z3.elim
      | _ => simp [hS] at h
  | _ => cases h
def inD (neg : Bool) : WS → D → D → Option D := fun S x y => (itemsD S y).bind fun ds => if flatD x = true ∧ ds.all flatD = true then some (.bl (if neg then !ds.any (fun y => eqFl y x) else ds.any fun y => eqFl y x)) else none
theorem ro_in {neg : Bool} : RO K (rIn K neg) (inD neg) := fun as F H S x y d vx vy I rx ry h Q q => by
  unfold inD at h
  cases h1 : itemsD S y with
  | none => rw [h1] at h; cases h
  | some ds =>
    simp only [h1, Option.bind_some] at h
    split at h
    · rename_i hh
      cases h
      obtain ⟨a, xs, rfl, hs, r⟩ := items_v I ry h1
      refine ⟨a, xs, rfl, hs, flat_v rx hh.1, flat_all r hh.2, ?_⟩
      rw [any_v rx hh.1 r hh.2]
      exact keep I q (.bl _)
    · cases h
/-- one sign in a text -/
def inSD (neg : Bool) : WS → D → D → Option D := fun _ x y => match x, y with
  | .str s, .str z => match s.cps.toList with
    | [c] => some (.bl (if neg then !decide (c ∈ z.cps.toList) else decide (c ∈ z.cps.toList)))
    | _ => none
  | _, _ => none
theorem one_sign {s : Str} {c : Nat} (h : s.cps.toList = [c]) : s = ⟨#[c]⟩ := by
  obtain ⟨a⟩ := s
  have : a = #[c] := by
    apply Array.ext'
    simpa using h
  rw [this]
theorem ro_inS : RO K (fun x y H Q => ∃ (c : Nat) (z : Str), x = .str ⟨#[c]⟩ ∧ y = .str z ∧ Q (.bl (decide (c ∈ z.cps.toList))) H) (inSD false) := fun as F H S x y d vx vy I rx ry h Q q => by
  unfold inSD at h
  split at h
  · split at h
    · rename_i hc
      cases h
      cases rx
      cases ry
      rw [one_sign hc]
      exact ⟨_, _, rfl, rfl, keep I q (.bl _)⟩
    · cases h
  · cases h
theorem ro_notInS : RO K (fun x y H Q => ∃ (c : Nat) (z : Str), x = .str ⟨#[c]⟩ ∧ y = .str z ∧ Q (.bl (!decide (c ∈ z.cps.toList))) H) (inSD true) := fun as F H S x y d vx vy I rx ry h Q q => by
  unfold inSD at h
  split at h
  · split at h
    · rename_i hc
      cases h
      cases rx
      cases ry
      rw [one_sign hc]
      exact ⟨_, _, rfl, rfl, keep I q (.bl _)⟩
    · cases h
  · cases h
/-! ### == of data -/
mutual
def D.py : D → Option PyData
  | .non => some .none
  | .bl b => some (.bool b)
  | .int i => some (.int i)
  | .str s => some (.str s)
  | .tup ds => (D.pyL ds).map PyData.tuple
  | .lst ds => (D.pyL ds).map PyData.list
  | .ty _ | .adr _ | .cell _ | .scr _ | .obj _ _ | .dic _ | .exc _ _ | .exv _ _ _ _ | .ptu _ | .clo _ _ _ _ _ _ => none
def D.pyL : List D → Option (List PyData)
  | [] => some []
  | d :: ds => (D.py d).bind fun a => (D.pyL ds).map fun b => a :: b
end
mutual
theorem Rp.dp (I : Ex F H) : ∀ {d : D} {v : V} {p : PyData}, Rp K as F d v → D.py d = some p → Dp K H v p
  | _, _, _, .non, h => by
    unfold D.py at h
    cases h
    exact .non
  | _, _, _, .bl b, h => by
    unfold D.py at h
    cases h
    exact .bl b
  | _, _, _, .int i, h => by
    unfold D.py at h
    cases h
    exact .int i
  | _, _, _, .str s, h => by
    unfold D.py at h
    cases h
    exact .str s
  | _, _, _, .ty n, h => by unfold D.py at h; cases h
  | _, _, _, .adr a, h => by unfold D.py at h; cases h
  | _, _, _, .cell _, h => by unfold D.py at h; cases h
  | _, _, _, .scr _, h => by unfold D.py at h; cases h
  | _, _, _, .obj _ _, h => by unfold D.py at h; cases h
  | _, _, _, .dic _ _, h => by unfold D.py at h; cases h
  | _, _, _, .ptu _ _, h => by unfold D.py at h; cases h
  | _, _, _, .clo _ _ _, h => by unfold D.py at h; cases h
  | _, _, _, .tup h1 r, h => by
    unfold D.py at h
    simp only [Option.map_eq_some_iff] at h
    obtain ⟨ps, h2, rfl⟩ := h
    exact .tup (I.sqT h1) (RpL.dp I r h2)
  | _, _, _, .lst h1 r, h => by
    unfold D.py at h
    simp only [Option.map_eq_some_iff] at h
    obtain ⟨ps, h2, rfl⟩ := h
    exact .lst (SqL.of (I _ _ h1)) (RpL.dp I r h2)
theorem RpL.dp (I : Ex F H) : ∀ {ds : List D} {vs : List V} {ps : List PyData}, RpL K as F ds vs → D.pyL ds = some ps → DpAll K H vs ps
  | _, _, _, .nil, h => by
    unfold D.pyL at h
    cases h
    exact .nil
  | _, _, _, .cons hd r, h => by
    unfold D.pyL at h
    simp only [Option.bind_eq_some_iff, Option.map_eq_some_iff] at h
    obtain ⟨a, h1, b, h2, rfl⟩ := h
    exact .cons (Rp.dp I hd h1) (RpL.dp I r h2)
end
/-- two texts, two numbers, two bools -/
def eqScal : D → D → Option Bool
  | .str a, .str b => some (decide (a = b))
  | .int a, .int b => some (decide (a = b))
  | .bl a, .bl b => some (decide (a = b))
  | _, _ => none
theorem dec_of {α β : Type} [DecidableEq α] [DecidableEq β] {a b : α} {f : α → β} (hf : ∀ x y, f x = f y → x = y) : decide (f a = f b) = decide (a = b) := by
  by_cases h : a = b
  · subst h
    simp
  · rw [decide_eq_false h, decide_eq_false fun z => h (hf _ _ z)]
theorem ro_eqS : RO K rEq (fun _ x y => (eqScal x y).map D.bl) := fun as F H S x y d vx vy I rx ry h Q q => by
  replace h : (eqScal x y).map D.bl = some d := h
  unfold eqScal at h
  split at h
  · cases h
    cases rx
    cases ry
    refine ⟨rfl, ?_⟩
    rw [dec_of (f := V.str) fun x y e => by cases e; rfl]
    exact keep I q (.bl _)
  · cases h
    cases rx
    cases ry
    refine ⟨rfl, ?_⟩
    rw [dec_of (f := V.int) fun x y e => by cases e; rfl]
    exact keep I q (.bl _)
  · cases h
    cases rx
    cases ry
    refine ⟨rfl, ?_⟩
    rw [dec_of (f := V.bl) fun x y e => by cases e; rfl]
    exact keep I q (.bl _)
  · cases h
theorem ro_neS : RO K rNe (fun _ x y => (eqScal x y).map fun c => D.bl (!c)) := fun as F H S x y d vx vy I rx ry h Q q => by
  replace h : ((eqScal x y).map fun c => D.bl (!c)) = some d := h
  unfold eqScal at h
  split at h
  · cases h
    cases rx
    cases ry
    refine ⟨rfl, ?_⟩
    rw [dec_of (f := V.str) fun x y e => by cases e; rfl]
    exact keep I q (.bl _)
  · cases h
    cases rx
    cases ry
    refine ⟨rfl, ?_⟩
    rw [dec_of (f := V.int) fun x y e => by cases e; rfl]
    exact keep I q (.bl _)
  · cases h
    cases rx
    cases ry
    refine ⟨rfl, ?_⟩
    rw [dec_of (f := V.bl) fun x y e => by cases e; rfl]
    exact keep I q (.bl _)
  · cases h
/-! ### built-ins -/
def lenD : WS → List D → Option D := fun S xs => match xs with
  | [.str s] => if small s.length = true then some (.int (s.length : Nat)) else none
  | [x] => (itemsD S x).map fun ds => .int (ds.length : Nat)
  | _ => none
theorem rc_len : RC K (fun xs H Q => ∃ x n, xs = [x] ∧ LenV K x H n ∧ Q (.int n) H) lenD := fun as F H S ds d vs I r h Q q => by
  unfold lenD at h
  split at h
  · split at h
    · rename_i hh
      cases h
      obtain ⟨v, ws, rfl, rv, rn⟩ := r.unsn
      obtain rfl := rn.unnil
      cases rv
      exact ⟨_, _, rfl, ⟨small_le hh, rfl⟩, keep I q (.int _)⟩
    · cases h
  · simp only [Option.map_eq_some_iff] at h
    obtain ⟨es, h1, rfl⟩ := h
    obtain ⟨v, ws, rfl, rv, rn⟩ := r.unsn
    obtain rfl := rn.unnil
    obtain ⟨a, xs, rfl, hs, rl⟩ := items_v I rv h1
    refine ⟨_, es.length, rfl, ?_, keep I q (.int _)⟩
    rcases hs with hs | hs
    · exact .inl ⟨_, hs, rl.length⟩
    · exact .inr ⟨_, hs, rl.length⟩
  · cases h
def boolsD : List D → Option (List Bool)
  | [] => some []
  | .bl b :: r => (boolsD r).map fun t => b :: t
  | _ => none
theorem bools_v : ∀ {ds : List D} {vs : List V} {bs : List Bool}, RpL K as F ds vs → boolsD ds = some bs → vs = bs.map V.bl
  | _, _, bs, .nil, h => by
    unfold boolsD at h
    cases h
    rfl
  | _, _, bs, .cons (d := d) hd r, h => by
    cases hd with
    | bl b =>
      unfold boolsD at h
      simp only [Option.map_eq_some_iff] at h
      obtain ⟨t, h1, rfl⟩ := h
      rw [bools_v r h1]
      rfl
    | _ => cases h
def allD : WS → List D → Option D := fun _ xs => match xs with
  | [.lst ds] => (boolsD ds).map fun bs => .bl (bs.all id)
  | _ => none
def anyD : WS → List D → Option D := fun _ xs => match xs with
  | [.lst ds] => (boolsD ds).map fun bs => .bl (bs.any id)
  | _ => none
theorem rc_all : RC K (rAll K) allD := fun as F H S ds d vs I r h Q q => by
  unfold allD at h
  split at h
  · simp only [Option.map_eq_some_iff] at h
    obtain ⟨bs, h1, rfl⟩ := h
    obtain ⟨v, ws, rfl, rv, rn⟩ := r.unsn
    obtain rfl := rn.unnil
    cases rv with
    | lst h2 rl =>
      have e := bools_v rl h1
      subst e
      exact ⟨_, bs, rfl, SqL.of (I.ex _ _ h2), keep I q (.bl _)⟩
  · cases h
theorem rc_any : RC K (rAny K) anyD := fun as F H S ds d vs I r h Q q => by
  unfold anyD at h
  split at h
  · simp only [Option.map_eq_some_iff] at h
    obtain ⟨bs, h1, rfl⟩ := h
    obtain ⟨v, ws, rfl, rv, rn⟩ := r.unsn
    obtain rfl := rn.unnil
    cases rv with
    | lst h2 rl =>
      have e := bools_v rl h1
      subst e
      exact ⟨_, bs, rfl, SqL.of (I.ex _ _ h2), keep I q (.bl _)⟩
  · cases h
/-! ### slices -/
def RSl (K : PySem.W.Frag) (r : V → Option Int → Option Int → Hp → VK → Prop) (f : WS → D → Option Int → Option Int → Option D) : Prop := ∀ (as : List Addr) (F H : Hp) (S : WS) (x d : D) (vx : V) (lo hi : Option Int), Sit K as F H S → Rp K as F x vx → f S x lo hi = some d →
  ∀ Q : VK, (∀ F' H' v, Grow K as F H as F' H' S → Rp K as F' d v → Q v H') → r vx lo hi H Q
def slS : WS → D → Option Int → Option Int → Option D := fun _ x lo hi => match x with
  | .str z => if small z.length = true then some (.str (cutS z lo hi)) else none
  | _ => none
theorem rsl_str : RSl K rSlS slS := fun as F H S x d vx lo hi I rx h Q q => by
  unfold slS at h
  split at h
  · split at h
    · rename_i hh
      cases h
      cases rx
      exact ⟨_, rfl, small_le hh, keep I q (.str _)⟩
    · cases h
  · cases h
def cutD (ds : List D) (lo hi : Option Int) : List D := (ds.drop (HT.sIx ds.length 0 lo)).take (HT.sIx ds.length ds.length hi - HT.sIx ds.length 0 lo)
def slL : WS → D → Option Int → Option Int → Option D := fun S x lo hi => match x with
  | .lst ds => some (.lst (cutD ds lo hi))
  | _ => none
theorem rsl_lst : RSl K (rSlL K) slL := fun as F H S x d vx lo hi I rx h Q q => by
  unfold slL at h
  split at h
  · cases h
    cases rx with
    | lst h1 r1 =>
      refine ⟨_, _, rfl, SqL.of (I.ex _ _ h1), fun p hp => ?_⟩
      refine q _ _ _ (I.grow hp) (.lst upd_same ?_)
      unfold cutD cutV
      rw [r1.length]
      exact ((r1.drop _).take _).mono (Ex.new (I.out hp)) (Pre.refl _)
  · cases h
end
section
variable {X : Cx} {W : WX} {e : Expr} {pos : Pos} {ea : Env → M}
abbrev MO := WS → (Option Int → WS → Prop) → Xq → Prop
structure GO (X : Cx) (W : WX) (e : Option Expr) (m : Env → MO) : Prop where
  ex : ∃ t : TO, PO X e t ∧ ∀ (as : List Addr) (F H : Hp) (S : WS) (ρ : Env) (σ : L2.St), Sit X.K as F H S → RpE X.K as F ρ σ → ∀ q x, m ρ S q x →
    ∀ Q : Option Int → Hp → Prop, (∀ o S' bs F' H', q o S' → Grow X.K as F H bs F' H' S' → Q o H') → XQ X.K as F H x (WE W σ) → t σ H Q
def oNone : Env → MO := fun _ S q _ => q none S
def oSome (ea : Env → M) : Env → MO := fun ρ S q x => ea ρ S (fun d S1 => onI d fun i => q (some i) S1) x
theorem go_none : GO X W none oNone := ⟨_, po_none, fun as F H S ρ σ I R q x h Q hq _ => hq none S as F H h (Grow.refl I)⟩
theorem go_some (h : GE X W e ea) : GO X W (some e) (oSome ea) := by
  obtain ⟨t, p, m⟩ := h
  refine ⟨_, po_some p, fun as F H S ρ σ I R q x h Q hq hx => ?_⟩
  refine m as F H S ρ σ I R _ x h _ (fun d S1 bs F1 H1 v h1 g r => ?_) hx
  cases r with
  | int i => exact ⟨i, rfl, hq _ S1 bs F1 H1 h1 g⟩
  | _ => exact h1.elim
def eSl (f : WS → D → Option Int → Option Int → Option D) (ea : Env → M) (lo hi : Env → MO) : Env → M := fun ρ S q x => ea ρ S (fun u S1 => lo ρ S1 (fun l S2 => hi ρ S2 (fun h S3 => onS (f S3 u l h) fun d => q d S3) x) x) x
theorem ge_slice {lo hi : Option Expr} {p2 : Pos} {r : V → Option Int → Option Int → Hp → VK → Prop} {f : WS → D → Option Int → Option Int → Option D} {ml mh : Env → MO} (hr : SlR X r) (hf : RSl X.K r f) (he : GE X W e ea) (hl : GO X W lo ml) (hh : GO X W hi mh) : GE X W (.Subscript e (.Slice lo hi none p2) pos) (eSl f ea ml mh) := by
  obtain ⟨t, p, m⟩ := he
  obtain ⟨tl, pl, m1⟩ := hl
  obtain ⟨tu, pu, m2⟩ := hh
  refine ⟨_, pe_slice hr p pl pu, fun as F H S ρ σ I R q x h Q hq hx => ?_⟩
  refine m as F H S ρ σ I R _ x h _ (fun u S1 bs F1 H1 v h1 g1 r1 => ?_) hx
  refine m1 bs F1 H1 S1 ρ σ g1.sit (R.grow g1) _ x h1 _ (fun l S2 cs F2 H2 h2 g2 => ?_) (hx.step g1)
  have g12 := g1.trans g2
  refine m2 cs F2 H2 S2 ρ σ g2.sit (R.grow g12) _ x h2 _ (fun k S3 ls F3 H3 h3 g3 => ?_) (hx.step g12)
  obtain ⟨d, h4, h5⟩ := onS_ok h3
  exact hf ls F3 H3 S3 u d v l k g3.sit (RpE_aux (g2.trans g3) r1) h4 Q fun F4 H4 y g4 r4 => hq d S3 ls F4 H4 y h5 ((g12.trans g3).trans g4) r4
end
end RV
end
section
/-! Kinds (isinstance), truth, the texts of things (repr), own == and !=. -/
namespace RV
open PySem L2
variable {nn : Bool}
section
variable {K : PySem.W.Frag} {as : List Addr} {F H : Hp} {S : WS}
/-- what is asked of an own class so that its instances' kind is known -/
structure KindC (K : PySem.W.Frag) (C : Addr) : Prop where
  cl : Cls K C
  ha : PySem.W.findIn K (.ref C) "__class__" = some (some (.builtin "object.__class__"))
  hn : PySem.W.specialIn K (.builtin "object.__class__") "__get__" = some (some (.builtin "getset_descriptor.__get__"))
  tk : PySem.W.takesIn K (.builtin "object.__class__") = some true
  mro : PySem.W.mroIn K C (.type "object") = some true
/-- the kind of data -/
def kindD (own : Addr → Bool) : D → Option Value
  | .non => some (.type "NoneType")
  | .bl _ => some (.type "bool")
  | .int _ => some (.type "int")
  | .str _ => some (.type "str")
  | .tup _ => some (.type "tuple")
  | .lst _ => some (.type "list")
  | .dic _ => some (.type "dict")
  | .obj C _ => if own C = true then some (.ref C) else none
  | _ => none
theorem tyx_of {own : Addr → Bool} {d : D} {v : V} {t : Value} (ho : ∀ C, own C = true → KindC K C) (e : Ex F H) (r : Rp K as F d v) (h : kindD own d = some t) : TyX K H v t := by
  cases r with
  | non =>
    cases h
    exact .base .non
  | bl b =>
    cases h
    exact .base (.bl b)
  | int i =>
    cases h
    exact .base (.int i)
  | str s =>
    cases h
    exact .base (.str s)
  | tup h1 _ =>
    cases h
    rcases h1 with h1 | ⟨o, its, n, h1, h2, _⟩
    · rcases h1 with h1 | ⟨o, h1⟩
      · exact .base (.tup (e _ _ h1))
      · exact .fTuple (e _ _ h1)
    · exact .kTuple h1 h2
  | lst h1 _ =>
    cases h
    exact .base (.lst (e _ _ h1))
  | dic h1 _ =>
    cases h
    exact .base (.dK (e _ _ h1))
  | obj h1 _ =>
    unfold kindD at h
    simp only at h
    split at h
    · rename_i hc
      cases h
      have k := ho _ hc
      exact .base (.ins (e _ _ h1) k.cl k.ha k.hn k.tk k.mro)
    · cases h
  | _ => cases h
def clsD : D → Option Value
  | .ty n => some (.type n)
  | .adr a => some (.ref a)
  | _ => none
def isiD (own : Addr → Bool) (tab : Value → Value → Option Bool) : WS → List D → Option D := fun _ xs => match xs with
  | [x, c] => (kindD own x).bind fun t => (clsD c).bind fun u => (tab t u).map D.bl
  | _ => none
theorem rc_isi {own : Addr → Bool} {tab : Value → Value → Option Bool} (ho : ∀ C, own C = true → KindC K C) (ht : ∀ t u b, tab t u = some b → PySem.W.kitOne K t u = some b) : RC K (rIsi K) (isiD own tab) := fun as F H S ds d vs I r h Q q => by
  unfold isiD at h
  split at h
  · simp only [Option.bind_eq_some_iff, Option.map_eq_some_iff] at h
    obtain ⟨t, h1, u, h2, b, h3, rfl⟩ := h
    obtain ⟨v, ws, rfl, rv, rn⟩ := r.unsn
    obtain ⟨w, zs, rfl, rw', rn⟩ := rn.unsn
    obtain rfl := rn.unnil
    refine ⟨v, w, t, u, b, rfl, ?_, tyx_of ho I.ex rv h1, ht t u b h3, keep I q (.bl _)⟩
    cases rw' with
    | ty n =>
      cases h2
      exact .ty n
    | adr a =>
      cases h2
      exact .own a
    | _ => cases h2
  · cases h
/-! ### truth -/
def truD : WS → D → Option Bool := fun S x => match x with
  | .non => some false
  | .bl b => some b
  | .int i => some (i != 0)
  | .str s => if small s.length = true then some ((s.length : Int) != 0) else none
  | x => (itemsD S x).map fun ds => !ds.isEmpty
theorem rt_tru : RT K (fun x H Q => ∃ k, TruV K x H k ∧ Q k H) truD := fun as F H S x b vx I r h Q q => by
  have go : ∀ {ds : List D}, itemsD S x = some ds → (!ds.isEmpty) = b → ∃ k, TruV K vx H k ∧ Q k H := fun {ds} h1 e => by
    obtain ⟨a, xs, rfl, hs, rl⟩ := items_v I r h1
    refine ⟨b, ?_, q F H (Grow.refl I)⟩
    have e2 : (!xs.isEmpty) = b := by
      rw [← e]
      cases rl <;> rfl
    rcases hs with hs | hs
    · exact .inl ⟨_, hs, e2.symm⟩
    · exact .inr (.inl ⟨_, hs, e2.symm⟩)
  unfold truD at h
  split at h
  · cases h
    cases r
    exact ⟨false, rfl, q F H (Grow.refl I)⟩
  · cases h
    cases r
    exact ⟨b, rfl, q F H (Grow.refl I)⟩
  · cases h
    cases r
    exact ⟨_, rfl, q F H (Grow.refl I)⟩
  · split at h
    · rename_i hs
      cases h
      cases r
      exact ⟨_, ⟨small_le hs, rfl⟩, q F H (Grow.refl I)⟩
    · cases h
  · simp only [Option.map_eq_some_iff] at h
    obtain ⟨ds, h1, h2⟩ := h
    exact go h1 h2
theorem RT.or {r r' : V → Hp → (Bool → Hp → Prop) → Prop} {f g : WS → D → Option Bool} (h : RT K r f) (h' : RT K r' g) : RT K (fun x H Q => r x H Q ∨ r' x H Q) (fun S x => (f S x).orElse fun _ => g S x) := fun as F H S x b vx I rx e Q q => by
  replace e : ((f S x).orElse fun _ => g S x) = some b := e
  cases h1 : f S x with
  | some z =>
    rw [h1] at e
    have e' : z = b := by simpa using e
    subst e'
    exact .inl (h as F H S x z vx I rx h1 Q q)
  | none =>
    rw [h1] at e
    exact .inr (h' as F H S x b vx I rx (by simpa using e) Q q)
end
section
variable {X : Cx} {W : WX}
/-! ### repr of a list or tuple of plain data -/
def rRepr (K : PySem.W.Frag) : List V → Hp → VK → Prop := fun xs H Q => ∃ x d, xs = [x] ∧ Dp K H x d ∧ d.showable = true ∧ d.hasDict = false ∧ d.depth ≤ 64 ∧ d.shown.length ≤ sizeLine ∧ Q (.str d.shown) H
def reprD : WS → List D → Option D := fun _ xs => match xs with
  | [x] => (D.py x).bind fun p => if p.showable = true ∧ p.hasDict = false ∧ p.depth ≤ 64 ∧ p.shown.length ≤ sizeLine then some (.str p.shown) else none
  | _ => none
theorem rc_repr {K : PySem.W.Frag} : RC K (rRepr K) reprD := fun as F H S ds d vs I r h Q q => by
  unfold reprD at h
  split at h
  · simp only [Option.bind_eq_some_iff] at h
    obtain ⟨p, h1, h2⟩ := h
    split at h2
    · rename_i hh
      cases h2
      obtain ⟨v, ws, rfl, rv, rn⟩ := r.unsn
      obtain rfl := rn.unnil
      exact ⟨_, p, rfl, rv.dp I.ex h1, hh.1, hh.2.1, hh.2.2.1, hh.2.2.2, keep I q (.str _)⟩
    · cases h2
  · cases h

/-! ### an operation that runs a def of the text's own -/
def ROM (K : PySem.W.Frag) (E : XK) (r : R2) (f : D → D → M) : Prop := ∀ (as : List Addr) (F H : Hp) (S : WS) (x y : D) (vx vy : V), Sit K as F H S → Rp K as F x vx → Rp K as F y vy → ∀ q z, f x y S q z →
  ∀ Q : VK, NQ K as F H q Q → XQ K as F H z E → r vx vy H Q
def eOpM (f : D → D → M) (ea eb : Env → M) : Env → M := fun ρ S q x => ea ρ S (fun u S1 => eb ρ S1 (fun v S2 => f u v S2 q x) x) x
/-- an operation whose reading knows the slots -/
def tOpS (r : L2.St → R2) (ta tb : TE) : TE := fun σ H Q => ta σ H fun x H1 => tb σ H1 fun y H2 => r σ x y H2 Q
theorem me_opM {K : PySem.W.Frag} {r : L2.St → R2} {f : D → D → M} {ta tb : TE} {ea eb : Env → M} (hr : ∀ σ, ROM K (WE W σ) (r σ) f) (ha : ME K W ta ea) (hb : ME K W tb eb) : ME K W (tOpS r ta tb) (eOpM f ea eb) := fun as F H S ρ σ I R q x h Q hq hx => by
  refine ha as F H S ρ σ I R _ x h _ (fun u S1 bs F1 H1 v1 h1 g1 r1 => ?_) hx
  refine hb bs F1 H1 S1 ρ σ g1.sit (R.grow g1) _ x h1 _ (fun w S2 cs F2 H2 v2 h2 g2 r2 => ?_) (hx.step g1)
  have g12 := g1.trans g2
  exact hr σ cs F2 H2 S2 u w v1 v2 g2.sit (RpE_aux g2 r1) r2 q x h2 Q (hq.step g12) (hx.step g12)
variable {a b : Expr} {pos : Pos} {ea eb : Env → M}
theorem ge_cmpM {op : CmpOp} {r : R2} {f : D → D → M} (ho : OpR X (compareOp op) r) (hr : ∀ σ, ROM X.K (WE W σ) r f) (ha : GE X W a ea) (hb : GE X W b eb) (hm : behindInMarks op b = false) : GE X W (.Compare a [op] [b] pos) (eOpM f ea eb) := by
  obtain ⟨ta, pa, ma⟩ := ha
  obtain ⟨tb, pb, mb⟩ := hb
  exact ⟨_, pe_cmpR ho pa pb hm, me_opM (r := fun _ => r) hr ma mb⟩
/-! ### own == -/
def rEqOwn (K : PySem.W.Frag) (C : Addr) (sp : Sp) (neg : Bool) : R2 := fun x y H Q => ∃ a dx fs t, x = .ref a ∧ H a = some (.ins C dx fs) ∧ TyX K H y t ∧ PySem.W.notFirst K C t = true ∧ sp [x, y] H (fun v H' => ∃ c, v = .bl c ∧ Q (.bl (if neg then !c else c)) H') E0
theorem run_eqOwn {f : Addr} {fd : FuncData} {ps : List Str} {sp : Sp} {k : Nat} {A : Around} {pins : List (Addr × Obj)} {s : Shared} {σ : L2.St} {H : Hp} {y : V} {u : Value} {p : Addr} {R : VK} (Fn : FnX ⟨false, nn, false⟩ X.prog X.w X.K X.mg X.base k f fd ps sp) (hr : Room k A) (hfr : A.frames = X.A.frames) (hb : Binds X.K fd ps []) (I : Inv X pins σ H s) (ry : RelV y u)
    (h : sp [.ref p, y] H R E0) : wpAny (model X.prog X.w) A (call (.ref f) [.ref p, u]) (EP X pins σ R) X.xe s := by
  have e0 : Env0 X.prog X.w X.K X.mg X.base A X.stack s H := by
    have e := I.env0
    exact ⟨by rw [hfr]; exact e.frames, e.mod, e.bs, e.bsz, e.funs, e.frf, e.hok, e.bare⟩
  have r2 : Vals [V.ref p, y] [Value.ref p, u] := .cons rfl (.cons ry .nil)
  have hl : [Value.ref p, u].length = ps.length := r2.length.symm.trans (Fn.len _ _ _ _ h)
  refine wpAny_call (codeAny_mono (Fn.ok.run A X.stack s H ⟨[.ref p, u], []⟩ [.ref p, u] [.ref p, y] R E0 hr e0 (by
    have := hb s [.ref p, u] I.kIn (by simpa using hl)
    simpa using this) r2 h) fun r s' hq => ?_)
  cases r with
  | error e =>
    exact (cxm_no hq).elim
  | ok fl =>
    cases fl with
    | ret w => exact I.after hq
    | next => exact hq.elim
    | brk => exact hq.elim
    | cont => exact hq.elim
theorem op_eqOwn {C f : Addr} {fd : FuncData} {ps : List Str} {sp : Sp} {k j : Nat} (Fn : FnX ⟨false, nn, false⟩ X.prog X.w X.K X.mg X.base k f fd ps sp) (hr : Room j X.A) (hj : k ≤ j) (hs : PySem.W.findIn X.K (.ref C) "__eq__" = some (some (.ref f))) (hf : PySem.W.isFn X.K (.ref f) = true) (hb : Binds X.K fd ps []) :
    OpR X (compareOp .Eq) (rEqOwn X.K C sp false) := fun pins s σ H x y v u Q I rx ry q => by
  obtain ⟨p, dx, fs, t, rfl, ha, ty, hn, q⟩ := q
  cases rx
  obtain ⟨mA, J, _⟩ := ins_get I.hok ha
  obtain ⟨od, J, _⟩ := J.look
  obtain ⟨m, hF⟩ := I.fr
  obtain ⟨Pk, kx, hP, _⟩ := kit_of I ry ty
  show wpAny (model X.prog X.w) X.A (richCompare .Eq (.ref p) u) (EP X pins σ Q) X.xe s
  refine PySem.W.cmp_K (op := .Eq) hr.units0 hF I.ok.mod.kin J (kx.ty _ _ I.kIn hP) hn hs hf ?_
  refine thn (run_eqOwn Fn (hr.mono hj) rfl hb I ry q) fun w s' hw => ?_
  obtain ⟨z, H', I', rz, c, rfl, qc⟩ := hw
  cases rz
  exact ⟨.bl c, H', I', rfl, qc⟩
theorem ne_inst {prog : Program} {w : World} {A : Around} {E : Value → Shared → Prop} {s : Shared} {K : PySem.W.Frag} {x C L f : Addr} {h0 : Heap} {m : Str → Option Value} {ox : Obj} {od : Option Obj} {b tb : Value} {Q : Value → Shared → Prop} (hu : A.units + 1 < cLine)
    (F : PyProof.Rows.Fr h0 L s.heap m) (X0 : K.In h0) (I : PySem.W.InstAt s.heap x ox C od) (hb : PySem.W.Looks (model prog w) s.heap (typeOf b) tb) (hn : PySem.W.notFirst K C tb = true) (hne : PySem.W.findIn K (.ref C) "__ne__" = some (some (.builtin "object.__ne__")))
    (hs : PySem.W.findIn K (.ref C) "__eq__" = some (some (.ref f))) (hf : PySem.W.isFn K (.ref f) = true) (hm : PySem.W.mroIn K C (.type "object") = some true)
    (h : wpAny (model prog w) A.in1 (call (.ref f) [.ref x, b]) (fun v s' => ∃ r, v = .bool r ∧ Q (.bool (!r)) s') E s) : wpAny (model prog w) A (richCompare .NotEq (.ref x) b) Q E s := by
  have KX := X0.keeps F.keep
  -- object.__ne__ asks __eq__ and turns the answer round
  have body : wpAny (model prog w) A.in1 (Builtin.«object.__ne__» ⟨[.ref x, b], []⟩) (fun fin s' => ∃ r, fin = .done (.ret (.bool r)) ∧ Q (.bool r) s') E s := by
    unfold Builtin.«object.__ne__»
    refine wpAny_bind (m := slotArgs "__ne__" 1 _) (wpAny_pure ?_)
    refine wpAny_bind (wpAny_cRoomFor (by show A.units + 1 < cLine; exact hu) ?_)
    refine wpAny_bind (PySem.W.ifBound_K KX I hs hf (wpAny_mono h (fun v s' hv => ?_) fun _ _ e => e))
    obtain ⟨r, rfl, hq⟩ := hv
    refine wpAny_bind (m := truthy (.bool r)) (wpAny_pure ?_)
    exact wpAny_pure ⟨_, rfl, hq⟩
  have chk : ∀ {A' : Around} {E' : Value → Shared → Prop} {Q' : Unit → Shared → Prop}, Q' () s → wpAny (model prog w) A' (checkBuiltinCall "object.__ne__" ⟨[.ref x, b], []⟩) Q' E' s := fun {A' E' Q'} hq => by
    simp only [checkBuiltinCall, PySem.F.cmpKind_ne, PySem.F.cmpSplit_ne]
    refine wpAny_bind (wpAny_bind (I.type.here ((PySem.W.looks_mroIn KX hm).here ?_)))
    simp only [Bool.not_true, Bool.false_eq_true, if_false]
    have ha := PySem.F.cmpArgs_ne (.ref x) b
    cases hsig : Manifest.signature? "object.__ne__" with
    | none => exact wpAny_pure hq
    | some sig =>
      simp only [argsOk, hsig] at ha
      have h2 : Bind.checkArgs "object.__ne__" sig ⟨[.ref x, b], []⟩ = pure () := ha
      show wpAny (model prog w) A' (Bind.checkArgs "object.__ne__" sig ⟨[.ref x, b], []⟩) Q' E' s
      rw [h2]
      exact wpAny_pure hq
  have one : wpAny (model prog w) A (tryCompare (.ref x) "__ne__" b) (fun r s' => ∃ v, r = some v ∧ Q v s') E s := by
    unfold tryCompare
    refine wpAny_bind ?_
    simp only [callSpecialIfBound?, bindSpecialIfBound?]
    refine wpAny_holding (wpAny_bind (wpAny_bind (wpAny_bind (I.type.here ((PySem.W.looks_findIn KX hne).here ?_)))))
    refine wpAny_bind (wpAny_askSetting (wpAny_ite ?_))
    have fin : wpAny (model prog w) A (call (.builtin "object.__ne__") ([.ref x] ++ [b]) >>= fun v => pure (some v)) (fun r s' => wpAny (model prog w) A (match r with | some .notImplemented | none => pure none | some v => pure (some v)) (fun r s' => ∃ v, r = some v ∧ Q v s') E s') E s := by
      refine wpAny_bind (wpAny_call (codeAny_call_builtin PySem.F.cmp_object.ne.plain PySem.F.cmpEntry_ne (chk ?_)))
      refine wpAny_mono body (fun fin s' hf => ?_) fun _ _ e => e
      obtain ⟨r, rfl, hq⟩ := hf
      exact wpAny_pure (wpAny_pure ⟨_, rfl, hq⟩)
    simp only [PySem.F.cmp_object.ne.bind]
    split
    · exact wpAny_bind (wpAny_pure (wpAny_pure fin))
    · exact wpAny_tryCatch (wpAny_bind (wpAny_pure (wpAny_pure fin)))
  unfold richCompare
  simp only [PySem.oneThing_ref]
  refine wpAny_holding (wpAny_bind (wpAny_cRoomFor (by omega) ?_))
  refine wpAny_bind (I.type.here (wpAny_bind (hb.here ?_)))
  have done : wpAny (model prog w) A (tryCompare (.ref x) "__ne__" b) (fun r s' => ∃ v, r = some v ∧ Q v s') E s := one
  split
  · rename_i q
    have e : PySem.W.subIn K tb (.ref C) = some false := by
      rcases Bool.or_eq_true_iff.mp hn with e | e
      · rw [beq_iff_eq.mp e] at q
        simp at q
      · exact beq_iff_eq.mp e
    refine wpAny_bind ((PySem.W.looks_subIn KX e).here ?_)
    simp only [Bool.false_eq_true, if_false]
    refine wpAny_bind (wpAny_mono done (fun r s' z => ?_) fun _ _ e => e)
    obtain ⟨v, rfl, hq⟩ := z
    exact wpAny_pure hq
  · refine wpAny_bind (wpAny_pure ?_)
    simp only [Bool.false_eq_true, if_false]
    refine wpAny_bind (wpAny_mono done (fun r s' z => ?_) fun _ _ e => e)
    obtain ⟨v, rfl, hq⟩ := z
    exact wpAny_pure hq
theorem op_neOwn {C f : Addr} {fd : FuncData} {ps : List Str} {sp : Sp} {k j : Nat} (Fn : FnX ⟨false, nn, false⟩ X.prog X.w X.K X.mg X.base k f fd ps sp) (hr : Room j X.A) (hj : k + 1 ≤ j) (hs : PySem.W.findIn X.K (.ref C) "__eq__" = some (some (.ref f))) (hf : PySem.W.isFn X.K (.ref f) = true) (hb : Binds X.K fd ps [])
    (hne : PySem.W.findIn X.K (.ref C) "__ne__" = some (some (.builtin "object.__ne__"))) (hm : PySem.W.mroIn X.K C (.type "object") = some true) :
    OpR X (compareOp .NotEq) (rEqOwn X.K C sp true) := fun pins s σ H x y v u Q I rx ry q => by
  obtain ⟨p, dx, fs, t, rfl, ha, ty, hn, q⟩ := q
  cases rx
  obtain ⟨mA, J, _⟩ := ins_get I.hok ha
  obtain ⟨od, J, _⟩ := J.look
  obtain ⟨m, hF⟩ := I.fr
  obtain ⟨Pk, kx, hP, _⟩ := kit_of I ry ty
  show wpAny (model X.prog X.w) X.A (richCompare .NotEq (.ref p) u) (EP X pins σ Q) X.xe s
  refine ne_inst (by have := hr.un; omega) hF I.ok.mod.kin J (kx.ty _ _ I.kIn hP) hn hne hs hf hm ?_
  refine thn (run_eqOwn Fn (hr.mono hj).in1 rfl hb I ry q) fun w s' hw => ?_
  obtain ⟨z, H', I', rz, c, rfl, qc⟩ := hw
  cases rz
  exact ⟨c, rfl, .bl (!c), H', I', rfl, qc⟩
/-- x == y, x != y by the == of x's own class -/
def eqOwnD (C : Addr) (own : Addr → Bool) (G : List D → M) (neg : Bool) (nfK : Value → Bool) : D → D → M := fun x y S q _ => isOb C S x ∧ onS (kindD own y) fun t => nfK t = true ∧ G [x, y] S (fun d S' => onB d fun c => q (.bl (if neg then !c else c)) S') noX
theorem rom_eqOwn {K : PySem.W.Frag} {E : XK} {C : Addr} {own : Addr → Bool} {G : List D → M} {neg : Bool} {nfK : Value → Bool} (ho : ∀ C, own C = true → KindC K C) (hn : ∀ t, nfK t = true → PySem.W.notFirst K C t = true) : ROM K E (rEqOwn K C (spG K 2 G) neg) (eqOwnD C own G neg nfK) := fun as F H S x y vx vy I rx ry q z h Q hq _ => by
  obtain ⟨h1, h2⟩ := h
  obtain ⟨t, ht, hnf, hG⟩ := onS_ok h2
  obtain ⟨a, dx, vfs, rfl, ha⟩ := isOb_at I rx h1
  refine ⟨a, dx, vfs, t, rfl, ha, tyx_of ho I.ex ry ht, hn t hnf, as, F, S, [x, y], _, noX, I, .cons rx (.cons ry .nil), rfl, hG, fun d S' bs F' H' v h3 g r => ?_, XQ.no⟩
  cases r with
  | bl c => exact ⟨c, rfl, hq _ S' bs F' H' _ h3 g (.bl _)⟩
  | _ => exact h3.elim
end
end RV
end
section
/-! Stores; a chain of comparisons; numbers. -/
namespace RV
open PySem L2
section
variable {X : Cx} {W : WX} {a b c e o tg iter elt : Expr} {pos : Pos} {ea eb ec ee eo ei : Env → M} {er : Env → ML} {mc : Env → MB}
/-! ### several names at once -/
def sAsgG (f : D → Env → Option Env) (ea : Env → M) : Env → MS := fun ρ S k => ea ρ S (fun d S1 => onS (f d ρ) fun ρ' => k.nx ρ' S1) fun e S' => k.ex e ρ S'
theorem gs_asg {vs : List Nat} {f : D → Env → Option Env} (he : GE X W e ea) (hg : GG X tg vs f) (hs : swapsWithSole [tg] e pos.line X.env = pure false := by rfl) (hw : swappedStores [tg] e X.env = pure none := by rfl) (h1 : (assignEach [tg] X.env).map (·.2) = [assign tg X.env] := by rfl) : GS X W (.Assign [tg] e pos) (sAsgG f ea) := by
  obtain ⟨t, p, m⟩ := he
  obtain ⟨g, pg, mg⟩ := hg
  refine ⟨_, ps_asg p pg hs hw h1, fun as F H S ρ σ I R k h E q => ?_⟩
  refine m as F H S ρ σ I R _ _ h _ (fun d S1 bs F1 H1 v h1 g r => ?_) (q.xq R)
  obtain ⟨ρ', h2, h3⟩ := onS_ok h1
  exact mg bs F1 H1 S1 ρ σ d v ρ' g.sit (R.grow g) r h2 _ fun σ' _ R' => q.nx ρ' S1 bs F1 H1 σ' h3 g R'
def sPar2 (i j : Nat) (er : Env → ML) : Env → MS := fun ρ S k => er ρ S (fun ds S1 => on2 ds fun x y => k.nx ((ρ.set i (some x)).set j (some y)) S1) fun e S' => k.ex e ρ S'
theorem gs_par2 (i j : Nat) {x y : Str} {px py pt pt2 : Pos} {kt k2 : Nat} (hc : X.calm = true) (hN : X.N.Nodup) (ha : GA X W [a, b] er) (hi : X.N[i]? = some x := by rfl) (hj : X.N[j]? = some y := by rfl) (hij : i ≠ j := by decide)
    (hx : X.env.scope.names.lookup x = some .local := by rfl) (hy : X.env.scope.names.lookup y = some .local := by rfl)
    (hw : swappedStores [.Tuple [.Name x px, .Name y py] kt pt] (.Tuple [a, b] k2 pt2) X.env = pure (some [x, y]) := by rfl)
    (hs : swapsWithSole [.Tuple [.Name x px, .Name y py] kt pt] (.Tuple [a, b] k2 pt2) pos.line X.env = pure false := by rfl) :
    GS X W (.Assign [.Tuple [.Name x px, .Name y py] kt pt] (.Tuple [a, b] k2 pt2) pos) (sPar2 i j er) := by
  obtain ⟨t, p, m⟩ := ha
  refine ⟨_, ps_par hc hN hi hj hij hx hy p hw hs, fun as F H S ρ σ I R k h E q => ?_⟩
  refine m as F H S ρ σ I R _ _ h _ (fun ds S1 bs F1 H1 vs h1 g r => ?_) (q.xq R)
  obtain ⟨d1, d2, rfl, h1⟩ := on2_ok h1
  obtain ⟨v, ws, rfl, r1, rn⟩ := r.unsn
  obtain ⟨w, zs, rfl, r2, rn⟩ := rn.unsn
  obtain rfl := rn.unnil
  exact ⟨v, w, rfl, q.nx _ S1 bs F1 H1 _ h1 g (((R.grow g).set r1).set r2)⟩
/-- y = [e for ..] -/
theorem gs_setLc (i : Nat) {y : Str} {py spos : Pos} {scope : Scope} {own : List (Str × Nat)} {ifs : List Expr} {l : Lk} {mi : Env → MW} {us : List Nat} {f : D → Env → Option Env} (hc : X.calm = true) (hN : X.N.Nodup) (hi : GI X W tg iter mi) (ok : BlkOk X.N X.env.scope scope own)
    (hg : ∀ (s : Shared) (H : Hp) (C : Addr) (cl : List (Str × Addr)) (fp : List Addr), GG (X.blk s H scope (compEnvC scope cl C X.env) fp) tg us f)
    (ht : ∀ (s : Shared) (H : Hp) (C : Addr) (cl : List (Str × Addr)) (fp : List Addr), GTs (X.blk s H scope (compEnvC scope cl C X.env) fp) ifs mc)
    (he : ∀ (s : Shared) (H : Hp) (C : Addr) (cl : List (Str × Addr)) (fp : List Addr), GE (X.blk s H scope (compEnvC scope cl C X.env) fp) WF elt ee)
    (hsw : swapsWith (.ListComp elt [⟨tg, iter, ifs, 0⟩] scope pos) (some (.Name y py)) spos.line X.env = pure true)
    (hy : X.N[i]? = some y := by rfl) (hyl : X.env.scope.names.lookup y = some .local := by rfl)
    (hu : ∀ x ∈ us, x ∈ own.map (·.2) := by decide) (hs : ∀ (x : Value), foldedSetIterable iter X.env x = pure x := by intro _; rfl) :
    GS X W (.Assign [.Name y py] (.ListComp elt [⟨tg, iter, ifs, 0⟩] scope pos) spos) (sAsg i (eLc l mi f mc ee (own.map (·.2)))) := by
  obtain ⟨wi, pi, mi'⟩ := hi
  exact ⟨_, ps_setLc (own := own) hc hN hy hyl hsw pi ok (fun s H C cl fp => (hg s H C cl fp).canon) (fun s H C cl fp => (ht s H C cl fp).ex) (fun s H C cl fp => (he s H C cl fp).canon) hs, ms_asg (me_lc mi' hu)⟩
/-! ### o[i] = e, o a list that is a cell -/
def setIxD (o i d : D) (S : WS) : Option WS := match o, i with
  | .cell k, .int n => match S[k]? with
    | some (.lst ds) => if D.clean 0 d = true then (ixN ds.length n).map fun j => S.set k (.lst (ds.set j d)) else none
    | _ => none
  | _, _ => none
theorem setIx_ok {K : PySem.W.Frag} {as : List Addr} {F H : Hp} {S S' : WS} {o i d : D} {vo vi v : V} {Q : Hp → Prop} (I : Sit K as F H S) (ro : Rp K as F o vo) (ri : Rp K as F i vi) (rv : Rp K as F d v) (h : setIxD o i d S = some S') (q : ∀ H', Grow K as F H as F H' S' → Q H') : rSetL vo vi v H Q := by
  unfold setIxD at h
  split at h
  · rename_i k n
    split at h
    · rename_i ds hS
      split at h
      · rename_i hcl
        simp only [Option.map_eq_some_iff] at h
        obtain ⟨j, hj, rfl⟩ := h
        cases ri
        cases ro with
        | cell h0 =>
          obtain ⟨z1, ob, z2, z3⟩ := I.cell k _ _ h0 hS
          cases ob with
          | lst xs =>
            have z3' : RpL K [] F ds xs := z3
            have r1' : Rp K [] F d v := rv.back (n := 0) (fun k a hk => absurd hk (by omega)) hcl
            have g3 := I.put (c' := .lst (ds.set j d)) (o := .lst (xs.set j v)) h0 hS rfl rfl (RpL.set r1' j z3')
            exact ⟨_, xs, n, j, rfl, rfl, z2, by rw [← z3'.length]; exact hj, q _ g3⟩
          | _ => exact z3.elim
      · cases h
    · cases h
  · cases h
def sSetIx (eo ei ee : Env → M) : Env → MS := fun ρ S k => ee ρ S (fun d S1 => eo ρ S1 (fun o S2 => ei ρ S2 (fun i S3 => onS (setIxD o i d S3) fun S' => k.nx ρ S') fun e S' => k.ex e ρ S') fun e S' => k.ex e ρ S') fun e S' => k.ex e ρ S'
theorem gs_setIx {i : Expr} {tpos : Pos} (he : GE X W e ee) (ho : GE X W o eo) (hi : GE X W i ei) (hs : swapsWithSole [.Subscript o i tpos] e pos.line X.env = pure false := by rfl) (hw : swappedStores [.Subscript o i tpos] e X.env = pure none := by rfl) (h1 : (assignEach [.Subscript o i tpos] X.env).map (·.2) = [assign (.Subscript o i tpos) X.env] := by rfl)
    (ha : ∀ (v : Value), assign (.Subscript o i tpos) X.env v = (do
      let ov ← holding [v] (eval o X.env)
      let iv ← holding [v, ov] (eval i X.env)
      standAt tpos
      holding [v, ov, iv] (setItem ov iv v)
      release [v, ov, iv] []) := by intro _; rfl) : GS X W (.Assign [.Subscript o i tpos] e pos) (sSetIx eo ei ee) := by
  obtain ⟨t, p, m⟩ := he
  obtain ⟨to, po, mo⟩ := ho
  obtain ⟨ti, pi, mi⟩ := hi
  refine ⟨_, ps_asg p (pg_sub po pi set_list ha) hs hw h1, fun as F H S ρ σ I R k h E q => ?_⟩
  refine m as F H S ρ σ I R _ _ h _ (fun d S1 bs F1 H1 v1 h1 g1 r1 => ?_) (q.xq R)
  refine mo bs F1 H1 S1 ρ σ g1.sit (R.grow g1) _ _ h1 _ (fun o S2 cs F2 H2 v2 h2 g2 r2 => ?_) ((q.step g1).xq (R.grow g1))
  have g12 := g1.trans g2
  refine mi cs F2 H2 S2 ρ σ g2.sit (R.grow g12) _ _ h2 _ (fun i S3 ls F3 H3 v3 h3 g3 r3 => ?_) ((q.step g12).xq (R.grow g12))
  obtain ⟨S4, h4, h5⟩ := onS_ok h3
  refine setIx_ok g3.sit (RpE_aux g3 r2) r3 (RpE_aux g3 (RpE_aux g2 r1)) h4 fun H' g4 => ?_
  have g := (g12.trans g3).trans g4
  exact q.nx ρ S4 ls F3 H' σ h5 g (R.grow g)
/-- o[i], x = e, e a pair -/
def sPairSet (j : Nat) (eo ei ee : Env → M) : Env → MS := fun ρ S k => ee ρ S (fun d S1 => onTu d fun ds => on2 ds fun d1 d2 => eo ρ S1 (fun o S2 => ei ρ S2 (fun i S3 => onS (setIxD o i d1 S3) fun S' => k.nx (ρ.set j (some d2)) S') fun e S' => k.ex e ρ S') fun e S' => k.ex e ρ S') fun e S' => k.ex e ρ S'
theorem gs_pairSet (j : Nat) {i : Expr} {x : Str} {tpos px pt : Pos} {kt : Nat} (hc : X.calm = true) (hN : X.N.Nodup) (he : GE X W e ee) (ho : GE X W o eo) (hi : GE X W i ei) (hj : X.N[j]? = some x := by rfl) (hx : Loc X.env.scope x := by first | exact Or.inl rfl | exact Or.inr rfl) (hf : X.fn x = true ∨ X.env.scope.names.lookup x = some .local := by first | exact .inl rfl | exact .inr rfl | assumption)
    (hs : swapsWithSole [.Tuple [.Subscript o i tpos, .Name x px] kt pt] e pos.line X.env = pure false := by rfl) (hw : swappedStores [.Tuple [.Subscript o i tpos, .Name x px] kt pt] e X.env = pure none := by rfl)
    (h1 : (assignEach [.Tuple [.Subscript o i tpos, .Name x px] kt pt] X.env).map (·.2) = [assign (.Tuple [.Subscript o i tpos, .Name x px] kt pt) X.env] := by rfl)
    (ha : ∀ (v : Value), assign (.Subscript o i tpos) X.env v = (do
      let ov ← holding [v] (eval o X.env)
      let iv ← holding [v, ov] (eval i X.env)
      standAt tpos
      holding [v, ov, iv] (setItem ov iv v)
      release [v, ov, iv] []) := by intro _; rfl)
    (e1 : (assignEach [.Subscript o i tpos, .Name x px] X.env).map (·.2) = assign (.Subscript o i tpos) X.env :: (assignEach [.Name x px] X.env).map (·.2) := by rfl)
    (e2 : (assignEach [.Name x px] X.env).map (·.2) = assign (.Name x px) X.env :: (assignEach [] X.env).map (·.2) := by rfl)
    (e3 : (assignEach [.Subscript o i tpos, .Name x px] X.env).length = 2 := by rfl) (e4 : (assignEach [.Subscript o i tpos, .Name x px] X.env).findIdx? (·.1) = none := by rfl) :
    GS X W (.Assign [.Tuple [.Subscript o i tpos, .Name x px] kt pt] e pos) (sPairSet j eo ei ee) := by
  obtain ⟨t, p, m⟩ := he
  obtain ⟨to, po, mo⟩ := ho
  obtain ⟨ti, pi, mi⟩ := hi
  refine ⟨_, ps_asg p (pg_tup hc (pgs_cons (pg_sub po pi set_list ha) (pgs_cons (pg_name (i := j) hN hj hx hf) pgs_nil e2) e1) e3 e4) hs hw h1, fun as F H S ρ σ I R k h E q => ?_⟩
  refine m as F H S ρ σ I R _ _ h _ (fun d S1 bs F1 H1 v1 h1 g1 r1 => ?_) (q.xq R)
  obtain ⟨ds, rfl, h1⟩ := onTu_ok h1
  obtain ⟨d1, d2, rfl, h1⟩ := on2_ok h1
  · cases r1 with
    | tup hq rl =>
      obtain ⟨u1, ws, rfl, ru1, rn⟩ := rl.unsn
      obtain ⟨u2, zs, rfl, ru2, rn⟩ := rn.unsn
      obtain rfl := rn.unnil
      refine ⟨_, _, rfl, g1.sit.ex.sqT hq, rfl, u1, [u2], rfl, ?_⟩
      refine mo bs F1 H1 S1 ρ σ g1.sit (R.grow g1) _ _ h1 _ (fun o S2 cs F2 H2 v2 h2 g2 r2 => ?_) ((q.step g1).xq (R.grow g1))
      have g12 := g1.trans g2
      refine mi cs F2 H2 S2 ρ σ g2.sit (R.grow g12) _ _ h2 _ (fun i S3 ls F3 H3 v3 h3 g3 r3 => ?_) ((q.step g12).xq (R.grow g12))
      obtain ⟨S4, h4, h5⟩ := onS_ok h3
      refine setIx_ok g3.sit (RpE_aux g3 r2) r3 (RpE_aux g3 (RpE_aux g2 ru1)) h4 fun H' g4 => ?_
      have g := (g12.trans g3).trans g4
      exact ⟨u2, [], rfl, rfl, q.nx _ S4 ls F3 H' _ h5 g ((R.grow g).set (RpE_aux g3 (RpE_aux g2 ru2)))⟩
/-! ### a chain of two comparisons -/
theorem gt_chain {op op' : CmpOp} {r r' : R2} {f g : WS → D → D → Option D} (ho : OpR X (compareOp op) r) (ho' : OpR X (compareOp op') r') (hr : RO X.K r f) (hr' : RO X.K r' g) (ha : GE X W a ea) (hb : GE X W b eb) (hc : GE X W c ec) (hm : lastMarks [op, op'] [b, c] = false := by with_unfolding_all rfl) :
    GT X W (.Compare a [op, op'] [b, c] pos) (bChain f g ea eb ec) := by
  obtain ⟨ta, pa, ma⟩ := ha
  obtain ⟨tb, pb, mb⟩ := hb
  obtain ⟨tc, pc, mc⟩ := hc
  refine ⟨_, pt_chain ho ho' pa pb pc hm, fun as F H S ρ σ I R q x h Q hq hx => ?_⟩
  refine ma as F H S ρ σ I R _ x h _ (fun u S1 bs F1 H1 v1 h1 g1 r1 => ?_) hx
  refine mb bs F1 H1 S1 ρ σ g1.sit (R.grow g1) _ x h1 _ (fun w S2 cs F2 H2 v2 h2 g2 r2 => ?_) (hx.step g1)
  obtain ⟨d, hf, h3⟩ := onS_ok h2
  have g12 := g1.trans g2
  refine hr cs F2 H2 S2 u w d v1 v2 g2.sit (RpE_aux g2 r1) r2 hf _ fun F3 H3 v3 g3 r3 => ?_
  have g13 := g12.trans g3
  cases r3 with
  | bl c =>
    refine ⟨c, rfl, ?_⟩
    cases c with
    | true =>
      refine mc cs F3 H3 S2 ρ σ g3.sit (R.grow g13) _ x h3 _ (fun y S4 ls F4 H4 v4 h4 g4 r4 => ?_) (hx.step g13)
      obtain ⟨d', hg, h5⟩ := onS_ok h4
      refine hr' ls F4 H4 S4 w y d' v2 v4 g4.sit (RpE_aux g4 (RpE_aux g3 r2)) r4 hg _ fun F5 H5 v5 g5 r5 => ?_
      cases r5 with
      | bl c' => exact ⟨c', rfl, hq _ S4 ls F5 H5 h5 ((g13.trans g4).trans g5)⟩
      | _ => exact h5.elim
    | false => exact ⟨false, rfl, hq false S2 cs F3 H3 h3 g13⟩
  | _ => exact h3.elim
end
section
variable {K : PySem.W.Frag}
/-! ### built-ins on numbers -/
def absD : WS → List D → Option D := fun _ xs => match xs with
  | [.int i] => some (.int (if i < 0 then -i else i))
  | _ => none
theorem rc_abs : RC K (fun xs H Q => ∃ i, xs = [.int i] ∧ Q (.int (if i < 0 then -i else i)) H) absD := fun as F H S ds d vs I r h Q q => by
  unfold absD at h
  split at h
  · cases h
    obtain ⟨v, ws, rfl, rv, rn⟩ := r.unsn
    obtain rfl := rn.unnil
    cases rv
    exact ⟨_, rfl, keep I q (.int _)⟩
  · cases h
def intOfD : WS → List D → Option D := fun _ xs => match xs with
  | [.int i] => some (.int i)
  | _ => none
theorem rc_int1 : RC K (fun xs H Q => (∃ i, xs = [.int i] ∧ Q (.int i) H) ∨ ∃ k, xs = [.bl k] ∧ Q (.int (if k then 1 else 0)) H) intOfD := fun as F H S ds d vs I r h Q q => by
  unfold intOfD at h
  split at h
  · cases h
    obtain ⟨v, ws, rfl, rv, rn⟩ := r.unsn
    obtain rfl := rn.unnil
    cases rv
    exact .inl ⟨_, rfl, keep I q (.int _)⟩
  · cases h
def max2D : WS → List D → Option D := fun _ xs => match xs with
  | [.int i, .int j] => some (.int (if j > i then j else i))
  | _ => none
def min2D : WS → List D → Option D := fun _ xs => match xs with
  | [.int i, .int j] => some (.int (if j < i then j else i))
  | _ => none
theorem rc_max2 : RC K (fun xs H Q => ∃ i j, xs = [.int i, .int j] ∧ Q (.int (if j > i then j else i)) H) max2D := fun as F H S ds d vs I r h Q q => by
  unfold max2D at h
  split at h
  · cases h
    obtain ⟨v, ws, rfl, rv, rn⟩ := r.unsn
    obtain ⟨v2, ws, rfl, rv2, rn⟩ := rn.unsn
    obtain rfl := rn.unnil
    cases rv
    cases rv2
    exact ⟨_, _, rfl, keep I q (.int _)⟩
  · cases h
theorem rc_min2 : RC K (fun xs H Q => ∃ i j, xs = [.int i, .int j] ∧ Q (.int (if j < i then j else i)) H) min2D := fun as F H S ds d vs I r h Q q => by
  unfold min2D at h
  split at h
  · cases h
    obtain ⟨v, ws, rfl, rv, rn⟩ := r.unsn
    obtain ⟨v2, ws, rfl, rv2, rn⟩ := rn.unsn
    obtain rfl := rn.unnil
    cases rv
    cases rv2
    exact ⟨_, _, rfl, keep I q (.int _)⟩
  · cases h
def dmOk (j : Int) : Bool := decide (0 < j ∧ j.natAbs < 2 ^ 1000)
theorem dmOk_c {i j : Int} (h : dmOk j = true) : CDivP i j := by
  unfold dmOk at h
  simp only [decide_eq_true_eq] at h
  refine ⟨h.1, PyProof.noPylong_of_log2 ?_⟩
  have h2 : j.natAbs ≠ 0 := by omega
  have h3 : j.natAbs.log2 < 1000 := (Nat.log2_lt h2).mpr h.2
  omega
def divmodD : WS → List D → Option D := fun _ xs => match xs with
  | [.int i, .int j] => if dmOk j = true then some (.tup [.int (i / j), .int (i % j)]) else none
  | _ => none
theorem rc_divmod : RC K (fun xs H Q => ∃ i j, xs = [.int i, .int j] ∧ CDivP i j ∧ ∀ p, H p = none → Q (.ref p) (upd H p (.tup [.int (i / j), .int (i % j)]))) divmodD := fun as F H S ds d vs I r h Q q => by
  unfold divmodD at h
  split at h
  · split at h
    · rename_i hh
      cases h
      obtain ⟨v, ws, rfl, rv, rn⟩ := r.unsn
      obtain ⟨v2, ws, rfl, rv2, rn⟩ := rn.unsn
      obtain rfl := rn.unnil
      cases rv
      cases rv2
      exact ⟨_, _, rfl, dmOk_c hh, fun p hp => q _ _ _ (I.grow hp) (.tup (SqT.of upd_same) (.cons (.int _) (.cons (.int _) .nil)))⟩
    · cases h
  · cases h
end
end RV
end
section
/-! The law's own end. -/
namespace RV
open PySem L2
variable {nn : Bool}
/-- the law's def, called with the script -/
theorem script_run {P : Program} {w : World} {K : PySem.W.Frag} {mg mb : Str → Option Value} {k : Nat} {fa a : Addr} {fd : FuncData} {x : Str} {sp : Sp} {s1 : Shared} {vs : List Value} {ns : List Int}
    (KX : K.In s1.heap) (hns : s1.heap.Ns mainGlobals mg) (hb : s1.heap.Ns builtinsNs mb) (hbb : ∀ x : Str, x ≠ "__name__" → mb x = bootBuiltins x) (hlim : s1.heap.NoLimit) (hg : s1.gens = #[])
    (ha : s1.heap.get? a = some { cls := .type "list", data := .seq vs.toArray }) (hi : PyProof.Rows.IntsAre vs ns) (hl : ns.length ≤ sizeLine) (hr : Room k callerA)
    (F : ∀ base : Heap, K.In base → base.Ns mainGlobals mg → FnX ⟨true, nn, false⟩ P w K mg base k fa fd [x] sp) (hbind : ∀ (s : Shared) (u : Value), BindsTo s fd ⟨[u], []⟩ [(x, u)])
    (hsp : ∀ H : Hp, SqL K H a (ns.map V.int) → sp [.ref a] H (fun v _ => v = .bl true) fun _ _ _ => False) :
    codeAny (model P w) callerA (.call (.ref fa) ⟨[.ref a], []⟩) (fun r s' => r = .ok (.ret (.bool true)) ∧ OldK s1.heap s'.heap ∧ s'.os = s1.os ∧ PyProof.Rows.AllBare s'.gens) s1 := by
  have rv := vals_ints hi
  -- H tracks the script alone (or nothing), the script locked
  have core : ∀ H : Hp, (∀ c, H c = none ∨ ∃ o xs, H c = some (.frz o (.lst xs))) → SqL K H a (ns.map V.int) → HOk P w H s1.heap → (∀ c, H c ≠ none → c = a) → (H a ≠ none → K.lookup a = none) →
      codeAny (model P w) callerA (.call (.ref fa) ⟨[.ref a], []⟩) (fun r s' => r = .ok (.ret (.bool true)) ∧ OldK s1.heap s'.heap ∧ s'.os = s1.os ∧ PyProof.Rows.AllBare s'.gens) s1 := by
    intro H only hS hok alone hK
    have dictOut : ∀ {c : Addr} {o : Obj} {es : Array DictEntry} {ep : Nat}, s1.heap.get? c = some o → o.data = .dict es ep → H c = none := by
      intro c o es ep e d
      cases q : H c with
      | none => rfl
      | some u =>
        have e' : c = a := alone c (by rw [q]; simp)
        subst e'
        rw [ha] at e
        cases e
        exact absurd d (by intro z; cases z)
    have ns' : ∀ {c : Addr} {m : Str → Option Value}, s1.heap.Ns c m → (hidT s1.heap H).Ns c m := fun {c m} ⟨o, es, ep, e, d, r⟩ => ⟨o, es, ep, hidT_get e (dictOut e d), d, r⟩
    have KB : K.In (hidT s1.heap H) := by
      intro c o e
      refine hidT_get (KX c o e) ?_
      cases q : H c with
      | none => rfl
      | some u =>
        have e' : c = a := alone c (by rw [q]; simp)
        subst e'
        rw [hK (by rw [q]; simp)] at e
        cases e
    have md : Mod K mg (hidT s1.heap H) := by
      obtain ⟨mc, l1, l2⟩ := hlim
      exact ⟨KB, ns' hns, ⟨mb, ns' hb, hbb⟩, ⟨mc, ns' l1, l2⟩⟩
    have e0 : Env0 P w K mg (hidT s1.heap H) callerA [] s1 H := by
      refine ⟨rfl, md, fun c o e => of_hidT e, Nat.le_of_eq (hidT_size _ _), trivial, fun c hc => ?_, hok, .of_eq hg⟩
      exact absurd hc (by simp [frs])
    refine codeAny_mono ((F _ KB (ns' hns)).run callerA [] s1 H ⟨[.ref a], []⟩ [.ref a] [.ref a] _ _ (fun _ => rfl) hr e0 (hbind s1 (.ref a)) (.cons rfl .nil) (hsp H hS)) fun r s' h => ?_
    cases r with
    | error e =>
      exact (cxm_no h).elim
    | ok fl =>
      cases fl with
      | next => exact h.elim
      | brk => exact h.elim
      | cont => exact h.elim
      | ret u =>
        obtain ⟨v, H', os, bare, un, hok', r', q⟩ := h
        have q' : v = .bl true := q
        subst q'
        obtain rfl : u = Value.bool true := r'
        refine ⟨rfl, OldK.of_keep fun c o e => ?_, os, bare⟩
        rcases only c with z | ⟨ob, xs, z⟩
        · exact un.keep c o e z (by simp [frs]) (by simp)
        · obtain ⟨e1, _⟩ := hok c _ z
          obtain ⟨e2, _⟩ := hok' c _ (un.frzs c ob _ z)
          rw [e] at e1
          cases e1
          exact e2
  cases hk : K.lookup a with
  | some o =>
    have e := KX a o hk
    rw [ha] at e
    cases e
    refine core (fun _ => none) (fun _ => .inl rfl) ?_ (fun c u z => by cases z) (fun c z => absurd rfl z) fun z => absurd rfl z
    refine .inr ⟨_, vs.toArray, _, hk, rfl, rfl, rfl, ?_, by simpa using rv⟩
    rw [List.size_toArray, hi.length]
    exact hl
  | none =>
    let lock : HO := .frz { cls := .type "list", data := .seq vs.toArray } (.lst (ns.map V.int))
    have at1 : (fun c => if c = a then some lock else none : Hp) a = some lock := if_pos rfl
    refine core (fun c => if c = a then some lock else none) (fun c => ?_) (.inl (.inr ⟨_, at1⟩)) (fun c u z => ?_) (fun c z => ?_) fun _ => hk
    · by_cases hc : c = a
      · exact .inr ⟨_, _, if_pos hc⟩
      · exact .inl (if_neg hc)
    · by_cases hc : c = a
      · have z' : some lock = some u := (if_pos hc).symm.trans z
        cases z'
        subst hc
        exact ⟨ha, by rw [List.length_map]; exact hl, vs, _, rv, ha⟩
      · have z' : none = some u := (if_neg hc).symm.trans z
        cases z'
    · by_cases hc : c = a
      · exact hc
      · exact absurd (if_neg hc) z
/-- F gives the written part, the function object, what the law computes, over every base -/
theorem walk_G {l : PySem.W.OpenLaw} {n k : Nat} {q : Program} {loose : List Str} {XP : (Str → Option Value) → Heap → Prop} {YP : World → Heap → Prop} {d : DefRec} {x : Str}
    (hn : l.most = some n) (hn2 : n ≤ sizeLine) (hdf : d.params.defaults = []) (hr : Room k callerA)
    (F : ∀ (w : World) (mg : Str → Option Value) (fa : Addr) (h : Heap), YP w h → h.Ns mainGlobals mg → mg d.name = some (.ref fa) →
      ∃ (K : PySem.W.Frag) (fd : FuncData) (G : List D → M), K.In h ∧ (∀ (s : Shared) (u : Value), BindsTo s fd ⟨[u], []⟩ [(x, u)]) ∧
        (∀ (ns : List Int) (q : D → WS → Prop) (x : Xq), ns.length ≤ n → q (.bl true) [] → G [.scr ns] [] q x) ∧
        ∀ base : Heap, K.In base → base.Ns mainGlobals mg → FnX ⟨true, nn, false⟩ l.prog w K mg base k fa fd [x] (spG K 1 G)) :
    PySem.W.WalkO q loose XP YP l.row.toRowW d [] (fun f vs => PySem.call f vs) := by
  refine Att.attach_call hn hdf fun w s0 s1 mg mb fa o pm cd doc a vs ns Gr Y ho hd hcd hmg hobj hints hlen hg => ?_
  obtain ⟨K, fd, G, KX, hb, hG, hF⟩ := F w mg fa _ Y Gr.T.g hmg
  refine script_run KX Gr.T.g Gr.T.b Gr.T.builtins Gr.T.nolimit hg hobj hints (Nat.le_trans hlen hn2) hr hF hb fun H hS => ?_
  refine ⟨[], H, [], [.scr ns], fun d _ => d = .bl true, noX, ⟨rfl, Ex.refl _, List.nodup_nil, fun i p c h => by simp at h⟩, .cons (.scr hS) .nil, rfl, hG ns _ _ hlen rfl, fun d S' bs F' H' v e _ r => ?_, XQ.no⟩
  have e : d = .bl true := e
  subst e
  cases r
  rfl
end RV
end
section
/-! What a caller wants of a def, a class, a property; operations for all kinds at once. -/
namespace RV
open PySem L2
variable {nn : Bool}
section
variable (P : Program) (w : World) (K : PySem.W.Frag) (mg : Str → Option Value) (base : Heap)
/-- the module's name x is a def that computes G -/
def Fc (gd : Md) (x : Str) (k n : Nat) (G : List D → M) : Prop := ∃ (f : Addr) (fd : FuncData) (ps : List Str), FnX gd P w K mg base k f fd ps (spG K n G) ∧ Binds K fd ps [] ∧ PySem.W.keepIn K (.ref f) = true ∧ mg x = some (.ref f)
/-- the module's name x is the class at C; its __init__ computes G; dvs: the defaults that fill up -/
def Mc (nn : Bool) (x : Str) (C : Addr) (k n : Nat) (G : List D → M) (dvs : List D) : Prop := ∃ (f : Addr) (fd : FuncData) (ps : List Str) (dv : List V) (ds : List Value), Mk K C f ∧ FnX ⟨false, nn, false⟩ P w K mg base k f fd ps (spG K n G) ∧ Binds K fd ps ds ∧ Vals dv ds ∧ (∀ as F, RpL K as F dvs dv) ∧ mg x = some (.ref C)
/-- .. called with m1 values and keywords ks -/
def Mk_ (nn : Bool) (x : Str) (C : Addr) (k n m1 : Nat) (ks : List Str) (G : List D → M) (gD : List D → List D → List D) : Prop := ∃ (f : Addr) (fd : FuncData) (ps : List Str) (g : List Value → List Value → List Value) (gV : List V → List V → List V), Mk K C f ∧ FnX ⟨false, nn, false⟩ P w K mg base k f fd ps (spG K n G) ∧ KBn K fd ps (m1 + 1) ks g gV ∧
  (∀ as F (ds zs : List D) (vs ws : List V) (s : V), RpL K as F ds vs → RpL K as F zs ws → ds.length = m1 → zs.length = ks.length → ∃ us, gV (s :: vs) ws = s :: us ∧ RpL K as F (gD ds zs) us) ∧ mg x = some (.ref C)
/-- f is a property of the class at C that computes G -/
def Pc (nn : Bool) (C : Addr) (f : Str) (k : Nat) (G : List D → M) : Prop := ∃ (pr g : Addr) (fd : FuncData) (ps : List Str), Cls K C ∧ PropOf K C f pr g ∧ FnX ⟨false, nn, false⟩ P w K mg base k g fd ps (spG K 1 G) ∧ Binds K fd ps []
/-- the class at C has an own == that computes G -/
def Ec (nn : Bool) (C : Addr) (k : Nat) (G : List D → M) : Prop := ∃ (f : Addr) (fd : FuncData) (ps : List Str), FnX ⟨false, nn, false⟩ P w K mg base k f fd ps (spG K 2 G) ∧ Binds K fd ps [] ∧ PySem.W.findIn K (.ref C) "__eq__" = some (some (.ref f)) ∧ PySem.W.isFn K (.ref f) = true ∧ PySem.W.findIn K (.ref C) "__ne__" = some (some (.builtin "object.__ne__")) ∧ PySem.W.mroIn K C (.type "object") = some true
end
section
variable {X : Cx} {W : WX} {e o a b : Expr} {es : List Expr} {pos p : Pos} {er ek : Env → ML} {ea eb : Env → M} {x f : Str} {k j n : Nat} {G : List D → M} {C : Addr} {dvs : List D} {l : Lk} {gd : Md}
theorem ge_callF {g h : Bool} (tk : Tk nn X W) (c : Fc X.prog X.w X.K X.mg X.base ⟨g, nn, h⟩ x k n G) (hgd : g = true → X.A.guards = some []) (hr : Rx h j X) (ha : GA X W (e :: es) er) (hj : k ≤ j := by decide) (hg : Gl X x := by rfl) (hdb : (x == ("__debug__" : Str)) = false := by decide) (h1 : starEach (e :: es) X.env = (false, eval e X.env) :: starEach es X.env := by rfl) (h2 : (backTo pos (starEach es X.env)).any (·.1) = false := by rfl) :
    GE X W (.Call (.Name x p) (e :: es) [] pos) (eFn n G [] er) := by
  obtain ⟨f, fd, ps, F, hb, hk, hm⟩ := c
  exact ge_call (dv := []) tk F hgd hr hj hm hk hb .nil (fun _ _ => .nil) ha hg hdb h1 h2
theorem ge_makeF (tk : Tk nn X W) (c : Mc X.prog X.w X.K X.mg X.base nn x C k n G dvs) (hr : Room j X.A) (ha : GA X W (e :: es) er) (hj : k + 1 ≤ j := by decide) (hg : Gl X x := by rfl) (hdb : (x == ("__debug__" : Str)) = false := by decide) (h1 : starEach (e :: es) X.env = (false, eval e X.env) :: starEach es X.env := by rfl) (h2 : (backTo pos (starEach es X.env)).any (·.1) = false := by rfl) :
    GE X W (.Call (.Name x p) (e :: es) [] pos) (eMake l C n G dvs er) := by
  obtain ⟨f, fd, ps, dv, ds, M, F, hb, hd, hdv, hm⟩ := c
  exact ge_make tk M F hr hj hm hb hd hdv ha hg hdb h1 h2
theorem ge_makeKF0 {ks : List Str} {gD : List D → List D → List D} {kws : List Keyword} (tk : Tk nn X W) (c : Mk_ X.prog X.w X.K X.mg X.base nn x C k n 0 ks G gD) (hr : Room j X.A) (hk : GK X W kws ek) (hj : k + 1 ≤ j := by decide) (hg : Gl X x := by rfl)
    (hall : (backToKw pos (keywordEach kws X.env)).all (·.1.isSome) = true := by rfl) (hks : (backToKw pos (keywordEach kws X.env)).filterMap (·.1) = ks := by rfl) (hdb : (x == ("__debug__" : Str)) = false := by decide)
    (hpl : ((backTo pos (starEach [] X.env)).any (·.1) || (backToKw pos (keywordEach kws X.env)).any (·.1.isNone)) = false := by rfl) :
    GE X W (.Call (.Name x p) [] kws pos) (eMakeK l C n 0 ks.length G gD aNil ek) := by
  obtain ⟨f, fd, ps, g, gV, M, F, hb, hgD, hm⟩ := c
  exact ge_makeK0 tk M F hr hj hm hb hgD hk hg hall hks hdb hpl
theorem ge_propF (c : Pc X.prog X.w X.K X.mg X.base nn C f k G) (hr : Room j X.A) (ha : GE X W e ea) (hj : k + 1 ≤ j := by decide) (hab : attributeBase e f X.env (eval e X.env) = eval e X.env := by rfl) : GE X W (.Attribute e f pos) (eProp C G ea) := by
  obtain ⟨pr, g, fd, ps, cl, hp, F, hb⟩ := c
  exact ge_prop cl hp F hr hj hb ha hab
theorem op_eqF (c : Ec X.prog X.w X.K X.mg X.base nn C k G) (hr : Room j X.A) (hj : k ≤ j := by decide) : OpR X (compareOp .Eq) (rEqOwn X.K C (spG X.K 2 G) false) := by
  obtain ⟨f, fd, ps, F, hb, hs, hf, _, _⟩ := c
  exact op_eqOwn F hr hj hs hf hb
theorem op_neF (c : Ec X.prog X.w X.K X.mg X.base nn C k G) (hr : Room j X.A) (hj : k + 1 ≤ j := by decide) : OpR X (compareOp .NotEq) (rEqOwn X.K C (spG X.K 2 G) true) := by
  obtain ⟨f, fd, ps, F, hb, hs, hf, hne, hm⟩ := c
  exact op_neOwn F hr hj hs hf hb hne hm
end
/-! ### all kinds at once -/
section
variable {K : PySem.W.Frag} {X : Cx}
theorem RO.eq {r : R2} {f g : WS → D → D → Option D} (h : RO K r f) (e : ∀ S x y d, g S x y = some d → f S x y = some d) : RO K r g := fun as F H S x y d vx vy I rx ry hd => h as F H S x y d vx vy I rx ry (e S x y d hd)
def addD : WS → D → D → Option D := fun _ x y => match x, y with
  | .int i, .int j => some (.int (i + j))
  | .str a, .str b => if small (a.length + b.length) = true then some (.str (a ++ b)) else none
  | .lst a, .lst b => if small (a.length + b.length) = true then some (.lst (a ++ b)) else none
  | _, _ => none
def rAddS_ : R2 := fun x y H Q => ∃ i j, x = .str i ∧ y = .str j ∧ i.length + j.length ≤ sizeLine ∧ Q (.str (i ++ j)) H
def rAddA : R2 := fun x y H Q => (rI0 fun i j => .int (i + j)) x y H Q ∨ (rAddS_ x y H Q ∨ rCat x y H Q)
theorem op_addA : OpR X (binaryOp .Add) rAddA := OpR.or op_add (OpR.or op_add_str op_cat)
theorem ro_addA : RO K rAddA addD := RO.eq (RO.or (ro_int (f := fun i j => i + j)) (RO.or (r := rAddS_) ro_catS ro_catL)) fun S x y d h => by
  unfold addD at h
  split at h
  · simpa [intD] using h
  · simp only [intD, catS, Option.orElse] at h ⊢
    rw [h]
  · simpa [intD, catS, catL] using h
  · cases h
def mulD : WS → D → D → Option D := intCD mulOk fun i j => i * j
def powD : WS → D → D → Option D := intCD powOk fun i j => i ^ j.toNat
def modD : WS → D → D → Option D := intCD posR fun i j => i % j
def fdivD : WS → D → D → Option D := intCD divOk fun i j => i / j
def subD : WS → D → D → Option D := intD fun i j => i - j
theorem ro_mul : RO K (rI CMul fun i j => .int (i * j)) mulD := ro_intC fun _ _ h => mulOk_c h
theorem ro_pow : RO K (rI CPow fun i j => .int (i ^ j.toNat)) powD := ro_intC fun _ _ h => powOk_c h
theorem ro_mod : RO K (rI (fun _ j => 0 < j) fun i j => .int (i % j)) modD := ro_intC fun _ _ h => of_decide_eq_true h
theorem ro_fdiv : RO K (rI CDiv fun i j => .int (i / j)) fdivD := ro_intC fun i j h => by
  have h2 : 0 < j ∧ j < 1073741824 := of_decide_eq_true h
  exact h2
theorem ro_sub : RO K (rI0 fun i j => .int (i - j)) subD := ro_int
def ltD : WS → D → D → Option D := cmpD fun i j => decide (i < j)
def leD : WS → D → D → Option D := cmpD fun i j => decide (i ≤ j)
def gtD : WS → D → D → Option D := cmpD fun i j => decide (j < i)
def geD : WS → D → D → Option D := cmpD fun i j => decide (j ≤ i)
theorem ro_lt : RO K (rI0 fun i j => .bl (decide (i < j))) ltD := ro_cmp
theorem ro_le : RO K (rI0 fun i j => .bl (decide (i ≤ j))) leD := ro_cmp
theorem ro_gt : RO K (rI0 fun i j => .bl (decide (j < i))) gtD := ro_cmp
theorem ro_ge : RO K (rI0 fun i j => .bl (decide (j ≤ i))) geD := ro_cmp
def negD : WS → D → Option D := fun _ x => match x with
  | .int i => some (.int (-i))
  | _ => none
theorem ru_neg : RU K (rU fun i => .int (-i)) negD := fun as F H S x d vx I rx h Q q => by
  unfold negD at h
  split at h
  · cases h
    cases rx
    exact ⟨_, rfl, keep I q (.int _)⟩
  · cases h
/-- plain data; a cell that is a list counts as the list that it is now -/
def pyS (S : WS) : D → Option PyData
  | .cell k => match S[k]? with
    | some (.lst ds) => (D.pyL ds).map PyData.list
    | _ => none
  | d => D.py d
theorem pyS_dp {as : List Addr} {F H : Hp} {S : WS} {d : D} {v : V} {p : PyData} (I : Sit K as F H S) (r : Rp K as F d v) (h : pyS S d = some p) : Dp K H v p := by
  cases r with
  | cell ha =>
    rename_i k a
    unfold pyS at h
    split at h
    · rename_i k' e
      cases e
      split at h
      · rename_i ds hS
        simp only [Option.map_eq_some_iff] at h
        obtain ⟨ps, h2, rfl⟩ := h
        obtain ⟨_, o, z2, z3⟩ := I.cell _ _ _ ha hS
        cases o with
        | lst xs => exact .lst (SqL.of z2) (RpL.dp I.ex z3 h2)
        | _ => exact z3.elim
      · cases h
    · rename_i hne
      exact absurd rfl (hne _)
  | non => exact Rp.dp (as := as) I.ex .non h
  | bl b => exact Rp.dp (as := as) I.ex (.bl b) h
  | int i => exact Rp.dp (as := as) I.ex (.int i) h
  | str x => exact Rp.dp (as := as) I.ex (.str x) h
  | ty n => exact Rp.dp (as := as) I.ex (.ty n) h
  | adr a => exact Rp.dp (as := as) I.ex (.adr a) h
  | scr z => exact Rp.dp (as := as) I.ex (.scr z) h
  | tup z1 z2 => exact Rp.dp I.ex (.tup z1 z2) h
  | lst z1 z2 => exact Rp.dp I.ex (.lst z1 z2) h
  | obj z1 z2 => exact Rp.dp I.ex (.obj z1 z2) h
  | dic z1 z2 => exact Rp.dp I.ex (.dic z1 z2) h
  | ptu z1 z2 => exact Rp.dp I.ex (.ptu z1 z2) h
  | clo z1 z2 z3 => exact Rp.dp I.ex (.clo z1 z2 z3) h
  | exv z1 z2 => cases h
def eqPyS (S : WS) (x y : D) : Option Bool := (pyS S x).bind fun a => (pyS S y).bind fun b => if SeqAt.shaped a = true ∧ SeqAt.shaped b = true then some (PyData.eqv a b) else none
theorem ro_eqPyS : RO K (rEqD K) (fun S x y => (eqPyS S x y).map D.bl) := fun as F H S x y d vx vy I rx ry h Q q => by
  unfold eqPyS at h
  simp only [Option.map_eq_some_iff, Option.bind_eq_some_iff] at h
  obtain ⟨c, ⟨a, h1, b, h2, h3⟩, rfl⟩ := h
  split at h3
  · rename_i hs
    cases h3
    exact ⟨a, b, pyS_dp I rx h1, pyS_dp I ry h2, hs.1, hs.2, keep I q (.bl _)⟩
  · cases h3
theorem ro_nePyS : RO K (rNeD K) (fun S x y => (eqPyS S x y).map fun c => D.bl (!c)) := fun as F H S x y d vx vy I rx ry h Q q => by
  unfold eqPyS at h
  simp only [Option.map_eq_some_iff, Option.bind_eq_some_iff] at h
  obtain ⟨c, ⟨a, h1, b, h2, h3⟩, rfl⟩ := h
  split at h3
  · rename_i hs
    cases h3
    exact ⟨a, b, pyS_dp I rx h1, pyS_dp I ry h2, hs.1, hs.2, keep I q (.bl _)⟩
  · cases h3
/-! lists of different lengths -/
def lstOf (S : WS) : D → Option (List D)
  | .lst ds => some ds
  | .cell k => match S[k]? with
    | some (.lst ds) => some ds
    | _ => none
  | _ => none
def eqLen (S : WS) (x y : D) : Option Bool := (lstOf S x).bind fun a => (lstOf S y).bind fun b => if a.length = b.length then none else some false
def rLenE (K : PySem.W.Frag) (neg : Bool) : R2 := fun x y H Q => ∃ a b xs ys, x = .ref a ∧ y = .ref b ∧ SqL K H a xs ∧ SqL K H b ys ∧ xs.length ≠ ys.length ∧ Q (.bl neg) H
theorem plainL_is {h : Heap} {a : Addr} {its : Array Value} (p : PlainL h a its) : h.IsList a its := by
  obtain ⟨o, n, ho, hc, _, hd⟩ := p
  exact ⟨o, ho, hc, n, hd⟩
theorem op_eqLen (hu : X.A.units < cLine) : OpR X (compareOp .Eq) (rLenE X.K false) := fun pins s σ H x y v u Q I rx ry h => by
  obtain ⟨a, b, xs, ys, rfl, rfl, h1, h2, hn, q⟩ := h
  cases rx
  cases ry
  obtain ⟨is, r1, p1, _⟩ := I.list h1
  obtain ⟨js, r2, p2, _⟩ := I.list h2
  have e1 := r1.length
  have e2 := r2.length
  exact SeqAt.eq_list_lengthsAt (plainL_is p1) (plainL_is p2) (by simp only [List.size_toArray, bne_iff_ne]; omega) hu ⟨.bl _, H, I, rfl, q⟩
theorem op_neLen (hu : X.A.units < cLine) : OpR X (compareOp .NotEq) (rLenE X.K true) := fun pins s σ H x y v u Q I rx ry h => by
  obtain ⟨a, b, xs, ys, rfl, rfl, h1, h2, hn, q⟩ := h
  cases rx
  cases ry
  obtain ⟨is, r1, p1, _⟩ := I.list h1
  obtain ⟨js, r2, p2, _⟩ := I.list h2
  have e1 := r1.length
  have e2 := r2.length
  exact SeqAt.RcNeAt.lists_lengths (plainL_is p1) (plainL_is p2) (by simp only [List.size_toArray, bne_iff_ne]; omega) hu X.prog X.w X.xe _ ⟨.bl _, H, I, rfl, q⟩
theorem items_l0 {as : List Addr} {F H : Hp} {S : WS} {x : D} {v : V} {ds : List D} (I : Sit K as F H S) (r : Rp K as F x v) (h : lstOf S x = some ds) : ∃ a xs, v = .ref a ∧ SqL K H a xs ∧ RpL K as F ds xs := by
  cases r with
  | lst z1 z2 => cases h; exact ⟨_, _, rfl, SqL.of (I.ex _ _ z1), z2⟩
  | @cell k a hk =>
    simp only [lstOf] at h
    split at h
    · rename_i es e
      cases h
      obtain ⟨p, hp, c⟩ := I.at_ e
      rw [hk] at hp
      cases hp
      obtain ⟨o, ho, hc⟩ := c.at_
      cases o with
      | lst xs => exact ⟨a, xs, rfl, SqL.of ho, RpL.mono (Ex.refl _) (fun i a h => by simp at h) hc⟩
      | _ => exact hc.elim
    · cases h
  | _ => cases h
theorem ro_len {neg : Bool} : RO K (rLenE K neg) (fun S x y => (eqLen S x y).map fun c => D.bl (if neg then !c else c)) := fun as F H S x y d vx vy I rx ry h Q q => by
  simp only [eqLen, Option.map_eq_some_iff, Option.bind_eq_some_iff] at h
  obtain ⟨c, ⟨da, h1, db, h2, h3⟩, rfl⟩ := h
  split at h3
  · cases h3
  · rename_i hn
    cases h3
    obtain ⟨a, xs, rfl, s1, r1⟩ := items_l0 I rx h1
    obtain ⟨b, ys, rfl, s2, r2⟩ := items_l0 I ry h2
    refine ⟨a, b, xs, ys, rfl, rfl, s1, s2, by rw [← r1.length, ← r2.length]; exact hn, ?_⟩
    cases neg
    · exact keep I q (.bl _)
    · exact keep I q (.bl _)
/-- texts, numbers, bools; else plain data; else lists of different lengths -/
def eqAny (S : WS) (x y : D) : Option Bool := (eqScal x y).orElse fun _ => (eqPyS S x y).orElse fun _ => eqLen S x y
def eqD : WS → D → D → Option D := fun S x y => (eqAny S x y).map D.bl
def neD : WS → D → D → Option D := fun S x y => (eqAny S x y).map fun c => D.bl (!c)
def rEqA (K : PySem.W.Frag) : R2 := fun x y H Q => rEq x y H Q ∨ (rEqD K x y H Q ∨ rLenE K false x y H Q)
def rNeA (K : PySem.W.Frag) : R2 := fun x y H Q => rNe x y H Q ∨ (rNeD K x y H Q ∨ rLenE K true x y H Q)
theorem ro_eqA : RO K (rEqA K) eqD := RO.eq (RO.or ro_eqS (RO.or ro_eqPyS (ro_len (neg := false)))) fun S x y d h => by
  unfold eqD eqAny at h
  cases h1 : eqScal x y with
  | none =>
    cases h2 : eqPyS S x y with
    | none => simpa [h1, h2] using h
    | some c => simpa [h1, h2] using h
  | some c => simpa [h1] using h
theorem ro_neA : RO K (rNeA K) neD := RO.eq (RO.or ro_neS (RO.or ro_nePyS (ro_len (neg := true)))) fun S x y d h => by
  unfold neD eqAny at h
  cases h1 : eqScal x y with
  | none =>
    cases h2 : eqPyS S x y with
    | none => simpa [h1, h2] using h
    | some c => simpa [h1, h2] using h
  | some c => simpa [h1] using h
theorem op_eqA {j : Nat} (hr : Room j X.A) : OpR X (compareOp .Eq) (rEqA X.K) := OpR.or op_eq (OpR.or (op_eqD hr.units) (op_eqLen (by have := hr.units; omega)))
theorem op_neA {j : Nat} (hr : Room j X.A) : OpR X (compareOp .NotEq) (rNeA X.K) := OpR.or op_ne (OpR.or (op_neD hr.units) (op_neLen (by have := hr.units; omega)))
theorem RSl.or {r r' : V → Option Int → Option Int → Hp → VK → Prop} {f g : WS → D → Option Int → Option Int → Option D} (h : RSl K r f) (h' : RSl K r' g) : RSl K (fun x lo hi H Q => r x lo hi H Q ∨ r' x lo hi H Q) (fun S x lo hi => (f S x lo hi).orElse fun _ => g S x lo hi) := fun as F H S x d vx lo hi I rx e Q q => by
  replace e : ((f S x lo hi).orElse fun _ => g S x lo hi) = some d := e
  cases h1 : f S x lo hi with
  | some z =>
    rw [h1] at e
    have e' : z = d := by simpa using e
    subst e'
    exact .inl (h as F H S x z vx lo hi I rx h1 Q q)
  | none =>
    rw [h1] at e
    exact .inr (h' as F H S x d vx lo hi I rx (by simpa using e) Q q)
def slD : WS → D → Option Int → Option Int → Option D := fun _ x lo hi => match x with
  | .str z => if small z.length = true then some (.str (cutS z lo hi)) else none
  | .lst ds => some (.lst (cutD ds lo hi))
  | _ => none
def rSlA (K : PySem.W.Frag) : V → Option Int → Option Int → Hp → VK → Prop := fun x lo hi H Q => rSlS x lo hi H Q ∨ rSlL K x lo hi H Q
theorem sl_A : SlR X (rSlA X.K) := SlR.or sl_str sl_list
theorem rsl_A : RSl K (rSlA K) slD := fun as F H S x d vx lo hi I rx h => (RSl.or rsl_str rsl_lst) as F H S x d vx lo hi I rx (by
  unfold slD at h
  split at h
  · simp only [slS, Option.orElse] at h ⊢
    rw [h]
  · simpa [slS, slL] using h
  · cases h)
end
end RV
end
section
/-! append, tuple(..), list(..), enumerate. -/
namespace RV
open PySem L2
section
variable {K : PySem.W.Frag} {X : Cx} {W : WX} {o e : Expr} {pos apos cpos : Pos} {eo ee ea : Env → M}
/-- what is never come to -/
def eNever : Env → M := fun _ _ _ _ => False
theorem ge_never {e : Expr} : GE X W e eNever := ⟨fun _ _ _ => False, ⟨fun _ _ _ _ _ _ h => h.elim⟩, fun _ _ _ _ _ _ _ _ _ _ e => e.elim⟩
def tupleD : WS → List D → Option D := fun S xs => match xs with
  | [.tup ds] => some (.tup ds)
  | [x] => (itemsD S x).map D.tup
  | _ => none
theorem items_l {as : List Addr} {F H : Hp} {S : WS} {x : D} {v : V} {ds : List D} (I : Sit K as F H S) (r : Rp K as F x v) (h : itemsD S x = some ds) (hn : ∀ ys, x ≠ .tup ys) : ∃ a xs, v = .ref a ∧ SqL K H a xs ∧ RpL K as F ds xs := by
  cases x with
  | lst ds' =>
    cases h
    cases r with
    | lst h1 r1 => exact ⟨_, _, rfl, SqL.of (I.ex _ _ h1), r1⟩
  | tup ds' => exact absurd rfl (hn _)
  | scr ns =>
    cases h
    cases r with
    | scr h1 => exact ⟨_, _, rfl, I.ex.sqL h1, rpl_ints ns⟩
  | cell k =>
    unfold itemsD at h
    cases hS : S[k]? with
    | none => simp [hS] at h
    | some c =>
      cases c with
      | lst es =>
        simp only [hS] at h
        cases h
        cases r with
        | cell ha =>
          obtain ⟨z1, ob, z2, z3⟩ := I.cell k _ _ ha hS
          cases ob with
          | lst xs => exact ⟨_, _, rfl, SqL.of z2, RpL.mono (Ex.refl _) pre_nil z3⟩
          | _ => exact z3.elim
      | _ => simp [hS] at h
  | _ => cases h
/-- a kept list of a cell's items, a tuple of a list's -/
theorem rc_tuple : RC K (fun xs H Q => ∃ p ys, xs = [.ref p] ∧ ((SqL K H p ys ∧ ∀ l, H l = none → Q (.ref l) (upd H l (.tup ys))) ∨ (SqT K H p ys ∧ Q (.ref p) H))) tupleD := fun as F H S ds d vs I r h Q q => by
  unfold tupleD at h
  split at h
  · cases h
    obtain ⟨v, ws, rfl, rv, rn⟩ := r.unsn
    obtain rfl := rn.unnil
    cases rv with
    | tup h1 r1 => exact ⟨_, _, rfl, .inr ⟨I.ex.sqT h1, q F H _ (Grow.refl I) (.tup h1 r1)⟩⟩
  · rename_i x hx
    obtain ⟨v, ws, rfl, rv, rn⟩ := r.unsn
    obtain rfl := rn.unnil
    simp only [Option.map_eq_some_iff] at h
    obtain ⟨es, h1, rfl⟩ := h
    obtain ⟨a, xs, rfl, sq, re⟩ := items_l I rv h1 fun ys e => hx ys e
    refine ⟨a, xs, rfl, .inl ⟨sq, fun l hl => ?_⟩⟩
    have g := I.grow (o := .tup xs) hl
    exact q _ _ _ g (.tup (SqT.of upd_same) (re.mono g.ex g.pre))
  · cases h
def listD : WS → List D → Option D := fun S xs => match xs with
  | [x] => (itemsD S x).map D.lst
  | _ => none
theorem rc_list : RC K (fun xs H Q => ∃ p ys, xs = [.ref p] ∧ (SqL K H p ys ∨ SqT K H p ys) ∧ ∀ l, H l = none → Q (.ref l) (upd H l (.lst ys))) listD := fun as F H S ds d vs I r h Q q => by
  unfold listD at h
  split at h
  · rename_i x
    obtain ⟨v, ws, rfl, rv, rn⟩ := r.unsn
    obtain rfl := rn.unnil
    simp only [Option.map_eq_some_iff] at h
    obtain ⟨es, h1, rfl⟩ := h
    obtain ⟨a, xs, rfl, sq, re⟩ := items_v I rv h1
    refine ⟨a, xs, rfl, sq, fun l hl => ?_⟩
    have g := I.grow (o := .lst xs) hl
    exact q _ _ _ g (.lst upd_same (re.mono g.ex g.pre))
  · cases h
/-! ### append -/
/-- the cell's list -/
def onL (S : WS) (k : Nat) (f : List D → Prop) : Prop := onS S[k]? fun c => onLst c f
theorem onL_ok {S : WS} {k : Nat} {f : List D → Prop} (h : onL S k f) : ∃ ds, S[k]? = some (.lst ds) ∧ f ds := by
  obtain ⟨c, h1, h2⟩ := onS_ok h
  obtain ⟨ds, rfl, h2⟩ := onLst_ok h2
  exact ⟨ds, h1, h2⟩
def sAppend (eo ee : Env → M) : Env → MS := fun ρ S k => eo ρ S (fun o S1 => onCe o fun i => onL S1 i fun _ => ee ρ S1 (fun d S2 => onL S2 i fun ds => (D.clean 0 d = true ∧ small ds.length = true) ∧ k.nx ρ (S2.set i (.lst (ds ++ [d])))) fun e S' => k.ex e ρ S') fun e S' => k.ex e ρ S'
theorem tyV_lst {H : Hp} {p : Addr} {xs : List V} (h : H p = some (.lst xs)) : tyV K "list" (.ref p) H := .inl ⟨rfl, xs, SqL.of h⟩
theorem gs_append (ho : GE X W o eo) (he : GE X W e ee) (hs0 : swapsWith (.Call (.Attribute o "append" apos) [e] [] cpos) none pos.line X.env = pure false := by rfl) (hbase : attributeBase o "append" X.env (eval o X.env) = eval o X.env := by rfl)
    (hfew : ((backTo cpos (starEach [e] X.env)).all (fun x => !x.1) && (backToKw cpos (keywordEach [] X.env)).all (fun x => x.1.isSome)
      && decide (([e] : List Expr).length + ([] : List Keyword).length + (if ([] : List Keyword).isEmpty then 0 else 1) < 30)) = true := by rfl)
    (hline : (apos.endLine == cpos.line) = true := by rfl) (hs : starEach [e] X.env = (false, eval e X.env) :: starEach [] X.env := by rfl) (hplain : (backTo cpos (starEach [] X.env)).any (·.1) = false := by rfl) :
    GS X W (.Expr (.Call (.Attribute o "append" apos) [e] [] cpos) pos) (sAppend eo ee) := by
  obtain ⟨to, po, mo⟩ := ho
  obtain ⟨te, pe, me⟩ := he
  refine ⟨_, ps_expr (pe_bm PySem.F.plainAttrs_list PySem.F.slot_list_append PySem.F.type_list_append mt_append po (pa_cons pe pa_nil hs) hbase hfew hline hs hplain) hs0, fun as F H S ρ σ I R k h E q => ?_⟩
  refine mo as F H S ρ σ I R _ _ h _ (fun d1 S1 bs F1 H1 v1 h1 g1 r1 => ?_) (q.xq R)
  cases r1 with
  | cell ha =>
    obtain ⟨ds0, hS0, h1⟩ := onL_ok h1
    obtain ⟨_, o0, z0, z1⟩ := g1.sit.cell _ _ _ ha hS0
    cases o0 with
    | lst xs0 =>
      refine ⟨tyV_lst z0, ?_⟩
      refine me bs F1 H1 S1 ρ σ g1.sit (R.grow g1) _ _ h1 _ (fun d2 S2 cs F2 H2 v2 h2 g2 r2 => ?_) ((q.step g1).xq (R.grow g1))
      obtain ⟨ds, hS, hc, h2⟩ := onL_ok h2
      have ha2 := g2.pre _ _ ha
      obtain ⟨_, o2, y0, y1⟩ := g2.sit.cell _ _ _ ha2 hS
      cases o2 with
      | lst xs =>
        have hl : xs.length < sizeLine := by
          have e1 : ds.length = xs.length := RpL.length y1
          have e2 : ds.length ≤ 100000 := of_decide_eq_true hc.2
          have e3 : (100000 : Nat) < sizeLine := by decide
          omega
        refine ⟨_, xs, v2, rfl, rfl, y0, hl, ?_⟩
        have r2' : Rp X.K [] F2 d2 v2 := r2.back (fun k a hk => by omega) hc.1
        have g3 := g2.sit.put (c' := .lst (ds ++ [d2])) (o := .lst (xs ++ [v2])) ha2 hS rfl rfl (RpL.append y1 (.cons r2' .nil))
        have g := (g1.trans g2).trans g3
        exact q.nx ρ _ cs F2 _ σ h2 g (R.grow g)
      | _ => exact y1.elim
    | _ => exact z1.elim
  | _ => exact h1.elim
end
theorem enum_new1 {z : Value} {ob : Obj} {HP : Heap → Prop} (bg : PySem.Begins z ob HP) :
    Meets (Builtin.«enumerate.__new__» ⟨[.type "enumerate", z], []⟩) (fun _ R st => HP st.heap ∧
      R (.ok (.ret (.ref (st.heap.push ob).objs.size))) { st with heap := (st.heap.push ob).push { cls := .type "enumerate", data := .fields #[.none, .bool false, .ref st.heap.objs.size, rawInt 0, .none, .none] } }) :=
  .of_wp fun prog w A R st hh => by
    obtain ⟨hp, gs, dr, tks, oss⟩ := st
    obtain ⟨hz, hh⟩ := hh
    have subE := sub_enumerate
    have itz : ∀ {A2 : Around} {E2 : Value → Shared → Prop} {Q2 : Value → Shared → Prop}, Q2 (.ref hp.objs.size) ⟨hp.push ob, gs, dr, tks, oss⟩ → wpAny (model prog w) A2 (pyIter z) Q2 E2 ⟨hp, gs, dr, tks, oss⟩ :=
      fun q => bg.iter prog w _ _ ⟨hp, gs, dr, tks, oss⟩ _ hz q
    wp_walk using itz
    refine wpAny_stack_any fun stk => wpAny_pure ?_
    split
    · rename_i cc _ _ _ _ _
      cases (cc == Value.type "enumerate")
      · wp_walk using itz
        exact ⟨_, rfl, hh⟩
      · wp_walk using itz
        exact ⟨_, rfl, hh⟩
    · wp_walk using itz
      exact ⟨_, rfl, hh⟩

theorem call_enumT {sh : Shared} {P : Program} {w : World} {A : Around} {E : Value → Shared → Prop} {t : Addr} {its : Array Value} {Q : Value → Shared → Prop} (ht : sh.heap.IsTuple t its)
    (k : ∀ h2, IsEnum h2 (sh.heap.objs.size + 1) sh.heap.objs.size 0 .none → h2.IsTupleIter sh.heap.objs.size t 0 → h2.objs.size = sh.heap.objs.size + 2 → (∀ b u, sh.heap.get? b = some u → h2.get? b = some u) → Q (.ref (sh.heap.objs.size + 1)) { sh with heap := h2 }) :
    wpAny (model P w) A (call (.type "enumerate") [.ref t]) Q E sh := by
  have bg := PySem.begins_tuple t its
  refine callType_new PySem.F.called_enumerate (by decide) (PySem.F.typeCall_enumerate_1 _) (PySem.F.newCall_enumerate_1 _) (fun ob => PySem.F.args_object_init_2 ob _) PySem.F.entry_enumerate_new (enum_new1 bg) ⟨ht, ?_⟩
  have sz : (sh.heap.push { cls := .type "tuple_iterator", data := .fields #[.ref t, .int 0 0] }).objs.size = sh.heap.objs.size + 1 := Heap.size_push ..
  show _ ∧ _
  rw [sz]
  have en : IsEnum ((sh.heap.push { cls := .type "tuple_iterator", data := .fields #[.ref t, .int 0 0] }).push
      { cls := .type "enumerate", data := .fields #[.none, .bool false, .ref sh.heap.objs.size, rawInt 0, .none, .none] }) (sh.heap.objs.size + 1) sh.heap.objs.size 0 .none := by
    have q := Heap.get?_push_size (sh.heap.push { cls := .type "tuple_iterator", data := .fields #[.ref t, .int 0 0] })
      (o := { cls := .type "enumerate", data := .fields #[.none, .bool false, .ref sh.heap.objs.size, rawInt 0, .none, .none] }) rfl
    rw [sz] at q
    exact q
  exact ⟨⟨_, en, rfl⟩, k _ en ⟨_, Heap.get?_push_of_some _ (Heap.get?_push_size _ rfl), rfl, rfl⟩ (by rw [Heap.size_push, sz]) fun b u q => Heap.get?_push_of_some _ (Heap.get?_push_of_some _ q)⟩
/-- the tuple at a, each item in a new pair -/
def IteT (K : PySem.W.Frag) (a : Addr) : It :=
  ⟨fun i H => ∃ (ys : List V) (y : V), SqT K H a ys ∧ ys[i]? = some y, fun i H v H2 => ∃ B y, v = .ref B ∧ H B = none ∧ H2 = upd H B (.tup [.int (i : Nat), y]) ∧ ∀ ys, SqT K H a ys → ys[i]? = some y, fun i H => ∃ ys : List V, SqT K H a ys ∧ ys.length ≤ i⟩
theorem turn_enumT {P : Program} {w : World} {K : PySem.W.Frag} {tgs : List Expr} {kt : Nat} {tp : Pos} (a en it : Addr) :
    Turn P w K (.Tuple tgs kt tp) (IteT K a) [en, it] en (fun i h => (∃ pv, IsEnum h en it ((i : Nat) : Int) pv) ∧ h.IsTupleIter it a i ∧ en ≠ it) where
  mem := by simp
  obj := fun i h st b hb => by
    obtain ⟨⟨pv, he⟩, ⟨ob, ho, hc, hd⟩, _⟩ := st
    have bb : b = en ∨ b = it := by simpa using hb
    rcases bb with z | z
    · subst z
      exact ⟨_, he, fun v q => nomatch q⟩
    · subst z
      exact ⟨ob, ho, fun v q => by rw [hd] at q; cases q⟩
  keep := fun i h h2 st kp => by
    obtain ⟨⟨pv, he⟩, hi, hne⟩ := st
    exact ⟨⟨pv, kp en (by simp) _ he⟩, hi.at fun ob q => kp it (by simp) ob q, hne⟩
  item := by
    intro X hP hw hK hc i pins s σ H E I hf st hg
    subst hP hw hK
    obtain ⟨⟨pv, he⟩, hit, hne⟩ := st
    obtain ⟨ys, y, hq, hy⟩ := hg
    obtain ⟨its, rv, tp', hz⟩ := I.tuple hq
    obtain ⟨u, hu, ru⟩ := rv.get hy
    have tup : s.heap.IsTuple a its.toArray := tp'
    have enl : en < s.heap.objs.size := Heap.lt_size he
    have itl : it < s.heap.objs.size := by
      obtain ⟨_, q, _⟩ := hit
      exact Heap.lt_size q
    have ne1 : a ≠ it := fun z => by
      obtain ⟨o1, q1, c1, _⟩ := hit
      obtain ⟨o2, q2, c2, _⟩ := tup
      rw [z, q1] at q2
      cases q2
      rw [c1] at c2
      simp at c2
    have ne2 : en ≠ a := fun z => by
      obtain ⟨o2, q2, c2, _⟩ := tup
      rw [← z] at q2
      rw [show s.heap.get? en = some _ from he] at q2
      cases q2
      simp at c2
    have dr := PySem.Draws.tuple (prog := X.prog) (w := X.w) (A := X.A.in1) (I.ok.hd hc) it a ne1 its.toArray
    have hlt : i < its.toArray.size := by
      have := (List.getElem?_eq_some_iff.mp hu).1
      simpa using this
    refine PySem.wpAny_pyNext_enum_itemD dr he ⟨hit, tup⟩ hlt hne (by simp; exact ⟨hne, ne2⟩) fun x h2 tk px ho st2 hT hsz hk => ?_
    have ex : x = u := by
      have e1 : its.toArray[i]? = some u := by simpa using hu
      rw [show its.toArray[i]? = some x from px] at e1
      exact Option.some.inj e1
    subst ex
    refine ⟨_, rfl, wpAny_letOwnedTupleGo_enum (s := { s with heap := h2, toks := tk + 1 }) ho fun h3 he3 sb => ?_⟩
    have hT3 : h3.get? s.heap.objs.size = some { cls := .type "tuple", data := .seq #[.int i tk, x] } := (sb.2 _ (Nat.ne_of_gt enl)).trans hT
    have nw : ObjOk X.prog X.w (upd H s.heap.objs.size (.tup [.int (i : Nat), y])) h3 s.heap.objs.size (.tup [.int (i : Nat), y]) :=
      ⟨by show 2 ≤ sizeLine; decide, [.int i tk, x], .cons ⟨_, rfl⟩ (.cons ru .nil), ⟨_, hT3, rfl, _, rfl⟩⟩
    have I2 : Inv X pins σ (upd H s.heap.objs.size (.tup [.int (i : Nat), y])) { s with heap := h3, toks := tk + 1 } :=
      I.turnedNew (ch := [en, it]) (fun b ob hb q => (sb.2 b (fun z => hb (by simp [z]))).trans (hk b ob (fun z => hb (by simp [z])) (fun z => hb (by simp [z])) q)) hf (Nat.le_refl _) nw
    refine ⟨.ref s.heap.objs.size, _, I2, rfl, ⟨_, y, rfl, I.hok.fresh (Nat.le_refl _), rfl, fun zs hz2 => by rw [I.tuple_inj hz2 hq]; exact hy⟩, ⟨⟨x, ?_⟩, st2.1.at fun ob q => (sb.2 it (Ne.symm hne)).trans q, hne⟩, fun b hb => ?_⟩
    · have e1 : ((i + 1 : Nat) : Int) = (i : Int) + 1 := by omega
      rw [e1]
      exact he3
    · have bb : b = en ∨ b = it := by simpa using hb
      have bl : b < s.heap.objs.size := by
        rcases bb with z | z
        · rw [z]; exact enl
        · rw [z]; exact itl
      rw [upd_ne (Nat.ne_of_lt bl)]
      exact (hf b hb).1
  done := by
    intro X hP hw hK hc i pins s σ H E I hf st hg
    subst hP hw hK
    obtain ⟨⟨pv, he⟩, hit, hne⟩ := st
    obtain ⟨ys, hq, hy⟩ := hg
    obtain ⟨its, rv, tp', hz⟩ := I.tuple hq
    have tup : s.heap.IsTuple a its.toArray := tp'
    have ne1 : a ≠ it := fun z => by
      obtain ⟨o1, q1, c1, _⟩ := hit
      obtain ⟨o2, q2, c2, _⟩ := tup
      rw [z, q1] at q2
      cases q2
      rw [c1] at c2
      simp at c2
    obtain ⟨f0, f1, f2, f3, f4, f5⟩ := hf it (by simp)
    have none_i : its.toArray[i]? = none := by
      have := rv.length
      simp
      omega
    have hd : X.A.in1.handled = none := I.ok.hd hc
    have dr : PySem.Draws X.prog X.w X.A.in1 it [it, a] i (fun _ _ => False) (fun j h => j = i ∧ h.IsTupleIter it a i ∧ h.IsTuple a its.toArray) :=
      { live := fun _ _ st2 => by
          obtain ⟨ob, q, _⟩ := st2.2.1
          exact ⟨ob, q⟩
        frame := fun _ _ _ st2 kp => ⟨st2.1, st2.2.1.at fun ob q => kp it (by simp) ob q, st2.2.2.at fun ob q => kp a (by simp) ob q⟩
        item := fun j s2 Q2 E2 hj st2 _ => by
          have := st2.1
          omega
        done := fun s2 Q2 E2 st2 kE => PySem.wpAny_nextOf_tuple_end hd st2.2.1 st2.2.2 none_i kE }
    exact PySem.wpAny_pyNext_enum_endD dr he ⟨rfl, hit, tup⟩ fun h2 eb => ⟨rfl, I.turned (t' := s.toks) (fun b ob hb q => eb b ob hb q) f0 f1 f3 f4 f5⟩
  self := fun A i s Q E st h => by
    obtain ⟨⟨_, he⟩, _⟩ := st
    exact wpAny_pyIter_enum he h
def iEnT (K : PySem.W.Frag) (ta : TA) : TI := fun σ H R => ta σ H fun vs H1 => ∃ a ys, vs = [.ref a] ∧ SqT K H1 a ys ∧ R (IteT K a) H1
section
variable {X : Cx} {W : WX} {e : Expr} {p pos tpos : Pos} {elts : List Expr} {kk : Nat}
theorem pi_enumT {ta : TA} (gl : Gl X "enumerate") (nm : X.mg "enumerate" = none) (ha : PA X [e] ta) (st : starEach [e] X.env = [(false, eval e X.env)] := by rfl) :
    PI X (.Tuple elts kk tpos) (.Call (.Name "enumerate" p) [e] [] pos) (iEnT X.K ta) := by
  refine ⟨fun pins s σ H R I h => ?_⟩
  refine PyProof.Rows.Call_ (ld_blt I gl nm PyProof.Rows.boot_enumerate (PyProof.Rows.callWith_type1 (thn (ha.run pos pins s σ H _ I h) fun us s1 ⟨vs, H1, I1, r1, q1⟩ => ?_) st rfl))
  obtain ⟨a, ys, rfl, hq, q⟩ := q1
  cases r1 with
  | cons r rr =>
    cases rr
    cases r
    obtain ⟨its, rv, tp, hz⟩ := I1.tuple hq
    refine call_enumT (show s1.heap.IsTuple a its.toArray from tp) fun h2 en itr hsz kp => wpAny_pyIter_enum en ?_
    have I2 : Inv X pins σ H1 { s1 with heap := h2 } := I1.kept (t' := s1.toks) kp
    refine ⟨s1.heap.objs.size + 1, [s1.heap.objs.size + 1, s1.heap.objs.size], _, _, H1, rfl, I2, turn_enumT a (s1.heap.objs.size + 1) s1.heap.objs.size, ⟨⟨.none, en⟩, itr, Nat.succ_ne_self _⟩, fun b hb => ?_, q⟩
    have bb : b = s1.heap.objs.size + 1 ∨ b = s1.heap.objs.size := by simpa using hb
    have ble : s1.heap.objs.size ≤ b := by
      rcases bb with z | z
      · rw [z]
        exact Nat.le_add_right _ _
      · rw [z]
        exact Nat.le_refl _
    exact I1.fpOk ble (I1.hok.fresh ble)
def enumL (i : Nat) : List D → List D
  | [] => []
  | d :: ds => .tup [.int (i : Int), d] :: enumL (i + 1) ds
theorem enumL_len : ∀ (ds : List D) (i : Nat), (enumL i ds).length = ds.length
  | [], _ => rfl
  | _ :: ds, i => congrArg Nat.succ (enumL_len ds (i + 1))
theorem enumL_at : ∀ (ds : List D) (i j : Nat), (enumL i ds)[j]? = (ds[j]?).map fun d => D.tup [.int ((i + j : Nat) : Int), d]
  | [], _, _ => by simp [enumL]
  | d :: ds, i, 0 => by simp [enumL]
  | d :: ds, i, j + 1 => by
    simp only [enumL, List.getElem?_cons_succ]
    rw [enumL_at ds (i + 1) j]
    have : i + 1 + j = i + (j + 1) := by omega
    rw [this]
def iEnumT (er : Env → ML) : Env → MW := fun ρ S q x => er ρ S (fun ds S1 => on1 ds fun d => onTu d fun ds => q (enumL 0 ds) any_ S1) x
theorem gi_enumT {er : Env → ML} (nm : X.mg "enumerate" = none) (ha : GA X W [e] er) (gl : Gl X "enumerate" := by rfl) (st : starEach [e] X.env = [(false, eval e X.env)] := by rfl) :
    GI X W (.Tuple elts kk tpos) (.Call (.Name "enumerate" p) [e] [] pos) (iEnumT er) := by
  obtain ⟨t, p, m⟩ := ha
  refine ⟨_, pi_enumT gl nm p st, fun as F H S ρ σ I R q x e Q hq hx => ?_⟩
  refine m as F H S ρ σ I R _ x e _ (fun ds S1 bs F1 H1 vs h1 g r => ?_) hx
  obtain ⟨y, rfl, h1⟩ := on1_ok h1
  obtain ⟨ds', rfl, h1⟩ := onTu_ok h1
  · obtain ⟨v, ws, rfl, rv, rn⟩ := r.unsn
    obtain rfl := rn.unnil
    cases rv with
    | tup hp rl =>
      rename_i a xs
      refine ⟨a, xs, rfl, g.sit.ex.sqT hp, hq _ _ S1 bs F1 H1 _ h1 g ⟨fun bs F2 H2 S2 I2 x2 p2 _ => ?_, fun i hi bs F2 H2 S2 I2 x2 p2 _ => ?_, fun i d hd bs F2 H2 S2 I2 x2 p2 _ x H' y => ?_⟩⟩
      · have hq : SqT X.K H2 a xs := I2.ex.sqT (x2.sqT hp)
        refine ⟨xs, hq, ?_⟩
        rw [enumL_len, rl.length]
        exact Nat.le_refl _
      · have hq : SqT X.K H2 a xs := I2.ex.sqT (x2.sqT hp)
        rw [enumL_len, rl.length] at hi
        exact ⟨xs, xs[i], hq, List.getElem?_eq_getElem hi⟩
      · have hq : SqT X.K H2 a xs := I2.ex.sqT (x2.sqT hp)
        obtain ⟨B, yv, rfl, hB, rfl, hy⟩ := y
        rw [enumL_at] at hd
        simp only [Option.map_eq_some_iff] at hd
        obtain ⟨d', hd', rfl⟩ := hd
        obtain ⟨v, hv, rv⟩ := rl.get hd'
        have := hy xs hq
        rw [hv] at this
        cases this
        have g2 := I2.grow (o := .tup [.int (i : Nat), yv]) hB
        refine ⟨_, g2, .tup (SqT.of upd_same) (.cons ?_ (.cons ((rv.mono x2 p2).mono g2.ex g2.pre) .nil))⟩
        rw [Nat.zero_add]
        exact .int _
end
end RV
end
section
/-! Methods of texts, f-strings, starred arguments. -/
namespace RV
open PySem L2
section
variable {K : PySem.W.Frag} {X : Cx} {W : WX} {o e a b : Expr} {es : List Expr} {pos apos : Pos} {eo ee ea eb : Env → M} {er : Env → ML}
/-! ### o.m(e), o a text -/
def RM (K : PySem.W.Frag) (r : V → List V → Hp → VK → Prop) (f : WS → D → D → Option D) : Prop := ∀ (as : List Addr) (F H : Hp) (S : WS) (x : Str) (y d : D) (vy : V), Sit K as F H S → Rp K as F y vy → f S (.str x) y = some d →
  ∀ Q : VK, (∀ F' H' v, Grow K as F H as F' H' S → Rp K as F' d v → Q v H') → r (.str x) [vy] H Q
def onStr (f : WS → Str → D → Option D) : WS → D → D → Option D := fun S x y => match x with
  | .str z => f S z y
  | _ => none
/-- o.m(e), o a text: looked at first -/
def eOpT (f : WS → D → D → Option D) (ea eb : Env → M) : Env → M := fun ρ S q x => ea ρ S (fun u S1 => onT u fun z => eb ρ S1 (fun v S2 => onS (f S2 (.str z) v) fun d => q d S2) x) x
theorem me_m1 {r : V → List V → Hp → VK → Prop} {f : WS → Str → D → Option D} {to te : TE} (hr : RM K r (onStr f)) (ho : ME K W to eo) (he : ME K W te ee) : ME K W (tM1 r to te) (eOpT (onStr f) eo ee) := fun as F H S ρ σ I R q x h Q hq hx => by
  refine ho as F H S ρ σ I R _ x h _ (fun u S1 bs F1 H1 v h1 g r1 => ?_) hx
  cases r1 with
  | str z =>
    refine ⟨⟨z, rfl⟩, ?_⟩
    refine he bs F1 H1 S1 ρ σ g.sit (R.grow g) _ x h1 _ (fun y S2 cs F2 H2 w h2 g2 r2 => ?_) (hx.step g)
    obtain ⟨d, h3, h4⟩ := onS_ok h2
    exact hr cs F2 H2 S2 z y d w g2.sit r2 h3 Q fun F3 H3 u g3 r3 => hq d S2 cs F3 H3 u h4 ((g.trans g2).trans g3) r3
  | _ => exact h1.elim
def splitD : WS → D → D → Option D := onStr fun _ z y => match y with
  | .str s => if s.length ≠ 0 ∧ small z.length = true then some (.lst ((Txt.split z s).map D.str)) else none
  | _ => none
theorem rpl_strs {as : List Addr} {F : Hp} : ∀ ys : List Str, RpL K as F (ys.map D.str) (ys.map V.str)
  | [] => .nil
  | y :: ys => .cons (.str y) (rpl_strs ys)
theorem small_two {n : Nat} (h : small n = true) : n + 2 ≤ sizeLine := by
  have h1 : n ≤ 100000 := of_decide_eq_true h
  have h2 : (100002 : Nat) ≤ sizeLine := by decide
  omega
theorem ge_split (ho : GE X W o eo) (he : GE X W e ee) (hs : starEach [e] X.env = [(false, eval e X.env)] := by rfl) (hbase : attributeBase o "split" X.env (eval o X.env) = eval o X.env := by rfl) (hline : (apos.endLine == pos.line) = true := by rfl) :
    GE X W (.Call (.Attribute o "split" apos) [e] [] pos) (eOpT splitD eo ee) := by
  obtain ⟨to, po, mo⟩ := ho
  obtain ⟨te, pe, me⟩ := he
  refine ⟨_, pe_split po pe hs hbase hline, me_m1 (fun as F H S x y d vy I r h Q q => ?_) mo me⟩
  simp only [onStr] at h
  split at h
  · rename_i s
    split at h
    · rename_i hc
      cases h
      cases r
      refine ⟨x, s, rfl, rfl, by simpa using hc.1, small_two hc.2, fun p hp => ?_⟩
      have g := I.grow (o := .lst ((Txt.split x s).map V.str)) hp
      exact q _ _ _ g (.lst upd_same (rpl_strs _))
    · cases h
  · cases h
def partitionD : WS → D → D → Option D := onStr fun _ z y => match y with
  | .str s => if s.length ≠ 0 ∧ small z.length = true then some (.tup [.str (Txt.partition z s).1, .str (Txt.partition z s).2.1, .str (Txt.partition z s).2.2]) else none
  | _ => none
theorem ge_partition (ho : GE X W o eo) (he : GE X W e ee) (hs : starEach [e] X.env = [(false, eval e X.env)] := by rfl) (hbase : attributeBase o "partition" X.env (eval o X.env) = eval o X.env := by rfl) (hline : (apos.endLine == pos.line) = true := by rfl) :
    GE X W (.Call (.Attribute o "partition" apos) [e] [] pos) (eOpT partitionD eo ee) := by
  obtain ⟨to, po, mo⟩ := ho
  obtain ⟨te, pe, me⟩ := he
  refine ⟨_, pe_partition po pe hs hbase hline, me_m1 (fun as F H S x y d vy I r h Q q => ?_) mo me⟩
  simp only [onStr] at h
  split at h
  · rename_i s
    split at h
    · rename_i hc
      cases h
      cases r
      refine ⟨x, s, rfl, rfl, by simpa using hc.1, small_le hc.2, fun p hp => ?_⟩
      have g := I.grow (o := .tup [.str (Txt.partition x s).1, .str (Txt.partition x s).2.1, .str (Txt.partition x s).2.2]) hp
      exact q _ _ _ g (.tup (SqT.of upd_same) (.cons (.str _) (.cons (.str _) (.cons (.str _) .nil))))
    · cases h
  · cases h
def strsD : List D → Option (List Str)
  | [] => some []
  | .str s :: r => (strsD r).map fun t => s :: t
  | _ => none
theorem strsD_ok : ∀ {ds : List D} {ys : List Str}, strsD ds = some ys → ds = ys.map D.str
  | [], ys, h => by
    cases h
    rfl
  | .str s :: r, ys, h => by
    simp only [strsD, Option.map_eq_some_iff] at h
    obtain ⟨t, h1, rfl⟩ := h
    rw [strsD_ok h1]
    rfl
  | .non :: r, ys, h => by cases h
  | .bl _ :: r, ys, h => by cases h
  | .int _ :: r, ys, h => by cases h
  | .ty _ :: r, ys, h => by cases h
  | .adr _ :: r, ys, h => by cases h
  | .cell _ :: r, ys, h => by cases h
  | .scr _ :: r, ys, h => by cases h
  | .tup _ :: r, ys, h => by cases h
  | .lst _ :: r, ys, h => by cases h
  | .obj _ _ :: r, ys, h => by cases h
  | .dic _ :: r, ys, h => by cases h
  | .exc _ _ :: r, ys, h => by cases h
  | .exv _ _ _ _ :: r, ys, h => by cases h
theorem rpl_strs_v {as : List Addr} {F : Hp} : ∀ {ys : List Str} {xs : List V}, RpL K as F (ys.map D.str) xs → xs = ys.map V.str
  | [], _, .nil => rfl
  | y :: ys, _, .cons r t => by
    cases r
    rw [rpl_strs_v t]
    rfl
def joinD : WS → D → D → Option D := onStr fun S z y => (itemsD S y).bind fun ds => (strsD ds).bind fun ys => if (ys.map (·.length)).sum + ys.length * z.length ≤ 100000 then some (.str (Txt.join z ys)) else none
theorem ge_join (ho : GE X W o eo) (he : GE X W e ee) (hs : starEach [e] X.env = [(false, eval e X.env)] := by rfl) (hbase : attributeBase o "join" X.env (eval o X.env) = eval o X.env := by rfl) (hline : (apos.endLine == pos.line) = true := by rfl) :
    GE X W (.Call (.Attribute o "join" apos) [e] [] pos) (eOpT joinD eo ee) := by
  obtain ⟨to, po, mo⟩ := ho
  obtain ⟨te, pe, me⟩ := he
  refine ⟨_, pe_join po pe hs hbase hline, me_m1 (fun as F H S x y d vy I r h Q q => ?_) mo me⟩
  simp only [onStr, Option.bind_eq_some_iff] at h
  obtain ⟨ds, h1, ys, h2, h3⟩ := h
  split at h3
  · rename_i hc
    cases h3
    obtain ⟨p, xs, rfl, sq, rl⟩ := items_v I r h1
    rw [strsD_ok h2] at rl
    have ex := rpl_strs_v rl
    subst ex
    exact ⟨x, p, ys, rfl, rfl, sq, by omega, keep I q (.str _)⟩
  · cases h3
/-! ### f-strings -/
def fmtD : WS → D → Option D := fun _ x => match x with
  | .str y => if small y.length = true then some (.str y) else none
  | .int i => if i.natAbs.log2 < 1920 then some (.str (toString i)) else none
  | _ => none
theorem ge_fmt (h : GE X W e ea) : GE X W (.FormattedValue e (-1) none pos) (eUn fmtD ea) := by
  obtain ⟨t, p, m⟩ := h
  refine ⟨_, pe_fmt p, fun as F H S ρ σ I R q x h Q hq hx => ?_⟩
  refine m as F H S ρ σ I R _ x h _ (fun u S1 bs F1 H1 v h1 g r => ?_) hx
  obtain ⟨d, h2, h3⟩ := onS_ok h1
  unfold fmtD at h2
  split at h2
  · split at h2
    · rename_i y hs
      cases h2
      cases r
      exact .inl ⟨y, rfl, small_le hs, hq _ S1 bs F1 H1 _ h3 g (.str y)⟩
    · cases h2
  · split at h2
    · rename_i i hs
      cases h2
      cases r
      exact .inr ⟨i, rfl, hs, hq _ S1 bs F1 H1 _ h3 g (.str _)⟩
    · cases h2
  · cases h2
abbrev MJ := Env → Str → WS → (Str → WS → Prop) → Xq → Prop
structure GJ (X : Cx) (W : WX) (es : List Expr) (m : MJ) : Prop where
  ex : ∃ ts, PJ X es ts ∧ ∀ (as : List Addr) (F H : Hp) (S : WS) (ρ : Env) (σ : L2.St) (acc : Str), Sit X.K as F H S → RpE X.K as F ρ σ → ∀ q x, m ρ acc S q x →
    ∀ Q : Str → Hp → Prop, (∀ out S' bs F' H', q out S' → Grow X.K as F H bs F' H' S' → Q out H') → XQ X.K as F H x (WE W σ) → tJs ts acc σ H Q
def jNil : MJ := fun _ acc S q _ => q acc S
def jCons (ea : Env → M) (jr : MJ) : MJ := fun ρ acc S q x => ea ρ S (fun d S1 => onT d fun y => small (acc.length + y.length) = true ∧ jr ρ (acc ++ y) S1 q x) x
theorem gj_nil : GJ X W [] jNil := ⟨[], .nil, fun as F H S ρ σ acc I R q x h Q hq _ => hq acc S as F H h (Grow.refl I)⟩
theorem gj_cons {jr : MJ} (h : GE X W e ea) (r : GJ X W es jr) : GJ X W (e :: es) (jCons ea jr) := by
  obtain ⟨t, p, m⟩ := h
  obtain ⟨ts, ps, ms⟩ := r
  refine ⟨t :: ts, .cons p ps, fun as F H S ρ σ acc I R q x h Q hq hx => ?_⟩
  refine m as F H S ρ σ I R _ x h _ (fun u S1 bs F1 H1 v h1 g r => ?_) hx
  cases r with
  | str y => exact ⟨y, rfl, by rw [strLen_append]; exact small_le h1.1, ms bs F1 H1 S1 ρ σ _ g.sit (R.grow g) q x h1.2 Q (fun out S' cs F' H' a g2 => hq out S' cs F' H' a (g.trans g2)) (hx.step g)⟩
  | _ => exact h1.elim
def eJoin (m : MJ) : Env → M := fun ρ S q x => m ρ Str.empty S (fun t S1 => q (.str t) S1) x
theorem ge_joined {v1 v2 : Expr} {rest : List Expr} {m : MJ} (h : GJ X W (v1 :: v2 :: rest) m) : GE X W (.JoinedStr (v1 :: v2 :: rest) pos) (eJoin m) := by
  obtain ⟨ts, ps, ms⟩ := h
  exact ⟨_, pe_joined ps, fun as F H S ρ σ I R q x h Q hq hx => ms as F H S ρ σ Str.empty I R _ x h _ (fun out S' bs F' H' a g => hq _ S' bs F' H' _ a g (.str _)) hx⟩
/-! ### starred arguments -/
end
end RV
end
section
/-! Own __len__, __str__; classmethods; cls(..); x is None. -/
namespace RV
open PySem L2
variable {nn : Bool}
section
variable {K : PySem.W.Frag} {X : Cx} {W : WX} {o e a b : Expr} {es : List Expr} {pos apos p : Pos} {eo ee ea eb : Env → M} {er ek : Env → ML}
/-! ### calls that run a def of the text's own, which raises nothing -/
def RCM (K : PySem.W.Frag) (r : List V → Hp → VK → Prop) (f : List D → M) : Prop := ∀ (as : List Addr) (F H : Hp) (S : WS) (ds : List D) (vs : List V), Sit K as F H S → RpL K as F ds vs → ∀ q x, f ds S q x →
  ∀ Q : VK, NQ K as F H q Q → r vs H Q
def eCallM (f : List D → M) (er : Env → ML) : Env → M := fun ρ S q x => er ρ S (fun ds S1 => f ds S1 q x) x
theorem me_cbM {r : List V → Hp → VK → Prop} {f : List D → M} {t : TA} (hr : RCM K r f) (h : MA K W t er) : ME K W (tCB r t) (eCallM f er) := fun as F H S ρ σ I R q x e Q hq hx =>
  h as F H S ρ σ I R _ x e _ (fun ds S1 bs F1 H1 vs h1 g1 r1 => hr bs F1 H1 S1 ds vs g1.sit r1 q x h1 Q (hq.step g1)) hx
theorem ge_callBM {x : Str} {id : String} {r : List V → Hp → VK → Prop} {f : List D → M} (hc : CallR X (.builtin id) r) (hr : RCM X.K r f) (hm : X.mg x = none) (hv : bootBuiltins x = some (.builtin id)) (ha : GA X W (e :: es) er)
    (hg : Gl X x := by rfl) (hn : x ≠ "__name__" := by decide) (hdb : (x == ("__debug__" : Str)) = false := by decide) (h1 : starEach (e :: es) X.env = (false, eval e X.env) :: starEach es X.env := by rfl) (h2 : (backTo pos (starEach es X.env)).any (·.1) = false := by rfl) :
    GE X W (.Call (.Name x p) (e :: es) [] pos) (eCallM f er) := by
  obtain ⟨t, p, m⟩ := ha
  exact ⟨_, pe_callB hc hg hm hv p hn hdb h1 h2, me_cbM hr m⟩
theorem ge_callTyM {x : Str} {T : String} {r : List V → Hp → VK → Prop} {f : List D → M} (hc : CallR X (.type T) r) (hr : RCM X.K r f) (hm : X.mg x = none) (hv : bootBuiltins x = some (.type T)) (ha : GA X W (e :: es) er)
    (hg : Gl X x := by rfl) (hn : x ≠ "__name__" := by decide) (hdb : (x == ("__debug__" : Str)) = false := by decide) (h1 : starEach (e :: es) X.env = (false, eval e X.env) :: starEach es X.env := by rfl) (h2 : (backTo pos (starEach es X.env)).any (·.1) = false := by rfl) :
    GE X W (.Call (.Name x p) (e :: es) [] pos) (eCallM f er) := by
  obtain ⟨t, p, m⟩ := ha
  exact ⟨_, pe_callTy hc hg hm hv p hn hdb h1 h2, me_cbM hr m⟩
/-! ### own methods that Python calls -/
theorem run_own {f : Addr} {fd : FuncData} {ps : List Str} {sp : Sp} {k : Nat} {A : Around} {pins : List (Addr × Obj)} {s : Shared} {σ : L2.St} {H : Hp} {vs : List V} {us : List Value} {R : VK} (Fn : FnX ⟨false, nn, false⟩ X.prog X.w X.K X.mg X.base k f fd ps sp) (hr : Room k A) (hfr : A.frames = X.A.frames) (hb : Binds X.K fd ps []) (I : Inv X pins σ H s) (rv : Vals vs us)
    (h : sp vs H R E0) : wpAny (model X.prog X.w) A (call (.ref f) us) (EP X pins σ R) X.xe s := by
  have e0 : Env0 X.prog X.w X.K X.mg X.base A X.stack s H := by
    have z := I.env0
    exact ⟨by rw [hfr]; exact z.frames, z.mod, z.bs, z.bsz, z.funs, z.frf, z.hok, z.bare⟩
  have hl : us.length = ps.length := rv.length.symm.trans (Fn.len _ _ _ _ h)
  refine wpAny_call (codeAny_mono (Fn.ok.run A X.stack s H ⟨us, []⟩ us vs R E0 hr e0 (by
    have z := hb s us I.kIn (by simpa using hl)
    simpa using z) rv h) fun r s' hq => ?_)
  cases r with
  | error e =>
    exact (cxm_no hq).elim
  | ok fl =>
    cases fl with
    | ret w => exact I.after hq
    | next => exact hq.elim
    | brk => exact hq.elim
    | cont => exact hq.elim
def rLenOwn (C : Addr) (sp : Sp) : List V → Hp → VK → Prop := fun xs H Q => ∃ a dx fs, xs = [.ref a] ∧ H a = some (.ins C dx fs) ∧ sp xs H (fun v H' => ∃ n : Int, v = .int n ∧ 0 ≤ n ∧ n < 2 ^ 62 ∧ Q (.int n) H') E0
theorem call_lenOwn {C f : Addr} {fd : FuncData} {ps : List Str} {sp : Sp} {k j : Nat} (Fn : FnX ⟨false, nn, false⟩ X.prog X.w X.K X.mg X.base k f fd ps sp) (hr : Room j X.A) (hj : k + 1 ≤ j) (hs : PySem.W.findIn X.K (.ref C) "__len__" = some (some (.ref f))) (hf : PySem.W.isFn X.K (.ref f) = true) (hb : Binds X.K fd ps []) :
    CallR X (.builtin "len") (rLenOwn C sp) := fun pins s σ H xs us Q I rv q => by
  obtain ⟨a, dx, fs, rfl, ha, q⟩ := q
  obtain ⟨u, rfl, ru⟩ := rv.one
  cases ru
  obtain ⟨mA, J, _⟩ := ins_get I.hok ha
  obtain ⟨od, J, _⟩ := J.look
  obtain ⟨m, hF⟩ := I.fr
  refine PySem.W.len_K hF I.ok.mod.kin J hs hf ?_
  refine thn (run_own Fn (hr.mono hj).in1 rfl hb I (vs := [.ref a]) (.cons rfl .nil) q) fun w s' hw => ?_
  obtain ⟨z, H', I', rz, n, rfl, h0, h1, qn⟩ := hw
  obtain ⟨t, rfl⟩ := rz
  refine ⟨⟨h0, by omega⟩, .int n, H', I'.tok _, ⟨_, rfl⟩, qn⟩
def rStrOwn (C : Addr) (sp : Sp) : List V → Hp → VK → Prop := fun xs H Q => ∃ a dx fs, xs = [.ref a] ∧ H a = some (.ins C dx fs) ∧ sp xs H (fun v H' => ∃ t : Str, v = .str t ∧ Q (.str t) H') E0
theorem call_strOwn {C f : Addr} {fd : FuncData} {ps : List Str} {sp : Sp} {k j : Nat} (Fn : FnX ⟨false, nn, false⟩ X.prog X.w X.K X.mg X.base k f fd ps sp) (hr : Room j X.A) (hj : k + 2 ≤ j) (hs : PySem.W.findIn X.K (.ref C) "__str__" = some (some (.ref f))) (hf : PySem.W.isFn X.K (.ref f) = true) (hb : Binds X.K fd ps []) :
    CallR X (.type "str") (rStrOwn C sp) := fun pins s σ H xs us Q I rv q => by
  obtain ⟨a, dx, fs, rfl, ha, q⟩ := q
  obtain ⟨u, rfl, ru⟩ := rv.one
  cases ru
  obtain ⟨mA, J, _⟩ := ins_get I.hok ha
  obtain ⟨od, J, _⟩ := J.look
  have hr2 := (hr.mono hj).in1.in1
  refine PySem.W.kso_call hr2.units0 I.kIn J hs hf ?_
  refine thn (run_own Fn hr2 rfl hb I (vs := [.ref a]) (.cons rfl .nil) q) fun w s' hw => ?_
  obtain ⟨z, H', I', rz, t, rfl, qn⟩ := hw
  obtain ⟨tk, rfl⟩ := rz
  exact ⟨.str t, H', I', ⟨_, rfl⟩, qn⟩
def lenOwnD (C : Addr) (G : List D → M) : List D → M := fun ds S q _ => on1 ds fun d => isOb C S d ∧ G [d] S (fun r S' => onI r fun n => (0 ≤ n ∧ n < 2 ^ 62) ∧ q (.int n) S') noX
theorem rcm_len {C : Addr} {G : List D → M} : RCM K (rLenOwn C (spG K 1 G)) (lenOwnD C G) := fun as F H S ds vs I r q x h Q hq => by
  obtain ⟨d0, rfl, h⟩ := on1_ok h
  · obtain ⟨v, ws, rfl, rv, rn⟩ := r.unsn
    obtain rfl := rn.unnil
    obtain ⟨a, dx, vfs, rfl, ha⟩ := isOb_at I rv h.1
    refine ⟨a, dx, vfs, rfl, ha, as, F, S, _, _, noX, I, .cons rv .nil, rfl, h.2, fun d S' bs F' H' v h3 g r2 => ?_, XQ.no⟩
    cases r2 with
    | int n => exact ⟨n, rfl, h3.1.1, h3.1.2, hq _ S' bs F' H' _ h3.2 g (.int n)⟩
    | _ => exact h3.elim
def strOwnD (C : Addr) (G : List D → M) : List D → M := fun ds S q _ => on1 ds fun d => isOb C S d ∧ G [d] S (fun r S' => onT r fun t => q (.str t) S') noX
theorem rcm_str {C : Addr} {G : List D → M} : RCM K (rStrOwn C (spG K 1 G)) (strOwnD C G) := fun as F H S ds vs I r q x h Q hq => by
  obtain ⟨d0, rfl, h⟩ := on1_ok h
  · obtain ⟨v, ws, rfl, rv, rn⟩ := r.unsn
    obtain rfl := rn.unnil
    obtain ⟨a, dx, vfs, rfl, ha⟩ := isOb_at I rv h.1
    refine ⟨a, dx, vfs, rfl, ha, as, F, S, _, _, noX, I, .cons rv .nil, rfl, h.2, fun d S' bs F' H' v h3 g r2 => ?_, XQ.no⟩
    cases r2 with
    | str t => exact ⟨t, rfl, hq _ S' bs F' H' _ h3 g (.str t)⟩
    | _ => exact h3.elim
/-! ### x is None -/
def isND (neg : Bool) : WS → D → D → Option D := fun _ x y => match y with
  | .non => (match x with
    | .non => some (.bl (!neg))
    | _ => some (.bl neg))
  | _ => none
theorem rp_non {as : List Addr} {F : Hp} {x : D} {v : V} (r : Rp K as F x v) : (v = .non ↔ x = .non) := by
  cases r <;> simp
theorem ro_isN : RO K (fun x y H Q => y = .non ∧ Q (.bl (decide (x = .non))) H) (isND false) := fun as F H S x y d vx vy I rx ry h Q q => by
  unfold isND at h
  split at h
  · cases ry
    refine ⟨rfl, ?_⟩
    split at h
    · cases h
      cases rx
      exact keep I q (.bl true)
    · rename_i hn
      cases h
      have : decide (vx = V.non) = false := decide_eq_false fun z => hn ((rp_non rx).mp z)
      rw [this]
      exact keep I q (.bl false)
  · cases h
theorem ro_notN : RO K (fun x y H Q => y = .non ∧ Q (.bl (!decide (x = .non))) H) (isND true) := fun as F H S x y d vx vy I rx ry h Q q => by
  unfold isND at h
  split at h
  · cases ry
    refine ⟨rfl, ?_⟩
    split at h
    · cases h
      cases rx
      exact keep I q (.bl false)
    · rename_i hn
      cases h
      have : decide (vx = V.non) = false := decide_eq_false fun z => hn ((rp_non rx).mp z)
      rw [this]
      exact keep I q (.bl true)
  · cases h
end
/-! ### facts about a class's own methods -/
section
variable (P : Program) (w : World) (K : PySem.W.Frag) (mg : Str → Option Value) (base : Heap)
/-- the class at C has the special method m that computes G (n values) -/
def Sc (nn : Bool) (C : Addr) (m : Str) (k n : Nat) (G : List D → M) : Prop := ∃ (f : Addr) (fd : FuncData) (ps : List Str), FnX ⟨false, nn, false⟩ P w K mg base k f fd ps (spG K n G) ∧ Binds K fd ps [] ∧ PySem.W.findIn K (.ref C) m = some (some (.ref f)) ∧ PySem.W.isFn K (.ref f) = true
/-- m is a classmethod of the class at C that computes G (n values: the class, the arguments) -/
def Cm (nn : Bool) (C : Addr) (m : Str) (k n : Nat) (G : List D → M) : Prop := ∃ (q g : Addr) (fd : FuncData) (ps : List Str), ClX.CRead K C (.type "type") ∧ ClX.CMet K C (.type "type") m q g ∧ FnX ⟨false, nn, false⟩ P w K mg base k g fd ps (spG K n G) ∧ Binds K fd ps []
end
section
variable {X : Cx} {W : WX} {o e : Expr} {es : List Expr} {pos apos p : Pos} {ea : Env → M} {er ek : Env → ML} {C : Addr} {m x : Str} {k j n : Nat} {G : List D → M} {pl : Sem Bool} {dvs : List D}
theorem call_lenF (c : Sc X.prog X.w X.K X.mg X.base nn C "__len__" k 1 G) (hr : Room j X.A) (hj : k + 1 ≤ j := by decide) : CallR X (.builtin "len") (rLenOwn C (spG X.K 1 G)) := by
  obtain ⟨f, fd, ps, F, hb, hs, hf⟩ := c
  exact call_lenOwn F hr hj hs hf hb
theorem call_strF (c : Sc X.prog X.w X.K X.mg X.base nn C "__str__" k 1 G) (hr : Room j X.A) (hj : k + 2 ≤ j := by decide) : CallR X (.type "str") (rStrOwn C (spG X.K 1 G)) := by
  obtain ⟨f, fd, ps, F, hb, hs, hf⟩ := c
  exact call_strOwn F hr hj hs hf hb
/-- C.m(e, ..) -/
def eCm (C : Addr) (n : Nat) (G : List D → M) (ea : Env → M) (er : Env → ML) : Env → M := fun ρ S q x => ea ρ S (fun u S1 => u = .adr C ∧ er ρ S1 (fun ds S2 => ds.length + 1 = n ∧ G (.adr C :: ds) S2 q x) x) x
def tCmX (C : Addr) (sp : Sp) (E : L2.St → XK) (ta : TE) (t : TA) : TE := fun σ H Q => ta σ H fun z H1 => z = .ref C ∧ t σ H1 fun vs H2 => sp (.ref C :: vs) H2 Q (E σ)
/-- the call of the bound classmethod -/
theorem run_cm {q0 g : Addr} {fd : FuncData} {ps : List Str} {sp : Sp} {Q : VK} {pins : List (Addr × Obj)} {σ : L2.St} {H : Hp} {s : Shared} {pa : Addr} {args : Args} {us : List Value} {vs : List V} (tk : Tk nn X W) (Fn : FnX ⟨false, nn, false⟩ X.prog X.w X.K X.mg X.base k g fd ps sp) (hr : Room k X.A)
    (I : Inv X ((pa, PySem.W.methodObj (.ref g) (.ref C)) :: pins) σ H s) (hb : BindsTo s fd ⟨.ref C :: args.pos, args.kw⟩ (ps.zip us)) (r : Vals vs us) (h : sp vs H Q (WE W σ)) :
    wpAny (model X.prog X.w) X.A (PySem.call (.ref pa) args.pos args.kw) (EP X ((pa, PySem.W.methodObj (.ref g) (.ref C)) :: pins) σ Q) X.xe s := by
  refine wpAny_call (PySem.W.method_call (ClX.pin_at I) (codeAny_mono (Fn.ok.run X.A X.stack s H _ us vs Q (WE W σ) hr I.env0 hb r h) fun r s' hq => ?_))
  cases r with
  | error e => exact tk.pass σ _ H s e s' I hq
  | ok fl =>
    cases fl with
    | ret w => exact I.after hq
    | next => exact hq.elim
    | brk => exact hq.elim
    | cont => exact hq.elim
theorem ge_cmeth (tk : Tk nn X W) (c : Cm X.prog X.w X.K X.mg X.base nn C m k n G) (hr : Room j X.A) (ho : GE X W o ea) (ha : GA X W (e :: es) er) (hj : k ≤ j := by decide)
    (hst : starEach (e :: es) X.env = (false, eval e X.env) :: starEach es X.env := by rfl) (hpl : (backTo pos (starEach es X.env)).any (·.1) = false := by rfl)
    (ht : eval (.Call (.Attribute o m apos) (e :: es) [] pos) X.env = (do
      let ov ← eval o X.env
      standAt apos.atName
      let (f, first) ← holding [ov] (getMethod ov m pl)
      callWith pos f first (backTo pos (starEach (e :: es) X.env)) (backToKw pos (keywordEach [] X.env))) := by rfl) :
    GE X W (.Call (.Attribute o m apos) (e :: es) [] pos) (eCm C n G ea er) := by
  obtain ⟨q, g, fd, ps, rd, cm, F, hb⟩ := c
  obtain ⟨to, po, mo⟩ := ho
  obtain ⟨t, pa, ma⟩ := ha
  refine ⟨tCmX C (spG X.K n G) (WE W) to t, ⟨fun pins s σ H Q I h => ?_⟩, fun as F H S ρ σ I R q x h Q hq hx => ?_⟩
  · refine PySem.W.methodCall_KW (pl := pl) (thn (po.run pins s σ H _ I h) fun u s1 hh => ?_) ht
    obtain ⟨z, H1, I1, rx, ex, q1⟩ := hh
    subst ex
    obtain rfl : u = Value.ref C := rx
    refine ClX.getmethcm_ok I1 rd cm fun s2 I2 => ?_
    refine ClX.callwith_cm I2 (ClX.base_none I1 (Nat.le_refl _)) cm.fi (thn (pa.run pos _ s2 σ H1 _ I2 q1) fun us s3 hh => ?_) hst hpl
    obtain ⟨vs, H2, I3, rv, q2⟩ := hh
    refine ⟨⟨ClX.pin_at I3, I3.kIn⟩, ?_⟩
    have r2 : Vals (V.ref C :: vs) (Value.ref C :: us) := .cons rfl rv
    have hl : (Value.ref C :: us).length = ps.length := r2.length.symm.trans (F.len _ _ _ _ q2)
    have bb := hb s3 (Value.ref C :: us) I3.kIn (by simpa using hl)
    rw [List.append_nil] at bb
    exact thn (run_cm (q0 := q) (args := ⟨us, []⟩) tk F (hr.mono hj) I3 bb r2 q2) fun _ _ y => ClX.unpinE y
  · refine mo as F H S ρ σ I R _ x h _ (fun u S1 bs F1 H1 v h1 g1 r1 => ?_) hx
    obtain ⟨e1, h1⟩ := h1
    subst e1
    cases r1
    refine ⟨rfl, ?_⟩
    refine ma bs F1 H1 S1 ρ σ g1.sit (R.grow g1) _ x h1 _ (fun ds S2 cs F2 H2 vs h2 g2 r2 => ?_) (hx.step g1)
    have g12 := g1.trans g2
    exact ⟨cs, F2, S2, _, q, x, g2.sit, .cons (.adr _) r2, by simpa using h2.1, h2.2, hq.step g12, hx.step g12⟩
/-! ### cls(e, ..), the class held by a slot -/
def eMakeL (i : Nat) (l : Lk) (C : Addr) (n : Nat) (G : List D → M) (dvs : List D) (er : Env → ML) : Env → M := fun ρ S q x => look ρ i = some (.adr C) ∧ eMake l C n G dvs er ρ S q x
theorem ge_makeLF (i : Nat) {l : Lk} {y : Str} (tk : Tk nn X W) (c : Mc X.prog X.w X.K X.mg X.base nn y C k n G dvs) (hr : Room j X.A) (ha : GA X W (e :: es) er) (hj : k + 1 ≤ j := by decide) (hN : X.N[i]? = some x := by rfl) (hv : Vis X.env.scope x := by first | exact .inl rfl | exact .inr (.inl rfl) | exact .inr (.inr rfl) | exact .inr rfl)
    (hdb : (x == ("__debug__" : Str)) = false := by decide) (hcd : (x == ("__classdict__" : Str)) = false := by decide) (h1 : starEach (e :: es) X.env = (false, eval e X.env) :: starEach es X.env := by rfl) (h2 : (backTo pos (starEach es X.env)).any (·.1) = false := by rfl) :
    GE X W (.Call (.Name x p) (e :: es) [] pos) (eMakeL i l C n G dvs er) := by
  obtain ⟨f, fd, ps, dv, ds, Mm, Fn, hb, hd, hdv, hm⟩ := c
  obtain ⟨t, pa, ma⟩ := ha
  refine ⟨fun σ H Q => σ[i]? = some (some (.ref C)) ∧ tMakeX C (spG X.K n G) dv (WE W) t σ H Q, ⟨fun pins s σ H Q I h => ?_⟩, fun as F H S ρ σ I R q x h Q hq hx => ?_⟩
  · obtain ⟨hs, ht⟩ := h
    refine wpAny_Call_Name_kw (thn ((pe_var (pos := p) hN hv hdb hcd).run pins s σ H (fun v H1 => v = .ref C ∧ H1 = H) I ⟨.ref C, hs, rfl, rfl⟩) fun u s1 hh => ?_)
    obtain ⟨v, H1, I1, r1, q1⟩ := hh
    obtain ⟨rfl, rfl⟩ := q1
    cases r1
    refine PySem.W.callWith_K (h₀ := X.base) I.ok.mod.kin Mm.kp (thn (pa.run pos pins s1 σ _ _ I1 ht) fun us s2 hh => ?_) h1 h2
    obtain ⟨vs, H2, I2, r, q2⟩ := hh
    exact ⟨I2.kIn, run_makeX Mm Fn (hr.mono hj) hb hd tk I2 r q2⟩
  · obtain ⟨v, hv2, rv⟩ := R.at_ i _ (look_at h.1)
    cases rv
    exact ⟨hv2, me_make hdv ma as F H S ρ σ I R q x h.2 Q hq hx⟩
end
end RV
end
section
/-! The head's facts: classes, properties, own ==, tables; keywords without defaults. -/
namespace RV
open PySem L2
variable {nn : Bool}
open He (eqO eqO_ok ba ga ma)
section
variable {K : PySem.W.Frag}
def kindB (K : PySem.W.Frag) (C : Addr) : Bool := eqO (PySem.W.findIn K (.ref C) "__class__") (some (some (.builtin "object.__class__"))) && (eqO (PySem.W.specialIn K (.builtin "object.__class__") "__get__") (some (some (.builtin "getset_descriptor.__get__"))) &&
  (decide (PySem.W.takesIn K (.builtin "object.__class__") = some true) && decide (PySem.W.mroIn K C (.type "object") = some true)))
theorem kindB_ok {C : Addr} (cl : Cls K C) (h : kindB K C = true) : KindC K C := by
  obtain ⟨h1, h⟩ := ba h
  obtain ⟨h2, h⟩ := ba h
  obtain ⟨h3, h4⟩ := ba h
  exact ⟨cl, eqO_ok h1, eqO_ok h2, of_decide_eq_true h3, of_decide_eq_true h4⟩
def propB (K : PySem.W.Frag) (C : Addr) (f : Str) : Bool := eqO (PySem.W.findIn K (.ref C) f) (some (some (.ref (ma K C f)))) && (eqO (PySem.W.specialIn K (.ref (ma K C f)) "__get__") (some (some (.builtin "property.__get__"))) &&
  (decide (PySem.W.takesIn K (.ref (ma K C f)) = some true) && (match PySem.W.recIn K (ma K C f) "property" with
    | some (.ref g :: _) => decide (g = He5.wf K C "property" f)
    | _ => false)))
theorem propB_ok {C : Addr} {f : Str} (h : propB K C f = true) : PropOf K C f (ma K C f) (He5.wf K C "property" f) := by
  obtain ⟨h1, h⟩ := ba h
  obtain ⟨h2, h⟩ := ba h
  obtain ⟨h3, h4⟩ := ba h
  refine ⟨eqO_ok h1, eqO_ok h2, of_decide_eq_true h3, ?_⟩
  split at h4
  · rename_i g r e
    have := of_decide_eq_true h4
    subst this
    exact ⟨r, e⟩
  · cases h4
def eqB (K : PySem.W.Frag) (C : Addr) : Bool := eqO (PySem.W.findIn K (.ref C) "__eq__") (some (some (.ref (ma K C "__eq__")))) && (PySem.W.isFn K (.ref (ma K C "__eq__")) && (eqO (PySem.W.findIn K (.ref C) "__ne__") (some (some (.builtin "object.__ne__"))) && decide (PySem.W.mroIn K C (.type "object") = some true)))
theorem ec_of {P : Program} {w : World} {mg : Str → Option Value} {base : Heap} {C : Addr} {k : Nat} {G : List D → M} {fd : FuncData} {ps : List Str} (h : eqB K C = true) (F : FnX ⟨false, nn, false⟩ P w K mg base k (ma K C "__eq__") fd ps (spG K 2 G)) (b : Binds K fd ps []) : Ec P w K mg base nn C k G := by
  obtain ⟨h1, h⟩ := ba h
  obtain ⟨h2, h⟩ := ba h
  obtain ⟨h3, h4⟩ := ba h
  exact ⟨_, fd, ps, F, b, eqO_ok h1, h2, eqO_ok h3, of_decide_eq_true h4⟩
/-- isinstance among ts (kinds) and us (classes): sub tells -/
def tabD (ts us : List Value) (sub : Value → Value → Bool) (t u : Value) : Option Bool := if t ∈ ts ∧ u ∈ us then some (sub t u) else none
def tabB (K : PySem.W.Frag) (ts us : List Value) (sub : Value → Value → Bool) : Bool := ts.all fun t => us.all fun u => decide (PySem.W.kitOne K t u = some (sub t u))
theorem tabB_ok {ts us : List Value} {sub : Value → Value → Bool} (h : tabB K ts us sub = true) (t u : Value) (b : Bool) (e : tabD ts us sub t u = some b) : PySem.W.kitOne K t u = some b := by
  unfold tabD at e
  split at e
  · rename_i hm
    cases e
    exact of_decide_eq_true (List.all_eq_true.mp (List.all_eq_true.mp h t hm.1) u hm.2)
  · cases e
def nfB (K : PySem.W.Frag) (C : Addr) (ts : List Value) : Bool := ts.all fun t => PySem.W.notFirst K C t
def nfD (ts : List Value) (t : Value) : Bool := decide (t ∈ ts)
theorem nfB_ok {C : Addr} {ts : List Value} (h : nfB K C ts = true) (t : Value) (e : nfD ts t = true) : PySem.W.notFirst K C t = true := List.all_eq_true.mp h t (of_decide_eq_true e)
theorem kbn0 {x qual : Str} {params : Arguments} {body : List Stmt} {scope : Scope} {kws : List (Str × V)} {f : Addr} {fd : FuncData} {ps : List Str} (F : FunD K x qual params body scope [] kws f fd) (n : Nat) (ks : List Str) (g : {α : Type} → List α → List α → List α)
    (hrel : ∀ {vs zs : List V} {us ws : List Value}, Vals vs us → Vals zs ws → Vals (g vs zs) (g us ws))
    (h : ∀ (kV doc pm : Value) (an : Option Addr) (cdv ct : Value) (us ws : List Value), us.length = n → ws.length = ks.length → bindArgs (PySem.W.fnOf x qual params body scope .none kV doc pm an cdv ct) ⟨us, ks.zip ws⟩ = pure (ps.zip (g us ws))) : KBn K fd ps n ks g g := by
  obtain ⟨oc, od, dV, kV, doc, pm, an, cdv, ct, osl, rfl, lk, hcd, hD, hK⟩ := F.ex
  rcases hD with ⟨_, rfl⟩ | ⟨e, _⟩
  · exact ⟨fun s us ws X l1 l2 => BindsTo.of_eq (h kV doc pm an cdv ct us ws l1 l2), fun r1 r2 => hrel r1 r2⟩
  · exact absurd rfl e
end
end RV
namespace RV
open PySem L2
open He (eqO eqO_ok ba ga ma)
/-- keywords' values into the parameters' order -/
def perm {α : Type} (m : List Nat) (us ws : List α) : List α := us ++ m.flatMap fun i => (ws.drop i).take 1
theorem vals_take1 {vs : List V} {us : List Value} (h : Vals vs us) : Vals (vs.take 1) (us.take 1) := by
  cases h with
  | nil => exact .nil
  | cons a _ => exact .cons a .nil
theorem vals_perm {m : List Nat} {vs zs : List V} {us ws : List Value} (r1 : Vals vs us) (r2 : Vals zs ws) : Vals (perm m vs zs) (perm m us ws) := by
  refine r1.append ?_
  induction m with
  | nil => exact .nil
  | cons i m ih =>
    rw [List.flatMap_cons, List.flatMap_cons]
    exact (vals_take1 (r2.drop i)).append ih
theorem rpl_drop {K : PySem.W.Frag} {as : List Addr} {F : Hp} : ∀ (n : Nat) {ds : List D} {vs : List V}, RpL K as F ds vs → RpL K as F (ds.drop n) (vs.drop n)
  | 0, _, _, h => h
  | _ + 1, _, _, .nil => .nil
  | n + 1, _, _, .cons _ r => rpl_drop n r
theorem rpl_take1 {K : PySem.W.Frag} {as : List Addr} {F : Hp} {ds : List D} {vs : List V} (h : RpL K as F ds vs) : RpL K as F (ds.take 1) (vs.take 1) := by
  cases h with
  | nil => exact .nil
  | cons a _ => exact .cons a .nil
theorem rpl_perm {K : PySem.W.Frag} {as : List Addr} {F : Hp} {m : List Nat} {ds zs : List D} {vs ws : List V} (r1 : RpL K as F ds vs) (r2 : RpL K as F zs ws) : RpL K as F (perm m ds zs) (perm m vs ws) := by
  refine r1.append ?_
  induction m with
  | nil => exact .nil
  | cons i m ih =>
    rw [List.flatMap_cons, List.flatMap_cons]
    exact (rpl_take1 (rpl_drop i r2)).append ih
theorem mkK_of {P : Program} {w : World} {K : PySem.W.Frag} {mg : Str → Option Value} {base : Heap} {x y qual : Str} {params : Arguments} {body : List Stmt} {scope : Scope} {kws : List (Str × V)} {f C : Addr} {fd : FuncData} {ps : List Str} {k n : Nat} {G : List D → M} (m1 : Nat) (ks : List Str) (m : List Nat) (F : FunD K x qual params body scope [] kws f fd) (M : Mk K C f) (ok : FnX ⟨false, nn, false⟩ P w K mg base k f fd ps (spG K n G)) (hm : mg y = some (.ref C))
    (h : ∀ (kV doc pm : Value) (an : Option Addr) (cdv ct : Value) (us ws : List Value), us.length = m1 + 1 → ws.length = ks.length → bindArgs (PySem.W.fnOf x qual params body scope .none kV doc pm an cdv ct) ⟨us, ks.zip ws⟩ = pure (ps.zip (perm m us ws))) :
    Mk_ P w K mg base nn y C k n m1 ks G (perm m) :=
  ⟨f, fd, ps, perm m, perm m, M, ok, kbn0 F (m1 + 1) ks (perm m) vals_perm h, fun as F ds zs vs ws s r1 r2 _ _ => ⟨perm m vs ws, rfl, rpl_perm r1 r2⟩, hm⟩
end RV
namespace RV
open PySem L2
/-! ### the head -/
section
open He (eqO eqO_ok ba ga ma)
variable {P : Program} {w : World} {K : PySem.W.Frag} {mg : Str → Option Value} {base : Heap} {C : Addr} {k n : Nat} {G : List D → M} {fd : FuncData} {ps : List Str}
def specB (K : PySem.W.Frag) (C : Addr) (m : Str) : Bool := eqO (PySem.W.findIn K (.ref C) m) (some (some (.ref (ma K C m)))) && PySem.W.isFn K (.ref (ma K C m))
theorem sc_of {m : Str} (h : specB K C m = true) (F : FnX ⟨false, nn, false⟩ P w K mg base k (ma K C m) fd ps (spG K n G)) (b : Binds K fd ps []) : Sc P w K mg base nn C m k n G :=
  ⟨_, fd, ps, F, b, eqO_ok (ba h).1, (ba h).2⟩
def readB (K : PySem.W.Frag) (C : Addr) : Bool := PySem.W.readsIn K C (.type "type") && eqO (PySem.W.specialIn K (.ref C) "__getattribute__") (some (some (.builtin "type.__getattribute__")))
def cmetB (K : PySem.W.Frag) (C : Addr) (m : Str) : Bool := He5.wrapB K C "classmethod" "classmethod.__get__" m && PySem.W.fnIn K (He5.wf K C "classmethod" m)
theorem cm_of {m : Str} (h0 : readB K C = true) (h : cmetB K C m = true) (F : FnX ⟨false, nn, false⟩ P w K mg base k (He5.wf K C "classmethod" m) fd ps (spG K n G)) (b : Binds K fd ps []) : Cm P w K mg base nn C m k n G :=
  ⟨_, _, fd, ps, ⟨(ba h0).1, eqO_ok (ba h0).2⟩, He5.cmet_of (ba h).1 (ba h).2, F, b⟩
end
end RV
end
section
/-! The own classes of a text; small things for the printed proofs. -/
namespace RV
open PySem L2
variable {nn : Bool}
/-- where the own classes stand; those that are there -/
structure Ad where
  c : String → Addr
  here : List String
  t : String → Addr := fun _ => 0
structure AdOk (A : Ad) (cs : List String) : Prop where
  here : A.here = cs
  nd : (cs.map A.c).Nodup
def own (A : Ad) (C : Addr) : Bool := A.here.any fun n => A.c n == C
def kinds (A : Ad) : List Value := [.type "NoneType", .type "bool", .type "int", .type "str", .type "tuple", .type "list", .type "dict"] ++ A.here.map fun n => .ref (A.c n)
def clss (A : Ad) : List Value := [.type "bool", .type "int", .type "str", .type "tuple", .type "list", .type "dict"] ++ A.here.map fun n => .ref (A.c n)
def sub (_ : Ad) (t u : Value) : Bool := decide (t = u) || (decide (t = .type "bool") && decide (u = .type "int"))
def tab (A : Ad) : Value → Value → Option Bool := tabD (kinds A) (clss A) (sub A)
def nf (A : Ad) : Value → Bool := nfD (kinds A)
theorem own_of {K : PySem.W.Frag} {A : Ad} (h : ∀ n ∈ A.here, KindC K (A.c n)) (C : Addr) (e : own A C = true) : KindC K C := by
  unfold own at e
  obtain ⟨n, hn, e⟩ := List.any_eq_true.mp e
  rw [← beq_iff_eq.mp e]
  exact h n hn
theorem nogd {p : Prop} : false = true → p := fun h => nomatch h
theorem FnX.up {P : Program} {w : World} {K : PySem.W.Frag} {mg : Str → Option Value} {base : Heap} {k : Nat} {f : Addr} {fd : FuncData} {ps : List Str} {sp : Sp} (F : FnX ⟨false, nn, false⟩ P w K mg base k f fd ps sp) : FnX ⟨true, nn, false⟩ P w K mg base k f fd ps sp :=
  ⟨F.len, fun A outer s H args us vs Q E _ => F.run A outer s H args us vs Q E nogd⟩
section
variable {X : Cx} {W : WX} {pos : Pos}
/-- a try whose body raises nothing -/
def sCalm (m : Env → MS) : Env → MS := fun ρ S k => m ρ S ⟨k.nx, k.rt, k.bk, k.ct, fun _ _ _ => False⟩
theorem gs_tryThru {body : List Stmt} {h0 : ExceptHandler} {hs : List ExceptHandler} {m : Env → MS} (h : GSs X.nox WF body m) : GS X W (.Try body (h0 :: hs) [] [] pos) (sCalm m) := by
  obtain ⟨t, p, m⟩ := h
  exact ⟨_, ps_try_thru0 p, fun as F H S ρ σ I R k h E q => m as F H S ρ σ I R _ h E ⟨q.nx, q.rt, q.bk, q.ct, fun _ _ _ _ _ _ _ _ _ h => h.elim⟩⟩
end
end RV
end
section
/-! Own errors over ValueError, LookupError, ArithmeticError. -/
namespace RV
open PySem PySem.W PySem.Calls PyProof.Rows
/-- a built-in under which own errors stand: its __new__, its mro -/
inductive ErrB : String → List Value → Prop where
  | val : ErrB "ValueError.__new__" [.type "ValueError", .type "Exception", .type "BaseException", .type "object"]
  | look : ErrB "LookupError.__new__" [.type "LookupError", .type "Exception", .type "BaseException", .type "object"]
  | arith : ErrB "ArithmeticError.__new__" [.type "ArithmeticError", .type "Exception", .type "BaseException", .type "object"]
theorem ErrB.base {n : String} {l : List Value} (h : ErrB n l) : ∃ B i, ExcBaseFacts B n i l := by
  cases h with
  | val => exact ⟨_, _, F.excBase_ValueError⟩
  | look => exact ⟨_, _, F.excBase_LookupError⟩
  | arith => exact ⟨_, _, F.excBase_ArithmeticError⟩
theorem ErrB.pass {n : String} {l : List Value} (h : ErrB n l) (self : Value) : refuseLoop self "__setattr__" l = pure () := by
  cases h with
  | val => exact F.store_ValueError.passes self
  | look => exact F.store_LookupError.passes self
  | arith => exact F.store_ArithmeticError.passes self
theorem ErrB.obj {n : String} {l : List Value} (h : ErrB n l) : l.contains (.type "object") = true := by
  cases h <;> decide +kernel
section
open Builtin Builtin.ObjectAttr HandSPX
variable {prog : Program} {w : World} {A : Around} {E : Value → Shared → Prop} {R : Result → Shared → Prop} {hp : Heap} {g : Array GenState} {d : Drawn} {t : Nat} {os : OsState}
end
end RV
namespace RV
open PySem L2
/-- what the written part says of an own error's class -/
structure OexG (K : PySem.W.Frag) (C : Addr) : Prop where
  cls : ∃ n bl, ErrB n bl ∧ ∃ nm q N bs bm sn sub ab col dd k0 k1 k2 k3 k5, K.lookup C = some (excClassObj nm q C N bs bm true sn sub ab col dd k0 k1 k2 k3 k5 n) ∧ PySem.W.excTail bl bm = true
  sa : PySem.W.findIn K (.ref C) "__setattr__" = some (some (.builtin "object.__setattr__"))
  exC : PySem.W.subIn K (.ref C) (.type "BaseException") = some true
  tyC : PySem.W.typeIn K (.ref C) = some (.type "type")
  kC : PySem.W.keepIn K (.ref C) = true
section
variable {X : Cx} {pins : List (Addr × Obj)} {σ : L2.St} {H : Hp} {s : Shared} {a C dx : Addr} {f : Str} {y : V} {u : Value} {Q : Unit → Shared → Prop} {E : Value → Shared → Prop} {A : Around}
end
end RV
end
section
/-! An own error is raised: its __init__ keeps the one value that it is given. -/
namespace RV
open PySem L2
variable {nn h : Bool}
section
variable {P : Program} {w : World} {K : PySem.W.Frag} {mg : Str → Option Value} {base : Heap}
end
section
variable {X : Cx} {W : WX} {e : Expr} {te : TE} {pos p : Pos} {x g : Str} {C : Addr} {j : Nat}
/-! ### the statement -/
end
end RV
end
section
/-! try .. except C: a suite that raises nothing and calls nothing. -/
namespace RV
open PySem L2
def onX (e : D) (k : Addr → List (Str × D) → Prop) : Prop := match e with
  | .exc C fs => k C fs
  | _ => False
theorem onX_e {C : Addr} {fs : List (Str × D)} {k : Addr → List (Str × D) → Prop} : onX (.exc C fs) k = k C fs := rfl
section
variable {X : Cx} {W : WX} {x : Str} {c : Value} {body suite : List Stmt} {b0 : Stmt} {np pos pos' : Pos} {mb ms : Env → MS} {L : List Addr}
/-! ### a suite that raises another error -/
theorem FnX.hot {nn : Bool} {P : Program} {w : World} {K : PySem.W.Frag} {mg : Str → Option Value} {base : Heap} {k : Nat} {f : Addr} {fd : FuncData} {ps : List Str} {sp : Sp} (F : FnX ⟨false, nn, true⟩ P w K mg base k f fd ps sp) : L2H.FnH P w K mg base (CXm nn P w) k f fd ps sp :=
  ⟨F.len, fun A outer s H args us vs Q E p hr hot hp e0 hb r h => F.run A outer s H args us vs Q E (fun z => nomatch z) ⟨hr, p, hp, hot.1, fun _ => hot.2⟩ e0 hb r h⟩
end
end RV
end
section
/-! try .. except (A, B, C) as n: every error of the body is one of them. -/
namespace RV
open PySem L2 PySem.Spec PyProof.Rows
/-- the ends of a suite whose name n (slot i) is gone behind it -/
def endsAs (i : Nat) (E : Ends) : Ends := { nx := fun σ H => E.nx (σ.set i none) H, rt := E.rt, bk := fun σ H => E.bk (σ.set i none) H, ct := fun σ H => E.ct (σ.set i none) H }
def w3 (K : PySem.W.Frag) (cs : List Value) (i : Nat) (ts : Addr → Value → Option Addr → TS) (E : Ends) : WX := fun cls d σ H => PySem.W.exmAny K cls cs = some true ∧ ∀ a, H a = none → ts a cls d (endsAs i E) (σ.set i (some (.ref a))) H
section
variable {X : Cx} {x1 x2 x3 n : Str} {c1 c2 c3 : Value} {i : Nat} {body suite : List Stmt} {b0 : Stmt} {p1 p2 p3 p4 pos pos' : Pos} {k4 : Nat} {tb : WX → TS} {ts : Addr → Value → Option Addr → TS}
end
section
variable {X : Cx} {W : WX} {x1 x2 x3 n : Str} {c1 c2 c3 : Value} {body suite : List Stmt} {b0 : Stmt} {p1 p2 p3 p4 pos pos' : Pos} {k4 : Nat} {mb : Env → MS} {ms : Addr → Addr → Addr → Env → MS} {L : List Addr}
end
end RV
end
section
/-! The error that is handled, as a value: its fields; isinstance. -/
namespace RV
open PySem PySem.W PySem.Spec PySem.Calls PyProof.Rows
section
variable {prog : Program} {w : World} {A : Around} {E : Value → Shared → Prop} {s : Shared} {K : Frag} {x D : Addr} {ox : Obj} {od : Option Obj}
end
open L2
section
variable {X : Cx} {a C d : Addr} {oe : Obj}
def onV (a C d : Addr) (u : D) (k : List (Str × D) → Prop) : Prop := match u with
  | .exv a1 C1 d1 fs => (a1 = a ∧ C1 = C ∧ d1 = d) ∧ k fs
  | _ => False
theorem onV_v {fs : List (Str × D)} {k : List (Str × D) → Prop} : onV a C d (.exv a C d fs) k = k fs := by simp [onV]
end
end RV
end
section
/-! A def that is called with the error that is handled. -/
namespace RV
open PySem L2
structure FnE (g : Bool) (P : Program) (w : World) (K : PySem.W.Frag) (mg : Str → Option Value) (base : Heap) (k : Nat) (f : Addr) (fd : FuncData) (ps : List Str) (sp : Addr → Addr → Addr → Sp) : Prop where
  len : ∀ a C d vs H Q E, sp a C d vs H Q E → vs.length = ps.length
  run : ∀ (A : Around) (outer : List PySem.Env) (s : Shared) (H : Hp) (args : Args) (us : List Value) (vs : List V) (Q : VK) (a C d : Addr) (oe : Obj), (g = true → A.guards = some []) → L2H.RoomH k A → A.handled = some (.ref a) → L2H.PinOk outer H s (a, oe) → Zz zN (.ref C) (some d) oe → (∃ zs, oe.data = .fields zs) →
    Env0 P w K mg base A outer s H → BindsTo s fd args (ps.zip us) → Vals vs us → sp a C d vs H Q E0 → codeAny (model P w) A (.call (.ref f) args) (CR (CXm false P w) outer P w H s Q E0) s
section
variable {P : Program} {w : World} {K : PySem.W.Frag} {mg : Str → Option Value} {base : Heap}
end
section
variable {X : Cx} {W : WX} {e : Expr} {es : List Expr} {pos p : Pos} {er : Env → ML} {x : Str} {k j n : Nat} {g : Bool} {G : Addr → Addr → Addr → List D → M} {a C d : Addr} {oe : Obj}
end
end RV
end
section
/-! count and index of a list of flat things. -/
namespace RV
open PySem L2 PySem.Spec PyProof.Rows
section
variable {X : Cx}
end
def onLs (u : D) (k : List D → Prop) : Prop := match u with
  | .lst ds => k ds
  | _ => False
theorem onLs_l {ds : List D} {k : List D → Prop} : onLs (.lst ds) k = k ds := rfl
section
variable {X : Cx} {W : WX} {o e : Expr} {eo ee : RV.Env → M} {apos cpos : Pos}
end
end RV
end
section
/-! str of an integer. -/
namespace RV
open PySem L2
end RV
end
section
/-! A lambda without parameters, made where a table of code objects is a cell; its call. -/
namespace RV
open PySem PySem.Spec PyProof.Rows L2
section
variable {X : Cx} {pins : List (Addr × Obj)} {σ : L2.St} {H : Hp} {s : Shared}
/-- what the heap's table looks like behind the making -/
def LamStep (H : Hp) (P c : Addr) (q : Str) (ps : Array Value) (pos : Pos) (H1 : Hp) : Prop := (H1 = H ∧ codeAmong pos ps.toList = some (.ref c)) ∨ (H c = none ∧ H1 = upd (upd H P (.tbl (ps ++ #[rawInt pos.line, rawInt pos.col, .ref c]))) c (LamX.CodeO c q))
end
theorem LamStep.grow {K : PySem.W.Frag} {as : List Addr} {F H H1 : Hp} {S : WS} {i : Nat} {P p c : Addr} {q : Str} {ps : Array Value} {pos : Pos} (x : LamStep H P c q ps pos H1) (I : Sit K as F H S) (ha : as[i]? = some p) (hS : S[i]? = some (.tab P q)) (hP : H P = some (.tbl ps)) :
    ∃ F1, Grow K as F H as F1 H1 S ∧ F1 c = some (LamX.CodeO c q) := by
  obtain ⟨z1, o, z2, z3⟩ := I.cell i p _ ha hS
  cases o with
  | tbl ps0 =>
    obtain ⟨rfl, t1, t2⟩ := z3
    rw [hP] at z2
    cases z2
    rcases x with ⟨rfl, hit⟩ | ⟨hn, rfl⟩
    · obtain ⟨c0, e1, e2⟩ := t2 pos _ hit
      cases e1
      exact ⟨F, Grow.refl I, e2⟩
    · have nP : p ≠ c := ne_of_none hP hn
      have g1 := I.grow (o := LamX.CodeO c q) hn
      have eL : (ps ++ #[rawInt pos.line, rawInt pos.col, .ref c]).toList = ps.toList ++ [rawInt pos.line, rawInt pos.col, .ref c] := by simp
      have ok : CellOf K (upd F c (LamX.CodeO c q)) p (.tab p q) (.tbl (ps ++ #[rawInt pos.line, rawInt pos.col, .ref c])) := by
        refine ⟨rfl, by rw [eL]; exact PySem.TriplesOk_snoc _ _ _ _ t1, fun pos1 cv e => ?_⟩
        rw [eL] at e
        rcases LamX.among_app _ t1 e with z | z
        · obtain ⟨c0, e1, e2⟩ := t2 pos1 cv z
          exact ⟨c0, e1, g1.ex _ _ e2⟩
        · exact ⟨c, z, upd_same⟩
      have g2 := g1.sit.put ha hS rfl rfl ok
      have eS : S.set i (.tab p q) = S := by
        apply List.ext_getElem?
        intro j
        by_cases hj : i = j
        · subst hj
          rw [List.getElem?_set_self (List.getElem?_eq_some_iff.mp hS).1, hS]
        · rw [List.getElem?_set_ne hj]
      have eH : upd (upd H c (LamX.CodeO c q)) p (.tbl (ps ++ #[rawInt pos.line, rawInt pos.col, .ref c])) = upd (upd H p (.tbl (ps ++ #[rawInt pos.line, rawInt pos.col, .ref c]))) c (LamX.CodeO c q) := by
        funext b
        by_cases h1 : b = c
        · subst h1
          rw [upd_same, upd_ne (Ne.symm nP), upd_same]
        · by_cases h2 : b = p
          · subst h2
            rw [upd_same, upd_ne h1, upd_same]
          · rw [upd_ne h2, upd_ne h1, upd_ne h1, upd_ne h2]
      rw [eS, eH] at g2
      exact ⟨_, g1.trans g2, upd_same⟩
  | _ => exact z3.elim
/-! ### the lambda is called -/
section
variable {X : Cx} {pins : List (Addr × Obj)} {σ : L2.St} {H : Hp} {s : Shared}
end
end RV
end
section
/-! x(lambda: body), x a def that catches what its argument's call raises. -/
namespace RV
open PySem PySem.Spec PyProof.Rows L2
def ktC (n : Nat) (q : D → WS → Prop) : Kt := ⟨fun _ _ => False, fun d S2 => fin n d S2 q, fun _ _ => False, fun _ _ => False, fun _ _ _ => False⟩
def qTold (N i : Nat) (f : Addr) (mt : RV.Env → M) (n : Nat) (q : D → WS → Prop) : D → WS → Prop := fun d S' => mt ((startE N [.adr f]).set i (some d)) S' (fun d2 S2 => fin n d2 S2 q) noX
def xSaid (L : List Addr) (N j : Nat) (f : Addr) (ms : Addr → Addr → Addr → RV.Env → MS) (n : Nat) (q : D → WS → Prop) : Xq := fun e S' => onX e fun C fs => C ∈ L ∧ ∀ a d, ms a C d ((startE N [.adr f]).set j (some (.exv a C d fs))) S' (ktC n q)
/-- the def's own part; ta: what the call of its argument does -/
structure CcB (P : Program) (w : World) (K : PySem.W.Frag) (mg : Str → Option Value) (base : Heap) (x a : Str) (kc : Nat) (L : List Addr) (N i j : Nat) (mt : RV.Env → M) (ms : Addr → Addr → Addr → RV.Env → MS) (g : Addr) (Ng : List Str) (bg : List Stmt) (sg : Scope) (cdv : Value) : Prop where
  run : ∀ (A : Around) (outer : List PySem.Env) (s : Shared) (H : Hp), A.guards = some [] → Room kc (A.deeper (envOfC x sg s.heap.objs.size g cdv)) → ∀ ta : WX → TE,
    (∀ (W : WX) (pn : List (Addr × Obj)) (xe : Value → Shared → Prop) (p1 p2 : Pos), Tk zN ((cxOf (CXm false P w) P w K mg base Ng x sg g cdv A outer s H E0).tr pn xe) W → PE ((cxOf (CXm false P w) P w K mg base Ng x sg g cdv A outer s H E0).tr pn xe) (.Call (.Name a p1) [] [] p2) (ta W)) →
    ∃ t, PSs (cxOf (CXm false P w) P w K mg base Ng x sg g cdv A outer s H E0) bg t ∧ ∀ (f : Addr) (as : List Addr) (F H1 : Hp) (S : WS) (q : D → WS → Prop) (Q : VK), Sit K as F H1 S → NQ K as F H1 q Q →
      (∀ (W : WX) (Qn : VK), NQ K as F H1 (qTold N i f mt S.length q) Qn → XQ K as F H1 (xSaid L N j f ms S.length q) (WE W (L2.start Ng [.ref f])) → ta W (L2.start Ng [.ref f]) H1 Qn) → t { nx := fun _ H' => Q .non H', rt := Q } (L2.start Ng [.ref f]) H1
section
variable {P : Program} {w : World} {K : PySem.W.Frag} {mg : Str → Option Value} {base : Heap}
end
section
variable {X : Cx} {W : WX}
end
end RV
end
section
/-! dicts that stand still; repr with dicts, also while an error is handled; str of flat things; list * int. -/
namespace RV
open PySem L2
section
variable {K : PySem.W.Frag} {as : List Addr} {F H : Hp} {S : WS} {X : Cx} {W : WX} {pos : Pos}
/-! ### displays -/
def flatVV : List (V × V) → List V
  | [] => []
  | p :: r => p.1 :: p.2 :: flatVV r
def keyOfD : D → Option Key
  | .int i => some (.inl i)
  | .str s => some (.inr s)
  | _ => none
def putKD (kvs : List (Key × D)) (k : Key) (v : D) : List (Key × D) :=
  if (kvs.any fun kv => decide (kv.1 = k)) = true then kvs.map (fun kv => if kv.1 = k then (kv.1, v) else kv) else kvs ++ [(k, v)]
def mergeD (kvs more : List (Key × D)) : List (Key × D) := more.foldl (fun acc kv => putKD acc kv.1 kv.2) kvs
theorem RpK.app : ∀ {a b : List (Key × D)} {va vb : List (Key × V)}, RpK K as F a va → RpK K as F b vb → RpK K as F (a ++ b) (va ++ vb)
  | _, _, _, _, .nil, s => s
  | _, _, _, _, .cons h r, s => .cons h (r.app s)
theorem RpK.any1 {k : Key} : ∀ {kvs : List (Key × D)} {vkv : List (Key × V)}, RpK K as F kvs vkv → (kvs.any fun kv => decide (kv.1 = k)) = (vkv.any fun kv => decide (kv.1 = k))
  | _, _, .nil => rfl
  | _, _, .cons _ r => by simp only [List.any_cons, r.any1]
theorem RpK.map1 {k : Key} {d : D} {v : V} (h : Rp K as F d v) : ∀ {kvs : List (Key × D)} {vkv : List (Key × V)}, RpK K as F kvs vkv → RpK K as F (kvs.map fun kv => if kv.1 = k then (kv.1, d) else kv) (vkv.map fun kv => if kv.1 = k then (kv.1, v) else kv)
  | _, _, .nil => .nil
  | _, _, .cons (n := n) h1 r => by
    simp only [List.map_cons]
    by_cases e : n = k
    · simp only [e, if_true]
      exact .cons h (r.map1 h)
    · simp only [e, if_false]
      exact .cons h1 (r.map1 h)
theorem RpK.put {k : Key} {d : D} {v : V} (h : Rp K as F d v) {kvs : List (Key × D)} {vkv : List (Key × V)} (r : RpK K as F kvs vkv) : RpK K as F (putKD kvs k d) (putK vkv k v) := by
  unfold putKD putK
  rw [r.any1]
  split
  · exact r.map1 h
  · exact r.app (.cons h .nil)
theorem RpK.merge : ∀ {more kvs : List (Key × D)} {vmore vkv : List (Key × V)}, RpK K as F more vmore → RpK K as F kvs vkv → RpK K as F (mergeD kvs more) (mergeK vkv vmore)
  | _, _, _, _, .nil, r => r
  | _, _, _, _, .cons h m, r => m.merge (r.put h)
structure GP (X : Cx) (W : WX) (pos : Pos) (keys : List (Option Expr)) (values : List Expr) (m : RV.Env → ML) : Prop where
  ex : ∃ trs, PPs X pos keys values trs ∧ ∀ (as : List Addr) (F H : Hp) (S : WS) (ρ : RV.Env) (σ : L2.St), Sit X.K as F H S → RpE X.K as F ρ σ → ∀ q x, m ρ S q x →
    ∀ Q : List (V × V) → Hp → Prop, (∀ ds S' bs F' H' ps, q ds S' → Grow X.K as F H bs F' H' S' → RpL X.K bs F' ds (flatVV ps) → Q ps H') → XQ X.K as F H x (WE W σ) → tPairs trs σ H Q
/-! ### repr -/
def flatPy : D → Option PyData
  | .non => some .none
  | .bl b => some (.bool b)
  | .int i => some (.int i)
  | .str s => some (.str s)
  | _ => none
def keyPy : Key → PyData
  | .inl i => .int i
  | .inr s => .str s
def kvPy : List (Key × D) → Option (List (PyData × PyData))
  | [] => some []
  | (k, d) :: r => (flatPy d).bind fun p => (kvPy r).map fun l => (keyPy k, p) :: l
theorem flat_reads {h : Heap} {d : D} {v : V} {u : Value} {p : PyData} (r : Rp K as F d v) (e : flatPy d = some p) (ru : RelV v u) : Reads h u p [] := by
  cases r with
  | non => cases e; cases ru; exact .none
  | bl b => cases e; cases ru; exact .bool b
  | int i => cases e; obtain ⟨t, rfl⟩ := ru; exact .int i t
  | str s => cases e; obtain ⟨t, rfl⟩ := ru; exact .str s t
  | _ => cases e
theorem kv_reads {P : Program} {w : World} {h : Heap} : ∀ {kvs : List (Key × D)} {vkv : List (Key × V)} {us : List (Key × Value)} {es : List DictEntry} {ps : List (PyData × PyData)}, RpK K as F kvs vkv → KV vkv us → Pairs (mixKind P w) es us → kvPy kvs = some ps →
    ReadsAll h (es.map (·.key)) (ps.map (·.1)) [] ∧ ReadsAll h (es.map (·.val)) (ps.map (·.2)) []
  | _, _, _, _, _, .nil, .nil, .nil, e => by cases e; exact ⟨.nil, .nil⟩
  | _, _, _, _, _, .cons (n := k) h1 r, .cons h2 t, .cons h3 h4 t2, e => by
    unfold kvPy at e
    simp only [Option.bind_eq_some_iff, Option.map_eq_some_iff] at e
    obtain ⟨p, e1, l, e2, rfl⟩ := e
    obtain ⟨a1, a2⟩ := kv_reads r t t2 e2
    have hk := h3
    rw [← h2.1] at hk
    refine ⟨?_, ?_⟩
    · rcases keyIs_shape hk with ⟨i, tt, z1, z2⟩ | ⟨y, tt, z1, z2⟩
      · simp only at z1
        subst z1
        rw [List.map_cons, z2]
        exact ReadsAll.cons (as := []) (bs := []) (.int i tt) a1
      · simp only at z1
        subst z1
        rw [List.map_cons, z2]
        exact ReadsAll.cons (as := []) (bs := []) (.str y tt) a1
    · rw [List.map_cons, h4]
      exact ReadsAll.cons (as := []) (bs := []) (flat_reads h1 e1 h2.2) a2
/-- the data of a dict at a -/
def DicAt (K : PySem.W.Frag) (H : Hp) (a : Addr) (p : PyData) : Prop := ∃ (as : List Addr) (F : Hp) (kvs : List (Key × D)) (vkv : List (Key × V)) (ps : List (PyData × PyData)), H a = some (.dK vkv) ∧ RpK K as F kvs vkv ∧ kvPy kvs = some ps ∧ p = .dict ps
def rRepr2 (K : PySem.W.Frag) : List V → Hp → VK → Prop := fun xs H Q => rRepr K xs H Q ∨ ∃ a p, xs = [.ref a] ∧ DicAt K H a p ∧ p.showable = true ∧ p.depth ≤ 64 ∧ p.shown.length ≤ sizeLine ∧ Q (.str p.shown) H
theorem Rx.units {h : Bool} {k : Nat} (hr : Rx h k X) : X.A.units + 65 < cLine := by
  cases h
  · have := hr.un; omega
  · have := hr.1.un; omega
end
end RV
end
section
namespace RV
open PySem L2
section
variable {K : PySem.W.Frag} {as : List Addr} {F H : Hp} {S : WS} {X : Cx} {W : WX} {pos : Pos}
theorem call_repr2 {h : Bool} {k : Nat} (hg : X.A.guards = some []) (hr : Rx h k X) : CallR X (.builtin "repr") (rRepr2 X.K) := fun pins s σ H xs us Q I rv hh => by
  have hu := hr.units
  rcases hh with ⟨x, d, rfl, hd, hs, hnd, hde, hz, q⟩ | ⟨a, p, rfl, ⟨as, F, kvs, vkv, ps, ha, rk, ek, rfl⟩, hs, hde, hz, q⟩
  · obtain ⟨u, rfl, ru⟩ := vals1 rv
    have heap : ∀ p, x = .ref p → wpAny (model X.prog X.w) X.A (call (.builtin "repr") [u]) (EP X pins σ Q) X.xe s := fun p ex => by
      subst ex
      cases ru
      obtain ⟨as, rd⟩ := hd.reads I d _ _ rfl
      refine PySem.repr_of_reads' rd hs (fun z => by rw [hnd] at z; cases z) hg (by omega) (fun b o e => e) (fun h' u tk hk => ?_) hz
      exact ⟨.str d.shown, H, I.kept hk, ⟨u, rfl⟩, q⟩
    cases hd with
    | lst _ _ => exact heap _ rfl
    | tup _ _ => exact heap _ rfl
    | non => cases ru; exact PySem.P.repr_of_none ⟨.str _, H, I.tok _, ⟨_, rfl⟩, q⟩
    | bl b => cases ru; exact PySem.P.repr_of_bool ⟨.str _, H, I.tok _, ⟨_, rfl⟩, q⟩
    | int i =>
      obtain ⟨t, rfl⟩ := ru
      exact PySem.P.repr_of_int (of_decide_eq_true (by simpa [PyData.showable] using hs)) ⟨.str _, H, I.tok _, ⟨_, rfl⟩, q⟩
    | str z =>
      obtain ⟨t, rfl⟩ := ru
      exact PySem.P.repr_of_str ⟨.str _, H, I.tok _, ⟨_, rfl⟩, q⟩ hz
  · obtain ⟨u, rfl, ru⟩ := vals1 rv
    cases ru
    obtain ⟨_, hsm, us, hkv, o, es, ep, e1, e2, e3, _, e4, _⟩ := dk_of I.hok ha
    obtain ⟨r1, r2⟩ := kv_reads (h := s.heap) rk hkv e4 ek
    have rd : Reads s.heap (.ref a) (.dict ps) [a] := Reads.dict (as := []) (bs := []) e1 e2.1 e3 r1 r2
    refine PySem.repr_of_reads' rd hs (fun _ z => ?_) hg (by omega) (fun b o e => e) (fun h' u tk hk => ?_) hz
    · rw [List.mem_singleton] at z
      rw [z] at hsm
      simp at hsm
    · exact ⟨.str _, H, I.kept hk, ⟨u, rfl⟩, q⟩
def reprD2 : WS → List D → Option D := fun S xs => match xs with
  | [.dic kvs] => (kvPy kvs).bind fun ps => if (PyData.dict ps).showable = true ∧ (PyData.dict ps).depth ≤ 64 ∧ (PyData.dict ps).shown.length ≤ sizeLine then some (.str (PyData.dict ps).shown) else none
  | xs => reprD S xs
theorem rc_repr2 : RC K (rRepr2 K) reprD2 := fun as F H S ds d vs I r h Q q => by
  unfold reprD2 at h
  split at h
  · simp only [Option.bind_eq_some_iff] at h
    obtain ⟨ps, h1, h2⟩ := h
    split at h2
    · rename_i hh
      cases h2
      obtain ⟨v, ws, rfl, rv, rn⟩ := r.unsn
      obtain rfl := rn.unnil
      cases rv with
      | dic z1 z2 => exact .inr ⟨_, _, rfl, ⟨as, F, _, _, ps, I.ex _ _ z1, z2, h1, rfl⟩, hh.1, hh.2.1, hh.2.2, keep I q (.str _)⟩
    · cases h2
  · exact .inl (rc_repr as F H S _ d vs I r h Q q)
/-! ### str of flat things -/
def rStrF : List V → Hp → VK → Prop := fun xs H Q => (∃ i, xs = [.int i] ∧ i.natAbs.log2 < 1920 ∧ Q (.str (toString i)) H) ∨ (∃ a, xs = [.str a] ∧ Q (.str a) H) ∨ ∃ b : Bool, xs = [.bl b] ∧ Q (.str (if b then "True" else "False")) H
theorem call_strFl : CallR X (.type "str") rStrF := fun pins s σ H xs us Q I r h => by
  rcases h with h | h | ⟨b, rfl, q⟩
  · exact call_str_int pins s σ H xs us Q I r h
  · obtain ⟨a, rfl, q⟩ := h
    obtain ⟨u, rfl, t, rfl⟩ := vals1 r
    exact PySem.P.str_of_str ⟨.str a, H, I, ⟨t, rfl⟩, q⟩
  · obtain ⟨u, rfl, rfl⟩ := vals1 r
    exact PySem.P.str_of_bool ⟨.str _, H, I.tok _, ⟨_, rfl⟩, q⟩
def strFD : WS → List D → Option D := fun _ xs => match xs with
  | [.int i] => if i.natAbs.log2 < 1920 then some (.str (toString i)) else none
  | [.str s] => some (.str s)
  | [.bl b] => some (.str (if b then "True" else "False"))
  | _ => none
theorem rc_strFl : RC K rStrF strFD := fun as F H S ds d vs I r h Q q => by
  unfold strFD at h
  split at h
  · split at h
    · rename_i i hi
      cases h
      obtain ⟨v, ws, rfl, rv, rn⟩ := r.unsn
      obtain rfl := rn.unnil
      cases rv
      exact .inl ⟨i, rfl, hi, keep I q (.str _)⟩
    · cases h
  · cases h
    obtain ⟨v, ws, rfl, rv, rn⟩ := r.unsn
    obtain rfl := rn.unnil
    cases rv
    exact .inr (.inl ⟨_, rfl, keep I q (.str _)⟩)
  · cases h
    obtain ⟨v, ws, rfl, rv, rn⟩ := r.unsn
    obtain rfl := rn.unnil
    cases rv
    exact .inr (.inr ⟨_, rfl, keep I q (.str _)⟩)
  · cases h
/-! ### list * int -/
theorem RpL.rep {ds : List D} {vs : List V} (r : RpL K as F ds vs) : ∀ n : Nat, RpL K as F (List.replicate n ds).flatten (List.replicate n vs).flatten
  | 0 => .nil
  | n + 1 => by
    rw [List.replicate_succ, List.replicate_succ, List.flatten_cons, List.flatten_cons]
    exact r.append (r.rep n)
end
end RV
end
section
/-! The law's end with tables of code objects; the head that tells of them. -/
namespace RV
open PySem L2
variable {nn : Bool}
def noTab : Obj := { cls := .none, data := .fields #[] }
/-! ### the head's word -/
structure TabsAt (tf : List He.Defn) (h : Heap) (K : PySem.W.Frag) : Prop where
  hd : ∀ p ∈ tf, PySem.W.codeHdIn K (He.cT K p).1 (He.cT K p).2 = true
  out : ∀ p ∈ tf, K.lookup (He.cT K p).2 = none
  empty : ∀ p ∈ tf, h.get? (He.cT K p).2 = some noTab
/-! the addresses within n steps of the globals, each once -/
def newB : List Addr → Nat → Nat × List Addr
  | [], s => (s, [])
  | a :: r, s => match Nat.beq (Nat.land (Nat.shiftRight s a) 1) 0 with
    | true => match newB r (Nat.lor s (Nat.shiftLeft 1 a)) with
      | (s', l) => (s', a :: l)
    | false => newB r s
def refsB (g : Addr → Option Obj) (fr : List Addr) : List Addr := fr.flatMap fun a => match g a with
  | some o => He.refsD o
  | none => []
def levB (g : Addr → Option Obj) : Nat → List Addr → Nat → List Addr
  | 0, _, _ => []
  | n + 1, fr, s => match newB (refsB g fr) s with
    | (s', fr') => fr' ++ levB g n fr' s'
def asB (g : Addr → Option Obj) (n : Nat) : List Addr := mainGlobals :: (levB g n [mainGlobals] (Nat.shiftLeft 1 mainGlobals) ++ [PySem.cStatics])
/-- .. of a law without tables -/
def hookU (n : Nat) (fa : List He.Fa) (fn : List He5.DefA) (ex : PySem.W.Frag → Bool) : PySem.W.Hook where
  α := He.AlD × Bool
  obs := fun s => (He5.obsA fa fn (He.frG s.heap.get? (asB s.heap.get? n)), ex (He.frG s.heap.get? (asB s.heap.get? n)))
  val := fun _ => (He5.valA fn, true)
  says := fun _ h => ∃ K : PySem.W.Frag, K.In h ∧ He5.SaysA fa fn K ∧ ex K = true
  of := fun _ _ e => ⟨_, He.frG_in, congrArg Prod.fst e, congrArg Prod.snd e⟩
  keeps := fun _ _ _ ⟨K, hK, c⟩ k => ⟨K, PySem.W.Frag.In.keeps hK k, c⟩
def obU (n : Nat) (fa : List He.Fa) (fn : List He5.DefA) (ex : PySem.W.Frag → Bool) (g : Addr → Option Obj) : He.AlD × Bool := (He5.obsA fa fn (He.frG g (asB g n)), ex (He.frG g (asB g n)))
theorem obU_eq {n : Nat} {fa : List He.Fa} {fn : List He5.DefA} {ex : PySem.W.Frag → Bool} {g : Addr → Option Obj} {s : Shared} (h : ∀ a, g a = s.heap.get? a) : obU n fa fn ex g = (hookU n fa fn ex).obs s := by
  have e : g = s.heap.get? := funext h
  rw [e] <;> rfl
end RV
end
section
/-! Errors: what the written part must say; their kinds; modes. -/
namespace RV
open PySem L2
open He (eqO eqO_ok ba ga ma)
section
variable {K : PySem.W.Frag} {C : Addr}
end
section
variable {X : Cx} {W : WX} {body : List Stmt} {m : RV.Env → MS} {K : PySem.W.Frag} {j : Nat}
end
/-! a default that is the empty tuple -/
/-! keywords where parameters have defaults, all of which are passed -/
end RV
end
section
/-! Own operators, own in, own methods. -/
namespace RV
open PySem PySem.W PySem.Calls PyProof.Rows
section
variable {M : Model} {h : Heap} {K : Frag} {C : Addr} {nm : String} {cd : ClassData}
end
section
variable {prog : Program} {w : World} {A : Around} {E : Value → Shared → Prop} {s : Shared} {K : Frag} {x C L f : Addr} {h₀ : Heap} {m : Str → Option Value} {ox : Obj} {od : Option Obj}
end
end RV
end
section
/-! Own operators, own in, own methods: readings. -/
namespace RV
open PySem L2
variable {nn : Bool}
section
variable {X : Cx} {W : WX} {a b o e : Expr} {es : List Expr} {pos apos : Pos} {ea eb : RV.Env → M} {er : RV.Env → ML} {C : Addr} {G : List D → M} {k j n : Nat} {nm m : String}
/-! ### own in -/
end
end RV
end
section
/-! Own methods. -/
namespace RV
open PySem L2
variable {nn : Bool}
section
variable {X : Cx} {W : WX} {o e : Expr} {es : List Expr} {pos apos : Pos} {ea : RV.Env → M} {er : RV.Env → ML} {C : Addr} {m : Str} {G : List D → M} {k j n : Nat}
end
end RV
end
section
/-! An own error over ValueError, by the written part. -/
namespace RV
open PySem L2 He
section
variable {K : PySem.W.Frag} {C : Addr}
end
/-! index of a list of plain data -/
section
variable {X : Cx} {W : WX} {o e : Expr} {eo ee : RV.Env → M} {apos cpos : Pos}
end
end RV
end
section
/-! sorted(set(xs)), xs a list of texts -/
namespace RV
open PySem L2 PySem.Spec PyProof.Rows
def txK (e : Int × Value) : Str := match e.2 with
  | .str k _ => k
  | _ => Str.empty
def TxE (w : World) (e : Int × Value) : Prop := ∃ k tk, e = (hashStr w k, Value.str k tk)
/-- the rows of a set of texts, T its members -/
structure TxRows (w : World) (T : List Str) (es : Array (Int × Value)) (t : SetTable) : Prop where
  good : ∀ e ∈ es.toList, TxE w e
  nd : (es.toList.map txK).Nodup
  mem : ∀ k, k ∈ es.toList.map txK ↔ k ∈ T
  len : es.size ≤ T.length
  few : es.size < scanBound
  fits : t.fits es.size = true
  ris : Ris t.place.toList
  led : w.params.followText "set-order" = true ∨ t.led = true
def TxSet (w : World) (h : Heap) (a : Addr) (T : List Str) : Prop := ∃ o es ep t, h.get? a = some o ∧ o.ExactSet ∧ o.data = .set es ep t ∧ TxRows w T es t
section
variable {P : Program} {w : World} {h h' : Heap} {a : Addr} {T T' : List Str} {es : Array (Int × Value)} {t : SetTable}
theorem TxSet.keep (R : TxSet w h a T) (k : ∀ o, h.get? a = some o → h'.get? a = some o) : TxSet w h' a T := by
  obtain ⟨o, es, ep, t, ho, r⟩ := R
  exact ⟨o, es, ep, t, k o ho, r⟩
theorem TxRows.same (R : TxRows w T es t) (e : ∀ k, k ∈ T ↔ k ∈ T') (l : T.length ≤ T'.length) : TxRows w T' es t := ⟨R.good, R.nd, fun k => (R.mem k).trans (e k), Nat.le_trans R.len l, R.few, R.fits, R.ris, R.led⟩
theorem TxRows.elems (R : TxRows w T es t) : ElemsOf (PySem.strKind P w) es.toList := fun e he => by
  obtain ⟨k, tk, rfl⟩ := R.good e he
  exact ⟨⟨k, strKind_is P w k tk, rfl⟩, rfl⟩
theorem TxRows.has (R : TxRows w T es t) (k : Str) : k ∈ T ↔ ∃ e ∈ es.toList, (PySem.strKind P w).is k e.2 = true := by
  rw [← R.mem k, List.mem_map]
  refine exists_congr fun e => and_congr_right fun he => ?_
  obtain ⟨k0, tk, rfl⟩ := R.good e he
  show k0 = k ↔ ((k0 == k) = true)
  exact beq_iff_eq.symm
theorem TxRows.fresh {ho : h.get? a = some { cls := .type "set", dict := none, data := .set #[] 0 (.fresh 0 0 (!w.params.followText "set-order")) }} : TxSet w h a [] := by
  refine ⟨_, #[], 0, _, ho, ⟨rfl, rfl, rfl⟩, rfl, fun e he => by simp at he, by simp, fun k => by simp, Nat.le_refl _, by decide, by rfl, List.Pairwise.nil, ?_⟩
  show _ ∨ (!w.params.followText "set-order") = true
  cases w.params.followText "set-order"
  · exact .inr rfl
  · exact .inl rfl
end
section
variable {P : Program} {w : World} {A : Around} {E : Value → Shared → Prop} {s : Shared} {a : Addr} {T : List Str}
theorem at_put {h : Heap} {o : Obj} {es es' : Array (Int × Value)} {ep : Nat} {t t' : SetTable} (ho : h.get? a = some o) (hd : o.data = .set es ep t) :
    (h.update a (Obj.putSet es' t')).get? a = some { o with data := .set es' (ep + 1) t' } := by
  have z := Heap.get?_update_self (Obj.putSet es' t') ho (by rw [putSet_of es' t' hd]; rfl)
  rwa [putSet_of es' t' hd] at z
/-- the rows are laid, and laid anew if they are too many -/
theorem tx_laid {o : Obj} {es es1 : Array (Int × Value)} {ep : Nat} {t t2 : SetTable} {g : Bool → Sem Unit} {wd : Bool} {R : Option Bool → Shared → Prop}
    (hg : ∀ (b : Bool) (s₁ : Shared) (Q' : Unit → Shared → Prop), Q' () s₁ → wpAny (model P w) A (g b) Q' E s₁)
    (ho : s.heap.get? a = some o) (hex : o.ExactSet) (hd : o.data = .set es ep t) (r1 : TxRows w T es1 t2)
    (hR : ∀ h', Heap.SameBut a s.heap h' → TxSet w h' a T → R (some true) { s with heap := h' }) :
    wpAny (model P w) A (do
        storeSet a es1 t2
        if (!wd && t2.tooFull) = true then do
            g (relayAll t2 es1 (SetTable.grown es1.size)).2.2
            storeSet a (relayAll t2 es1 (SetTable.grown es1.size)).1 (relayAll t2 es1 (SetTable.grown es1.size)).2.1
            pure (some true)
          else pure (some true)) R E s := by
  refine wpAny_bind (wpAny_storeSet_of ho hd ?_ (fits_of_scanBound r1.few))
  have h1 := at_put (es' := es1) (t' := t2) ho hd
  have b1 := Heap.SameBut.update s.heap a (Obj.putSet es1 t2)
  by_cases hc : (!wd && t2.tooFull) = true
  · rw [if_pos hc]
    have z1 := relayAll_perm t2 es1 (SetTable.grown es1.size)
    have z2 := relayAll_fits t2 es1 (SetTable.grown es1.size)
    have z3 := relayAll_ris t2 es1 (SetTable.grown es1.size)
    have z4 := relayAll_led t2 es1 (SetTable.grown es1.size)
    generalize relayAll t2 es1 (SetTable.grown es1.size) = Z at z1 z2 z3 z4 ⊢
    rcases Z with ⟨es2, t3, gave⟩
    dsimp only at z1 z2 z3 z4 ⊢
    have hz : es2.size = es1.size := by rw [← Array.length_toList, z1.length_eq, Array.length_toList]
    have r2 : TxRows w T es2 t3 := ⟨fun e he => r1.good e (z1.mem_iff.mp he), (z1.map txK).nodup_iff.mpr r1.nd, fun k => (z1.map txK).mem_iff.trans (r1.mem k), by rw [hz]; exact r1.len, by rw [hz]; exact r1.few, z2, z3, r1.led.imp id fun z => by rw [z4]; exact z⟩
    refine wpAny_bind (hg _ _ _ (wpAny_bind (wpAny_storeSet_of h1 rfl ?_ (fits_of_scanBound r2.few))))
    exact wpAny_pure (hR _ (b1.trans (Heap.SameBut.update _ a _)) ⟨_, es2, _, t3, at_put (es' := es2) (t' := t3) h1 rfl, hex, rfl, r2⟩)
  · rw [if_neg hc]
    exact wpAny_pure (hR _ b1 ⟨_, es1, _, t2, h1, hex, rfl, r1⟩)
/-- one text more -/
theorem tx_add {k : Str} {tk : Tok} {Q : Bool → Shared → Prop} (R : TxSet w s.heap a T) (hn : T.length + 1 < scanBound)
    (hQ : ∀ b h', Heap.SameBut a s.heap h' → TxSet w h' a (k :: T) → Q b { s with heap := h' }) :
    wpAny (model P w) A (setAddHashed a (.str k tk) ((PySem.strKind P w).hash k)) Q E s := by
  obtain ⟨o, es, ep, t, ho, hex, hd, r⟩ := R
  have room : es.size + 1 < scanBound := Nat.lt_of_le_of_lt (Nat.succ_le_succ r.len) hn
  have hkey := strKind_is P w k tk
  have hsc : (Value.str k tk).scannable = true := rfl
  have hel : ElemsOf (PySem.strKind P w) es.toList := r.elems
  unfold setAddHashed setAddHashedIn
  refine wpAny_holding (wpAny_bind (wpAny_setState_of ho hd r.fits ?_))
  dsimp only
  rw [byScan_of hsc r.few hel]
  simp only [↓reduceIte]
  unfold setAddByScan
  refine wpAny_bind (wpAny_bind (wpAny_rule (wpAny_bind (wpAny_setScan_of hkey ho hd r.fits hel ?_))))
  cases hfi : List.findIdx? (fun e => (PySem.strKind P w).is k e.2) es.toList with
  | some j =>
    obtain ⟨hj, pj, _⟩ := List.findIdx?_eq_some_iff_getElem.mp hfi
    have hk : k ∈ T := (r.has (P := P) k).2 ⟨es.toList[j], List.getElem_mem hj, pj⟩
    refine wpAny_pure (wpAny_pure (hQ _ s.heap (Heap.SameBut.refl a s.heap) ⟨o, es, ep, t, ho, hex, hd, r.same (fun i => ?_) (Nat.le_succ _)⟩))
    rw [List.mem_cons]
    exact ⟨.inr, fun z => z.elim (fun e => e ▸ hk) id⟩
  | none =>
    have hk : k ∉ T := fun z => by
      obtain ⟨e, he, q⟩ := (r.has (P := P) k).1 z
      have c := List.findIdx?_eq_none_iff.mp hfi e he
      rw [q] at c
      cases c
    have z1 := layNew_perm t es ((PySem.strKind P w).hash k) (.str k tk)
    have z2 := layNew_fits t es ((PySem.strKind P w).hash k) (.str k tk)
    have z3 := layNew_ris t es ((PySem.strKind P w).hash k) (.str k tk) r.ris
    have z4 := layNew_led t es ((PySem.strKind P w).hash k) (.str k tk)
    dsimp only
    generalize layNew t es ((PySem.strKind P w).hash k) (.str k tk) = Z at z1 z2 z3 z4 ⊢
    rcases Z with ⟨es1, t1, wd, gave⟩
    dsimp only at z1 z2 z3 z4 ⊢
    rw [Array.toList_push] at z1
    have pc : es1.toList.Perm ((hashStr w k, Value.str k tk) :: es.toList) := z1.trans (List.perm_append_singleton _ _)
    have hz : es1.size = es.size + 1 := by rw [← Array.length_toList, pc.length_eq, List.length_cons, Array.length_toList]
    have r1 : ∀ t2 : SetTable, t2.fits es1.size = true → Ris t2.place.toList → t2.led = t.led → TxRows w (k :: T) es1 t2 := fun t2 a1 a2 a3 =>
      { good := fun e he => (List.mem_cons.mp (pc.mem_iff.mp he)).elim (fun z => ⟨k, tk, z⟩) (r.good e)
        nd := (pc.map txK).nodup_iff.mpr (List.nodup_cons.mpr ⟨fun z => hk ((r.mem k).1 z), r.nd⟩)
        mem := fun i => (pc.map txK).mem_iff.trans (by
          rw [List.map_cons, List.mem_cons, List.mem_cons, r.mem i]
          rfl)
        len := by rw [hz]; exact Nat.succ_le_succ r.len
        few := by rw [hz]; exact room
        fits := a1
        ris := a2
        led := r.led.imp id fun z => by rw [a3]; exact z }
    have gw : ∀ (b : Bool) (s₁ : Shared) (Q' : Unit → Shared → Prop), Q' () s₁ → wpAny (model P w) A (match b with | true => rule "set.scan.the-table-gave-way" | false => pure ()) Q' E s₁ := fun b s₁ Q' q => by
      cases b
      · exact wpAny_pure q
      · exact wpAny_rule q
    refine wpAny_bind (gw _ _ _ ?_)
    split
    · refine wpAny_bind ?_
      rw [hashByValue_scannable 8 hsc]
      refine wpAny_pure (tx_laid (T := k :: T) ?_ ho hex hd (r1 _ ?_ ?_ ?_) fun h' sb q => ?_)
      · intro b s₁ Q' q; cases b <;> first | exact wpAny_pure q | exact wpAny_rule q
      · first | (split <;> first | exact z2 | exact SetTable.fits_plain_off z2) | exact z2
      · first | (split <;> exact z3) | exact z3
      · first | (split <;> exact z4) | exact z4
      · exact wpAny_pure (hQ _ h' sb q)
    · refine wpAny_bind (wpAny_pure ?_)
      simp only [↓reduceIte]
      refine tx_laid (T := k :: T) ?_ ho hex hd (r1 _ z2 z3 z4) fun h' sb q => ?_
      · intro b s₁ Q' q; cases b <;> first | exact wpAny_pure q | exact wpAny_rule q
      · exact wpAny_pure (hQ _ h' sb q)
/-- all texts of a walk -/
theorem tx_update {I : Addr} {fp wr : List Addr} {G : Array GenState → Array GenState → Prop} {n : Nat} {Pv : Nat → Value → Prop} {St : Nat → Shared → Prop} {R : Result → Shared → Prop}
    (W : WalksS P w A.in1 I fp wr G n Pv St) (S : Addr) (hSf : S ∉ fp) (ks : List Str) (hn : n = ks.length) (hb : ks.length + 1 < scanBound) (hval : ∀ i v, Pv i v → ∃ k t, ks[i]? = some k ∧ v = .str k t) :
    ∀ (m i : Nat) (s : Shared), n - i = m → i ≤ n → St i s → TxSet w s.heap S (ks.take i).reverse →
      (∀ s', Moved (S :: wr) G s s' → TxSet w s'.heap S ks.reverse → R (.ok (.ret .none)) s') →
      codeAny (model P w) A (.builtin "set.update.loop" ⟨[.ref S, .ref I], []⟩) R s := by
  have hSw : S ∉ wr := fun z => hSf (W.sub _ z)
  have up : ∀ b ∈ wr, b ∈ S :: wr := fun b z => List.mem_cons_of_mem _ z
  intro m
  induction m with
  | zero =>
    intro i s hm hi hst hS hR
    refine codeAny_builtin F.entry_set_update_loop ?_
    rw [Around.under_plainId F.plain_set_update_loop _]
    show wpAny _ A.in1 (pyNext (.ref I) >>= _) _ _ s
    have hin : i = n := by omega
    subst hin
    refine wpAny_bind (W.done s _ _ hst fun s' mv => ?_)
    rw [List.take_of_length_le (by omega)] at hS
    exact wpAny_pure (hR s' (mv.mono up) (hS.keep fun o e => mv.heap S o hSw e))
  | succ m ih =>
    intro i s hm hi hst hS hR
    have hlt : i < n := by omega
    refine codeAny_builtin F.entry_set_update_loop ?_
    rw [Around.under_plainId F.plain_set_update_loop _]
    show wpAny _ A.in1 (pyNext (.ref I) >>= _) _ _ s
    refine wpAny_bind (W.item i s _ _ hlt hst fun v s' hP hst' mv => ?_)
    obtain ⟨z, t, hz, rfl⟩ := hval i v hP
    have hS1 : TxSet w s'.heap S (ks.take i).reverse := hS.keep fun o e => mv.heap S o hSw e
    show wpAny _ A.in1 (holding [Value.str z t] (setAdd S (.str z t)) >>= _) _ _ s'
    refine wpAny_bind (wpAny_holding ?_)
    unfold setAdd
    refine wpAny_holding (wpAny_bind ((PySem.strKind P w).pyHash (k := z) (strKind_is _ _ _ _) ?_))
    refine tx_add (s := { s' with toks := s'.toks + 1 }) hS1 (by rw [List.length_reverse, List.length_take]; omega) fun b h' sb hS2 => ?_
    have hS3 : TxSet w h' S (ks.take (i + 1)).reverse := by
      rw [List.take_add_one, hz]
      simpa using hS2
    refine wpAny_pure ⟨plainId_quiet F.plain_set_update_loop _, ih (i + 1) _ (by omega) hlt (W.frame _ s' _ _ hst' (Nat.le_succ _) fun b hb o e => ?_) hS3 fun s2 mv2 q2 => ?_⟩
    · rw [sb.2 b (fun z : b = S => hSf (by rw [← z]; exact hb))]
      exact e
    · refine hR s2 (Moved.trans W.gtrans ((mv.mono up).then_heap (Nat.le_succ _) fun b o hb e => ?_) mv2) q2
      rw [sb.2 b (fun z : b = S => hb (by rw [z]; exact List.mem_cons_self))]
      exact e
abbrev set0 (w : World) : Obj := { cls := .type "set", dict := none, data := .set #[] 0 (.fresh 0 0 (!w.params.followText "set-order")) }
/-- set(xs) -/
theorem tx_set {l : Addr} {items : Array Value} {ks : List Str} {Q : Value → Shared → Prop} (hh : A.handled = none) (hl : s.heap.IsList l items) (hit : StrsAre items.toList ks) (hb : ks.length + 1 < scanBound)
    (h : ∀ (h' : Heap) (tk : Nat), TxSet w h' s.heap.objs.size ks.reverse → (∀ b o, s.heap.get? b = some o → h'.get? b = some o) → Q (.ref s.heap.objs.size) { s with heap := h', toks := tk }) :
    wpAny (model P w) A (call (.type "set") [.ref l]) Q E s := by
  have hisz : items.size = ks.length := by rw [← Array.length_toList]; exact hit.length
  obtain ⟨c, tl, hmro⟩ := F.called_set.mro
  have hmade := F.called_set.made
  have hsub := F.called_set.sub
  have h1 := F.called_set.notType
  have h2 := F.called_set.canCreate
  have hct := F.typeCall_set_1 (.ref l)
  refine wpAny_call (codeAny_of_tree ?_)
  show wpAny _ _ (callAny (.type "set") _) _ _ _
  refine wpAny_pure ⟨Code.quiet_builtin _ (by decide +kernel), codeAny_builtin F.entry_type_call ?_⟩
  rw [Around.under_plain (weight_type_call_type "set" [.ref l] []) rfl]
  repeat (any_goals (first | assumption | wp_step))
  refine codeAny_mono (code_set_led1 (.ref l) (E := E) (Q₁ := fun obj s₁ => obj = .ref s.heap.objs.size ∧ s₁ = { s with heap := s.heap.push (set0 w) }) ⟨rfl, rfl⟩) fun r s₁ hr => ?_
  cases r with
  | error e => exact hr
  | ok fl =>
    cases fl with
    | next => exact hr.elim
    | brk => exact hr.elim
    | cont => exact hr.elim
    | ret obj =>
      obtain ⟨rfl, rfl⟩ := hr
      have hS : (s.heap.push (set0 w)).get? s.heap.objs.size = some (set0 w) := Heap.get?_push_size _ rfl
      have hT : Shared.TypeIs { s with heap := s.heap.push (set0 w) } (.ref s.heap.objs.size) "set" := ⟨_, hS, rfl⟩
      have hli := F.called_set.init.lookup
      have hbi := F.called_set.init.bind (.ref s.heap.objs.size)
      repeat (any_goals (first | assumption | wp_step))
      refine codeAny_mono (codeAny_call_builtin (R := wants (fun r s₂ => r = .none ∧ ∃ h' tk, s₂ = { s with heap := h', toks := tk } ∧ TxSet w h' s.heap.objs.size ks.reverse ∧
          (∀ b o, s.heap.get? b = some o → h'.get? b = some o)) E) F.called_set.init.plain F.entry_set_init (check_set_init_1 hT ?_)) fun r₂ s₂ hr₂ => ?_
      · obtain ⟨ol, hol, hcl, nl, hdl⟩ := hl
        obtain ⟨ocls, odict, odata, oslots⟩ := ol
        simp only at hcl hdl
        subst hcl; subst hdl
        have hol' : (s.heap.push (set0 w)).get? l = some { cls := .type "list", dict := odict, data := .seq items nl, slots := oslots } := Heap.get?_push_of_some _ hol
        have hsls := F.sub_list_set
        have hslf := F.sub_list_frozenset
        have hne : (Value.type "list" == Value.type "dict") = false := by decide
        have hl1 : (s.heap.push (set0 w)).IsList l items := ⟨_, hol', rfl, nl, rfl⟩
        unfold Builtin.«set.__init__» noKeywords Builtin.Frozenset.updateFrom
        generalize hPI : pyIter = PI
        wp_walk
        subst hPI
        refine wpAny_pyIter_list hl1 (wpAny_bind (wpAny_runValue ?_))
        have hlS : l < s.heap.objs.size := Heap.lt_size hol
        have hh3 : A.in1.in1.in1.handled = none := by simp [hh]
        have hneI : l ≠ (s.heap.push (set0 w)).objs.size := by
          rw [Heap.size_push]; exact Nat.ne_of_lt (Nat.lt_succ_of_lt hlS)
        have hSf : s.heap.objs.size ∉ [(s.heap.push (set0 w)).objs.size, l] := by
          rw [Heap.size_push]; simp only [List.mem_cons, List.not_mem_nil, or_false, not_or]
          exact ⟨Nat.ne_of_lt (Nat.lt_succ_self _), Nat.ne_of_gt hlS⟩
        have hval : ∀ (i : Nat) (v : Value), items[i]? = some v → ∃ k t, ks[i]? = some k ∧ v = .str k t := fun i v hv => by
          have hi : i < items.size := (Array.getElem?_eq_some_iff.mp hv).1
          obtain ⟨t, e⟩ := SS.strs_at hit i v (by rw [Array.getElem?_toList]; exact hv)
          refine ⟨_, t, ?_, e⟩
          rw [List.getD_eq_getElem?_getD, List.getElem?_eq_getElem (by omega)]
          rfl
        refine tx_update ((Walks.list hh3 _ l hneI items).toS) s.heap.objs.size hSf ks hisz hb hval (items.size - 0) 0 _ (by omega) (Nat.zero_le _)
          ⟨⟨_, Heap.get?_push_size _ rfl, rfl, rfl⟩, (hl1.push _)⟩ (TxRows.fresh (ho := Heap.get?_push_of_some _ hS)) fun s' hm hS' => ?_
        obtain ⟨h', g2, d', tk', os'⟩ := s'
        have eg : g2 = s.gens := hm.gens
        have ed : d' = s.drawn := hm.drawn
        have eo : os' = s.os := hm.os
        subst eg; subst ed; subst eo
        refine wpAny_pure (wpAny_pure ⟨rfl, h', tk', rfl, hS', fun b o e => ?_⟩)
        have hbl := Heap.lt_size e
        refine hm.heap b o (fun z => ?_) (Heap.get?_push_of_some _ (Heap.get?_push_of_some _ e))
        rcases List.mem_cons.mp z with z | z
        · exact absurd hbl (by rw [z]; exact Nat.lt_irrefl _)
        · have z := List.mem_singleton.mp z
          exact absurd hbl (by rw [z, Heap.size_push]; exact Nat.not_lt_of_le (Nat.le_succ _))
      · cases r₂ with
        | error e => exact hr₂
        | ok fl₂ =>
          cases fl₂ with
          | next => exact hr₂.elim
          | brk => exact hr₂.elim
          | cont => exact hr₂.elim
          | ret r =>
            obtain ⟨rfl, h', tk, rfl, hS', hk'⟩ := hr₂
            repeat (any_goals (first | assumption | wp_step))
            exact h _ _ hS' hk'
theorem strs_all : ∀ (l : List Value), (∀ v ∈ l, ∃ k tk, v = Value.str k tk) → StrsAre l (l.map strOf)
  | [], _ => .nil
  | v :: l, h => by
    obtain ⟨k, tk, rfl⟩ := h v List.mem_cons_self
    exact .cons k tk (strs_all l fun u hu => h u (List.mem_cons_of_mem _ hu))
/-- sorted(set) -/
theorem tx_sorted {Q : Value → Shared → Prop} (R : TxSet w s.heap a T) (hh : A.handled = none) (h64 : ∀ l : List Str, l.Nodup → (∀ k, k ∈ l ↔ k ∈ T) → l.length < 64)
    (hQ : ∀ s' p (out : Array Value) (c : Nat) (ns : List Str), (∀ b o, s.heap.get? b = some o → s'.heap.get? b = some o) → s'.gens = s.gens → s'.os = s.os → s.heap.objs.size ≤ p →
      s'.heap.get? p = some (seqObj "list" out c) → StrsAre out.toList ns → sortedS ns = true → ns.Nodup → (∀ k, k ∈ ns ↔ k ∈ T) → ns.length < 64 → Q (.ref p) s') :
    wpAny (model P w) A (call (.builtin "sorted") [.ref a]) Q E s := by
  obtain ⟨o, es, ep, t, ho, hex, hd, r⟩ := R
  refine Calls.call_function_entry kind_sorted plain_sorted entry_sorted (args_sorted1 _) ?_
  unfold Builtin.«sorted»
  refine wpAny_bind (m := checkCount "sorted" 1 1 _) (wpAny_pure ?_)
  refine wpAny_bind (collect_set (A := A.in1) hh ⟨o, ho, hex.1, hd⟩ r.fits r.few r.ris r.led fun s1 vs k1 hz g1 o1 pm => ?_)
  have hvl : vs.length < 64 := by
    have z := h64 _ r.nd r.mem
    rw [List.length_map] at z
    rw [pm.length_eq, List.length_map]
    exact z
  have ev : ∀ v ∈ vs, ∃ k tk, v = Value.str k tk := fun v hv => by
    obtain ⟨e, he, q⟩ := List.mem_map.mp (pm.mem_iff.mp hv)
    obtain ⟨k, tk, rfl⟩ := r.good e he
    exact ⟨k, tk, q.symm⟩
  have hI := strs_all vs ev
  have pk : (vs.map strOf).Perm (es.toList.map txK) := by
    have q := pm.map strOf
    rw [List.map_map] at q
    refine q.trans (List.Perm.of_eq (List.map_congr_left fun e he => ?_))
    obtain ⟨k, tk, rfl⟩ := r.good e he
    rfl
  refine wpAny_bind (wpAny_newList ?_ (by rw [sizeLine_eq]; omega))
  have hoL : (s1.heap.push (seqObj "list" vs.toArray 0)).get? s1.heap.objs.size = some (seqObj "list" vs.toArray 0) := Heap.get?_push_size _ rfl
  refine wpAny_bind (wpAny_holding (wpAny_call_entry slot_list_sort ⟨_, hoL, rfl⟩ entry_list_sort (list_sort_treeK strKind_oneLt hoL hI.keysOf (fun v₁ v₂ rest e => keyKind_strs (ss := vs.map strOf) (by rw [← e]; exact hI)) hvl fun st' hp hs => ?_) (args_list_sort _)))
  obtain ⟨ns, a1, a2, a3⟩ := sorted_out_str hI hp hs
  refine ⟨_, rfl, ?_⟩
  obtain ⟨c, hc⟩ := sortedHeap_at (vs := vs) (out := (arrOf st').map (·.2)) hoL
  have pn : ns.Perm (es.toList.map txK) := a2.trans pk
  refine wpAny_pure ⟨_, rfl, hQ _ s1.heap.objs.size _ c ns (fun b u e => ?_) g1 o1 hz hc a1 a3 (pn.nodup_iff.mpr r.nd) (fun k => by rw [pn.mem_iff, r.mem k]) ?_⟩
  · have q := k1 b u e
    have hlt := Heap.lt_size q
    show (sortedHeap (s1.heap.push (seqObj "list" vs.toArray 0)) s1.heap.objs.size vs _).get? b = some u
    rw [sortedHeap_old (Nat.ne_of_lt hlt) (by rw [size_push']; exact Nat.lt_succ_of_lt hlt)]
    exact Heap.get?_push_of_some _ q
  · rw [pn.length_eq]
    exact h64 _ r.nd r.mem
end
end RV
end
section
/-! ascending texts; sorted(set(xs)), sum(xs), dicts that change, sorted(d), d.get, text.startswith, range with steps, int(text) -/
namespace RV
open PySem L2 PyProof.Rows PySem.Spec
/-! ### ascending texts -/
abbrev ltS (a b : Str) : Prop := a.cps.toList < b.cps.toList
theorem ltS_irr (a : Str) : ¬ ltS a a := List.lt_irrefl _
theorem ltS_tr {a b c : Str} (h : ltS a b) (h' : ltS b c) : ltS a c := List.lt_trans h h'
theorem ltS_tri {a b : Str} (h : ¬ ltS a b) (n : a ≠ b) : ltS b a := by
  by_cases q : b.cps.toList < a.cps.toList
  · exact q
  · refine absurd (Str.ext' ?_) n
    exact Array.toList_inj.mp (List.le_antisymm (List.not_lt.mp q) (List.not_lt.mp h))
abbrev Asc (l : List Str) : Prop := l.Pairwise ltS
def insS (k : Str) : List Str → List Str
  | [] => [k]
  | x :: l => if k = x then x :: l else if ltS k x then k :: x :: l else x :: insS k l
def ascS : List Str → List Str
  | [] => []
  | k :: l => insS k (ascS l)
theorem mem_insS {k j : Str} : ∀ {l : List Str}, j ∈ insS k l ↔ j = k ∨ j ∈ l
  | [] => by simp [insS]
  | x :: l => by
    unfold insS
    split
    · rename_i e
      subst e
      simp
    · split
      · simp
      · simp only [List.mem_cons, mem_insS (l := l)]
        constructor
        · rintro (h | h | h) <;> simp [h]
        · rintro (h | h | h) <;> simp [h]
theorem asc_insS {k : Str} : ∀ {l : List Str}, Asc l → Asc (insS k l)
  | [], _ => List.pairwise_singleton _ _
  | x :: l, h => by
    obtain ⟨h1, h2⟩ := List.pairwise_cons.mp h
    unfold insS
    split
    · exact h
    · rename_i hn
      split
      · rename_i hk
        exact List.pairwise_cons.mpr ⟨fun y hy => (List.mem_cons.mp hy).elim (fun e => e ▸ hk) fun z => ltS_tr hk (h1 y z), h⟩
      · rename_i hk
        exact List.pairwise_cons.mpr ⟨fun y hy => (mem_insS.mp hy).elim (fun e => e ▸ ltS_tri hk hn) (h1 y), asc_insS h2⟩
theorem mem_ascS {j : Str} : ∀ {l : List Str}, j ∈ ascS l ↔ j ∈ l
  | [] => Iff.rfl
  | k :: l => by rw [ascS, mem_insS, mem_ascS, List.mem_cons]
theorem asc_ascS : ∀ l : List Str, Asc (ascS l)
  | [] => .nil
  | k :: l => asc_insS (asc_ascS l)
theorem asc_one : ∀ {l m : List Str}, Asc l → Asc m → (∀ k, k ∈ l ↔ k ∈ m) → l = m
  | [], [], _, _, _ => rfl
  | [], y :: m, _, _, h => absurd ((h y).2 (List.mem_cons_self ..)) (by simp)
  | x :: l, [], _, _, h => absurd ((h x).1 (List.mem_cons_self ..)) (by simp)
  | x :: l, y :: m, a, b, h => by
    obtain ⟨a1, a2⟩ := List.pairwise_cons.mp a
    obtain ⟨b1, b2⟩ := List.pairwise_cons.mp b
    have e : x = y := by
      rcases List.mem_cons.mp ((h x).1 (List.mem_cons_self ..)) with z | z
      · exact z
      rcases List.mem_cons.mp ((h y).2 (List.mem_cons_self ..)) with z2 | z2
      · exact z2.symm
      exact absurd (ltS_tr (a1 y z2) (b1 x z)) (ltS_irr _)
    subst e
    congr 1
    refine asc_one a2 b2 fun k => ⟨fun z => ?_, fun z => ?_⟩
    · rcases List.mem_cons.mp ((h k).1 (List.mem_cons_of_mem _ z)) with q | q
      · exact absurd (q ▸ a1 k z) (ltS_irr _)
      · exact q
    · rcases List.mem_cons.mp ((h k).2 (List.mem_cons_of_mem _ z)) with q | q
      · exact absurd (q ▸ b1 k z) (ltS_irr _)
      · exact q
theorem rising_at : ∀ (p : Str) (l : List Str), risingS p l = true → (p :: l).Nodup → Asc (p :: l)
  | p, [], _, _ => List.pairwise_singleton _ _
  | p, x :: r, h, nd => by
    have h' : (!ltCps x.cps.toList p.cps.toList && risingS x r) = true := h
    rw [Bool.and_eq_true] at h'
    obtain ⟨n1, n2⟩ := List.nodup_cons.mp nd
    have A := rising_at x r h'.2 n2
    have lt : ltS p x := by
      have q : ltCps x.cps.toList p.cps.toList = false := by simpa using h'.1
      rw [ltCps_eq] at q
      exact ltS_tri (of_decide_eq_false q) fun e => n1 (e ▸ List.mem_cons_self ..)
    exact List.pairwise_cons.mpr ⟨fun y hy => (List.mem_cons.mp hy).elim (fun e => e ▸ lt) fun z => ltS_tr lt ((List.pairwise_cons.mp A).1 y z), A⟩
theorem asc_sorted {l : List Str} (h : sortedS l = true) (nd : l.Nodup) : Asc l := by
  cases l with
  | nil => exact .nil
  | cons x r => exact rising_at x r h nd
theorem asc_nd {l : List Str} (h : Asc l) : l.Nodup := List.Pairwise.imp (R := ltS) (S := (· ≠ ·)) (fun {a b} z (e : a = b) => ltS_irr b (e ▸ z)) h
theorem sorted_asc {l ks : List Str} (h : sortedS l = true) (nd : l.Nodup) (m : ∀ k, k ∈ l ↔ k ∈ ks) : l = ascS ks := asc_one (asc_sorted h nd) (asc_ascS ks) fun k => (m k).trans mem_ascS.symm
theorem len_insS (k : Str) : ∀ l : List Str, (insS k l).length ≤ l.length + 1
  | [] => Nat.le_refl _
  | x :: l => by
    unfold insS
    split
    · simp
    · split
      · simp
      · simpa using len_insS k l
theorem len_ascS : ∀ l : List Str, (ascS l).length ≤ l.length
  | [] => Nat.le_refl _
  | k :: l => Nat.le_trans (len_insS k _) (Nat.succ_le_succ (len_ascS l))
/-! ### sorted(set(xs)) -/
def TxO (w : World) (a : Addr) (T : List Str) : HO := .ext fun h => TxSet w h a T
theorem txO_new {w : World} {P : Program} {H : Hp} {h : Heap} {a : Addr} {T : List Str} (R : TxSet w h a T) : ObjOk P w H h a (TxO w a T) := by
  have ⟨o, _, _, _, ho, _⟩ := R
  exact ⟨R, ⟨o, ho⟩, fun h1 h2 p k => p.keep k⟩
def rSetTx (K : PySem.W.Frag) (w : World) : List V → Hp → VK → Prop := fun xs H Q => ∃ (l : Addr) (ks : List Str), xs = [V.ref l] ∧ SqL K H l (ks.map V.str) ∧ ks.length < 1000 ∧ ∀ p, H p = none → Q (.ref p) (upd H p (TxO w p ks.reverse))
def rSortTx (w : World) : List V → Hp → VK → Prop := fun xs H Q => ∃ (a : Addr) (T : List Str), xs = [V.ref a] ∧ H a = some (TxO w a T) ∧ (ascS T).length < 64 ∧ ∀ p, H p = none → Q (.ref p) (upd H p (.lst ((ascS T).map V.str)))
section
variable {X : Cx} {W : WX}
theorem cr_setTx (hc : X.calm = true) : CallR X (.type "set") (rSetTx X.K X.w) := by
  intro pins s σ H vs us Q I r h
  obtain ⟨l, ks, rfl, hs, h64, q⟩ := h
  obtain ⟨its, rv, hl, _⟩ := I.list hs
  rw [Vals.ref1 r]
  refine tx_set (I.ok.hd hc) hl.isList (by simpa using strsAre_of rv) (Nat.lt_trans (Nat.succ_lt_succ h64) (by decide)) fun h' tk hS hk => ?_
  exact ⟨.ref _, upd H s.heap.objs.size (TxO X.w s.heap.objs.size ks.reverse), I.laid (t' := tk) (fun b u e => hk b u e) (Nat.le_refl _) (txO_new hS), rfl, q _ (I.hok.fresh (Nat.le_refl _))⟩
theorem cr_sortTx (hc : X.calm = true) : CallR X (.builtin "sorted") (rSortTx X.w) := by
  intro pins s σ H vs us Q I r h
  obtain ⟨a, T, rfl, ha, h64, q⟩ := h
  have R : TxSet X.w s.heap a T := (I.hok a _ ha).1
  rw [Vals.ref1 r]
  refine tx_sorted R (I.ok.hd hc) (fun l nd m => by rw [((List.perm_ext_iff_of_nodup nd (asc_nd (asc_ascS T))).mpr fun k => (m k).trans mem_ascS.symm).length_eq]; exact h64) fun s' p out c ns k g o hp hg hi hs nd hm hl => ?_
  obtain rfl := sorted_asc hs nd hm
  have hlen : ((ascS T).map V.str).length ≤ sizeLine := by rw [List.length_map, sizeLine_eq]; omega
  have hn : H p = none := I.hok.fresh hp
  have J : Inv X pins σ (upd H p (.lst ((ascS T).map V.str))) { s with heap := s'.heap, gens := s'.gens, drawn := s'.drawn, toks := s'.toks } :=
    I.call (ch := []) (Un.laid k hp hn) (I.hok.laid k hp ⟨hlen, out.toList, c, vals_of_strs hi, hg⟩) (by rw [g]; exact I.bare) (fun _ z => nomatch z)
  have e : s' = { s with heap := s'.heap, gens := s'.gens, drawn := s'.drawn, toks := s'.toks } := by
    cases s'; cases s; cases o; rfl
  rw [e]
  exact ⟨.ref p, _, J, rfl, q p hn⟩
theorem ascS_rev (l : List Str) : ascS l.reverse = ascS l := asc_one (asc_ascS _) (asc_ascS _) fun k => by rw [mem_ascS, mem_ascS, List.mem_reverse]
def sortSetD : WS → D → Option D := fun S x => match x with
  | .tup _ => none
  | x => (itemsD S x).bind fun ds => (strsD ds).bind fun ks => if ks.length < 1000 ∧ (ascS ks).length < 64 then some (.lst ((ascS ks).map D.str)) else none
theorem ge_sortSet {e : Expr} {ea : RV.Env → M} {p1 p2 p3 p4 : Pos} (hc : X.calm = true) (n1 : X.mg "sorted" = none) (n2 : X.mg "set" = none) (ha : GE X W e ea) (g1 : Gl X "sorted" := by rfl) (g2 : Gl X "set" := by rfl)
    (s1 : starEach [e] X.env = (false, eval e X.env) :: starEach [] X.env := by rfl) (s2 : (backTo p3 (starEach [] X.env)).any (·.1) = false := by rfl)
    (s3 : starEach [.Call (.Name "set" p2) [e] [] p3] X.env = (false, eval (.Call (.Name "set" p2) [e] [] p3) X.env) :: starEach [] X.env := by rfl) (s4 : (backTo p4 (starEach [] X.env)).any (·.1) = false := by rfl) :
    GE X W (.Call (.Name "sorted" p1) [.Call (.Name "set" p2) [e] [] p3] [] p4) (eUn sortSetD ea) := by
  obtain ⟨ta, pa, ma⟩ := ha
  refine ⟨_, pe_callB (cr_sortTx hc) g1 n1 (by decide +kernel) (pa_cons (pe_callTy (cr_setTx hc) g2 n2 (by decide +kernel) (pa_cons pa pa_nil s1) (by decide) (by decide) s1 s2) pa_nil s3) (by decide) (by decide) s3 s4, fun as F H S ρ σ I R q x h Q hq hx => ?_⟩
  refine ma as F H S ρ σ I R _ x h _ (fun u S1 bs F1 H1 v1 h1 g1 r1 => ?_) hx
  obtain ⟨d, h3, h4⟩ := onS_ok h1
  have hn : ∀ ys, u ≠ .tup ys := by
    rintro ys rfl
    cases h3
  have h3' : ((itemsD S1 u).bind fun ds => (strsD ds).bind fun ks => if ks.length < 1000 ∧ (ascS ks).length < 64 then some (D.lst ((ascS ks).map D.str)) else none) = some d := by
    revert h3
    unfold sortSetD
    cases u <;> first | exact id | exact fun h => absurd rfl (hn _)
  simp only [Option.bind_eq_some_iff] at h3'
  obtain ⟨ds, e1, ks, e2, e3⟩ := h3'
  split at e3
  · rename_i h64
    cases e3
    obtain ⟨a, xs, rfl, sq, rl⟩ := items_l g1.sit r1 e1 hn
    obtain rfl := strsD_ok e2
    obtain rfl := rpl_strs_v rl
    refine ⟨a, ks, rfl, sq, h64.1, fun p hp => ⟨p, ks.reverse, rfl, upd_same, by rw [ascS_rev]; exact h64.2, fun z hz => ?_⟩⟩
    rw [ascS_rev]
    have f1 := g1.sit.out hp
    have b1 : p ∉ bs := fun z => g1.sit.there z hp
    have gA : Grow X.K bs F1 H1 bs F1 (upd H1 p (TxO X.w p ks.reverse)) S1 := ⟨g1.sit.other f1 b1, Pre.refl _, Ex.refl _, fun _ h => .inl h, fun _ h => .inl h, fun c o _ h => by rw [upd_ne (ne_of_none h hp)]; exact h, fun c h => upd_there h⟩
    have gB := gA.sit.grow (o := .lst ((ascS ks).map V.str)) hz
    exact hq _ S1 bs _ _ _ h4 ((g1.trans gA).trans gB) (.lst upd_same (rpl_strs _))
  · cases e3
/-! ### sum(xs) -/
/-! ### dicts -/
def dicAt (S : WS) : D → Option (List (Key × D))
  | .dic kvs => some kvs
  | .cell k => match S[k]? with
    | some (.dic kvs) => some kvs
    | _ => none
  | _ => none
theorem rpk_pre {K : PySem.W.Frag} {as : List Addr} {F : Hp} {kvs : List (Key × D)} {vkv : List (Key × V)} (r : RpK K [] F kvs vkv) : RpK K as F kvs vkv := r.mono (Ex.refl _) pre_nil
theorem dic_v {K : PySem.W.Frag} {as : List Addr} {F H : Hp} {S : WS} {x : D} {v : V} {kvs : List (Key × D)} (I : Sit K as F H S) (r : Rp K as F x v) (h : dicAt S x = some kvs) : ∃ a vkv, v = .ref a ∧ H a = some (.dK vkv) ∧ RpK K as F kvs vkv := by
  cases x with
  | dic k =>
    cases h
    cases r with
    | dic h1 r1 => exact ⟨_, _, rfl, I.ex _ _ h1, r1⟩
  | cell k =>
    unfold dicAt at h
    cases hS : S[k]? with
    | none => simp [hS] at h
    | some c =>
      cases c with
      | dic es =>
        simp only [hS] at h
        cases h
        cases r with
        | cell ha =>
          obtain ⟨z1, ob, z2, z3⟩ := I.cell k _ _ ha hS
          cases ob with
          | dK xs => exact ⟨_, _, rfl, z2, rpk_pre z3⟩
          | _ => exact z3.elim
      | _ => simp [hS] at h
  | _ => cases h
theorem key_v {K : PySem.W.Frag} {as : List Addr} {F : Hp} {d : D} {v : V} {k : Key} (r : Rp K as F d v) (h : keyOfD d = some k) : v = kV k := by
  cases r with
  | int i => cases h; rfl
  | str s => cases h; rfl
  | _ => cases h
def valD (kvs : List (Key × D)) (k : Key) : Option D := match kvs with
  | [] => none
  | kv :: r => if kv.1 = k then some kv.2 else valD r k
theorem RpK.val {K : PySem.W.Frag} {as : List Addr} {F : Hp} {k : Key} : ∀ {kvs : List (Key × D)} {vkv : List (Key × V)}, RpK K as F kvs vkv → (valD kvs k = none ∧ valV vkv k = none) ∨ ∃ d v, valD kvs k = some d ∧ valV vkv k = some v ∧ Rp K as F d v
  | _, _, .nil => .inl ⟨rfl, rfl⟩
  | _, _, .cons (n := n) (d := d) (v := v) h r => by
    unfold valD
    by_cases e : n = k
    · refine .inr ⟨d, v, if_pos e, valV_pos e, h⟩
    · rcases r.val (k := k) with ⟨a, b⟩ | ⟨d', v', a, b, c⟩
      · exact .inl ⟨by simp only [if_neg e]; exact a, (valV_neg e).trans b⟩
      · exact .inr ⟨d', v', by simp only [if_neg e]; exact a, (valV_neg e).trans b, c⟩
/-- d[k] -/
def dgetD : WS → D → D → Option D := fun S x y => (dicAt S x).bind fun kvs => (keyOfD y).bind fun k => valD kvs k
theorem ge_dget {o i : Expr} {eo ei : RV.Env → M} {pos : Pos} (hu : X.A.units + 1 < cLine) (ho : GE X W o eo) (hi : GE X W i ei) (hs : NoSl i := by exact fun _ _ => rfl) : GE X W (.Subscript o i pos) (eOp dgetD eo ei) := by
  obtain ⟨to, po, mo⟩ := ho
  obtain ⟨ti, pi, mi⟩ := hi
  refine ⟨_, pe_dget hu po pi hs, fun as F H S ρ σ I R q x h Q hq hx => ?_⟩
  refine mo as F H S ρ σ I R _ x h _ (fun u S1 bs F1 H1 v1 h1 g1 r1 => ?_) hx
  refine mi bs F1 H1 S1 ρ σ g1.sit (R.grow g1) _ x h1 _ (fun y S2 cs F2 H2 v2 h2 g2 r2 => ?_) (hx.step g1)
  obtain ⟨d, h3, h4⟩ := onS_ok h2
  simp only [dgetD, Option.bind_eq_some_iff] at h3
  obtain ⟨kvs, e1, k, e2, e3⟩ := h3
  obtain ⟨a, vkv, rfl, ha, rk⟩ := dic_v g2.sit (RpE_aux g2 r1) e1
  obtain rfl := key_v r2 e2
  rcases rk.val (k := k) with ⟨z1, z2⟩ | ⟨d', v', z1, z2, z3⟩
  · rw [z1] at e3; cases e3
  · rw [z1] at e3; cases e3
    refine ⟨a, v', rfl, ?_, hq _ S2 cs F2 H2 _ h4 (g1.trans g2) z3⟩
    rw [← z2]
    exact DGet.k ha
/-- d.get(k, x) -/
def eDget2 (eo ei ee : RV.Env → M) : RV.Env → M := fun ρ S q x => eo ρ S (fun u S1 => (dicAt S1 u).isSome = true ∧ ei ρ S1 (fun y S2 => ee ρ S2 (fun z S3 => onS (dicAt S3 u) fun kvs => onS (keyOfD y) fun k => q ((valD kvs k).getD z) S3) x) x) x
theorem ge_dget2 {o i e : Expr} {eo ei ee : RV.Env → M} {apos cpos : Pos} (hu : X.A.units + 1 < cLine) (ho : GE X W o eo) (hi : GE X W i ei) (he : GE X W e ee) (m : M2 X o "get" apos i e cpos := by exact ⟨rfl, rfl, rfl, rfl⟩) : GE X W (.Call (.Attribute o "get" apos) [i, e] [] cpos) (eDget2 eo ei ee) := by
  obtain ⟨to, po, mo⟩ := ho
  obtain ⟨ti, pi, mi⟩ := hi
  obtain ⟨te, pe, me⟩ := he
  refine ⟨_, pe_dget2 hu po pi pe m, fun as F H S ρ σ I R q x h Q hq hx => ?_⟩
  refine mo as F H S ρ σ I R _ x h _ (fun u S1 bs F1 H1 v1 h1 g1 r1 => ?_) hx
  obtain ⟨kvs0, e0⟩ := Option.isSome_iff_exists.mp h1.1
  obtain ⟨a, vk0, rfl, ha0, _⟩ := dic_v g1.sit r1 e0
  refine ⟨a, rfl, .inl ⟨vk0, .inl ha0⟩, ?_⟩
  refine mi bs F1 H1 S1 ρ σ g1.sit (R.grow g1) _ x h1.2 _ (fun y S2 cs F2 H2 v2 h2 g2 r2 => ?_) (hx.step g1)
  have g12 := g1.trans g2
  refine me cs F2 H2 S2 ρ σ g2.sit (R.grow g12) _ x h2 _ (fun z S3 es F3 H3 v3 h3 g3 r3 => ?_) (hx.step g12)
  obtain ⟨kvs, e1, h3⟩ := onS_ok h3
  obtain ⟨k, e2, h4⟩ := onS_ok h3
  obtain ⟨a', vkv, e3, ha, rk⟩ := dic_v g3.sit (RpE_aux g3 (RpE_aux g2 r1)) e1
  cases e3
  obtain rfl := key_v r2 e2
  refine ⟨valV vkv k, DGet.k ha, ?_⟩
  rcases rk.val (k := k) with ⟨z1, z2⟩ | ⟨d', v', z1, z2, z3⟩
  · rw [z1] at h4
    rw [z2]
    exact hq _ S3 es F3 H3 _ h4 (g12.trans g3) r3
  · rw [z1] at h4
    rw [z2]
    exact hq _ S3 es F3 H3 _ h4 (g12.trans g3) z3
/-- {} as a new cell -/
def eNewDic : RV.Env → M := fun _ S q _ => q (.cell S.length) (S ++ [.dic []])
theorem ge_newDic {pos : Pos} : GE X W (.Dict [] [] pos) eNewDic := by
  refine ⟨_, pe_dnewK, fun as F H S ρ σ I R q x h Q hq _ a ha => ?_⟩
  have f1 := I.out ha
  have b1 : a ∉ as := fun z => I.there z ha
  have s2 : Sit X.K (as ++ [a]) F (upd H a (.dK [])) (S ++ [.dic []]) := sit_cell I b1 f1 (fun b o _ hh => by rw [upd_ne (ne_of_none hh ha)]; exact hh) upd_same rfl .nil
  refine hq _ _ (as ++ [a]) F _ _ h ⟨s2, pre_app, Ex.refl _, fun _ h => .inl h, fun b hb => ?_, fun c o _ h => by rw [upd_ne (ne_of_none h ha)]; exact h, fun c h => upd_there h⟩ (.cell (by rw [← I.len]; simp))
  rcases List.mem_append.mp hb with z | z
  · exact .inl z
  · rw [List.mem_singleton] at z
    subst z
    exact .inr ha
/-- d[k] = e -/
def dputD (o i d : D) (S : WS) : Option WS := match o with
  | .cell k => match S[k]? with
    | some (.dic kvs) => if D.clean 0 d = true ∧ small kvs.length = true then (keyOfD i).map fun key => S.set k (.dic (putKD kvs key d)) else none
    | _ => none
  | _ => none
def sDputD (eo ei ee : RV.Env → M) : RV.Env → MS := fun ρ S k => ee ρ S (fun d S1 => eo ρ S1 (fun o S2 => ei ρ S2 (fun i S3 => onS (dputD o i d S3) fun S' => k.nx ρ S') fun e S' => k.ex e ρ S') fun e S' => k.ex e ρ S') fun e S' => k.ex e ρ S'
theorem gs_dput {o i e : Expr} {eo ei ee : RV.Env → M} {tpos pos : Pos} (hu : X.A.units + 1 < cLine) (he : GE X W e ee) (ho : GE X W o eo) (hi : GE X W i ei) (hs : swapsWith e (some (.Subscript o i tpos)) pos.line X.env = pure false := by rfl) :
    GS X W (.Assign [.Subscript o i tpos] e pos) (sDputD eo ei ee) := by
  obtain ⟨t, p, m⟩ := he
  obtain ⟨to, po, mo⟩ := ho
  obtain ⟨ti, pi, mi⟩ := hi
  refine ⟨_, ps_dput hu po pi p hs, fun as F H S ρ σ I R k h E q => ?_⟩
  refine m as F H S ρ σ I R _ _ h _ (fun d S1 bs F1 H1 v1 h1 g1 r1 => ?_) (q.xq R)
  refine mo bs F1 H1 S1 ρ σ g1.sit (R.grow g1) _ _ h1 _ (fun o S2 cs F2 H2 v2 h2 g2 r2 => ?_) ((q.step g1).xq (R.grow g1))
  have g12 := g1.trans g2
  refine mi cs F2 H2 S2 ρ σ g2.sit (R.grow g12) _ _ h2 _ (fun i S3 ls F3 H3 v3 h3 g3 r3 => ?_) ((q.step g12).xq (R.grow g12))
  obtain ⟨S4, h4, h5⟩ := onS_ok h3
  have g13 := g12.trans g3
  unfold dputD at h4
  split at h4
  · rename_i c
    split at h4
    · rename_i kvs hS
      split at h4
      · rename_i hcl
        simp only [Option.map_eq_some_iff] at h4
        obtain ⟨key, hk, rfl⟩ := h4
        obtain rfl := key_v r3 hk
        have r2' := RpE_aux g3 r2
        cases r2' with
        | cell h0 =>
          obtain ⟨z1, ob, z2, z3⟩ := g3.sit.cell c _ _ h0 hS
          cases ob with
          | dK xs =>
            have z3' : RpK X.K [] F3 kvs xs := z3
            have r1' : Rp X.K [] F3 d v1 := (RpE_aux g3 (RpE_aux g2 r1)).back (n := 0) (fun k a hk => absurd hk (by omega)) hcl.1
            have g4 := g3.sit.put (c' := .dic (putKD kvs key d)) (o := .dK (putK xs key v1)) h0 hS rfl rfl (z3'.put r1')
            have hl : xs.length < sizeLine := by
              have e2 : kvs.length = xs.length := by
                have : ∀ {a : List (Key × D)} {b : List (Key × V)}, RpK X.K [] F3 a b → a.length = b.length := fun {a b} r => by
                  induction a generalizing b with
                  | nil => cases r; rfl
                  | cons x l ih => cases r with | cons h r => exact congrArg (· + 1) (ih r)
                exact this z3'
              have := of_decide_eq_true hcl.2
              have h2 : (100002 : Nat) ≤ sizeLine := by decide
              omega
            exact ⟨_, _, rfl, DPut.k z2 hl, q.nx ρ _ ls F3 _ σ h5 (g13.trans g4) (R.grow (g13.trans g4))⟩
          | _ => exact z3.elim
      · cases h4
    · cases h4
  · cases h4
/-- sorted(d) -/
def keysS : List (Key × D) → Option (List Str)
  | [] => some []
  | (.inr k, _) :: r => (keysS r).map (k :: ·)
  | _ :: _ => none
theorem keysS_ok {K : PySem.W.Frag} {as : List Addr} {F : Hp} : ∀ {kvs : List (Key × D)} {ks : List Str} {vkv : List (Key × V)}, keysS kvs = some ks → RpK K as F kvs vkv → vkv.map (·.1) = ks.map Sum.inr
  | [], ks, _, h, .nil => by cases h; rfl
  | (n, d) :: r, ks, _, h, .cons h1 r1 => by
    cases n with
    | inl i => cases h
    | inr k =>
      simp only [keysS, Option.map_eq_some_iff] at h
      obtain ⟨m, h2, rfl⟩ := h
      simp only [List.map_cons, keysS_ok h2 r1]
def sortDicD : WS → List D → Option D := fun S xs => match xs with
  | [x] => (dicAt S x).bind fun kvs => (keysS kvs).bind fun ks => if ks.length < 64 ∧ ks.Nodup then some (.lst ((ascS ks).map D.str)) else none
  | _ => none
theorem rc_sortDic {K : PySem.W.Frag} : RC K (fun xs H Q => ∃ (a : Addr) (kvs : List (Key × V)) (ks : List Str), xs = [.ref a] ∧ Rd H a (.dK kvs) ∧ kvs.map (·.1) = ks.map Sum.inr ∧ ks.length < 64 ∧
    ∀ ys p, ys.Perm ks → sortedS ys = true → H p = none → Q (.ref p) (upd H p (.lst (ys.map V.str)))) sortDicD := fun as F H S ds d vs I r h Q q => by
  match ds, h with
  | [], h => cases h
  | _ :: _ :: _, h => cases h
  | [x], h =>
    simp only [sortDicD, Option.bind_eq_some_iff] at h
    obtain ⟨kvs, e1, ks, e2, e3⟩ := h
    split at e3
    · rename_i hk
      cases e3
      obtain ⟨v, ws, rfl, rv, rn⟩ := r.unsn
      obtain rfl := rn.unnil
      obtain ⟨a, vkv, rfl, ha, rk⟩ := dic_v I rv e1
      refine ⟨a, vkv, ks, rfl, .inl ha, keysS_ok e2 rk, hk.1, fun ys p pm so hp => ?_⟩
      obtain rfl := sorted_asc (ks := ks) so (pm.nodup_iff.mpr hk.2) fun k => pm.mem_iff
      have g := I.grow (o := .lst ((ascS ks).map V.str)) hp
      exact q _ _ _ g (.lst upd_same (rpl_strs _))
    · cases e3
/-! ### text.startswith -/
def startsD : WS → D → D → Option D := onStr fun _ z y => match y with
  | .str s => some (.bl (Txt.startswith z s))
  | _ => none
theorem ge_startswith {o e : Expr} {eo ee : RV.Env → M} {apos pos : Pos} (ho : GE X W o eo) (he : GE X W e ee) (hs : starEach [e] X.env = [(false, eval e X.env)] := by rfl) (hbase : attributeBase o "startswith" X.env (eval o X.env) = eval o X.env := by rfl) (hline : (apos.endLine == pos.line) = true := by rfl) :
    GE X W (.Call (.Attribute o "startswith" apos) [e] [] pos) (eOpT startsD eo ee) := by
  obtain ⟨to, po, mo⟩ := ho
  obtain ⟨te, pe, me⟩ := he
  refine ⟨_, pe_m1 F.slot_str_startswith F.type_str_startswith mt_startswith po pe hs hbase hline, me_m1 (fun as F H S x y d vy I r h Q q => ?_) mo me⟩
  simp only [onStr] at h
  split at h
  · rename_i s
    cases h
    cases r
    exact ⟨x, s, rfl, rfl, q F H _ (Grow.refl I) (.bl _)⟩
  · cases h
/-! ### range(i, j, c) -/
def stepsN (i j : Int) (c : Nat) : Nat := ((j - i).toNat + (c - 1)) / c
def steps (i j : Int) (c : Nat) : List D := (List.range (stepsN i j c)).map fun (n : Nat) => D.int (i + (n : Int) * (c : Int))
theorem walks_steps {K : PySem.W.Frag} {as : List Addr} {F : Hp} {lo c : Int} {n : Nat} {N : WS → Prop} : Walks K (Itc lo c n) as F ((List.range n).map fun (i : Nat) => D.int (lo + (i : Int) * c)) N := by
  refine ⟨fun bs F2 H2 S2 I _ _ _ => ?_, fun i h bs F2 H2 S2 I _ _ _ => ?_, fun i d h bs F2 H2 S2 I _ _ _ x H' y => ?_⟩
  · show n ≤ ((List.range n).map fun (i : Nat) => D.int (lo + (i : Int) * c)).length
    simp
  · have h2 : i < n := by simpa using h
    exact h2
  · obtain ⟨rfl, rfl⟩ := y
    simp only [List.getElem?_map, Option.map_eq_some_iff] at h
    obtain ⟨j, hj, rfl⟩ := h
    have hji : j = i := by
      have := List.getElem?_eq_some_iff.mp hj
      obtain ⟨q, w⟩ := this
      simpa using w.symm
    subst hji
    exact ⟨F2, Grow.refl I, .int _⟩
def on3I (ds : List D) (k : Int → Int → Int → Prop) : Prop := match ds with
  | [.int i, .int j, .int c] => k i j c
  | _ => False
theorem on3I_ok {ds : List D} {k : Int → Int → Int → Prop} (h : on3I ds k) : ∃ i j c, ds = [.int i, .int j, .int c] ∧ k i j c := by
  unfold on3I at h
  split at h
  · exact ⟨_, _, _, rfl, h⟩
  · exact h.elim
def iRange3 (er : RV.Env → ML) : RV.Env → MW := fun ρ S q x => er ρ S (fun ds S1 => on3I ds fun i j c => (0 ≤ i ∧ i < 1000000 ∧ 0 ≤ j ∧ j < 1000000 ∧ c = 2) ∧ q (steps i j 2) any_ S1) x
theorem rgc2 {i j : Int} (h : 0 ≤ i ∧ i < 1000000 ∧ 0 ≤ j ∧ j < 1000000) : RgC i j 2 (stepsN i j 2) := by
  refine ⟨by decide, by decide, ?_, ?_⟩
  · have sz : 0 ≤ Builtin.Range.rangeSize i j 2 ∧ Builtin.Range.rangeSize i j 2 ≤ 1000000 := by
      unfold Builtin.Range.rangeSize
      rw [if_pos (by decide)]
      split <;> omega
    have fl : ∀ z : Int, 0 ≤ z ∧ z ≤ 2000000 → Builtin.Range.rangeFitsLong z = true := fun z hz => by
      unfold Builtin.Range.rangeFitsLong
      simp
      omega
    unfold Builtin.Range.small
    rw [fl i (by omega), fl j (by omega), fl 2 (by omega), fl _ (by omega : 0 ≤ Builtin.Range.rangeSize i j 2 ∧ Builtin.Range.rangeSize i j 2 ≤ 2000000), if_pos (by decide), fl _ (by omega)]
    simp
  · unfold Builtin.Range.rangeSize stepsN
    rw [if_pos (by decide)]
    split <;> omega
theorem gi_range3 {a b c tg : Expr} {er : RV.Env → ML} {p pos : Pos} (hm : X.mg "range" = none) (ha : GA X W [a, b, c] er) (hg : Gl X "range" := by rfl)
    (hs : starEach [a, b, c] X.env = (false, eval a X.env) :: starEach [b, c] X.env := by rfl) (hpl : (backTo pos (starEach [b, c] X.env)).any (·.1) = false := by rfl) : GI X W tg (.Call (.Name "range" p) [a, b, c] [] pos) (iRange3 er) := by
  obtain ⟨t, p, m⟩ := ha
  refine ⟨_, pi_range3 hg hm p hs hpl, fun as F H S ρ σ I R q x e Q hq hx => ?_⟩
  refine m as F H S ρ σ I R _ x e _ (fun ds S1 bs F1 H1 vs h1 g r => ?_) hx
  obtain ⟨i, j, c, rfl, h1⟩ := on3I_ok h1
  obtain ⟨b1, b2, b3, b4, rfl⟩ := h1.1
  obtain ⟨v1, ws, rfl, rv1, rn⟩ := r.unsn
  obtain ⟨v2, ws, rfl, rv2, rn⟩ := rn.unsn
  obtain ⟨v3, ws, rfl, rv3, rn⟩ := rn.unsn
  obtain rfl := rn.unnil
  cases rv1
  cases rv2
  cases rv3
  exact ⟨i, j, 2, stepsN i j 2, rfl, rgc2 ⟨b1, b2, b3, b4⟩, hq _ _ S1 bs F1 H1 _ h1.2 g walks_steps⟩
/-! ### int(text) -/
def intTD : WS → List D → Option D := fun _ xs => match xs with
  | [.str a] => if a.length ≤ 640 then (PySem.intText? a).map D.int else none
  | _ => none
theorem rc_intT {K : PySem.W.Frag} : RC K (fun xs H Q => ∃ a n, xs = [.str a] ∧ PySem.intText? a = some n ∧ a.length ≤ 640 ∧ Q (.int n) H) intTD := fun as F H S ds d vs I r h Q q => by
  unfold intTD at h
  split at h
  · rename_i a
    split at h
    · rename_i hl
      simp only [Option.map_eq_some_iff] at h
      obtain ⟨n, hn, rfl⟩ := h
      obtain ⟨v, ws, rfl, rv, rn⟩ := r.unsn
      obtain rfl := rn.unnil
      cases rv
      exact ⟨a, n, rfl, hn, hl, q F H _ (Grow.refl I) (.int _)⟩
    · cases h
  · cases h
end
end RV
end
section
/-! {number:030d} -/
namespace RV
open PySem L2 PyProof.Rows PySem.Builtin PySem.Builtin.Float
section
variable {prog : Program} {w : World} {A : Around} {E : Value → Shared → Prop} {s : Shared}
abbrev spec30 : Str := "030d"
theorem f30_ex : ∃ f : FormatSpec, parseFormatSpec spec30.cps.toList "int" 62 = .ok f ∧ intSpecGood spec30 f = true ∧ f.fill = 48 ∧ f.align = 61 ∧ f.width.getD 0 = 30 := ⟨_, rfl, by decide +kernel, rfl, rfl, rfl⟩
/-- the text of n with zeros ahead, thirty signs -/
def pad30 (n : Int) : Str := ⟨(List.replicate (30 - (Nat.toDigits 10 n.natAbs).length) 48).toArray⟩ ++ Str.ofString (toString n)
theorem fmt30 {a : Int} {t : Tok} {Q : Value → Shared → Prop} (h0 : 0 ≤ a) (hlt : a.natAbs.log2 < 1920) (hd : (Nat.toDigits 10 a.natAbs).length ≤ 4300) (h : Q (.str (pad30 a) (s.toks + 1)) { s with toks := s.toks + 1 + 1 }) :
    wpAny (model prog w) A (formatField (.int a t) spec30) Q E s := by
  obtain ⟨f, hp, hg, hfi, hali, hwi⟩ := f30_ex
  have hzt : intSpecText f a = pad30 a := by
    unfold intSpecGood at hg
    simp only [Bool.and_eq_true] at hg
    rw [intSpecText_zero (Option.isNone_iff_eq_none.mp hg.1.2) (Option.isNone_iff_eq_none.mp hg.2) hfi hali h0, hwi]
    rfl
  unfold intSpecGood at hg
  simp only [Bool.and_eq_true] at hg
  obtain ⟨⟨⟨⟨⟨⟨hty, hpr⟩, hz⟩, hal⟩, hw⟩, hgr⟩, hsg⟩ := hg
  replace hty := beq_iff_eq.mp hty
  replace hpr := Option.isNone_iff_eq_none.mp hpr
  replace hz : f.noNeg0 = false := by simpa using hz
  replace hal : f.alt = false := by simpa using hal
  replace hgr := Option.isNone_iff_eq_none.mp hgr
  replace hsg := Option.isNone_iff_eq_none.mp hsg
  rw [← hzt] at h
  have hlen : (intSpecText f a).length ≤ sizeLine := by
    rw [intSpecText_length a hgr hsg, sizeLine_eq]
    split <;> omega
  show wpAny _ _ (holding [.int a t] (pyFormat (.int a t) spec30)) Q E s
  refine wpAny_holding ?_
  unfold pyFormat
  refine wpAny_bind (wpAny_mkStr ?_ (by decide))
  refine wpAny_bind (m := callSpecial? (.int a t) (Str.ofString "__format__") [.str spec30 s.toks]) (wpAny_callSpecial?_slot (name := Str.ofString "__format__") (typeIs_int _ a t) slot_int_format ?_)
  refine wpAny_call (codeAny_call_builtin slot_int_format.plain entry_int_format (slot_int_format.check _ _ _ _ _ _ _ _ (typeIs_int _ a t) (args_int_format _ _) ?_))
  have hne : (spec30.length == 0) = false := by decide
  have hasc : ((spec30.cps.toList.drop 1).any (· ≥ 128) || (spec30.cps.getD 0 0 ≥ 128 && !([60, 62, 61, 94] : List Nat).contains (spec30.cps.getD 1 0))) = false := by decide
  unfold Builtin.«int.__format__»
  generalize spec30 = sp at *
  simp only [selfAndOne, noKeywords, Int.intOfSelf, asInt?, asStr?, List.isEmpty_nil, if_true, pure_bind, bind_pure, bind_assoc, hne, hasc, Bool.false_eq_true, if_false,
    show (Value.str sp s.toks == Value.none) = false from rfl]
  refine wpAny_bind (wpAny_typeNameOf (T := "str") (typeIs_str _ _ _) (by decide) fun _ => ?_)
  refine wpAny_bind ?_
  first | refine wpAny_typeNameOfCut_int ?_ | refine wpAny_typeNameOf_int ?_
  simp only [hp, hty]
  rw [if_pos (by decide)]
  show wpAny _ _ (if _ then _ else _) _ _ _
  rw [if_neg (by simp [hpr])]
  show wpAny _ _ (if _ then _ else _) _ _ _
  rw [if_neg (by simp [hz])]
  show wpAny _ _ (if _ then _ else _) _ _ _
  rw [if_neg (by decide)]
  show wpAny _ _ (do let r ← Builtin.overDigitLimit? a; _) _ _ _
  rw [PySem.overDigitLimit_small hlt]
  refine wpAny_bind (wpAny_pure ?_)
  show wpAny _ _ (if _ then _ else _) _ _ _
  rw [if_neg (by simp [hwi])]
  show wpAny _ _ (retStr _) _ _ _
  unfold retStr
  refine wpAny_bind (wpAny_mkStr (wpAny_pure ?_) ?hs2)
  case hs2 =>
    simp only [hal, Bool.false_eq_true, if_false, show ((10 : Nat) == 10) = true by decide, if_true]
    conv => lhs; arg 1; whnf
    simp only [intSpecText, intField', hgr, hsg, hal, Bool.false_eq_true, if_false, show ((10 : Nat) == 10) = true by decide, if_true] at hlen ⊢
    exact hlen
  dsimp only
  refine wpAny_bind (wpAny_isInstance (typeIs_str _ _ _) isSubtype_str_str (wpAny_pure ?_))
  simp only [hal, Bool.false_eq_true, if_false, show ((10 : Nat) == 10) = true by decide, if_true]
  conv => arg 1; arg 1; whnf
  simp only [intSpecText, intField', hgr, hsg, hal, Bool.false_eq_true, if_false, show ((10 : Nat) == 10) = true by decide, if_true] at h ⊢
  exact h
end
section
variable {X : Cx} {W : WX} {e : Expr} {ea : RV.Env → M} {pos p1 p2 : Pos} {k : Nat}
def fmt30D : WS → D → Option D := fun _ x => match x with
  | .int i => if 0 ≤ i ∧ i < 1000000000000000000000000000000 then some (.str (pad30 i)) else none
  | _ => none
theorem small30 {i : Int} (h : 0 ≤ i ∧ i < 1000000000000000000000000000000) : i.natAbs.log2 < 1920 ∧ (Nat.toDigits 10 i.natAbs).length ≤ 30 := by
  have hn : i.natAbs < 1000000000000000000000000000000 := by omega
  refine ⟨?_, ?_⟩
  · by_cases z : i.natAbs = 0
    · rw [z]; decide
    · refine Nat.lt_of_lt_of_le ((Nat.log2_lt z).2 (Nat.lt_trans hn (by decide : (1000000000000000000000000000000 : Nat) < 2 ^ 100))) (by decide)
  · have q := (Nat.length_repr_le_iff (n := i.natAbs) (by decide : 0 < 30)).mpr (Nat.lt_of_lt_of_le hn (by decide))
    rwa [← String.length_toList, Nat.toList_repr] at q
theorem ge_fmt30 (h : GE X W e ea) : GE X W (.FormattedValue e (-1) (some (.JoinedStr [.Constant (.str "030d") k p1] p2)) pos) (eUn fmt30D ea) := by
  obtain ⟨te, pe, me⟩ := h
  refine ⟨tUn (fun x H Q => ∃ i : Int, x = .int i ∧ (0 ≤ i ∧ i < 1000000000000000000000000000000) ∧ Q (.str (pad30 i)) H) te, ⟨fun pins s σ H Q I h => ?_⟩, me_un (fun as F H S x d vx I r h Q q => ?_) me⟩
  · refine wpAny_FormattedValue_spec (thn (pe.run pins s σ H _ I h) fun v s1 hh => ?_)
    obtain ⟨x, H1, I1, rx, i, rfl, hb, q⟩ := hh
    obtain ⟨t, rfl⟩ := rx
    refine wpAny_JoinedStr_one (thn (pe_str.run pins s1 σ H1 (fun z H2 => z = .str "030d" ∧ H2 = H1) I1 ⟨rfl, rfl⟩) fun u s2 hh => ?_)
    obtain ⟨z, H2, I2, rz, rfl, rfl⟩ := hh
    obtain ⟨t2, rfl⟩ := rz
    exact ⟨_, t2, rfl, fmt30 hb.1 (small30 hb).1 (Nat.le_trans (small30 hb).2 (by decide)) ⟨.str (pad30 i), H2, I2.tok _, ⟨_, rfl⟩, q⟩⟩
  · unfold fmt30D at h
    split at h
    · rename_i i
      split at h
      · rename_i hb
        cases h
        cases r
        exact ⟨i, rfl, hb, q F H _ (Grow.refl I) (.str _)⟩
      · cases h
    · cases h
end
end RV
namespace RV
open PySem L2
theorem dunits {X : Cx} {k : Nat} (hr : Room k X.A) : X.A.units + 1 < cLine := by
  have h := Rx.units (h := false) (k := k) hr
  omega
end RV
namespace RV
open PySem L2
def divOkW (_ j : Int) : Bool := decide (0 < j ∧ j < 1000000000000000000000000000000000000000000000000000000000000)
def fdivWD : WS → D → D → Option D := intCD divOkW (fun i j => i / j)
theorem divOkW_c {i j : Int} (h : divOkW i j = true) : CDivW i j := by
  have h := of_decide_eq_true h
  refine ⟨h.1, ?_⟩
  refine Nat.lt_of_lt_of_le ((Nat.log2_lt (by omega)).2 (Nat.lt_of_lt_of_le (m := 1000000000000000000000000000000000000000000000000000000000000) (by omega) (by decide : (1000000000000000000000000000000000000000000000000000000000000 : Nat) ≤ 2 ^ 200))) (by decide)
theorem ro_fdivW {K : PySem.W.Frag} : RO K (rI CDivW fun i j => .int (i / j)) fdivWD := ro_intC fun _ _ h => divOkW_c h
theorem fdivWD_int {S : WS} {i j : Int} (h : divOkW i j = true) : fdivWD S (.int i) (.int j) = some (.int (i / j)) := if_pos h
end RV
namespace RV
open PySem L2
theorem keyD_s {s : Str} : keyOfD (.str s) = some (Sum.inr s) := rfl
theorem on3I_i {i j c : Int} {k : Int → Int → Int → Prop} : on3I [.int i, .int j, .int c] k = k i j c := rfl
end RV
end
section
/-! own -x; a number times an object (__rmul__); o[i] of an own class -/
namespace RV
open PySem L2 PySem.W
section
variable {prog : Program} {w : World} {M : Model} {A : Around} {E : Value → Shared → Prop} {s : Shared} {K : PySem.W.Frag} {x C L f g dx : Addr} {h₀ : Heap} {m : Str → Option Value} {od : Obj}
end
end RV
end
section
/-! own -x and i * x as expressions; classmethods with *args -/
namespace RV
open PySem L2
section
variable {nn : Bool} {X : Cx} {W : WX} {a b o e : Expr} {es : List Expr} {pos apos : Pos} {ea eb : RV.Env → M} {er : RV.Env → ML} {C : Addr} {m : Str} {k j n : Nat} {G : List D → M} {pl : Sem Bool}
/-! ### *args -/
end
end RV
end
section
/-! o[i], p[j] = a, b; max(xs) -/
namespace RV
open PySem L2
section
variable {X : Cx} {W : WX} {e o o2 : Expr} {pos : Pos} {eo ei eo2 ei2 ee : RV.Env → M}
/-! ### max(xs) -/
end
end RV
end
section
/-! dict(t), t a tuple of pairs; in a dict; own o[i], own truth; a number == an object -/
namespace RV
open PySem L2 PySem.Spec PyProof.Rows
section
variable {prog : Program} {w : World} {A : Around} {E : Value → Shared → Prop}
end
end RV
namespace RV
open PySem L2
section
variable {X : Cx} {W : WX} {o : Expr} {pos apos : Pos} {ea : RV.Env → M} {C : Addr} {m : Str} {k j : Nat} {G : List D → M} {pl : Sem Bool}
end
end RV
namespace RV
open PySem L2
end RV
end
section
/-! zip of a tuple or a list with a tuple or a list -/
namespace RV
open PySem PySem.Spec PyProof.Rows L2
def ItAt (m : Bool) (h : Heap) (i l : Addr) (n : Nat) : Prop := match m with
  | true => h.IsTupleIter i l n
  | false => h.IsListIter i l n
def SqAt (m : Bool) (h : Heap) (l : Addr) (xs : Array Value) : Prop := match m with
  | true => h.IsTuple l xs
  | false => h.IsList l xs
section
variable {h h' : Heap} {m m1 m2 : Bool} {a c l : Addr} {n : Nat} {xs ys : Array Value}
theorem ItAt.eb (x : ItAt m h a l n) (q : Heap.ExtBut c h h') (ne : a ≠ c) : ItAt m h' a l n := by
  cases m
  · exact Heap.IsListIter.extBut x q ne
  · exact Heap.IsTupleIter.extBut x q ne
theorem SqAt.eb (x : SqAt m h a xs) (q : Heap.ExtBut c h h') (ne : a ≠ c) : SqAt m h' a xs := by
  cases m
  · exact Heap.IsList.extBut x q ne
  · exact Heap.IsTuple.extBut x q ne
theorem ItAt.at_ (x : ItAt m h a l n) (e : ∀ o, h.get? a = some o → h'.get? a = some o) : ItAt m h' a l n := by
  cases m
  · exact Heap.IsListIter.at x e
  · exact Heap.IsTupleIter.at x e
theorem ItAt.obj (x : ItAt m h a l n) : ∃ o, h.get? a = some o ∧ ∀ v, o.data ≠ .cell v := by
  cases m
  · obtain ⟨o, e, _, d⟩ := x
    exact ⟨o, e, fun v q => by rw [d] at q; cases q⟩
  · obtain ⟨o, e, _, d⟩ := x
    exact ⟨o, e, fun v q => by rw [d] at q; cases q⟩
theorem SqAt.lt (x : SqAt m h a xs) : a < h.objs.size := by
  cases m
  · obtain ⟨o, e, _⟩ := x
    exact Heap.lt_size e
  · obtain ⟨o, e, _⟩ := x
    exact Heap.lt_size e
end
section
variable {prog : Program} {w : World} {A : Around} {E : Value → Shared → Prop} {s : Shared} {m m1 m2 : Bool}
end
theorem SqAt.push {h : Heap} {m : Bool} {l : Addr} {xs : Array Value} (x : SqAt m h l xs) (o : Obj) : SqAt m (h.push o) l xs := by
  cases m
  · exact Heap.IsList.push x o
  · exact Heap.IsTuple.push x o
section
variable {prog : Program} {w : World} {A : Around} {E : Value → Shared → Prop} {s : Shared} {m1 m2 : Bool}
end
/-! ### the walk -/
def SqM (K : PySem.W.Frag) (m : Bool) (H : Hp) (a : Addr) (xs : List V) : Prop := match m with
  | true => SqT K H a xs
  | false => SqL K H a xs
section
variable {X : Cx} {pins : List (Addr × Obj)} {σ : L2.St} {H : Hp} {s : Shared} {m : Bool}
end
/-! ### the reading -/
/-- a sequence that stays as long as N does -/
structure StayS (K : PySem.W.Frag) (m : Bool) (as : List Addr) (F : Hp) (a : Addr) (ds : List D) (N : WS → Prop) : Prop where
  at_ : ∀ bs F2 H2 S2, Sit K bs F2 H2 S2 → Ex F F2 → Pre as bs → N S2 → ∃ xs, SqM K m H2 a xs ∧ RpL K bs F2 ds xs
end RV
end
section
/-! comprehensions of any kind and depth, calm or while an error is handled -/
namespace RV
open PySem PySem.Spec PyProof.Rows L2
/-- nothing is handled, or an error whose context is None -/
def Rdy (h : Bool) (X : Cx) : Prop := match h with
  | false => X.calm = true
  | true => L2H.HotC X
structure TurnG (h : Bool) (P : Program) (w : World) (K : PySem.W.Frag) (tg : Expr) (J : It) (fp : List Addr) (it : Addr) (tn : Nat → Heap → Prop) : Prop where
  obj : ∀ i g, tn i g → ∀ b ∈ fp, ∃ o, g.get? b = some o ∧ ∀ v, o.data ≠ .cell v
  keep : ∀ i g g', tn i g → (∀ b ∈ fp, ∀ o, g.get? b = some o → g'.get? b = some o) → tn i g'
  item : ∀ (X : Cx), X.prog = P → X.w = w → X.K = K → Rdy h X → ∀ (i : Nat) (pins : List (Addr × Obj)) (s : Shared) (σ : L2.St) (H : Hp) (E : Value → Shared → Prop), Inv X pins σ H s → (∀ b ∈ fp, FpOk X pins H b) → tn i s.heap → J.go i H →
    wpAny (model P w) X.A (pyNext (.ref it)) (fun r s1 => ∃ u, r = some u ∧ wpAny (model P w) X.A (letOwnedTupleGo tg (.ref it) u) (fun _ s2 => ∃ x H', Inv X pins σ H' s2 ∧ RelV x u ∧ J.yld i H x H' ∧ tn (i + 1) s2.heap ∧ ∀ b ∈ fp, H' b = none) E s1) E s
  done : ∀ (X : Cx), X.prog = P → X.w = w → X.K = K → Rdy h X → ∀ (i : Nat) (pins : List (Addr × Obj)) (s : Shared) (σ : L2.St) (H : Hp) (E : Value → Shared → Prop), Inv X pins σ H s → (∀ b ∈ fp, FpOk X pins H b) → tn i s.heap → J.stop i H →
    wpAny (model P w) X.A (pyNext (.ref it)) (fun r s1 => r = none ∧ Inv X pins σ H s1) E s
  self : ∀ (A : Around) (i : Nat) (s : Shared) (Q : Value → Shared → Prop) (E : Value → Shared → Prop), tn i s.heap → Q (.ref it) s → wpAny (model P w) A (pyIter (.ref it)) Q E s
theorem TurnG.calm {P : Program} {w : World} {K : PySem.W.Frag} {tg : Expr} {J : It} {fp : List Addr} {it : Addr} {tn : Nat → Heap → Prop} (T : Turn P w K tg J fp it tn) : TurnG false P w K tg J fp it tn := ⟨T.obj, T.keep, T.item, T.done, T.self⟩
theorem TurnG.hot {P : Program} {w : World} {K : PySem.W.Frag} {tg : Expr} {J : It} {fp : List Addr} {it : Addr} {tn : Nat → Heap → Prop} (T : L2H.TurnH P w K tg J fp it tn) : TurnG true P w K tg J fp it tn := ⟨T.obj, T.keep, T.item, T.done, T.self⟩
def PIEG (h : Bool) (X : Cx) (pins : List (Addr × Obj)) (σ : L2.St) (tg : Expr) (R : It → Hp → Prop) (itv : Value) (s2 : Shared) : Prop :=
  ∃ (it : Addr) (fp : List Addr) (tn : Nat → Heap → Prop) (J : It) (H' : Hp), itv = .ref it ∧ Inv X pins σ H' s2 ∧ TurnG h X.prog X.w X.K tg J fp it tn ∧ tn 0 s2.heap ∧ (∀ b ∈ fp, FpOk X pins H' b) ∧ R J H'
structure PIG (h : Bool) (X : Cx) (tg iter : Expr) (wi : TI) : Prop where
  run : ∀ (pins : List (Addr × Obj)) (s : Shared) (σ : L2.St) (H : Hp) (R : It → Hp → Prop), Inv X pins σ H s → wi σ H R →
    wpAny (model X.prog X.w) X.A (eval iter X.env) (fun v s1 => wpAny (model X.prog X.w) X.A (pyIter v) (PIEG h X pins σ tg R) X.xe s1) X.xe s
theorem PIG.calm {X : Cx} {tg iter : Expr} {wi : TI} (p : PI X tg iter wi) : PIG false X tg iter wi := by
  refine ⟨fun pins s σ H R I hw => thn (p.run pins s σ H R I hw) fun v s1 q => thn q fun itv s2 q => ?_⟩
  obtain ⟨it, fp, tn, J, H', e, I', T, r⟩ := q
  exact ⟨it, fp, tn, J, H', e, I', .calm T, r⟩
theorem PIG.hot {X : Cx} {tg iter : Expr} {wi : TI} (p : L2H.PIH X tg iter wi) : PIG true X tg iter wi := by
  refine ⟨fun pins s σ H R I hw => thn (p.run pins s σ H R I hw) fun v s1 q => thn q fun itv s2 q => ?_⟩
  obtain ⟨it, fp, tn, J, H', e, I', T, r⟩ := q
  exact ⟨it, fp, tn, J, H', e, I', .hot T, r⟩
/-! ### one turn, in words of our own -/
def turnB (c : Comprehension) (go : Sem Fin) (e : Expr) (d : Nat) (it acc : Value) (env : PySem.Env) : Sem Fin := do
  standAt c.iter.pos
  let r ← pyNext it
  match r with
  | none => pure (.done .next)
  | some v =>
    letOwnedTupleGo c.target it v
    assign c.target env v
    let ok ← forIn c.ifs true fun x r => if r = true then do let ok ← isTrue x env (eval x env); pure (ForInStep.yield ok) else pure (ForInStep.yield r)
    if ok = true then go
    else again (.compLoop e d it acc env)
/-- the next clause's loop, then the next turn -/
def innerB (c : Comprehension) (e : Expr) (d : Nat) (it acc : Value) (env : PySem.Env) : Sem Fin := do
  let x ← eval c.iter env
  standAt c.iter.pos
  let x ← foldedSetIterable c.iter env x
  let i1 ← holding [x] (pyIter x)
  let _ ← runOwn (.compStart e (d + 1) i1 acc env) env
  again (.compLoop e d it acc env)
def lastB (em : Sem Unit) (e : Expr) (d : Nat) (it acc : Value) (env : PySem.Env) : Sem Fin := do
  em
  again (.compLoop e d it acc env)
/-- e is a comprehension with these clauses, em what it does with an item -/
structure IsC (e : Expr) (gens : List Comprehension) (acc : Value) (env : PySem.Env) (em : Sem Unit) : Prop where
  cl : clausesOf e = gens
  dl : ∀ (prog : Program) (w : World) (A : Around) (d : Nat) (it : Value) (Q : Fin → Shared → Prop) (E : Value → Shared → Prop) (s : Shared), wpAny (model prog w) A ((compTurn e d it acc env).onRaise (fun x => do noteFrame x env; theTreesLotGoes x)) Q E s → wpAny (model prog w) (A.under (.compLoop e d it acc env)) ((model prog w).den (.compLoop e d it acc env)) Q E s
  ds : ∀ (prog : Program) (w : World) (A : Around) (d : Nat) (it : Value) (Q : Fin → Shared → Prop) (E : Value → Shared → Prop) (s : Shared), wpAny (model prog w) A ((compStart e d it acc env).onRaise (fun x => do noteFrame x env; standAt theWindowsPlace)) Q E s → wpAny (model prog w) (A.under (.compStart e d it acc env)) ((model prog w).den (.compStart e d it acc env)) Q E s
  last : ∀ (d : Nat) (it : Value) (c : Comprehension), gens[d]? = some c → c.is_async = 0 → gens[d + 1]? = none → compTurn e d it acc env = turnB c (lastB em e d it acc env) e d it acc env
  more : ∀ (d : Nat) (it : Value) (c c' : Comprehension), gens[d]? = some c → c.is_async = 0 → gens[d + 1]? = some c' → c'.is_async = 0 → compTurn e d it acc env = turnB c (innerB c' e d it acc env) e d it acc env
section
variable {elt k v : Expr} {gens : List Comprehension} {scope : Scope} {pos : Pos} {acc : Value} {env : PySem.Env}
def emS (elt : Expr) (acc : Value) (env : PySem.Env) : Sem Unit := do
  let v ← eval elt env
  standAt elt.pos
  let _ ← call (.builtin "set.add") [acc, v]
theorem isC_set : IsC (.SetComp elt gens scope pos) gens acc env (emS elt acc env) := by
  refine ⟨rfl, fun _ _ _ _ _ _ _ _ q => q, fun _ _ _ _ _ _ _ _ q => q, fun d it c h1 h2 h3 => ?_, fun d it c c' h1 h2 h3 h4 => ?_⟩
  · unfold compTurn turnB lastB
    obtain ⟨t, i, f, a⟩ := c
    obtain rfl : a = 0 := h2
    simp only [h1, h3]
    rfl
  · unfold compTurn turnB innerB
    obtain ⟨t, i, f, a⟩ := c
    obtain rfl : a = 0 := h2
    obtain ⟨t', i', f', a'⟩ := c'
    obtain rfl : a' = 0 := h4
    simp only [h1, h3]
    rfl
end
/-! ### the loops -/
structure Lvl where
  wi : TI
  g : TG
  tt : TT
  vs : List Nat
def tLoop (l : Lvl) (inner : L2.St → Hp → (Hp → Prop) → Prop) (J : It) (σ : L2.St) (H1 : Hp) (N : Hp → Prop) : Prop := ∃ W : Nat → Nat → Hp → Prop, (∃ m, W 0 m H1) ∧ ∀ i m H, W i m H →
  (J.stop i H ∧ N H) ∨ (J.go i H ∧ ∃ Nx : Hp → Prop, (∀ H', Nx H' → ∃ m', m' < m ∧ W (i + 1) m' H') ∧ ∀ x H', J.yld i H x H' → l.g x (wipe σ l.vs) H' fun σ2 H2 => wipe σ2 l.vs = wipe σ l.vs ∧ l.tt σ2 H2 fun b H3 => if b = true then inner σ2 H3 Nx else Nx H3)
def tLv (em : L2.St → Hp → (Hp → Prop) → Prop) : List Lvl → L2.St → Hp → (Hp → Prop) → Prop
  | [] => em
  | l :: ls => fun σ H N => l.wi σ H fun J H1 => tLoop l (tLv em ls) J σ H1 N
inductive LvIn (h : Bool) (B : Cx) : List Nat → List Comprehension → List Lvl → Prop where
  | nil {vs : List Nat} : LvIn h B vs [] []
  | cons {vs : List Nat} {tg iter : Expr} {ifs : List Expr} {l : Lvl} {cs : List Comprehension} {ls : List Lvl} : (∀ i ∈ l.vs, i ∈ vs) → PIG h B tg iter l.wi → PG B tg l.g → PTs B ifs l.tt → (∀ env x, foldedSetIterable iter env x = pure x) → LvIn h B l.vs cs ls → LvIn h B vs (⟨tg, iter, ifs, 0⟩ :: cs) (l :: ls)
section
variable {h : Bool} {B : Cx} {e : Expr} {acc : Value} {gens : List Comprehension} {em : Sem Unit}
theorem thnX {α : Type} {t : Sem α} {Q Q' : α → Shared → Prop} {M : Model} {A : Around} {E : Value → Shared → Prop} {s : Shared} (hx : B.xe = fun _ _ => False) (q : wpAny M A t Q B.xe s) (hq : ∀ a s, Q a s → Q' a s) : wpAny M A t Q' E s :=
  wpAny_mono q hq fun _ _ z => by
    rw [hx] at z
    exact z.elim
theorem wipe_weak {pins : List (Addr × Obj)} {σ : L2.St} {H : Hp} {s : Shared} (I : Inv B pins σ H s) (vs : List Nat) : Inv B pins (wipe σ vs) H s := I.weak (wipe_length _ _) fun j v e => (wipe_some e).1
theorem wipe_sub {σ : L2.St} {us vs : List Nat} (hv : ∀ i ∈ us, i ∈ vs) (i : Nat) (v : V) (e : (wipe σ vs)[i]? = some (some v)) : (wipe σ us)[i]? = some (some v) := by
  obtain ⟨e1, e2⟩ := wipe_some e
  rw [L2.wipe_out fun z => e2 (hv i z)]
  exact e1
def loopR (B : Cx) (pins : List (Addr × Obj)) (σ : L2.St) (N : Hp → Prop) : Result → Shared → Prop := fun r s' => match r with
  | .ok _ => ∃ H', Inv B pins σ H' s' ∧ N H'
  | .error _ => False
theorem loop1 {d : Nat} {c : Comprehension} {l : Lvl} {inner : L2.St → Hp → (Hp → Prop) → Prop} {K : Value → Sem Fin} (C : IsC e gens acc B.env em) (eqn : ∀ it, compTurn e d it acc B.env = turnB c (K it) e d it acc B.env) (hx : B.xe = fun _ _ => False) (rd : Rdy h B) (pg : PG B c.target l.g) (pt : PTs B c.ifs l.tt)
    (go : ∀ (it : Value) (pins : List (Addr × Obj)) (s : Shared) (σ2 : L2.St) (H2 : Hp) (N : Hp → Prop), Inv B pins σ2 H2 s → inner σ2 H2 N → wpAny (model B.prog B.w) B.A (K it) (fun f s' => f = .again (.compLoop e d it acc B.env) ∧ ∃ H', Inv B pins (wipe σ2 l.vs) H' s' ∧ N H') (fun _ _ => False) s)
    {pins : List (Addr × Obj)} {s : Shared} {σ : L2.St} {H : Hp} {it : Addr} {fp : List Addr} {tn : Nat → Heap → Prop} {J : It} {N : Hp → Prop} (I : Inv B pins (wipe σ l.vs) H s) (T : TurnG h B.prog B.w B.K c.target J fp it tn) (st : tn 0 s.heap) (hf : ∀ b ∈ fp, FpOk B pins H b) (hl : tLoop l inner J σ H N) :
    codeAny (model B.prog B.w) B.A (.compLoop e d (.ref it) acc B.env) (loopR B pins (wipe σ l.vs) N) s := by
  obtain ⟨W, ⟨m0, w0⟩, turn⟩ := hl
  have sta := fun b (hb : b ∈ fp) => (hf b hb).2
  refine codeAny_loop rfl (fun n s' => ∃ i H', Inv B pins (wipe σ l.vs) H' s' ∧ tn i s'.heap ∧ (∀ b ∈ fp, H' b = none) ∧ W i n H') ?_ m0 ⟨0, H, I, st, fun b hb => (hf b hb).1, w0⟩
  rintro n s5 ⟨i, H5, I5, st5, n5, w5⟩
  refine C.dl _ _ _ _ _ _ _ _ (wpAny_noted ?_)
  rw [eqn]
  unfold turnB
  refine wpAny_bind (wpAny_standAt (wpAny_bind ?_))
  rcases turn i n H5 w5 with ⟨stop, qq⟩ | ⟨go', Nx, hNx, step⟩
  · refine thnF (T.done B rfl rfl rfl rd i pins s5 _ H5 (fun _ _ => False) I5 (fun b hb => ⟨n5 b hb, sta b hb⟩) st5 stop) fun r s6 hh => ?_
    obtain ⟨rfl, I6⟩ := hh
    exact wpAny_pure ⟨H5, I6, qq⟩
  · refine thnF (T.item B rfl rfl rfl rd i pins s5 _ H5 (fun _ _ => False) I5 (fun b hb => ⟨n5 b hb, sta b hb⟩) st5 go') fun r s6 hh => ?_
    obtain ⟨u, rfl, h6⟩ := hh
    refine wpAny_bind (thnF h6 fun _ s7 hh => ?_)
    obtain ⟨x, H7, I7, r7, y7, st7, n7⟩ := hh
    have I7' := I7.pinned (fun b hb => ⟨n7 b hb, sta b hb⟩) (T.obj _ _ st7)
    refine wpAny_bind (thnX hx (pg.run _ s7 _ H7 x u _ I7' r7 (step x H7 y7)) fun _ s8 hh => ?_)
    obtain ⟨σ8, H8, I8, hw8, q8⟩ := hh
    refine wpAny_bind (thnX hx (pt.run _ s8 σ8 H8 _ I8 q8) fun b s9 hh => ?_)
    obtain ⟨H9, I9, q9⟩ := hh
    have fin : ∀ {s' : Shared} {H' : Hp}, Inv B (pins ++ pinsAt fp s7.heap) (wipe σ8 l.vs) H' s' → Nx H' → ∃ m, m < n ∧ ∃ i H', Inv B pins (wipe σ l.vs) H' s' ∧ tn i s'.heap ∧ (∀ b ∈ fp, H' b = none) ∧ W i m H' := fun {s' H'} I' nx => by
      obtain ⟨m', hm, w'⟩ := hNx H' nx
      have pin' : ∀ b ∈ fp, ∀ o, s7.heap.get? b = some o → s'.heap.get? b = some o ∧ H' b = none := fun b hb o e =>
        let z := I'.pin (b, o) (List.mem_append_right _ (List.mem_append_right _ (mem_pinsAt hb e)))
        ⟨z.1, z.2.1⟩
      rw [hw8] at I'
      refine ⟨m', hm, i + 1, H', I'.unpinned, T.keep _ _ _ st7 fun b hb o e => (pin' b hb o e).1, fun b hb => ?_, w'⟩
      obtain ⟨o, e, _⟩ := T.obj _ _ st7 b hb
      exact (pin' b hb o e).2
    cases b with
    | false =>
      simp only [Bool.false_eq_true, if_false] at q9 ⊢
      exact wpAny_pure ⟨rfl, fin (wipe_weak I9 _) q9⟩
    | true =>
      simp only [if_true] at q9 ⊢
      refine thnF (go (.ref it) _ s9 σ8 H9 Nx I9 q9) fun f s10 hh => ?_
      obtain ⟨rfl, H10, I10, nx⟩ := hh
      exact ⟨rfl, fin I10 nx⟩
theorem startB {env : PySem.Env} {d : Nat} {c : Comprehension} {it : Value} {prog : Program} {w : World} {A : Around} {R : Result → Shared → Prop} {s : Shared} (C : IsC e gens acc env em) (hg : gens[d]? = some c) (ha : c.is_async = 0)
    (h0 : codeAny (model prog w) A (.compLoop e d it acc env) R s) (q : wpAny (model prog w) A (pyIter it) (fun it' s' => codeAny (model prog w) A (.compLoop e d it' acc env) R s') (fun _ _ => False) s) :
    codeAny (model prog w) A (.compStart e d it acc env) R s := by
  refine codeAny_of_tree ?_
  refine C.ds _ _ _ _ _ _ _ _ (wpAny_notedAt ?_)
  unfold compStart
  rw [C.cl, hg]
  obtain ⟨t, i, f, a⟩ := c
  obtain rfl : a = 0 := ha
  show wpAny _ _ (ask >>= _) _ _ s
  refine wpAny_bind (wpAny_askSetting (wpAny_ite ?_))
  split
  · first
      | exact wpAny_bind (wpAny_pure (wpAny_pure (And.intro rfl h0)))
      | exact wpAny_pure (And.intro rfl h0)
  · have q' := thnF (E := notedBy (model prog w) A env fun x s' => R (.error x) s') q fun _ _ z => z
    first
      | exact wpAny_bind (wpAny_rule (wpAny_bind (wpAny_standAt (wpAny_bind (wpAny_mono q' (fun it' s' h' => wpAny_pure (And.intro rfl h')) fun _ _ x => x)))))
      | (refine wpAny_bind (wpAny_rule ?_); show wpAny _ _ (standAt i.pos >>= _) _ _ s; exact wpAny_bind (wpAny_standAt (wpAny_bind (wpAny_mono q' (fun it' s' h' => wpAny_pure (And.intro rfl h')) fun _ _ x => x))))
theorem lv_loop (C : IsC e gens acc B.env em) (hx : B.xe = fun _ _ => False) (rd : Rdy h B) {emT : L2.St → Hp → (Hp → Prop) → Prop}
    (hem : ∀ (pins : List (Addr × Obj)) (s : Shared) (σ : L2.St) (H : Hp) (N : Hp → Prop), Inv B pins σ H s → emT σ H N → wpAny (model B.prog B.w) B.A em (fun _ s' => ∃ H', Inv B pins σ H' s' ∧ N H') (fun _ _ => False) s) :
    ∀ (cs : List Comprehension) (ls : List Lvl) (d : Nat) (c : Comprehension) (l : Lvl), LvIn h B l.vs cs ls → (∀ k, gens[d + k]? = (c :: cs)[k]?) → c.is_async = 0 → PG B c.target l.g → PTs B c.ifs l.tt →
    ∀ (pins : List (Addr × Obj)) (s : Shared) (σ : L2.St) (H : Hp) (it : Addr) (fp : List Addr) (tn : Nat → Heap → Prop) (J : It) (N : Hp → Prop), Inv B pins (wipe σ l.vs) H s → TurnG h B.prog B.w B.K c.target J fp it tn → tn 0 s.heap → (∀ b ∈ fp, FpOk B pins H b) → tLoop l (tLv emT ls) J σ H N →
      codeAny (model B.prog B.w) B.A (.compLoop e d (.ref it) acc B.env) (loopR B pins (wipe σ l.vs) N) s := by
  intro cs
  induction cs with
  | nil =>
    intro ls d c l hl hg ha pg pt pins s σ H it fp tn J N I T st hf ht
    cases hl
    refine loop1 (K := fun it => lastB em e d it acc B.env) C (fun it => C.last d it c (hg 0) ha (hg 1)) hx rd pg pt (fun it pins s σ2 H2 N I q => ?_) I T st hf ht
    unfold lastB
    refine wpAny_bind (thnF (hem pins s σ2 H2 N I q) fun _ s' hh => ?_)
    obtain ⟨H', I', n⟩ := hh
    exact wpAny_pure ⟨rfl, H', wipe_weak I' _, n⟩
  | cons c2 cs ih =>
    intro ls d c l hl hg ha pg pt pins s σ H it fp tn J N I T st hf ht
    cases hl with
    | cons hv pi2 pg2 pt2 hs2 hl2 =>
      rename_i tg2 iter2 ifs2 l2 ls2
      refine loop1 (K := fun it => innerB ⟨tg2, iter2, ifs2, 0⟩ e d it acc B.env) C (fun it => C.more d it c _ (hg 0) ha (hg 1) rfl) hx rd pg pt (fun it pins s σ2 H2 N I q => ?_) I T st hf ht
      unfold innerB
      refine wpAny_bind (thnX hx (pi2.run pins s σ2 H2 _ I q) fun xv s1 h1 => ?_)
      refine wpAny_bind (wpAny_standAt (wpAny_bind (wpAny_of_eq (hs2 _ xv) (wpAny_bind (wpAny_holding (thnX hx h1 fun itv s2 h2 => ?_))))))
      obtain ⟨it2, fp2, tn2, J2, H3, rfl, I2, T2, st2, f2, ht2⟩ := h2
      refine wpAny_bind (wpAny_runOwn ?_)
      rw [Around.mark_none]
      have lp := ih ls2 (d + 1) ⟨tg2, iter2, ifs2, 0⟩ l2 hl2 (fun k => by rw [Nat.add_right_comm]; exact hg (k + 1)) rfl pg2 pt2 pins s2 σ2 H3 it2 fp2 tn2 J2 N (wipe_weak I2 _) T2 st2 f2 ht2
      refine codeAny_mono (startB C (hg 1) rfl lp (T2.self B.A 0 _ _ _ st2 lp)) fun r s' hr => ?_
      cases r with
      | error e => exact hr.elim
      | ok f =>
        obtain ⟨H', I', n⟩ := hr
        have I'' : Inv B pins (wipe σ2 l.vs) H' s' := I'.weak (by rw [wipe_length, wipe_length]) fun j v e => wipe_sub hv j v e
        first
          | exact wpAny_pure ⟨rfl, H', I'', n⟩
          | exact wpAny_bind (wpAny_pure (wpAny_pure ⟨rfl, H', I'', n⟩))
end
end RV
end
section
/-! a comprehension's value; sets of texts; lists while an error is handled -/
namespace RV
open PySem PySem.Spec PyProof.Rows L2
/-- the block's context; what is handled stays pinned -/
abbrev blkG (h : Bool) (X : Cx) (s : Shared) (H : Hp) (scope : Scope) (cenv : PySem.Env) (fp : List Addr) : Cx := { X.blk s H scope cenv fp with pn := match h with | false => [] | true => X.pn }
section
variable {h : Bool} {X : Cx} {pins : List (Addr × Obj)} {σ : L2.St} {H : Hp} {s : Shared}
theorem blkG_start {scope : Scope} {cenv : PySem.Env} {fp : List Addr} {σ' : L2.St} {s' : Shared} (I : Inv X pins σ H s) (J : Inv (X.blk s H scope cenv fp) [] σ' H s') (kp : ∀ b o, s.heap.get? b = some o → s'.heap.get? b = some o) (hl : cenv.locals = s.heap.objs.size) : Inv (blkG h X s H scope cenv fp) [] σ' H s' := by
  cases h
  · exact J
  · refine ⟨⟨J.ok.mod, J.ok.kind, J.ok.glob, J.ok.blt, J.ok.above, J.ok.inj, J.ok.has, J.ok.cab, J.ok.hd, J.ok.frames, J.ok.stk, J.ok.exf, J.ok.bs, J.ok.bsz, J.ok.noex, J.ok.exfs, J.ok.funs, J.ok.frf⟩, J.os, J.bare, J.base, J.loc, J.cell, J.free, J.freeC, fun p hp => ?_, J.hok, J.len⟩
    have hp' : p ∈ X.pn := by
      rcases List.mem_append.mp hp with z | z
      · exact z
      · cases z
    obtain ⟨z1, z2, z3, z4, z5⟩ := I.pin p (List.mem_append_left _ hp')
    refine ⟨kp _ _ z1, z2, fun e => ?_, fun e => ?_, z5⟩
    · have lt := Heap.lt_size z1
      have e' : p.1 = cenv.locals := e
      rw [e', hl] at lt
      exact Nat.lt_irrefl _ lt
    · rcases List.mem_cons.mp (I.stkSub p.1 e) with q | q
      · exact z3 q
      · exact z4 q
theorem rdy_blk {scope : Scope} {cenv : PySem.Env} {fp : List Addr} (r : Rdy h X) : Rdy h (blkG h X s H scope cenv fp) := by
  cases h
  · exact r
  · obtain ⟨p, hot, hp⟩ := r
    exact ⟨p, hot, hp⟩
theorem comp_core {e : Expr} {c : Comprehension} {cs : List Comprehension} {l : Lvl} {ls : List Lvl} {scope : Scope} {own : List (Str × Nat)} {pos' : Pos} {use : Option (Value → Sem Unit)} {Qf : Value → Shared → Prop} {Q : VK} {em : Addr → PySem.Env → Sem Unit} {emT : Addr → L2.St → Hp → (Hp → Prop) → Prop} {o0 : Obj} {ob0 : Addr → HO} {newAcc : Sem Value}
    (C : ∀ D env, IsC e (c :: cs) (.ref D) env (em D env)) (ha : c.is_async = 0)
    (hnew : ∀ {E : Value → Shared → Prop} {Q' : Value → Shared → Prop} {s : Shared}, Q' (.ref s.heap.objs.size) { s with heap := s.heap.push o0 } → wpAny (model X.prog X.w) X.A newAcc Q' E s)
    (hob : ∀ {pins : List (Addr × Obj)} {σ : L2.St} {H : Hp} {s : Shared}, Inv X pins σ H s → ObjOk X.prog X.w (upd H s.heap.objs.size (ob0 s.heap.objs.size)) (s.heap.push o0) s.heap.objs.size (ob0 s.heap.objs.size))
    (rd : Rdy h X) (hN : X.N.Nodup) (I : Inv X pins σ H s) (hi : PIG h X c.target c.iter l.wi) (ok : BlkOk X.N X.env.scope scope own) (hv : l.vs = own.map (·.2))
    (blk : ∀ (s : Shared) (H : Hp) (C : Addr) (cl : List (Str × Addr)) (fp : List Addr), PG (blkG h X s H scope (compEnvC scope cl C X.env) fp) c.target l.g ∧ PTs (blkG h X s H scope (compEnvC scope cl C X.env) fp) c.ifs l.tt ∧ LvIn h (blkG h X s H scope (compEnvC scope cl C X.env) fp) l.vs cs ls ∧
      ∀ (D : Addr) (pins : List (Addr × Obj)) (s' : Shared) (σ : L2.St) (H' : Hp) (N : Hp → Prop), Inv (blkG h X s H scope (compEnvC scope cl C X.env) fp) pins σ H' s' → emT D σ H' N → wpAny (model X.prog X.w) X.A (em D (compEnvC scope cl C X.env)) (fun _ s2 => ∃ H2, Inv (blkG h X s H scope (compEnvC scope cl C X.env) fp) pins σ H2 s2 ∧ N H2) (fun _ _ => False) s')
    (hs : ∀ x, foldedSetIterable c.iter X.env x = pure x)
    (hw : l.wi σ H fun J H1 => ∀ D, H1 D = none → tLoop l (tLv (emT D) ls) J σ (upd H1 D (ob0 D)) (fun H' => Q (.ref D) H'))
    (hRR : ∀ D C s' m H', Inv X pins σ H' s' → Q (.ref D) H' → s'.heap.Ns C m → FpOk X pins H' C → compPost (model X.prog X.w) X.A X.xe use Qf (.ref D) C (.ok .next) s') :
    wpAny (model X.prog X.w) X.A (comprehension e scope X.env pos' newAcc false (eval c.iter X.env) use) Qf X.xe s := by
  have hfree : ∀ y ∈ scope.names, y.2 = .free → ∃ c, X.env.cells.lookup y.1 = some c := fun y hy e => (ok.free y hy e).elim (fun k => I.ok.has _ (.inl k)) fun k => I.ok.has _ (.inr k)
  refine wpAny_comprehension_free (use := use) (C 0 X.env).cl hs (closure_ok hfree) ok.kind (fun y hy e => by rw [ok.uniq y hy, e]) (thn (hi.run pins s σ H _ I hw) fun xv s1 hx => thn hx fun itv s2 h2 => ?_)
  obtain ⟨it, fp, tn, J, H2, rfl, I2, T, st2, f2, q⟩ := h2
  refine hnew (newEnv_comp ?_)
  have ob := hob I2
  generalize hD : s2.heap.objs.size = D at ob ⊢
  have hDn : H2 D = none := I2.hok.fresh (Nat.le_of_eq hD)
  have hl := q D hDn
  generalize hs3 : ({ s2 with heap := s2.heap.push o0 } : Shared) = s3
  have I3 : Inv X pins σ (upd H2 D (ob0 D)) s3 := by
    rw [← hs3]
    exact I2.laid (t' := s2.toks) (fun b o e => Heap.get?_push_of_some _ e) (Nat.le_of_eq hD) ob
  have h3 : s3.heap = s2.heap.push o0 := by rw [← hs3]
  have f3 : ∀ b ∈ fp, FpOk X pins (upd H2 D (ob0 D)) b ∧ b < s3.heap.objs.size := fun b hb => by
    obtain ⟨o, e, _⟩ := T.obj _ _ st2 b hb
    have hlt := Heap.lt_size e
    refine ⟨⟨?_, (f2 b hb).2⟩, by rw [h3, Heap.size_push]; exact Nat.lt_succ_of_lt hlt⟩
    rw [upd_ne (by rw [← hD]; exact Nat.ne_of_lt hlt)]
    exact (f2 b hb).1
  have st3 : tn 0 s3.heap := T.keep _ _ _ st2 fun b _ o e => by rw [h3]; exact Heap.get?_push_of_some _ e
  have I4 := block_start I3 ok hN f3
  obtain ⟨pg, pt, lv, pe⟩ := blk s3 (upd H2 D (ob0 D)) s3.heap.objs.size (cellsFrom (s3.heap.objs.size + 1) scope.names (cloFrom X.env.cells scope.names [])) fp
  show codeAny _ _ (.compStart e 0 (.ref it) (.ref D) (compEnvC scope (cellsFrom (s3.heap.objs.size + 1) scope.names (cloFrom X.env.cells scope.names [])) s3.heap.objs.size X.env)) (compPost (model X.prog X.w) X.A X.xe use Qf (.ref D) s3.heap.objs.size) { s3 with heap := pushCells (s3.heap.push { cls := .type "dict", data := .dict #[] }) scope.names }
  have I5 := blkG_start (h := h) I3 I4 (fun b o e => pushCells_keeps _ _ _ _ (Heap.get?_push_of_some _ e)) rfl
  generalize hce : compEnvC scope (cellsFrom (s3.heap.objs.size + 1) scope.names (cloFrom X.env.cells scope.names [])) s3.heap.objs.size X.env = ce at I4 I5 pg pt lv pe ⊢
  have cL : ce.locals = s3.heap.objs.size := by subst hce; rfl
  generalize hs4 : ({ s3 with heap := pushCells (s3.heap.push { cls := .type "dict", data := .dict #[] }) scope.names } : Shared) = s4 at I4 I5 ⊢
  have st4 : tn 0 s4.heap := T.keep _ _ _ st3 fun b _ o e => by rw [← hs4]; exact pushCells_keeps _ _ _ _ (Heap.get?_push_of_some _ e)
  rw [← hv] at I5
  have f5 : ∀ b ∈ fp, FpOk (blkG h X s3 (upd H2 D (ob0 D)) scope ce fp) [] (upd H2 D (ob0 D)) b := fun b hb => by
    refine ⟨(f3 b hb).1.1, (I4.ok.exf b hb).1, I4.ok.exfs b hb, .inl hb, fun x c e => (I4.ok.exf b hb).2 x c e, fun p hp => ?_⟩
    rcases List.mem_append.mp hp with z | z
    · cases h
      · cases z
      · exact (f3 b hb).1.2.2.2.2.2 p (List.mem_append_left _ z)
    · cases z
  have lp := lv_loop (B := blkG h X s3 (upd H2 D (ob0 D)) scope ce fp) (C D ce) rfl (rdy_blk rd) (pe D) cs ls 0 c l lv (fun k => by rw [Nat.zero_add]) ha pg pt [] s4 σ (upd H2 D (ob0 D)) it fp tn J _ I5 T st4 f5 hl
  have lp' : codeAny (model X.prog X.w) X.A (.compLoop e 0 (.ref it) (.ref D) ce) (compPost (model X.prog X.w) X.A X.xe use Qf (.ref D) s3.heap.objs.size) s4 := by
    refine codeAny_mono lp fun r s' hr => ?_
    cases r with
    | error x => exact hr.elim
    | ok f =>
      obtain ⟨H6, I6, qq⟩ := hr
      have I7 : Inv X pins σ H6 s' := I3.call' (ch := fp) I6.os I6.base I6.hok I6.bare fun b hb => ⟨(f3 b hb).1.2.2.2.1, (f3 b hb).1.2.1, (f3 b hb).1.2.2.2.2.1, (f3 b hb).1.2.2.2.2.2⟩
      have nC : H6 s3.heap.objs.size = none := by
        have z : H6 ce.locals = none := I6.free
        rw [cL] at z
        exact z
      obtain ⟨m, hn, _⟩ := I6.loc
      have hn : s'.heap.Ns ce.locals m := hn
      rw [cL] at hn
      have z := hRR D s3.heap.objs.size s' m H6 I7 qq hn (I3.fpOk (Nat.le_refl _) nC)
      unfold compPost at z ⊢
      cases use <;> exact z
  exact startB (C D ce) rfl ha lp' (T.self X.A 0 _ _ _ st4 lp')
/-- as a value -/
theorem post_val {Q : VK} {D C : Addr} {s' : Shared} {m : Str → Option Value} {H' : Hp} (I' : Inv X pins σ H' s') (q : Q (.ref D) H') (hn : s'.heap.Ns C m) (f : FpOk X pins H' C) : compPost (model X.prog X.w) X.A X.xe none (EP X pins σ Q) (.ref D) C (.ok .next) s' := by
  refine ⟨m, hn, fun h'' sb => ?_⟩
  obtain ⟨f0, f1, f2, f3, f4, f5⟩ := f
  exact ⟨.ref D, H', I'.turned (t' := s'.toks) (fun b o hb e => (sb.2 b hb).trans e) f0 f1 f3 f4 f5, rfl, q⟩
end
end RV
end
section
/-! comprehensions of any depth: their readings -/
namespace RV
open PySem PySem.Spec PyProof.Rows L2
structure DLv where
  mi : RV.Env → MW
  f : D → RV.Env → Option RV.Env
  mc : RV.Env → MB
  us : List Nat
  vs : List Nat
def loopD {α : Type} (N : WS → Prop) (l : DLv) (inner : RV.Env → WS → α → (α → WS → Prop) → Prop) (ρ : RV.Env) : List D → WS → α → (α → WS → Prop) → Prop
  | [], S, a, q => N S ∧ q a S
  | d :: ds, S, a, q => N S ∧ onS (l.f d (wipeE ρ l.vs)) fun ρ1 => l.mc ρ1 S (fun b S1 => iteB b (inner ρ1 S1 a fun a' S2 => loopD N l inner ρ ds S2 a' q) (loopD N l inner ρ ds S1 a q)) noX
def lvD {α : Type} (em : RV.Env → WS → α → (α → WS → Prop) → Prop) : List DLv → RV.Env → WS → α → (α → WS → Prop) → Prop
  | [], ρ, S, a, q => em ρ S a q
  | l :: ls, ρ, S, a, q => l.mi ρ S (fun ds N S1 => loopD N l (lvD em ls) ρ ds S1 a q) noX
theorem loopD_N {α : Type} {N : WS → Prop} {l : DLv} {inner : RV.Env → WS → α → (α → WS → Prop) → Prop} {ρ : RV.Env} {ds : List D} {S : WS} {a : α} {q : α → WS → Prop} (h : loopD N l inner ρ ds S a q) : N S := by
  cases ds with
  | nil => exact h.1
  | cons d ds => exact h.1
/-- the reading of a walk that says just what m says -/
def rdI (K : PySem.W.Frag) (m : RV.Env → MW) : TI := fun σ H R => ∃ (as : List Addr) (F : Hp) (S : WS) (ρ : RV.Env) (q : List D → (WS → Prop) → WS → Prop), Sit K as F H S ∧ RpE K as F ρ σ ∧ m ρ S q noX ∧ ∀ ds N S' bs F' H' J, q ds N S' → Grow K as F H bs F' H' S' → Walks K J bs F' ds N → R J H'
def DLv.lv (K : PySem.W.Frag) (d : DLv) : Lvl := ⟨rdI K d.mi, rdG K d.us d.f, rdT K d.mc, d.vs⟩
structure GIG (h : Bool) (X : Cx) (W : WX) (tg iter : Expr) (m : RV.Env → MW) : Prop where
  ex : ∃ wi, PIG h X tg iter wi ∧ MI X.K W wi m
theorem GI.g {X : Cx} {W : WX} {tg iter : Expr} {m : RV.Env → MW} (g : GI X W tg iter m) : GIG false X W tg iter m := by
  obtain ⟨wi, p, m⟩ := g
  exact ⟨wi, .calm p, m⟩
theorem GIG.canon {h : Bool} {X : Cx} {tg iter : Expr} {m : RV.Env → MW} (g : GIG h X WF tg iter m) : PIG h X tg iter (rdI X.K m) := by
  obtain ⟨t, p, m⟩ := g
  refine ⟨fun pins s σ H R I w => ?_⟩
  obtain ⟨as, F, S, ρ, q, I', Rr, hm, hq⟩ := w
  exact p.run pins s σ H R I (m as F H S ρ σ I' Rr q noX hm R hq XQ.no)
section
variable {K : PySem.W.Frag} {as : List Addr} {F0 H0 : Hp} {D0 : Addr} {α : Type} {AR : List Addr → Hp → HO → α → Prop}
/-- what is known while the new thing at D0 is being made -/
structure Pt (K : PySem.W.Frag) (as : List Addr) (F0 H0 : Hp) (D0 : Addr) (AR : List Addr → Hp → HO → α → Prop) (bs : List Addr) (F1 H1 : Hp) (S1 : WS) (a : α) : Prop where
  g : Grow K as F0 H0 bs F1 H1 S1
  f : F1 D0 = none
  b : D0 ∉ bs
  at_ : ∃ o, H1 D0 = some o ∧ AR bs F1 o a
def ARm (AR : List Addr → Hp → HO → α → Prop) : Prop := ∀ bs cs F G o a, Ex F G → Pre bs cs → AR bs F o a → AR cs G o a
theorem Pt.step {bs cs : List Addr} {F1 H1 F2 H2 : Hp} {S1 S2 : WS} {a : α} (m : ARm AR) (p : Pt K as F0 H0 D0 AR bs F1 H1 S1 a) (g : Grow K bs F1 H1 cs F2 H2 S2) : Pt K as F0 H0 D0 AR cs F2 H2 S2 a := by
  obtain ⟨o, e, r⟩ := p.at_
  obtain ⟨f4, b4, e4⟩ := grow_free (o' := o) g e p.f p.b
  exact ⟨p.g.trans g, f4, b4, o, e4, m _ _ _ _ _ _ g.ex g.pre r⟩
theorem Pt.put {bs : List Addr} {F1 H1 : Hp} {S1 : WS} {a a' : α} {o : HO} (h0 : H0 D0 = none) (p : Pt K as F0 H0 D0 AR bs F1 H1 S1 a) (r : AR bs F1 o a') : Pt K as F0 H0 D0 AR bs F1 (upd H1 D0 o) S1 a' :=
  ⟨⟨p.g.sit.other p.f p.b, p.g.pre, p.g.ex, p.g.new, p.g.newc, fun a o ha h => by
    rw [upd_ne (ne_of_none h h0)]
    exact p.g.old a o ha h, fun a h => upd_there (p.g.there a h)⟩, p.f, p.b, o, upd_same, r⟩
/-- what an inner part hands on -/
def Inn (K : PySem.W.Frag) (as : List Addr) (F0 H0 : Hp) (D0 : Addr) (AR : List Addr → Hp → HO → α → Prop) (inner : RV.Env → WS → α → (α → WS → Prop) → Prop) (innerT : L2.St → Hp → (Hp → Prop) → Prop) : Prop :=
  ∀ (ρ : RV.Env) (σ : L2.St) (bs : List Addr) (F1 H1 : Hp) (S1 : WS) (a : α) (q : α → WS → Prop) (N : Hp → Prop), Pt K as F0 H0 D0 AR bs F1 H1 S1 a → RpE K bs F1 ρ σ → inner ρ S1 a q →
    (∀ a' S' cs F' H', q a' S' → Pt K as F0 H0 D0 AR cs F' H' S' a' → Ex F1 F' → Pre bs cs → N H') → innerT σ H1 N
theorem loop_md {l : DLv} {inner : RV.Env → WS → α → (α → WS → Prop) → Prop} {innerT : L2.St → Hp → (Hp → Prop) → Prop} (m : ARm AR) (hs : ∀ x ∈ l.us, x ∈ l.vs) (hin : Inn K as F0 H0 D0 AR inner innerT)
    {ρ : RV.Env} {σ : L2.St} {bs : List Addr} {F1 H1 : Hp} {S1 : WS} {a : α} {q : α → WS → Prop} {N : Hp → Prop} {ds : List D} {N0 : WS → Prop} {J : It} (wk : ∀ i, (i < ds.length → ∀ cs F2 H2 S2, Sit K cs F2 H2 S2 → Ex F1 F2 → Pre bs cs → N0 S2 → J.go i H2))
    (wk1 : ∀ cs F2 H2 S2, Sit K cs F2 H2 S2 → Ex F1 F2 → Pre bs cs → N0 S2 → J.stop ds.length H2) (wk2 : ∀ (i : Nat) (d : D), ds[i]? = some d → ∀ cs F2 H2 S2, Sit K cs F2 H2 S2 → Ex F1 F2 → Pre bs cs → N0 S2 → ∀ x H', J.yld i H2 x H' → ∃ F', Grow K cs F2 H2 cs F' H' S2 ∧ Rp K cs F' d x)
    (p : Pt K as F0 H0 D0 AR bs F1 H1 S1 a) (R : RpE K bs F1 ρ σ) (e : loopD N0 l inner ρ ds S1 a q) (hN : ∀ a' S' cs F' H', q a' S' → Pt K as F0 H0 D0 AR cs F' H' S' a' → Ex F1 F' → Pre bs cs → N H') : tLoop (l.lv K) innerT J σ H1 N := by
  refine ⟨fun i k H => k = ds.length - i ∧ i ≤ ds.length ∧ ∃ cs F2 S2 a2, Pt K as F0 H0 D0 AR cs F2 H S2 a2 ∧ Ex F1 F2 ∧ Pre bs cs ∧ loopD N0 l inner ρ (ds.drop i) S2 a2 q, ⟨ds.length, by simp, Nat.zero_le _, bs, F1, S1, a, p, Ex.refl _, Pre.refl _, by simpa using e⟩, ?_⟩
  rintro i k H ⟨rfl, hle, cs, F2, S2, a2, p2, e2, r2, h2⟩
  have hN0 := loopD_N h2
  by_cases hlt : i < ds.length
  · refine .inr ⟨wk i hlt cs F2 H S2 p2.g.sit e2 r2 hN0, fun H' => ∃ m', m' < ds.length - i ∧ m' = ds.length - (i + 1) ∧ i + 1 ≤ ds.length ∧ ∃ cs F2 S2 a2, Pt K as F0 H0 D0 AR cs F2 H' S2 a2 ∧ Ex F1 F2 ∧ Pre bs cs ∧ loopD N0 l inner ρ (ds.drop (i + 1)) S2 a2 q, fun H' n => ?_, fun x H' y => ?_⟩
    · obtain ⟨m', n1, n2, n3, n4⟩ := n
      exact ⟨m', n1, n2, n3, n4⟩
    · have hd : ds[i]? = some ds[i] := List.getElem?_eq_getElem hlt
      obtain ⟨F3, g3, rx⟩ := wk2 i ds[i] hd cs F2 H S2 p2.g.sit e2 r2 hN0 x H' y
      rw [List.drop_eq_getElem_cons hlt] at h2
      obtain ⟨ρ2, hf, hm⟩ := onS_ok h2.2
      have p3 := p2.step m g3
      have e3 := e2.trans g3.ex
      have RW : RpE K cs F3 (wipeE ρ l.vs) (wipe σ l.vs) := (R.mono e3 r2).wipe l.vs
      refine ⟨cs, F3, S2, wipeE ρ l.vs, ds[i], ρ2, g3.sit, RW, rx, hf, fun σ2 A2 R2 => ⟨wipe_agr A2 hs, ?_⟩⟩
      refine ⟨cs, F3, S2, ρ2, _, g3.sit, R2, hm, fun pb S4 es F4 H4 h4 g4 => ?_⟩
      have p4 := p3.step m g4
      have e4 := e3.trans g4.ex
      have r4 := r2.trans g4.pre
      cases pb with
      | true => exact hin ρ2 σ2 es F4 H4 S4 a2 _ _ p4 (R2.grow g4) h4 fun a' S' es' F' H' hq p' ex pr => ⟨_, by omega, rfl, hlt, es', F', S', a', p', e4.trans ex, r4.trans pr, hq⟩
      | false => exact ⟨_, by omega, rfl, hlt, es, F4, S4, a2, p4, e4, r4, h4⟩
  · have hi : i = ds.length := by omega
    subst hi
    rw [List.drop_length] at h2
    exact .inl ⟨wk1 cs F2 H S2 p2.g.sit e2 r2 hN0, hN a2 S2 cs F2 H h2.2 p2 e2 r2⟩
theorem lv_md {em : RV.Env → WS → α → (α → WS → Prop) → Prop} {emT : L2.St → Hp → (Hp → Prop) → Prop} (m : ARm AR) (he : Inn K as F0 H0 D0 AR em emT) : ∀ ls : List DLv, (∀ l ∈ ls, ∀ x ∈ l.us, x ∈ l.vs) → Inn K as F0 H0 D0 AR (lvD em ls) (tLv emT (ls.map (DLv.lv K)))
  | [], _ => he
  | l :: ls, hs => fun ρ σ bs F1 H1 S1 a q N p R e hN => by
    refine ⟨bs, F1, S1, ρ, _, p.g.sit, R, e, fun ds N0 S2 cs F2 H2 J h2 g2 wk => ?_⟩
    exact loop_md m (hs l (List.mem_cons_self ..)) (lv_md m he ls fun l hl => hs l (List.mem_cons_of_mem _ hl)) (fun i hi => wk.go i hi) wk.stop (fun i d hd => wk.yld i d hd) (p.step m g2) (R.grow g2) h2 fun a' S' es F' H' hq p' ex pr => hN a' S' es F' H' hq p' (g2.ex.trans ex) (g2.pre.trans pr)
end
/-! ### facts of the clauses, from their blocks -/
def subB (us vs : List Nat) : Bool := us.all fun x => vs.contains x
theorem subB_ok {us vs : List Nat} (h : subB us vs = true) : ∀ x ∈ us, x ∈ vs := fun x hx => by
  have := List.all_eq_true.mp h x hx
  simpa using this
theorem subA_ok {ls : List DLv} (h : (ls.all fun l => subB l.us l.vs) = true) : ∀ l ∈ ls, ∀ x ∈ l.us, x ∈ l.vs := fun l hl => subB_ok (List.all_eq_true.mp h l hl)
inductive GLv (h : Bool) (B : Cx) : List Nat → List Comprehension → List DLv → Prop where
  | nil {vs : List Nat} : GLv h B vs [] []
  | cons {vs : List Nat} {tg iter : Expr} {ifs : List Expr} {l : DLv} {cs : List Comprehension} {ls : List DLv} (hv : subB l.vs vs = true) (hi : GIG h B WF tg iter l.mi) (hg : GG B tg l.us l.f) (ht : GTs B ifs l.mc) (hs : ∀ env x, foldedSetIterable iter env x = pure x) (r : GLv h B l.vs cs ls) : GLv h B vs (⟨tg, iter, ifs, 0⟩ :: cs) (l :: ls)
theorem GLv.lv {h : Bool} {B : Cx} : ∀ {vs : List Nat} {cs : List Comprehension} {ls : List DLv}, GLv h B vs cs ls → LvIn h B vs cs (ls.map (DLv.lv B.K))
  | _, _, _, .nil => .nil
  | _, _, _, .cons hv hi hg ht hs r => .cons (l := DLv.lv B.K _) (subB_ok hv) hi.canon hg.canon ht.ex hs r.lv
end RV
end
section
/-! sorted({..}), {k: v ..}, [.. for .. for ..] -/
namespace RV
open PySem PySem.Spec PyProof.Rows L2
section
variable {X : Cx} {W : WX} {h : Bool}
/-- the whole, by the value that it makes -/
def teC {α : Type} (K : PySem.W.Frag) (wi : TI) (l0 : DLv) (ls : List DLv) (emT : Addr → L2.St → Hp → (Hp → Prop) → Prop) (ob0 : Addr → HO) : TE := fun σ H Q => wi σ H fun J H1 => ∀ D, H1 D = none → tLoop (l0.lv K) (tLv (emT D) (ls.map (DLv.lv K))) J σ (upd H1 D (ob0 D)) (fun H' => Q (.ref D) H')
theorem comp_md {α : Type} {K : PySem.W.Frag} {wi : TI} {l0 : DLv} {ls : List DLv} {em : RV.Env → WS → α → (α → WS → Prop) → Prop} {emT : Addr → L2.St → Hp → (Hp → Prop) → Prop} {ob0 : Addr → HO} {AR : Addr → List Addr → Hp → HO → α → Prop} {a0 : α} (hi : MI K W wi l0.mi) (m : ∀ D, ARm (AR D)) (h0 : ∀ D bs F, AR D bs F (ob0 D) a0)
    (he : ∀ as F0 H0 D, H0 D = none → Inn K as F0 H0 D (AR D) em (emT D)) (hs0 : ∀ x ∈ l0.us, x ∈ l0.vs) (hsl : ∀ l ∈ ls, ∀ x ∈ l.us, x ∈ l.vs) {as : List Addr} {F H : Hp} {S : WS} {ρ : RV.Env} {σ : L2.St} (I : Sit K as F H S) (R : RpE K as F ρ σ) {q1 : α → WS → Prop} {x : Xq}
    (e : l0.mi ρ S (fun ds N S1 => loopD N l0 (lvD em ls) ρ ds S1 a0 q1) x) (hx : XQ K as F H x (WE W σ)) {Qf : VK}
    (hq : ∀ D bs F1 H1 S1 cs F' H' S' a', Grow K as F H bs F1 H1 S1 → H1 D = none → Pt K bs F1 H1 D (AR D) cs F' H' S' a' → q1 a' S' → Qf (.ref D) H') : teC (α := α) K wi l0 ls emT ob0 σ H Qf := by
  refine hi as F H S ρ σ I R _ x e _ (fun ds N S1 bs F1 H1 J h1 g1 wk D hD => ?_) hx
  have fD : F1 D = none := g1.sit.out hD
  have aD : D ∉ bs := fun z => g1.sit.there z hD
  have p : Pt K bs F1 H1 D (AR D) bs F1 (upd H1 D (ob0 D)) S1 a0 := ⟨⟨g1.sit.other fD aD, Pre.refl _, Ex.refl _, fun _ h => .inl h, fun _ h => .inl h, fun a o _ h => by rw [upd_ne (ne_of_none h hD)]; exact h, fun a h => upd_there h⟩, fD, aD, _, upd_same, h0 D bs F1⟩
  exact loop_md (m D) hs0 (lv_md (m D) (he bs F1 H1 D hD) ls hsl) (fun i hi => wk.go i hi) wk.stop (fun i d hd => wk.yld i d hd) p (R.grow g1) h1 fun a' S' cs F' H' hq1 p' _ _ => hq D bs F1 H1 S1 cs F' H' S' a' g1 hD p' hq1
/-- the facts of a comprehension's clauses; be: of what it makes -/
structure CompB (h : Bool) (X : Cx) (scope : Scope) (own : List (Str × Nat)) (tg : Expr) (ifs : List Expr) (cs : List Comprehension) (l0 : DLv) (ls : List DLv) : Prop where
  g : ∀ (s : Shared) (H : Hp) (C : Addr) (cl : List (Str × Addr)) (fp : List Addr), GG (blkG h X s H scope (compEnvC scope cl C X.env) fp) tg l0.us l0.f
  t : ∀ (s : Shared) (H : Hp) (C : Addr) (cl : List (Str × Addr)) (fp : List Addr), GTs (blkG h X s H scope (compEnvC scope cl C X.env) fp) ifs l0.mc
  r : ∀ (s : Shared) (H : Hp) (C : Addr) (cl : List (Str × Addr)) (fp : List Addr), GLv h (blkG h X s H scope (compEnvC scope cl C X.env) fp) l0.vs cs ls
/-! ### sets of texts -/
theorem addTx_ok {pins : List (Addr × Obj)} {σ : L2.St} {H : Hp} {s : Shared} {E : Value → Shared → Prop} {D : Addr} {T : List Str} {k : Str} {u : Value} {Q : Value → Shared → Prop} (I : Inv X pins σ H s) (hD : H D = some (TxO X.w D T)) (room : T.length + 1 < scanBound) (r : RelV (.str k) u)
    (q : ∀ s', Inv X pins σ (upd H D (TxO X.w D (k :: T))) s' → Q .none s') : wpAny (model X.prog X.w) X.A (call (.builtin "set.add") [.ref D, u]) Q E s := by
  have R : TxSet X.w s.heap D T := (I.hok D _ hD).1
  obtain ⟨tk, rfl⟩ := r
  have hT : s.TypeIs (.ref D) "set" := by
    obtain ⟨o, _, _, _, ho, hx, _⟩ := R
    exact ⟨o, ho, hx.1⟩
  refine wpAny_call_entry F.slot_set_add hT F.entry_set_add ?_ (F.args_set_add_2 _ _)
  unfold Builtin.«set.add» Builtin.Frozenset.oneOther
  simp only [List.isEmpty_nil, bind_assoc]
  unfold Builtin.Frozenset.addrOf setAdd
  refine wpAny_bind (wpAny_pure ?_)
  try dsimp only
  refine wpAny_bind (wpAny_pure ?_)
  try dsimp only
  refine wpAny_bind (wpAny_holding (wpAny_bind ((PySem.strKind X.prog X.w).pyHash (k := k) (strKind_is _ _ _ _) ?_)))
  refine tx_add (s := { s with toks := s.toks + 1 }) R room fun b g sb new => ?_
  have he : ∃ u, g.get? D = some u := by
    obtain ⟨o, _, _, _, ho, _⟩ := new
    exact ⟨o, ho⟩
  show wpAny _ _ (ret Value.none) _ _ _
  exact wpAny_pure ⟨_, rfl, q _ (I.write (e := D) (t' := s.toks + 1) (by rw [hD]; trivial) (.inl rfl) (fun b u hb hu => (sb.2 b hb).trans hu) he (txO_new new))⟩
def emSD (me : RV.Env → M) : RV.Env → WS → List Str → (List Str → WS → Prop) → Prop := fun ρ S T q => me ρ S (fun d S1 => onT d fun k => decide (T.length < 1000) = true ∧ q (k :: T) S1) noX
def emST (w : World) (te : TE) : Addr → L2.St → Hp → (Hp → Prop) → Prop := fun D σ H N => te σ H fun y H' => ∃ k T, y = .str k ∧ H' D = some (TxO w D T) ∧ T.length + 1 < scanBound ∧ N (upd H' D (TxO w D (k :: T)))
def arS (w : World) (D : Addr) : List Addr → Hp → HO → List Str → Prop := fun _ _ o T => o = TxO w D T
theorem scan1000 {n : Nat} (h : decide (n < 1000) = true) : n + 1 < scanBound := Nat.lt_trans (Nat.succ_lt_succ (of_decide_eq_true h)) (by decide)
theorem inn_S {w : World} {K : PySem.W.Frag} {me : RV.Env → M} {as : List Addr} {F0 H0 : Hp} {D : Addr} (h0 : H0 D = none) : Inn K as F0 H0 D (arS w D) (emSD me) (emST w (rdE K me) D) := fun ρ σ bs F1 H1 S1 a q N p R e hN => by
  refine ⟨bs, F1, S1, ρ, _, p.g.sit, R, e, fun d S2 cs F2 H2 v h2 g2 r2 => ?_⟩
  obtain ⟨k, rfl, h2⟩ := onT_ok h2
  cases r2
  have p2 := p.step (fun _ _ _ _ _ _ _ _ r => r) g2
  obtain ⟨o, e2, rfl⟩ := p2.at_
  exact ⟨k, a, rfl, e2, scan1000 h2.1, hN (k :: a) S2 cs F2 _ h2.2 (p2.put h0 rfl) g2.ex g2.pre⟩
/-- sorted({elt for .. ..}) -/
def eSortSc (l0 : DLv) (ls : List DLv) (me : RV.Env → M) : RV.Env → M := fun ρ S q x => l0.mi ρ S (fun ds N S1 => loopD N l0 (lvD (emSD me) ls) ρ ds S1 [] fun T S2 => decide ((ascS T).length < 64) = true ∧ q (.lst ((ascS T).map D.str)) S2) x
theorem ge_sortSc {elt tg iter : Expr} {ifs : List Expr} {cs : List Comprehension} {scope : Scope} {own : List (Str × Nat)} {l0 : DLv} {ls : List DLv} {me : RV.Env → M} {p1 p3 p4 : Pos} (hc : X.calm = true) (n1 : X.mg "sorted" = none) (hN : X.N.Nodup) (hi : GI X W tg iter l0.mi) (ok : BlkOk X.N X.env.scope scope own) (hv : l0.vs = own.map (·.2)) (b : CompB false X scope own tg ifs cs l0 ls)
    (be : ∀ (s : Shared) (H : Hp) (C : Addr) (cl : List (Str × Addr)) (fp : List Addr), GE (blkG false X s H scope (compEnvC scope cl C X.env) fp) WF elt me) (hs0 : subB l0.us l0.vs = true := by rfl) (hsl : (ls.all fun l => subB l.us l.vs) = true := by rfl) (hs : ∀ (x : Value), foldedSetIterable iter X.env x = pure x := by intro _; rfl) (g1 : Gl X "sorted" := by rfl)
    (s3 : starEach [.SetComp elt (⟨tg, iter, ifs, 0⟩ :: cs) scope p3] X.env = (false, eval (.SetComp elt (⟨tg, iter, ifs, 0⟩ :: cs) scope p3) X.env) :: starEach [] X.env := by rfl) (s4 : (backTo p4 (starEach [] X.env)).any (·.1) = false := by rfl) :
    GE X W (.Call (.Name "sorted" p1) [.SetComp elt (⟨tg, iter, ifs, 0⟩ :: cs) scope p3] [] p4) (eSortSc l0 ls me) := by
  obtain ⟨wi, pi, mi⟩ := hi
  have pe : PE X (.SetComp elt (⟨tg, iter, ifs, 0⟩ :: cs) scope p3) (teC (α := List Str) X.K wi l0 ls (emST X.w (rdE X.K me)) (fun D => TxO X.w D [])) := by
    refine ⟨fun pins s σ H Q I hw => ?_⟩
    rw [PpSet.eval_SetComp]
    refine comp_core (h := false) (l := ⟨wi, rdG X.K l0.us l0.f, rdT X.K l0.mc, l0.vs⟩) (ls := ls.map (DLv.lv X.K)) (em := fun D env => emS elt (.ref D) env) (emT := emST X.w (rdE X.K me)) (ob0 := fun D => TxO X.w D []) (fun D env => isC_set) rfl (fun q => PpSet.newSet_ok q) (fun I => ?_) hc hN I (.calm pi) ok hv (fun s H C cl fp => ⟨(b.g s H C cl fp).canon, (b.t s H C cl fp).ex, (b.r s H C cl fp).lv, fun D pins s' σ H' N I q => ?_⟩) hs hw fun D C s' m H' I' q hn f => post_val I' q hn f
    · exact txO_new (TxRows.fresh (ho := Heap.get?_push_size _ rfl))
    · unfold emS
      refine wpAny_bind (thnX (B := blkG false X s H scope (compEnvC scope cl C X.env) fp) rfl ((be s H C cl fp).canon.run pins s' σ H' _ I q) fun u s1 hh => ?_)
      obtain ⟨y, H1, I1, r, k, T, rfl, hD, room, n⟩ := hh
      refine wpAny_bind (wpAny_standAt (wpAny_bind (addTx_ok (X := blkG false X s H scope (compEnvC scope cl C X.env) fp) I1 hD room r fun s2 I2 => wpAny_pure ⟨_, I2, n⟩)))
  refine ⟨_, pe_callB (cr_sortTx hc) g1 n1 (by decide +kernel) (pa_cons pe pa_nil s3) (by decide) (by decide) s3 s4, fun as F H S ρ σ I R q x e Q hq hx => ?_⟩
  show teC (α := List Str) X.K wi l0 ls (emST X.w (rdE X.K me)) (fun D => TxO X.w D []) σ H (fun v H' => rSortTx X.w [v] H' Q)
  refine comp_md (AR := arS X.w) (em := emSD me) mi (fun _ _ _ _ _ _ _ _ _ r => r) (fun _ _ _ => rfl) (fun as F0 H0 D h0 => inn_S h0) (subB_ok hs0) (subA_ok hsl) I R e hx fun D bs F1 H1 S1 cs F' H' S' T g1 hD p hh => ?_
  obtain ⟨o, e2, rfl⟩ := p.at_
  refine ⟨D, T, rfl, e2, of_decide_eq_true hh.1, fun z hz => ?_⟩
  have gB := p.g.sit.grow (o := .lst ((ascS T).map V.str)) hz
  exact hq _ S' cs _ _ _ hh.2 ((g1.trans p.g).trans gB) (.lst upd_same (rpl_strs _))
/-! ### dicts -/
theorem RpK.len {K : PySem.W.Frag} {as : List Addr} {F : Hp} : ∀ {kvs : List (Key × D)} {vkv : List (Key × V)}, RpK K as F kvs vkv → kvs.length = vkv.length
  | _, _, .nil => rfl
  | _, _, .cons _ r => congrArg (· + 1) r.len
end
end RV
end
section
/-! min(xs); defs called by keywords; while; name op= e -/
namespace RV
open PySem PySem.Spec PyProof.Rows L2
/-! ### min(xs) -/
/-! ### f(e, .., x=e, ..) -/
section
variable {P : Program} {w : World} {K : PySem.W.Frag} {mg : Str → Option Value} {base : Heap}
end
section
variable {X : Cx} {W : WX} {e : Expr} {es : List Expr} {kws : List Keyword} {pos p : Pos} {er ek : RV.Env → ML} {x : Str} {k j n m1 : Nat} {ks : List Str} {G : List D → M} {gD : List D → List D → List D} {gd : Md}
end
/-! ### while -/
/-! ### name += e, name -= e -/
/-! ### a slice of any list -/
def slLD : WS → D → Option Int → Option Int → Option D := fun S x lo hi => match x with
  | .tup _ => none
  | x => (itemsD S x).map fun ds => .lst (cutD ds lo hi)
theorem rsl_L {K : PySem.W.Frag} : RSl K (rSlL K) slLD := fun as F H S x d vx lo hi I rx h Q q => by
  have hn : ∀ ys, x ≠ .tup ys := by
    rintro ys rfl
    cases h
  have h' : (itemsD S x).map (fun ds => D.lst (cutD ds lo hi)) = some d := by
    revert h
    unfold slLD
    cases x <;> first | exact id | exact fun h => absurd rfl (hn _)
  obtain ⟨ds, h1, rfl⟩ := Option.map_eq_some_iff.mp h'
  obtain ⟨a, xs, rfl, s1, r1⟩ := items_l I rx h1 hn
  refine ⟨_, _, rfl, s1, fun p hp => ?_⟩
  refine q _ _ _ (I.grow hp) (.lst upd_same ?_)
  unfold cutD cutV
  rw [r1.length]
  exact ((r1.drop _).take _).mono (Ex.new (I.out hp)) (Pre.refl _)
end RV
end
section
/-! A def that hands back data with new lists within: all of its own lists stand still from here on. -/
namespace RV
open PySem L2
mutual
/-- cells from n on are the lists that they hold -/
def frzD (n : Nat) (S : WS) : D → Option D
  | .cell k => if k < n then some (.cell k) else match S[k]? with
    | some (.lst ds) => some (.lst ds)
    | _ => none
  | .tup ds => (frzL n S ds).map .tup
  | .ptu ds => (frzL n S ds).map .ptu
  | .lst ds => (frzL n S ds).map .lst
  | .obj C fs => (frzF n S fs).map (.obj C)
  | .dic kvs => (frzK n S kvs).map .dic
  | .exc _ _ => none
  | .exv _ _ _ _ => none
  | .clo _ _ _ _ _ _ => none
  | .non => some .non
  | .bl b => some (.bl b)
  | .int i => some (.int i)
  | .str s => some (.str s)
  | .ty t => some (.ty t)
  | .adr a => some (.adr a)
  | .scr ns => some (.scr ns)
def frzL (n : Nat) (S : WS) : List D → Option (List D)
  | [] => some []
  | d :: ds => (frzD n S d).bind fun e => (frzL n S ds).map fun es => e :: es
def frzF (n : Nat) (S : WS) : List (Str × D) → Option (List (Str × D))
  | [] => some []
  | (x, d) :: ds => (frzD n S d).bind fun e => (frzF n S ds).map fun es => (x, e) :: es
def frzK (n : Nat) (S : WS) : List (Key × D) → Option (List (Key × D))
  | [] => some []
  | (x, d) :: ds => (frzD n S d).bind fun e => (frzK n S ds).map fun es => (x, e) :: es
end
section
variable {K : PySem.W.Frag} {as bs : List Addr} {F G H : Hp} {S : WS} {n : Nat}
mutual
theorem Rp.frz (e : Ex F G) (p : ∀ k a, k < n → bs[k]? = some a → as[k]? = some a) (c : ∀ k a ds, n ≤ k → bs[k]? = some a → S[k]? = some (.lst ds) → ∃ xs, G a = some (.lst xs) ∧ RpL K as G ds xs) : ∀ {d d' : D} {v : V}, Rp K bs F d v → frzD n S d = some d' → Rp K as G d' v
  | _, _, _, .non, h => by cases h; exact .non
  | _, _, _, .bl b, h => by cases h; exact .bl b
  | _, _, _, .int i, h => by cases h; exact .int i
  | _, _, _, .str s, h => by cases h; exact .str s
  | _, _, _, .ty t, h => by cases h; exact .ty t
  | _, _, _, .adr a, h => by cases h; exact .adr a
  | _, _, _, .scr z, h => by cases h; exact .scr (e.sqL z)
  | _, _, _, .cell (k := k) z, h => by
    unfold frzD at h
    split at h
    · rename_i hk
      cases h
      exact .cell (p _ _ hk z)
    · rename_i hk
      split at h
      · rename_i ds hS
        cases h
        obtain ⟨xs, g1, g2⟩ := c k _ ds (Nat.le_of_not_lt hk) z hS
        exact .lst g1 g2
      · cases h
  | _, _, _, .tup z r, h => by
    unfold frzD at h
    obtain ⟨es, h1, rfl⟩ := Option.map_eq_some_iff.mp h
    exact .tup (e.sqT z) (RpL.frz e p c r h1)
  | _, _, _, .lst z r, h => by
    unfold frzD at h
    obtain ⟨es, h1, rfl⟩ := Option.map_eq_some_iff.mp h
    exact .lst (e _ _ z) (RpL.frz e p c r h1)
  | _, _, _, .obj z r, h => by
    unfold frzD at h
    obtain ⟨es, h1, rfl⟩ := Option.map_eq_some_iff.mp h
    exact .obj (e _ _ z) (RpF.frz e p c r h1)
  | _, _, _, .dic z r, h => by
    unfold frzD at h
    obtain ⟨es, h1, rfl⟩ := Option.map_eq_some_iff.mp h
    exact .dic (e _ _ z) (RpK.frz e p c r h1)
  | _, _, _, .exv z r, h => by cases h
  | _, _, _, .clo z z2 r, h => by cases h
  | _, _, _, .ptu z r, h => by
    unfold frzD at h
    obtain ⟨es, h1, rfl⟩ := Option.map_eq_some_iff.mp h
    exact .ptu (e.fzT z) (RpL.frz e p c r h1)
theorem RpL.frz (e : Ex F G) (p : ∀ k a, k < n → bs[k]? = some a → as[k]? = some a) (c : ∀ k a ds, n ≤ k → bs[k]? = some a → S[k]? = some (.lst ds) → ∃ xs, G a = some (.lst xs) ∧ RpL K as G ds xs) : ∀ {ds ds' : List D} {vs : List V}, RpL K bs F ds vs → frzL n S ds = some ds' → RpL K as G ds' vs
  | _, _, _, .nil, h => by cases h; exact .nil
  | _, _, _, .cons z r, h => by
    unfold frzL at h
    obtain ⟨e1, h1, h2⟩ := Option.bind_eq_some_iff.mp h
    obtain ⟨es, h3, rfl⟩ := Option.map_eq_some_iff.mp h2
    exact .cons (Rp.frz e p c z h1) (RpL.frz e p c r h3)
theorem RpF.frz (e : Ex F G) (p : ∀ k a, k < n → bs[k]? = some a → as[k]? = some a) (c : ∀ k a ds, n ≤ k → bs[k]? = some a → S[k]? = some (.lst ds) → ∃ xs, G a = some (.lst xs) ∧ RpL K as G ds xs) : ∀ {ds ds' : List (Str × D)} {vs : List (Str × V)}, RpF K bs F ds vs → frzF n S ds = some ds' → RpF K as G ds' vs
  | _, _, _, .nil, h => by cases h; exact .nil
  | _, _, _, .cons z r, h => by
    unfold frzF at h
    obtain ⟨e1, h1, h2⟩ := Option.bind_eq_some_iff.mp h
    obtain ⟨es, h3, rfl⟩ := Option.map_eq_some_iff.mp h2
    exact .cons (Rp.frz e p c z h1) (RpF.frz e p c r h3)
theorem RpK.frz (e : Ex F G) (p : ∀ k a, k < n → bs[k]? = some a → as[k]? = some a) (c : ∀ k a ds, n ≤ k → bs[k]? = some a → S[k]? = some (.lst ds) → ∃ xs, G a = some (.lst xs) ∧ RpL K as G ds xs) : ∀ {ds ds' : List (Key × D)} {vs : List (Key × V)}, RpK K bs F ds vs → frzK n S ds = some ds' → RpK K as G ds' vs
  | _, _, _, .nil, h => by cases h; exact .nil
  | _, _, _, .cons z r, h => by
    unfold frzK at h
    obtain ⟨e1, h1, h2⟩ := Option.bind_eq_some_iff.mp h
    obtain ⟨es, h3, rfl⟩ := Option.map_eq_some_iff.mp h2
    exact .cons (Rp.frz e p c z h1) (RpK.frz e p c r h3)
end
end
section
variable {K : PySem.W.Frag} {as bs : List Addr} {F H F' H' : Hp} {S S1 : WS} {d : D} {v : V} {q : D → WS → Prop} {Q : VK}
end
section
variable {P : Program} {w : World} {K : PySem.W.Frag} {mg : Str → Option Value} {base : Heap}
end
end RV
end
section
/-! o[i] += e, o a list that still changes, i from 0 on; x is True. -/
namespace RV
open PySem L2
/-! ### x is True -/
/-! ### int(x), x a bool -/
end RV
end
section
/-! sorted(xs), xs a list of different texts. -/
namespace RV
open PySem L2
end RV
end
section
/-! o.insert(i, e), o a list that still changes, i from 0 on. -/
namespace RV
open PySem L2
section
variable {X : Cx} {W : WX} {o i e : Expr} {eo ei ee : RV.Env → M} {apos cpos pos : Pos} {K : PySem.W.Frag}
end
/-! ### a + b, lists that still change too -/
theorem lst_at {K : PySem.W.Frag} {as : List Addr} {F H : Hp} {S : WS} {x : D} {v : V} {ds : List D} (I : Sit K as F H S) (r : Rp K as F x v) (h : lstOf S x = some ds) : ∃ a xs, v = .ref a ∧ H a = some (.lst xs) ∧ RpL K as F ds xs := by
  cases r with
  | lst z1 z2 => cases h; exact ⟨_, _, rfl, I.ex _ _ z1, z2⟩
  | @cell k a hk =>
    simp only [lstOf] at h
    split at h
    · rename_i es e
      cases h
      obtain ⟨p, hp, c⟩ := I.at_ e
      rw [hk] at hp
      cases hp
      obtain ⟨o, ho, hc⟩ := c.at_
      cases o with
      | lst xs => exact ⟨a, xs, rfl, ho, RpL.mono (Ex.refl _) (fun i a h => by simp at h) hc⟩
      | _ => exact hc.elim
    · cases h
  | _ => cases h
def addC : WS → D → D → Option D := fun S x y => (lstOf S x).bind fun a => (lstOf S y).bind fun b => if small (a.length + b.length) = true then some (.lst (a ++ b)) else none
theorem ro_catC {K : PySem.W.Frag} : RO K rCat addC := fun as F H S x y d vx vy I rx ry h Q q => by
  simp only [addC, Option.bind_eq_some_iff] at h
  obtain ⟨a, h1, b, h2, h3⟩ := h
  split at h3
  · rename_i hh
    cases h3
    obtain ⟨p1, xs, rfl, e1, r1⟩ := lst_at I rx h1
    obtain ⟨p2, ys, rfl, e2, r2⟩ := lst_at I ry h2
    refine ⟨_, _, _, _, rfl, rfl, e1, e2, by rw [← r1.length, ← r2.length]; exact small_le hh, fun p hp => ?_⟩
    refine q _ _ _ (I.grow hp) (.lst upd_same ((r1.append r2).mono (Ex.new (I.out hp)) (Pre.refl _)))
  · cases h3
end RV
end
section
/-! a, b, .. = a list that stands still -/
namespace RV
open PySem L2
section
variable {X : Cx} {pos : Pos}
end
end RV
end
section
/-! while an error without context is handled: properties, str of own things, tuples walked, lists made of them -/
namespace HotX
open PySem PySem.Spec PyProof.Rows
section
variable {prog : Program} {w : World} {A : Around} {E : Value → Shared → Prop} {s : Shared}
end
end HotX
namespace RV
open PySem PySem.Spec PyProof.Rows L2
theorem Rx.hot {k : Nat} {X : Cx} (z : zN = true) (r : Rx true k X) : Rdy true X := by
  obtain ⟨_, p, hp, e1, e2⟩ := r
  exact ⟨p, ⟨e1, e2 z⟩, hp⟩
section
variable {X : Cx} {W : WX} {tg a e o : Expr} {ea : RV.Env → M}
/-! ### lists -/
end
/-! ### own things -/
section
variable (P : Program) (w : World) (K : PySem.W.Frag) (mg : Str → Option Value) (base : Heap)
end
section
variable {X : Cx} {W : WX} {e : Expr} {ea : RV.Env → M} {C : Addr} {k j : Nat} {f : Str} {pos : Pos} {G : List D → M}
end
end RV
end
section
/-! a text == a thing with an own == -/
namespace RV
open PySem L2 PySem.W
section
variable {prog : Program} {w : World} {A : Around} {E : Value → Shared → Prop} {s : Shared} {K : PySem.W.Frag} {x C L f : Addr} {h₀ : Heap} {m : Str → Option Value} {dx : Addr} {od : Obj}
end
section
variable {X : Cx} {W : WX} {a b : Expr} {ea eb : RV.Env → M} {pos : Pos}
end
end RV
end
section
/-! try .. except A as n .. except B as n ..: every error of the body is one of them; isinstance with built-in classes. -/
namespace RV
open PySem L2 PySem.Spec PyProof.Rows
inductive HdsM (nz : Bool) (X : Cx) : List ExceptHandler → List (Value × Nat × (Addr → Value → Option Addr → TS)) → Prop
  | nil : HdsM nz X [] []
  | cons {x n : Str} {c : Value} {i : Nat} {ts : Addr → Value → Option Addr → TS} {b0 : Stmt} {suite : List Stmt} {np pos' : Pos} {hds : List ExceptHandler} {l : List (Value × Nat × (Addr → Value → Option Addr → TS))} (hi : X.N[i]? = some n) (hln : X.env.kindOf n = some .local) (hc : Names X x c)
      (hsu : ∀ (a : Addr) (oe : Obj) (cls : Value) (d : Option Addr) (pn : List (Addr × Obj)), Zz nz cls d oe → (∃ vs, oe.data = .fields vs) → PSs (X.suite a ((a, oe) :: pn)) (b0 :: suite) (ts a cls d)) (r : HdsM nz X hds l) :
      HdsM nz X (.ExceptHandler (some (.Name x np)) (some n) (b0 :: suite) pos' :: hds) ((c, i, ts) :: l)
section
variable {X : Cx} {body : List Stmt} {h0 : ExceptHandler} {hds : List ExceptHandler} {l : List (Value × Nat × (Addr → Value → Option Addr → TS))} {pos : Pos} {tb : WX → TS}
end
/-! ### readings -/
structure Hm where
  c : Value
  L : List Addr
  i : Nat
  m : Addr → Addr → Addr → RV.Env → MS
inductive GHs (X : Cx) (All : List Addr) : List ExceptHandler → List Hm → Prop
  | nil : GHs X All [] []
  | cons {x n : Str} {h : Hm} {b0 : Stmt} {suite : List Stmt} {np pos' : Pos} {hds : List ExceptHandler} {l : List Hm} (hi : X.N[h.i]? = some n) (hln : X.env.kindOf n = some .local) (hc : Names X x h.c) (hL : ∀ C ∈ All, PySem.W.exmOne X.K (.ref C) h.c = some (decide (C ∈ h.L)))
      (hsu : ∀ (a C d : Addr) (oe : Obj) (pn : List (Addr × Obj)), Zz zN (.ref C) (some d) oe → (∃ vs, oe.data = .fields vs) → GSs (X.suite a ((a, oe) :: pn)) WF (b0 :: suite) (h.m a C d)) (r : GHs X All hds l) :
      GHs X All (.ExceptHandler (some (.Name x np)) (some n) (b0 :: suite) pos' :: hds) (h :: l)
section
variable {X : Cx} {W : WX} {body : List Stmt} {h0 : ExceptHandler} {hds : List ExceptHandler} {pos : Pos} {mb : RV.Env → MS} {All : List Addr} {hs : List Hm}
end
/-! ### isinstance with built-in classes -/
end RV
end
section
namespace RV
end RV
namespace K47
open PySem L2 RV
def top (i : Nat) : Stmt := PySem.Challenge.pw_ringvotes_k47_rules_made.main.body.getD i (.Pass ⟨0, 0, 0, 0⟩)
abbrev s_goal_with : Stmt := top 35
abbrev s_is_name : Stmt := top 18
abbrev s_read_number : Stmt := top 20
abbrev s_read_term : Stmt := top 28
abbrev s_merged_l : Stmt := top 24
abbrev s_digits_of_r1 : Stmt := top 21
abbrev s_digits_of_r0 : Stmt := top 21
abbrev s_term_text : Stmt := top 26
abbrev s_text_of : Stmt := top 27
abbrev s_read_terms : Stmt := top 29
abbrev s_is_integer : Stmt := top 17
abbrev s_check_terms : Stmt := top 23
abbrev s_merged_t : Stmt := top 24
abbrev s_Sum_init : Stmt := inClass (top 30) 0
abbrev s_Sum_read : Stmt := inClass (top 30) 1
abbrev s_sum_with : Stmt := top 34
abbrev s_test_step : Stmt := top 36
abbrev s_vote_step : Stmt := top 37
abbrev s_step_of : Stmt := top 38
abbrev s_Rule_init : Stmt := inClass (top 39) 0
abbrev s_Rule_len : Stmt := inClass (top 39) 5
abbrev s_sums_in : Stmt := top 40
abbrev s_Sum_names : Stmt := inClass (top 30) 4
abbrev s_Rule_meters : Stmt := inClass (top 39) 4
abbrev s_spring_k47 : Stmt := top 42
abbrev s_take_k47 : Stmt := top 43
abbrev s_titles_k47 : Stmt := top 44
abbrev s_times_k47 : Stmt := top 45
abbrev s_total_k47 : Stmt := top 46
abbrev s_pick_k47 : Stmt := top 48
abbrev s_last_k47 : Stmt := top 49
abbrev s_steps_k47 : Stmt := top 47
abbrev s_told_k47 : Stmt := top 50
abbrev s_line_k47 : Stmt := top 51
abbrev s_names_of_k47 : Stmt := top 52
abbrev s_Rule_read : Stmt := inClass (top 39) 1
abbrev s_Rule_rows : Stmt := inClass (top 39) 3
abbrev s_Rule_str : Stmt := inClass (top 39) 8
abbrev s_Rule_eq : Stmt := inClass (top 39) 7
abbrev s_Rule_bool : Stmt := inClass (top 39) 6
abbrev s_right_k47 : Stmt := top 53
abbrev s_law_k47 : Stmt := top 54
def ad (K : PySem.W.Frag) : Ad := ⟨fun n => He.ga K (PySem.Str.ofString n), ["Sum", "Rule"], fun _ => 0⟩
def d_goal_with : He5.DefA := ⟨fun K => He.ga K "goal_with", "goal_with", "goal_with", defArgs s_goal_with, defBody s_goal_with, defScope s_goal_with, [], []⟩
def d_is_name : He5.DefA := ⟨fun K => He.ga K "is_name", "is_name", "is_name", defArgs s_is_name, defBody s_is_name, defScope s_is_name, [], []⟩
def d_read_number : He5.DefA := ⟨fun K => He.ga K "read_number", "read_number", "read_number", defArgs s_read_number, defBody s_read_number, defScope s_read_number, [], []⟩
def d_read_term : He5.DefA := ⟨fun K => He.ga K "read_term", "read_term", "read_term", defArgs s_read_term, defBody s_read_term, defScope s_read_term, [], []⟩
def d_merged_l : He5.DefA := ⟨fun K => He.ga K "merged", "merged", "merged", defArgs s_merged_l, defBody s_merged_l, defScope s_merged_l, [], []⟩
def d_digits_of_r1 : He5.DefA := ⟨fun K => He.ga K "digits_of", "digits_of", "digits_of", defArgs s_digits_of_r1, defBody s_digits_of_r1, defScope s_digits_of_r1, [], []⟩
def d_digits_of_r0 : He5.DefA := ⟨fun K => He.ga K "digits_of", "digits_of", "digits_of", defArgs s_digits_of_r0, defBody s_digits_of_r0, defScope s_digits_of_r0, [], []⟩
def d_term_text : He5.DefA := ⟨fun K => He.ga K "term_text", "term_text", "term_text", defArgs s_term_text, defBody s_term_text, defScope s_term_text, [], []⟩
def d_text_of : He5.DefA := ⟨fun K => He.ga K "text_of", "text_of", "text_of", defArgs s_text_of, defBody s_text_of, defScope s_text_of, [], []⟩
def d_read_terms : He5.DefA := ⟨fun K => He.ga K "read_terms", "read_terms", "read_terms", defArgs s_read_terms, defBody s_read_terms, defScope s_read_terms, [], []⟩
def d_is_integer : He5.DefA := ⟨fun K => He.ga K "is_integer", "is_integer", "is_integer", defArgs s_is_integer, defBody s_is_integer, defScope s_is_integer, [], []⟩
def d_check_terms : He5.DefA := ⟨fun K => He.ga K "check_terms", "check_terms", "check_terms", defArgs s_check_terms, defBody s_check_terms, defScope s_check_terms, [], []⟩
def d_merged_t : He5.DefA := ⟨fun K => He.ga K "merged", "merged", "merged", defArgs s_merged_t, defBody s_merged_t, defScope s_merged_t, [], []⟩
def d_Sum_init : He5.DefA := ⟨fun K => He.ma K (He.ga K "Sum") "__init__", "__init__", "Sum.__init__", defArgs s_Sum_init, defBody s_Sum_init, defScope s_Sum_init, [.adr (He.dflAt ("Sum", some "__init__") 0)], []⟩
def d_Sum_read : He5.DefA := ⟨fun K => He5.wf K (He.ga K "Sum") "classmethod" "read", "read", "Sum.read", defArgs s_Sum_read, defBody s_Sum_read, defScope s_Sum_read, [], []⟩
def d_sum_with : He5.DefA := ⟨fun K => He.ga K "sum_with", "sum_with", "sum_with", defArgs s_sum_with, defBody s_sum_with, defScope s_sum_with, [], []⟩
def d_test_step : He5.DefA := ⟨fun K => He.ga K "test_step", "test_step", "test_step", defArgs s_test_step, defBody s_test_step, defScope s_test_step, [], []⟩
def d_vote_step : He5.DefA := ⟨fun K => He.ga K "vote_step", "vote_step", "vote_step", defArgs s_vote_step, defBody s_vote_step, defScope s_vote_step, [], []⟩
def d_step_of : He5.DefA := ⟨fun K => He.ga K "step_of", "step_of", "step_of", defArgs s_step_of, defBody s_step_of, defScope s_step_of, [], []⟩
def d_Rule_init : He5.DefA := ⟨fun K => He.ma K (He.ga K "Rule") "__init__", "__init__", "Rule.__init__", defArgs s_Rule_init, defBody s_Rule_init, defScope s_Rule_init, [], []⟩
def d_Rule_len : He5.DefA := ⟨fun K => He.ma K (He.ga K "Rule") "__len__", "__len__", "Rule.__len__", defArgs s_Rule_len, defBody s_Rule_len, defScope s_Rule_len, [], []⟩
def d_sums_in : He5.DefA := ⟨fun K => He.ga K "sums_in", "sums_in", "sums_in", defArgs s_sums_in, defBody s_sums_in, defScope s_sums_in, [], []⟩
def d_Sum_names : He5.DefA := ⟨fun K => He5.wf K (He.ga K "Sum") "property" "names", "names", "Sum.names", defArgs s_Sum_names, defBody s_Sum_names, defScope s_Sum_names, [], []⟩
def d_Rule_meters : He5.DefA := ⟨fun K => He5.wf K (He.ga K "Rule") "property" "meters", "meters", "Rule.meters", defArgs s_Rule_meters, defBody s_Rule_meters, defScope s_Rule_meters, [], []⟩
def d_spring_k47 : He5.DefA := ⟨fun K => He.ga K "_law_spring", "_law_spring", "_law_spring", defArgs s_spring_k47, defBody s_spring_k47, defScope s_spring_k47, [], []⟩
def d_take_k47 : He5.DefA := ⟨fun K => He.ga K "_law_take", "_law_take", "_law_take", defArgs s_take_k47, defBody s_take_k47, defScope s_take_k47, [], []⟩
def d_titles_k47 : He5.DefA := ⟨fun K => He.ga K "_law_titles", "_law_titles", "_law_titles", defArgs s_titles_k47, defBody s_titles_k47, defScope s_titles_k47, [], []⟩
def d_times_k47 : He5.DefA := ⟨fun K => He.ga K "_law_times", "_law_times", "_law_times", defArgs s_times_k47, defBody s_times_k47, defScope s_times_k47, [], []⟩
def d_total_k47 : He5.DefA := ⟨fun K => He.ga K "_law_total", "_law_total", "_law_total", defArgs s_total_k47, defBody s_total_k47, defScope s_total_k47, [], []⟩
def d_pick_k47 : He5.DefA := ⟨fun K => He.ga K "_law_pick", "_law_pick", "_law_pick", defArgs s_pick_k47, defBody s_pick_k47, defScope s_pick_k47, [], []⟩
def d_last_k47 : He5.DefA := ⟨fun K => He.ga K "_law_last", "_law_last", "_law_last", defArgs s_last_k47, defBody s_last_k47, defScope s_last_k47, [], []⟩
def d_steps_k47 : He5.DefA := ⟨fun K => He.ga K "_law_steps", "_law_steps", "_law_steps", defArgs s_steps_k47, defBody s_steps_k47, defScope s_steps_k47, [], []⟩
def d_told_k47 : He5.DefA := ⟨fun K => He.ga K "_law_told", "_law_told", "_law_told", defArgs s_told_k47, defBody s_told_k47, defScope s_told_k47, [], []⟩
def d_line_k47 : He5.DefA := ⟨fun K => He.ga K "_law_line", "_law_line", "_law_line", defArgs s_line_k47, defBody s_line_k47, defScope s_line_k47, [], []⟩
def d_names_of_k47 : He5.DefA := ⟨fun K => He.ga K "_law_names_of", "_law_names_of", "_law_names_of", defArgs s_names_of_k47, defBody s_names_of_k47, defScope s_names_of_k47, [], []⟩
def d_Rule_read : He5.DefA := ⟨fun K => He5.wf K (He.ga K "Rule") "classmethod" "read", "read", "Rule.read", defArgs s_Rule_read, defBody s_Rule_read, defScope s_Rule_read, [], []⟩
def d_Rule_rows : He5.DefA := ⟨fun K => He5.wf K (He.ga K "Rule") "property" "rows", "rows", "Rule.rows", defArgs s_Rule_rows, defBody s_Rule_rows, defScope s_Rule_rows, [], []⟩
def d_Rule_str : He5.DefA := ⟨fun K => He.ma K (He.ga K "Rule") "__str__", "__str__", "Rule.__str__", defArgs s_Rule_str, defBody s_Rule_str, defScope s_Rule_str, [], []⟩
def d_Rule_eq : He5.DefA := ⟨fun K => He.ma K (He.ga K "Rule") "__eq__", "__eq__", "Rule.__eq__", defArgs s_Rule_eq, defBody s_Rule_eq, defScope s_Rule_eq, [], []⟩
def d_Rule_bool : He5.DefA := ⟨fun K => He.ma K (He.ga K "Rule") "__bool__", "__bool__", "Rule.__bool__", defArgs s_Rule_bool, defBody s_Rule_bool, defScope s_Rule_bool, [], []⟩
def d_right_k47 : He5.DefA := ⟨fun K => He.ga K "_law_right", "_law_right", "_law_right", defArgs s_right_k47, defBody s_right_k47, defScope s_right_k47, [], []⟩
def d_law_k47 : He5.DefA := ⟨fun K => He.ga K "law", "law", "law", defArgs s_law_k47, defBody s_law_k47, defScope s_law_k47, [], []⟩
def fn : List He5.DefA := [d_goal_with, d_is_name, d_read_number, d_read_term, d_merged_l, d_digits_of_r1, d_digits_of_r0, d_term_text, d_text_of, d_read_terms, d_is_integer, d_check_terms, d_merged_t, d_Sum_init, d_Sum_read, d_sum_with, d_test_step, d_vote_step, d_step_of, d_Rule_init, d_Rule_len, d_sums_in, d_Sum_names, d_Rule_meters, d_spring_k47, d_take_k47, d_titles_k47, d_times_k47, d_total_k47, d_pick_k47, d_last_k47, d_steps_k47, d_told_k47, d_line_k47, d_names_of_k47, d_Rule_read, d_Rule_rows, d_Rule_str, d_Rule_eq, d_Rule_bool, d_right_k47, d_law_k47]
def fa : List He.Fa := [.glo "goal_with", .glo "is_name", .glo "read_number", .glo "read_term", .glo "merged", .glo "digits_of", .glo "digits_of", .glo "term_text", .glo "text_of", .glo "read_terms", .glo "is_integer", .glo "check_terms", .glo "merged", .glo "sum_with", .glo "test_step", .glo "vote_step", .glo "step_of", .glo "sums_in", .glo "_law_spring", .glo "_law_take", .glo "_law_titles", .glo "_law_times", .glo "_law_total", .glo "_law_pick", .glo "_law_last", .glo "_law_steps", .glo "_law_told", .glo "_law_line", .glo "_law_names_of", .glo "_law_right", .glo "law", .glo "Sum", .cls "Sum", .mkr "Sum", .glo "Rule", .cls "Rule", .mkr "Rule", .noat "Rule" "lines", .noat "Rule" "steps", .noat "Sum" "kept", .free "abs", .free "all", .free "any", .free "bool", .free "divmod", .free "enumerate", .free "int", .free "isinstance", .free "len", .free "list", .free "max", .free "min", .free "range", .free "repr", .free "set", .free "sorted", .free "str", .free "tuple", .int "BLOCK" 1000000000000000000000000000000, .str "DIGITS" "0123456789", .str "LETTERS" "abcdefghijklmnopqrstuvwxyz", .int "LONGEST_NAME" 8, .int "MOST_FAULTS" 3, .int "MOST_ROWS" 8, .int "MOST_SUMS" 10]
def exs : List (PySem.W.Frag → Bool) := [fun K => kindB K (He.ga K "Sum"), fun K => readB K (He.ga K "Sum"), fun K => cmetB K (He.ga K "Sum") "read", fun K => propB K (He.ga K "Sum") "names", fun K => kindB K (He.ga K "Rule"), fun K => eqB K (He.ga K "Rule"), fun K => nfB K (He.ga K "Rule") (kinds (ad K)), fun K => readB K (He.ga K "Rule"), fun K => cmetB K (He.ga K "Rule") "read", fun K => propB K (He.ga K "Rule") "rows", fun K => propB K (He.ga K "Rule") "meters", fun K => specB K (He.ga K "Rule") "__len__", fun K => specB K (He.ga K "Rule") "__bool__", fun K => specB K (He.ga K "Rule") "__str__", fun K => decide (([He.ga K "Sum", He.ga K "Rule"] : List Addr).Nodup), fun K => decide (([He.ga K "Sum", He.ga K "Rule"] : List Addr).Nodup), fun K => tabB K (kinds (ad K)) (clss (ad K)) (sub (ad K))]
def exA (K : PySem.W.Frag) : Bool := exs.all fun f => f K
theorem exA_at {K : PySem.W.Frag} (h : exA K = true) (i : Nat) {f : PySem.W.Frag → Bool} (e : exs[i]? = some f) : f K = true := List.all_eq_true.mp h f (List.mem_of_getElem? e)
theorem ad_ok {K : PySem.W.Frag} (h : exA K = true) : AdOk (ad K) ["Sum", "Rule"] := ⟨rfl, of_decide_eq_true (p := (([He.ga K "Sum", He.ga K "Rule"] : List Addr).Nodup)) (exA_at h 15 rfl)⟩
abbrev R : PySem.W.OpenRow := PySem.W.OpenLaw.row PySem.Challenge.rw_ringvotes_k47_rules_made
abbrev hk : PySem.W.Hook := hookU 5 fa fn exA
def ob (s : PySem.W.SharedT) : He.AlD × Bool := obU 5 fa fn exA (HandSHeadRun.getT s)
theorem ob_eq (s : PySem.W.SharedT) : ob s = hk.obs s.abs := obU_eq (HandSHeadRun.getT_eq s)
def loose : List PySem.Str := [("_wall" : PySem.Str), ("BadValue" : PySem.Str), ("InvalidName" : PySem.Str), ("InvalidText" : PySem.Str), ("InvalidNumber" : PySem.Str), ("NotASum" : PySem.Str), ("InvalidTerms" : PySem.Str), ("InvalidRows" : PySem.Str), ("MOST_ROWS" : PySem.Str), ("MOST_SUMS" : PySem.Str), ("MOST_FAULTS" : PySem.Str), ("LETTERS" : PySem.Str), ("DIGITS" : PySem.Str), ("LONGEST_NAME" : PySem.Str), ("BLOCK" : PySem.Str), ("is_integer" : PySem.Str), ("is_name" : PySem.Str), ("check_name" : PySem.Str), ("read_number" : PySem.Str), ("digits_of" : PySem.Str), ("check_terms" : PySem.Str), ("merged" : PySem.Str), ("scaled" : PySem.Str), ("term_text" : PySem.Str), ("text_of" : PySem.Str), ("read_term" : PySem.Str), ("read_terms" : PySem.Str), ("Sum" : PySem.Str), ("check_sum" : PySem.Str), ("check_factor" : PySem.Str), ("sum_with" : PySem.Str), ("goal_with" : PySem.Str), ("test_step" : PySem.Str), ("vote_step" : PySem.Str), ("step_of" : PySem.Str), ("Rule" : PySem.Str), ("sums_in" : PySem.Str), ("_law_spring" : PySem.Str), ("_law_take" : PySem.Str), ("_law_titles" : PySem.Str), ("_law_times" : PySem.Str), ("_law_total" : PySem.Str), ("_law_steps" : PySem.Str), ("_law_pick" : PySem.Str), ("_law_last" : PySem.Str), ("_law_told" : PySem.Str), ("_law_line" : PySem.Str), ("_law_names_of" : PySem.Str), ("_law_right" : PySem.Str)]
section
open PySem.W PyProof.Rows
noncomputable abbrev lastS (w : World) (os : OsState) : Option PySem.W.SharedT := HandSHeadRun.endF (HandSHeadRun.stepQ (HandSHeadRun.denQ HandSHeadRun.tabQ) R.prog w) 40000 R.prog w os
theorem runL (w : World) : ∀ os : OsState, (lastS w os).map (fun s => HandSHeadRun.looksF R.prog (boot_heap w.params) s.abs) = some (true) := by
  intro os
  kernel_rfl
theorem runS (w : World) : ∀ os : OsState, (lastS w os).map (fun s => HandSHeadRun.seenQ (PySem.W.view R.prog [54]) loose (importedModules R.prog.main.body) (fun s => xlAt (PySem.W.view R.prog [54]) [] s && recOk R.toRowW.records s) s.abs) = some (openGood (PySem.W.view R.prog [54]) loose) := by
  intro os
  kernel_rfl
theorem runA (w : World) : ∀ os : OsState, (lastS w os).map (fun s => He5.obsA fa [] (He.frG (HandSHeadRun.getT s) (asB (HandSHeadRun.getT s) 5))) = some (He5.valA []) := by
  intro os
  kernel_rfl
theorem runA0 (w : World) : ∀ os : OsState, (lastS w os).map (fun s => He5.obsA [] ((fn.drop 0).take 10) (He.frG (HandSHeadRun.getT s) (asB (HandSHeadRun.getT s) 5))) = some (He5.valA ((fn.drop 0).take 10)) := by
  intro os
  kernel_rfl
theorem runA1 (w : World) : ∀ os : OsState, (lastS w os).map (fun s => He5.obsA [] ((fn.drop 10).take 11) (He.frG (HandSHeadRun.getT s) (asB (HandSHeadRun.getT s) 5))) = some (He5.valA ((fn.drop 10).take 11)) := by
  intro os
  kernel_rfl
theorem runA2 (w : World) : ∀ os : OsState, (lastS w os).map (fun s => He5.obsA [] ((fn.drop 21).take 10) (He.frG (HandSHeadRun.getT s) (asB (HandSHeadRun.getT s) 5))) = some (He5.valA ((fn.drop 21).take 10)) := by
  intro os
  kernel_rfl
theorem runA3 (w : World) : ∀ os : OsState, (lastS w os).map (fun s => He5.obsA [] ((fn.drop 31).take 99969) (He.frG (HandSHeadRun.getT s) (asB (HandSHeadRun.getT s) 5))) = some (He5.valA ((fn.drop 31).take 99969)) := by
  intro os
  kernel_rfl
theorem obs_app {fa : List He.Fa} {f1 f2 : List He5.DefA} {K : PySem.W.Frag} (h1 : He5.obsA fa f1 K = He5.valA f1) (h2 : He5.obsA [] f2 K = He5.valA f2) : He5.obsA fa (f1 ++ f2) K = He5.valA (f1 ++ f2) := by
  simp only [He5.obsA, He5.valA, Prod.mk.injEq, Bool.and_eq_true, List.all_append, List.map_append, List.all_nil, true_and] at *
  exact ⟨⟨h1.1.1, h1.1.2, h2.1⟩, by rw [h1.2, h2.2]⟩
theorem runX0 (w : World) : ∀ os : OsState, (lastS w os).map (fun s => ((exs.drop 0).take 3).all fun f => f (He.frG (HandSHeadRun.getT s) (asB (HandSHeadRun.getT s) 5))) = some (true) := by
  intro os
  kernel_rfl
theorem runX1 (w : World) : ∀ os : OsState, (lastS w os).map (fun s => ((exs.drop 3).take 3).all fun f => f (He.frG (HandSHeadRun.getT s) (asB (HandSHeadRun.getT s) 5))) = some (true) := by
  intro os
  kernel_rfl
theorem runX2 (w : World) : ∀ os : OsState, (lastS w os).map (fun s => ((exs.drop 6).take 4).all fun f => f (He.frG (HandSHeadRun.getT s) (asB (HandSHeadRun.getT s) 5))) = some (true) := by
  intro os
  kernel_rfl
theorem runX3 (w : World) : ∀ os : OsState, (lastS w os).map (fun s => ((exs.drop 10).take 3).all fun f => f (He.frG (HandSHeadRun.getT s) (asB (HandSHeadRun.getT s) 5))) = some (true) := by
  intro os
  kernel_rfl
theorem runX4 (w : World) : ∀ os : OsState, (lastS w os).map (fun s => ((exs.drop 13).take 4).all fun f => f (He.frG (HandSHeadRun.getT s) (asB (HandSHeadRun.getT s) 5))) = some (true) := by
  intro os
  kernel_rfl
theorem exs_parts (K : PySem.W.Frag) : exA K = (((exs.drop 0).take 3).all (fun f => f K) && ((exs.drop 3).take 3).all (fun f => f K) && ((exs.drop 6).take 4).all (fun f => f K) && ((exs.drop 10).take 3).all (fun f => f K) && ((exs.drop 13).take 4).all (fun f => f K)) := by
  have e : exs = (exs.drop 0).take 3 ++ (exs.drop 3).take 3 ++ (exs.drop 6).take 4 ++ (exs.drop 10).take 3 ++ (exs.drop 13).take 4 := by rfl
  unfold exA
  conv => lhs; rw [e]
  simp only [List.all_append]
theorem run (w : World) : HandSHeadRun.RunEq R (PySem.W.view R.prog [54]) hk ob 40000 loose w := by
  intro os
  have hrunL := runL w os
  have hrunS := runS w os
  have hrunA := runA w os
  have hrunA0 := runA0 w os
  have hrunA1 := runA1 w os
  have hrunA2 := runA2 w os
  have hrunA3 := runA3 w os
  have hrunX0 := runX0 w os
  have hrunX1 := runX1 w os
  have hrunX2 := runX2 w os
  have hrunX3 := runX3 w os
  have hrunX4 := runX4 w os
  show (lastS w os).map _ = _
  cases e : lastS w os with
  | none => rw [e] at hrunL; cases hrunL
  | some s =>
    rw [e, Option.map_some, Option.some.injEq] at hrunL
    rw [e, Option.map_some, Option.some.injEq] at hrunS
    rw [e, Option.map_some, Option.some.injEq] at hrunA
    rw [e, Option.map_some, Option.some.injEq] at hrunA0
    rw [e, Option.map_some, Option.some.injEq] at hrunA1
    rw [e, Option.map_some, Option.some.injEq] at hrunA2
    rw [e, Option.map_some, Option.some.injEq] at hrunA3
    rw [e, Option.map_some, Option.some.injEq] at hrunX0
    rw [e, Option.map_some, Option.some.injEq] at hrunX1
    rw [e, Option.map_some, Option.some.injEq] at hrunX2
    rw [e, Option.map_some, Option.some.injEq] at hrunX3
    rw [e, Option.map_some, Option.some.injEq] at hrunX4
    have hobs : He5.obsA fa fn (He.frG (HandSHeadRun.getT s) (asB (HandSHeadRun.getT s) 5)) = He5.valA fn := (obs_app (obs_app (obs_app (obs_app hrunA hrunA0) hrunA1) hrunA2) hrunA3)
    rw [Option.map_some]
    refine congrArg some (Prod.ext hrunL (Prod.ext hrunS (Prod.ext hobs ?_)))
    show exA (He.frG (HandSHeadRun.getT s) (asB (HandSHeadRun.getT s) 5)) = true
    rw [exs_parts, hrunX0, hrunX1, hrunX2, hrunX3, hrunX4]
    try rfl
end
end K47
end
section
/-! Own methods called with keywords alone. -/
namespace RV
open PySem L2
variable {nn : Bool}
section
variable {X : Cx} {W : WX} {o e : Expr} {es : List Expr} {pos apos : Pos} {ea : RV.Env → M} {ek : RV.Env → ML} {C : Addr} {m : Str} {G : List D → M} {k j n : Nat}
end
end RV
end
section
/-! A thing in a list of texts; truth by an own length; an own repr. -/
namespace RV
open PySem L2 PySem.W PySem.MeetsSeq
section
variable {prog : Program} {w : World} {A : Around} {E : Value → Shared → Prop} {s : Shared}
open AutoSeq1 (wpAny_loadPart')
end
section
variable {X : Cx} {W : WX} {a b : Expr} {ea eb : RV.Env → M} {pos : Pos} {k j : Nat}
/-! ### v in a list of texts, v a thing of an own class or a dict -/
def rLoop (r : R2) (p : Addr) (xs : List V) (x : V) : List V → Hp → VK → Prop
  | [], H, Q => H p = some (.lst xs) ∧ Q (.bl false) H
  | y :: ys, H, Q => H p = some (.lst xs) ∧ r y x H (fun v H' => ∃ c, v = .bl c ∧ (if c = true then Q (.bl true) H' else rLoop r p xs x ys H' Q))
theorem rLoop.here {r : R2} {p : Addr} {xs : List V} {x : V} {H : Hp} {Q : VK} : ∀ {ys : List V}, rLoop r p xs x ys H Q → H p = some (.lst xs)
  | [], h => h.1
  | _ :: _, h => h.1
end
section
variable {X : Cx} {W : WX} {a e : Expr} {es : List Expr} {ea : RV.Env → M} {er : RV.Env → ML} {pos p : Pos} {k j : Nat} {C : Addr} {G : List D → M} {nn : Bool}
/-! ### truth by an own length -/
/-! ### an own repr -/
end
end RV
end
section
/-! list(range(e)) -/
namespace RV
open PySem L2
section
variable {X : Cx} {W : WX} {e : Expr} {ea : RV.Env → M} {p pos p2 pos2 : Pos}
end
section
variable {X : Cx} {W : WX} {e : Expr} {er : RV.Env → ML} {p pos : Pos}
end
end RV
end
section
/-! repr of a tuple in which dicts may lie. -/
namespace RV
open PySem L2
mutual
def D.pyT : D → Option PyData
  | .tup ds => (D.pyTL ds).map PyData.tuple
  | .dic kvs => (kvPy kvs).map PyData.dict
  | .non => some .none
  | .bl b => some (.bool b)
  | .int i => some (.int i)
  | .str s => some (.str s)
  | _ => none
def D.pyTL : List D → Option (List PyData)
  | [] => some []
  | d :: ds => (D.pyT d).bind fun p => (D.pyTL ds).map fun ps => p :: ps
end
section
variable {X : Cx} {pins : List (Addr × Obj)} {σ : L2.St} {H : Hp} {s : Shared} {as : List Addr} {F : Hp}
mutual
theorem pyT_reads (I : Inv X pins σ H s) (ex : Ex F H) : ∀ (d : D) (v : V) (u : Value) (p : PyData), Rp X.K as F d v → D.pyT d = some p → RelV v u → ∃ bs, Reads s.heap u p bs ∧ sysModules ∉ bs
  | .non, _, _, _, r, e, ru => by
    cases r; cases e; cases ru; exact ⟨_, .none, List.not_mem_nil⟩
  | .bl b, _, _, _, r, e, ru => by
    cases r; cases e; cases ru; exact ⟨_, .bool b, List.not_mem_nil⟩
  | .int i, _, _, _, r, e, ru => by
    cases r; cases e; obtain ⟨t, rfl⟩ := ru; exact ⟨_, .int i t, List.not_mem_nil⟩
  | .str x, _, _, _, r, e, ru => by
    cases r; cases e; obtain ⟨t, rfl⟩ := ru; exact ⟨_, .str x t, List.not_mem_nil⟩
  | .tup ds, _, _, _, r, e, ru => by
    cases r with
    | tup h r =>
      simp only [D.pyT, Option.map_eq_some_iff] at e
      obtain ⟨ps, e1, rfl⟩ := e
      cases ru
      obtain ⟨its, rv, ⟨o, ho, hc, n, hd⟩, _⟩ := I.tuple (ex.sqT h)
      obtain ⟨bs, q1, q2⟩ := pyTL_reads I ex ds _ _ _ r e1 rv
      exact ⟨_, Reads.tuple ho hc hd q1, q2⟩
  | .dic kvs, _, _, _, r, e, ru => by
    cases r with
    | dic h r =>
      simp only [D.pyT, Option.map_eq_some_iff] at e
      obtain ⟨ps, ek, rfl⟩ := e
      cases ru
      obtain ⟨_, hsm, us, hkv, o, es, ep, e1, e2, e3, _, e4, _⟩ := dk_of I.hok (ex _ _ h)
      obtain ⟨r1, r2⟩ := kv_reads (h := s.heap) r hkv e4 ek
      refine ⟨_, Reads.dict (as := []) (bs := []) e1 e2.1 e3 r1 r2, fun z => ?_⟩
      rw [List.append_nil, List.mem_singleton] at z
      rw [← z] at hsm
      simp at hsm
  | .ty _, _, _, _, _, e, _ => by simp [D.pyT] at e
  | .adr _, _, _, _, _, e, _ => by simp [D.pyT] at e
  | .cell _, _, _, _, _, e, _ => by simp [D.pyT] at e
  | .scr _, _, _, _, _, e, _ => by simp [D.pyT] at e
  | .lst _, _, _, _, _, e, _ => by simp [D.pyT] at e
  | .obj _ _, _, _, _, _, e, _ => by simp [D.pyT] at e
  | .exc _ _, _, _, _, _, e, _ => by simp [D.pyT] at e
  | .exv _ _ _ _, _, _, _, _, e, _ => by simp [D.pyT] at e
theorem pyTL_reads (I : Inv X pins σ H s) (ex : Ex F H) : ∀ (ds : List D) (vs : List V) (us : List Value) (ps : List PyData), RpL X.K as F ds vs → D.pyTL ds = some ps → Vals vs us → ∃ bs, ReadsAll s.heap us ps bs ∧ sysModules ∉ bs
  | [], _, _, _, r, e, ru => by
    cases r
    cases e
    cases ru
    exact ⟨_, ReadsAll.nil, List.not_mem_nil⟩
  | d :: ds, _, _, _, r, e, ru => by
    cases r with
    | cons h1 h2 =>
      simp only [D.pyTL, Option.bind_eq_some_iff, Option.map_eq_some_iff] at e
      obtain ⟨p, e1, ps, e2, rfl⟩ := e
      cases ru with
      | cons r1 r2 =>
        obtain ⟨as, q1, z1⟩ := pyT_reads I ex d _ _ _ h1 e1 r1
        obtain ⟨bs, q2, z2⟩ := pyTL_reads I ex ds _ _ _ h2 e2 r2
        exact ⟨_, ReadsAll.cons q1 q2, fun z => (List.mem_append.mp z).elim z1 z2⟩
end
end
/-- a tuple at a, with the data p -/
def TupAt (K : PySem.W.Frag) (H : Hp) (v : V) (p : PyData) : Prop := ∃ (as : List Addr) (F : Hp) (ds : List D) (a : Addr), v = .ref a ∧ Ex F H ∧ Rp K as F (.tup ds) v ∧ D.pyT (.tup ds) = some p
def rRepr3 (K : PySem.W.Frag) : List V → Hp → VK → Prop := fun xs H Q => rRepr2 K xs H Q ∨ ∃ v p, xs = [v] ∧ TupAt K H v p ∧ p.showable = true ∧ p.depth ≤ 64 ∧ p.shown.length ≤ sizeLine ∧ Q (.str p.shown) H
theorem call_repr3 {X : Cx} {h : Bool} {k : Nat} (hg : X.A.guards = some []) (hr : Rx h k X) : CallR X (.builtin "repr") (rRepr3 X.K) := fun pins s σ H xs us Q I rv hh => by
  rcases hh with hh | ⟨v, p, rfl, ⟨as, F, ds, a, rfl, ex, rp, ep⟩, hs, hde, hz, q⟩
  · exact call_repr2 hg hr pins s σ H xs us Q I rv hh
  · have hu := hr.units
    obtain ⟨u, rfl, ru⟩ := vals1 rv
    cases ru
    obtain ⟨bs, rd, hsm⟩ := pyT_reads I ex _ _ _ _ rp ep rfl
    refine PySem.repr_of_reads' rd hs (fun _ => hsm) hg (by omega) (fun b o e => e) (fun h' u tk hk => ?_) hz
    exact ⟨.str _, H, I.kept hk, ⟨u, rfl⟩, q⟩
def reprT (ds : List D) : Option D := (D.pyT (.tup ds)).bind fun p => if p.showable = true ∧ p.depth ≤ 64 ∧ p.shown.length ≤ sizeLine then some (.str p.shown) else none
def reprD3 : WS → List D → Option D := fun S xs => match xs with
  | [.tup ds] => (reprD S [.tup ds]).orElse fun _ => reprT ds
  | xs => reprD2 S xs
theorem rc_repr3 {K : PySem.W.Frag} : RC K (rRepr3 K) reprD3 := fun as F H S ds d vs I r h Q q => by
  unfold reprD3 at h
  split at h
  · rename_i es
    cases h1 : reprD S [.tup es] with
    | some z =>
      rw [h1] at h
      have e : z = d := by simpa using h
      subst e
      exact .inl (rc_repr2 as F H S _ z vs I r h1 Q q)
    | none =>
      rw [h1] at h
      have h : reprT es = some d := by simpa using h
      unfold reprT at h
      simp only [Option.bind_eq_some_iff] at h
      obtain ⟨p, e1, h2⟩ := h
      split at h2
      · rename_i hh
        cases h2
        obtain ⟨v, ws, rfl, rv, rn⟩ := r.unsn
        obtain rfl := rn.unnil
        cases rv with
        | tup z1 z2 => exact .inr ⟨_, p, rfl, ⟨as, F, es, _, rfl, I.ex, .tup z1 z2, e1⟩, hh.1, hh.2.1, hh.2.2, keep I q (.str _)⟩
      · cases h2
  · exact .inl (rc_repr2 as F H S _ d vs I r h Q q)
end RV
end
section
/-! dict(zip(a, b)), a and b lists or tuples; the keys are texts -/
namespace RV
open PySem PySem.Spec PyProof.Rows L2
theorem SqAt.at_ {m : Bool} {h g : Heap} {a : Addr} {xs : Array Value} (q : SqAt m h a xs) (e : ∀ o, h.get? a = some o → g.get? a = some o) : SqAt m g a xs := by
  cases m
  · exact Heap.IsList.at q e
  · obtain ⟨o, h1, h2⟩ := q
    exact ⟨o, e o h1, h2⟩
section
variable {prog : Program} {w : World} {A : Around} {E : Value → Shared → Prop} {s : Shared} {m1 m2 : Bool}
end
section
variable {prog : Program} {w : World}
end
/-! ### the rule -/
section
variable {K : PySem.W.Frag}
end
end RV
end
section
/-! Tuples known exactly: tuple(list), what forgets it, dict(t) of pairs -/
namespace RV
open PySem PySem.Spec PyProof.Rows L2
def forgetD : D → D
  | .ptu ds => .tup ds
  | d => d
theorem forgetD_p {ds : List D} : forgetD (.ptu ds) = .tup ds := rfl
theorem FzT.sq {K : PySem.W.Frag} {F : Hp} {a : Addr} {xs : List V} (h : FzT F a xs) : SqT K F a xs := let ⟨o, h1, _⟩ := h; .inl (.inr ⟨o, h1⟩)
theorem Rp.forget {K : PySem.W.Frag} {as : List Addr} {F : Hp} {d : D} {v : V} (h : Rp K as F d v) : Rp K as F (forgetD d) v := by
  cases h with
  | ptu h1 h2 => exact .tup h1.sq h2
  | non => exact .non
  | bl b => exact .bl b
  | int i => exact .int i
  | str s => exact .str s
  | ty n => exact .ty n
  | adr a => exact .adr a
  | cell h => exact .cell h
  | scr h => exact .scr h
  | tup h1 h2 => exact .tup h1 h2
  | lst h1 h2 => exact .lst h1 h2
  | obj h1 h2 => exact .obj h1 h2
  | dic h1 h2 => exact .dic h1 h2
  | exv h1 h2 => exact .exv h1 h2
  | clo h1 h2 h3 => exact .clo h1 h2 h3
/-- a value, of which no more is known that it is a tuple known exactly -/
def eForget (m : RV.Env → M) : RV.Env → M := fun ρ S q x => m ρ S (fun d S1 => q (forgetD d) S1) x
theorem ge_forget {X : Cx} {W : WX} {e : Expr} {m : RV.Env → M} (h : GE X W e m) : GE X W e (eForget m) := by
  obtain ⟨t, p, m⟩ := h
  exact ⟨t, p, fun as F H S ρ σ I R q x h Q hq hx => m as F H S ρ σ I R _ x h Q (fun d S1 bs F1 H1 v h1 g r => hq _ S1 bs F1 H1 v h1 g r.forget) hx⟩
section
variable {X : Cx}
theorem call_tuple_p : CallR X (.type "tuple") (fun xs H Q => ∃ p ys, xs = [.ref p] ∧ SqL X.K H p ys ∧ ∀ l (o : Obj), H l = none → o.dict = none → Q (.ref l) (upd H l (.frz o (.tup ys)))) := by
  intro pins s σ H xs us Q I r h
  obtain ⟨p, ys, rfl, hq, q⟩ := h
  obtain ⟨u, rfl, rx⟩ := vals1 r
  cases rx
  obtain ⟨its, r', pl, hz⟩ := I.list hq
  have hlen := r'.length
  refine call_tuple_list pl.isList (fun h' kp => ?_) (by simp only [List.size_toArray] <;> omega)
  have I1 : Inv X pins σ H { s with heap := h' } := I.kept (t' := s.toks) kp
  have I2 : Inv X pins σ (upd H h'.objs.size (.frz { cls := .type "tuple", data := .seq its.toArray } (.tup ys))) { s with heap := h'.push { cls := .type "tuple", data := .seq its.toArray } } :=
    I1.laid (t' := s.toks) (fun b o e => Heap.get?_push_of_some _ e) (Nat.le_refl _) (show ObjOk X.prog X.w _ _ _ (.frz _ (.tup ys)) from ⟨Heap.get?_push_size _ rfl, hz, its, r', IsTup.new _ _⟩)
  exact ⟨.ref h'.objs.size, _, I2, rfl, q _ _ (I1.hok.fresh (Nat.le_refl _)) rfl⟩
def tuplePD : WS → List D → Option D := fun S xs => match xs with
  | [.tup _] => none
  | [x] => (itemsD S x).map D.ptu
  | _ => none
theorem tupleP_lst {S : WS} {ds : List D} : tuplePD S [.lst ds] = some (.ptu ds) := rfl
theorem rc_tupleP {K : PySem.W.Frag} : RC K (fun xs H Q => ∃ p ys, xs = [.ref p] ∧ SqL K H p ys ∧ ∀ l (o : Obj), H l = none → o.dict = none → Q (.ref l) (upd H l (.frz o (.tup ys)))) tuplePD := fun as F H S ds d vs I r h Q q => by
  unfold tuplePD at h
  split at h
  · cases h
  · rename_i x hx
    obtain ⟨v, ws, rfl, rv, rn⟩ := r.unsn
    obtain rfl := rn.unnil
    simp only [Option.map_eq_some_iff] at h
    obtain ⟨es, h1, rfl⟩ := h
    obtain ⟨a, xs, rfl, sq, re⟩ := items_l I rv h1 fun ys e => hx ys (by rw [e])
    refine ⟨a, xs, rfl, sq, fun l o hl hd => ?_⟩
    have g := I.grow (o := .frz o (.tup xs)) hl
    exact q _ _ _ g (.ptu ⟨o, upd_same, hd⟩ (re.mono g.ex g.pre))
  · cases h
/-! ### dict(t) -/
/-- pairs of a text and a value -/
inductive PrV (K : PySem.W.Frag) (H : Hp) : List V → List Str → List V → Prop where
  | nil : PrV K H [] [] []
  | cons {b : Addr} {k : Str} {y : V} {xs : List V} {ks : List Str} {ys : List V} : SqT K H b [.str k, y] → PrV K H xs ks ys → PrV K H (.ref b :: xs) (k :: ks) (y :: ys)
theorem PrV.mono {K : PySem.W.Frag} {F H : Hp} (e : Ex F H) : ∀ {xs : List V} {ks : List Str} {ys : List V}, PrV K F xs ks ys → PrV K H xs ks ys
  | _, _, _, .nil => .nil
  | _, _, _, .cons h t => .cons (e.sqT h) (PrV.mono e t)
end
end RV
end
section
/-! Own o[i], own truth -/
namespace RV
open PySem PySem.Spec PyProof.Rows L2
section
variable {X : Cx} {W : WX} {nn : Bool} {C : Addr} {k j : Nat} {G : List D → M} {a b : Expr} {pos : Pos} {ea eb : RV.Env → M}
/-! ### o[i] -/
/-! ### truth -/
end
end RV
end
section
/-! A number == an object -/
namespace RV
open PySem L2 PySem.W
section
variable {prog : Program} {w : World} {A : Around} {E : Value → Shared → Prop} {s : Shared} {K : PySem.W.Frag} {x C L f dx : Addr} {od : Obj}
end
section
variable {X : Cx} {W : WX} {nn : Bool} {C : Addr} {k j : Nat} {G : List D → M}
end
end RV
end
section
/-! enumerate(list) -/
namespace RV
open PySem PyProof.Rows L2
end RV
end
section
/-! a slice of a tuple -/
namespace RV
open PySem PyProof.Rows L2 PySem.Spec
def slTD : WS → D → Option Int → Option Int → Option D := fun _ x lo hi => match x with
  | .tup ds => some (.tup (cutD ds lo hi))
  | _ => none
theorem rsl_T {K : PySem.W.Frag} : RSl K (L2.rSlA K) slTD := fun as F H S x d vx lo hi I rx h Q q => by
  unfold slTD at h
  split at h
  · rename_i ds
    cases h
    cases rx with
    | tup h1 r1 =>
      rename_i a xs
      refine ⟨a, xs, rfl, I.ex.sqT h1, fun hw => ?_, fun hw p hp => ?_⟩
      · refine q F H _ (Grow.refl I) ?_
        have e : cutD ds lo hi = ds := by
          unfold cutD
          rw [r1.length, hw.1, hw.2]
          simp only [List.drop_zero, Nat.sub_zero]
          exact List.take_of_length_le (Nat.le_of_eq r1.length)
        rw [e]
        exact .tup h1 r1
      · refine q _ _ _ (I.grow hp) (.tup (.inl (.inl upd_same)) ?_)
        unfold cutD cutV
        rw [r1.length]
        exact ((r1.drop _).take _).mono (Ex.new (I.out hp)) (Pre.refl _)
  · cases h
/-! C.m(a, *t): a classmethod with one parameter and *args -/
section
variable {X : Cx} {W : WX} {o e1 e2 : Expr} {ps pos apos : Pos} {eo m1 m2 : RV.Env → M} {C : Addr} {m : Str} {k j : Nat} {G : List D → M}
end
/-! sorted(xs), xs a list of texts, some of which may be alike -/
end RV
end
section
/-! s.rpartition(t) -/
namespace RV
open PySem PyProof.Rows L2
section
variable {X : Cx} {W : WX} {o e : Expr} {pos apos : Pos} {to te : TE} {eo ee : RV.Env → M}
theorem mt_rpartition : MtR X "str.rpartition" (fun x xs H Q => ∃ a b, x = .str a ∧ xs = [.str b] ∧ (b.length == 0) = false ∧ a.length ≤ sizeLine ∧
    ∀ p, H p = none → Q (.ref p) (upd H p (.tup [.str (Txt.rpartition a b).1, .str (Txt.rpartition a b).2.1, .str (Txt.rpartition a b).2.2]))) := by
  intro pins s σ H x xs v us Q I rx rs h
  obtain ⟨a, b, rfl, rfl, hb, hz, h⟩ := h
  obtain ⟨t, rfl⟩ := rx
  cases rs with
  | cons r1 rs =>
    cases rs
    obtain ⟨u, rfl⟩ := r1
    refine call_meets F.slot_str_rpartition (typeIs_str _ _ _) F.entry_str_rpartition (F.args_str_rpartition_2 _ _) (meets_str_rpartition a b t u hb hz) ?_
    unfold Txt.rpartition at h
    revert h
    cases Builtin.Str.lastOccurrence a b 0 a.length with
    | none => intro h; exact laid_parts I h
    | some i => intro h; exact laid_parts I h
theorem pe_rpartition (ho : PE X o to) (he : PE X e te) (hs : starEach [e] X.env = [(false, eval e X.env)] := by rfl) (hbase : attributeBase o "rpartition" X.env (eval o X.env) = eval o X.env := by rfl) (hline : (apos.endLine == pos.line) = true := by rfl) :
    PE X (.Call (.Attribute o "rpartition" apos) [e] [] pos) (tM1 (fun x xs H Q => ∃ a b, x = .str a ∧ xs = [.str b] ∧ (b.length == 0) = false ∧ a.length ≤ sizeLine ∧
      ∀ p, H p = none → Q (.ref p) (upd H p (.tup [.str (Txt.rpartition a b).1, .str (Txt.rpartition a b).2.1, .str (Txt.rpartition a b).2.2]))) to te) :=
  pe_m1 F.slot_str_rpartition F.type_str_rpartition mt_rpartition ho he hs hbase hline
def rpartitionD : WS → D → D → Option D := onStr fun _ z y => match y with
  | .str s => if s.length ≠ 0 ∧ small z.length = true then some (.tup [.str (Txt.rpartition z s).1, .str (Txt.rpartition z s).2.1, .str (Txt.rpartition z s).2.2]) else none
  | _ => none
theorem ge_rpartition (ho : GE X W o eo) (he : GE X W e ee) (hs : starEach [e] X.env = [(false, eval e X.env)] := by rfl) (hbase : attributeBase o "rpartition" X.env (eval o X.env) = eval o X.env := by rfl) (hline : (apos.endLine == pos.line) = true := by rfl) :
    GE X W (.Call (.Attribute o "rpartition" apos) [e] [] pos) (eOpT rpartitionD eo ee) := by
  obtain ⟨to, po, mo⟩ := ho
  obtain ⟨te, pe, me⟩ := he
  refine ⟨_, pe_rpartition po pe hs hbase hline, me_m1 (fun as F H S x y d vy I r h Q q => ?_) mo me⟩
  simp only [onStr] at h
  split at h
  · rename_i s
    split at h
    · rename_i hc
      cases h
      cases r
      refine ⟨x, s, rfl, rfl, by simpa using hc.1, small_le hc.2, fun p hp => ?_⟩
      have g := I.grow (o := .tup [.str (Txt.rpartition x s).1, .str (Txt.rpartition x s).2.1, .str (Txt.rpartition x s).2.2]) hp
      exact q _ _ _ g (.tup (SqT.of upd_same) (.cons (.str _) (.cons (.str _) (.cons (.str _) .nil))))
    · cases h
  · cases h
end
end RV
end
section
/-! zip(.., .., strict=True) of two sequences of one length -/
namespace RV
open PySem PySem.Spec PyProof.Rows L2
section
variable {prog : Program} {w : World} {A : Around} {E : Value → Shared → Prop} {s : Shared} {m m1 m2 : Bool}
end
section
variable {prog : Program} {w : World} {A : Around} {E : Value → Shared → Prop} {s : Shared} {m1 m2 : Bool}
end
end RV
end
section
/-! A def within a def: made, handed to a def of the module, called there. -/
namespace RV
open PySem PySem.Spec PyProof.Rows L2
variable {nn : Bool}
/-- a function made in a def: its words, where it lies, what its cells hold -/
structure Clo where
  F : NdefX.NF
  f : Addr
  vs : List V
/-- the base holds its cells -/
structure CloB (base : Heap) (fr : List Str) (κ : Clo) : Prop where
  len : κ.vs.length = fr.length
  all : ∀ y c, κ.F.cl.lookup y = some c → ∃ v, base.IsCell c v
  inj : ∀ x y c, κ.F.cl.lookup x = some c → κ.F.cl.lookup y = some c → x = y
  has : ∀ (i : Nat) (y : Str) (v : V), fr[i]? = some y → κ.vs[i]? = some v → ∃ c, κ.F.cl.lookup y = some c ∧ ∃ u, RelV v u ∧ base.IsCell c (some u)
theorem CloB.at_ {X : Cx} {pins : List (Addr × Obj)} {σ : L2.St} {H : Hp} {s : Shared} {fr : List Str} {κ : Clo} (h : CloB X.base fr κ) (I : Inv X pins σ H s) : NdefX.CellsAt κ.F.cl fr (κ.vs.map some) s.heap H := by
  refine ⟨by rw [List.length_map]; exact h.len, fun y c e => ?_, h.inj, fun i y e => ?_⟩
  · obtain ⟨v, o, ho, hd⟩ := h.all y c e
    obtain ⟨h1, h2⟩ := I.bs c o ho
    exact ⟨h2, v, o, h1, hd⟩
  · have hl : i < κ.vs.length := by
      rw [h.len]
      exact (List.getElem?_eq_some_iff.mp e).1
    obtain ⟨c, e1, u, r, o, ho, hd⟩ := h.has i y κ.vs[i] e (List.getElem?_eq_getElem hl)
    refine ⟨c, e1, fun v ev => ⟨u, ?_, o, (I.bs c o ho).1, hd⟩⟩
    rw [List.getElem?_map, List.getElem?_eq_getElem hl] at ev
    cases ev
    exact r
/-! ### its promise -/
section
variable {P : Program} {w : World} {K : PySem.W.Frag} {mg : Str → Option Value} {base : Heap}
end
/-! ### its call by a name that holds it -/
section
variable {X : Cx} {W : WX}
end
/-! ### it is made -/
section
variable {X : Cx} {W : WX} {pins : List (Addr × Obj)} {σ : L2.St} {H : Hp} {s : Shared}
end
section
variable {X : Cx} {W : WX}
end
/-! ### it is handed to a def of the module -/
section
variable {X : Cx} {W : WX}
end
end RV
end
section
/-! list(zip(a, b)), a and b lists or tuples -/
namespace RV
open PySem PySem.Spec PyProof.Rows L2
section
variable {prog : Program} {w : World} {A : Around} {E : Value → Shared → Prop} {s : Shared} {m1 m2 : Bool}
/-- the pairs made so far -/
structure ZG (xs ys : Array Value) (lo : Addr) (h : Heap) (as : List Addr) : Prop where
  rise : as.Pairwise (· < ·)
  above : ∀ a ∈ as, lo < a
  pairs : ∀ (j : Nat) (a : Addr), as[j]? = some a → ∃ x y, xs[j]? = some x ∧ ys[j]? = some y ∧ IsPair h a x y
theorem ZG.there {xs ys : Array Value} {lo : Addr} {h : Heap} {as : List Addr} (g : ZG xs ys lo h as) {a : Addr} (ha : a ∈ as) : a < h.objs.size := by
  obtain ⟨j, hj⟩ := List.mem_iff_getElem?.mp ha
  obtain ⟨_, _, _, _, e⟩ := g.pairs j a hj
  exact Heap.lt_size e
end
section
variable {prog : Program} {w : World} {A : Around} {s : Shared} {R : Result → Shared → Prop} {m1 m2 : Bool} {z TI TO i1 i2 l1 l2 S : Addr} {xs ys : Array Value}
end
section
variable {prog : Program} {w : World} {A : Around} {E : Value → Shared → Prop} {s : Shared} {m1 m2 : Bool} {z TI TO i1 i2 l1 l2 : Addr} {xs ys : Array Value}
end
/-! ### the tuples as tracked things -/
section
variable {X : Cx}
end
/-! ### dict(a list of pairs) -/
/-! ### repr of a list that still changes -/
end RV
end
section
/-! {k: v} that changes later; d.get(k); range(i, j); sorted(list of pairs of a text and a number). -/
namespace RV
open PySem PySem.Spec PyProof.Rows L2
section
variable {X : Cx} {W : WX} {pos : Pos}
/-- range(i, j) -/
def iRange2 (er : RV.Env → ML) : RV.Env → MW := fun ρ S q x => er ρ S (fun ds S1 => on2 ds fun a b => onI a fun i => onI b fun j => (0 ≤ i ∧ i < 1000000 ∧ 0 ≤ j ∧ j < 1000000) ∧ q ((List.range (j - i).toNat).map fun (n : Nat) => D.int (i + (n : Int))) any_ S1) x
theorem gi_range2 {a b tg : Expr} {er : RV.Env → ML} {p : Pos} (hm : X.mg "range" = none) (ha : GA X W [a, b] er) (hg : Gl X "range" := by rfl)
    (hs : starEach [a, b] X.env = [(false, eval a X.env), (false, eval b X.env)] := by rfl) (hs2 : starEach [b] X.env = [(false, eval b X.env)] := by rfl) : GI X W tg (.Call (.Name "range" p) [a, b] [] pos) (iRange2 er) := by
  obtain ⟨t, p, m⟩ := ha
  refine ⟨_, pi_range2 hg hm p hs hs2, fun as F H S ρ σ I R q x e Q hq hx => ?_⟩
  refine m as F H S ρ σ I R _ x e _ (fun ds S1 bs F1 H1 vs h1 g r => ?_) hx
  obtain ⟨d1, d2, rfl, h1⟩ := on2_ok h1
  obtain ⟨i, rfl, h1⟩ := onI_ok h1
  obtain ⟨j, rfl, h1⟩ := onI_ok h1
  obtain ⟨v1, ws, rfl, rv1, rn⟩ := r.unsn
  obtain ⟨v2, ws, rfl, rv2, rn⟩ := rn.unsn
  obtain rfl := rn.unnil
  cases rv1
  cases rv2
  obtain ⟨⟨b1, b2, b3, b4⟩, h2⟩ := h1
  exact ⟨i, j, rfl, ⟨by omega, by omega, by omega, by omega⟩, hq _ _ S1 bs F1 H1 _ h2 g walks_range⟩
end
/-! ### sorted(list of pairs) -/
def shQ : Nat → Bool := fun i => i == 0
def PrQ (K : PySem.W.Frag) (H : Hp) (x : V) (s : Str) (i : Int) : Prop := ∃ t : Addr, x = .ref t ∧ SqT K H t [.str s, .int i]
open PyProof.Rows.G in
theorem prq_key {X : Cx} {pins : List (Addr × Obj)} {σ : L2.St} {H : Hp} {s : Shared} (I : Inv X pins σ H s) {t : Addr} {z : Str} {i : Int} (h : SqT X.K H t [.str z, .int i]) :
    tupKeyC s.heap shQ (.ref t) = some [Sum.inr z.cps.toList, Sum.inl i] ∧ ∃ f, TupOf s.heap shQ (.ref t) f := by
  obtain ⟨its, rv, ⟨o, ho, hc, n, hd⟩, _⟩ := I.tuple h
  obtain ⟨t1, t2, rfl⟩ : ∃ t1 t2, its = [Value.str z t1, Value.int i t2] := by
    cases rv with
    | cons r1 r2 =>
      cases r2 with
      | cons r2 r3 =>
        cases r3
        obtain ⟨t1, rfl⟩ := r1
        obtain ⟨t2, rfl⟩ := r2
        exact ⟨t1, t2, rfl⟩
  have e1 : isTupObj s.heap (.ref t) = true := by simp [isTupObj, ho, hc]
  refine ⟨?_, Value.str z t1, t, o, _, n, rfl, ho, hc, hd, rfl, (fun h => by cases h), fun _ => ⟨z, t1, rfl⟩⟩
  unfold tupKeyC
  rw [if_pos e1]
  simp only [tupKey, ho, hd]
  rfl
open PyProof.Rows.G in
theorem sorted_pw {h : Heap} {vs : List Value} {a : Array Keyed} (hp : a.Perm (pairsOf vs)) (hs : SortedToK (tupKindC h shQ) a (pairsOf vs).size) (hk : ∀ v ∈ vs, ∃ l, tupKeyC h shQ v = some l) :
    (a.map (·.2)).toList.Perm vs ∧ (a.map (·.2)).toList.Pairwise fun u v => ∀ k l, tupKeyC h shQ u = some k → tupKeyC h shQ v = some l → lexLt itemOrd l k = false := by
  have hpl : a.toList.Perm (vs.zip vs) := by
    have := hp.toList
    rwa [pairsOf_toList] at this
  have same : ∀ p ∈ a.toList, p.1 = p.2 ∧ p.1 ∈ vs := fun p hm => by
    have h1 : p ∈ vs.zip vs := hpl.mem_iff.mp hm
    obtain ⟨e, hm⟩ := mem_zip_self h1
    exact ⟨e, hm⟩
  have hz : (vs.zip vs).map (·.2) = vs := List.map_snd_zip (Nat.le_refl _)
  have hsz : a.size = (pairsOf vs).size := hp.size_eq
  refine ⟨?_, ?_⟩
  · rw [Array.toList_map]
    have := hpl.map (·.2)
    rwa [hz] at this
  · rw [Array.toList_map, List.pairwise_map, List.pairwise_iff_getElem]
    intro i j hi hj hij k l hk1 hl1
    have hi' : i < a.size := by simpa using hi
    have hj' : j < a.size := by simpa using hj
    have s1 := hs i j (Nat.le_of_lt hij) (by omega)
    have kk : ∀ (m : Nat) (hm : m < a.size) (z : List (Int ⊕ List Nat)), tupKeyC h shQ (a.toList[m]'(by simpa using hm)).2 = some z → KK (tupKindC h shQ) a m = z := fun m hm z hz => by
      unfold KK
      rw [Array.getElem?_eq_getElem hm]
      have e := (same (a.toList[m]'(by simpa using hm)) (List.getElem_mem _)).1
      rw [← e] at hz
      have hz' : tupKeyC h shQ a[m].1 = some z := by simpa using hz
      show (tupKeyC h shQ a[m].1).getD [] = z
      rw [hz']
      rfl
    rw [kk i hi' k hk1, kk j hj' l hl1] at s1
    exact s1
/-- sorted(xs), xs a list of pairs of a text and a number: the same pairs, ascending -/
def rSortedQ (K : PySem.W.Frag) : List V → Hp → VK → Prop := fun vs H Q => ∃ (a : Addr) (xs : List V), vs = [V.ref a] ∧ SqL K H a xs ∧ (∀ x ∈ xs, ∃ s i, PrQ K H x s i) ∧
  ∀ (ys : List V) (p : Addr), ys.Perm xs → ys.Pairwise (fun x y => ∀ s i t j, PrQ K H x s i → PrQ K H y t j → ¬ ltS t s) → H p = none → Q (.ref p) (upd H p (.lst ys))
section
variable {X : Cx}
open PyProof.Rows.G in
theorem cr_sortedQ : CallR X (.builtin "sorted") (rSortedQ X.K) := by
  intro pins s σ H vs us Q I r h
  obtain ⟨a, xs, rfl, hs, hx, q⟩ := h
  obtain ⟨its, rv, hl, hz⟩ := I.list hs
  rw [Vals.ref1 r]
  obtain ⟨e1, e2⟩ := bkV_refs rv fun x m => by
    obtain ⟨_, _, t, e, _⟩ := hx x m
    exact ⟨t, e⟩
  have hk : ∀ v ∈ its, (∃ l, tupKeyC s.heap shQ v = some l) ∧ ∃ f, TupOf s.heap shQ v f := fun v hv => by
    obtain ⟨t, rfl⟩ := e2 v hv
    have hm : V.ref t ∈ xs := by
      rw [e1]
      exact List.mem_map.mpr ⟨_, hv, rfl⟩
    obtain ⟨z, i, t', e, ht⟩ := hx _ hm
    cases e
    obtain ⟨k1, k2⟩ := prq_key I ht
    exact ⟨⟨_, k1⟩, k2⟩
  obtain ⟨fs, hfs⟩ : ∃ fs, TupsOf s.heap shQ its fs := by
    clear rv hl hz e1 e2
    induction its with
    | nil => exact ⟨[], .nil⟩
    | cons v vs ih =>
      obtain ⟨fs, h1⟩ := ih fun u hu => hk u (List.mem_cons_of_mem _ hu)
      obtain ⟨_, f, h2⟩ := hk v (List.mem_cons_self ..)
      exact ⟨f :: fs, .cons h2 h1⟩
  refine G.sorted_tups hl.isList hfs (fun v hv => (hk v hv).1) (by rw [← rv.length]; exact hz) fun st' a1 a2 _ => ?_
  obtain ⟨h1, h2⟩ := sorted_pw a1 a2 fun v hv => (hk v hv).1
  generalize hout : (arrOf st').map (·.2) = out at h1 h2 ⊢
  obtain ⟨ep, he'⟩ := PyProof.Rows.sortedAll_at s.heap its out
  have h3 : ∀ u ∈ out.toList, ∃ a, u = Value.ref a := fun u hu => e2 u (h1.mem_iff.mp hu)
  have hp : (out.toList.map bkV).Perm xs := by
    rw [e1]
    exact h1.map bkV
  have hlen : (out.toList.map bkV).length ≤ sizeLine := by
    rw [hp.length_eq]
    exact hz
  refine ⟨.ref _, upd H (s.heap.objs.size + 1) (.lst (out.toList.map bkV)), I.laid (t' := s.toks) (fun _ _ => PyProof.Rows.sortedAll_old) (Nat.le_succ _) ⟨hlen, out.toList, ep, bkV_vals h3, he'⟩, rfl, q _ _ hp ?_ (I.hok.fresh (Nat.le_succ _))⟩
  rw [List.pairwise_map]
  refine List.Pairwise.imp (fun {u v} huv z i y j hz hy => ?_) h2
  obtain ⟨t, et, ht⟩ := hz
  obtain ⟨t', et', ht'⟩ := hy
  have eu := bkV_ref et
  have ev := bkV_ref et'
  subst eu ev
  have := huv _ _ (prq_key I ht).1 (prq_key I ht').1
  have b := (lex_false.mp this).1
  exact of_decide_eq_false b
end
def prsI : List D → Option (List (Str × Int))
  | [] => some []
  | .tup [.str s, .int i] :: ds => (prsI ds).map ((s, i) :: ·)
  | _ => none
def prQD (p : Str × Int) : D := .tup [.str p.1, .int p.2]
theorem prsI_ok : ∀ {ds : List D} {ps : List (Str × Int)}, prsI ds = some ps → ds = ps.map prQD
  | [], ps, h => by cases h; rfl
  | d :: ds, ps, h => by
    unfold prsI at h
    split at h
    · rename_i e; cases e
    · rename_i e
      cases e
      obtain ⟨l, h1, rfl⟩ := Option.map_eq_some_iff.mp h
      rw [List.map_cons, prsI_ok h1]
      rfl
    · cases h
theorem prsI_map : ∀ ps : List (Str × Int), prsI (ps.map prQD) = some ps
  | [] => rfl
  | p :: ps => by
    rw [List.map_cons]
    show (prsI (ps.map prQD)).map _ = _
    rw [prsI_map ps]
    rfl
def valQ (ps : List (Str × Int)) (s : Str) : Int := ((ps.find? fun p => decide (p.1 = s)).map (·.2)).getD 0
def sortQ (ps : List (Str × Int)) : List (Str × Int) := (ascS (ps.map (·.1))).map fun s => (s, valQ ps s)
theorem valQ_mem {ps : List (Str × Int)} (nd : (ps.map (·.1)).Nodup) {p : Str × Int} (h : p ∈ ps) : valQ ps p.1 = p.2 := by
  induction ps with
  | nil => cases h
  | cons a ps ih =>
    rw [List.map_cons, List.nodup_cons] at nd
    unfold valQ
    rcases List.mem_cons.mp h with rfl | h
    · rw [List.find?_cons_of_pos (by simp)]
      rfl
    · have hne : a.1 ≠ p.1 := fun e => nd.1 (by rw [e]; exact List.mem_map.mpr ⟨p, h, rfl⟩)
      rw [List.find?_cons_of_neg (by simpa using hne)]
      exact ih nd.2 h
theorem sortQ_one {ps qs : List (Str × Int)} (nd : (ps.map (·.1)).Nodup) (pm : qs.Perm ps) (h : qs.Pairwise fun a b => ¬ ltS b.1 a.1) : qs = sortQ ps := by
  have ndq : (qs.map (·.1)).Nodup := ((pm.map (·.1)).nodup_iff).mpr nd
  have asc : Asc (qs.map (·.1)) := by
    have h1 : (qs.map (·.1)).Pairwise fun a b => ¬ ltS b a := List.pairwise_map.mpr h
    have h2 : (qs.map (·.1)).Pairwise (· ≠ ·) := ndq
    exact (h1.and h2).imp fun {a b} hh => ltS_tri hh.1 fun e => hh.2 e.symm
  have e : qs.map (·.1) = ascS (ps.map (·.1)) := asc_one asc (asc_ascS _) fun k => by rw [mem_ascS]; exact (pm.map (·.1)).mem_iff
  unfold sortQ
  rw [← e, List.map_map]
  conv => lhs; rw [← List.map_id qs]
  refine List.map_congr_left fun p hp => ?_
  show p = (p.1, valQ ps p.1)
  rw [valQ_mem nd (pm.mem_iff.mp hp)]
theorem rplQ_perm {K : PySem.W.Frag} {as : List Addr} {F : Hp} {ys xs : List V} (pm : ys.Perm xs) : ∀ {ps : List (Str × Int)}, RpL K as F (ps.map prQD) xs → ∃ qs : List (Str × Int), qs.Perm ps ∧ RpL K as F (qs.map prQD) ys := by
  induction pm with
  | nil =>
    intro ps r
    exact ⟨ps, .refl _, r⟩
  | cons x p ih =>
    intro ps r
    cases ps with
    | nil => cases r
    | cons a ps =>
      cases r with
      | cons r1 r2 =>
        obtain ⟨qs, h1, h2⟩ := ih r2
        exact ⟨a :: qs, h1.cons a, .cons r1 h2⟩
  | swap x y l =>
    intro ps r
    match ps, r with
    | a :: b :: ps, .cons r1 (.cons r2 r3) => exact ⟨b :: a :: ps, .swap _ _ _, .cons r2 (.cons r1 r3)⟩
  | trans _ _ ih1 ih2 =>
    intro ps r
    obtain ⟨qs, h1, h2⟩ := ih2 r
    obtain ⟨ws, h3, h4⟩ := ih1 h2
    exact ⟨ws, h3.trans h1, h4⟩
theorem rpl_prq {K : PySem.W.Frag} {as : List Addr} {F H : Hp} (e : Ex F H) : ∀ {ps : List (Str × Int)} {xs : List V}, RpL K as F (ps.map prQD) xs → (∀ x ∈ xs, ∃ s i, PrQ K H x s i) ∧ ∀ R : V → V → Prop, xs.Pairwise R → (∀ x y s i t j, R x y → PrQ K H x s i → PrQ K H y t j → ¬ ltS t s) → ps.Pairwise fun a b => ¬ ltS b.1 a.1
  | [], _, r => by
    cases r
    exact ⟨fun x h => (by cases h), fun R h _ => List.Pairwise.nil⟩
  | a :: ps, xs, r => by
    match xs, r with
    | x :: xs, .cons r1 r2 =>
      obtain ⟨h1, h2⟩ := rpl_prq e r2
      have hd : ∀ {p : Str × Int} {x : V}, Rp K as F (prQD p) x → PrQ K H x p.1 p.2 := fun {p x} r => by
        cases r with
        | tup z1 z2 =>
          cases z2 with
          | cons z2 z3 =>
            cases z3 with
            | cons z3 z4 =>
              cases z4
              cases z2
              cases z3
              exact ⟨_, rfl, e.sqT z1⟩
      refine ⟨fun y hy => ?_, fun R hp hR => ?_⟩
      · rcases List.mem_cons.mp hy with rfl | hy
        · exact ⟨_, _, hd r1⟩
        · exact h1 y hy
      · obtain ⟨p1, p2⟩ := List.pairwise_cons.mp hp
        refine List.pairwise_cons.mpr ⟨fun b hb => ?_, h2 R p2 hR⟩
        have : ∃ y ∈ xs, Rp K as F (prQD b) y := by
          clear h1 h2 hp p1 p2 r
          induction ps generalizing xs with
          | nil => cases hb
          | cons c ps ih =>
            cases r2 with
            | cons r3 r4 =>
              rcases List.mem_cons.mp hb with rfl | hb
              · exact ⟨_, List.mem_cons_self .., r3⟩
              · obtain ⟨y, h1, h2⟩ := ih _ r4 hb
                exact ⟨y, List.mem_cons_of_mem _ h1, h2⟩
        obtain ⟨y, hy, ry⟩ := this
        exact hR x y _ _ _ _ (p1 y hy) (hd r1) (hd ry)
def sortQD : WS → List D → Option D := fun S xs => match xs with
  | [x] => (lstOf S x).bind fun ds => (prsI ds).bind fun ps => if (ps.map (·.1)).Nodup then some (.lst ((sortQ ps).map prQD)) else none
  | _ => none
theorem rc_sortQ {K : PySem.W.Frag} : RC K (rSortedQ K) sortQD := fun as F H S ds d vs I r h Q q => by
  match ds, h with
  | [], h => cases h
  | _ :: _ :: _, h => cases h
  | [x], h =>
    simp only [sortQD, Option.bind_eq_some_iff] at h
    obtain ⟨es, e1, ps, e2, e3⟩ := h
    split at e3
    · rename_i nd
      cases e3
      obtain ⟨v, ws, rfl, rv, rn⟩ := r.unsn
      obtain rfl := rn.unnil
      obtain ⟨a, xs, rfl, sq, rl⟩ := items_l0 I rv e1
      obtain rfl := prsI_ok e2
      refine ⟨a, xs, rfl, sq, (rpl_prq I.ex rl).1, fun ys p pm so hp => ?_⟩
      obtain ⟨qs, h1, h2⟩ := rplQ_perm pm rl
      have hs := (rpl_prq I.ex h2).2 _ so fun x y s i t j hR hx hy => hR s i t j hx hy
      obtain rfl := sortQ_one nd h1 hs
      have g := I.grow (o := .lst ys) hp
      exact q _ _ _ g (.lst upd_same (h2.mono g.ex g.pre))
    · cases e3
/-! ### a list that changes, made and done with within a few statements -/
end RV
end
section
/-! str * int, tuple * int, bool of an own object. -/
namespace RV
open PySem PySem.Spec PyProof.Rows L2
variable {nn : Bool}
section
variable {X : Cx} {W : WX} {K : PySem.W.Frag}
/-! ### str * int -/
def rMulS : R2 := fun x y H Q => ∃ (a : Str) (n : Int), x = .str a ∧ y = .int n ∧ MulOk a n ∧ Q (.str (Txt.mul a n)) H
theorem op_mulS : OpR X (binaryOp .Mult) rMulS := by
  intro pins s σ H x y v u Q I rx ry h
  obtain ⟨a, n, rfl, rfl, hok, q⟩ := h
  obtain ⟨t, rfl⟩ := rx
  obtain ⟨t2, rfl⟩ := ry
  exact PySem.SB.mul hok fun t' k => ⟨.str _, H, I.tok k, ⟨_, rfl⟩, q⟩
def repS (a : Str) (n : Nat) : Str := ⟨(List.replicate n a.cps).foldl (· ++ ·) #[]⟩
def mulSD : WS → D → D → Option D := fun _ x y => match x, y with
  | .str a, .int k => if 2 ≤ k ∧ k < 1000 ∧ 0 < a.length ∧ a.length < 1000 then some (.str (repS a k.toNat)) else none
  | _, _ => none
theorem mulOk_small {a : Str} {k : Int} (h : 2 ≤ k ∧ k < 1000 ∧ 0 < a.length ∧ a.length < 1000) : MulOk a k := by
  obtain ⟨h1, h2, h3, h4⟩ := h
  refine ⟨?_, fun _ _ => ?_, fun _ _ => ?_⟩
  · simp only [Bool.or_eq_false_iff, decide_eq_false_iff_not]
    omega
  · have : (1000 : Int) ≤ (2 ^ 63 - 1) / k := (Int.le_ediv_iff_mul_le (by omega)).mpr (by omega)
    omega
  · have h5 : a.length * k.toNat ≤ 1000 * 1000 := Nat.mul_le_mul (by omega) (by omega)
    have e : sizeLine = 16777216 := by decide
    show decide (a.length * k.toNat > sizeLine) = false
    exact decide_eq_false (by omega)
theorem ro_mulS : RO K rMulS mulSD := fun as F H S x y d vx vy I rx ry h Q q => by
  unfold mulSD at h
  split at h
  · rename_i a k
    split at h
    · rename_i hh
      cases h
      cases rx
      cases ry
      refine ⟨a, k, rfl, rfl, mulOk_small hh, ?_⟩
      have e : Txt.mul a k = repS a k.toNat := by
        unfold Txt.mul repS
        rw [if_neg (by omega)]
        have : (k == 1 || a.length == 0) = false := by
          rw [Bool.or_eq_false_iff]
          exact ⟨by simp; omega, by simp; omega⟩
        rw [this]
        rfl
      rw [e]
      exact q _ _ _ (Grow.refl I) (.str _)
    · cases h
  · cases h
/-! ### tuple * int -/
def repTD : WS → D → D → Option D := fun _ x y => match x, y with
  | .tup ds, .int k => if 2 ≤ k ∧ k < 1000 ∧ 0 < ds.length ∧ ds.length < 1000 then some (.tup (List.replicate k.toNat ds).flatten) else none
  | _, _ => none
theorem ro_repT : RO K (rRepT K) repTD := fun as F H S x y d vx vy I rx ry h Q q => by
  unfold repTD at h
  split at h
  · rename_i ds k
    split at h
    · rename_i hh
      cases h
      cases rx with
      | @tup a0 xs0 _ z1 z2 =>
        cases ry
        have hl := z2.length
        refine ⟨_, k, xs0, rfl, rfl, I.ex.sqT z1, fun e => ?_, hh.1, by omega, by omega, fun p hp => ?_⟩
        · have h0 := congrArg List.length e
          simp only [List.length_nil] at h0
          omega
        have g := I.grow (o := .tup (List.replicate k.toNat xs0).flatten) hp
        exact q _ _ _ g (.tup (SqT.of upd_same) ((z2.mono g.ex g.pre).rep _))
    · cases h
  · cases h
end
section
variable {X : Cx} {W : WX} {K : PySem.W.Frag}
/-! ### tuple + tuple -/
def catTD : WS → D → D → Option D := fun _ x y => match x, y with
  | .tup a, .tup b => if small (a.length + b.length) = true then some (.tup (a ++ b)) else none
  | _, _ => none
theorem ro_catT : RO K (rCatA K) catTD := fun as F H S x y d vx vy I rx ry h Q q => by
  unfold catTD at h
  split at h
  · rename_i a b
    split at h
    · rename_i hh
      cases h
      cases rx with
      | @tup a0 xs0 _ z1 z2 =>
        cases ry with
        | @tup b0 ys0 _ w1 w2 =>
          have hl := z2.length
          have hl2 := w2.length
          refine ⟨_, _, xs0, ys0, rfl, rfl, I.ex.sqT z1, I.ex.sqT w1, by rw [← hl, ← hl2]; exact small_le hh, fun e => ?_, fun e1 e2 => ?_, fun e1 e2 p hp => ?_⟩
          · have h0 : a = [] := by
              have := congrArg List.length e
              rw [List.length_nil] at this
              exact List.eq_nil_of_length_eq_zero (by omega)
            rw [h0, List.nil_append] at q
            exact q _ _ _ (Grow.refl I) (.tup w1 w2)
          · have h0 : b = [] := by
              have := congrArg List.length e2
              rw [List.length_nil] at this
              exact List.eq_nil_of_length_eq_zero (by omega)
            rw [h0, List.append_nil] at q
            exact q _ _ _ (Grow.refl I) (.tup z1 z2)
          · have g := I.grow (o := .tup (xs0 ++ ys0)) hp
            exact q _ _ _ g (.tup (SqT.of upd_same) ((z2.mono g.ex g.pre).append (w2.mono g.ex g.pre)))
    · cases h
  · cases h
end
/-! ### bool of an own object -/
section
variable {prog : Program} {w : World} {A : Around} {E : Value → Shared → Prop} {s : Shared}
theorem meets_bool_val (v : Value) : MeetsIn prog w (Builtin.«bool.__new__» ⟨[.type "bool", v], []⟩) (fun A R s => wpAny (model prog w) A.in1 (truthy v) (fun b s' => R (.ok (.ret (.bool b))) s') (fun e s' => R (.error e) s') s) :=
  MeetsIn.of_wp fun A R s hs => by
    obtain ⟨hp, g, d, tk, os⟩ := s
    have f1 := F.conv_sub_bool
    repeat (any_goals (first | assumption | (with_reducible refine wpAny_mono hs (fun b s' h' => ?_) fun _ _ x => x) | wp_step))
    all_goals first | exact ⟨_, rfl, by assumption⟩ | exact hs | skip
theorem call_bool_val {v : Value} {Q : Value → Shared → Prop} (h : wpAny (model prog w) A.in1.in1 (truthy v) (fun b s' => Q (.bool b) s') E s) : wpAny (model prog w) A (call (.type "bool") [v]) Q E s :=
  callType_newIn F.called_bool F.newNe_bool (F.typeCall_bool_1 v) (F.newCall_bool_1 v) (fun obj => F.args_object_init_2 obj v) F.entry_bool_new (meets_bool_val v) (wpAny_mono h (fun b s' h => ⟨rfl, h⟩) fun _ _ x => x)
end
section
variable {X : Cx} {W : WX} {K : PySem.W.Frag}
def rBoolOwn (C : Addr) (sp : Sp) : List V → Hp → VK → Prop := fun xs H Q => ∃ a dx fs, xs = [.ref a] ∧ H a = some (.ins C dx fs) ∧ sp xs H (fun v H' => ∃ c : Bool, v = .bl c ∧ Q (.bl c) H') E0
theorem call_boolF {C : Addr} {G : List D → M} {k j : Nat} (c : Sc X.prog X.w X.K X.mg X.base nn C "__bool__" k 1 G) (hr : Room j X.A) (hj : k + 2 ≤ j := by decide) : CallR X (.type "bool") (rBoolOwn C (spG X.K 1 G)) := by
  obtain ⟨f, fd, ps, Fn, hbd, hfi, hf⟩ := c
  intro pins s σ H xs us Q I rv q
  obtain ⟨a, dx, fs, rfl, ha, q⟩ := q
  obtain ⟨u, rfl, ru⟩ := rv.one
  cases ru
  obtain ⟨mA, J, _⟩ := ins_get I.hok ha
  obtain ⟨od, J, _⟩ := J.look
  obtain ⟨m, hF⟩ := I.fr
  have hr2 := (hr.mono hj).in1.in1
  refine call_bool_val ?_
  refine PySem.W.truthy_K hF I.ok.mod.kin J hfi hf (thn (run_own Fn hr2 rfl hbd I (vs := [.ref a]) (.cons rfl .nil) q) fun w s' hw => ?_)
  obtain ⟨z, H', I', rz, c, rfl, qc⟩ := hw
  cases rz
  exact ⟨.bl c, H', I', rfl, qc⟩
def boolOwnD (C : Addr) (G : List D → M) : List D → M := fun ds S q _ => on1 ds fun d => isOb C S d ∧ G [d] S (fun r S' => onB r fun t => q (.bl t) S') noX
theorem rcm_bool {C : Addr} {G : List D → M} : RCM K (rBoolOwn C (spG K 1 G)) (boolOwnD C G) := fun as F H S ds vs I r q x h Q hq => by
  obtain ⟨d0, rfl, h⟩ := on1_ok h
  · obtain ⟨v, ws, rfl, rv, rn⟩ := r.unsn
    obtain rfl := rn.unnil
    obtain ⟨a, dx, vfs, rfl, ha⟩ := isOb_at I rv h.1
    refine ⟨a, dx, vfs, rfl, ha, as, F, S, _, _, noX, I, .cons rv .nil, rfl, h.2, fun d S' bs F' H' v h3 g r2 => ?_, XQ.no⟩
    cases r2 with
    | bl t => exact ⟨t, rfl, hq _ S' bs F' H' _ h3 g (.bl t)⟩
    | _ => exact h3.elim
end
end RV
end
section
namespace RV
open PySem L2
/-! goal_with -/
noncomputable def B_goal_with (A : Ad) : RV.Env → MS := sSeq (sIf (bOr (bBl (eOp neD (eCall lenD (aCons (eVar 0) (aNil))) (eC (.int 1)))) (bBl (eOp (inSD true) (eVar 0) (eC (.str "0123456789"))))) (sRet (eC .non)) (sNil)) (sSeq (sAsg 3 (eCall intTD (aCons (eVar 0) (aNil)))) (sRet (eIf (bAnd (bChain ltD ltD (eVar 1) (eVar 3) (eVar 2)) (bBl (eOp ltD (eVar 3) (eC (.int 8))))) (eVar 3) (eC .non))))
theorem E_goal_with (A : Ad) : ∃ g : List D → M, g = fnD 4 (B_goal_with A) := ⟨_, rfl⟩
noncomputable def G_goal_with (A : Ad) : List D → M := (E_goal_with A).choose
theorem D_goal_with (A : Ad) : G_goal_with A = fnD 4 (B_goal_with A) := (E_goal_with A).choose_spec
/-! is_name -/
noncomputable def B_is_name (A : Ad) : RV.Env → MS := sSeq (sIf (bOr (bNot (bTru truD (eCall (isiD (own A) (tab A)) (aCons (eVar 0) (aCons (eC (.ty "str")) (aNil)))))) (bOr (bNot (bChain leD leD (eC (.int 1)) (eCall lenD (aCons (eVar 0) (aNil))) (eC (.int 8)))) (bBl (eOp (inSD true) (eOp ixD (eVar 0) (eC (.int 0))) (eC (.str "abcdefghijklmnopqrstuvwxyz")))))) (sRet (eC (.bl false))) (sNil)) (sRet (eCall allD (aCons (eLc .still (iStrD (eVar 0)) (tName 1) (bYes) (eOr (eOp (inSD false) (eVar 1) (eC (.str "abcdefghijklmnopqrstuvwxyz"))) (eOp (inSD false) (eVar 1) (eC (.str "0123456789")))) [1]) (aNil))))
theorem E_is_name (A : Ad) : ∃ g : List D → M, g = fnD 2 (B_is_name A) := ⟨_, rfl⟩
noncomputable def G_is_name (A : Ad) : List D → M := (E_is_name A).choose
theorem D_is_name (A : Ad) : G_is_name A = fnD 2 (B_is_name A) := (E_is_name A).choose_spec
/-! read_number -/
noncomputable def C_read_number_0 (A : Ad) : RV.Env → M := eOp (inSD false) (eVar 2) (eC (.str "0123456789"))
noncomputable def L_read_number_0 (A : Ad) : RV.Env → MS := sAsg 1 (eOp addD (eOp mulD (eC (.int 10)) (eVar 1)) (eCall intTD (aCons (eVar 2) (aNil))))
noncomputable def B_read_number (A : Ad) : RV.Env → MS := sSeq (sIf (bOr (bBl (eOp eqD (eVar 0) (eC (.str "")))) (bOr (bNot (bTru truD (eCall allD (aCons (eLc .still (iStrD (eVar 0)) (tName 2) (bYes) (C_read_number_0 A) [2]) (aNil))))) (bAnd (bBl (eOp eqD (eOp ixD (eVar 0) (eC (.int 0))) (eC (.str "0")))) (bBl (eOp neD (eVar 0) (eC (.str "0"))))))) (sRet (eC .non)) (sNil)) (sSeq (sAsg 1 (eC (.int 0))) (sSeq (sFor (iStrD (eVar 0)) (tName 2) (L_read_number_0 A)) (sRet (eVar 1))))
theorem E_read_number (A : Ad) : ∃ g : List D → M, g = fnD 3 (B_read_number A) := ⟨_, rfl⟩
noncomputable def G_read_number (A : Ad) : List D → M := (E_read_number A).choose
theorem D_read_number (A : Ad) : G_read_number A = fnD 3 (B_read_number A) := (E_read_number A).choose_spec
/-! read_term -/
noncomputable def B_read_term (A : Ad) : RV.Env → MS := sSeq (sAsgG (tTupD 3 (tsCons (tName 1) (tsCons (tName 2) (tsCons (tName 3) (tsNil))))) (eOpT partitionD (eVar 0) (eC (.str "*")))) (sSeq (sIf (bBl (eOp eqD (eVar 2) (eC (.str "")))) (sRet (eIf (bTru truD (eFn 1 (G_is_name A) [] (aCons (eVar 0) (aNil)))) (eSeq .tup (aCons (eVar 0) (aCons (eC (.int 1)) (aNil)))) (eC .non))) (sNil)) (sSeq (sAsg 4 (eFn 1 (G_read_number A) [] (aCons (eVar 1) (aNil)))) (sRet (eIf (bOr (bBl (eOp (isND false) (eVar 4) (eC .non))) (bNot (bTru truD (eFn 1 (G_is_name A) [] (aCons (eVar 3) (aNil)))))) (eC .non) (eSeq .tup (aCons (eVar 3) (aCons (eVar 4) (aNil))))))))
theorem E_read_term (A : Ad) : ∃ g : List D → M, g = fnD 5 (B_read_term A) := ⟨_, rfl⟩
noncomputable def G_read_term (A : Ad) : List D → M := (E_read_term A).choose
theorem D_read_term (A : Ad) : G_read_term A = fnD 5 (B_read_term A) := (E_read_term A).choose_spec
/-! merged -/
noncomputable def L_merged_l_0 (A : Ad) : RV.Env → MS := sDputD (eVar 1) (eVar 2) (eOp addD (eDget2 (eVar 1) (eVar 2) (eC (.int 0))) (eVar 3))
noncomputable def K_merged_l_0 (A : Ad) : RV.Env → MB := bBl (eOp neD (eOp dgetD (eVar 1) (eVar 2)) (eC (.int 0)))
noncomputable def C_merged_l_0 (A : Ad) : RV.Env → M := eSeq .tup (aCons (eVar 2) (aCons (eOp dgetD (eVar 1) (eVar 2)) (aNil)))
noncomputable def B_merged_l (A : Ad) : RV.Env → MS := sSeq (sAsg 1 (eNewDic)) (sSeq (sFor (iSeq (eVar 0)) (tTupD 2 (tsCons (tName 2) (tsCons (tName 3) (tsNil)))) (L_merged_l_0 A)) (sRet (eCall tuplePD (aCons (eLc .still (iSeq (eCall sortDicD (aCons (eVar 1) (aNil)))) (tName 2) (K_merged_l_0 A) (C_merged_l_0 A) [2]) (aNil)))))
theorem E_merged_l (A : Ad) : ∃ g : List D → M, g = fnD 4 (B_merged_l A) := ⟨_, rfl⟩
noncomputable def G_merged_l (A : Ad) : List D → M := (E_merged_l A).choose
theorem D_merged_l (A : Ad) : G_merged_l A = fnD 4 (B_merged_l A) := (E_merged_l A).choose_spec
/-! digits_of -/
noncomputable def B_digits_of_r1 (A : Ad) : RV.Env → MS := sSeq (sIf (bBl (eOp ltD (eVar 0) (eC (.int 1000000000000000000000000000000)))) (sRet (eCall strFD (aCons (eVar 0) (aNil)))) (sNil)) (sRet (eJoin (jCons (eUn fmtD (eNever)) (jCons (eUn fmt30D (eOp modD (eVar 0) (eC (.int 1000000000000000000000000000000)))) (jNil)))))
theorem E_digits_of_r1 (A : Ad) : ∃ g : List D → M, g = fnD 1 (B_digits_of_r1 A) := ⟨_, rfl⟩
noncomputable def G_digits_of_r1 (A : Ad) : List D → M := (E_digits_of_r1 A).choose
theorem D_digits_of_r1 (A : Ad) : G_digits_of_r1 A = fnD 1 (B_digits_of_r1 A) := (E_digits_of_r1 A).choose_spec
/-! digits_of -/
noncomputable def B_digits_of_r0 (A : Ad) : RV.Env → MS := sSeq (sIf (bBl (eOp ltD (eVar 0) (eC (.int 1000000000000000000000000000000)))) (sRet (eCall strFD (aCons (eVar 0) (aNil)))) (sNil)) (sRet (eJoin (jCons (eUn fmtD (eFn 1 (G_digits_of_r1 A) [] (aCons (eOp fdivWD (eVar 0) (eC (.int 1000000000000000000000000000000))) (aNil)))) (jCons (eUn fmt30D (eOp modD (eVar 0) (eC (.int 1000000000000000000000000000000)))) (jNil)))))
theorem E_digits_of_r0 (A : Ad) : ∃ g : List D → M, g = fnD 1 (B_digits_of_r0 A) := ⟨_, rfl⟩
noncomputable def G_digits_of_r0 (A : Ad) : List D → M := (E_digits_of_r0 A).choose
theorem D_digits_of_r0 (A : Ad) : G_digits_of_r0 A = fnD 1 (B_digits_of_r0 A) := (E_digits_of_r0 A).choose_spec
/-! term_text -/
noncomputable def B_term_text (A : Ad) : RV.Env → MS := sRet (eIf (bBl (eOp eqD (eVar 1) (eC (.int 1)))) (eVar 0) (eJoin (jCons (eUn fmtD (eFn 1 (G_digits_of_r0 A) [] (aCons (eVar 1) (aNil)))) (jCons (eC (.str "*")) (jCons (eUn fmtD (eVar 0)) (jNil))))))
theorem E_term_text (A : Ad) : ∃ g : List D → M, g = fnD 2 (B_term_text A) := ⟨_, rfl⟩
noncomputable def G_term_text (A : Ad) : List D → M := (E_term_text A).choose
theorem D_term_text (A : Ad) : G_term_text A = fnD 2 (B_term_text A) := (E_term_text A).choose_spec
/-! text_of -/
noncomputable def C_text_of_0 (A : Ad) : RV.Env → M := eJoin (jCons (eUn fmtD (eIf (bBl (eOp ltD (eVar 4) (eC (.int 0)))) (eC (.str "-")) (eC (.str "+")))) (jCons (eC (.str " ")) (jCons (eUn fmtD (eFn 2 (G_term_text A) [] (aCons (eVar 3) (aCons (eCall absD (aCons (eVar 4) (aNil))) (aNil))))) (jNil))))
noncomputable def B_text_of (A : Ad) : RV.Env → MS := sSeq (sIf (bBl (eOp eqD (eCall lenD (aCons (eVar 0) (aNil))) (eC (.int 0)))) (sRet (eC (.str "0"))) (sNil)) (sSeq (sAsg 1 (eLc .still (iTupD (eVar 0)) (tTupD 2 (tsCons (tName 3) (tsCons (tName 4) (tsNil)))) (bYes) (C_text_of_0 A) [3, 4])) (sSeq (sAsg 2 (eOpT joinD (eC (.str " ")) (eVar 1))) (sRet (eIf (bBl (eOp ltD (eOp ixD (eOp ixD (eVar 0) (eC (.int 0))) (eC (.int 1))) (eC (.int 0)))) (eJoin (jCons (eC (.str "-")) (jCons (eUn fmtD (eSl slD (eVar 2) (oSome (eC (.int 2))) (oNone))) (jNil)))) (eSl slD (eVar 2) (oSome (eC (.int 2))) (oNone))))))
theorem E_text_of (A : Ad) : ∃ g : List D → M, g = fnD 5 (B_text_of A) := ⟨_, rfl⟩
noncomputable def G_text_of (A : Ad) : List D → M := (E_text_of A).choose
theorem D_text_of (A : Ad) : G_text_of A = fnD 5 (B_text_of A) := (E_text_of A).choose_spec
/-! read_terms -/
noncomputable def L_read_terms_0 (A : Ad) : RV.Env → MS := sSeq (sAsg 5 (eFn 1 (G_read_term A) [] (aCons (eOp ixD (eVar 2) (eOp addD (eVar 4) (eC (.int 1)))) (aNil)))) (sSeq (sIf (bOr (bBl (eOp (inD true) (eOp ixD (eVar 2) (eVar 4)) (eSeq .tup (aCons (eC (.str "+")) (aCons (eC (.str "-")) (aNil)))))) (bBl (eOp (isND false) (eVar 5) (eC .non)))) (sRet (eC .non)) (sNil)) (sAppend (eVar 3) (eSeq .tup (aCons (eOp ixD (eVar 5) (eC (.int 0))) (aCons (eIf (bBl (eOp eqD (eOp ixD (eVar 2) (eVar 4)) (eC (.str "+")))) (eOp ixD (eVar 5) (eC (.int 1))) (eUn negD (eOp ixD (eVar 5) (eC (.int 1))))) (aNil))))))
noncomputable def B_read_terms (A : Ad) : RV.Env → MS := sSeq (sIf (bNot (bTru truD (eCall (isiD (own A) (tab A)) (aCons (eVar 0) (aCons (eC (.ty "str")) (aNil)))))) (sRet (eC .non)) (sNil)) (sSeq (sIf (bBl (eOp eqD (eVar 0) (eC (.str "0")))) (sRet (eSeq .tup (aNil))) (sNil)) (sSeq (sAsg 1 (eIf (bTru truD (eOpT startsD (eVar 0) (eC (.str "-")))) (eJoin (jCons (eC (.str "- ")) (jCons (eUn fmtD (eSl slD (eVar 0) (oSome (eC (.int 1))) (oNone))) (jNil)))) (eJoin (jCons (eC (.str "+ ")) (jCons (eUn fmtD (eVar 0)) (jNil)))))) (sSeq (sAsg 2 (eOpT splitD (eVar 1) (eC (.str " ")))) (sSeq (sAsg 3 (eNew (aNil))) (sSeq (sFor (iRange3 (aCons (eC (.int 0)) (aCons (eOp subD (eCall lenD (aCons (eVar 2) (aNil))) (eC (.int 1))) (aCons (eC (.int 2)) (aNil))))) (tName 4) (L_read_terms_0 A)) (sRet (eIf (bBl (eOp eqD (eFn 1 (G_text_of A) [] (aCons (eForget (eFn 1 (G_merged_l A) [] (aCons (eVar 3) (aNil)))) (aNil))) (eVar 0))) (eCall tupleD (aCons (eVar 3) (aNil))) (eC .non))))))))
theorem E_read_terms (A : Ad) : ∃ g : List D → M, g = fnD 6 (B_read_terms A) := ⟨_, rfl⟩
noncomputable def G_read_terms (A : Ad) : List D → M := (E_read_terms A).choose
theorem D_read_terms (A : Ad) : G_read_terms A = fnD 6 (B_read_terms A) := (E_read_terms A).choose_spec
/-! is_integer -/
noncomputable def B_is_integer (A : Ad) : RV.Env → MS := sRet (eAnd (eCall (isiD (own A) (tab A)) (aCons (eVar 0) (aCons (eC (.ty "int")) (aNil)))) (eNotT (bTru truD (eCall (isiD (own A) (tab A)) (aCons (eVar 0) (aCons (eC (.ty "bool")) (aNil)))))))
theorem E_is_integer (A : Ad) : ∃ g : List D → M, g = fnD 1 (B_is_integer A) := ⟨_, rfl⟩
noncomputable def G_is_integer (A : Ad) : List D → M := (E_is_integer A).choose
theorem D_is_integer (A : Ad) : G_is_integer A = fnD 1 (B_is_integer A) := (E_is_integer A).choose_spec
/-! check_terms -/
noncomputable def L_check_terms_0 (A : Ad) : RV.Env → MS := sIf (bOr (bNot (bTru truD (eCall (isiD (own A) (tab A)) (aCons (eVar 2) (aCons (eC (.ty "tuple")) (aNil)))))) (bOr (bBl (eOp neD (eCall lenD (aCons (eVar 2) (aNil))) (eC (.int 2)))) (bOr (bNot (bTru truD (eFn 1 (G_is_name A) [] (aCons (eOp ixD (eVar 2) (eC (.int 0))) (aNil))))) (bNot (bTru truD (eFn 1 (G_is_integer A) [] (aCons (eOp ixD (eVar 2) (eC (.int 1))) (aNil)))))))) (sNever) (sNil)
noncomputable def B_check_terms (A : Ad) : RV.Env → MS := sSeq (sIf (bNot (bTru truD (eCall (isiD (own A) (tab A)) (aCons (eVar 0) (aCons (eC (.ty "tuple")) (aNil)))))) (sNever) (sNil)) (sFor (iEnumT (aCons (eVar 0) (aNil))) (tTupD 2 (tsCons (tName 1) (tsCons (tName 2) (tsNil)))) (L_check_terms_0 A))
theorem E_check_terms (A : Ad) : ∃ g : List D → M, g = fnD 3 (B_check_terms A) := ⟨_, rfl⟩
noncomputable def G_check_terms (A : Ad) : List D → M := (E_check_terms A).choose
theorem D_check_terms (A : Ad) : G_check_terms A = fnD 3 (B_check_terms A) := (E_check_terms A).choose_spec
/-! merged -/
noncomputable def L_merged_t_0 (A : Ad) : RV.Env → MS := sDputD (eVar 1) (eVar 2) (eOp addD (eDget2 (eVar 1) (eVar 2) (eC (.int 0))) (eVar 3))
noncomputable def K_merged_t_0 (A : Ad) : RV.Env → MB := bBl (eOp neD (eOp dgetD (eVar 1) (eVar 2)) (eC (.int 0)))
noncomputable def C_merged_t_0 (A : Ad) : RV.Env → M := eSeq .tup (aCons (eVar 2) (aCons (eOp dgetD (eVar 1) (eVar 2)) (aNil)))
noncomputable def B_merged_t (A : Ad) : RV.Env → MS := sSeq (sAsg 1 (eNewDic)) (sSeq (sFor (iTupD (eVar 0)) (tTupD 2 (tsCons (tName 2) (tsCons (tName 3) (tsNil)))) (L_merged_t_0 A)) (sRet (eCall tuplePD (aCons (eLc .still (iSeq (eCall sortDicD (aCons (eVar 1) (aNil)))) (tName 2) (K_merged_t_0 A) (C_merged_t_0 A) [2]) (aNil)))))
theorem E_merged_t (A : Ad) : ∃ g : List D → M, g = fnD 4 (B_merged_t A) := ⟨_, rfl⟩
noncomputable def G_merged_t (A : Ad) : List D → M := (E_merged_t A).choose
theorem D_merged_t (A : Ad) : G_merged_t A = fnD 4 (B_merged_t A) := (E_merged_t A).choose_spec
/-! Sum.__init__ -/
noncomputable def B_Sum_init (A : Ad) : RV.Env → MS := sSeq (sDrop (eFn 1 (G_check_terms A) [] (aCons (eVar 1) (aNil)))) (sFldD (A.c "Sum") "kept" (eVar 0) (eFn 1 (G_merged_t A) [] (aCons (eVar 1) (aNil))))
theorem E_Sum_init (A : Ad) : ∃ g : List D → M, g = fnD 2 (B_Sum_init A) := ⟨_, rfl⟩
noncomputable def G_Sum_init (A : Ad) : List D → M := (E_Sum_init A).choose
theorem D_Sum_init (A : Ad) : G_Sum_init A = fnD 2 (B_Sum_init A) := (E_Sum_init A).choose_spec
/-! Sum.read -/
noncomputable def B_Sum_read (A : Ad) : RV.Env → MS := sSeq (sAsg 2 (eFn 1 (G_read_terms A) [] (aCons (eVar 1) (aNil)))) (sSeq (sIf (bBl (eOp (isND false) (eVar 2) (eC .non))) (sNever) (sNil)) (sRet (eMakeL 0 .still (A.c "Sum") 2 (G_Sum_init A) [] (aCons (eVar 2) (aNil)))))
theorem E_Sum_read (A : Ad) : ∃ g : List D → M, g = fnD 3 (B_Sum_read A) := ⟨_, rfl⟩
noncomputable def G_Sum_read (A : Ad) : List D → M := (E_Sum_read A).choose
theorem D_Sum_read (A : Ad) : G_Sum_read A = fnD 3 (B_Sum_read A) := (E_Sum_read A).choose_spec
/-! sum_with -/
noncomputable def B_sum_with (A : Ad) : RV.Env → MS := sSeq (sCalm (sAsg 1 (eCm (A.c "Sum") 2 (G_Sum_read A) (eC (.adr (A.c "Sum"))) (aCons (eVar 0) (aNil))))) (sRet (eVar 1))
theorem E_sum_with (A : Ad) : ∃ g : List D → M, g = fnD 2 (B_sum_with A) := ⟨_, rfl⟩
noncomputable def G_sum_with (A : Ad) : List D → M := (E_sum_with A).choose
theorem D_sum_with (A : Ad) : G_sum_with A = fnD 2 (B_sum_with A) := (E_sum_with A).choose_spec
/-! test_step -/
noncomputable def B_test_step (A : Ad) : RV.Env → MS := sSeq (sAsgG (tTupD 3 (tsCons (tName 3) (tsCons (tName 4) (tsCons (tName 5) (tsNil))))) (eOpT rpartitionD (eVar 0) (eC (.str " go ")))) (sSeq (sAsgG (tTupD 3 (tsCons (tName 6) (tsCons (tName 7) (tsCons (tName 8) (tsNil))))) (eOpT partitionD (eVar 3) (eC (.str " == ")))) (sSeq (sAsg 9 (eFn 3 (G_goal_with A) [] (aCons (eVar 5) (aCons (eVar 1) (aCons (eVar 2) (aNil)))))) (sSeq (sPar2 10 11 (aCons (eFn 1 (G_sum_with A) [] (aCons (eVar 6) (aNil))) (aCons (eFn 1 (G_sum_with A) [] (aCons (eVar 8) (aNil))) (aNil)))) (sSeq (sIf (bOr (bBl (eOp eqD (eVar 4) (eC (.str "")))) (bOr (bBl (eOp eqD (eVar 7) (eC (.str "")))) (bOr (bBl (eOp (isND false) (eVar 10) (eC .non))) (bOr (bBl (eOp (isND false) (eVar 11) (eC .non))) (bBl (eOp (isND false) (eVar 9) (eC .non))))))) (sRet (eC .non)) (sNil)) (sRet (eSeq .tup (aCons (eC (.str "if")) (aCons (eVar 10) (aCons (eVar 11) (aCons (eVar 9) (aNil)))))))))))
theorem E_test_step (A : Ad) : ∃ g : List D → M, g = fnD 12 (B_test_step A) := ⟨_, rfl⟩
noncomputable def G_test_step (A : Ad) : List D → M := (E_test_step A).choose
theorem D_test_step (A : Ad) : G_test_step A = fnD 12 (B_test_step A) := (E_test_step A).choose_spec
/-! vote_step -/
noncomputable def C_vote_step_0 (A : Ad) : RV.Env → M := eFn 1 (G_sum_with A) [] (aCons (eVar 6) (aNil))
noncomputable def C_vote_step_1 (A : Ad) : RV.Env → M := eCall strFD (aCons (eVar 7) (aNil))
noncomputable def C_vote_step_2 (A : Ad) : RV.Env → M := eOp (isND false) (eVar 8) (eC .non)
noncomputable def B_vote_step (A : Ad) : RV.Env → MS := sSeq (sAsgG (tTupD 3 (tsCons (tName 1) (tsCons (tName 2) (tsCons (tName 3) (tsNil))))) (eOpT partitionD (eVar 0) (eC (.str ": ")))) (sSeq (sAsg 4 (eLc .still (iSeq (eOpT splitD (eVar 3) (eC (.str ", ")))) (tName 6) (bYes) (C_vote_step_0 A) [6])) (sSeq (sAsg 5 (eLc .still (iRange1 (aCons (eOp addD (eC (.int 3)) (eC (.int 1))) (aNil))) (tName 7) (bYes) (C_vote_step_1 A) [7])) (sSeq (sIf (bOr (bBl (eOp eqD (eVar 2) (eC (.str "")))) (bOr (bBl (eOp (inD true) (eVar 1) (eVar 5))) (bOr (bBl (eOp gtD (eCall lenD (aCons (eVar 4) (aNil))) (eC (.int 10)))) (bTru truD (eCall anyD (aCons (eLc .still (iSeq (eVar 4)) (tName 8) (bYes) (C_vote_step_2 A) [8]) (aNil))))))) (sRet (eC .non)) (sNil)) (sRet (eSeq .tup (aCons (eC (.str "vote")) (aCons (eCall intTD (aCons (eVar 1) (aNil))) (aCons (eCall tupleD (aCons (eVar 4) (aNil))) (aNil)))))))))
theorem E_vote_step (A : Ad) : ∃ g : List D → M, g = fnD 9 (B_vote_step A) := ⟨_, rfl⟩
noncomputable def G_vote_step (A : Ad) : List D → M := (E_vote_step A).choose
theorem D_vote_step (A : Ad) : G_vote_step A = fnD 9 (B_vote_step A) := (E_vote_step A).choose_spec
/-! step_of -/
noncomputable def B_step_of (A : Ad) : RV.Env → MS := sSeq (sIf (bNot (bTru truD (eCall (isiD (own A) (tab A)) (aCons (eVar 0) (aCons (eC (.ty "str")) (aNil)))))) (sRet (eC .non)) (sNil)) (sSeq (sIf (bBl (eOp eqD (eVar 0) (eC (.str "doubt")))) (sRet (eSeq .tup (aCons (eC (.str "doubt")) (aNil)))) (sNil)) (sSeq (sAsgG (tTupD 3 (tsCons (tName 3) (tsCons (tName 4) (tsCons (tName 5) (tsNil))))) (eOpT partitionD (eVar 0) (eC (.str " ")))) (sSeq (sIf (bBl (eOp eqD (eVar 3) (eC (.str "if")))) (sRet (eFn 3 (G_test_step A) [] (aCons (eVar 5) (aCons (eVar 1) (aCons (eVar 2) (aNil)))))) (sNil)) (sSeq (sIf (bBl (eOp eqD (eVar 3) (eC (.str "vote")))) (sRet (eFn 1 (G_vote_step A) [] (aCons (eVar 5) (aNil)))) (sNil)) (sSeq (sAsg 6 (eFn 1 (G_sum_with A) [] (aCons (eVar 5) (aNil)))) (sRet (eIf (bAnd (bBl (eOp eqD (eVar 3) (eC (.str "tell")))) (bBl (eOp (isND true) (eVar 6) (eC .non)))) (eSeq .tup (aCons (eC (.str "tell")) (aCons (eVar 6) (aNil)))) (eC .non))))))))
theorem E_step_of (A : Ad) : ∃ g : List D → M, g = fnD 7 (B_step_of A) := ⟨_, rfl⟩
noncomputable def G_step_of (A : Ad) : List D → M := (E_step_of A).choose
theorem D_step_of (A : Ad) : G_step_of A = fnD 7 (B_step_of A) := (E_step_of A).choose_spec
/-! Rule.__init__ -/
noncomputable def L_Rule_init_0 (A : Ad) : RV.Env → MS := sSeq (sAsg 5 (eIf (bBl (eOp ltD (eVar 3) (eC (.int 8)))) (eFn 3 (G_step_of A) [] (aCons (eVar 4) (aCons (eVar 3) (aCons (eCall lenD (aCons (eVar 1) (aNil))) (aNil))))) (eC .non))) (sSeq (sIf (bBl (eOp (isND false) (eVar 5) (eC .non))) (sNever) (sNil)) (sAppend (eVar 2) (eVar 5)))
noncomputable def B_Rule_init (A : Ad) : RV.Env → MS := sSeq (sIf (bOr (bNot (bTru truD (eCall (isiD (own A) (tab A)) (aCons (eVar 1) (aCons (eC (.ty "tuple")) (aNil)))))) (bBl (eOp eqD (eVar 1) (eSeq .tup (aNil))))) (sNever) (sNil)) (sSeq (sAsg 2 (eNew (aNil))) (sSeq (sFor (iEnumT (aCons (eVar 1) (aNil))) (tTupD 2 (tsCons (tName 3) (tsCons (tName 4) (tsNil)))) (L_Rule_init_0 A)) (sSeq (sIf (bBl (eOp (inD true) (eOp ixD (eOp ixD (eVar 2) (eUn negD (eC (.int 1)))) (eC (.int 0))) (eSeq .tup (aCons (eC (.str "tell")) (aCons (eC (.str "doubt")) (aNil)))))) (sNever) (sNil)) (sSeq (sFldD (A.c "Rule") "lines" (eVar 0) (eVar 1)) (sFldD (A.c "Rule") "steps" (eVar 0) (eCall tupleD (aCons (eVar 2) (aNil))))))))
theorem E_Rule_init (A : Ad) : ∃ g : List D → M, g = fnD 6 (B_Rule_init A) := ⟨_, rfl⟩
noncomputable def G_Rule_init (A : Ad) : List D → M := (E_Rule_init A).choose
theorem D_Rule_init (A : Ad) : G_Rule_init A = fnD 6 (B_Rule_init A) := (E_Rule_init A).choose_spec
/-! Rule.__len__ -/
noncomputable def B_Rule_len (A : Ad) : RV.Env → MS := sRet (eCall lenD (aCons (eUn (fldD (A.c "Rule") "lines") (eVar 0)) (aNil)))
theorem E_Rule_len (A : Ad) : ∃ g : List D → M, g = fnD 1 (B_Rule_len A) := ⟨_, rfl⟩
noncomputable def G_Rule_len (A : Ad) : List D → M := (E_Rule_len A).choose
theorem D_Rule_len (A : Ad) : G_Rule_len A = fnD 1 (B_Rule_len A) := (E_Rule_len A).choose_spec
/-! sums_in -/
noncomputable def B_sums_in (A : Ad) : RV.Env → MS := sSeq (sIf (bBl (eOp eqD (eOp ixD (eVar 0) (eC (.int 0))) (eC (.str "if")))) (sRet (eSeq .lst (aCons (eOp ixD (eVar 0) (eC (.int 1))) (aCons (eOp ixD (eVar 0) (eC (.int 2))) (aNil))))) (sNil)) (sSeq (sIf (bBl (eOp eqD (eOp ixD (eVar 0) (eC (.int 0))) (eC (.str "vote")))) (sRet (eCall listD (aCons (eOp ixD (eVar 0) (eC (.int 2))) (aNil)))) (sNil)) (sRet (eIf (bBl (eOp eqD (eOp ixD (eVar 0) (eC (.int 0))) (eC (.str "tell")))) (eSeq .lst (aCons (eOp ixD (eVar 0) (eC (.int 1))) (aNil))) (eSeq .lst (aNil)))))
theorem E_sums_in (A : Ad) : ∃ g : List D → M, g = fnD 1 (B_sums_in A) := ⟨_, rfl⟩
noncomputable def G_sums_in (A : Ad) : List D → M := (E_sums_in A).choose
theorem D_sums_in (A : Ad) : G_sums_in A = fnD 1 (B_sums_in A) := (E_sums_in A).choose_spec
/-! Sum.names -/
noncomputable def C_Sum_names_0 (A : Ad) : RV.Env → M := eVar 1
noncomputable def B_Sum_names (A : Ad) : RV.Env → MS := sRet (eCall tupleD (aCons (eLc .still (iTupD (eForget (eUn (fldD (A.c "Sum") "kept") (eVar 0)))) (tTupD 2 (tsCons (tName 1) (tsCons (tName 2) (tsNil)))) (bYes) (C_Sum_names_0 A) [1, 2]) (aNil)))
theorem E_Sum_names (A : Ad) : ∃ g : List D → M, g = fnD 3 (B_Sum_names A) := ⟨_, rfl⟩
noncomputable def G_Sum_names (A : Ad) : List D → M := (E_Sum_names A).choose
theorem D_Sum_names (A : Ad) : G_Sum_names A = fnD 3 (B_Sum_names A) := (E_Sum_names A).choose_spec
/-! Rule.meters -/
noncomputable def C_Rule_meters_0 (A : Ad) : RV.Env → M := eVar 3
noncomputable def B_Rule_meters (A : Ad) : RV.Env → MS := sRet (eCall tupleD (aCons (eSortSc ⟨iTupD (eUn (fldD (A.c "Rule") "steps") (eVar 0)), tName 1, bYes, [1], [1, 2, 3]⟩ [⟨iSeq (eFn 1 (G_sums_in A) [] (aCons (eVar 1) (aNil))), tName 2, bYes, [2], [2, 3]⟩, ⟨iTupD (eProp (A.c "Sum") (G_Sum_names A) (eVar 2)), tName 3, bYes, [3], [3]⟩] (C_Rule_meters_0 A)) (aNil)))
theorem E_Rule_meters (A : Ad) : ∃ g : List D → M, g = fnD 4 (B_Rule_meters A) := ⟨_, rfl⟩
noncomputable def G_Rule_meters (A : Ad) : List D → M := (E_Rule_meters A).choose
theorem D_Rule_meters (A : Ad) : G_Rule_meters A = fnD 4 (B_Rule_meters A) := (E_Rule_meters A).choose_spec
/-! _law_spring -/
noncomputable def L_spring_k47_0 (A : Ad) : RV.Env → MS := sAsg 3 (eOp modD (eCall intOfD (aCons (eOp addD (eOp addD (eOp mulD (eVar 3) (eC (.int 31337))) (eOp mulD (eCall intOfD (aCons (eVar 4) (aNil))) (eC (.int 2)))) (eC (.int 1))) (aNil))) (eC (.int 2147483543)))
noncomputable def B_spring_k47 (A : Ad) : RV.Env → MS := sSeq (sAsg 2 (eIf (bBl (eOp ltD (eVar 1) (eCall lenD (aCons (eVar 0) (aNil))))) (eCall intOfD (aCons (eOp ixD (eVar 0) (eVar 1)) (aNil))) (eOp addD (eOp mulD (eC (.int 5)) (eVar 1)) (eC (.int 3))))) (sSeq (sAsg 3 (eOp addD (eC (.int 991)) (eOp mulD (eC (.int 613)) (eVar 1)))) (sSeq (sFor (iSeq (eSl slLD (eVar 0) (oNone) (oSome (eC (.int 3))))) (tName 4) (L_spring_k47_0 A)) (sSeq (sAsg 3 (eOp modD (eCall intOfD (aCons (eOp addD (eOp addD (eOp mulD (eVar 3) (eVar 3)) (eOp mulD (eVar 2) (eC (.int 7)))) (eC (.int 11))) (aNil))) (eC (.int 2147483543)))) (sRet (eNew (aCons (eOp modD (eCall intOfD (aCons (eOp addD (eOp mulD (eVar 3) (eC (.int 40009))) (eC (.int 77))) (aNil))) (eC (.int 2147483543))) (aCons (eIf (bBl (eOp geD (eCall absD (aCons (eVar 2) (aNil))) (eOp powD (eC (.int 10)) (eC (.int 18))))) (eCall absD (aCons (eVar 2) (aNil))) (eC (.int 0))) (aCons (eVar 1) (aNil)))))))))
theorem E_spring_k47 (A : Ad) : ∃ g : List D → M, g = fnN 5 (B_spring_k47 A) := ⟨_, rfl⟩
noncomputable def G_spring_k47 (A : Ad) : List D → M := (E_spring_k47 A).choose
theorem D_spring_k47 (A : Ad) : G_spring_k47 A = fnN 5 (B_spring_k47 A) := (E_spring_k47 A).choose_spec
/-! _law_take -/
noncomputable def B_take_k47 (A : Ad) : RV.Env → MS := sSeq (sIf (bBl (eOp gtD (eOp ixD (eVar 0) (eC (.int 1))) (eC (.int 0)))) (sSeq (sPairSet 2 (eVar 0) (eC (.int 1)) (eCall divmodD (aCons (eOp ixD (eVar 0) (eC (.int 1))) (aCons (eVar 1) (aNil))))) (sRet (eVar 2))) (sNil)) (sSeq (sSetIx (eVar 0) (eC (.int 2)) (eOp addD (eOp ixD (eVar 0) (eC (.int 2))) (eC (.int 1)))) (sSeq (sPar2 3 4 (aCons (eOp addD (eC (.int 40009)) (eOp mulD (eC (.int 2)) (eOp ixD (eVar 0) (eC (.int 2))))) (aCons (eOp addD (eOp mulD (eC (.int 5179)) (eOp ixD (eVar 0) (eC (.int 2)))) (eC (.int 23))) (aNil)))) (sSeq (sSetIx (eVar 0) (eC (.int 0)) (eOp modD (eCall intOfD (aCons (eOp addD (eOp mulD (eOp ixD (eVar 0) (eC (.int 0))) (eVar 3)) (eVar 4)) (aNil))) (eC (.int 2147483543)))) (sRet (eOp modD (eCall intOfD (aCons (eOp fdivD (eOp ixD (eVar 0) (eC (.int 0))) (eC (.int 128))) (aNil))) (eVar 1))))))
theorem E_take_k47 (A : Ad) : ∃ g : List D → M, g = fnD 5 (B_take_k47 A) := ⟨_, rfl⟩
noncomputable def G_take_k47 (A : Ad) : List D → M := (E_take_k47 A).choose
theorem D_take_k47 (A : Ad) : G_take_k47 A = fnD 5 (B_take_k47 A) := (E_take_k47 A).choose_spec
/-! _law_titles -/
noncomputable def L_titles_k47_0 (A : Ad) : RV.Env → MS := sAsg 7 (eOp addD (eVar 7) (eOp ixD (eVar 2) (eFn 2 (G_take_k47 A) [] (aCons (eVar 0) (aCons (eC (.int 36)) (aNil))))))
noncomputable def C_titles_k47_0 (A : Ad) : RV.Env → M := eOp addD (eSl slD (eVar 7) (oNone) (oSome (eC (.int 7)))) (eVar 10)
noncomputable def K_titles_k47_0 (A : Ad) : RV.Env → MB := bBl (eOp (inD true) (eVar 11) (eVar 3))
noncomputable def C_titles_k47_1 (A : Ad) : RV.Env → M := eVar 11
noncomputable def L_titles_k47_1 (A : Ad) : RV.Env → MS := sSeq (sAsgG (tTupD 2 (tsCons (tName 6) (tsCons (tName 7) (tsNil)))) (eSeq .tup (aCons (eOp ixD (eSeq .lst (aCons (eC (.int 0)) (aCons (eC (.int 0)) (aCons (eC (.int 1)) (aCons (eC (.int 1)) (aCons (eC (.int 3)) (aCons (eC (.int 7)) (aNil)))))))) (eFn 2 (G_take_k47 A) [] (aCons (eVar 0) (aCons (eC (.int 6)) (aNil))))) (aCons (eOp ixD (eVar 2) (eFn 2 (G_take_k47 A) [] (aCons (eVar 0) (aCons (eC (.int 26)) (aNil))))) (aNil))))) (sSeq (sFor (iRange1 (aCons (eVar 6) (aNil))) (tName 8) (L_titles_k47_0 A)) (sSeq (sIf (bBl (eOp eqD (eFn 2 (G_take_k47 A) [] (aCons (eVar 0) (aCons (eC (.int 7)) (aNil)))) (eC (.int 0)))) (sAsg 7 (eOp ixD (eVar 4) (eFn 2 (G_take_k47 A) [] (aCons (eVar 0) (aCons (eC (.int 8)) (aNil)))))) (sNil)) (sSeq (sAsg 9 (eOp addD (eSeq .lst (aCons (eVar 7) (aNil))) (eLc .still (iStrD (eVar 2)) (tName 10) (bYes) (C_titles_k47_0 A) [10]))) (sAppend (eVar 3) (eOp ixD (eLc .still (iSeq (eVar 9)) (tName 11) (K_titles_k47_0 A) (C_titles_k47_1 A) [11]) (eC (.int 0)))))))
noncomputable def B_titles_k47 (A : Ad) : RV.Env → MS := sSeq (sAsgG (tTupD 2 (tsCons (tName 2) (tsCons (tName 3) (tsNil)))) (eSeq .tup (aCons (eC (.str "abcdefghijklmnopqrstuvwxyz0123456789")) (aCons (eNew (aNil)) (aNil))))) (sSeq (sAsg 4 (eSeq .lst (aCons (eC (.str "if")) (aCons (eC (.str "go")) (aCons (eC (.str "vote")) (aCons (eC (.str "tell")) (aCons (eC (.str "doubt")) (aCons (eC (.str "pipe")) (aCons (eC (.str "meter")) (aCons (eC (.str "sealed")) (aNil))))))))))) (sSeq (sFor (iRange1 (aCons (eVar 1) (aNil))) (tName 5) (L_titles_k47_1 A)) (sRet (eVar 3))))
theorem E_titles_k47 (A : Ad) : ∃ g : List D → M, g = fnD 12 (B_titles_k47 A) := ⟨_, rfl⟩
noncomputable def G_titles_k47 (A : Ad) : List D → M := (E_titles_k47 A).choose
theorem D_titles_k47 (A : Ad) : G_titles_k47 A = fnD 12 (B_titles_k47 A) := (E_titles_k47 A).choose_spec
/-! _law_times -/
noncomputable def B_times_k47 (A : Ad) : RV.Env → MS := sSeq (sAsg 2 (eOp ixD (eSeq .lst (aCons (eC (.int 1)) (aCons (eC (.int 1)) (aCons (eC (.int 1)) (aCons (eC (.int 1)) (aCons (eC (.int 2)) (aCons (eC (.int 3)) (aCons (eC (.int 12)) (aCons (eVar 1) (aNil)))))))))) (eFn 2 (G_take_k47 A) [] (aCons (eVar 0) (aCons (eC (.int 8)) (aNil)))))) (sRet (eOp ixD (eSeq .lst (aCons (eVar 2) (aCons (eUn negD (eVar 2)) (aNil)))) (eFn 2 (G_take_k47 A) [] (aCons (eVar 0) (aCons (eC (.int 2)) (aNil))))))
theorem E_times_k47 (A : Ad) : ∃ g : List D → M, g = fnD 3 (B_times_k47 A) := ⟨_, rfl⟩
noncomputable def G_times_k47 (A : Ad) : List D → M := (E_times_k47 A).choose
theorem D_times_k47 (A : Ad) : G_times_k47 A = fnD 3 (B_times_k47 A) := (E_times_k47 A).choose_spec
/-! _law_total -/
noncomputable def C_total_k47_0 (A : Ad) : RV.Env → M := eOp ixD (eVar 8) (eC (.int 0))
noncomputable def L_total_k47_0 (A : Ad) : RV.Env → MS := sSeq (sPar2 6 7 (aCons (eOp ixD (eVar 1) (eFn 2 (G_take_k47 A) [] (aCons (eVar 0) (aCons (eCall lenD (aCons (eVar 1) (aNil))) (aNil))))) (aCons (eFn 2 (G_times_k47 A) [] (aCons (eVar 0) (aCons (eVar 3) (aNil)))) (aNil)))) (sIf (bBl (eOp (inD true) (eVar 6) (eLc .still (iSeq (eVar 4)) (tName 8) (bYes) (C_total_k47_0 A) [8]))) (sAppend (eVar 4) (eSeq .tup (aCons (eVar 6) (aCons (eVar 7) (aNil))))) (sNil))
noncomputable def B_total_k47 (A : Ad) : RV.Env → MS := sSeq (sAsg 4 (eNew (aNil))) (sSeq (sFor (iRange1 (aCons (eIf (bBl (eOp neD (eVar 1) (eSeq .lst (aNil)))) (eFn 2 (G_take_k47 A) [] (aCons (eVar 0) (aCons (eOp addD (eVar 2) (eC (.int 1))) (aNil)))) (eC (.int 0))) (aNil))) (tName 5) (L_total_k47_0 A)) (sRet (eCall sortQD (aCons (eVar 4) (aNil)))))
theorem E_total_k47 (A : Ad) : ∃ g : List D → M, g = fnD 9 (B_total_k47 A) := ⟨_, rfl⟩
noncomputable def G_total_k47 (A : Ad) : List D → M := (E_total_k47 A).choose
theorem D_total_k47 (A : Ad) : G_total_k47 A = fnD 9 (B_total_k47 A) := (E_total_k47 A).choose_spec
/-! _law_pick -/
noncomputable def B_pick_k47 (A : Ad) : RV.Env → MS := sSeq (sAsg 4 (eFn 2 (G_take_k47 A) [] (aCons (eVar 0) (aCons (eC (.int 5)) (aNil))))) (sRet (eIf (bBl (eOp ltD (eVar 4) (eC (.int 3)))) (eOp ixD (eVar 1) (eVar 4)) (eFn 4 (G_total_k47 A) [] (aCons (eVar 0) (aCons (eVar 2) (aCons (eC (.int 3)) (aCons (eVar 3) (aNil))))))))
theorem E_pick_k47 (A : Ad) : ∃ g : List D → M, g = fnD 5 (B_pick_k47 A) := ⟨_, rfl⟩
noncomputable def G_pick_k47 (A : Ad) : List D → M := (E_pick_k47 A).choose
theorem D_pick_k47 (A : Ad) : G_pick_k47 A = fnD 5 (B_pick_k47 A) := (E_pick_k47 A).choose_spec
/-! _law_last -/
noncomputable def B_last_k47 (A : Ad) : RV.Env → MS := sRet (eIf (bBl (eOp gtD (eFn 2 (G_take_k47 A) [] (aCons (eVar 0) (aCons (eC (.int 3)) (aNil)))) (eC (.int 0)))) (eSeq .tup (aCons (eC (.str "tell")) (aCons (eFn 4 (G_pick_k47 A) [] (aCons (eVar 0) (aCons (eVar 1) (aCons (eVar 2) (aCons (eVar 3) (aNil)))))) (aNil)))) (eSeq .tup (aCons (eC (.str "doubt")) (aNil))))
theorem E_last_k47 (A : Ad) : ∃ g : List D → M, g = fnD 4 (B_last_k47 A) := ⟨_, rfl⟩
noncomputable def G_last_k47 (A : Ad) : List D → M := (E_last_k47 A).choose
theorem D_last_k47 (A : Ad) : G_last_k47 A = fnD 4 (B_last_k47 A) := (E_last_k47 A).choose_spec
/-! _law_steps -/
noncomputable def C_steps_k47_0 (A : Ad) : RV.Env → M := eFn 4 (G_total_k47 A) [] (aCons (eVar 0) (aCons (eVar 1) (aCons (eC (.int 2)) (aCons (eVar 3) (aNil)))))
noncomputable def K_steps_k47_0 (A : Ad) : RV.Env → MB := bBl (eOp leD (eOp mulD (eVar 14) (eOp subD (eVar 14) (eC (.int 1)))) (eVar 5))
noncomputable def C_steps_k47_1 (A : Ad) : RV.Env → M := eVar 14
noncomputable def C_steps_k47_2 (A : Ad) : RV.Env → M := eFn 4 (G_pick_k47 A) [] (aCons (eVar 0) (aCons (eVar 7) (aCons (eVar 1) (aCons (eVar 3) (aNil)))))
noncomputable def L_steps_k47_0 (A : Ad) : RV.Env → MS := sSeq (sAsg 9 (eFn 2 (G_take_k47 A) [] (aCons (eVar 0) (aCons (eC (.int 9)) (aNil))))) (sIf (bBl (eOp ltD (eVar 9) (eC (.int 4)))) (sSeq (sAsg 10 (eSeq .lst (aCons (eFn 4 (G_pick_k47 A) [] (aCons (eVar 0) (aCons (eVar 7) (aCons (eVar 1) (aCons (eVar 3) (aNil)))))) (aCons (eFn 4 (G_pick_k47 A) [] (aCons (eVar 0) (aCons (eVar 7) (aCons (eVar 1) (aCons (eVar 3) (aNil)))))) (aNil))))) (sAppend (eVar 6) (eSeq .tup (aCons (eC (.str "if")) (aCons (eOp ixD (eVar 10) (eC (.int 0))) (aCons (eOp ixD (eVar 10) (eC (.int 1))) (aCons (eOp addD (eOp addD (eVar 8) (eC (.int 1))) (eFn 2 (G_take_k47 A) [] (aCons (eVar 0) (aCons (eOp subD (eOp subD (eVar 4) (eC (.int 1))) (eVar 8)) (aNil))))) (aNil)))))))) (sIf (bBl (eOp ltD (eVar 9) (eC (.int 8)))) (sSeq (sAsg 11 (eOp addD (eC (.int 1)) (eFn 2 (G_take_k47 A) [] (aCons (eVar 0) (aCons (eCall lenD (aCons (eLc .still (iRange2 (aCons (eC (.int 1)) (aCons (eC (.int 11)) (aNil)))) (tName 14) (K_steps_k47_0 A) (C_steps_k47_1 A) [14]) (aNil))) (aNil)))))) (sSeq (sAsg 5 (eOp subD (eVar 5) (eOp mulD (eVar 11) (eOp subD (eVar 11) (eC (.int 1)))))) (sSeq (sAsg 12 (eLc .still (iRange1 (aCons (eVar 11) (aNil))) (tName 13) (bYes) (C_steps_k47_2 A) [13])) (sAppend (eVar 6) (eSeq .tup (aCons (eC (.str "vote")) (aCons (eFn 2 (G_take_k47 A) [] (aCons (eVar 0) (aCons (eC (.int 4)) (aNil)))) (aCons (eVar 12) (aNil))))))))) (sAppend (eVar 6) (eFn 4 (G_last_k47 A) [] (aCons (eVar 0) (aCons (eVar 7) (aCons (eVar 1) (aCons (eVar 3) (aNil)))))))))
noncomputable def B_steps_k47 (A : Ad) : RV.Env → MS := sSeq (sAsgG (tTupD 3 (tsCons (tName 4) (tsCons (tName 5) (tsCons (tName 6) (tsNil))))) (eSeq .tup (aCons (eOp addD (eC (.int 1)) (eFn 2 (G_take_k47 A) [] (aCons (eVar 0) (aCons (eVar 2) (aNil))))) (aCons (eC (.int 90)) (aCons (eNew (aNil)) (aNil)))))) (sSeq (sAsg 7 (eLc .still (iRange1 (aCons (eC (.int 3)) (aNil))) (tName 13) (bYes) (C_steps_k47_0 A) [13])) (sSeq (sFor (iRange1 (aCons (eOp subD (eVar 4) (eC (.int 1))) (aNil))) (tName 8) (L_steps_k47_0 A)) (sRet (eOp addC (eVar 6) (eSeq .lst (aCons (eFn 4 (G_last_k47 A) [] (aCons (eVar 0) (aCons (eVar 7) (aCons (eVar 1) (aCons (eVar 3) (aNil)))))) (aNil)))))))
theorem E_steps_k47 (A : Ad) : ∃ g : List D → M, g = fnD 15 (B_steps_k47 A) := ⟨_, rfl⟩
noncomputable def G_steps_k47 (A : Ad) : List D → M := (E_steps_k47 A).choose
theorem D_steps_k47 (A : Ad) : G_steps_k47 A = fnD 15 (B_steps_k47 A) := (E_steps_k47 A).choose_spec
/-! _law_told -/
noncomputable def L_told_k47_0 (A : Ad) : RV.Env → MS := sSeq (sAsg 4 (eIf (bBl (eOp eqD (eCall absD (aCons (eVar 3) (aNil))) (eC (.int 1)))) (eVar 2) (eOp addD (eOp addD (eCall strFD (aCons (eCall absD (aCons (eVar 3) (aNil))) (aNil))) (eC (.str "*"))) (eVar 2)))) (sIf (bBl (eOp eqD (eVar 1) (eC (.str "")))) (sAsg 1 (eIf (bBl (eOp ltD (eVar 3) (eC (.int 0)))) (eOp addD (eC (.str "-")) (eVar 4)) (eVar 4))) (sAsg 1 (eOp addD (eOp addD (eVar 1) (eIf (bBl (eOp ltD (eVar 3) (eC (.int 0)))) (eC (.str " - ")) (eC (.str " + ")))) (eVar 4))))
noncomputable def B_told_k47 (A : Ad) : RV.Env → MS := sSeq (sAsg 1 (eC (.str ""))) (sSeq (sFor (iSeq (eVar 0)) (tTupD 2 (tsCons (tName 2) (tsCons (tName 3) (tsNil)))) (L_told_k47_0 A)) (sRet (eIf (bBl (eOp neD (eVar 1) (eC (.str "")))) (eVar 1) (eC (.str "0")))))
theorem E_told_k47 (A : Ad) : ∃ g : List D → M, g = fnD 5 (B_told_k47 A) := ⟨_, rfl⟩
noncomputable def G_told_k47 (A : Ad) : List D → M := (E_told_k47 A).choose
theorem D_told_k47 (A : Ad) : G_told_k47 A = fnD 5 (B_told_k47 A) := (E_told_k47 A).choose_spec
/-! _law_line -/
noncomputable def C_line_k47_0 (A : Ad) : RV.Env → M := eFn 1 (G_told_k47 A) [] (aCons (eVar 1) (aNil))
noncomputable def B_line_k47 (A : Ad) : RV.Env → MS := sSeq (sIf (bBl (eOp eqD (eOp ixD (eVar 0) (eC (.int 0))) (eC (.str "if")))) (sRet (eOp addD (eOp addD (eOp addD (eOp addD (eOp addD (eC (.str "if ")) (eFn 1 (G_told_k47 A) [] (aCons (eOp ixD (eVar 0) (eC (.int 1))) (aNil)))) (eC (.str " == "))) (eFn 1 (G_told_k47 A) [] (aCons (eOp ixD (eVar 0) (eC (.int 2))) (aNil)))) (eC (.str " go "))) (eCall strFD (aCons (eOp ixD (eVar 0) (eC (.int 3))) (aNil))))) (sNil)) (sSeq (sIf (bBl (eOp eqD (eOp ixD (eVar 0) (eC (.int 0))) (eC (.str "vote")))) (sRet (eOp addD (eOp addD (eOp addD (eC (.str "vote ")) (eCall strFD (aCons (eOp ixD (eVar 0) (eC (.int 1))) (aNil)))) (eC (.str ": "))) (eOpT joinD (eC (.str ", ")) (eLc .still (iSeq (eOp ixD (eVar 0) (eC (.int 2)))) (tName 1) (bYes) (C_line_k47_0 A) [1])))) (sNil)) (sRet (eIf (bBl (eOp eqD (eOp ixD (eVar 0) (eC (.int 0))) (eC (.str "tell")))) (eOp addD (eC (.str "tell ")) (eFn 1 (G_told_k47 A) [] (aCons (eOp ixD (eVar 0) (eC (.int 1))) (aNil)))) (eC (.str "doubt")))))
theorem E_line_k47 (A : Ad) : ∃ g : List D → M, g = fnD 2 (B_line_k47 A) := ⟨_, rfl⟩
noncomputable def G_line_k47 (A : Ad) : List D → M := (E_line_k47 A).choose
theorem D_line_k47 (A : Ad) : G_line_k47 A = fnD 2 (B_line_k47 A) := (E_line_k47 A).choose_spec
/-! _law_names_of -/
noncomputable def C_names_of_k47_0 (A : Ad) : RV.Env → M := eOp ixD (eVar 5) (eC (.int 0))
noncomputable def L_names_of_k47_0 (A : Ad) : RV.Env → MS := sAsg 1 (eOp addD (eVar 1) (eLc .still (iSeq (eVar 4)) (tName 5) (bYes) (C_names_of_k47_0 A) [5]))
noncomputable def L_names_of_k47_1 (A : Ad) : RV.Env → MS := sSeq (sAsg 3 (eIf (bBl (eOp eqD (eOp ixD (eVar 2) (eC (.int 0))) (eC (.str "if")))) (eSeq .lst (aCons (eOp ixD (eVar 2) (eC (.int 1))) (aCons (eOp ixD (eVar 2) (eC (.int 2))) (aNil)))) (eSeq .lst (aNil)))) (sSeq (sAsg 3 (eIf (bBl (eOp eqD (eOp ixD (eVar 2) (eC (.int 0))) (eC (.str "vote")))) (eOp ixD (eVar 2) (eC (.int 2))) (eVar 3))) (sSeq (sAsg 3 (eIf (bBl (eOp eqD (eOp ixD (eVar 2) (eC (.int 0))) (eC (.str "tell")))) (eSeq .lst (aCons (eOp ixD (eVar 2) (eC (.int 1))) (aNil))) (eVar 3))) (sFor (iSeq (eVar 3)) (tName 4) (L_names_of_k47_0 A))))
noncomputable def B_names_of_k47 (A : Ad) : RV.Env → MS := sSeq (sAsg 1 (eSeq .lst (aNil))) (sSeq (sFor (iSeq (eVar 0)) (tName 2) (L_names_of_k47_1 A)) (sRet (eCall tupleD (aCons (eUn sortSetD (eVar 1)) (aNil)))))
theorem E_names_of_k47 (A : Ad) : ∃ g : List D → M, g = fnD 6 (B_names_of_k47 A) := ⟨_, rfl⟩
noncomputable def G_names_of_k47 (A : Ad) : List D → M := (E_names_of_k47 A).choose
theorem D_names_of_k47 (A : Ad) : G_names_of_k47 A = fnD 6 (B_names_of_k47 A) := (E_names_of_k47 A).choose_spec
/-! Rule.read -/
noncomputable def B_Rule_read (A : Ad) : RV.Env → MS := sSeq (sIf (bNot (bTru truD (eCall (isiD (own A) (tab A)) (aCons (eVar 1) (aCons (eC (.ty "str")) (aNil)))))) (sNever) (sNil)) (sSeq (sCalm (sAsg 2 (eMakeL 0 .still (A.c "Rule") 2 (G_Rule_init A) [] (aCons (eCall tupleD (aCons (eOpT splitD (eVar 1) (eC (.str "\n"))) (aNil))) (aNil))))) (sRet (eVar 2)))
theorem E_Rule_read (A : Ad) : ∃ g : List D → M, g = fnD 3 (B_Rule_read A) := ⟨_, rfl⟩
noncomputable def G_Rule_read (A : Ad) : List D → M := (E_Rule_read A).choose
theorem D_Rule_read (A : Ad) : G_Rule_read A = fnD 3 (B_Rule_read A) := (E_Rule_read A).choose_spec
/-! Rule.rows -/
noncomputable def B_Rule_rows (A : Ad) : RV.Env → MS := sRet (eUn (fldD (A.c "Rule") "lines") (eVar 0))
theorem E_Rule_rows (A : Ad) : ∃ g : List D → M, g = fnD 1 (B_Rule_rows A) := ⟨_, rfl⟩
noncomputable def G_Rule_rows (A : Ad) : List D → M := (E_Rule_rows A).choose
theorem D_Rule_rows (A : Ad) : G_Rule_rows A = fnD 1 (B_Rule_rows A) := (E_Rule_rows A).choose_spec
/-! Rule.__str__ -/
noncomputable def B_Rule_str (A : Ad) : RV.Env → MS := sRet (eOpT joinD (eC (.str "\n")) (eUn (fldD (A.c "Rule") "lines") (eVar 0)))
theorem E_Rule_str (A : Ad) : ∃ g : List D → M, g = fnD 1 (B_Rule_str A) := ⟨_, rfl⟩
noncomputable def G_Rule_str (A : Ad) : List D → M := (E_Rule_str A).choose
theorem D_Rule_str (A : Ad) : G_Rule_str A = fnD 1 (B_Rule_str A) := (E_Rule_str A).choose_spec
/-! Rule.__eq__ -/
noncomputable def B_Rule_eq (A : Ad) : RV.Env → MS := sRet (eAnd (eCall (isiD (own A) (tab A)) (aCons (eVar 1) (aCons (eC (.adr (A.c "Rule"))) (aNil)))) (eOp eqD (eUn (fldD (A.c "Rule") "lines") (eVar 0)) (eUn (fldD (A.c "Rule") "lines") (eVar 1))))
theorem E_Rule_eq (A : Ad) : ∃ g : List D → M, g = fnD 2 (B_Rule_eq A) := ⟨_, rfl⟩
noncomputable def G_Rule_eq (A : Ad) : List D → M := (E_Rule_eq A).choose
theorem D_Rule_eq (A : Ad) : G_Rule_eq A = fnD 2 (B_Rule_eq A) := (E_Rule_eq A).choose_spec
/-! Rule.__bool__ -/
noncomputable def B_Rule_bool (A : Ad) : RV.Env → MS := sRet (eC (.bl true))
theorem E_Rule_bool (A : Ad) : ∃ g : List D → M, g = fnD 1 (B_Rule_bool A) := ⟨_, rfl⟩
noncomputable def G_Rule_bool (A : Ad) : List D → M := (E_Rule_bool A).choose
theorem D_Rule_bool (A : Ad) : G_Rule_bool A = fnD 1 (B_Rule_bool A) := (E_Rule_bool A).choose_spec
/-! _law_right -/
noncomputable def C_right_k47_0 (A : Ad) : RV.Env → M := eFn 1 (G_line_k47 A) [] (aCons (eVar 16) (aNil))
noncomputable def C_right_k47_1 (A : Ad) : RV.Env → M := eFn 1 (G_line_k47 A) [] (aCons (eVar 16) (aNil))
noncomputable def L_right_k47_0 (A : Ad) : RV.Env → MS := sIf (bBl (eOp neD (eCall reprD3 (aCons (eSeq .lst (aCons (eProp (A.c "Rule") (G_Rule_rows A) (eVar 12)) (aCons (eProp (A.c "Rule") (G_Rule_meters A) (eVar 12)) (aCons (eCallM (lenOwnD (A.c "Rule") (G_Rule_len A)) (aCons (eVar 12) (aNil))) (aCons (eCallM (strOwnD (A.c "Rule") (G_Rule_str A)) (aCons (eVar 12) (aNil))) (aNil)))))) (aNil))) (eVar 6))) (sRet (eC (.bl false))) (sNil)
noncomputable def B_right_k47 (A : Ad) : RV.Env → MS := sSeq (sAsg 1 (eFn 2 (G_titles_k47 A) [] (aCons (eVar 0) (aCons (eOp addD (eC (.int 1)) (eFn 2 (G_take_k47 A) [] (aCons (eVar 0) (aCons (eC (.int 6)) (aNil))))) (aNil))))) (sSeq (sPar2 2 3 (aCons (eFn 4 (G_steps_k47 A) [] (aCons (eVar 0) (aCons (eVar 1) (aCons (eC (.int 8)) (aCons (eOp addD (eOp powD (eC (.int 10)) (eC (.int 19))) (eC (.int 7))) (aNil)))))) (aCons (eFn 4 (G_steps_k47 A) [] (aCons (eVar 0) (aCons (eVar 1) (aCons (eC (.int 8)) (aCons (eC (.int 7)) (aNil)))))) (aNil)))) (sSeq (sPar2 4 5 (aCons (eCall tupleD (aCons (eLc .still (iSeq (eVar 2)) (tName 16) (bYes) (C_right_k47_0 A) [16]) (aNil))) (aCons (eCall tupleD (aCons (eLc .still (iSeq (eVar 3)) (tName 16) (bYes) (C_right_k47_1 A) [16]) (aNil))) (aNil)))) (sSeq (sAsg 6 (eCall reprD3 (aCons (eSeq .lst (aCons (eVar 4) (aCons (eFn 1 (G_names_of_k47 A) [] (aCons (eVar 2) (aNil))) (aCons (eCall lenD (aCons (eVar 4) (aNil))) (aCons (eOpT joinD (eC (.str "\n")) (eVar 4)) (aNil)))))) (aNil)))) (sSeq (sPar2 7 8 (aCons (eMake .still (A.c "Rule") 2 (G_Rule_init A) [] (aCons (eVar 4) (aNil))) (aCons (eCm (A.c "Rule") 2 (G_Rule_read A) (eC (.adr (A.c "Rule"))) (aCons (eOpT joinD (eC (.str "\n")) (eVar 4)) (aNil))) (aNil)))) (sSeq (sPar2 9 10 (aCons (eMakeK .still (A.c "Rule") 2 0 1 (G_Rule_init A) (perm [0]) aNil (aCons (eVar 4) (aNil))) (aCons (eMake .still (A.c "Rule") 2 (G_Rule_init A) [] (aCons (eVar 5) (aNil))) (aNil)))) (sSeq (sAsg 11 (eMake .still (A.c "Rule") 2 (G_Rule_init A) [] (aCons (eOp catTD (eSl slTD (eVar 4) (oNone) (oSome (eUn negD (eC (.int 1))))) (eSeq .tup (aCons (eIf (bBl (eOp eqD (eOp ixD (eVar 4) (eUn negD (eC (.int 1)))) (eC (.str "doubt")))) (eC (.str "tell 0")) (eC (.str "doubt"))) (aNil)))) (aNil)))) (sSeq (sFor (iSeq (eSeq .lst (aCons (eVar 7) (aCons (eVar 8) (aCons (eVar 9) (aCons (eVar 7) (aNil))))))) (tName 12) (L_right_k47_0 A)) (sSeq (sAsg 13 (eOp eqD (eVar 4) (eVar 5))) (sSeq (sAsg 14 (eSeq .lst (aCons (eOpM (eqOwnD (A.c "Rule") (own A) (G_Rule_eq A) false (nf A)) (eVar 7) (eVar 8)) (aCons (eOpM (eqOwnD (A.c "Rule") (own A) (G_Rule_eq A) false (nf A)) (eVar 8) (eVar 7)) (aCons (eOpM (eqOwnD (A.c "Rule") (own A) (G_Rule_eq A) true (nf A)) (eVar 7) (eVar 9)) (aCons (eOpM (eqOwnD (A.c "Rule") (own A) (G_Rule_eq A) false (nf A)) (eVar 7) (eVar 10)) (aCons (eOpM (eqOwnD (A.c "Rule") (own A) (G_Rule_eq A) false (nf A)) (eVar 10) (eVar 7)) (aCons (eOpM (eqOwnD (A.c "Rule") (own A) (G_Rule_eq A) true (nf A)) (eVar 7) (eVar 10)) (aCons (eOpM (eqOwnD (A.c "Rule") (own A) (G_Rule_eq A) false (nf A)) (eVar 7) (eVar 11)) (aNil)))))))))) (sSeq (sAsg 14 (eOp addD (eVar 14) (eSeq .lst (aCons (eOpM (eqOwnD (A.c "Rule") (own A) (G_Rule_eq A) true (nf A)) (eVar 11) (eVar 7)) (aCons (eOpM (eqOwnD (A.c "Rule") (own A) (G_Rule_eq A) false (nf A)) (eVar 7) (eVar 4)) (aCons (eOpM (eqOwnD (A.c "Rule") (own A) (G_Rule_eq A) true (nf A)) (eVar 7) (eCallM (strOwnD (A.c "Rule") (G_Rule_str A)) (aCons (eVar 7) (aNil)))) (aCons (eOpM (eqOwnD (A.c "Rule") (own A) (G_Rule_eq A) false (nf A)) (eVar 7) (eC .non)) (aCons (eCallM (boolOwnD (A.c "Rule") (G_Rule_bool A)) (aCons (eVar 7) (aNil))) (aCons (eCallM (boolOwnD (A.c "Rule") (G_Rule_bool A)) (aCons (eVar 11) (aNil))) (aNil)))))))))) (sSeq (sAsg 15 (eSeq .lst (aCons (eC (.bl true)) (aCons (eC (.bl true)) (aCons (eC (.bl false)) (aCons (eVar 13) (aCons (eVar 13) (aCons (eNotT (bTru truD (eVar 13))) (aCons (eC (.bl false)) (aCons (eC (.bl true)) (aCons (eC (.bl false)) (aCons (eC (.bl true)) (aCons (eC (.bl false)) (aCons (eC (.bl true)) (aCons (eC (.bl true)) (aNil)))))))))))))))) (sRet (eAnd (eOp eqD (eCall reprD3 (aCons (eVar 14) (aNil))) (eCall reprD3 (aCons (eVar 15) (aNil)))) (eOp eqD (eCall reprD3 (aCons (eSeq .lst (aCons (eProp (A.c "Rule") (G_Rule_rows A) (eVar 10)) (aCons (eCallM (lenOwnD (A.c "Rule") (G_Rule_len A)) (aCons (eVar 10) (aNil))) (aNil)))) (aNil))) (eCall reprD3 (aCons (eSeq .lst (aCons (eVar 5) (aCons (eCall lenD (aCons (eVar 5) (aNil))) (aNil)))) (aNil)))))))))))))))))
theorem E_right_k47 (A : Ad) : ∃ g : List D → M, g = fnD 17 (B_right_k47 A) := ⟨_, rfl⟩
noncomputable def G_right_k47 (A : Ad) : List D → M := (E_right_k47 A).choose
theorem D_right_k47 (A : Ad) : G_right_k47 A = fnD 17 (B_right_k47 A) := (E_right_k47 A).choose_spec
/-! law -/
noncomputable def C_law_k47_0 (A : Ad) : RV.Env → M := eProp (A.c "Rule") (G_Rule_meters A) (eVar 5)
noncomputable def C_law_k47_1 (A : Ad) : RV.Env → M := eCallM (lenOwnD (A.c "Rule") (G_Rule_len A)) (aCons (eVar 5) (aNil))
noncomputable def C_law_k47_2 (A : Ad) : RV.Env → M := eFn 1 (G_right_k47 A) [] (aCons (eFn 2 (G_spring_k47 A) [] (aCons (eVar 0) (aCons (eVar 6) (aNil)))) (aNil))
noncomputable def B_law_k47 (A : Ad) : RV.Env → MS := sSeq (sAsg 1 (eMake .still (A.c "Rule") 2 (G_Rule_init A) [] (aCons (eSeq .tup (aCons (eC (.str "if m1 == m2 + m3 go 2")) (aCons (eC (.str "tell m4 + m5")) (aCons (eC (.str "tell m1")) (aNil))))) (aNil)))) (sSeq (sAsg 2 (eSeq .lst (aCons (eMake .still (A.c "Rule") 2 (G_Rule_init A) [] (aCons (eSeq .tup (aCons (eC (.str "doubt")) (aNil))) (aNil))) (aCons (eMake .still (A.c "Rule") 2 (G_Rule_init A) [] (aCons (eSeq .tup (aCons (eC (.str "tell 0")) (aNil))) (aNil))) (aCons (eMake .still (A.c "Rule") 2 (G_Rule_init A) [] (aCons (eOp catTD (eSeq .tup (aCons (eC (.str "if 0 == 0 go 7")) (aNil))) (eOp repTD (eSeq .tup (aCons (eC (.str "tell -3*go + if")) (aNil))) (eC (.int 7)))) (aNil))) (aNil)))))) (sSeq (sAsg 3 (eMake .still (A.c "Rule") 2 (G_Rule_init A) [] (aCons (eSeq .tup (aCons (eOp addD (eOp addD (eOp addD (eOp addD (eC (.str "vote 3: ")) (eOp mulSD (eC (.str "1")) (eC (.int 40)))) (eC (.str "*a - "))) (eOp mulSD (eC (.str "9")) (eC (.int 40)))) (eSl slD (eC (.str "*b12345678")) (oNone) (oSome (eC (.int 9))))) (aCons (eC (.str "tell z - zz")) (aNil)))) (aNil)))) (sSeq (sAsg 4 (eSeq .lst (aCons (eCallM (lenOwnD (A.c "Rule") (G_Rule_len A)) (aCons (eVar 1) (aNil))) (aCons (eProp (A.c "Rule") (G_Rule_meters A) (eVar 1)) (aCons (eLc .still (iSeq (eVar 2)) (tName 5) (bYes) (C_law_k47_0 A) [5]) (aCons (eLc .still (iSeq (eVar 2)) (tName 5) (bYes) (C_law_k47_1 A) [5]) (aCons (eProp (A.c "Rule") (G_Rule_meters A) (eVar 3)) (aCons (eCallM (lenOwnD (A.c "Rule") (G_Rule_len A)) (aCons (eVar 3) (aNil))) (aNil))))))))) (sSeq (sIf (bBl (eOp neD (eCall reprD3 (aCons (eVar 4) (aNil))) (eCall reprD3 (aCons (eSeq .lst (aCons (eC (.int 3)) (aCons (eSeq .tup (aCons (eC (.str "m1")) (aCons (eC (.str "m2")) (aCons (eC (.str "m3")) (aCons (eC (.str "m4")) (aCons (eC (.str "m5")) (aNil))))))) (aCons (eSeq .lst (aCons (eSeq .tup (aNil)) (aCons (eSeq .tup (aNil)) (aCons (eSeq .tup (aCons (eC (.str "go")) (aCons (eC (.str "if")) (aNil)))) (aNil))))) (aCons (eSeq .lst (aCons (eC (.int 1)) (aCons (eC (.int 1)) (aCons (eC (.int 8)) (aNil))))) (aCons (eSeq .tup (aCons (eC (.str "a")) (aCons (eC (.str "b1234567")) (aCons (eC (.str "z")) (aCons (eC (.str "zz")) (aNil)))))) (aCons (eC (.int 2)) (aNil)))))))) (aNil))))) (sRet (eC (.bl false))) (sNil)) (sRet (eCall allD (aCons (eLc .still (iRange1 (aCons (eCall max2D (aCons (eC (.int 2)) (aCons (eCall min2D (aCons (eCall lenD (aCons (eVar 0) (aNil))) (aCons (eC (.int 5)) (aNil)))) (aNil)))) (aNil))) (tName 6) (bYes) (C_law_k47_2 A) [6]) (aNil))))))))
theorem E_law_k47 (A : Ad) : ∃ g : List D → M, g = fnD 7 (B_law_k47 A) := ⟨_, rfl⟩
noncomputable def G_law_k47 (A : Ad) : List D → M := (E_law_k47 A).choose
theorem D_law_k47 (A : Ad) : G_law_k47 A = fnD 7 (B_law_k47 A) := (E_law_k47 A).choose_spec
end RV
end
section
noncomputable section
namespace K47
open PySem L2 RV
structure Txt (K : PySem.W.Frag) (mg : Str → Option Value) (A : Ad) : Prop where
  n_abs : mg "abs" = none
  n_all : mg "all" = none
  n_any : mg "any" = none
  n_bool : mg "bool" = none
  n_divmod : mg "divmod" = none
  n_enumerate : mg "enumerate" = none
  n_int : mg "int" = none
  n_isinstance : mg "isinstance" = none
  n_len : mg "len" = none
  n_list : mg "list" = none
  n_max : mg "max" = none
  n_min : mg "min" = none
  n_range : mg "range" = none
  n_repr : mg "repr" = none
  n_set : mg "set" = none
  n_sorted : mg "sorted" = none
  n_str : mg "str" = none
  n_tuple : mg "tuple" = none
  g_BLOCK : ∃ t, mg "BLOCK" = some (.int 1000000000000000000000000000000 t)
  g_DIGITS : ∃ t, mg "DIGITS" = some (.str "0123456789" t)
  g_LETTERS : ∃ t, mg "LETTERS" = some (.str "abcdefghijklmnopqrstuvwxyz" t)
  g_LONGEST_NAME : ∃ t, mg "LONGEST_NAME" = some (.int 8 t)
  g_MOST_FAULTS : ∃ t, mg "MOST_FAULTS" = some (.int 3 t)
  g_MOST_ROWS : ∃ t, mg "MOST_ROWS" = some (.int 8 t)
  g_MOST_SUMS : ∃ t, mg "MOST_SUMS" = some (.int 10 t)
  m_Sum : mg "Sum" = some (.ref (A.c "Sum"))
  m_Rule : mg "Rule" = some (.ref (A.c "Rule"))
  k_Sum : KindC K (A.c "Sum")
  k_Rule : KindC K (A.c "Rule")
  no_Rule_lines : NoAttr K (A.c "Rule") "lines"
  no_Rule_steps : NoAttr K (A.c "Rule") "steps"
  no_Sum_kept : NoAttr K (A.c "Sum") "kept"
  own : ∀ C, own A C = true → KindC K C
  kit : ∀ t u b, tab A t u = some b → PySem.W.kitOne K t u = some b
  nf_Rule : ∀ t, nf A t = true → PySem.W.notFirst K (A.c "Rule") t = true
/-! ### goal_with -/
theorem sc_goal_with : FnScope ["text", "index", "many", "goal"] ["text", "index", "many"] (defScope s_goal_with) := ⟨rfl, rfl, rfl, by decide +kernel, rfl, by decide +kernel, by decide +kernel⟩
theorem ok_goal_with {nn : Bool} {P : Program} {w : World} {K : PySem.W.Frag} {mg : Str → Option Value} {base : Heap} {A : Ad} {f : Addr} {fd : FuncData} {dfs : List V} {kfs : List (Str × V)} (T : Txt K mg A) (F : FunD K "goal_with" "goal_with" (defArgs s_goal_with) (defBody s_goal_with) (defScope s_goal_with) dfs kfs f fd)  :
    FnX ⟨false, nn, false⟩ P w K mg base 1 f fd ["text", "index", "many"] (spG K 3 (G_goal_with A)) := by
  rw [D_goal_with]
  refine fn_G F sc_goal_with (fun cdv Ar outer s H E pp hgd hr tk hp => ?_)
  replace hr : Room 0 (Ar.deeper (PyProof.Rows.envOfC "goal_with" (defScope s_goal_with) s.heap.objs.size f cdv)) := hr
  exact gss_cons (gs_if (GW.gt (gw_or (gt_cmp (op_neA hr) ro_neA (ge_callB call_len rc_len T.n_len (by decide +kernel) (ga_cons (ge_var 0) (ga_nil))) (ge_int) (nomark _)) (gw_or1 (gt_cmp op_notIn_sign ro_notInS (ge_var 0) (ge_str) (by rfl))))) (gss_one (gs_ret (ge_non))) (gss_nil))
    (gss_cons (gs_set 3 sc_goal_with.nd (ge_callTy call_int_str rc_intT T.n_int (by decide +kernel) (ga_cons (ge_var 0) (ga_nil))))
    (gss_one (gs_ret (ge_ifExp (GW.gt (gw_and (gt_chain op_lt op_lt ro_lt ro_lt (ge_var 1) (ge_var 3) (ge_var 2)) (gw_and1 (gt_cmp op_lt ro_lt (ge_var 3) (ge_gint T.g_MOST_ROWS) (nomark _))))) (ge_var 3) (ge_non)))))
/-! ### is_name -/
theorem sc_is_name : FnScope ["value", "sign"] ["value"] (defScope s_is_name) := ⟨rfl, rfl, rfl, by decide +kernel, rfl, by decide +kernel, by decide +kernel⟩
theorem ok_is_name {nn : Bool} {P : Program} {w : World} {K : PySem.W.Frag} {mg : Str → Option Value} {base : Heap} {A : Ad} {f : Addr} {fd : FuncData} {dfs : List V} {kfs : List (Str × V)} (T : Txt K mg A) (F : FunD K "is_name" "is_name" (defArgs s_is_name) (defBody s_is_name) (defScope s_is_name) dfs kfs f fd)  :
    FnX ⟨false, nn, false⟩ P w K mg base 1 f fd ["value"] (spG K 1 (G_is_name A)) := by
  rw [D_is_name]
  refine fn_G F sc_is_name (fun cdv Ar outer s H E pp hgd hr tk hp => ?_)
  replace hr : Room 0 (Ar.deeper (PyProof.Rows.envOfC "is_name" (defScope s_is_name) s.heap.objs.size f cdv)) := hr
  exact gss_cons (gs_if (GW.gt (gw_or (gt_not (gt_tru tru_ok rt_tru (ge_callB call_isi (rc_isi T.own T.kit) T.n_isinstance (by decide +kernel) (ga_cons (ge_var 0) (ga_cons (ge_ty T.n_str (by decide +kernel)) (ga_nil)))))) (gw_or (gt_not (gt_chain op_le op_le ro_le ro_le (ge_int) (ge_callB call_len rc_len T.n_len (by decide +kernel) (ga_cons (ge_var 0) (ga_nil))) (ge_gint T.g_LONGEST_NAME))) (gw_or1 (gt_cmp op_notIn_sign ro_notInS (ge_ix ix_seq ro_ix (ge_var 0) (ge_int)) (ge_gstr T.g_LETTERS) (by rfl)))))) (gss_one (gs_ret (ge_bl))) (gss_nil))
    (gss_one (gs_ret (ge_callB (cr_all rfl) rc_all T.n_all (by decide +kernel) (ga_cons (ge_lc (own := [("sign", 1)]) rfl sc_is_name.nd (gi_str (ge_var 0)) (blkOk_by (by rfl)) (fun _ _ _ _ _ => gg_name 1 sc_is_name.nd) (fun _ _ _ _ _ => gts_nil) (fun _ _ _ _ _ => ge_or (ge_cmp op_in_sign ro_inS (ge_var 1) (ge_gstr T.g_LETTERS) (by rfl)) (ge_one (ge_cmp op_in_sign ro_inS (ge_var 1) (ge_gstr T.g_DIGITS) (by rfl))))) (ga_nil)))))
/-! ### read_number -/
theorem sc_read_number : FnScope ["word", "total", "sign"] ["word"] (defScope s_read_number) := ⟨rfl, rfl, rfl, by decide +kernel, rfl, by decide +kernel, by decide +kernel⟩
theorem ok_read_number {nn : Bool} {P : Program} {w : World} {K : PySem.W.Frag} {mg : Str → Option Value} {base : Heap} {A : Ad} {f : Addr} {fd : FuncData} {dfs : List V} {kfs : List (Str × V)} (T : Txt K mg A) (F : FunD K "read_number" "read_number" (defArgs s_read_number) (defBody s_read_number) (defScope s_read_number) dfs kfs f fd)  :
    FnX ⟨false, nn, false⟩ P w K mg base 1 f fd ["word"] (spG K 1 (G_read_number A)) := by
  rw [D_read_number]
  refine fn_G F sc_read_number (fun cdv Ar outer s H E pp hgd hr tk hp => ?_)
  replace hr : Room 0 (Ar.deeper (PyProof.Rows.envOfC "read_number" (defScope s_read_number) s.heap.objs.size f cdv)) := hr
  exact gss_cons (gs_if (GW.gt (gw_or (gt_cmp (op_eqA hr) ro_eqA (ge_var 0) (ge_str) (nomark _)) (gw_or (gt_not (gt_tru tru_ok rt_tru (ge_callB (cr_all rfl) rc_all T.n_all (by decide +kernel) (ga_cons (ge_lc (own := [("sign", 2)]) rfl sc_read_number.nd (gi_str (ge_var 0)) (blkOk_by (by rfl)) (fun _ _ _ _ _ => gg_name 2 sc_read_number.nd) (fun _ _ _ _ _ => gts_nil) (fun _ _ _ _ _ => ge_cmp op_in_sign ro_inS (ge_var 2) (ge_gstr T.g_DIGITS) (by rfl))) (ga_nil))))) (gw_or1 (GW.gt (gw_and (gt_cmp (op_eqA hr) ro_eqA (ge_ix ix_seq ro_ix (ge_var 0) (ge_int)) (ge_str) (nomark _)) (gw_and1 (gt_cmp (op_neA hr) ro_neA (ge_var 0) (ge_str) (nomark _))))))))) (gss_one (gs_ret (ge_non))) (gss_nil))
    (gss_cons (gs_set 1 sc_read_number.nd (ge_int))
    (gss_cons (gs_for hp rfl (gi_str (ge_var 0)) (gg_name 2 sc_read_number.nd) (gss_one (gs_set 1 sc_read_number.nd (ge_op op_addA ro_addA (ge_op op_mul ro_mul (ge_int) (ge_var 1)) (ge_callTy call_int_str rc_intT T.n_int (by decide +kernel) (ga_cons (ge_var 2) (ga_nil)))))))
    (gss_one (gs_ret (ge_var 1)))))
/-! ### read_term -/
theorem sc_read_term : FnScope ["word", "first", "star", "last", "size"] ["word"] (defScope s_read_term) := ⟨rfl, rfl, rfl, by decide +kernel, rfl, by decide +kernel, by decide +kernel⟩
theorem ok_read_term {nn : Bool} {P : Program} {w : World} {K : PySem.W.Frag} {mg : Str → Option Value} {base : Heap} {A : Ad} {f : Addr} {fd : FuncData} {dfs : List V} {kfs : List (Str × V)} (T : Txt K mg A) (F : FunD K "read_term" "read_term" (defArgs s_read_term) (defBody s_read_term) (defScope s_read_term) dfs kfs f fd) (c_is_name : Fc P w K mg base ⟨false, nn, false⟩ "is_name" 1 1 (G_is_name A)) (c_read_number : Fc P w K mg base ⟨false, nn, false⟩ "read_number" 1 1 (G_read_number A)) :
    FnX ⟨false, nn, false⟩ P w K mg base 2 f fd ["word"] (spG K 1 (G_read_term A)) := by
  rw [D_read_term]
  refine fn_G F sc_read_term (fun cdv Ar outer s H E pp hgd hr tk hp => ?_)
  replace hr : Room 1 (Ar.deeper (PyProof.Rows.envOfC "read_term" (defScope s_read_term) s.heap.objs.size f cdv)) := hr
  exact gss_cons (gs_asg (ge_partition (ge_var 0) (ge_str)) (gg_tup rfl (ggs_cons (gg_name 1 sc_read_term.nd) (ggs_cons (gg_name 2 sc_read_term.nd) (ggs_cons (gg_name 3 sc_read_term.nd) (ggs_nil))))))
    (gss_cons (gs_if (gt_cmp (op_eqA hr) ro_eqA (ge_var 2) (ge_str) (nomark _)) (gss_one (gs_ret (ge_ifExp (gt_tru tru_ok rt_tru (ge_callF (h := false) tk c_is_name nogd hr (ga_cons (ge_var 0) (ga_nil)))) (ge_tup (ga_cons (ge_var 0) (ga_cons (ge_int) (ga_nil)))) (ge_non)))) (gss_nil))
    (gss_cons (gs_set 4 sc_read_term.nd (ge_callF (h := false) tk c_read_number nogd hr (ga_cons (ge_var 1) (ga_nil))))
    (gss_one (gs_ret (ge_ifExp (GW.gt (gw_or (gt_cmp op_isN ro_isN (ge_var 4) (ge_non) (nomark _)) (gw_or1 (gt_not (gt_tru tru_ok rt_tru (ge_callF (h := false) tk c_is_name nogd hr (ga_cons (ge_var 3) (ga_nil)))))))) (ge_non) (ge_tup (ga_cons (ge_var 3) (ga_cons (ge_var 4) (ga_nil)))))))))
/-! ### merged -/
theorem sc_merged_l : FnScope ["pairs", "totals", "name", "number"] ["pairs"] (defScope s_merged_l) := ⟨rfl, rfl, rfl, by decide +kernel, rfl, by decide +kernel, by decide +kernel⟩
theorem ok_merged_l {nn : Bool} {P : Program} {w : World} {K : PySem.W.Frag} {mg : Str → Option Value} {base : Heap} {A : Ad} {f : Addr} {fd : FuncData} {dfs : List V} {kfs : List (Str × V)} (T : Txt K mg A) (F : FunD K "merged" "merged" (defArgs s_merged_l) (defBody s_merged_l) (defScope s_merged_l) dfs kfs f fd)  :
    FnX ⟨false, nn, false⟩ P w K mg base 1 f fd ["pairs"] (spG K 1 (G_merged_l A)) := by
  rw [D_merged_l]
  refine fn_G F sc_merged_l (fun cdv Ar outer s H E pp hgd hr tk hp => ?_)
  replace hr : Room 0 (Ar.deeper (PyProof.Rows.envOfC "merged" (defScope s_merged_l) s.heap.objs.size f cdv)) := hr
  exact gss_cons (gs_set 1 sc_merged_l.nd (ge_newDic))
    (gss_cons (gs_for hp rfl (gi_list (ge_var 0)) (gg_tup rfl (ggs_cons (gg_name 2 sc_merged_l.nd) (ggs_cons (gg_name 3 sc_merged_l.nd) (ggs_nil)))) (gss_one (gs_dput (dunits hr) (ge_op op_addA ro_addA (ge_dget2 (dunits hr) (ge_var 1) (ge_var 2) (ge_int)) (ge_var 3)) (ge_var 1) (ge_var 2))))
    (gss_one (gs_ret (ge_callTy call_tuple_p rc_tupleP T.n_tuple (by decide +kernel) (ga_cons (ge_lc (own := [("name", 2)]) rfl sc_merged_l.nd (gi_list (ge_callB (call_sortedD rfl) rc_sortDic T.n_sorted (by decide +kernel) (ga_cons (ge_var 1) (ga_nil)))) (blkOk_by (by rfl)) (fun _ _ _ _ _ => gg_name 2 sc_merged_l.nd) (fun _ _ _ _ _ => gts_one (gt_cmp (op_neA hr) ro_neA (ge_dget (dunits hr) (ge_var 1) (ge_var 2)) (ge_int) (nomark _))) (fun _ _ _ _ _ => ge_tup (ga_cons (ge_var 2) (ga_cons (ge_dget (dunits hr) (ge_var 1) (ge_var 2)) (ga_nil))))) (ga_nil))))))
/-! ### digits_of -/
theorem sc_digits_of_r1 : FnScope ["number"] ["number"] (defScope s_digits_of_r1) := ⟨rfl, rfl, rfl, by decide +kernel, rfl, by decide +kernel, by decide +kernel⟩
theorem ok_digits_of_r1 {nn : Bool} {P : Program} {w : World} {K : PySem.W.Frag} {mg : Str → Option Value} {base : Heap} {A : Ad} {f : Addr} {fd : FuncData} {dfs : List V} {kfs : List (Str × V)} (T : Txt K mg A) (F : FunD K "digits_of" "digits_of" (defArgs s_digits_of_r1) (defBody s_digits_of_r1) (defScope s_digits_of_r1) dfs kfs f fd)  :
    FnX ⟨false, nn, false⟩ P w K mg base 1 f fd ["number"] (spG K 1 (G_digits_of_r1 A)) := by
  rw [D_digits_of_r1]
  refine fn_G F sc_digits_of_r1 (fun cdv Ar outer s H E pp hgd hr tk hp => ?_)
  replace hr : Room 0 (Ar.deeper (PyProof.Rows.envOfC "digits_of" (defScope s_digits_of_r1) s.heap.objs.size f cdv)) := hr
  exact gss_cons (gs_if (gt_cmp op_lt ro_lt (ge_var 0) (ge_gint T.g_BLOCK) (nomark _)) (gss_one (gs_ret (ge_callTy call_strFl rc_strFl T.n_str (by decide +kernel) (ga_cons (ge_var 0) (ga_nil))))) (gss_nil))
    (gss_one (gs_ret (ge_joined (gj_cons (ge_fmt (ge_never)) (gj_cons (ge_fmt30 (ge_op op_mod ro_mod (ge_var 0) (ge_gint T.g_BLOCK))) (gj_nil))))))
/-! ### digits_of -/
theorem sc_digits_of_r0 : FnScope ["number"] ["number"] (defScope s_digits_of_r0) := ⟨rfl, rfl, rfl, by decide +kernel, rfl, by decide +kernel, by decide +kernel⟩
theorem ok_digits_of_r0 {nn : Bool} {P : Program} {w : World} {K : PySem.W.Frag} {mg : Str → Option Value} {base : Heap} {A : Ad} {f : Addr} {fd : FuncData} {dfs : List V} {kfs : List (Str × V)} (T : Txt K mg A) (F : FunD K "digits_of" "digits_of" (defArgs s_digits_of_r0) (defBody s_digits_of_r0) (defScope s_digits_of_r0) dfs kfs f fd) (c_digits_of_r1 : Fc P w K mg base ⟨false, nn, false⟩ "digits_of" 1 1 (G_digits_of_r1 A)) :
    FnX ⟨false, nn, false⟩ P w K mg base 2 f fd ["number"] (spG K 1 (G_digits_of_r0 A)) := by
  rw [D_digits_of_r0]
  refine fn_G F sc_digits_of_r0 (fun cdv Ar outer s H E pp hgd hr tk hp => ?_)
  replace hr : Room 1 (Ar.deeper (PyProof.Rows.envOfC "digits_of" (defScope s_digits_of_r0) s.heap.objs.size f cdv)) := hr
  exact gss_cons (gs_if (gt_cmp op_lt ro_lt (ge_var 0) (ge_gint T.g_BLOCK) (nomark _)) (gss_one (gs_ret (ge_callTy call_strFl rc_strFl T.n_str (by decide +kernel) (ga_cons (ge_var 0) (ga_nil))))) (gss_nil))
    (gss_one (gs_ret (ge_joined (gj_cons (ge_fmt (ge_callF (h := false) tk c_digits_of_r1 nogd hr (ga_cons (ge_op op_fdivW ro_fdivW (ge_var 0) (ge_gint T.g_BLOCK)) (ga_nil)))) (gj_cons (ge_fmt30 (ge_op op_mod ro_mod (ge_var 0) (ge_gint T.g_BLOCK))) (gj_nil))))))
/-! ### term_text -/
theorem sc_term_text : FnScope ["name", "size"] ["name", "size"] (defScope s_term_text) := ⟨rfl, rfl, rfl, by decide +kernel, rfl, by decide +kernel, by decide +kernel⟩
theorem ok_term_text {nn : Bool} {P : Program} {w : World} {K : PySem.W.Frag} {mg : Str → Option Value} {base : Heap} {A : Ad} {f : Addr} {fd : FuncData} {dfs : List V} {kfs : List (Str × V)} (T : Txt K mg A) (F : FunD K "term_text" "term_text" (defArgs s_term_text) (defBody s_term_text) (defScope s_term_text) dfs kfs f fd) (c_digits_of_r0 : Fc P w K mg base ⟨false, nn, false⟩ "digits_of" 2 1 (G_digits_of_r0 A)) :
    FnX ⟨false, nn, false⟩ P w K mg base 3 f fd ["name", "size"] (spG K 2 (G_term_text A)) := by
  rw [D_term_text]
  refine fn_G F sc_term_text (fun cdv Ar outer s H E pp hgd hr tk hp => ?_)
  replace hr : Room 2 (Ar.deeper (PyProof.Rows.envOfC "term_text" (defScope s_term_text) s.heap.objs.size f cdv)) := hr
  exact gss_one (gs_ret (ge_ifExp (gt_cmp (op_eqA hr) ro_eqA (ge_var 1) (ge_int) (nomark _)) (ge_var 0) (ge_joined (gj_cons (ge_fmt (ge_callF (h := false) tk c_digits_of_r0 nogd hr (ga_cons (ge_var 1) (ga_nil)))) (gj_cons (ge_str) (gj_cons (ge_fmt (ge_var 0)) (gj_nil)))))))
/-! ### text_of -/
theorem sc_text_of : FnScope ["terms", "parts", "text", "name", "number"] ["terms"] (defScope s_text_of) := ⟨rfl, rfl, rfl, by decide +kernel, rfl, by decide +kernel, by decide +kernel⟩
theorem ok_text_of {nn : Bool} {P : Program} {w : World} {K : PySem.W.Frag} {mg : Str → Option Value} {base : Heap} {A : Ad} {f : Addr} {fd : FuncData} {dfs : List V} {kfs : List (Str × V)} (T : Txt K mg A) (F : FunD K "text_of" "text_of" (defArgs s_text_of) (defBody s_text_of) (defScope s_text_of) dfs kfs f fd) (c_term_text : Fc P w K mg base ⟨false, nn, false⟩ "term_text" 3 2 (G_term_text A)) :
    FnX ⟨false, nn, false⟩ P w K mg base 4 f fd ["terms"] (spG K 1 (G_text_of A)) := by
  rw [D_text_of]
  refine fn_G F sc_text_of (fun cdv Ar outer s H E pp hgd hr tk hp => ?_)
  replace hr : Room 3 (Ar.deeper (PyProof.Rows.envOfC "text_of" (defScope s_text_of) s.heap.objs.size f cdv)) := hr
  exact gss_cons (gs_if (gt_cmp (op_eqA hr) ro_eqA (ge_callB call_len rc_len T.n_len (by decide +kernel) (ga_cons (ge_var 0) (ga_nil))) (ge_int) (nomark _)) (gss_one (gs_ret (ge_str))) (gss_nil))
    (gss_cons (gs_setLc 1 (own := [("name", 3), ("number", 4)]) rfl sc_text_of.nd (gi_tup (ge_var 0)) (blkOk_by (by rfl)) (fun _ _ _ _ _ => gg_tup rfl (ggs_cons (gg_name 3 sc_text_of.nd) (ggs_cons (gg_name 4 sc_text_of.nd) (ggs_nil)))) (fun _ _ _ _ _ => gts_nil) (fun _ _ _ _ _ => ge_joined (gj_cons (ge_fmt (ge_ifExp (gt_cmp op_lt ro_lt (ge_var 4) (ge_int) (nomark _)) (ge_str) (ge_str))) (gj_cons (ge_str) (gj_cons (ge_fmt (ge_callF (h := false) tkF c_term_text nogd hr (ga_cons (ge_var 3) (ga_cons (ge_callB call_abs rc_abs T.n_abs (by decide +kernel) (ga_cons (ge_var 4) (ga_nil))) (ga_nil))))) (gj_nil))))) (sw_true rfl rfl rfl (by decide +kernel)))
    (gss_cons (gs_set 2 sc_text_of.nd (ge_join (ge_str) (ge_var 1)))
    (gss_one (gs_ret (ge_ifExp (gt_cmp op_lt ro_lt (ge_ix ix_seq ro_ix (ge_ix ix_seq ro_ix (ge_var 0) (ge_int)) (ge_int)) (ge_int) (nomark _)) (ge_joined (gj_cons (ge_str) (gj_cons (ge_fmt (ge_slice sl_A rsl_A (ge_var 2) (go_some (ge_int)) (go_none))) (gj_nil)))) (ge_slice sl_A rsl_A (ge_var 2) (go_some (ge_int)) (go_none)))))))
/-! ### read_terms -/
theorem sc_read_terms : FnScope ["text", "line", "words", "pairs", "at", "term"] ["text"] (defScope s_read_terms) := ⟨rfl, rfl, rfl, by decide +kernel, rfl, by decide +kernel, by decide +kernel⟩
theorem ok_read_terms {nn : Bool} {P : Program} {w : World} {K : PySem.W.Frag} {mg : Str → Option Value} {base : Heap} {A : Ad} {f : Addr} {fd : FuncData} {dfs : List V} {kfs : List (Str × V)} (T : Txt K mg A) (F : FunD K "read_terms" "read_terms" (defArgs s_read_terms) (defBody s_read_terms) (defScope s_read_terms) dfs kfs f fd) (c_read_term : Fc P w K mg base ⟨false, nn, false⟩ "read_term" 2 1 (G_read_term A)) (c_merged_l : Fc P w K mg base ⟨false, nn, false⟩ "merged" 1 1 (G_merged_l A)) (c_text_of : Fc P w K mg base ⟨false, nn, false⟩ "text_of" 4 1 (G_text_of A)) :
    FnX ⟨false, nn, false⟩ P w K mg base 5 f fd ["text"] (spG K 1 (G_read_terms A)) := by
  rw [D_read_terms]
  refine fn_G F sc_read_terms (fun cdv Ar outer s H E pp hgd hr tk hp => ?_)
  replace hr : Room 4 (Ar.deeper (PyProof.Rows.envOfC "read_terms" (defScope s_read_terms) s.heap.objs.size f cdv)) := hr
  exact gss_cons (gs_if (gt_not (gt_tru tru_ok rt_tru (ge_callB call_isi (rc_isi T.own T.kit) T.n_isinstance (by decide +kernel) (ga_cons (ge_var 0) (ga_cons (ge_ty T.n_str (by decide +kernel)) (ga_nil)))))) (gss_one (gs_ret (ge_non))) (gss_nil))
    (gss_cons (gs_if (gt_cmp (op_eqA hr) ro_eqA (ge_var 0) (ge_str) (nomark _)) (gss_one (gs_ret (ge_tup (ga_nil)))) (gss_nil))
    (gss_cons (gs_set 1 sc_read_terms.nd (ge_ifExp (gt_tru tru_ok rt_tru (ge_startswith (ge_var 0) (ge_str))) (ge_joined (gj_cons (ge_str) (gj_cons (ge_fmt (ge_slice sl_A rsl_A (ge_var 0) (go_some (ge_int)) (go_none))) (gj_nil)))) (ge_joined (gj_cons (ge_str) (gj_cons (ge_fmt (ge_var 0)) (gj_nil))))))
    (gss_cons (gs_set 2 sc_read_terms.nd (ge_split (ge_var 1) (ge_str)))
    (gss_cons (gs_set 3 sc_read_terms.nd (ge_new (ga_nil)))
    (gss_cons (gs_for hp rfl (gi_range3 T.n_range (ga_cons (ge_int) (ga_cons (ge_op op_sub ro_sub (ge_callB call_len rc_len T.n_len (by decide +kernel) (ga_cons (ge_var 2) (ga_nil))) (ge_int)) (ga_cons (ge_int) (ga_nil))))) (gg_name 4 sc_read_terms.nd) (gss_cons (gs_set 5 sc_read_terms.nd (ge_callF (h := false) tk c_read_term nogd hr (ga_cons (ge_ix ix_seq ro_ix (ge_var 2) (ge_op op_addA ro_addA (ge_var 4) (ge_int))) (ga_nil))))
    (gss_cons (gs_if (GW.gt (gw_or (gt_cmp op_notIn_seq ro_in (ge_ix ix_seq ro_ix (ge_var 2) (ge_var 4)) (ge_tup (ga_cons (ge_str) (ga_cons (ge_str) (ga_nil)))) (by rfl)) (gw_or1 (gt_cmp op_isN ro_isN (ge_var 5) (ge_non) (nomark _))))) (gss_one (gs_ret (ge_non))) (gss_nil))
    (gss_one (gs_append (ge_var 3) (ge_tup (ga_cons (ge_ix ix_seq ro_ix (ge_var 5) (ge_int)) (ga_cons (ge_ifExp (gt_cmp (op_eqA hr) ro_eqA (ge_ix ix_seq ro_ix (ge_var 2) (ge_var 4)) (ge_str) (nomark _)) (ge_ix ix_seq ro_ix (ge_var 5) (ge_int)) (ge_un un_neg ru_neg (ge_ix ix_seq ro_ix (ge_var 5) (ge_int)))) (ga_nil)))))))))
    (gss_one (gs_ret (ge_ifExp (gt_cmp (op_eqA hr) ro_eqA (ge_callF (h := false) tk c_text_of nogd hr (ga_cons (ge_forget (ge_callF (h := false) tk c_merged_l nogd hr (ga_cons (ge_var 3) (ga_nil)))) (ga_nil))) (ge_var 0) (nomark _)) (ge_callTy call_tuple_of rc_tuple T.n_tuple (by decide +kernel) (ga_cons (ge_var 3) (ga_nil))) (ge_non)))))))))
/-! ### is_integer -/
theorem sc_is_integer : FnScope ["value"] ["value"] (defScope s_is_integer) := ⟨rfl, rfl, rfl, by decide +kernel, rfl, by decide +kernel, by decide +kernel⟩
theorem ok_is_integer {nn : Bool} {P : Program} {w : World} {K : PySem.W.Frag} {mg : Str → Option Value} {base : Heap} {A : Ad} {f : Addr} {fd : FuncData} {dfs : List V} {kfs : List (Str × V)} (T : Txt K mg A) (F : FunD K "is_integer" "is_integer" (defArgs s_is_integer) (defBody s_is_integer) (defScope s_is_integer) dfs kfs f fd)  :
    FnX ⟨false, nn, false⟩ P w K mg base 1 f fd ["value"] (spG K 1 (G_is_integer A)) := by
  rw [D_is_integer]
  refine fn_G F sc_is_integer (fun cdv Ar outer s H E pp hgd hr tk hp => ?_)
  replace hr : Room 0 (Ar.deeper (PyProof.Rows.envOfC "is_integer" (defScope s_is_integer) s.heap.objs.size f cdv)) := hr
  exact gss_one (gs_ret (ge_and (ge_callB call_isi (rc_isi T.own T.kit) T.n_isinstance (by decide +kernel) (ga_cons (ge_var 0) (ga_cons (ge_ty T.n_int (by decide +kernel)) (ga_nil)))) (ge_one (ge_notT tru_ok rt_tru (ge_callB call_isi (rc_isi T.own T.kit) T.n_isinstance (by decide +kernel) (ga_cons (ge_var 0) (ga_cons (ge_ty T.n_bool (by decide +kernel)) (ga_nil))))))))
/-! ### check_terms -/
theorem sc_check_terms : FnScope ["terms", "index", "pair"] ["terms"] (defScope s_check_terms) := ⟨rfl, rfl, rfl, by decide +kernel, rfl, by decide +kernel, by decide +kernel⟩
theorem ok_check_terms {nn : Bool} {P : Program} {w : World} {K : PySem.W.Frag} {mg : Str → Option Value} {base : Heap} {A : Ad} {f : Addr} {fd : FuncData} {dfs : List V} {kfs : List (Str × V)} (T : Txt K mg A) (F : FunD K "check_terms" "check_terms" (defArgs s_check_terms) (defBody s_check_terms) (defScope s_check_terms) dfs kfs f fd) (c_is_name : Fc P w K mg base ⟨false, nn, false⟩ "is_name" 1 1 (G_is_name A)) (c_is_integer : Fc P w K mg base ⟨false, nn, false⟩ "is_integer" 1 1 (G_is_integer A)) :
    FnX ⟨false, nn, false⟩ P w K mg base 2 f fd ["terms"] (spG K 1 (G_check_terms A)) := by
  rw [D_check_terms]
  refine fn_G F sc_check_terms (fun cdv Ar outer s H E pp hgd hr tk hp => ?_)
  replace hr : Room 1 (Ar.deeper (PyProof.Rows.envOfC "check_terms" (defScope s_check_terms) s.heap.objs.size f cdv)) := hr
  exact gss_cons (gs_if (gt_not (gt_tru tru_ok rt_tru (ge_callB call_isi (rc_isi T.own T.kit) T.n_isinstance (by decide +kernel) (ga_cons (ge_var 0) (ga_cons (ge_ty T.n_tuple (by decide +kernel)) (ga_nil)))))) (gss_one (gs_never)) (gss_nil))
    (gss_one (gs_for hp rfl (gi_enumT T.n_enumerate (ga_cons (ge_var 0) (ga_nil))) (gg_tup rfl (ggs_cons (gg_name 1 sc_check_terms.nd) (ggs_cons (gg_name 2 sc_check_terms.nd) (ggs_nil)))) (gss_one (gs_if (GW.gt (gw_or (gt_not (gt_tru tru_ok rt_tru (ge_callB call_isi (rc_isi T.own T.kit) T.n_isinstance (by decide +kernel) (ga_cons (ge_var 2) (ga_cons (ge_ty T.n_tuple (by decide +kernel)) (ga_nil)))))) (gw_or (gt_cmp (op_neA hr) ro_neA (ge_callB call_len rc_len T.n_len (by decide +kernel) (ga_cons (ge_var 2) (ga_nil))) (ge_int) (nomark _)) (gw_or (gt_not (gt_tru tru_ok rt_tru (ge_callF (h := false) tk c_is_name nogd hr (ga_cons (ge_ix ix_seq ro_ix (ge_var 2) (ge_int)) (ga_nil))))) (gw_or1 (gt_not (gt_tru tru_ok rt_tru (ge_callF (h := false) tk c_is_integer nogd hr (ga_cons (ge_ix ix_seq ro_ix (ge_var 2) (ge_int)) (ga_nil)))))))))) (gss_one (gs_never)) (gss_nil)))))
/-! ### merged -/
theorem sc_merged_t : FnScope ["pairs", "totals", "name", "number"] ["pairs"] (defScope s_merged_t) := ⟨rfl, rfl, rfl, by decide +kernel, rfl, by decide +kernel, by decide +kernel⟩
theorem ok_merged_t {nn : Bool} {P : Program} {w : World} {K : PySem.W.Frag} {mg : Str → Option Value} {base : Heap} {A : Ad} {f : Addr} {fd : FuncData} {dfs : List V} {kfs : List (Str × V)} (T : Txt K mg A) (F : FunD K "merged" "merged" (defArgs s_merged_t) (defBody s_merged_t) (defScope s_merged_t) dfs kfs f fd)  :
    FnX ⟨false, nn, false⟩ P w K mg base 1 f fd ["pairs"] (spG K 1 (G_merged_t A)) := by
  rw [D_merged_t]
  refine fn_G F sc_merged_t (fun cdv Ar outer s H E pp hgd hr tk hp => ?_)
  replace hr : Room 0 (Ar.deeper (PyProof.Rows.envOfC "merged" (defScope s_merged_t) s.heap.objs.size f cdv)) := hr
  exact gss_cons (gs_set 1 sc_merged_t.nd (ge_newDic))
    (gss_cons (gs_for hp rfl (gi_tup (ge_var 0)) (gg_tup rfl (ggs_cons (gg_name 2 sc_merged_t.nd) (ggs_cons (gg_name 3 sc_merged_t.nd) (ggs_nil)))) (gss_one (gs_dput (dunits hr) (ge_op op_addA ro_addA (ge_dget2 (dunits hr) (ge_var 1) (ge_var 2) (ge_int)) (ge_var 3)) (ge_var 1) (ge_var 2))))
    (gss_one (gs_ret (ge_callTy call_tuple_p rc_tupleP T.n_tuple (by decide +kernel) (ga_cons (ge_lc (own := [("name", 2)]) rfl sc_merged_t.nd (gi_list (ge_callB (call_sortedD rfl) rc_sortDic T.n_sorted (by decide +kernel) (ga_cons (ge_var 1) (ga_nil)))) (blkOk_by (by rfl)) (fun _ _ _ _ _ => gg_name 2 sc_merged_t.nd) (fun _ _ _ _ _ => gts_one (gt_cmp (op_neA hr) ro_neA (ge_dget (dunits hr) (ge_var 1) (ge_var 2)) (ge_int) (nomark _))) (fun _ _ _ _ _ => ge_tup (ga_cons (ge_var 2) (ga_cons (ge_dget (dunits hr) (ge_var 1) (ge_var 2)) (ga_nil))))) (ga_nil))))))
/-! ### Sum.__init__ -/
theorem sc_Sum_init : FnScope ["self", "terms"] ["self", "terms"] (defScope s_Sum_init) := ⟨rfl, rfl, rfl, by decide +kernel, rfl, by decide +kernel, by decide +kernel⟩
theorem ok_Sum_init {nn : Bool} {P : Program} {w : World} {K : PySem.W.Frag} {mg : Str → Option Value} {base : Heap} {A : Ad} {f : Addr} {fd : FuncData} {dfs : List V} {kfs : List (Str × V)} (T : Txt K mg A) (F : FunD K "__init__" "Sum.__init__" (defArgs s_Sum_init) (defBody s_Sum_init) (defScope s_Sum_init) dfs kfs f fd) (c_check_terms : Fc P w K mg base ⟨false, nn, false⟩ "check_terms" 2 1 (G_check_terms A)) (c_merged_t : Fc P w K mg base ⟨false, nn, false⟩ "merged" 1 1 (G_merged_t A)) :
    FnX ⟨false, nn, false⟩ P w K mg base 3 f fd ["self", "terms"] (spG K 2 (G_Sum_init A)) := by
  rw [D_Sum_init]
  refine fn_G F sc_Sum_init (fun cdv Ar outer s H E pp hgd hr tk hp => ?_)
  replace hr : Room 2 (Ar.deeper (PyProof.Rows.envOfC "Sum.__init__" (defScope s_Sum_init) s.heap.objs.size f cdv)) := hr
  exact gss_cons (gs_expr (ge_callF (h := false) tk c_check_terms nogd hr (ga_cons (ge_var 1) (ga_nil))))
    (gss_one (gs_fld T.k_Sum.cl T.no_Sum_kept (ge_var 0) (ge_callF (h := false) tk c_merged_t nogd hr (ga_cons (ge_var 1) (ga_nil)))))
/-! ### Sum.read -/
theorem sc_Sum_read : FnScope ["cls", "text", "pairs"] ["cls", "text"] (defScope s_Sum_read) := ⟨rfl, rfl, rfl, by decide +kernel, rfl, by decide +kernel, by decide +kernel⟩
theorem ok_Sum_read {nn : Bool} {P : Program} {w : World} {K : PySem.W.Frag} {mg : Str → Option Value} {base : Heap} {A : Ad} {f : Addr} {fd : FuncData} {dfs : List V} {kfs : List (Str × V)} (T : Txt K mg A) (F : FunD K "read" "Sum.read" (defArgs s_Sum_read) (defBody s_Sum_read) (defScope s_Sum_read) dfs kfs f fd) (c_read_terms : Fc P w K mg base ⟨false, nn, false⟩ "read_terms" 5 1 (G_read_terms A)) (mk_Sum_1 : Mc P w K mg base nn "Sum" (A.c "Sum") 3 2 (G_Sum_init A) []) :
    FnX ⟨false, nn, false⟩ P w K mg base 6 f fd ["cls", "text"] (spG K 2 (G_Sum_read A)) := by
  rw [D_Sum_read]
  refine fn_G F sc_Sum_read (fun cdv Ar outer s H E pp hgd hr tk hp => ?_)
  replace hr : Room 5 (Ar.deeper (PyProof.Rows.envOfC "Sum.read" (defScope s_Sum_read) s.heap.objs.size f cdv)) := hr
  exact gss_cons (gs_set 2 sc_Sum_read.nd (ge_callF (h := false) tk c_read_terms nogd hr (ga_cons (ge_var 1) (ga_nil))))
    (gss_cons (gs_if (gt_cmp op_isN ro_isN (ge_var 2) (ge_non) (nomark _)) (gss_one (gs_never)) (gss_nil))
    (gss_one (gs_ret (ge_makeLF 0 tk mk_Sum_1 hr (ga_cons (ge_var 2) (ga_nil))))))
/-! ### sum_with -/
theorem sc_sum_with : FnScope ["text", "total"] ["text"] (defScope s_sum_with) := ⟨rfl, rfl, rfl, by decide +kernel, rfl, by decide +kernel, by decide +kernel⟩
theorem ok_sum_with {nn : Bool} {P : Program} {w : World} {K : PySem.W.Frag} {mg : Str → Option Value} {base : Heap} {A : Ad} {f : Addr} {fd : FuncData} {dfs : List V} {kfs : List (Str × V)} (T : Txt K mg A) (F : FunD K "sum_with" "sum_with" (defArgs s_sum_with) (defBody s_sum_with) (defScope s_sum_with) dfs kfs f fd) (c_Sum_read : Cm P w K mg base nn (A.c "Sum") "read" 6 2 (G_Sum_read A)) :
    FnX ⟨false, nn, false⟩ P w K mg base 7 f fd ["text"] (spG K 1 (G_sum_with A)) := by
  rw [D_sum_with]
  refine fn_G F sc_sum_with (fun cdv Ar outer s H E pp hgd hr tk hp => ?_)
  replace hr : Room 6 (Ar.deeper (PyProof.Rows.envOfC "sum_with" (defScope s_sum_with) s.heap.objs.size f cdv)) := hr
  exact gss_cons (gs_tryThru (gss_one (gs_set 1 sc_sum_with.nd (ge_cmeth tkF c_Sum_read hr (ge_gref T.m_Sum) (ga_cons (ge_var 0) (ga_nil))))))
    (gss_one (gs_ret (ge_var 1)))
/-! ### test_step -/
theorem sc_test_step : FnScope ["text", "index", "many", "tests", "sign", "end", "first", "equals", "second", "goal", "one", "two"] ["text", "index", "many"] (defScope s_test_step) := ⟨rfl, rfl, rfl, by decide +kernel, rfl, by decide +kernel, by decide +kernel⟩
theorem ok_test_step {nn : Bool} {P : Program} {w : World} {K : PySem.W.Frag} {mg : Str → Option Value} {base : Heap} {A : Ad} {f : Addr} {fd : FuncData} {dfs : List V} {kfs : List (Str × V)} (T : Txt K mg A) (F : FunD K "test_step" "test_step" (defArgs s_test_step) (defBody s_test_step) (defScope s_test_step) dfs kfs f fd) (c_goal_with : Fc P w K mg base ⟨false, nn, false⟩ "goal_with" 1 3 (G_goal_with A)) (c_sum_with : Fc P w K mg base ⟨false, nn, false⟩ "sum_with" 7 1 (G_sum_with A)) :
    FnX ⟨false, nn, false⟩ P w K mg base 8 f fd ["text", "index", "many"] (spG K 3 (G_test_step A)) := by
  rw [D_test_step]
  refine fn_G F sc_test_step (fun cdv Ar outer s H E pp hgd hr tk hp => ?_)
  replace hr : Room 7 (Ar.deeper (PyProof.Rows.envOfC "test_step" (defScope s_test_step) s.heap.objs.size f cdv)) := hr
  exact gss_cons (gs_asg (ge_rpartition (ge_var 0) (ge_str)) (gg_tup rfl (ggs_cons (gg_name 3 sc_test_step.nd) (ggs_cons (gg_name 4 sc_test_step.nd) (ggs_cons (gg_name 5 sc_test_step.nd) (ggs_nil))))))
    (gss_cons (gs_asg (ge_partition (ge_var 3) (ge_str)) (gg_tup rfl (ggs_cons (gg_name 6 sc_test_step.nd) (ggs_cons (gg_name 7 sc_test_step.nd) (ggs_cons (gg_name 8 sc_test_step.nd) (ggs_nil))))))
    (gss_cons (gs_set 9 sc_test_step.nd (ge_callF (h := false) tk c_goal_with nogd hr (ga_cons (ge_var 5) (ga_cons (ge_var 1) (ga_cons (ge_var 2) (ga_nil))))))
    (gss_cons (gs_par2 10 11 rfl sc_test_step.nd (ga_cons (ge_callF (h := false) tk c_sum_with nogd hr (ga_cons (ge_var 6) (ga_nil))) (ga_cons (ge_callF (h := false) tk c_sum_with nogd hr (ga_cons (ge_var 8) (ga_nil))) (ga_nil))))
    (gss_cons (gs_if (GW.gt (gw_or (gt_cmp (op_eqA hr) ro_eqA (ge_var 4) (ge_str) (nomark _)) (gw_or (gt_cmp (op_eqA hr) ro_eqA (ge_var 7) (ge_str) (nomark _)) (gw_or (gt_cmp op_isN ro_isN (ge_var 10) (ge_non) (nomark _)) (gw_or (gt_cmp op_isN ro_isN (ge_var 11) (ge_non) (nomark _)) (gw_or1 (gt_cmp op_isN ro_isN (ge_var 9) (ge_non) (nomark _)))))))) (gss_one (gs_ret (ge_non))) (gss_nil))
    (gss_one (gs_ret (ge_tup (ga_cons (ge_str) (ga_cons (ge_var 10) (ga_cons (ge_var 11) (ga_cons (ge_var 9) (ga_nil))))))))))))
/-! ### vote_step -/
theorem sc_vote_step : FnScope ["text", "number", "sign", "tail", "totals", "numbers", "part", "most", "total"] ["text"] (defScope s_vote_step) := ⟨rfl, rfl, rfl, by decide +kernel, rfl, by decide +kernel, by decide +kernel⟩
theorem ok_vote_step {nn : Bool} {P : Program} {w : World} {K : PySem.W.Frag} {mg : Str → Option Value} {base : Heap} {A : Ad} {f : Addr} {fd : FuncData} {dfs : List V} {kfs : List (Str × V)} (T : Txt K mg A) (F : FunD K "vote_step" "vote_step" (defArgs s_vote_step) (defBody s_vote_step) (defScope s_vote_step) dfs kfs f fd) (c_sum_with : Fc P w K mg base ⟨false, nn, false⟩ "sum_with" 7 1 (G_sum_with A)) :
    FnX ⟨false, nn, false⟩ P w K mg base 8 f fd ["text"] (spG K 1 (G_vote_step A)) := by
  rw [D_vote_step]
  refine fn_G F sc_vote_step (fun cdv Ar outer s H E pp hgd hr tk hp => ?_)
  replace hr : Room 7 (Ar.deeper (PyProof.Rows.envOfC "vote_step" (defScope s_vote_step) s.heap.objs.size f cdv)) := hr
  exact gss_cons (gs_asg (ge_partition (ge_var 0) (ge_str)) (gg_tup rfl (ggs_cons (gg_name 1 sc_vote_step.nd) (ggs_cons (gg_name 2 sc_vote_step.nd) (ggs_cons (gg_name 3 sc_vote_step.nd) (ggs_nil))))))
    (gss_cons (gs_setLc 4 (own := [("part", 6)]) rfl sc_vote_step.nd (gi_list (ge_split (ge_var 3) (ge_str))) (blkOk_by (by rfl)) (fun _ _ _ _ _ => gg_name 6 sc_vote_step.nd) (fun _ _ _ _ _ => gts_nil) (fun _ _ _ _ _ => ge_callF (h := false) tkF c_sum_with nogd hr (ga_cons (ge_var 6) (ga_nil))) (sw_true rfl rfl rfl (by decide +kernel)))
    (gss_cons (gs_setLc 5 (own := [("most", 7)]) rfl sc_vote_step.nd (gi_range1 T.n_range (ga_cons (ge_op op_addA ro_addA (ge_gint T.g_MOST_FAULTS) (ge_int)) (ga_nil))) (blkOk_by (by rfl)) (fun _ _ _ _ _ => gg_name 7 sc_vote_step.nd) (fun _ _ _ _ _ => gts_nil) (fun _ _ _ _ _ => ge_callTy call_strFl rc_strFl T.n_str (by decide +kernel) (ga_cons (ge_var 7) (ga_nil))) (sw_true rfl rfl rfl (by decide +kernel)))
    (gss_cons (gs_if (GW.gt (gw_or (gt_cmp (op_eqA hr) ro_eqA (ge_var 2) (ge_str) (nomark _)) (gw_or (gt_cmp op_notIn_seq ro_in (ge_var 1) (ge_var 5) (by rfl)) (gw_or (gt_cmp op_gt ro_gt (ge_callB call_len rc_len T.n_len (by decide +kernel) (ga_cons (ge_var 4) (ga_nil))) (ge_gint T.g_MOST_SUMS) (nomark _)) (gw_or1 (gt_tru tru_ok rt_tru (ge_callB (cr_any rfl) rc_any T.n_any (by decide +kernel) (ga_cons (ge_lc (own := [("total", 8)]) rfl sc_vote_step.nd (gi_list (ge_var 4)) (blkOk_by (by rfl)) (fun _ _ _ _ _ => gg_name 8 sc_vote_step.nd) (fun _ _ _ _ _ => gts_nil) (fun _ _ _ _ _ => ge_cmp op_isN ro_isN (ge_var 8) (ge_non) (nomark _))) (ga_nil))))))))) (gss_one (gs_ret (ge_non))) (gss_nil))
    (gss_one (gs_ret (ge_tup (ga_cons (ge_str) (ga_cons (ge_callTy call_int_str rc_intT T.n_int (by decide +kernel) (ga_cons (ge_var 1) (ga_nil))) (ga_cons (ge_callTy call_tuple_of rc_tuple T.n_tuple (by decide +kernel) (ga_cons (ge_var 4) (ga_nil))) (ga_nil))))))))))
/-! ### step_of -/
theorem sc_step_of : FnScope ["row", "index", "many", "word", "sign", "text", "total"] ["row", "index", "many"] (defScope s_step_of) := ⟨rfl, rfl, rfl, by decide +kernel, rfl, by decide +kernel, by decide +kernel⟩
theorem ok_step_of {nn : Bool} {P : Program} {w : World} {K : PySem.W.Frag} {mg : Str → Option Value} {base : Heap} {A : Ad} {f : Addr} {fd : FuncData} {dfs : List V} {kfs : List (Str × V)} (T : Txt K mg A) (F : FunD K "step_of" "step_of" (defArgs s_step_of) (defBody s_step_of) (defScope s_step_of) dfs kfs f fd) (c_sum_with : Fc P w K mg base ⟨false, nn, false⟩ "sum_with" 7 1 (G_sum_with A)) (c_test_step : Fc P w K mg base ⟨false, nn, false⟩ "test_step" 8 3 (G_test_step A)) (c_vote_step : Fc P w K mg base ⟨false, nn, false⟩ "vote_step" 8 1 (G_vote_step A)) :
    FnX ⟨false, nn, false⟩ P w K mg base 9 f fd ["row", "index", "many"] (spG K 3 (G_step_of A)) := by
  rw [D_step_of]
  refine fn_G F sc_step_of (fun cdv Ar outer s H E pp hgd hr tk hp => ?_)
  replace hr : Room 8 (Ar.deeper (PyProof.Rows.envOfC "step_of" (defScope s_step_of) s.heap.objs.size f cdv)) := hr
  exact gss_cons (gs_if (gt_not (gt_tru tru_ok rt_tru (ge_callB call_isi (rc_isi T.own T.kit) T.n_isinstance (by decide +kernel) (ga_cons (ge_var 0) (ga_cons (ge_ty T.n_str (by decide +kernel)) (ga_nil)))))) (gss_one (gs_ret (ge_non))) (gss_nil))
    (gss_cons (gs_if (gt_cmp (op_eqA hr) ro_eqA (ge_var 0) (ge_str) (nomark _)) (gss_one (gs_ret (ge_tup (ga_cons (ge_str) (ga_nil))))) (gss_nil))
    (gss_cons (gs_asg (ge_partition (ge_var 0) (ge_str)) (gg_tup rfl (ggs_cons (gg_name 3 sc_step_of.nd) (ggs_cons (gg_name 4 sc_step_of.nd) (ggs_cons (gg_name 5 sc_step_of.nd) (ggs_nil))))))
    (gss_cons (gs_if (gt_cmp (op_eqA hr) ro_eqA (ge_var 3) (ge_str) (nomark _)) (gss_one (gs_ret (ge_callF (h := false) tk c_test_step nogd hr (ga_cons (ge_var 5) (ga_cons (ge_var 1) (ga_cons (ge_var 2) (ga_nil))))))) (gss_nil))
    (gss_cons (gs_if (gt_cmp (op_eqA hr) ro_eqA (ge_var 3) (ge_str) (nomark _)) (gss_one (gs_ret (ge_callF (h := false) tk c_vote_step nogd hr (ga_cons (ge_var 5) (ga_nil))))) (gss_nil))
    (gss_cons (gs_set 6 sc_step_of.nd (ge_callF (h := false) tk c_sum_with nogd hr (ga_cons (ge_var 5) (ga_nil))))
    (gss_one (gs_ret (ge_ifExp (GW.gt (gw_and (gt_cmp (op_eqA hr) ro_eqA (ge_var 3) (ge_str) (nomark _)) (gw_and1 (gt_cmp op_notN ro_notN (ge_var 6) (ge_non) (nomark _))))) (ge_tup (ga_cons (ge_str) (ga_cons (ge_var 6) (ga_nil)))) (ge_non)))))))))
/-! ### Rule.__init__ -/
theorem sc_Rule_init : FnScope ["self", "rows", "found", "index", "row", "step"] ["self", "rows"] (defScope s_Rule_init) := ⟨rfl, rfl, rfl, by decide +kernel, rfl, by decide +kernel, by decide +kernel⟩
theorem ok_Rule_init {nn : Bool} {P : Program} {w : World} {K : PySem.W.Frag} {mg : Str → Option Value} {base : Heap} {A : Ad} {f : Addr} {fd : FuncData} {dfs : List V} {kfs : List (Str × V)} (T : Txt K mg A) (F : FunD K "__init__" "Rule.__init__" (defArgs s_Rule_init) (defBody s_Rule_init) (defScope s_Rule_init) dfs kfs f fd) (c_step_of : Fc P w K mg base ⟨false, nn, false⟩ "step_of" 9 3 (G_step_of A)) :
    FnX ⟨false, nn, false⟩ P w K mg base 10 f fd ["self", "rows"] (spG K 2 (G_Rule_init A)) := by
  rw [D_Rule_init]
  refine fn_G F sc_Rule_init (fun cdv Ar outer s H E pp hgd hr tk hp => ?_)
  replace hr : Room 9 (Ar.deeper (PyProof.Rows.envOfC "Rule.__init__" (defScope s_Rule_init) s.heap.objs.size f cdv)) := hr
  exact gss_cons (gs_if (GW.gt (gw_or (gt_not (gt_tru tru_ok rt_tru (ge_callB call_isi (rc_isi T.own T.kit) T.n_isinstance (by decide +kernel) (ga_cons (ge_var 1) (ga_cons (ge_ty T.n_tuple (by decide +kernel)) (ga_nil)))))) (gw_or1 (gt_cmp (op_eqA hr) ro_eqA (ge_var 1) (ge_tup (ga_nil)) (nomark _))))) (gss_one (gs_never)) (gss_nil))
    (gss_cons (gs_set 2 sc_Rule_init.nd (ge_new (ga_nil)))
    (gss_cons (gs_for hp rfl (gi_enumT T.n_enumerate (ga_cons (ge_var 1) (ga_nil))) (gg_tup rfl (ggs_cons (gg_name 3 sc_Rule_init.nd) (ggs_cons (gg_name 4 sc_Rule_init.nd) (ggs_nil)))) (gss_cons (gs_set 5 sc_Rule_init.nd (ge_ifExp (gt_cmp op_lt ro_lt (ge_var 3) (ge_gint T.g_MOST_ROWS) (nomark _)) (ge_callF (h := false) tk c_step_of nogd hr (ga_cons (ge_var 4) (ga_cons (ge_var 3) (ga_cons (ge_callB call_len rc_len T.n_len (by decide +kernel) (ga_cons (ge_var 1) (ga_nil))) (ga_nil))))) (ge_non)))
    (gss_cons (gs_if (gt_cmp op_isN ro_isN (ge_var 5) (ge_non) (nomark _)) (gss_one (gs_never)) (gss_nil))
    (gss_one (gs_append (ge_var 2) (ge_var 5))))))
    (gss_cons (gs_if (gt_cmp op_notIn_seq ro_in (ge_ix ix_seq ro_ix (ge_ix ix_seq ro_ix (ge_var 2) (ge_un un_neg ru_neg (ge_int))) (ge_int)) (ge_tup (ga_cons (ge_str) (ga_cons (ge_str) (ga_nil)))) (by rfl)) (gss_one (gs_never)) (gss_nil))
    (gss_cons (gs_fld T.k_Rule.cl T.no_Rule_lines (ge_var 0) (ge_var 1))
    (gss_one (gs_fld T.k_Rule.cl T.no_Rule_steps (ge_var 0) (ge_callTy call_tuple_of rc_tuple T.n_tuple (by decide +kernel) (ga_cons (ge_var 2) (ga_nil)))))))))
/-! ### Rule.__len__ -/
theorem sc_Rule_len : FnScope ["self"] ["self"] (defScope s_Rule_len) := ⟨rfl, rfl, rfl, by decide +kernel, rfl, by decide +kernel, by decide +kernel⟩
theorem ok_Rule_len {nn : Bool} {P : Program} {w : World} {K : PySem.W.Frag} {mg : Str → Option Value} {base : Heap} {A : Ad} {f : Addr} {fd : FuncData} {dfs : List V} {kfs : List (Str × V)} (T : Txt K mg A) (F : FunD K "__len__" "Rule.__len__" (defArgs s_Rule_len) (defBody s_Rule_len) (defScope s_Rule_len) dfs kfs f fd)  :
    FnX ⟨false, nn, false⟩ P w K mg base 1 f fd ["self"] (spG K 1 (G_Rule_len A)) := by
  rw [D_Rule_len]
  refine fn_G F sc_Rule_len (fun cdv Ar outer s H E pp hgd hr tk hp => ?_)
  replace hr : Room 0 (Ar.deeper (PyProof.Rows.envOfC "Rule.__len__" (defScope s_Rule_len) s.heap.objs.size f cdv)) := hr
  exact gss_one (gs_ret (ge_callB call_len rc_len T.n_len (by decide +kernel) (ga_cons (ge_fld T.k_Rule.cl T.no_Rule_lines (ge_var 0)) (ga_nil))))
/-! ### sums_in -/
theorem sc_sums_in : FnScope ["step"] ["step"] (defScope s_sums_in) := ⟨rfl, rfl, rfl, by decide +kernel, rfl, by decide +kernel, by decide +kernel⟩
theorem ok_sums_in {nn : Bool} {P : Program} {w : World} {K : PySem.W.Frag} {mg : Str → Option Value} {base : Heap} {A : Ad} {f : Addr} {fd : FuncData} {dfs : List V} {kfs : List (Str × V)} (T : Txt K mg A) (F : FunD K "sums_in" "sums_in" (defArgs s_sums_in) (defBody s_sums_in) (defScope s_sums_in) dfs kfs f fd)  :
    FnX ⟨false, nn, false⟩ P w K mg base 1 f fd ["step"] (spG K 1 (G_sums_in A)) := by
  rw [D_sums_in]
  refine fn_G F sc_sums_in (fun cdv Ar outer s H E pp hgd hr tk hp => ?_)
  replace hr : Room 0 (Ar.deeper (PyProof.Rows.envOfC "sums_in" (defScope s_sums_in) s.heap.objs.size f cdv)) := hr
  exact gss_cons (gs_if (gt_cmp (op_eqA hr) ro_eqA (ge_ix ix_seq ro_ix (ge_var 0) (ge_int)) (ge_str) (nomark _)) (gss_one (gs_ret (ge_lst (ga_cons (ge_ix ix_seq ro_ix (ge_var 0) (ge_int)) (ga_cons (ge_ix ix_seq ro_ix (ge_var 0) (ge_int)) (ga_nil)))))) (gss_nil))
    (gss_cons (gs_if (gt_cmp (op_eqA hr) ro_eqA (ge_ix ix_seq ro_ix (ge_var 0) (ge_int)) (ge_str) (nomark _)) (gss_one (gs_ret (ge_callTy call_list_of rc_list T.n_list (by decide +kernel) (ga_cons (ge_ix ix_seq ro_ix (ge_var 0) (ge_int)) (ga_nil))))) (gss_nil))
    (gss_one (gs_ret (ge_ifExp (gt_cmp (op_eqA hr) ro_eqA (ge_ix ix_seq ro_ix (ge_var 0) (ge_int)) (ge_str) (nomark _)) (ge_lst (ga_cons (ge_ix ix_seq ro_ix (ge_var 0) (ge_int)) (ga_nil))) (ge_lst (ga_nil))))))
/-! ### Sum.names -/
theorem sc_Sum_names : FnScope ["self", "name", "number"] ["self"] (defScope s_Sum_names) := ⟨rfl, rfl, rfl, by decide +kernel, rfl, by decide +kernel, by decide +kernel⟩
theorem ok_Sum_names {nn : Bool} {P : Program} {w : World} {K : PySem.W.Frag} {mg : Str → Option Value} {base : Heap} {A : Ad} {f : Addr} {fd : FuncData} {dfs : List V} {kfs : List (Str × V)} (T : Txt K mg A) (F : FunD K "names" "Sum.names" (defArgs s_Sum_names) (defBody s_Sum_names) (defScope s_Sum_names) dfs kfs f fd)  :
    FnX ⟨false, nn, false⟩ P w K mg base 1 f fd ["self"] (spG K 1 (G_Sum_names A)) := by
  rw [D_Sum_names]
  refine fn_G F sc_Sum_names (fun cdv Ar outer s H E pp hgd hr tk hp => ?_)
  replace hr : Room 0 (Ar.deeper (PyProof.Rows.envOfC "Sum.names" (defScope s_Sum_names) s.heap.objs.size f cdv)) := hr
  exact gss_one (gs_ret (ge_callTy call_tuple_of rc_tuple T.n_tuple (by decide +kernel) (ga_cons (ge_lc (own := [("name", 1), ("number", 2)]) rfl sc_Sum_names.nd (gi_tup (ge_forget (ge_fld T.k_Sum.cl T.no_Sum_kept (ge_var 0)))) (blkOk_by (by rfl)) (fun _ _ _ _ _ => gg_tup rfl (ggs_cons (gg_name 1 sc_Sum_names.nd) (ggs_cons (gg_name 2 sc_Sum_names.nd) (ggs_nil)))) (fun _ _ _ _ _ => gts_nil) (fun _ _ _ _ _ => ge_var 1)) (ga_nil))))
/-! ### Rule.meters -/
theorem sc_Rule_meters : FnScope ["self", "step", "total", "name"] ["self"] (defScope s_Rule_meters) := ⟨rfl, rfl, rfl, by decide +kernel, rfl, by decide +kernel, by decide +kernel⟩
theorem ok_Rule_meters {nn : Bool} {P : Program} {w : World} {K : PySem.W.Frag} {mg : Str → Option Value} {base : Heap} {A : Ad} {f : Addr} {fd : FuncData} {dfs : List V} {kfs : List (Str × V)} (T : Txt K mg A) (F : FunD K "meters" "Rule.meters" (defArgs s_Rule_meters) (defBody s_Rule_meters) (defScope s_Rule_meters) dfs kfs f fd) (c_sums_in : Fc P w K mg base ⟨false, nn, false⟩ "sums_in" 1 1 (G_sums_in A)) (c_Sum_names : Pc P w K mg base nn (A.c "Sum") "names" 1 (G_Sum_names A)) :
    FnX ⟨false, nn, false⟩ P w K mg base 3 f fd ["self"] (spG K 1 (G_Rule_meters A)) := by
  rw [D_Rule_meters]
  refine fn_G F sc_Rule_meters (fun cdv Ar outer s H E pp hgd hr tk hp => ?_)
  replace hr : Room 2 (Ar.deeper (PyProof.Rows.envOfC "Rule.meters" (defScope s_Rule_meters) s.heap.objs.size f cdv)) := hr
  exact gss_one (gs_ret (ge_callTy call_tuple_of rc_tuple T.n_tuple (by decide +kernel) (ga_cons (ge_sortSc (own := [("step", 1), ("total", 2), ("name", 3)]) (l0 := ⟨iTupD (eUn (fldD (A.c "Rule") "steps") (eVar 0)), tName 1, bYes, [1], [1, 2, 3]⟩) (ls := [⟨iSeq (eFn 1 (G_sums_in A) [] (aCons (eVar 1) (aNil))), tName 2, bYes, [2], [2, 3]⟩, ⟨iTupD (eProp (A.c "Sum") (G_Sum_names A) (eVar 2)), tName 3, bYes, [3], [3]⟩]) rfl T.n_sorted sc_Rule_meters.nd (gi_tup (ge_fld T.k_Rule.cl T.no_Rule_steps (ge_var 0))) (blkOk_by (by rfl)) rfl ⟨fun _ _ _ _ _ => gg_name 1 sc_Rule_meters.nd, fun _ _ _ _ _ => gts_nil, fun _ _ _ _ _ => .cons rfl (by refine GI.g ?_; (try dsimp only); exact gi_list (ge_callF (h := false) tkF c_sums_in nogd hr (ga_cons (ge_var 1) (ga_nil)))) (gg_name 2 sc_Rule_meters.nd) (gts_nil) (fun _ _ => rfl) (.cons rfl (by refine GI.g ?_; (try dsimp only); exact gi_tup (ge_propF c_Sum_names hr (ge_var 2))) (gg_name 3 sc_Rule_meters.nd) (gts_nil) (fun _ _ => rfl) (GLv.nil))⟩ (fun _ _ _ _ _ => ge_var 3)) (ga_nil))))
/-! ### _law_spring -/
theorem sc_spring_k47 : FnScope ["_law_script", "_law_k", "_law_cell", "_law_state", "_law_part"] ["_law_script", "_law_k"] (defScope s_spring_k47) := ⟨rfl, rfl, rfl, by decide +kernel, rfl, by decide +kernel, by decide +kernel⟩
theorem ok_spring_k47 {nn : Bool} {P : Program} {w : World} {K : PySem.W.Frag} {mg : Str → Option Value} {base : Heap} {A : Ad} {f : Addr} {fd : FuncData} {dfs : List V} {kfs : List (Str × V)} (T : Txt K mg A) (F : FunD K "_law_spring" "_law_spring" (defArgs s_spring_k47) (defBody s_spring_k47) (defScope s_spring_k47) dfs kfs f fd)  :
    FnX ⟨false, nn, false⟩ P w K mg base 1 f fd ["_law_script", "_law_k"] (spG K 2 (G_spring_k47 A)) := by
  rw [D_spring_k47]
  refine fn_N F sc_spring_k47 (fun cdv Ar outer s H E pp hgd hr tk hp => ?_)
  replace hr : Room 0 (Ar.deeper (PyProof.Rows.envOfC "_law_spring" (defScope s_spring_k47) s.heap.objs.size f cdv)) := hr
  exact gss_cons (gs_set 2 sc_spring_k47.nd (ge_ifExp (gt_cmp op_lt ro_lt (ge_var 1) (ge_callB call_len rc_len T.n_len (by decide +kernel) (ga_cons (ge_var 0) (ga_nil))) (nomark _)) (ge_callTy call_int1 rc_int1 T.n_int (by decide +kernel) (ga_cons (ge_ix ix_seq ro_ix (ge_var 0) (ge_var 1)) (ga_nil))) (ge_op op_addA ro_addA (ge_op op_mul ro_mul (ge_int) (ge_var 1)) (ge_int))))
    (gss_cons (gs_set 3 sc_spring_k47.nd (ge_op op_addA ro_addA (ge_int) (ge_op op_mul ro_mul (ge_int) (ge_var 1))))
    (gss_cons (gs_for hp rfl (gi_list (ge_slice sl_list rsl_L (ge_var 0) (go_none) (go_some (ge_int)))) (gg_name 4 sc_spring_k47.nd) (gss_one (gs_set 3 sc_spring_k47.nd (ge_op op_mod ro_mod (ge_callTy call_int1 rc_int1 T.n_int (by decide +kernel) (ga_cons (ge_op op_addA ro_addA (ge_op op_addA ro_addA (ge_op op_mul ro_mul (ge_var 3) (ge_int)) (ge_op op_mul ro_mul (ge_callTy call_int1 rc_int1 T.n_int (by decide +kernel) (ga_cons (ge_var 4) (ga_nil))) (ge_int))) (ge_int)) (ga_nil))) (ge_int)))))
    (gss_cons (gs_set 3 sc_spring_k47.nd (ge_op op_mod ro_mod (ge_callTy call_int1 rc_int1 T.n_int (by decide +kernel) (ga_cons (ge_op op_addA ro_addA (ge_op op_addA ro_addA (ge_op op_mul ro_mul (ge_var 3) (ge_var 3)) (ge_op op_mul ro_mul (ge_var 2) (ge_int))) (ge_int)) (ga_nil))) (ge_int)))
    (gss_one (gs_ret (ge_new (ga_cons (ge_op op_mod ro_mod (ge_callTy call_int1 rc_int1 T.n_int (by decide +kernel) (ga_cons (ge_op op_addA ro_addA (ge_op op_mul ro_mul (ge_var 3) (ge_int)) (ge_int)) (ga_nil))) (ge_int)) (ga_cons (ge_ifExp (gt_cmp op_ge ro_ge (ge_callB call_abs rc_abs T.n_abs (by decide +kernel) (ga_cons (ge_var 2) (ga_nil))) (ge_op op_pow ro_pow (ge_int) (ge_int)) (nomark _)) (ge_callB call_abs rc_abs T.n_abs (by decide +kernel) (ga_cons (ge_var 2) (ga_nil))) (ge_int)) (ga_cons (ge_var 1) (ga_nil))))))))))
/-! ### _law_take -/
theorem sc_take_k47 : FnScope ["_law_spring_here", "_law_many", "_law_digit", "_law_times_here", "_law_more"] ["_law_spring_here", "_law_many"] (defScope s_take_k47) := ⟨rfl, rfl, rfl, by decide +kernel, rfl, by decide +kernel, by decide +kernel⟩
theorem ok_take_k47 {nn : Bool} {P : Program} {w : World} {K : PySem.W.Frag} {mg : Str → Option Value} {base : Heap} {A : Ad} {f : Addr} {fd : FuncData} {dfs : List V} {kfs : List (Str × V)} (T : Txt K mg A) (F : FunD K "_law_take" "_law_take" (defArgs s_take_k47) (defBody s_take_k47) (defScope s_take_k47) dfs kfs f fd)  :
    FnX ⟨false, nn, false⟩ P w K mg base 1 f fd ["_law_spring_here", "_law_many"] (spG K 2 (G_take_k47 A)) := by
  rw [D_take_k47]
  refine fn_G F sc_take_k47 (fun cdv Ar outer s H E pp hgd hr tk hp => ?_)
  replace hr : Room 0 (Ar.deeper (PyProof.Rows.envOfC "_law_take" (defScope s_take_k47) s.heap.objs.size f cdv)) := hr
  exact gss_cons (gs_if (gt_cmp op_gt ro_gt (ge_ix ix_seq ro_ix (ge_var 0) (ge_int)) (ge_int) (nomark _)) (gss_cons (gs_pairSet 2 rfl sc_take_k47.nd (ge_callB call_divmodW rc_divmod T.n_divmod (by decide +kernel) (ga_cons (ge_ix ix_seq ro_ix (ge_var 0) (ge_int)) (ga_cons (ge_var 1) (ga_nil)))) (ge_var 0) (ge_int))
    (gss_one (gs_ret (ge_var 2)))) (gss_nil))
    (gss_cons (gs_setIx (ge_op op_addA ro_addA (ge_ix ix_seq ro_ix (ge_var 0) (ge_int)) (ge_int)) (ge_var 0) (ge_int))
    (gss_cons (gs_par2 3 4 rfl sc_take_k47.nd (ga_cons (ge_op op_addA ro_addA (ge_int) (ge_op op_mul ro_mul (ge_int) (ge_ix ix_seq ro_ix (ge_var 0) (ge_int)))) (ga_cons (ge_op op_addA ro_addA (ge_op op_mul ro_mul (ge_int) (ge_ix ix_seq ro_ix (ge_var 0) (ge_int))) (ge_int)) (ga_nil))))
    (gss_cons (gs_setIx (ge_op op_mod ro_mod (ge_callTy call_int1 rc_int1 T.n_int (by decide +kernel) (ga_cons (ge_op op_addA ro_addA (ge_op op_mul ro_mul (ge_ix ix_seq ro_ix (ge_var 0) (ge_int)) (ge_var 3)) (ge_var 4)) (ga_nil))) (ge_int)) (ge_var 0) (ge_int))
    (gss_one (gs_ret (ge_op op_mod ro_mod (ge_callTy call_int1 rc_int1 T.n_int (by decide +kernel) (ga_cons (ge_op op_fdiv ro_fdiv (ge_ix ix_seq ro_ix (ge_var 0) (ge_int)) (ge_int)) (ga_nil))) (ge_var 1)))))))
/-! ### _law_titles -/
theorem sc_titles_k47 : FnScope ["_law_spring_here", "_law_many", "_law_signs", "_law_found", "_law_words", "_law_k", "_law_size", "_law_title", "_law_turn", "_law_spare", "_law_sign", "_law_one"] ["_law_spring_here", "_law_many"] (defScope s_titles_k47) := ⟨rfl, rfl, rfl, by decide +kernel, rfl, by decide +kernel, by decide +kernel⟩
theorem ok_titles_k47 {nn : Bool} {P : Program} {w : World} {K : PySem.W.Frag} {mg : Str → Option Value} {base : Heap} {A : Ad} {f : Addr} {fd : FuncData} {dfs : List V} {kfs : List (Str × V)} (T : Txt K mg A) (F : FunD K "_law_titles" "_law_titles" (defArgs s_titles_k47) (defBody s_titles_k47) (defScope s_titles_k47) dfs kfs f fd) (c_take_k47 : Fc P w K mg base ⟨false, nn, false⟩ "_law_take" 1 2 (G_take_k47 A)) :
    FnX ⟨false, nn, false⟩ P w K mg base 2 f fd ["_law_spring_here", "_law_many"] (spG K 2 (G_titles_k47 A)) := by
  rw [D_titles_k47]
  refine fn_G F sc_titles_k47 (fun cdv Ar outer s H E pp hgd hr tk hp => ?_)
  replace hr : Room 1 (Ar.deeper (PyProof.Rows.envOfC "_law_titles" (defScope s_titles_k47) s.heap.objs.size f cdv)) := hr
  exact gss_cons (gs_asg (ge_tup (ga_cons (ge_str) (ga_cons (ge_new (ga_nil)) (ga_nil)))) (gg_tup rfl (ggs_cons (gg_name 2 sc_titles_k47.nd) (ggs_cons (gg_name 3 sc_titles_k47.nd) (ggs_nil)))))
    (gss_cons (gs_set 4 sc_titles_k47.nd (ge_lst (ga_cons (ge_str) (ga_cons (ge_str) (ga_cons (ge_str) (ga_cons (ge_str) (ga_cons (ge_str) (ga_cons (ge_str) (ga_cons (ge_str) (ga_cons (ge_str) (ga_nil)))))))))))
    (gss_cons (gs_for hp rfl (gi_range1 T.n_range (ga_cons (ge_var 1) (ga_nil))) (gg_name 5 sc_titles_k47.nd) (gss_cons (gs_asg (ge_tup (ga_cons (ge_ix ix_seq ro_ix (ge_lst (ga_cons (ge_int) (ga_cons (ge_int) (ga_cons (ge_int) (ga_cons (ge_int) (ga_cons (ge_int) (ga_cons (ge_int) (ga_nil)))))))) (ge_callF (h := false) tk c_take_k47 nogd hr (ga_cons (ge_var 0) (ga_cons (ge_int) (ga_nil))))) (ga_cons (ge_ix ix_seq ro_ix (ge_var 2) (ge_callF (h := false) tk c_take_k47 nogd hr (ga_cons (ge_var 0) (ga_cons (ge_int) (ga_nil))))) (ga_nil)))) (gg_tup rfl (ggs_cons (gg_name 6 sc_titles_k47.nd) (ggs_cons (gg_name 7 sc_titles_k47.nd) (ggs_nil)))))
    (gss_cons (gs_for hp rfl (gi_range1 T.n_range (ga_cons (ge_var 6) (ga_nil))) (gg_name 8 sc_titles_k47.nd) (gss_one (gs_set 7 sc_titles_k47.nd (ge_op op_addA ro_addA (ge_var 7) (ge_ix ix_seq ro_ix (ge_var 2) (ge_callF (h := false) tk c_take_k47 nogd hr (ga_cons (ge_var 0) (ga_cons (ge_int) (ga_nil)))))))))
    (gss_cons (gs_if (gt_cmp (op_eqA hr) ro_eqA (ge_callF (h := false) tk c_take_k47 nogd hr (ga_cons (ge_var 0) (ga_cons (ge_int) (ga_nil)))) (ge_int) (nomark _)) (gss_one (gs_set 7 sc_titles_k47.nd (ge_ix ix_seq ro_ix (ge_var 4) (ge_callF (h := false) tk c_take_k47 nogd hr (ga_cons (ge_var 0) (ga_cons (ge_int) (ga_nil))))))) (gss_nil))
    (gss_cons (gs_set 9 sc_titles_k47.nd (ge_op op_addA ro_addA (ge_lst (ga_cons (ge_var 7) (ga_nil))) (ge_lc (own := [("_law_sign", 10)]) rfl sc_titles_k47.nd (gi_str (ge_var 2)) (blkOk_by (by rfl)) (fun _ _ _ _ _ => gg_name 10 sc_titles_k47.nd) (fun _ _ _ _ _ => gts_nil) (fun _ _ _ _ _ => ge_op op_addA ro_addA (ge_slice sl_A rsl_A (ge_var 7) (go_none) (go_some (ge_int))) (ge_var 10)))))
    (gss_one (gs_append (ge_var 3) (ge_ix ix_seq ro_ix (ge_lc (own := [("_law_one", 11)]) rfl sc_titles_k47.nd (gi_list (ge_var 9)) (blkOk_by (by rfl)) (fun _ _ _ _ _ => gg_name 11 sc_titles_k47.nd) (fun _ _ _ _ _ => gts_one (gt_cmp op_notIn_seq ro_in (ge_var 11) (ge_var 3) (by rfl))) (fun _ _ _ _ _ => ge_var 11)) (ge_int)))))))))
    (gss_one (gs_ret (ge_var 3)))))
/-! ### _law_times -/
theorem sc_times_k47 : FnScope ["_law_spring_here", "_law_wide", "_law_size"] ["_law_spring_here", "_law_wide"] (defScope s_times_k47) := ⟨rfl, rfl, rfl, by decide +kernel, rfl, by decide +kernel, by decide +kernel⟩
theorem ok_times_k47 {nn : Bool} {P : Program} {w : World} {K : PySem.W.Frag} {mg : Str → Option Value} {base : Heap} {A : Ad} {f : Addr} {fd : FuncData} {dfs : List V} {kfs : List (Str × V)} (T : Txt K mg A) (F : FunD K "_law_times" "_law_times" (defArgs s_times_k47) (defBody s_times_k47) (defScope s_times_k47) dfs kfs f fd) (c_take_k47 : Fc P w K mg base ⟨false, nn, false⟩ "_law_take" 1 2 (G_take_k47 A)) :
    FnX ⟨false, nn, false⟩ P w K mg base 2 f fd ["_law_spring_here", "_law_wide"] (spG K 2 (G_times_k47 A)) := by
  rw [D_times_k47]
  refine fn_G F sc_times_k47 (fun cdv Ar outer s H E pp hgd hr tk hp => ?_)
  replace hr : Room 1 (Ar.deeper (PyProof.Rows.envOfC "_law_times" (defScope s_times_k47) s.heap.objs.size f cdv)) := hr
  exact gss_cons (gs_set 2 sc_times_k47.nd (ge_ix ix_seq ro_ix (ge_lst (ga_cons (ge_int) (ga_cons (ge_int) (ga_cons (ge_int) (ga_cons (ge_int) (ga_cons (ge_int) (ga_cons (ge_int) (ga_cons (ge_int) (ga_cons (ge_var 1) (ga_nil)))))))))) (ge_callF (h := false) tk c_take_k47 nogd hr (ga_cons (ge_var 0) (ga_cons (ge_int) (ga_nil))))))
    (gss_one (gs_ret (ge_ix ix_seq ro_ix (ge_lst (ga_cons (ge_var 2) (ga_cons (ge_un un_neg ru_neg (ge_var 2)) (ga_nil)))) (ge_callF (h := false) tk c_take_k47 nogd hr (ga_cons (ge_var 0) (ga_cons (ge_int) (ga_nil)))))))
/-! ### _law_total -/
theorem sc_total_k47 : FnScope ["_law_spring_here", "_law_tags", "_law_many", "_law_wide", "_law_chosen", "_law_turn", "_law_tag", "_law_times_here", "_law_pair"] ["_law_spring_here", "_law_tags", "_law_many", "_law_wide"] (defScope s_total_k47) := ⟨rfl, rfl, rfl, by decide +kernel, rfl, by decide +kernel, by decide +kernel⟩
theorem ok_total_k47 {nn : Bool} {P : Program} {w : World} {K : PySem.W.Frag} {mg : Str → Option Value} {base : Heap} {A : Ad} {f : Addr} {fd : FuncData} {dfs : List V} {kfs : List (Str × V)} (T : Txt K mg A) (F : FunD K "_law_total" "_law_total" (defArgs s_total_k47) (defBody s_total_k47) (defScope s_total_k47) dfs kfs f fd) (c_take_k47 : Fc P w K mg base ⟨false, nn, false⟩ "_law_take" 1 2 (G_take_k47 A)) (c_times_k47 : Fc P w K mg base ⟨false, nn, false⟩ "_law_times" 2 2 (G_times_k47 A)) :
    FnX ⟨false, nn, false⟩ P w K mg base 3 f fd ["_law_spring_here", "_law_tags", "_law_many", "_law_wide"] (spG K 4 (G_total_k47 A)) := by
  rw [D_total_k47]
  refine fn_G F sc_total_k47 (fun cdv Ar outer s H E pp hgd hr tk hp => ?_)
  replace hr : Room 2 (Ar.deeper (PyProof.Rows.envOfC "_law_total" (defScope s_total_k47) s.heap.objs.size f cdv)) := hr
  exact gss_cons (gs_set 4 sc_total_k47.nd (ge_new (ga_nil)))
    (gss_cons (gs_for hp rfl (gi_range1 T.n_range (ga_cons (ge_ifExp (gt_cmp (op_neA hr) ro_neA (ge_var 1) (ge_lst (ga_nil)) (nomark _)) (ge_callF (h := false) tk c_take_k47 nogd hr (ga_cons (ge_var 0) (ga_cons (ge_op op_addA ro_addA (ge_var 2) (ge_int)) (ga_nil)))) (ge_int)) (ga_nil))) (gg_name 5 sc_total_k47.nd) (gss_cons (gs_par2 6 7 rfl sc_total_k47.nd (ga_cons (ge_ix ix_seq ro_ix (ge_var 1) (ge_callF (h := false) tk c_take_k47 nogd hr (ga_cons (ge_var 0) (ga_cons (ge_callB call_len rc_len T.n_len (by decide +kernel) (ga_cons (ge_var 1) (ga_nil))) (ga_nil))))) (ga_cons (ge_callF (h := false) tk c_times_k47 nogd hr (ga_cons (ge_var 0) (ga_cons (ge_var 3) (ga_nil)))) (ga_nil))))
    (gss_one (gs_if (gt_cmp op_notIn_seq ro_in (ge_var 6) (ge_lc (own := [("_law_pair", 8)]) rfl sc_total_k47.nd (gi_list (ge_var 4)) (blkOk_by (by rfl)) (fun _ _ _ _ _ => gg_name 8 sc_total_k47.nd) (fun _ _ _ _ _ => gts_nil) (fun _ _ _ _ _ => ge_ix ix_seq ro_ix (ge_var 8) (ge_int))) (by rfl)) (gss_one (gs_append (ge_var 4) (ge_tup (ga_cons (ge_var 6) (ga_cons (ge_var 7) (ga_nil)))))) (gss_nil)))))
    (gss_one (gs_ret (ge_callB cr_sortedQ rc_sortQ T.n_sorted (by decide +kernel) (ga_cons (ge_var 4) (ga_nil))))))
/-! ### _law_pick -/
theorem sc_pick_k47 : FnScope ["_law_spring_here", "_law_some", "_law_tags", "_law_wide", "_law_way"] ["_law_spring_here", "_law_some", "_law_tags", "_law_wide"] (defScope s_pick_k47) := ⟨rfl, rfl, rfl, by decide +kernel, rfl, by decide +kernel, by decide +kernel⟩
theorem ok_pick_k47 {nn : Bool} {P : Program} {w : World} {K : PySem.W.Frag} {mg : Str → Option Value} {base : Heap} {A : Ad} {f : Addr} {fd : FuncData} {dfs : List V} {kfs : List (Str × V)} (T : Txt K mg A) (F : FunD K "_law_pick" "_law_pick" (defArgs s_pick_k47) (defBody s_pick_k47) (defScope s_pick_k47) dfs kfs f fd) (c_take_k47 : Fc P w K mg base ⟨false, nn, false⟩ "_law_take" 1 2 (G_take_k47 A)) (c_total_k47 : Fc P w K mg base ⟨false, nn, false⟩ "_law_total" 3 4 (G_total_k47 A)) :
    FnX ⟨false, nn, false⟩ P w K mg base 4 f fd ["_law_spring_here", "_law_some", "_law_tags", "_law_wide"] (spG K 4 (G_pick_k47 A)) := by
  rw [D_pick_k47]
  refine fn_G F sc_pick_k47 (fun cdv Ar outer s H E pp hgd hr tk hp => ?_)
  replace hr : Room 3 (Ar.deeper (PyProof.Rows.envOfC "_law_pick" (defScope s_pick_k47) s.heap.objs.size f cdv)) := hr
  exact gss_cons (gs_set 4 sc_pick_k47.nd (ge_callF (h := false) tk c_take_k47 nogd hr (ga_cons (ge_var 0) (ga_cons (ge_int) (ga_nil)))))
    (gss_one (gs_ret (ge_ifExp (gt_cmp op_lt ro_lt (ge_var 4) (ge_int) (nomark _)) (ge_ix ix_seq ro_ix (ge_var 1) (ge_var 4)) (ge_callF (h := false) tk c_total_k47 nogd hr (ga_cons (ge_var 0) (ga_cons (ge_var 2) (ga_cons (ge_int) (ga_cons (ge_var 3) (ga_nil)))))))))
/-! ### _law_last -/
theorem sc_last_k47 : FnScope ["_law_spring_here", "_law_some", "_law_tags", "_law_wide"] ["_law_spring_here", "_law_some", "_law_tags", "_law_wide"] (defScope s_last_k47) := ⟨rfl, rfl, rfl, by decide +kernel, rfl, by decide +kernel, by decide +kernel⟩
theorem ok_last_k47 {nn : Bool} {P : Program} {w : World} {K : PySem.W.Frag} {mg : Str → Option Value} {base : Heap} {A : Ad} {f : Addr} {fd : FuncData} {dfs : List V} {kfs : List (Str × V)} (T : Txt K mg A) (F : FunD K "_law_last" "_law_last" (defArgs s_last_k47) (defBody s_last_k47) (defScope s_last_k47) dfs kfs f fd) (c_take_k47 : Fc P w K mg base ⟨false, nn, false⟩ "_law_take" 1 2 (G_take_k47 A)) (c_pick_k47 : Fc P w K mg base ⟨false, nn, false⟩ "_law_pick" 4 4 (G_pick_k47 A)) :
    FnX ⟨false, nn, false⟩ P w K mg base 5 f fd ["_law_spring_here", "_law_some", "_law_tags", "_law_wide"] (spG K 4 (G_last_k47 A)) := by
  rw [D_last_k47]
  refine fn_G F sc_last_k47 (fun cdv Ar outer s H E pp hgd hr tk hp => ?_)
  replace hr : Room 4 (Ar.deeper (PyProof.Rows.envOfC "_law_last" (defScope s_last_k47) s.heap.objs.size f cdv)) := hr
  exact gss_one (gs_ret (ge_ifExp (gt_cmp op_gt ro_gt (ge_callF (h := false) tk c_take_k47 nogd hr (ga_cons (ge_var 0) (ga_cons (ge_int) (ga_nil)))) (ge_int) (nomark _)) (ge_tup (ga_cons (ge_str) (ga_cons (ge_callF (h := false) tk c_pick_k47 nogd hr (ga_cons (ge_var 0) (ga_cons (ge_var 1) (ga_cons (ge_var 2) (ga_cons (ge_var 3) (ga_nil)))))) (ga_nil)))) (ge_tup (ga_cons (ge_str) (ga_nil)))))
/-! ### _law_steps -/
theorem sc_steps_k47 : FnScope ["_law_spring_here", "_law_tags", "_law_many", "_law_wide", "_law_size", "_law_left", "_law_steps_here", "_law_some", "_law_k", "_law_way", "_law_ends", "_law_count", "_law_sums_here", "_law_turn", "_law_room"] ["_law_spring_here", "_law_tags", "_law_many", "_law_wide"] (defScope s_steps_k47) := ⟨rfl, rfl, rfl, by decide +kernel, rfl, by decide +kernel, by decide +kernel⟩
theorem ok_steps_k47 {nn : Bool} {P : Program} {w : World} {K : PySem.W.Frag} {mg : Str → Option Value} {base : Heap} {A : Ad} {f : Addr} {fd : FuncData} {dfs : List V} {kfs : List (Str × V)} (T : Txt K mg A) (F : FunD K "_law_steps" "_law_steps" (defArgs s_steps_k47) (defBody s_steps_k47) (defScope s_steps_k47) dfs kfs f fd) (c_take_k47 : Fc P w K mg base ⟨false, nn, false⟩ "_law_take" 1 2 (G_take_k47 A)) (c_total_k47 : Fc P w K mg base ⟨false, nn, false⟩ "_law_total" 3 4 (G_total_k47 A)) (c_pick_k47 : Fc P w K mg base ⟨false, nn, false⟩ "_law_pick" 4 4 (G_pick_k47 A)) (c_last_k47 : Fc P w K mg base ⟨false, nn, false⟩ "_law_last" 5 4 (G_last_k47 A)) :
    FnX ⟨false, nn, false⟩ P w K mg base 6 f fd ["_law_spring_here", "_law_tags", "_law_many", "_law_wide"] (spG K 4 (G_steps_k47 A)) := by
  rw [D_steps_k47]
  refine fn_G F sc_steps_k47 (fun cdv Ar outer s H E pp hgd hr tk hp => ?_)
  replace hr : Room 5 (Ar.deeper (PyProof.Rows.envOfC "_law_steps" (defScope s_steps_k47) s.heap.objs.size f cdv)) := hr
  exact gss_cons (gs_asg (ge_tup (ga_cons (ge_op op_addA ro_addA (ge_int) (ge_callF (h := false) tk c_take_k47 nogd hr (ga_cons (ge_var 0) (ga_cons (ge_var 2) (ga_nil))))) (ga_cons (ge_int) (ga_cons (ge_new (ga_nil)) (ga_nil))))) (gg_tup rfl (ggs_cons (gg_name 4 sc_steps_k47.nd) (ggs_cons (gg_name 5 sc_steps_k47.nd) (ggs_cons (gg_name 6 sc_steps_k47.nd) (ggs_nil))))))
    (gss_cons (gs_set 7 sc_steps_k47.nd (ge_lc (own := [("_law_turn", 13)]) rfl sc_steps_k47.nd (gi_range1 T.n_range (ga_cons (ge_int) (ga_nil))) (blkOk_by (by rfl)) (fun _ _ _ _ _ => gg_name 13 sc_steps_k47.nd) (fun _ _ _ _ _ => gts_nil) (fun _ _ _ _ _ => ge_callF (h := false) tkF c_total_k47 nogd hr (ga_cons (ge_var 0) (ga_cons (ge_var 1) (ga_cons (ge_int) (ga_cons (ge_var 3) (ga_nil))))))))
    (gss_cons (gs_for hp rfl (gi_range1 T.n_range (ga_cons (ge_op op_sub ro_sub (ge_var 4) (ge_int)) (ga_nil))) (gg_name 8 sc_steps_k47.nd) (gss_cons (gs_set 9 sc_steps_k47.nd (ge_callF (h := false) tk c_take_k47 nogd hr (ga_cons (ge_var 0) (ga_cons (ge_int) (ga_nil)))))
    (gss_one (gs_if (gt_cmp op_lt ro_lt (ge_var 9) (ge_int) (nomark _)) (gss_cons (gs_set 10 sc_steps_k47.nd (ge_lst (ga_cons (ge_callF (h := false) tk c_pick_k47 nogd hr (ga_cons (ge_var 0) (ga_cons (ge_var 7) (ga_cons (ge_var 1) (ga_cons (ge_var 3) (ga_nil)))))) (ga_cons (ge_callF (h := false) tk c_pick_k47 nogd hr (ga_cons (ge_var 0) (ga_cons (ge_var 7) (ga_cons (ge_var 1) (ga_cons (ge_var 3) (ga_nil)))))) (ga_nil)))))
    (gss_one (gs_append (ge_var 6) (ge_tup (ga_cons (ge_str) (ga_cons (ge_ix ix_seq ro_ix (ge_var 10) (ge_int)) (ga_cons (ge_ix ix_seq ro_ix (ge_var 10) (ge_int)) (ga_cons (ge_op op_addA ro_addA (ge_op op_addA ro_addA (ge_var 8) (ge_int)) (ge_callF (h := false) tk c_take_k47 nogd hr (ga_cons (ge_var 0) (ga_cons (ge_op op_sub ro_sub (ge_op op_sub ro_sub (ge_var 4) (ge_int)) (ge_var 8)) (ga_nil))))) (ga_nil))))))))) (gss_one (gs_if (gt_cmp op_lt ro_lt (ge_var 9) (ge_int) (nomark _)) (gss_cons (gs_set 11 sc_steps_k47.nd (ge_op op_addA ro_addA (ge_int) (ge_callF (h := false) tk c_take_k47 nogd hr (ga_cons (ge_var 0) (ga_cons (ge_callB call_len rc_len T.n_len (by decide +kernel) (ga_cons (ge_lc (own := [("_law_room", 14)]) rfl sc_steps_k47.nd (gi_range2 T.n_range (ga_cons (ge_int) (ga_cons (ge_int) (ga_nil)))) (blkOk_by (by rfl)) (fun _ _ _ _ _ => gg_name 14 sc_steps_k47.nd) (fun _ _ _ _ _ => gts_one (gt_cmp op_le ro_le (ge_op op_mul ro_mul (ge_var 14) (ge_op op_sub ro_sub (ge_var 14) (ge_int))) (ge_var 5) (nomark _))) (fun _ _ _ _ _ => ge_var 14)) (ga_nil))) (ga_nil))))))
    (gss_cons (gs_set 5 sc_steps_k47.nd (ge_op op_sub ro_sub (ge_var 5) (ge_op op_mul ro_mul (ge_var 11) (ge_op op_sub ro_sub (ge_var 11) (ge_int)))))
    (gss_cons (gs_setLc 12 (own := [("_law_turn", 13)]) rfl sc_steps_k47.nd (gi_range1 T.n_range (ga_cons (ge_var 11) (ga_nil))) (blkOk_by (by rfl)) (fun _ _ _ _ _ => gg_name 13 sc_steps_k47.nd) (fun _ _ _ _ _ => gts_nil) (fun _ _ _ _ _ => ge_callF (h := false) tkF c_pick_k47 nogd hr (ga_cons (ge_var 0) (ga_cons (ge_var 7) (ga_cons (ge_var 1) (ga_cons (ge_var 3) (ga_nil)))))) (sw_true rfl rfl rfl (by decide +kernel)))
    (gss_one (gs_append (ge_var 6) (ge_tup (ga_cons (ge_str) (ga_cons (ge_callF (h := false) tk c_take_k47 nogd hr (ga_cons (ge_var 0) (ga_cons (ge_int) (ga_nil)))) (ga_cons (ge_var 12) (ga_nil)))))))))) (gss_one (gs_append (ge_var 6) (ge_callF (h := false) tk c_last_k47 nogd hr (ga_cons (ge_var 0) (ga_cons (ge_var 7) (ga_cons (ge_var 1) (ga_cons (ge_var 3) (ga_nil))))))))))))))
    (gss_one (gs_ret (ge_op op_cat ro_catC (ge_var 6) (ge_lst (ga_cons (ge_callF (h := false) tk c_last_k47 nogd hr (ga_cons (ge_var 0) (ga_cons (ge_var 7) (ga_cons (ge_var 1) (ga_cons (ge_var 3) (ga_nil)))))) (ga_nil))))))))
/-! ### _law_told -/
theorem sc_told_k47 : FnScope ["_law_pairs", "_law_text_here", "_law_tag", "_law_times_here", "_law_body"] ["_law_pairs"] (defScope s_told_k47) := ⟨rfl, rfl, rfl, by decide +kernel, rfl, by decide +kernel, by decide +kernel⟩
theorem ok_told_k47 {nn : Bool} {P : Program} {w : World} {K : PySem.W.Frag} {mg : Str → Option Value} {base : Heap} {A : Ad} {f : Addr} {fd : FuncData} {dfs : List V} {kfs : List (Str × V)} (T : Txt K mg A) (F : FunD K "_law_told" "_law_told" (defArgs s_told_k47) (defBody s_told_k47) (defScope s_told_k47) dfs kfs f fd)  :
    FnX ⟨false, nn, false⟩ P w K mg base 1 f fd ["_law_pairs"] (spG K 1 (G_told_k47 A)) := by
  rw [D_told_k47]
  refine fn_G F sc_told_k47 (fun cdv Ar outer s H E pp hgd hr tk hp => ?_)
  replace hr : Room 0 (Ar.deeper (PyProof.Rows.envOfC "_law_told" (defScope s_told_k47) s.heap.objs.size f cdv)) := hr
  exact gss_cons (gs_set 1 sc_told_k47.nd (ge_str))
    (gss_cons (gs_for hp rfl (gi_list (ge_var 0)) (gg_tup rfl (ggs_cons (gg_name 2 sc_told_k47.nd) (ggs_cons (gg_name 3 sc_told_k47.nd) (ggs_nil)))) (gss_cons (gs_set 4 sc_told_k47.nd (ge_ifExp (gt_cmp (op_eqA hr) ro_eqA (ge_callB call_abs rc_abs T.n_abs (by decide +kernel) (ga_cons (ge_var 3) (ga_nil))) (ge_int) (nomark _)) (ge_var 2) (ge_op op_addA ro_addA (ge_op op_addA ro_addA (ge_callTy call_strFl rc_strFl T.n_str (by decide +kernel) (ga_cons (ge_callB call_abs rc_abs T.n_abs (by decide +kernel) (ga_cons (ge_var 3) (ga_nil))) (ga_nil))) (ge_str)) (ge_var 2))))
    (gss_one (gs_if (gt_cmp (op_eqA hr) ro_eqA (ge_var 1) (ge_str) (nomark _)) (gss_one (gs_set 1 sc_told_k47.nd (ge_ifExp (gt_cmp op_lt ro_lt (ge_var 3) (ge_int) (nomark _)) (ge_op op_addA ro_addA (ge_str) (ge_var 4)) (ge_var 4)))) (gss_one (gs_set 1 sc_told_k47.nd (ge_op op_addA ro_addA (ge_op op_addA ro_addA (ge_var 1) (ge_ifExp (gt_cmp op_lt ro_lt (ge_var 3) (ge_int) (nomark _)) (ge_str) (ge_str))) (ge_var 4))))))))
    (gss_one (gs_ret (ge_ifExp (gt_cmp (op_neA hr) ro_neA (ge_var 1) (ge_str) (nomark _)) (ge_var 1) (ge_str)))))
/-! ### _law_line -/
theorem sc_line_k47 : FnScope ["_law_step", "_law_one"] ["_law_step"] (defScope s_line_k47) := ⟨rfl, rfl, rfl, by decide +kernel, rfl, by decide +kernel, by decide +kernel⟩
theorem ok_line_k47 {nn : Bool} {P : Program} {w : World} {K : PySem.W.Frag} {mg : Str → Option Value} {base : Heap} {A : Ad} {f : Addr} {fd : FuncData} {dfs : List V} {kfs : List (Str × V)} (T : Txt K mg A) (F : FunD K "_law_line" "_law_line" (defArgs s_line_k47) (defBody s_line_k47) (defScope s_line_k47) dfs kfs f fd) (c_told_k47 : Fc P w K mg base ⟨false, nn, false⟩ "_law_told" 1 1 (G_told_k47 A)) :
    FnX ⟨false, nn, false⟩ P w K mg base 2 f fd ["_law_step"] (spG K 1 (G_line_k47 A)) := by
  rw [D_line_k47]
  refine fn_G F sc_line_k47 (fun cdv Ar outer s H E pp hgd hr tk hp => ?_)
  replace hr : Room 1 (Ar.deeper (PyProof.Rows.envOfC "_law_line" (defScope s_line_k47) s.heap.objs.size f cdv)) := hr
  exact gss_cons (gs_if (gt_cmp (op_eqA hr) ro_eqA (ge_ix ix_seq ro_ix (ge_var 0) (ge_int)) (ge_str) (nomark _)) (gss_one (gs_ret (ge_op op_addA ro_addA (ge_op op_addA ro_addA (ge_op op_addA ro_addA (ge_op op_addA ro_addA (ge_op op_addA ro_addA (ge_str) (ge_callF (h := false) tk c_told_k47 nogd hr (ga_cons (ge_ix ix_seq ro_ix (ge_var 0) (ge_int)) (ga_nil)))) (ge_str)) (ge_callF (h := false) tk c_told_k47 nogd hr (ga_cons (ge_ix ix_seq ro_ix (ge_var 0) (ge_int)) (ga_nil)))) (ge_str)) (ge_callTy call_strFl rc_strFl T.n_str (by decide +kernel) (ga_cons (ge_ix ix_seq ro_ix (ge_var 0) (ge_int)) (ga_nil)))))) (gss_nil))
    (gss_cons (gs_if (gt_cmp (op_eqA hr) ro_eqA (ge_ix ix_seq ro_ix (ge_var 0) (ge_int)) (ge_str) (nomark _)) (gss_one (gs_ret (ge_op op_addA ro_addA (ge_op op_addA ro_addA (ge_op op_addA ro_addA (ge_str) (ge_callTy call_strFl rc_strFl T.n_str (by decide +kernel) (ga_cons (ge_ix ix_seq ro_ix (ge_var 0) (ge_int)) (ga_nil)))) (ge_str)) (ge_join (ge_str) (ge_lc (own := [("_law_one", 1)]) rfl sc_line_k47.nd (gi_list (ge_ix ix_seq ro_ix (ge_var 0) (ge_int))) (blkOk_by (by rfl)) (fun _ _ _ _ _ => gg_name 1 sc_line_k47.nd) (fun _ _ _ _ _ => gts_nil) (fun _ _ _ _ _ => ge_callF (h := false) tkF c_told_k47 nogd hr (ga_cons (ge_var 1) (ga_nil)))))))) (gss_nil))
    (gss_one (gs_ret (ge_ifExp (gt_cmp (op_eqA hr) ro_eqA (ge_ix ix_seq ro_ix (ge_var 0) (ge_int)) (ge_str) (nomark _)) (ge_op op_addA ro_addA (ge_str) (ge_callF (h := false) tk c_told_k47 nogd hr (ga_cons (ge_ix ix_seq ro_ix (ge_var 0) (ge_int)) (ga_nil)))) (ge_str)))))
/-! ### _law_names_of -/
theorem sc_names_of_k47 : FnScope ["_law_steps_here", "_law_found", "_law_step", "_law_sums_here", "_law_one", "_law_pair"] ["_law_steps_here"] (defScope s_names_of_k47) := ⟨rfl, rfl, rfl, by decide +kernel, rfl, by decide +kernel, by decide +kernel⟩
theorem ok_names_of_k47 {nn : Bool} {P : Program} {w : World} {K : PySem.W.Frag} {mg : Str → Option Value} {base : Heap} {A : Ad} {f : Addr} {fd : FuncData} {dfs : List V} {kfs : List (Str × V)} (T : Txt K mg A) (F : FunD K "_law_names_of" "_law_names_of" (defArgs s_names_of_k47) (defBody s_names_of_k47) (defScope s_names_of_k47) dfs kfs f fd)  :
    FnX ⟨false, nn, false⟩ P w K mg base 1 f fd ["_law_steps_here"] (spG K 1 (G_names_of_k47 A)) := by
  rw [D_names_of_k47]
  refine fn_G F sc_names_of_k47 (fun cdv Ar outer s H E pp hgd hr tk hp => ?_)
  replace hr : Room 0 (Ar.deeper (PyProof.Rows.envOfC "_law_names_of" (defScope s_names_of_k47) s.heap.objs.size f cdv)) := hr
  exact gss_cons (gs_set 1 sc_names_of_k47.nd (ge_lst (ga_nil)))
    (gss_cons (gs_for hp rfl (gi_list (ge_var 0)) (gg_name 2 sc_names_of_k47.nd) (gss_cons (gs_set 3 sc_names_of_k47.nd (ge_ifExp (gt_cmp (op_eqA hr) ro_eqA (ge_ix ix_seq ro_ix (ge_var 2) (ge_int)) (ge_str) (nomark _)) (ge_lst (ga_cons (ge_ix ix_seq ro_ix (ge_var 2) (ge_int)) (ga_cons (ge_ix ix_seq ro_ix (ge_var 2) (ge_int)) (ga_nil)))) (ge_lst (ga_nil))))
    (gss_cons (gs_set 3 sc_names_of_k47.nd (ge_ifExp (gt_cmp (op_eqA hr) ro_eqA (ge_ix ix_seq ro_ix (ge_var 2) (ge_int)) (ge_str) (nomark _)) (ge_ix ix_seq ro_ix (ge_var 2) (ge_int)) (ge_var 3)))
    (gss_cons (gs_set 3 sc_names_of_k47.nd (ge_ifExp (gt_cmp (op_eqA hr) ro_eqA (ge_ix ix_seq ro_ix (ge_var 2) (ge_int)) (ge_str) (nomark _)) (ge_lst (ga_cons (ge_ix ix_seq ro_ix (ge_var 2) (ge_int)) (ga_nil))) (ge_var 3)))
    (gss_one (gs_for hp rfl (gi_list (ge_var 3)) (gg_name 4 sc_names_of_k47.nd) (gss_one (gs_set 1 sc_names_of_k47.nd (ge_op op_addA ro_addA (ge_var 1) (ge_lc (own := [("_law_pair", 5)]) rfl sc_names_of_k47.nd (gi_list (ge_var 4)) (blkOk_by (by rfl)) (fun _ _ _ _ _ => gg_name 5 sc_names_of_k47.nd) (fun _ _ _ _ _ => gts_nil) (fun _ _ _ _ _ => ge_ix ix_seq ro_ix (ge_var 5) (ge_int))))))))))))
    (gss_one (gs_ret (ge_callTy call_tuple_of rc_tuple T.n_tuple (by decide +kernel) (ga_cons (ge_sortSet rfl T.n_sorted T.n_set (ge_var 1)) (ga_nil))))))
/-! ### Rule.read -/
theorem sc_Rule_read : FnScope ["cls", "text", "rule"] ["cls", "text"] (defScope s_Rule_read) := ⟨rfl, rfl, rfl, by decide +kernel, rfl, by decide +kernel, by decide +kernel⟩
theorem ok_Rule_read {nn : Bool} {P : Program} {w : World} {K : PySem.W.Frag} {mg : Str → Option Value} {base : Heap} {A : Ad} {f : Addr} {fd : FuncData} {dfs : List V} {kfs : List (Str × V)} (T : Txt K mg A) (F : FunD K "read" "Rule.read" (defArgs s_Rule_read) (defBody s_Rule_read) (defScope s_Rule_read) dfs kfs f fd) (mk_Rule_1 : Mc P w K mg base nn "Rule" (A.c "Rule") 10 2 (G_Rule_init A) []) :
    FnX ⟨false, nn, false⟩ P w K mg base 12 f fd ["cls", "text"] (spG K 2 (G_Rule_read A)) := by
  rw [D_Rule_read]
  refine fn_G F sc_Rule_read (fun cdv Ar outer s H E pp hgd hr tk hp => ?_)
  replace hr : Room 11 (Ar.deeper (PyProof.Rows.envOfC "Rule.read" (defScope s_Rule_read) s.heap.objs.size f cdv)) := hr
  exact gss_cons (gs_if (gt_not (gt_tru tru_ok rt_tru (ge_callB call_isi (rc_isi T.own T.kit) T.n_isinstance (by decide +kernel) (ga_cons (ge_var 1) (ga_cons (ge_ty T.n_str (by decide +kernel)) (ga_nil)))))) (gss_one (gs_never)) (gss_nil))
    (gss_cons (gs_tryThru (gss_one (gs_set 2 sc_Rule_read.nd (ge_makeLF 0 tkF mk_Rule_1 hr (ga_cons (ge_callTy call_tuple_of rc_tuple T.n_tuple (by decide +kernel) (ga_cons (ge_split (ge_var 1) (ge_str)) (ga_nil))) (ga_nil))))))
    (gss_one (gs_ret (ge_var 2))))
/-! ### Rule.rows -/
theorem sc_Rule_rows : FnScope ["self"] ["self"] (defScope s_Rule_rows) := ⟨rfl, rfl, rfl, by decide +kernel, rfl, by decide +kernel, by decide +kernel⟩
theorem ok_Rule_rows {nn : Bool} {P : Program} {w : World} {K : PySem.W.Frag} {mg : Str → Option Value} {base : Heap} {A : Ad} {f : Addr} {fd : FuncData} {dfs : List V} {kfs : List (Str × V)} (T : Txt K mg A) (F : FunD K "rows" "Rule.rows" (defArgs s_Rule_rows) (defBody s_Rule_rows) (defScope s_Rule_rows) dfs kfs f fd)  :
    FnX ⟨false, nn, false⟩ P w K mg base 1 f fd ["self"] (spG K 1 (G_Rule_rows A)) := by
  rw [D_Rule_rows]
  refine fn_G F sc_Rule_rows (fun cdv Ar outer s H E pp hgd hr tk hp => ?_)
  replace hr : Room 0 (Ar.deeper (PyProof.Rows.envOfC "Rule.rows" (defScope s_Rule_rows) s.heap.objs.size f cdv)) := hr
  exact gss_one (gs_ret (ge_fld T.k_Rule.cl T.no_Rule_lines (ge_var 0)))
/-! ### Rule.__str__ -/
theorem sc_Rule_str : FnScope ["self"] ["self"] (defScope s_Rule_str) := ⟨rfl, rfl, rfl, by decide +kernel, rfl, by decide +kernel, by decide +kernel⟩
theorem ok_Rule_str {nn : Bool} {P : Program} {w : World} {K : PySem.W.Frag} {mg : Str → Option Value} {base : Heap} {A : Ad} {f : Addr} {fd : FuncData} {dfs : List V} {kfs : List (Str × V)} (T : Txt K mg A) (F : FunD K "__str__" "Rule.__str__" (defArgs s_Rule_str) (defBody s_Rule_str) (defScope s_Rule_str) dfs kfs f fd)  :
    FnX ⟨false, nn, false⟩ P w K mg base 1 f fd ["self"] (spG K 1 (G_Rule_str A)) := by
  rw [D_Rule_str]
  refine fn_G F sc_Rule_str (fun cdv Ar outer s H E pp hgd hr tk hp => ?_)
  replace hr : Room 0 (Ar.deeper (PyProof.Rows.envOfC "Rule.__str__" (defScope s_Rule_str) s.heap.objs.size f cdv)) := hr
  exact gss_one (gs_ret (ge_join (ge_str) (ge_fld T.k_Rule.cl T.no_Rule_lines (ge_var 0))))
/-! ### Rule.__eq__ -/
theorem sc_Rule_eq : FnScope ["self", "other"] ["self", "other"] (defScope s_Rule_eq) := ⟨rfl, rfl, rfl, by decide +kernel, rfl, by decide +kernel, by decide +kernel⟩
theorem ok_Rule_eq {nn : Bool} {P : Program} {w : World} {K : PySem.W.Frag} {mg : Str → Option Value} {base : Heap} {A : Ad} {f : Addr} {fd : FuncData} {dfs : List V} {kfs : List (Str × V)} (T : Txt K mg A) (F : FunD K "__eq__" "Rule.__eq__" (defArgs s_Rule_eq) (defBody s_Rule_eq) (defScope s_Rule_eq) dfs kfs f fd)  :
    FnX ⟨false, nn, false⟩ P w K mg base 1 f fd ["self", "other"] (spG K 2 (G_Rule_eq A)) := by
  rw [D_Rule_eq]
  refine fn_G F sc_Rule_eq (fun cdv Ar outer s H E pp hgd hr tk hp => ?_)
  replace hr : Room 0 (Ar.deeper (PyProof.Rows.envOfC "Rule.__eq__" (defScope s_Rule_eq) s.heap.objs.size f cdv)) := hr
  exact gss_one (gs_ret (ge_and (ge_callB call_isi (rc_isi T.own T.kit) T.n_isinstance (by decide +kernel) (ga_cons (ge_var 1) (ga_cons (ge_gref T.m_Rule) (ga_nil)))) (ge_one (ge_cmp (op_eqA hr) ro_eqA (ge_fld T.k_Rule.cl T.no_Rule_lines (ge_var 0)) (ge_fld T.k_Rule.cl T.no_Rule_lines (ge_var 1)) (nomark _)))))
/-! ### Rule.__bool__ -/
theorem sc_Rule_bool : FnScope ["self"] ["self"] (defScope s_Rule_bool) := ⟨rfl, rfl, rfl, by decide +kernel, rfl, by decide +kernel, by decide +kernel⟩
theorem ok_Rule_bool {nn : Bool} {P : Program} {w : World} {K : PySem.W.Frag} {mg : Str → Option Value} {base : Heap} {A : Ad} {f : Addr} {fd : FuncData} {dfs : List V} {kfs : List (Str × V)} (T : Txt K mg A) (F : FunD K "__bool__" "Rule.__bool__" (defArgs s_Rule_bool) (defBody s_Rule_bool) (defScope s_Rule_bool) dfs kfs f fd)  :
    FnX ⟨false, nn, false⟩ P w K mg base 1 f fd ["self"] (spG K 1 (G_Rule_bool A)) := by
  rw [D_Rule_bool]
  refine fn_G F sc_Rule_bool (fun cdv Ar outer s H E pp hgd hr tk hp => ?_)
  replace hr : Room 0 (Ar.deeper (PyProof.Rows.envOfC "Rule.__bool__" (defScope s_Rule_bool) s.heap.objs.size f cdv)) := hr
  exact gss_one (gs_ret (ge_bl))
/-! ### _law_right -/
theorem sc_right_k47 : FnScope ["_law_spring_here", "_law_tags", "_law_steps_here", "_law_later", "_law_lines", "_law_others", "_law_due", "_law_mine", "_law_twin", "_law_third", "_law_mate", "_law_near", "_law_one", "_law_same", "_law_told_here", "_law_wanted", "_law_step"] ["_law_spring_here"] (defScope s_right_k47) := ⟨rfl, rfl, rfl, by decide +kernel, rfl, by decide +kernel, by decide +kernel⟩
theorem ok_right_k47 {nn : Bool} {P : Program} {w : World} {K : PySem.W.Frag} {mg : Str → Option Value} {base : Heap} {A : Ad} {f : Addr} {fd : FuncData} {dfs : List V} {kfs : List (Str × V)} (T : Txt K mg A) (F : FunD K "_law_right" "_law_right" (defArgs s_right_k47) (defBody s_right_k47) (defScope s_right_k47) dfs kfs f fd) (c_Rule_len : Sc P w K mg base nn (A.c "Rule") "__len__" 1 1 (G_Rule_len A)) (c_Rule_meters : Pc P w K mg base nn (A.c "Rule") "meters" 3 (G_Rule_meters A)) (c_take_k47 : Fc P w K mg base ⟨false, nn, false⟩ "_law_take" 1 2 (G_take_k47 A)) (c_titles_k47 : Fc P w K mg base ⟨false, nn, false⟩ "_law_titles" 2 2 (G_titles_k47 A)) (c_steps_k47 : Fc P w K mg base ⟨false, nn, false⟩ "_law_steps" 6 4 (G_steps_k47 A)) (c_line_k47 : Fc P w K mg base ⟨false, nn, false⟩ "_law_line" 2 1 (G_line_k47 A)) (c_names_of_k47 : Fc P w K mg base ⟨false, nn, false⟩ "_law_names_of" 1 1 (G_names_of_k47 A)) (c_Rule_read : Cm P w K mg base nn (A.c "Rule") "read" 12 2 (G_Rule_read A)) (c_Rule_rows : Pc P w K mg base nn (A.c "Rule") "rows" 1 (G_Rule_rows A)) (c_Rule_str : Sc P w K mg base nn (A.c "Rule") "__str__" 1 1 (G_Rule_str A)) (c_Rule_eq : Ec P w K mg base nn (A.c "Rule") 1 (G_Rule_eq A)) (c_Rule_bool : Sc P w K mg base nn (A.c "Rule") "__bool__" 1 1 (G_Rule_bool A)) (mk_Rule_0_rows : Mk_ P w K mg base nn "Rule" (A.c "Rule") 10 2 0 ["rows"] (G_Rule_init A) (perm [0])) (mk_Rule_1 : Mc P w K mg base nn "Rule" (A.c "Rule") 10 2 (G_Rule_init A) []) :
    FnX ⟨true, nn, false⟩ P w K mg base 13 f fd ["_law_spring_here"] (spG K 1 (G_right_k47 A)) := by
  rw [D_right_k47]
  refine fn_G F sc_right_k47 (fun cdv Ar outer s H E pp hgd hr tk hp => ?_)
  replace hr : Room 12 (Ar.deeper (PyProof.Rows.envOfC "_law_right" (defScope s_right_k47) s.heap.objs.size f cdv)) := hr
  have hgd0 := hgd rfl
  exact gss_cons (gs_set 1 sc_right_k47.nd (ge_callF (h := false) tk c_titles_k47 nogd hr (ga_cons (ge_var 0) (ga_cons (ge_op op_addA ro_addA (ge_int) (ge_callF (h := false) tk c_take_k47 nogd hr (ga_cons (ge_var 0) (ga_cons (ge_int) (ga_nil))))) (ga_nil)))))
    (gss_cons (gs_par2 2 3 rfl sc_right_k47.nd (ga_cons (ge_callF (h := false) tk c_steps_k47 nogd hr (ga_cons (ge_var 0) (ga_cons (ge_var 1) (ga_cons (ge_int) (ga_cons (ge_op op_addA ro_addA (ge_op op_pow ro_pow (ge_int) (ge_int)) (ge_int)) (ga_nil)))))) (ga_cons (ge_callF (h := false) tk c_steps_k47 nogd hr (ga_cons (ge_var 0) (ga_cons (ge_var 1) (ga_cons (ge_int) (ga_cons (ge_int) (ga_nil)))))) (ga_nil))))
    (gss_cons (gs_par2 4 5 rfl sc_right_k47.nd (ga_cons (ge_callTy call_tuple_of rc_tuple T.n_tuple (by decide +kernel) (ga_cons (ge_lc (own := [("_law_step", 16)]) rfl sc_right_k47.nd (gi_list (ge_var 2)) (blkOk_by (by rfl)) (fun _ _ _ _ _ => gg_name 16 sc_right_k47.nd) (fun _ _ _ _ _ => gts_nil) (fun _ _ _ _ _ => ge_callF (h := false) tkF c_line_k47 nogd hr (ga_cons (ge_var 16) (ga_nil)))) (ga_nil))) (ga_cons (ge_callTy call_tuple_of rc_tuple T.n_tuple (by decide +kernel) (ga_cons (ge_lc (own := [("_law_step", 16)]) rfl sc_right_k47.nd (gi_list (ge_var 3)) (blkOk_by (by rfl)) (fun _ _ _ _ _ => gg_name 16 sc_right_k47.nd) (fun _ _ _ _ _ => gts_nil) (fun _ _ _ _ _ => ge_callF (h := false) tkF c_line_k47 nogd hr (ga_cons (ge_var 16) (ga_nil)))) (ga_nil))) (ga_nil))))
    (gss_cons (gs_set 6 sc_right_k47.nd (ge_callB (call_repr3 (h := false) hgd0 hr) rc_repr3 T.n_repr (by decide +kernel) (ga_cons (ge_lst (ga_cons (ge_var 4) (ga_cons (ge_callF (h := false) tk c_names_of_k47 nogd hr (ga_cons (ge_var 2) (ga_nil))) (ga_cons (ge_callB call_len rc_len T.n_len (by decide +kernel) (ga_cons (ge_var 4) (ga_nil))) (ga_cons (ge_join (ge_str) (ge_var 4)) (ga_nil)))))) (ga_nil))))
    (gss_cons (gs_par2 7 8 rfl sc_right_k47.nd (ga_cons (ge_makeF tk mk_Rule_1 hr (ga_cons (ge_var 4) (ga_nil))) (ga_cons (ge_cmeth tk c_Rule_read hr (ge_gref T.m_Rule) (ga_cons (ge_join (ge_str) (ge_var 4)) (ga_nil))) (ga_nil))))
    (gss_cons (gs_par2 9 10 rfl sc_right_k47.nd (ga_cons (ge_makeKF0 (ks := ["rows"]) tk mk_Rule_0_rows hr (gk_cons (ge_var 4) (gk_nil))) (ga_cons (ge_makeF tk mk_Rule_1 hr (ga_cons (ge_var 5) (ga_nil))) (ga_nil))))
    (gss_cons (gs_set 11 sc_right_k47.nd (ge_makeF tk mk_Rule_1 hr (ga_cons (ge_op op_catA ro_catT (ge_slice sl_tupA rsl_T (ge_var 4) (go_none) (go_some (ge_un un_neg ru_neg (ge_int)))) (ge_tup (ga_cons (ge_ifExp (gt_cmp (op_eqA hr) ro_eqA (ge_ix ix_seq ro_ix (ge_var 4) (ge_un un_neg ru_neg (ge_int))) (ge_str) (nomark _)) (ge_str) (ge_str)) (ga_nil)))) (ga_nil))))
    (gss_cons (gs_for hp rfl (gi_list (ge_lst (ga_cons (ge_var 7) (ga_cons (ge_var 8) (ga_cons (ge_var 9) (ga_cons (ge_var 7) (ga_nil))))))) (gg_name 12 sc_right_k47.nd) (gss_one (gs_if (gt_cmp (op_neA hr) ro_neA (ge_callB (call_repr3 (h := false) hgd0 hr) rc_repr3 T.n_repr (by decide +kernel) (ga_cons (ge_lst (ga_cons (ge_propF c_Rule_rows hr (ge_var 12)) (ga_cons (ge_propF c_Rule_meters hr (ge_var 12)) (ga_cons (ge_callBM (call_lenF c_Rule_len hr) rcm_len T.n_len (by decide +kernel) (ga_cons (ge_var 12) (ga_nil))) (ga_cons (ge_callTyM (call_strF c_Rule_str hr) rcm_str T.n_str (by decide +kernel) (ga_cons (ge_var 12) (ga_nil))) (ga_nil)))))) (ga_nil))) (ge_var 6) (nomark _)) (gss_one (gs_ret (ge_bl))) (gss_nil))))
    (gss_cons (gs_set 13 sc_right_k47.nd (ge_cmp (op_eqA hr) ro_eqA (ge_var 4) (ge_var 5) (nomark _)))
    (gss_cons (gs_set 14 sc_right_k47.nd (ge_lst (ga_cons (ge_cmpM (op_eqF c_Rule_eq hr) (fun _ => rom_eqOwn T.own T.nf_Rule) (ge_var 7) (ge_var 8) (nomark _)) (ga_cons (ge_cmpM (op_eqF c_Rule_eq hr) (fun _ => rom_eqOwn T.own T.nf_Rule) (ge_var 8) (ge_var 7) (nomark _)) (ga_cons (ge_cmpM (op_neF c_Rule_eq hr) (fun _ => rom_eqOwn T.own T.nf_Rule) (ge_var 7) (ge_var 9) (nomark _)) (ga_cons (ge_cmpM (op_eqF c_Rule_eq hr) (fun _ => rom_eqOwn T.own T.nf_Rule) (ge_var 7) (ge_var 10) (nomark _)) (ga_cons (ge_cmpM (op_eqF c_Rule_eq hr) (fun _ => rom_eqOwn T.own T.nf_Rule) (ge_var 10) (ge_var 7) (nomark _)) (ga_cons (ge_cmpM (op_neF c_Rule_eq hr) (fun _ => rom_eqOwn T.own T.nf_Rule) (ge_var 7) (ge_var 10) (nomark _)) (ga_cons (ge_cmpM (op_eqF c_Rule_eq hr) (fun _ => rom_eqOwn T.own T.nf_Rule) (ge_var 7) (ge_var 11) (nomark _)) (ga_nil))))))))))
    (gss_cons (gs_set 14 sc_right_k47.nd (ge_op op_addA ro_addA (ge_var 14) (ge_lst (ga_cons (ge_cmpM (op_neF c_Rule_eq hr) (fun _ => rom_eqOwn T.own T.nf_Rule) (ge_var 11) (ge_var 7) (nomark _)) (ga_cons (ge_cmpM (op_eqF c_Rule_eq hr) (fun _ => rom_eqOwn T.own T.nf_Rule) (ge_var 7) (ge_var 4) (nomark _)) (ga_cons (ge_cmpM (op_neF c_Rule_eq hr) (fun _ => rom_eqOwn T.own T.nf_Rule) (ge_var 7) (ge_callTyM (call_strF c_Rule_str hr) rcm_str T.n_str (by decide +kernel) (ga_cons (ge_var 7) (ga_nil))) (nomark _)) (ga_cons (ge_cmpM (op_eqF c_Rule_eq hr) (fun _ => rom_eqOwn T.own T.nf_Rule) (ge_var 7) (ge_non) (nomark _)) (ga_cons (ge_callTyM (call_boolF c_Rule_bool hr) rcm_bool T.n_bool (by decide +kernel) (ga_cons (ge_var 7) (ga_nil))) (ga_cons (ge_callTyM (call_boolF c_Rule_bool hr) rcm_bool T.n_bool (by decide +kernel) (ga_cons (ge_var 11) (ga_nil))) (ga_nil))))))))))
    (gss_cons (gs_set 15 sc_right_k47.nd (ge_lst (ga_cons (ge_bl) (ga_cons (ge_bl) (ga_cons (ge_bl) (ga_cons (ge_var 13) (ga_cons (ge_var 13) (ga_cons (ge_notT tru_ok rt_tru (ge_var 13)) (ga_cons (ge_bl) (ga_cons (ge_bl) (ga_cons (ge_bl) (ga_cons (ge_bl) (ga_cons (ge_bl) (ga_cons (ge_bl) (ga_cons (ge_bl) (ga_nil))))))))))))))))
    (gss_one (gs_ret (ge_and (ge_cmp (op_eqA hr) ro_eqA (ge_callB (call_repr3 (h := false) hgd0 hr) rc_repr3 T.n_repr (by decide +kernel) (ga_cons (ge_var 14) (ga_nil))) (ge_callB (call_repr3 (h := false) hgd0 hr) rc_repr3 T.n_repr (by decide +kernel) (ga_cons (ge_var 15) (ga_nil))) (nomark _)) (ge_one (ge_cmp (op_eqA hr) ro_eqA (ge_callB (call_repr3 (h := false) hgd0 hr) rc_repr3 T.n_repr (by decide +kernel) (ga_cons (ge_lst (ga_cons (ge_propF c_Rule_rows hr (ge_var 10)) (ga_cons (ge_callBM (call_lenF c_Rule_len hr) rcm_len T.n_len (by decide +kernel) (ga_cons (ge_var 10) (ga_nil))) (ga_nil)))) (ga_nil))) (ge_callB (call_repr3 (h := false) hgd0 hr) rc_repr3 T.n_repr (by decide +kernel) (ga_cons (ge_lst (ga_cons (ge_var 5) (ga_cons (ge_callB call_len rc_len T.n_len (by decide +kernel) (ga_cons (ge_var 5) (ga_nil))) (ga_nil)))) (ga_nil))) (nomark _)))))))))))))))))
/-! ### law -/
theorem sc_law_k47 : FnScope ["_law_script", "_law_mine", "_law_few", "_law_wide", "_law_told_here", "_law_one", "_law_k"] ["_law_script"] (defScope s_law_k47) := ⟨rfl, rfl, rfl, by decide +kernel, rfl, by decide +kernel, by decide +kernel⟩
theorem ok_law_k47 {nn : Bool} {P : Program} {w : World} {K : PySem.W.Frag} {mg : Str → Option Value} {base : Heap} {A : Ad} {f : Addr} {fd : FuncData} {dfs : List V} {kfs : List (Str × V)} (T : Txt K mg A) (F : FunD K "law" "law" (defArgs s_law_k47) (defBody s_law_k47) (defScope s_law_k47) dfs kfs f fd) (c_Rule_len : Sc P w K mg base nn (A.c "Rule") "__len__" 1 1 (G_Rule_len A)) (c_Rule_meters : Pc P w K mg base nn (A.c "Rule") "meters" 3 (G_Rule_meters A)) (c_spring_k47 : Fc P w K mg base ⟨false, nn, false⟩ "_law_spring" 1 2 (G_spring_k47 A)) (c_right_k47 : Fc P w K mg base ⟨true, nn, false⟩ "_law_right" 13 1 (G_right_k47 A)) (mk_Rule_1 : Mc P w K mg base nn "Rule" (A.c "Rule") 10 2 (G_Rule_init A) []) :
    FnX ⟨true, nn, false⟩ P w K mg base 14 f fd ["_law_script"] (spG K 1 (G_law_k47 A)) := by
  rw [D_law_k47]
  refine fn_G F sc_law_k47 (fun cdv Ar outer s H E pp hgd hr tk hp => ?_)
  replace hr : Room 13 (Ar.deeper (PyProof.Rows.envOfC "law" (defScope s_law_k47) s.heap.objs.size f cdv)) := hr
  have hgd0 := hgd rfl
  exact gss_cons (gs_set 1 sc_law_k47.nd (ge_makeF tk mk_Rule_1 hr (ga_cons (ge_tup (ga_cons (ge_str) (ga_cons (ge_str) (ga_cons (ge_str) (ga_nil))))) (ga_nil))))
    (gss_cons (gs_set 2 sc_law_k47.nd (ge_lst (ga_cons (ge_makeF tk mk_Rule_1 hr (ga_cons (ge_tup (ga_cons (ge_str) (ga_nil))) (ga_nil))) (ga_cons (ge_makeF tk mk_Rule_1 hr (ga_cons (ge_tup (ga_cons (ge_str) (ga_nil))) (ga_nil))) (ga_cons (ge_makeF tk mk_Rule_1 hr (ga_cons (ge_op op_catA ro_catT (ge_tup (ga_cons (ge_str) (ga_nil))) (ge_op op_repT ro_repT (ge_tup (ga_cons (ge_str) (ga_nil))) (ge_int))) (ga_nil))) (ga_nil))))))
    (gss_cons (gs_set 3 sc_law_k47.nd (ge_makeF tk mk_Rule_1 hr (ga_cons (ge_tup (ga_cons (ge_op op_addA ro_addA (ge_op op_addA ro_addA (ge_op op_addA ro_addA (ge_op op_addA ro_addA (ge_str) (ge_op op_mulS ro_mulS (ge_str) (ge_int))) (ge_str)) (ge_op op_mulS ro_mulS (ge_str) (ge_int))) (ge_slice sl_A rsl_A (ge_str) (go_none) (go_some (ge_int)))) (ga_cons (ge_str) (ga_nil)))) (ga_nil))))
    (gss_cons (gs_set 4 sc_law_k47.nd (ge_lst (ga_cons (ge_callBM (call_lenF c_Rule_len hr) rcm_len T.n_len (by decide +kernel) (ga_cons (ge_var 1) (ga_nil))) (ga_cons (ge_propF c_Rule_meters hr (ge_var 1)) (ga_cons (ge_lc (own := [("_law_one", 5)]) rfl sc_law_k47.nd (gi_list (ge_var 2)) (blkOk_by (by rfl)) (fun _ _ _ _ _ => gg_name 5 sc_law_k47.nd) (fun _ _ _ _ _ => gts_nil) (fun _ _ _ _ _ => ge_propF c_Rule_meters hr (ge_var 5))) (ga_cons (ge_lc (own := [("_law_one", 5)]) rfl sc_law_k47.nd (gi_list (ge_var 2)) (blkOk_by (by rfl)) (fun _ _ _ _ _ => gg_name 5 sc_law_k47.nd) (fun _ _ _ _ _ => gts_nil) (fun _ _ _ _ _ => ge_callBM (call_lenF c_Rule_len hr) rcm_len T.n_len (by decide +kernel) (ga_cons (ge_var 5) (ga_nil)))) (ga_cons (ge_propF c_Rule_meters hr (ge_var 3)) (ga_cons (ge_callBM (call_lenF c_Rule_len hr) rcm_len T.n_len (by decide +kernel) (ga_cons (ge_var 3) (ga_nil))) (ga_nil)))))))))
    (gss_cons (gs_if (gt_cmp (op_neA hr) ro_neA (ge_callB (call_repr3 (h := false) hgd0 hr) rc_repr3 T.n_repr (by decide +kernel) (ga_cons (ge_var 4) (ga_nil))) (ge_callB (call_repr3 (h := false) hgd0 hr) rc_repr3 T.n_repr (by decide +kernel) (ga_cons (ge_lst (ga_cons (ge_int) (ga_cons (ge_tup (ga_cons (ge_str) (ga_cons (ge_str) (ga_cons (ge_str) (ga_cons (ge_str) (ga_cons (ge_str) (ga_nil))))))) (ga_cons (ge_lst (ga_cons (ge_tup (ga_nil)) (ga_cons (ge_tup (ga_nil)) (ga_cons (ge_tup (ga_cons (ge_str) (ga_cons (ge_str) (ga_nil)))) (ga_nil))))) (ga_cons (ge_lst (ga_cons (ge_int) (ga_cons (ge_int) (ga_cons (ge_int) (ga_nil))))) (ga_cons (ge_tup (ga_cons (ge_str) (ga_cons (ge_str) (ga_cons (ge_str) (ga_cons (ge_str) (ga_nil)))))) (ga_cons (ge_int) (ga_nil)))))))) (ga_nil))) (nomark _)) (gss_one (gs_ret (ge_bl))) (gss_nil))
    (gss_one (gs_ret (ge_callB (cr_all rfl) rc_all T.n_all (by decide +kernel) (ga_cons (ge_lc (own := [("_law_k", 6)]) rfl sc_law_k47.nd (gi_range1 T.n_range (ga_cons (ge_callB (call_max2 rfl) rc_max2 T.n_max (by decide +kernel) (ga_cons (ge_int) (ga_cons (ge_callB (call_min2 rfl) rc_min2 T.n_min (by decide +kernel) (ga_cons (ge_callB call_len rc_len T.n_len (by decide +kernel) (ga_cons (ge_var 0) (ga_nil))) (ga_cons (ge_int) (ga_nil)))) (ga_nil)))) (ga_nil))) (blkOk_by (by rfl)) (fun _ _ _ _ _ => gg_name 6 sc_law_k47.nd) (fun _ _ _ _ _ => gts_nil) (fun _ _ _ _ _ => ge_callF (h := false) tkF c_right_k47 hgd hr (ga_cons (ge_callF (h := false) tkF c_spring_k47 nogd hr (ga_cons (ge_var 0) (ga_cons (ge_var 6) (ga_nil)))) (ga_nil)))) (ga_nil)))))))))
end K47
end
section
namespace K47
open PySem L2 RV
theorem facts {P : Program} {w : World} {K : PySem.W.Frag} {h : Heap} {mg : Str → Option Value} {f : Addr} (X : K.In h) (G : h.Ns mainGlobals mg) (hfa : mg ("law" : Str) = some (.ref f)) (c : He5.SaysA fa fn K) (cx : exA K = true) :
    ∃ fd : FuncData, (∀ (s : Shared) (v : Value), BindsTo s fd ⟨[v], []⟩ [("_law_script", v)]) ∧ ∀ base : Heap, K.In base → base.Ns mainGlobals mg → FnX ⟨true, false, false⟩ P w K mg base 14 f fd ["_law_script"] (spG K 1 (G_law_k47 (ad K))) := by
  have kk_Sum : KindC K ((ad K).c "Sum") := kindB_ok (He.cls_ok (c.fact 32 (f := .cls "Sum") rfl)) (exA_at cx 0 rfl)
  have kk_Rule : KindC K ((ad K).c "Rule") := kindB_ok (He.cls_ok (c.fact 35 (f := .cls "Rule") rfl)) (exA_at cx 4 rfl)
  have T : Txt K mg (ad K) :=
    { n_abs := He.free_ok X G (c.fact 40 (f := .free "abs") rfl)
      n_all := He.free_ok X G (c.fact 41 (f := .free "all") rfl)
      n_any := He.free_ok X G (c.fact 42 (f := .free "any") rfl)
      n_bool := He.free_ok X G (c.fact 43 (f := .free "bool") rfl)
      n_divmod := He.free_ok X G (c.fact 44 (f := .free "divmod") rfl)
      n_enumerate := He.free_ok X G (c.fact 45 (f := .free "enumerate") rfl)
      n_int := He.free_ok X G (c.fact 46 (f := .free "int") rfl)
      n_isinstance := He.free_ok X G (c.fact 47 (f := .free "isinstance") rfl)
      n_len := He.free_ok X G (c.fact 48 (f := .free "len") rfl)
      n_list := He.free_ok X G (c.fact 49 (f := .free "list") rfl)
      n_max := He.free_ok X G (c.fact 50 (f := .free "max") rfl)
      n_min := He.free_ok X G (c.fact 51 (f := .free "min") rfl)
      n_range := He.free_ok X G (c.fact 52 (f := .free "range") rfl)
      n_repr := He.free_ok X G (c.fact 53 (f := .free "repr") rfl)
      n_set := He.free_ok X G (c.fact 54 (f := .free "set") rfl)
      n_sorted := He.free_ok X G (c.fact 55 (f := .free "sorted") rfl)
      n_str := He.free_ok X G (c.fact 56 (f := .free "str") rfl)
      n_tuple := He.free_ok X G (c.fact 57 (f := .free "tuple") rfl)
      g_BLOCK := He.int_ok X G (c.fact 58 (f := .int "BLOCK" 1000000000000000000000000000000) rfl)
      g_DIGITS := He.str_ok X G (c.fact 59 (f := .str "DIGITS" "0123456789") rfl)
      g_LETTERS := He.str_ok X G (c.fact 60 (f := .str "LETTERS" "abcdefghijklmnopqrstuvwxyz") rfl)
      g_LONGEST_NAME := He.int_ok X G (c.fact 61 (f := .int "LONGEST_NAME" 8) rfl)
      g_MOST_FAULTS := He.int_ok X G (c.fact 62 (f := .int "MOST_FAULTS" 3) rfl)
      g_MOST_ROWS := He.int_ok X G (c.fact 63 (f := .int "MOST_ROWS" 8) rfl)
      g_MOST_SUMS := He.int_ok X G (c.fact 64 (f := .int "MOST_SUMS" 10) rfl)
      m_Sum := He.glo_ok X G (c.fact 31 (f := .glo "Sum") rfl)
      m_Rule := He.glo_ok X G (c.fact 34 (f := .glo "Rule") rfl)
      k_Sum := kk_Sum
      k_Rule := kk_Rule
      no_Rule_lines := He.noat_ok (c.fact 37 (f := .noat "Rule" "lines") rfl)
      no_Rule_steps := He.noat_ok (c.fact 38 (f := .noat "Rule" "steps") rfl)
      no_Sum_kept := He.noat_ok (c.fact 39 (f := .noat "Sum" "kept") rfl)
      own := own_of (fun n hn => by
        simp only [ad, List.mem_cons, List.mem_nil_iff, or_false] at hn
        rcases hn with rfl | rfl
        all_goals first | exact kk_Sum | exact kk_Rule)
      kit := tabB_ok (exA_at cx 16 rfl)
      nf_Rule := nfB_ok (exA_at cx 6 rfl) }
  obtain ⟨fd_goal_with, F0_goal_with⟩ := c.def_ 0 (d := d_goal_with) rfl
  have F_goal_with : FunD K "goal_with" "goal_with" (defArgs s_goal_with) (defBody s_goal_with) (defScope s_goal_with) [] [] (d_goal_with.at_ K) fd_goal_with := F0_goal_with
  have b_goal_with : Binds K fd_goal_with ["text", "index", "many"] [] := F_goal_with.bindsN fun _ _ _ _ _ _ us hl => match us, hl with | [_, _, _], _ => rfl
  obtain ⟨fd_is_name, F0_is_name⟩ := c.def_ 1 (d := d_is_name) rfl
  have F_is_name : FunD K "is_name" "is_name" (defArgs s_is_name) (defBody s_is_name) (defScope s_is_name) [] [] (d_is_name.at_ K) fd_is_name := F0_is_name
  have b_is_name : Binds K fd_is_name ["value"] [] := F_is_name.bindsN fun _ _ _ _ _ _ us hl => match us, hl with | [_], _ => rfl
  obtain ⟨fd_read_number, F0_read_number⟩ := c.def_ 2 (d := d_read_number) rfl
  have F_read_number : FunD K "read_number" "read_number" (defArgs s_read_number) (defBody s_read_number) (defScope s_read_number) [] [] (d_read_number.at_ K) fd_read_number := F0_read_number
  have b_read_number : Binds K fd_read_number ["word"] [] := F_read_number.bindsN fun _ _ _ _ _ _ us hl => match us, hl with | [_], _ => rfl
  obtain ⟨fd_read_term, F0_read_term⟩ := c.def_ 3 (d := d_read_term) rfl
  have F_read_term : FunD K "read_term" "read_term" (defArgs s_read_term) (defBody s_read_term) (defScope s_read_term) [] [] (d_read_term.at_ K) fd_read_term := F0_read_term
  have b_read_term : Binds K fd_read_term ["word"] [] := F_read_term.bindsN fun _ _ _ _ _ _ us hl => match us, hl with | [_], _ => rfl
  obtain ⟨fd_merged_l, F0_merged_l⟩ := c.def_ 4 (d := d_merged_l) rfl
  have F_merged_l : FunD K "merged" "merged" (defArgs s_merged_l) (defBody s_merged_l) (defScope s_merged_l) [] [] (d_merged_l.at_ K) fd_merged_l := F0_merged_l
  have b_merged_l : Binds K fd_merged_l ["pairs"] [] := F_merged_l.bindsN fun _ _ _ _ _ _ us hl => match us, hl with | [_], _ => rfl
  obtain ⟨fd_digits_of_r1, F0_digits_of_r1⟩ := c.def_ 5 (d := d_digits_of_r1) rfl
  have F_digits_of_r1 : FunD K "digits_of" "digits_of" (defArgs s_digits_of_r1) (defBody s_digits_of_r1) (defScope s_digits_of_r1) [] [] (d_digits_of_r1.at_ K) fd_digits_of_r1 := F0_digits_of_r1
  have b_digits_of_r1 : Binds K fd_digits_of_r1 ["number"] [] := F_digits_of_r1.bindsN fun _ _ _ _ _ _ us hl => match us, hl with | [_], _ => rfl
  obtain ⟨fd_digits_of_r0, F0_digits_of_r0⟩ := c.def_ 6 (d := d_digits_of_r0) rfl
  have F_digits_of_r0 : FunD K "digits_of" "digits_of" (defArgs s_digits_of_r0) (defBody s_digits_of_r0) (defScope s_digits_of_r0) [] [] (d_digits_of_r0.at_ K) fd_digits_of_r0 := F0_digits_of_r0
  have b_digits_of_r0 : Binds K fd_digits_of_r0 ["number"] [] := F_digits_of_r0.bindsN fun _ _ _ _ _ _ us hl => match us, hl with | [_], _ => rfl
  obtain ⟨fd_term_text, F0_term_text⟩ := c.def_ 7 (d := d_term_text) rfl
  have F_term_text : FunD K "term_text" "term_text" (defArgs s_term_text) (defBody s_term_text) (defScope s_term_text) [] [] (d_term_text.at_ K) fd_term_text := F0_term_text
  have b_term_text : Binds K fd_term_text ["name", "size"] [] := F_term_text.bindsN fun _ _ _ _ _ _ us hl => match us, hl with | [_, _], _ => rfl
  obtain ⟨fd_text_of, F0_text_of⟩ := c.def_ 8 (d := d_text_of) rfl
  have F_text_of : FunD K "text_of" "text_of" (defArgs s_text_of) (defBody s_text_of) (defScope s_text_of) [] [] (d_text_of.at_ K) fd_text_of := F0_text_of
  have b_text_of : Binds K fd_text_of ["terms"] [] := F_text_of.bindsN fun _ _ _ _ _ _ us hl => match us, hl with | [_], _ => rfl
  obtain ⟨fd_read_terms, F0_read_terms⟩ := c.def_ 9 (d := d_read_terms) rfl
  have F_read_terms : FunD K "read_terms" "read_terms" (defArgs s_read_terms) (defBody s_read_terms) (defScope s_read_terms) [] [] (d_read_terms.at_ K) fd_read_terms := F0_read_terms
  have b_read_terms : Binds K fd_read_terms ["text"] [] := F_read_terms.bindsN fun _ _ _ _ _ _ us hl => match us, hl with | [_], _ => rfl
  obtain ⟨fd_is_integer, F0_is_integer⟩ := c.def_ 10 (d := d_is_integer) rfl
  have F_is_integer : FunD K "is_integer" "is_integer" (defArgs s_is_integer) (defBody s_is_integer) (defScope s_is_integer) [] [] (d_is_integer.at_ K) fd_is_integer := F0_is_integer
  have b_is_integer : Binds K fd_is_integer ["value"] [] := F_is_integer.bindsN fun _ _ _ _ _ _ us hl => match us, hl with | [_], _ => rfl
  obtain ⟨fd_check_terms, F0_check_terms⟩ := c.def_ 11 (d := d_check_terms) rfl
  have F_check_terms : FunD K "check_terms" "check_terms" (defArgs s_check_terms) (defBody s_check_terms) (defScope s_check_terms) [] [] (d_check_terms.at_ K) fd_check_terms := F0_check_terms
  have b_check_terms : Binds K fd_check_terms ["terms"] [] := F_check_terms.bindsN fun _ _ _ _ _ _ us hl => match us, hl with | [_], _ => rfl
  obtain ⟨fd_merged_t, F0_merged_t⟩ := c.def_ 12 (d := d_merged_t) rfl
  have F_merged_t : FunD K "merged" "merged" (defArgs s_merged_t) (defBody s_merged_t) (defScope s_merged_t) [] [] (d_merged_t.at_ K) fd_merged_t := F0_merged_t
  have b_merged_t : Binds K fd_merged_t ["pairs"] [] := F_merged_t.bindsN fun _ _ _ _ _ _ us hl => match us, hl with | [_], _ => rfl
  obtain ⟨fd_Sum_init, F0_Sum_init⟩ := c.def_ 13 (d := d_Sum_init) rfl
  have F_Sum_init : FunD K "__init__" "Sum.__init__" (defArgs s_Sum_init) (defBody s_Sum_init) (defScope s_Sum_init) [.ref (He.dflAt ("Sum", some "__init__") 0 K)] [] (d_Sum_init.at_ K) fd_Sum_init := F0_Sum_init
  obtain ⟨dz_Sum_init, vz_Sum_init, b0_Sum_init⟩ := F_Sum_init.binds1 (ps := ["self", "terms"]) 2 1 (by simp) (by simp) fun _ _ _ _ _ _ _ us its hu hi => match us, hu, its, hi with | [_, _], _, [_], _ => ⟨_, rfl, rfl⟩
  have b_Sum_init : Binds K fd_Sum_init ["self", "terms"] [] := by cases vz_Sum_init; exact b0_Sum_init
  obtain ⟨fd_Sum_read, F0_Sum_read⟩ := c.def_ 14 (d := d_Sum_read) rfl
  have F_Sum_read : FunD K "read" "Sum.read" (defArgs s_Sum_read) (defBody s_Sum_read) (defScope s_Sum_read) [] [] (d_Sum_read.at_ K) fd_Sum_read := F0_Sum_read
  have b_Sum_read : Binds K fd_Sum_read ["cls", "text"] [] := F_Sum_read.bindsN fun _ _ _ _ _ _ us hl => match us, hl with | [_, _], _ => rfl
  obtain ⟨fd_sum_with, F0_sum_with⟩ := c.def_ 15 (d := d_sum_with) rfl
  have F_sum_with : FunD K "sum_with" "sum_with" (defArgs s_sum_with) (defBody s_sum_with) (defScope s_sum_with) [] [] (d_sum_with.at_ K) fd_sum_with := F0_sum_with
  have b_sum_with : Binds K fd_sum_with ["text"] [] := F_sum_with.bindsN fun _ _ _ _ _ _ us hl => match us, hl with | [_], _ => rfl
  obtain ⟨fd_test_step, F0_test_step⟩ := c.def_ 16 (d := d_test_step) rfl
  have F_test_step : FunD K "test_step" "test_step" (defArgs s_test_step) (defBody s_test_step) (defScope s_test_step) [] [] (d_test_step.at_ K) fd_test_step := F0_test_step
  have b_test_step : Binds K fd_test_step ["text", "index", "many"] [] := F_test_step.bindsN fun _ _ _ _ _ _ us hl => match us, hl with | [_, _, _], _ => rfl
  obtain ⟨fd_vote_step, F0_vote_step⟩ := c.def_ 17 (d := d_vote_step) rfl
  have F_vote_step : FunD K "vote_step" "vote_step" (defArgs s_vote_step) (defBody s_vote_step) (defScope s_vote_step) [] [] (d_vote_step.at_ K) fd_vote_step := F0_vote_step
  have b_vote_step : Binds K fd_vote_step ["text"] [] := F_vote_step.bindsN fun _ _ _ _ _ _ us hl => match us, hl with | [_], _ => rfl
  obtain ⟨fd_step_of, F0_step_of⟩ := c.def_ 18 (d := d_step_of) rfl
  have F_step_of : FunD K "step_of" "step_of" (defArgs s_step_of) (defBody s_step_of) (defScope s_step_of) [] [] (d_step_of.at_ K) fd_step_of := F0_step_of
  have b_step_of : Binds K fd_step_of ["row", "index", "many"] [] := F_step_of.bindsN fun _ _ _ _ _ _ us hl => match us, hl with | [_, _, _], _ => rfl
  obtain ⟨fd_Rule_init, F0_Rule_init⟩ := c.def_ 19 (d := d_Rule_init) rfl
  have F_Rule_init : FunD K "__init__" "Rule.__init__" (defArgs s_Rule_init) (defBody s_Rule_init) (defScope s_Rule_init) [] [] (d_Rule_init.at_ K) fd_Rule_init := F0_Rule_init
  have b_Rule_init : Binds K fd_Rule_init ["self", "rows"] [] := F_Rule_init.bindsN fun _ _ _ _ _ _ us hl => match us, hl with | [_, _], _ => rfl
  obtain ⟨fd_Rule_len, F0_Rule_len⟩ := c.def_ 20 (d := d_Rule_len) rfl
  have F_Rule_len : FunD K "__len__" "Rule.__len__" (defArgs s_Rule_len) (defBody s_Rule_len) (defScope s_Rule_len) [] [] (d_Rule_len.at_ K) fd_Rule_len := F0_Rule_len
  have b_Rule_len : Binds K fd_Rule_len ["self"] [] := F_Rule_len.bindsN fun _ _ _ _ _ _ us hl => match us, hl with | [_], _ => rfl
  obtain ⟨fd_sums_in, F0_sums_in⟩ := c.def_ 21 (d := d_sums_in) rfl
  have F_sums_in : FunD K "sums_in" "sums_in" (defArgs s_sums_in) (defBody s_sums_in) (defScope s_sums_in) [] [] (d_sums_in.at_ K) fd_sums_in := F0_sums_in
  have b_sums_in : Binds K fd_sums_in ["step"] [] := F_sums_in.bindsN fun _ _ _ _ _ _ us hl => match us, hl with | [_], _ => rfl
  obtain ⟨fd_Sum_names, F0_Sum_names⟩ := c.def_ 22 (d := d_Sum_names) rfl
  have F_Sum_names : FunD K "names" "Sum.names" (defArgs s_Sum_names) (defBody s_Sum_names) (defScope s_Sum_names) [] [] (d_Sum_names.at_ K) fd_Sum_names := F0_Sum_names
  have b_Sum_names : Binds K fd_Sum_names ["self"] [] := F_Sum_names.bindsN fun _ _ _ _ _ _ us hl => match us, hl with | [_], _ => rfl
  obtain ⟨fd_Rule_meters, F0_Rule_meters⟩ := c.def_ 23 (d := d_Rule_meters) rfl
  have F_Rule_meters : FunD K "meters" "Rule.meters" (defArgs s_Rule_meters) (defBody s_Rule_meters) (defScope s_Rule_meters) [] [] (d_Rule_meters.at_ K) fd_Rule_meters := F0_Rule_meters
  have b_Rule_meters : Binds K fd_Rule_meters ["self"] [] := F_Rule_meters.bindsN fun _ _ _ _ _ _ us hl => match us, hl with | [_], _ => rfl
  obtain ⟨fd_spring_k47, F0_spring_k47⟩ := c.def_ 24 (d := d_spring_k47) rfl
  have F_spring_k47 : FunD K "_law_spring" "_law_spring" (defArgs s_spring_k47) (defBody s_spring_k47) (defScope s_spring_k47) [] [] (d_spring_k47.at_ K) fd_spring_k47 := F0_spring_k47
  have b_spring_k47 : Binds K fd_spring_k47 ["_law_script", "_law_k"] [] := F_spring_k47.bindsN fun _ _ _ _ _ _ us hl => match us, hl with | [_, _], _ => rfl
  obtain ⟨fd_take_k47, F0_take_k47⟩ := c.def_ 25 (d := d_take_k47) rfl
  have F_take_k47 : FunD K "_law_take" "_law_take" (defArgs s_take_k47) (defBody s_take_k47) (defScope s_take_k47) [] [] (d_take_k47.at_ K) fd_take_k47 := F0_take_k47
  have b_take_k47 : Binds K fd_take_k47 ["_law_spring_here", "_law_many"] [] := F_take_k47.bindsN fun _ _ _ _ _ _ us hl => match us, hl with | [_, _], _ => rfl
  obtain ⟨fd_titles_k47, F0_titles_k47⟩ := c.def_ 26 (d := d_titles_k47) rfl
  have F_titles_k47 : FunD K "_law_titles" "_law_titles" (defArgs s_titles_k47) (defBody s_titles_k47) (defScope s_titles_k47) [] [] (d_titles_k47.at_ K) fd_titles_k47 := F0_titles_k47
  have b_titles_k47 : Binds K fd_titles_k47 ["_law_spring_here", "_law_many"] [] := F_titles_k47.bindsN fun _ _ _ _ _ _ us hl => match us, hl with | [_, _], _ => rfl
  obtain ⟨fd_times_k47, F0_times_k47⟩ := c.def_ 27 (d := d_times_k47) rfl
  have F_times_k47 : FunD K "_law_times" "_law_times" (defArgs s_times_k47) (defBody s_times_k47) (defScope s_times_k47) [] [] (d_times_k47.at_ K) fd_times_k47 := F0_times_k47
  have b_times_k47 : Binds K fd_times_k47 ["_law_spring_here", "_law_wide"] [] := F_times_k47.bindsN fun _ _ _ _ _ _ us hl => match us, hl with | [_, _], _ => rfl
  obtain ⟨fd_total_k47, F0_total_k47⟩ := c.def_ 28 (d := d_total_k47) rfl
  have F_total_k47 : FunD K "_law_total" "_law_total" (defArgs s_total_k47) (defBody s_total_k47) (defScope s_total_k47) [] [] (d_total_k47.at_ K) fd_total_k47 := F0_total_k47
  have b_total_k47 : Binds K fd_total_k47 ["_law_spring_here", "_law_tags", "_law_many", "_law_wide"] [] := F_total_k47.bindsN fun _ _ _ _ _ _ us hl => match us, hl with | [_, _, _, _], _ => rfl
  obtain ⟨fd_pick_k47, F0_pick_k47⟩ := c.def_ 29 (d := d_pick_k47) rfl
  have F_pick_k47 : FunD K "_law_pick" "_law_pick" (defArgs s_pick_k47) (defBody s_pick_k47) (defScope s_pick_k47) [] [] (d_pick_k47.at_ K) fd_pick_k47 := F0_pick_k47
  have b_pick_k47 : Binds K fd_pick_k47 ["_law_spring_here", "_law_some", "_law_tags", "_law_wide"] [] := F_pick_k47.bindsN fun _ _ _ _ _ _ us hl => match us, hl with | [_, _, _, _], _ => rfl
  obtain ⟨fd_last_k47, F0_last_k47⟩ := c.def_ 30 (d := d_last_k47) rfl
  have F_last_k47 : FunD K "_law_last" "_law_last" (defArgs s_last_k47) (defBody s_last_k47) (defScope s_last_k47) [] [] (d_last_k47.at_ K) fd_last_k47 := F0_last_k47
  have b_last_k47 : Binds K fd_last_k47 ["_law_spring_here", "_law_some", "_law_tags", "_law_wide"] [] := F_last_k47.bindsN fun _ _ _ _ _ _ us hl => match us, hl with | [_, _, _, _], _ => rfl
  obtain ⟨fd_steps_k47, F0_steps_k47⟩ := c.def_ 31 (d := d_steps_k47) rfl
  have F_steps_k47 : FunD K "_law_steps" "_law_steps" (defArgs s_steps_k47) (defBody s_steps_k47) (defScope s_steps_k47) [] [] (d_steps_k47.at_ K) fd_steps_k47 := F0_steps_k47
  have b_steps_k47 : Binds K fd_steps_k47 ["_law_spring_here", "_law_tags", "_law_many", "_law_wide"] [] := F_steps_k47.bindsN fun _ _ _ _ _ _ us hl => match us, hl with | [_, _, _, _], _ => rfl
  obtain ⟨fd_told_k47, F0_told_k47⟩ := c.def_ 32 (d := d_told_k47) rfl
  have F_told_k47 : FunD K "_law_told" "_law_told" (defArgs s_told_k47) (defBody s_told_k47) (defScope s_told_k47) [] [] (d_told_k47.at_ K) fd_told_k47 := F0_told_k47
  have b_told_k47 : Binds K fd_told_k47 ["_law_pairs"] [] := F_told_k47.bindsN fun _ _ _ _ _ _ us hl => match us, hl with | [_], _ => rfl
  obtain ⟨fd_line_k47, F0_line_k47⟩ := c.def_ 33 (d := d_line_k47) rfl
  have F_line_k47 : FunD K "_law_line" "_law_line" (defArgs s_line_k47) (defBody s_line_k47) (defScope s_line_k47) [] [] (d_line_k47.at_ K) fd_line_k47 := F0_line_k47
  have b_line_k47 : Binds K fd_line_k47 ["_law_step"] [] := F_line_k47.bindsN fun _ _ _ _ _ _ us hl => match us, hl with | [_], _ => rfl
  obtain ⟨fd_names_of_k47, F0_names_of_k47⟩ := c.def_ 34 (d := d_names_of_k47) rfl
  have F_names_of_k47 : FunD K "_law_names_of" "_law_names_of" (defArgs s_names_of_k47) (defBody s_names_of_k47) (defScope s_names_of_k47) [] [] (d_names_of_k47.at_ K) fd_names_of_k47 := F0_names_of_k47
  have b_names_of_k47 : Binds K fd_names_of_k47 ["_law_steps_here"] [] := F_names_of_k47.bindsN fun _ _ _ _ _ _ us hl => match us, hl with | [_], _ => rfl
  obtain ⟨fd_Rule_read, F0_Rule_read⟩ := c.def_ 35 (d := d_Rule_read) rfl
  have F_Rule_read : FunD K "read" "Rule.read" (defArgs s_Rule_read) (defBody s_Rule_read) (defScope s_Rule_read) [] [] (d_Rule_read.at_ K) fd_Rule_read := F0_Rule_read
  have b_Rule_read : Binds K fd_Rule_read ["cls", "text"] [] := F_Rule_read.bindsN fun _ _ _ _ _ _ us hl => match us, hl with | [_, _], _ => rfl
  obtain ⟨fd_Rule_rows, F0_Rule_rows⟩ := c.def_ 36 (d := d_Rule_rows) rfl
  have F_Rule_rows : FunD K "rows" "Rule.rows" (defArgs s_Rule_rows) (defBody s_Rule_rows) (defScope s_Rule_rows) [] [] (d_Rule_rows.at_ K) fd_Rule_rows := F0_Rule_rows
  have b_Rule_rows : Binds K fd_Rule_rows ["self"] [] := F_Rule_rows.bindsN fun _ _ _ _ _ _ us hl => match us, hl with | [_], _ => rfl
  obtain ⟨fd_Rule_str, F0_Rule_str⟩ := c.def_ 37 (d := d_Rule_str) rfl
  have F_Rule_str : FunD K "__str__" "Rule.__str__" (defArgs s_Rule_str) (defBody s_Rule_str) (defScope s_Rule_str) [] [] (d_Rule_str.at_ K) fd_Rule_str := F0_Rule_str
  have b_Rule_str : Binds K fd_Rule_str ["self"] [] := F_Rule_str.bindsN fun _ _ _ _ _ _ us hl => match us, hl with | [_], _ => rfl
  obtain ⟨fd_Rule_eq, F0_Rule_eq⟩ := c.def_ 38 (d := d_Rule_eq) rfl
  have F_Rule_eq : FunD K "__eq__" "Rule.__eq__" (defArgs s_Rule_eq) (defBody s_Rule_eq) (defScope s_Rule_eq) [] [] (d_Rule_eq.at_ K) fd_Rule_eq := F0_Rule_eq
  have b_Rule_eq : Binds K fd_Rule_eq ["self", "other"] [] := F_Rule_eq.bindsN fun _ _ _ _ _ _ us hl => match us, hl with | [_, _], _ => rfl
  obtain ⟨fd_Rule_bool, F0_Rule_bool⟩ := c.def_ 39 (d := d_Rule_bool) rfl
  have F_Rule_bool : FunD K "__bool__" "Rule.__bool__" (defArgs s_Rule_bool) (defBody s_Rule_bool) (defScope s_Rule_bool) [] [] (d_Rule_bool.at_ K) fd_Rule_bool := F0_Rule_bool
  have b_Rule_bool : Binds K fd_Rule_bool ["self"] [] := F_Rule_bool.bindsN fun _ _ _ _ _ _ us hl => match us, hl with | [_], _ => rfl
  obtain ⟨fd_right_k47, F0_right_k47⟩ := c.def_ 40 (d := d_right_k47) rfl
  have F_right_k47 : FunD K "_law_right" "_law_right" (defArgs s_right_k47) (defBody s_right_k47) (defScope s_right_k47) [] [] (d_right_k47.at_ K) fd_right_k47 := F0_right_k47
  have b_right_k47 : Binds K fd_right_k47 ["_law_spring_here"] [] := F_right_k47.bindsN fun _ _ _ _ _ _ us hl => match us, hl with | [_], _ => rfl
  obtain ⟨fd_law_k47, F0_law_k47⟩ := c.def_ 41 (d := d_law_k47) rfl
  have F_law_k47 : FunD K "law" "law" (defArgs s_law_k47) (defBody s_law_k47) (defScope s_law_k47) [] [] (d_law_k47.at_ K) fd_law_k47 := F0_law_k47
  have b_law_k47 : Binds K fd_law_k47 ["_law_script"] [] := F_law_k47.bindsN fun _ _ _ _ _ _ us hl => match us, hl with | [_], _ => rfl
  have e := hfa.symm.trans (He.glo_ok X G (c.fact 30 (f := .glo "law") rfl))
  cases e
  have bA := FunD.bindsA (ps := ["_law_script"]) F_law_k47 fun _ _ _ _ _ _ us hl => match us, hl with | [_], _ => rfl
  refine ⟨fd_law_k47, fun s v => bA s [v] rfl, fun base _ _ => ?_⟩
  have ok0_goal_with := ok_goal_with (nn := false) (P := P) (w := w) (base := base) T F_goal_with 
  have c_goal_with : Fc P w K mg base ⟨false, false, false⟩ "goal_with" 1 3 (G_goal_with (ad K)) := ⟨_, fd_goal_with, ["text", "index", "many"], ok0_goal_with, b_goal_with, F_goal_with.kp, He.glo_ok X G (c.fact 0 (f := .glo "goal_with") rfl)⟩
  have ok0_is_name := ok_is_name (nn := false) (P := P) (w := w) (base := base) T F_is_name 
  have c_is_name : Fc P w K mg base ⟨false, false, false⟩ "is_name" 1 1 (G_is_name (ad K)) := ⟨_, fd_is_name, ["value"], ok0_is_name, b_is_name, F_is_name.kp, He.glo_ok X G (c.fact 1 (f := .glo "is_name") rfl)⟩
  have ok0_read_number := ok_read_number (nn := false) (P := P) (w := w) (base := base) T F_read_number 
  have c_read_number : Fc P w K mg base ⟨false, false, false⟩ "read_number" 1 1 (G_read_number (ad K)) := ⟨_, fd_read_number, ["word"], ok0_read_number, b_read_number, F_read_number.kp, He.glo_ok X G (c.fact 2 (f := .glo "read_number") rfl)⟩
  have ok0_read_term := ok_read_term (nn := false) (P := P) (w := w) (base := base) T F_read_term c_is_name c_read_number
  have c_read_term : Fc P w K mg base ⟨false, false, false⟩ "read_term" 2 1 (G_read_term (ad K)) := ⟨_, fd_read_term, ["word"], ok0_read_term, b_read_term, F_read_term.kp, He.glo_ok X G (c.fact 3 (f := .glo "read_term") rfl)⟩
  have ok0_merged_l := ok_merged_l (nn := false) (P := P) (w := w) (base := base) T F_merged_l 
  have c_merged_l : Fc P w K mg base ⟨false, false, false⟩ "merged" 1 1 (G_merged_l (ad K)) := ⟨_, fd_merged_l, ["pairs"], ok0_merged_l, b_merged_l, F_merged_l.kp, He.glo_ok X G (c.fact 12 (f := .glo "merged") rfl)⟩
  have ok0_digits_of_r1 := ok_digits_of_r1 (nn := false) (P := P) (w := w) (base := base) T F_digits_of_r1 
  have c_digits_of_r1 : Fc P w K mg base ⟨false, false, false⟩ "digits_of" 1 1 (G_digits_of_r1 (ad K)) := ⟨_, fd_digits_of_r1, ["number"], ok0_digits_of_r1, b_digits_of_r1, F_digits_of_r1.kp, He.glo_ok X G (c.fact 6 (f := .glo "digits_of") rfl)⟩
  have ok0_digits_of_r0 := ok_digits_of_r0 (nn := false) (P := P) (w := w) (base := base) T F_digits_of_r0 c_digits_of_r1
  have c_digits_of_r0 : Fc P w K mg base ⟨false, false, false⟩ "digits_of" 2 1 (G_digits_of_r0 (ad K)) := ⟨_, fd_digits_of_r0, ["number"], ok0_digits_of_r0, b_digits_of_r0, F_digits_of_r0.kp, He.glo_ok X G (c.fact 6 (f := .glo "digits_of") rfl)⟩
  have ok0_term_text := ok_term_text (nn := false) (P := P) (w := w) (base := base) T F_term_text c_digits_of_r0
  have c_term_text : Fc P w K mg base ⟨false, false, false⟩ "term_text" 3 2 (G_term_text (ad K)) := ⟨_, fd_term_text, ["name", "size"], ok0_term_text, b_term_text, F_term_text.kp, He.glo_ok X G (c.fact 7 (f := .glo "term_text") rfl)⟩
  have ok0_text_of := ok_text_of (nn := false) (P := P) (w := w) (base := base) T F_text_of c_term_text
  have c_text_of : Fc P w K mg base ⟨false, false, false⟩ "text_of" 4 1 (G_text_of (ad K)) := ⟨_, fd_text_of, ["terms"], ok0_text_of, b_text_of, F_text_of.kp, He.glo_ok X G (c.fact 8 (f := .glo "text_of") rfl)⟩
  have ok0_read_terms := ok_read_terms (nn := false) (P := P) (w := w) (base := base) T F_read_terms c_read_term c_merged_l c_text_of
  have c_read_terms : Fc P w K mg base ⟨false, false, false⟩ "read_terms" 5 1 (G_read_terms (ad K)) := ⟨_, fd_read_terms, ["text"], ok0_read_terms, b_read_terms, F_read_terms.kp, He.glo_ok X G (c.fact 9 (f := .glo "read_terms") rfl)⟩
  have ok0_is_integer := ok_is_integer (nn := false) (P := P) (w := w) (base := base) T F_is_integer 
  have c_is_integer : Fc P w K mg base ⟨false, false, false⟩ "is_integer" 1 1 (G_is_integer (ad K)) := ⟨_, fd_is_integer, ["value"], ok0_is_integer, b_is_integer, F_is_integer.kp, He.glo_ok X G (c.fact 10 (f := .glo "is_integer") rfl)⟩
  have ok0_check_terms := ok_check_terms (nn := false) (P := P) (w := w) (base := base) T F_check_terms c_is_name c_is_integer
  have c_check_terms : Fc P w K mg base ⟨false, false, false⟩ "check_terms" 2 1 (G_check_terms (ad K)) := ⟨_, fd_check_terms, ["terms"], ok0_check_terms, b_check_terms, F_check_terms.kp, He.glo_ok X G (c.fact 11 (f := .glo "check_terms") rfl)⟩
  have ok0_merged_t := ok_merged_t (nn := false) (P := P) (w := w) (base := base) T F_merged_t 
  have c_merged_t : Fc P w K mg base ⟨false, false, false⟩ "merged" 1 1 (G_merged_t (ad K)) := ⟨_, fd_merged_t, ["pairs"], ok0_merged_t, b_merged_t, F_merged_t.kp, He.glo_ok X G (c.fact 12 (f := .glo "merged") rfl)⟩
  have ok0_Sum_init := ok_Sum_init (nn := false) (P := P) (w := w) (base := base) T F_Sum_init c_check_terms c_merged_t
  have mk_Sum_1 : Mc P w K mg base false "Sum" ((ad K).c "Sum") 3 2 (G_Sum_init (ad K)) [] := ⟨_, fd_Sum_init, ["self", "terms"], [], [], He.mkr_ok (c.fact 33 (f := .mkr "Sum") rfl), ok0_Sum_init, b_Sum_init, .nil, fun _ _ => .nil, T.m_Sum⟩
  have ok0_Sum_read := ok_Sum_read (nn := false) (P := P) (w := w) (base := base) T F_Sum_read c_read_terms mk_Sum_1
  have c_Sum_read : Cm P w K mg base false ((ad K).c "Sum") "read" 6 2 (G_Sum_read (ad K)) := cm_of (exA_at cx 1 rfl) (exA_at cx 2 rfl) ok0_Sum_read b_Sum_read
  have ok0_sum_with := ok_sum_with (nn := false) (P := P) (w := w) (base := base) T F_sum_with c_Sum_read
  have c_sum_with : Fc P w K mg base ⟨false, false, false⟩ "sum_with" 7 1 (G_sum_with (ad K)) := ⟨_, fd_sum_with, ["text"], ok0_sum_with, b_sum_with, F_sum_with.kp, He.glo_ok X G (c.fact 13 (f := .glo "sum_with") rfl)⟩
  have ok0_test_step := ok_test_step (nn := false) (P := P) (w := w) (base := base) T F_test_step c_goal_with c_sum_with
  have c_test_step : Fc P w K mg base ⟨false, false, false⟩ "test_step" 8 3 (G_test_step (ad K)) := ⟨_, fd_test_step, ["text", "index", "many"], ok0_test_step, b_test_step, F_test_step.kp, He.glo_ok X G (c.fact 14 (f := .glo "test_step") rfl)⟩
  have ok0_vote_step := ok_vote_step (nn := false) (P := P) (w := w) (base := base) T F_vote_step c_sum_with
  have c_vote_step : Fc P w K mg base ⟨false, false, false⟩ "vote_step" 8 1 (G_vote_step (ad K)) := ⟨_, fd_vote_step, ["text"], ok0_vote_step, b_vote_step, F_vote_step.kp, He.glo_ok X G (c.fact 15 (f := .glo "vote_step") rfl)⟩
  have ok0_step_of := ok_step_of (nn := false) (P := P) (w := w) (base := base) T F_step_of c_sum_with c_test_step c_vote_step
  have c_step_of : Fc P w K mg base ⟨false, false, false⟩ "step_of" 9 3 (G_step_of (ad K)) := ⟨_, fd_step_of, ["row", "index", "many"], ok0_step_of, b_step_of, F_step_of.kp, He.glo_ok X G (c.fact 16 (f := .glo "step_of") rfl)⟩
  have ok0_Rule_init := ok_Rule_init (nn := false) (P := P) (w := w) (base := base) T F_Rule_init c_step_of
  have mk_Rule_0_rows : Mk_ P w K mg base false "Rule" ((ad K).c "Rule") 10 2 0 ["rows"] (G_Rule_init (ad K)) (perm [0]) := mkK_of 0 ["rows"] [0] F_Rule_init (He.mkr_ok (c.fact 36 (f := .mkr "Rule") rfl)) ok0_Rule_init T.m_Rule fun _ _ _ _ _ _ us ws hu hw => match us, hu, ws, hw with | [_], _, [_], _ => rfl
  have mk_Rule_1 : Mc P w K mg base false "Rule" ((ad K).c "Rule") 10 2 (G_Rule_init (ad K)) [] := ⟨_, fd_Rule_init, ["self", "rows"], [], [], He.mkr_ok (c.fact 36 (f := .mkr "Rule") rfl), ok0_Rule_init, b_Rule_init, .nil, fun _ _ => .nil, T.m_Rule⟩
  have ok0_Rule_len := ok_Rule_len (nn := false) (P := P) (w := w) (base := base) T F_Rule_len 
  have c_Rule_len : Sc P w K mg base false ((ad K).c "Rule") "__len__" 1 1 (G_Rule_len (ad K)) := sc_of (exA_at cx 11 rfl) ok0_Rule_len b_Rule_len
  have ok0_sums_in := ok_sums_in (nn := false) (P := P) (w := w) (base := base) T F_sums_in 
  have c_sums_in : Fc P w K mg base ⟨false, false, false⟩ "sums_in" 1 1 (G_sums_in (ad K)) := ⟨_, fd_sums_in, ["step"], ok0_sums_in, b_sums_in, F_sums_in.kp, He.glo_ok X G (c.fact 17 (f := .glo "sums_in") rfl)⟩
  have ok0_Sum_names := ok_Sum_names (nn := false) (P := P) (w := w) (base := base) T F_Sum_names 
  have c_Sum_names : Pc P w K mg base false ((ad K).c "Sum") "names" 1 (G_Sum_names (ad K)) := ⟨_, _, fd_Sum_names, ["self"], T.k_Sum.cl, propB_ok (exA_at cx 3 rfl), ok0_Sum_names, b_Sum_names⟩
  have ok0_Rule_meters := ok_Rule_meters (nn := false) (P := P) (w := w) (base := base) T F_Rule_meters c_sums_in c_Sum_names
  have c_Rule_meters : Pc P w K mg base false ((ad K).c "Rule") "meters" 3 (G_Rule_meters (ad K)) := ⟨_, _, fd_Rule_meters, ["self"], T.k_Rule.cl, propB_ok (exA_at cx 10 rfl), ok0_Rule_meters, b_Rule_meters⟩
  have ok0_spring_k47 := ok_spring_k47 (nn := false) (P := P) (w := w) (base := base) T F_spring_k47 
  have c_spring_k47 : Fc P w K mg base ⟨false, false, false⟩ "_law_spring" 1 2 (G_spring_k47 (ad K)) := ⟨_, fd_spring_k47, ["_law_script", "_law_k"], ok0_spring_k47, b_spring_k47, F_spring_k47.kp, He.glo_ok X G (c.fact 18 (f := .glo "_law_spring") rfl)⟩
  have ok0_take_k47 := ok_take_k47 (nn := false) (P := P) (w := w) (base := base) T F_take_k47 
  have c_take_k47 : Fc P w K mg base ⟨false, false, false⟩ "_law_take" 1 2 (G_take_k47 (ad K)) := ⟨_, fd_take_k47, ["_law_spring_here", "_law_many"], ok0_take_k47, b_take_k47, F_take_k47.kp, He.glo_ok X G (c.fact 19 (f := .glo "_law_take") rfl)⟩
  have ok0_titles_k47 := ok_titles_k47 (nn := false) (P := P) (w := w) (base := base) T F_titles_k47 c_take_k47
  have c_titles_k47 : Fc P w K mg base ⟨false, false, false⟩ "_law_titles" 2 2 (G_titles_k47 (ad K)) := ⟨_, fd_titles_k47, ["_law_spring_here", "_law_many"], ok0_titles_k47, b_titles_k47, F_titles_k47.kp, He.glo_ok X G (c.fact 20 (f := .glo "_law_titles") rfl)⟩
  have ok0_times_k47 := ok_times_k47 (nn := false) (P := P) (w := w) (base := base) T F_times_k47 c_take_k47
  have c_times_k47 : Fc P w K mg base ⟨false, false, false⟩ "_law_times" 2 2 (G_times_k47 (ad K)) := ⟨_, fd_times_k47, ["_law_spring_here", "_law_wide"], ok0_times_k47, b_times_k47, F_times_k47.kp, He.glo_ok X G (c.fact 21 (f := .glo "_law_times") rfl)⟩
  have ok0_total_k47 := ok_total_k47 (nn := false) (P := P) (w := w) (base := base) T F_total_k47 c_take_k47 c_times_k47
  have c_total_k47 : Fc P w K mg base ⟨false, false, false⟩ "_law_total" 3 4 (G_total_k47 (ad K)) := ⟨_, fd_total_k47, ["_law_spring_here", "_law_tags", "_law_many", "_law_wide"], ok0_total_k47, b_total_k47, F_total_k47.kp, He.glo_ok X G (c.fact 22 (f := .glo "_law_total") rfl)⟩
  have ok0_pick_k47 := ok_pick_k47 (nn := false) (P := P) (w := w) (base := base) T F_pick_k47 c_take_k47 c_total_k47
  have c_pick_k47 : Fc P w K mg base ⟨false, false, false⟩ "_law_pick" 4 4 (G_pick_k47 (ad K)) := ⟨_, fd_pick_k47, ["_law_spring_here", "_law_some", "_law_tags", "_law_wide"], ok0_pick_k47, b_pick_k47, F_pick_k47.kp, He.glo_ok X G (c.fact 23 (f := .glo "_law_pick") rfl)⟩
  have ok0_last_k47 := ok_last_k47 (nn := false) (P := P) (w := w) (base := base) T F_last_k47 c_take_k47 c_pick_k47
  have c_last_k47 : Fc P w K mg base ⟨false, false, false⟩ "_law_last" 5 4 (G_last_k47 (ad K)) := ⟨_, fd_last_k47, ["_law_spring_here", "_law_some", "_law_tags", "_law_wide"], ok0_last_k47, b_last_k47, F_last_k47.kp, He.glo_ok X G (c.fact 24 (f := .glo "_law_last") rfl)⟩
  have ok0_steps_k47 := ok_steps_k47 (nn := false) (P := P) (w := w) (base := base) T F_steps_k47 c_take_k47 c_total_k47 c_pick_k47 c_last_k47
  have c_steps_k47 : Fc P w K mg base ⟨false, false, false⟩ "_law_steps" 6 4 (G_steps_k47 (ad K)) := ⟨_, fd_steps_k47, ["_law_spring_here", "_law_tags", "_law_many", "_law_wide"], ok0_steps_k47, b_steps_k47, F_steps_k47.kp, He.glo_ok X G (c.fact 25 (f := .glo "_law_steps") rfl)⟩
  have ok0_told_k47 := ok_told_k47 (nn := false) (P := P) (w := w) (base := base) T F_told_k47 
  have c_told_k47 : Fc P w K mg base ⟨false, false, false⟩ "_law_told" 1 1 (G_told_k47 (ad K)) := ⟨_, fd_told_k47, ["_law_pairs"], ok0_told_k47, b_told_k47, F_told_k47.kp, He.glo_ok X G (c.fact 26 (f := .glo "_law_told") rfl)⟩
  have ok0_line_k47 := ok_line_k47 (nn := false) (P := P) (w := w) (base := base) T F_line_k47 c_told_k47
  have c_line_k47 : Fc P w K mg base ⟨false, false, false⟩ "_law_line" 2 1 (G_line_k47 (ad K)) := ⟨_, fd_line_k47, ["_law_step"], ok0_line_k47, b_line_k47, F_line_k47.kp, He.glo_ok X G (c.fact 27 (f := .glo "_law_line") rfl)⟩
  have ok0_names_of_k47 := ok_names_of_k47 (nn := false) (P := P) (w := w) (base := base) T F_names_of_k47 
  have c_names_of_k47 : Fc P w K mg base ⟨false, false, false⟩ "_law_names_of" 1 1 (G_names_of_k47 (ad K)) := ⟨_, fd_names_of_k47, ["_law_steps_here"], ok0_names_of_k47, b_names_of_k47, F_names_of_k47.kp, He.glo_ok X G (c.fact 28 (f := .glo "_law_names_of") rfl)⟩
  have ok0_Rule_read := ok_Rule_read (nn := false) (P := P) (w := w) (base := base) T F_Rule_read mk_Rule_1
  have c_Rule_read : Cm P w K mg base false ((ad K).c "Rule") "read" 12 2 (G_Rule_read (ad K)) := cm_of (exA_at cx 7 rfl) (exA_at cx 8 rfl) ok0_Rule_read b_Rule_read
  have ok0_Rule_rows := ok_Rule_rows (nn := false) (P := P) (w := w) (base := base) T F_Rule_rows 
  have c_Rule_rows : Pc P w K mg base false ((ad K).c "Rule") "rows" 1 (G_Rule_rows (ad K)) := ⟨_, _, fd_Rule_rows, ["self"], T.k_Rule.cl, propB_ok (exA_at cx 9 rfl), ok0_Rule_rows, b_Rule_rows⟩
  have ok0_Rule_str := ok_Rule_str (nn := false) (P := P) (w := w) (base := base) T F_Rule_str 
  have c_Rule_str : Sc P w K mg base false ((ad K).c "Rule") "__str__" 1 1 (G_Rule_str (ad K)) := sc_of (exA_at cx 13 rfl) ok0_Rule_str b_Rule_str
  have ok0_Rule_eq := ok_Rule_eq (nn := false) (P := P) (w := w) (base := base) T F_Rule_eq 
  have c_Rule_eq : Ec P w K mg base false ((ad K).c "Rule") 1 (G_Rule_eq (ad K)) := ec_of (exA_at cx 5 rfl) ok0_Rule_eq b_Rule_eq
  have ok0_Rule_bool := ok_Rule_bool (nn := false) (P := P) (w := w) (base := base) T F_Rule_bool 
  have c_Rule_bool : Sc P w K mg base false ((ad K).c "Rule") "__bool__" 1 1 (G_Rule_bool (ad K)) := sc_of (exA_at cx 12 rfl) ok0_Rule_bool b_Rule_bool
  have ok0_right_k47 := ok_right_k47 (nn := false) (P := P) (w := w) (base := base) T F_right_k47 c_Rule_len c_Rule_meters c_take_k47 c_titles_k47 c_steps_k47 c_line_k47 c_names_of_k47 c_Rule_read c_Rule_rows c_Rule_str c_Rule_eq c_Rule_bool mk_Rule_0_rows mk_Rule_1
  have c_right_k47 : Fc P w K mg base ⟨true, false, false⟩ "_law_right" 13 1 (G_right_k47 (ad K)) := ⟨_, fd_right_k47, ["_law_spring_here"], ok0_right_k47, b_right_k47, F_right_k47.kp, He.glo_ok X G (c.fact 29 (f := .glo "_law_right") rfl)⟩
  exact ok_law_k47 T F_law_k47 c_Rule_len c_Rule_meters c_spring_k47 c_right_k47 mk_Rule_1
end K47
end
section
/-! Words for running the readings: one statement at a time; states with a well. -/
namespace RV
open PySem L2
theorem onS_some {α : Type} {a : α} {k : α → Prop} : onS (some a) k = k a := rfl
theorem onB_bl {b : Bool} {k : Bool → Prop} : onB (.bl b) k = k b := rfl
theorem iteB_t {p q : Prop} : iteB true p q = p := rfl
theorem iteB_f {p q : Prop} : iteB false p q = q := rfl
theorem iteB_by {b : Bool} {p q : Prop} (h1 : b = true → p) (h2 : b = false → q) : iteB b p q := by
  cases b
  · exact h2 rfl
  · exact h1 rfl
theorem iteB_dec {c : Prop} [Decidable c] {p q : Prop} (h1 : c → p) (h2 : ¬ c → q) : iteB (decide c) p q := iteB_by (fun h => h1 (of_decide_eq_true h)) (fun h => h2 (of_decide_eq_false h))
theorem look0 {d : Option D} {r : Env} : look (d :: r) 0 = d := rfl
theorem look1 {a0 a1 : Option D} {r : Env} : look (a0 :: a1 :: r) 1 = a1 := rfl
theorem look2 {a0 a1 a2 : Option D} {r : Env} : look (a0 :: a1 :: a2 :: r) 2 = a2 := rfl
theorem look3 {a0 a1 a2 a3 : Option D} {r : Env} : look (a0 :: a1 :: a2 :: a3 :: r) 3 = a3 := rfl
theorem look4 {a0 a1 a2 a3 a4 : Option D} {r : Env} : look (a0 :: a1 :: a2 :: a3 :: a4 :: r) 4 = a4 := rfl
theorem look5 {a0 a1 a2 a3 a4 a5 : Option D} {r : Env} : look (a0 :: a1 :: a2 :: a3 :: a4 :: a5 :: r) 5 = a5 := rfl
theorem look6 {a0 a1 a2 a3 a4 a5 a6 : Option D} {r : Env} : look (a0 :: a1 :: a2 :: a3 :: a4 :: a5 :: a6 :: r) 6 = a6 := rfl
theorem look7 {a0 a1 a2 a3 a4 a5 a6 a7 : Option D} {r : Env} : look (a0 :: a1 :: a2 :: a3 :: a4 :: a5 :: a6 :: a7 :: r) 7 = a7 := rfl
theorem look8 {a0 a1 a2 a3 a4 a5 a6 a7 a8 : Option D} {r : Env} : look (a0 :: a1 :: a2 :: a3 :: a4 :: a5 :: a6 :: a7 :: a8 :: r) 8 = a8 := rfl
theorem look9 {a0 a1 a2 a3 a4 a5 a6 a7 a8 a9 : Option D} {r : Env} : look (a0 :: a1 :: a2 :: a3 :: a4 :: a5 :: a6 :: a7 :: a8 :: a9 :: r) 9 = a9 := rfl
theorem look10 {a0 a1 a2 a3 a4 a5 a6 a7 a8 a9 a10 : Option D} {r : Env} : look (a0 :: a1 :: a2 :: a3 :: a4 :: a5 :: a6 :: a7 :: a8 :: a9 :: a10 :: r) 10 = a10 := rfl
theorem look11 {a0 a1 a2 a3 a4 a5 a6 a7 a8 a9 a10 a11 : Option D} {r : Env} : look (a0 :: a1 :: a2 :: a3 :: a4 :: a5 :: a6 :: a7 :: a8 :: a9 :: a10 :: a11 :: r) 11 = a11 := rfl
theorem look12 {a0 a1 a2 a3 a4 a5 a6 a7 a8 a9 a10 a11 a12 : Option D} {r : Env} : look (a0 :: a1 :: a2 :: a3 :: a4 :: a5 :: a6 :: a7 :: a8 :: a9 :: a10 :: a11 :: a12 :: r) 12 = a12 := rfl
theorem look13 {a0 a1 a2 a3 a4 a5 a6 a7 a8 a9 a10 a11 a12 a13 : Option D} {r : Env} : look (a0 :: a1 :: a2 :: a3 :: a4 :: a5 :: a6 :: a7 :: a8 :: a9 :: a10 :: a11 :: a12 :: a13 :: r) 13 = a13 := rfl
theorem look14 {a0 a1 a2 a3 a4 a5 a6 a7 a8 a9 a10 a11 a12 a13 a14 : Option D} {r : Env} : look (a0 :: a1 :: a2 :: a3 :: a4 :: a5 :: a6 :: a7 :: a8 :: a9 :: a10 :: a11 :: a12 :: a13 :: a14 :: r) 14 = a14 := rfl
theorem look15 {a0 a1 a2 a3 a4 a5 a6 a7 a8 a9 a10 a11 a12 a13 a14 a15 : Option D} {r : Env} : look (a0 :: a1 :: a2 :: a3 :: a4 :: a5 :: a6 :: a7 :: a8 :: a9 :: a10 :: a11 :: a12 :: a13 :: a14 :: a15 :: r) 15 = a15 := rfl
theorem seq_gen {m1 m2 : Env → MS} {ρ : Env} {S : WS} {k : Kt} (h : ∀ N : Env → WS → Prop, (N = fun ρ' S' => m2 ρ' S' k) → m1 ρ S ⟨N, k.rt, k.bk, k.ct, k.ex⟩) : sSeq m1 m2 ρ S k := h _ rfl
theorem onI_i {i : Int} {k : Int → Prop} : onI (.int i) k = k i := rfl
theorem onT_s {i : Str} {k : Str → Prop} : onT (.str i) k = k i := rfl
theorem onTu_t {i : List D} {k : List D → Prop} : onTu (.tup i) k = k i := rfl
theorem onCe_c {i : Nat} {k : Nat → Prop} : onCe (.cell i) k = k i := rfl
theorem on1_ {a : D} {k : D → Prop} : on1 [a] k = k a := rfl
theorem on2_ {a b : D} {k : D → D → Prop} : on2 [a, b] k = k a b := rfl
theorem on3_ {a b c : D} {k : D → D → D → Prop} : on3 [a, b, c] k = k a b c := rfl
theorem onLst_l {ds : List D} {k : List D → Prop} : onLst (.lst ds) k = k ds := rfl
theorem onOb_o {C : Addr} {fs : List (Str × D)} {k : Addr → List (Str × D) → Prop} : onOb (.ob C fs) k = k C fs := rfl
theorem onSeq_l {ds : List D} {S : WS} {q : List D → (WS → Prop) → WS → Prop} : onSeq (.lst ds) S q = q ds any_ S := rfl
theorem onSeq_r {ns : List Int} {S : WS} {q : List D → (WS → Prop) → WS → Prop} : onSeq (.scr ns) S q = q (ns.map D.int) any_ S := rfl
theorem onSeq_c {i : Nat} {S : WS} {q : List D → (WS → Prop) → WS → Prop} : onSeq (.cell i) S q = onS S[i]? fun c => onLst c fun ds => q ds (Holds i ds) S := rfl
theorem lkD_s {ds : List D} {S : WS} {q : D → WS → Prop} : lkD .still ds S q = q (.lst ds) S := rfl
theorem lkD_n {ds : List D} {S : WS} {q : D → WS → Prop} : lkD .new ds S q = (D.cleanL 0 ds = true ∧ q (.cell S.length) (S ++ [.lst ds])) := rfl
theorem lkO_s {C : Addr} {fs : List (Str × D)} {n : Nat} {S : WS} {q : D → WS → Prop} : lkO .still C fs n S q = q (.obj C fs) (S.take n) := rfl
theorem lkO_n {C : Addr} {fs : List (Str × D)} {n : Nat} {S : WS} {q : D → WS → Prop} : lkO .new C fs n S q = q (.cell n) (S.take n ++ [.ob C fs]) := rfl
theorem tTup_t {n : Nat} {g : List D → Env → Option Env} {ds : List D} {ρ : Env} : tTupD n g (.tup ds) ρ = if ds.length = n then g ds ρ else none := rfl
theorem tsCons_c {f : D → Env → Option Env} {g : List D → Env → Option Env} {d : D} {r : List D} {ρ : Env} : tsCons f g (d :: r) ρ = (f d ρ).bind fun ρ' => g r ρ' := rfl
theorem tsNil_n {ρ : Env} : tsNil [] ρ = some ρ := rfl
theorem any_t {S : WS} : any_ S = True := rfl
theorem isOb_obj {C C' : Addr} {S : WS} {fs : List (Str × D)} : isOb C S (.obj C' fs) = (C' = C) := rfl
theorem isN_non {neg : Bool} {S : WS} : isND neg S .non .non = some (.bl (!neg)) := rfl
theorem truD_bl {S : WS} {b : Bool} : truD S (.bl b) = some b := rfl
theorem small_0 : small 0 = true := rfl
theorem small_1 : small 1 = true := rfl
theorem small_2 : small 2 = true := rfl
theorem small_3 : small 3 = true := rfl
theorem small_4 : small 4 = true := rfl
theorem small_5 : small 5 = true := rfl
theorem small_6 : small 6 = true := rfl
theorem small_7 : small 7 = true := rfl
theorem small_8 : small 8 = true := rfl
theorem small_of {n : Nat} (h : n ≤ 100000) : small n = true := decide_eq_true h
theorem mulD_int {S : WS} {i j : Int} (h : mulOk i j = true) : mulD S (.int i) (.int j) = some (.int (i * j)) := if_pos h
theorem powD_int {S : WS} {i j : Int} (h : powOk i j = true) : powD S (.int i) (.int j) = some (.int (i ^ j.toNat)) := if_pos h
theorem modD_int {S : WS} {i j : Int} (h : 0 < j) : modD S (.int i) (.int j) = some (.int (i % j)) := if_pos (decide_eq_true h)
theorem fdivD_int {S : WS} {i j : Int} (h : divOk i j = true) : fdivD S (.int i) (.int j) = some (.int (i / j)) := if_pos h
theorem ltD_int {S : WS} {i j : Int} : ltD S (.int i) (.int j) = some (.bl (decide (i < j))) := rfl
theorem leD_int {S : WS} {i j : Int} : leD S (.int i) (.int j) = some (.bl (decide (i ≤ j))) := rfl
theorem gtD_int {S : WS} {i j : Int} : gtD S (.int i) (.int j) = some (.bl (decide (j < i))) := rfl
theorem geD_int {S : WS} {i j : Int} : geD S (.int i) (.int j) = some (.bl (decide (j ≤ i))) := rfl
theorem subD_int {S : WS} {i j : Int} : subD S (.int i) (.int j) = some (.int (i - j)) := rfl
theorem addD_int {S : WS} {i j : Int} : addD S (.int i) (.int j) = some (.int (i + j)) := rfl
theorem addD_str {S : WS} {a b : Str} (h : small (a.length + b.length) = true) : addD S (.str a) (.str b) = some (.str (a ++ b)) := if_pos h
theorem addD_lst {S : WS} {a b : List D} (h : small (a.length + b.length) = true) : addD S (.lst a) (.lst b) = some (.lst (a ++ b)) := if_pos h
theorem intOf_int {S : WS} {i : Int} : intOfD S [.int i] = some (.int i) := rfl
theorem absD_int {S : WS} {i : Int} : absD S [.int i] = some (.int (if i < 0 then -i else i)) := rfl
theorem eqD_int {S : WS} {i j : Int} : eqD S (.int i) (.int j) = some (.bl (decide (i = j))) := rfl
theorem neD_int {S : WS} {i j : Int} : neD S (.int i) (.int j) = some (.bl (!decide (i = j))) := rfl
theorem eqD_str {S : WS} {i j : Str} : eqD S (.str i) (.str j) = some (.bl (decide (i = j))) := rfl
theorem neD_str {S : WS} {i j : Str} : neD S (.str i) (.str j) = some (.bl (!decide (i = j))) := rfl
theorem eqD_bl {S : WS} {i j : Bool} : eqD S (.bl i) (.bl j) = some (.bl (decide (i = j))) := rfl
theorem neD_bl {S : WS} {i j : Bool} : neD S (.bl i) (.bl j) = some (.bl (!decide (i = j))) := rfl
theorem mulOk_l {i j : Int} (h : 0 ≤ i) (h1 : i < 18446744073709551616) : mulOk i j = true := decide_eq_true (.inl ⟨by omega, by simpa using h1⟩)
theorem mulOk_r {i j : Int} (h : 0 ≤ j) (h1 : j < 18446744073709551616) : mulOk i j = true := decide_eq_true (.inr ⟨by omega, by simpa using h1⟩)
theorem fin_self {S : WS} {d : D} {q : D → WS → Prop} : fin S.length d S q = q d S := if_pos rfl
theorem finX_self {S : WS} {d : D} {x : Xq} : finX S.length d S x = x d S := if_pos rfl
theorem atI_nat {α : Type} {xs : List α} {i : Int} (h0 : 0 ≤ i) (h1 : i < xs.length) : atI xs i = xs[i.toNat]? := by
  unfold atI ixN
  rw [if_pos h0, if_pos h1, Option.bind_some]
/-! ### a well -/
structure W where
  a : Int
  b : Int
  c : Int
def W.d (w : W) : Cell := .lst [.int w.a, .int w.b, .int w.c]
structure Good (n : Int) (w : W) : Prop where
  a0 : 0 ≤ w.a
  a1 : w.a < 2147483629
  b0 : 0 ≤ w.b
  c0 : 0 ≤ w.c
  c1 : w.c ≤ n
theorem Good.mono {n m : Int} {w : W} (h : Good n w) (e : n ≤ m) : Good m w := ⟨h.a0, h.a1, h.b0, h.c0, by have := h.c1; omega⟩
/-- the cells S with the well w at k, then T -/
def st (S : WS) (k : Nat) (w : W) (T : WS) : WS := S.set k w.d ++ T
section
variable {S T : WS} {k : Nat} {w w' : W} {c c' : Cell} {r : WS} {d : D} {q : D → WS → Prop}
theorem st_len : (st S k w T).length = S.length + T.length := by simp [st]
theorem st_app : st S k w T ++ r = st S k w (T ++ r) := by simp [st]
theorem st_at (hk : k < S.length) : (st S k w T)[k]? = some w.d := by
  unfold st
  rw [List.getElem?_append_left (by simpa using hk)]
  simp [hk]
theorem st_put (hk : k < S.length) {x y z : Int} : (st S k w T).set k (.lst [.int x, .int y, .int z]) = st S k ⟨x, y, z⟩ T := by
  unfold st W.d
  rw [List.set_append_left _ _ (by simpa using hk)]
  simp
theorem st_at0 : (st S k w (T ++ c :: r))[S.length + T.length]? = some c := by
  unfold st
  rw [← List.append_assoc, List.getElem?_append_right (by simp)]
  simp
theorem st_set0 : (st S k w (T ++ c :: r)).set (S.length + T.length) c' = st S k w (T ++ c' :: r) := by
  unfold st
  rw [← List.append_assoc, List.set_append_right _ _ (by simp)]
  simp
theorem fin_st : fin (S.length + T.length) d (st S k w T) q = q d (st S k w T) := if_pos st_len
/-- a def's own cells are gone at its end -/
theorem fin_stT (h : D.clean (S.length + T.length) d = true) (hn : ∀ i, d ≠ .cell i) : fin (S.length + T.length) d (st S k w (T ++ c :: r)) q = q d (st S k w T) := by
  have hl : ¬ (st S k w (T ++ c :: r)).length = S.length + T.length := by
    rw [st_len]
    simp
  have ht : (st S k w (T ++ c :: r)).take (S.length + T.length) = st S k w T := by
    unfold st
    rw [← List.append_assoc, List.take_append_of_le_length (by simp), List.take_of_length_le (by simp)]
  unfold fin
  rw [if_neg hl]
  split
  · exact absurd rfl (hn _)
  · rw [ht, h]
    simp
/-- a list of its own is handed back -/
theorem fin_stL {ds : List D} : fin (S.length + T.length) (.cell (S.length + T.length)) (st S k w (T ++ .lst ds :: r)) q = q (.lst ds) (st S k w T) := by
  have hl : ¬ (st S k w (T ++ .lst ds :: r)).length = S.length + T.length := by
    rw [st_len]
    simp
  have ht : (st S k w (T ++ .lst ds :: r)).take (S.length + T.length) = st S k w T := by
    unfold st
    rw [← List.append_assoc, List.take_append_of_le_length (by simp), List.take_of_length_le (by simp)]
  unfold fin
  rw [if_neg hl]
  simp only [Nat.lt_irrefl, if_false, st_at0, onS_some, onLst_l, ht]
end
/-! the same for a state without a well -/
section
variable {S : WS} {c c' : Cell} {r : WS} {d : D} {q : D → WS → Prop}
theorem app_at0 : (S ++ c :: r)[S.length]? = some c := by simp
theorem app_set0 : (S ++ c :: r).set S.length c' = S ++ c' :: r := by simp
theorem fin_app (h : D.clean S.length d = true) (hn : ∀ i, d ≠ .cell i) : fin S.length d (S ++ c :: r) q = q d S := by
  have hl : ¬ (S ++ c :: r).length = S.length := by simp
  unfold fin
  rw [if_neg hl]
  split
  · exact absurd rfl (hn _)
  · rw [h]
    simp
end
theorem fin_appS {S : WS} {c c' : Cell} {d : D} {q : D → WS → Prop} : fin (S ++ [c']).length d (S ++ [c]) q = q d (S ++ [c]) := if_pos (by simp)
theorem atI_cons {α : Type} {a : α} {l : List α} : atI (a :: l) 0 = some a := by
  unfold atI ixN
  simp
theorem take_app {S r : WS} : (S ++ r).take S.length = S := by simp
/-! ### loops and comprehensions -/
section
variable {N : WS → Prop} {f : D → Env → Option Env} {mb : Env → MS} {mc : Env → MB} {me : Env → M} {ρ : Env} {S : WS} {k : Kt}
theorem for_cons {d : D} {ds : List D} : forD N f mb (d :: ds) ρ S k = (N S ∧ onS (f d ρ) fun ρ1 => mb ρ1 S ⟨fun ρ2 S2 => forD N f mb ds ρ2 S2 k, k.rt, k.nx, fun ρ2 S2 => forD N f mb ds ρ2 S2 k, k.ex⟩) := rfl
theorem for_name {N : WS → Prop} {i : Nat} {mb : RV.Env → MS} {ρ : RV.Env} {S : WS} {d : D} {ds : List D} {kt : Kt} (hN : N S) (h : mb (ρ.set i (some d)) S ⟨fun ρ2 S2 => forD N (tName i) mb ds ρ2 S2 kt, kt.rt, kt.nx, fun ρ2 S2 => forD N (tName i) mb ds ρ2 S2 kt, kt.ex⟩) : forD N (tName i) mb (d :: ds) ρ S kt := ⟨hN, h⟩
theorem for_nameG {N : WS → Prop} {i : Nat} {mb : RV.Env → MS} {ρ : RV.Env} {S : WS} {d : D} {ds : List D} {kt : Kt} (hN : N S) (h : ∀ F : RV.Env → WS → Prop, (F = fun ρ2 S2 => forD N (tName i) mb ds ρ2 S2 kt) → mb (ρ.set i (some d)) S ⟨F, kt.rt, kt.nx, F, kt.ex⟩) : forD N (tName i) mb (d :: ds) ρ S kt := ⟨hN, h _ rfl⟩
/-- a comprehension whose parts leave the state alone -/
theorem lc_eq {α : Type} {inj : α → D} {p : α → Bool} {g : α → D} {q : List D → WS → Prop} : ∀ (xs : List α) (acc : List D), N S → (∀ a ∈ xs, ∃ ρ1, f (inj a) ρ = some ρ1 ∧ (∀ q x, mc ρ1 S q x = q (p a) S) ∧ (p a = true → ∀ q x, me ρ1 S q x = q (g a) S)) →
    lcD N f mc me ρ (xs.map inj) acc S q = q (acc ++ (xs.filter p).map g) S
  | [], acc, hN, _ => by simp [lcD, hN]
  | a :: xs, acc, hN, hs => by
    obtain ⟨ρ1, h1, h2, h3⟩ := hs a (List.mem_cons_self ..)
    have ih := fun acc => lc_eq (q := q) xs acc hN (fun b hb => hs b (List.mem_cons_of_mem _ hb))
    rw [List.map_cons]
    unfold lcD
    rw [h1, onS_some, h2]
    cases hp : p a with
    | true =>
      rw [iteB_t, h3 hp, ih]
      simp [hN, hp]
    | false =>
      rw [iteB_f, ih]
      simp [hN, hp]
theorem lc_mapEq {α : Type} {inj : α → D} {g : α → D} {q : List D → WS → Prop} (xs : List α) (hN : N S) (h : ∀ a ∈ xs, ∃ ρ1, f (inj a) ρ = some ρ1 ∧ ∀ q x, me ρ1 S q x = q (g a) S) : lcD N f bYes me ρ (xs.map inj) [] S q = q (xs.map g) S := by
  rw [lc_eq (p := fun _ => true) (g := g) xs [] hN (fun a ha => by
    obtain ⟨ρ1, h1, h2⟩ := h a ha
    exact ⟨ρ1, h1, fun _ _ => rfl, fun _ => h2⟩), List.nil_append, List.filter_eq_self.mpr fun _ _ => rfl]
end
theorem bools_map {α : Type} {p : α → Bool} : ∀ xs : List α, boolsD (xs.map fun a => D.bl (p a)) = some (xs.map p)
  | [] => rfl
  | a :: xs => by simp [boolsD, bools_map xs]
theorem allD_map {α : Type} {S : WS} {p : α → Bool} {xs : List α} : allD S [.lst (xs.map fun a => D.bl (p a))] = some (.bl (xs.all p)) := by
  simp [allD, bools_map, Function.comp_def]
theorem anyD_map {α : Type} {S : WS} {p : α → Bool} {xs : List α} : anyD S [.lst (xs.map fun a => D.bl (p a))] = some (.bl (xs.any p)) := by
  simp [anyD, bools_map, Function.comp_def]
end RV
end
section
/-! Names, in plain Lean. -/
namespace RV
open PySem L2
def letters : Str := "abcdefghijklmnopqrstuvwxyz"
def digits : Str := "0123456789"
def signs : Str := "abcdefghijklmnopqrstuvwxyz0123456789"
def isLt (c : Nat) : Bool := decide (c ∈ letters.cps.toList)
def isDg (c : Nat) : Bool := decide (c ∈ digits.cps.toList)
def nmL : List Nat → Bool
  | [] => false
  | c :: r => isLt c && (decide (r.length ≤ 7) && r.all fun x => isLt x || isDg x)
def Nm (s : Str) : Prop := nmL s.cps.toList = true
theorem signs_at {i : Nat} (h : i < 36) : ∃ c, signs.cps.toList[i]? = some c ∧ (isLt c || isDg c) = true ∧ (i < 26 → isLt c = true) := by
  have : ∀ i : Fin 36, (match signs.cps.toList[i.val]? with
    | some c => (isLt c || isDg c) && (decide (26 ≤ i.val) || isLt c)
    | none => false) = true := by decide +kernel
  have t := this ⟨i, h⟩
  simp only at t
  split at t
  · rename_i c e
    simp only [Bool.and_eq_true, Bool.or_eq_true, decide_eq_true_eq] at t
    exact ⟨c, e, by simpa using t.1, fun hi => by rcases t.2 with z | z; omega; exact z⟩
  · cases t
theorem signs_atI {r : Int} (h0 : 0 ≤ r) (h : r < 36) : ∃ c, atI signs.cps.toList r = some c ∧ (isLt c || isDg c) = true ∧ (r < 26 → isLt c = true) := by
  obtain ⟨c, e, h1, h2⟩ := signs_at (i := r.toNat) (by omega)
  refine ⟨c, ?_, h1, fun z => h2 (by omega)⟩
  unfold atI ixN
  rw [if_pos h0, if_pos (show r < ((signs.cps.toList.length : Nat) : Int) from h), Option.bind_some]
  exact e
theorem cat_cps (a b : Str) : (a ++ b).cps.toList = a.cps.toList ++ b.cps.toList := by
  show (a.cps ++ b.cps).toList = _
  simp
theorem len_cps (a : Str) : a.length = a.cps.toList.length := by
  show a.cps.size = _
  simp
theorem nm_len {s : Str} (h : Nm s) : 1 ≤ s.length ∧ s.length ≤ 8 := by
  rw [len_cps]
  unfold Nm nmL at h
  split at h
  · cases h
  · rename_i c r e
    simp only [Bool.and_eq_true, decide_eq_true_eq] at h
    rw [e]
    simp
    omega
theorem nm_snoc {s : Str} {c : Nat} (h : Nm s) (hl : s.length ≤ 7) (hc : (isLt c || isDg c) = true) : Nm (s ++ ⟨#[c]⟩) := by
  rw [len_cps] at hl
  unfold Nm at h ⊢
  rw [cat_cps]
  unfold nmL at h
  split at h
  · cases h
  · rename_i a r e
    rw [e] at hl ⊢
    simp only [Bool.and_eq_true, decide_eq_true_eq] at h
    simp only [List.length_cons] at hl
    show (isLt a && (decide ((r ++ [c]).length ≤ 7) && (r ++ [c]).all fun x => isLt x || isDg x)) = true
    simp only [Bool.and_eq_true, decide_eq_true_eq, List.length_append, List.length_singleton, List.all_append]
    refine ⟨h.1, by omega, h.2.2, by simpa using hc⟩
theorem nm_take {l : List Nat} (m : Nat) (h : nmL l = true) (hm : 0 < m) : nmL (l.take m) = true := by
  cases l with
  | nil => cases h
  | cons a r =>
    obtain ⟨m, rfl⟩ : ∃ j, m = j + 1 := ⟨m - 1, by omega⟩
    rw [List.take_succ_cons]
    simp only [nmL, Bool.and_eq_true, decide_eq_true_eq, List.all_eq_true] at h ⊢
    refine ⟨h.1, ?_, fun x hx => h.2.2 x (List.mem_of_mem_take hx)⟩
    rw [List.length_take]
    omega
def words : List D := [.str "pipe", .str "meter", .str "sealed", .str "self", .str "net", .str "tell", .str "if", .str "a"]
theorem nm_one {c : Nat} (h : isLt c = true) : Nm ⟨#[c]⟩ := by
  unfold Nm
  show (isLt c && (decide (([] : List Nat).length ≤ 7) && ([] : List Nat).all fun x => isLt x || isDg x)) = true
  rw [h]
  rfl
theorem isAl_lt {c : Nat} (h : (isLt c || isDg c) = true) : c < 128 := by
  simp only [Bool.or_eq_true, isLt, isDg, decide_eq_true_eq] at h
  have h1 : ∀ c ∈ letters.cps.toList, c < 128 := by decide +kernel
  have h2 : ∀ c ∈ digits.cps.toList, c < 128 := by decide +kernel
  rcases h with h | h
  · exact h1 c h
  · exact h2 c h
theorem nm_all {s : Str} (h : Nm s) : ∀ c ∈ s.cps.toList, (isLt c || isDg c) = true := by
  unfold Nm nmL at h
  split at h
  · cases h
  · rename_i a r e
    rw [e]
    simp only [Bool.and_eq_true, decide_eq_true_eq, List.all_eq_true] at h
    intro c hc
    rcases List.mem_cons.mp hc with z | z
    · subst z
      rw [h.1]
      rfl
    · exact h.2.2 c z
theorem nm_strOk {s : Str} (h : Nm s) : PyData.strOk s = true := by
  unfold PyData.strOk
  rw [← Array.all_toList, List.all_eq_true]
  intro c hc
  exact decide_eq_true (Nat.lt_trans (isAl_lt (nm_all h c hc)) (by decide))
theorem nm_small {s : Str} (h : Nm s) : small s.length = true := decide_eq_true (by have := (nm_len h).2; omega)
theorem pyL_str : ∀ ts : List Str, D.pyL (ts.map D.str) = some (ts.map PyData.str)
  | [] => rfl
  | t :: ts => by simp [D.pyL, D.py, pyL_str ts]
theorem lay_strs : ∀ ts : List Str, (∀ t ∈ ts, PyData.strOk t = true) → PyData.canLayAll0 (ts.map PyData.str) = true
  | [], _ => rfl
  | t :: ts, h => by simp [PyData.canLayAll0, PyData.canLay0, h t (List.mem_cons_self ..), lay_strs ts fun u hu => h u (List.mem_cons_of_mem _ hu)]
theorem depth_strs : ∀ ts : List Str, PyData.depthAll (ts.map PyData.str) = 0
  | [] => rfl
  | t :: ts => by simp [PyData.depthAll, PyData.depth, depth_strs ts]
theorem shaped_strs {ts : List Str} (h : ∀ t ∈ ts, PyData.strOk t = true) : SeqAt.shaped (.list (ts.map PyData.str)) = true := by
  simp [SeqAt.shaped, PyData.canLay0, lay_strs ts h, PyData.depth, depth_strs]
theorem ne_nil {S : WS} {ts : List Str} (h : ∀ t ∈ ts, PyData.strOk t = true) : neD S (.lst (ts.map D.str)) (.lst []) = some (.bl (!ts.isEmpty)) := by
  have h2 : SeqAt.shaped (.list []) = true := rfl
  unfold neD eqAny eqPyS
  simp only [eqScal, pyS, D.py, pyL_str, D.pyL, Option.map_some, Option.bind_some, shaped_strs h, h2, and_self, if_true, Option.orElse]
  cases ts <;> rfl
theorem cut_to {z : Str} {m : Nat} : (cutS z none (some (m : Int))).cps.toList = z.cps.toList.take m := by
  unfold cutS
  rw [HT.sIx_none, HT.sIx_nat]
  simp only [List.drop_zero, Nat.sub_zero, len_cps]
  rw [List.take_eq_take_iff]
  simp
theorem nm_cut {z : Str} {m : Nat} (h : nmL (z.cps.toList.take m) = true) : Nm (cutS z none (some (m : Int))) := by
  unfold Nm
  rw [cut_to]
  exact h
theorem nodup_le {α : Type} [DecidableEq α] : ∀ (l ts : List α), l.Nodup → (∀ x ∈ l, x ∈ ts) → l.length ≤ ts.length
  | [], _, _, _ => Nat.zero_le _
  | x :: l, ts, hn, h => by
    have hx := h x (List.mem_cons_self ..)
    have hn2 := List.nodup_cons.mp hn
    have := nodup_le l (ts.erase x) hn2.2 fun y hy => (List.mem_erase_of_ne (fun e : y = x => hn2.1 (e ▸ hy))).mpr (h y (List.mem_cons_of_mem _ hy))
    rw [List.length_erase_of_mem hx] at this
    have : 0 < ts.length := List.length_pos_of_mem hx
    simp only [List.length_cons]
    omega
/-- title[:7] and a sign -/
def alt (t : Str) (c : Nat) : Str := cutS t none (some (7 : Int)) ++ ⟨#[c]⟩
theorem alt_inj {t : Str} {c d : Nat} (h : alt t c = alt t d) : c = d := by
  have e : (alt t c).cps.toList = (alt t d).cps.toList := by rw [h]
  unfold alt at e
  rw [cat_cps, cat_cps] at e
  have := List.append_cancel_left e
  simpa using this
theorem nm_alt {t : Str} {c : Nat} (h : Nm t) (hc : (isLt c || isDg c) = true) : Nm (alt t c) := by
  refine nm_snoc (nm_cut (m := 7) (nm_take 7 h (by decide))) ?_ hc
  rw [len_cps, show cutS t none (some (7 : Int)) = cutS t none (some ((7 : Nat) : Int)) from rfl, cut_to, List.length_take]
  omega
theorem signs_all : ∀ c ∈ signs.cps.toList, (isLt c || isDg c) = true := by decide +kernel
theorem signs_nodup : signs.cps.toList.Nodup := by decide +kernel
/-- the first of them that is not taken -/
theorem alt_first {t : Str} {ts : List Str} (ht : Nm t) (hl : ts.length < 36) : ∃ c l, (isLt c || isDg c) = true ∧ alt t c ∉ ts ∧ (signs.cps.toList.map (alt t)).filter (fun z => decide (z ∉ ts)) = alt t c :: l := by
  cases e : (signs.cps.toList.map (alt t)).filter (fun z => decide (z ∉ ts)) with
  | nil =>
    exfalso
    rw [List.filter_eq_nil_iff] at e
    have nd : (signs.cps.toList.map (alt t)).Nodup := List.Pairwise.map _ (fun a b h e => h (alt_inj e)) signs_nodup
    have := nodup_le _ ts nd fun x hx => by simpa using e x hx
    rw [List.length_map] at this
    have : signs.cps.toList.length = 36 := by decide +kernel
    omega
  | cons z l =>
    have hm : z ∈ (signs.cps.toList.map (alt t)).filter (fun z => decide (z ∉ ts)) := by rw [e]; exact List.mem_cons_self ..
    obtain ⟨hm, hz⟩ := List.mem_filter.mp hm
    obtain ⟨c, hc, rfl⟩ := List.mem_map.mp hm
    exact ⟨c, l, signs_all c hc, of_decide_eq_true hz, rfl⟩
theorem strs_at {ts : List Str} {r : Int} (h0 : 0 ≤ r) (h : r < ts.length) : ∃ t, atI (ts.map D.str) r = some (.str t) ∧ t ∈ ts := by
  refine ⟨ts[r.toNat]'(by omega), ?_, List.getElem_mem _⟩
  unfold atI ixN
  rw [if_pos h0, if_pos (by rw [List.length_map]; exact h), Option.bind_some, List.getElem?_map, List.getElem?_eq_getElem (by omega)]
  rfl
theorem str_ext {a b : Str} (h : a.cps.toList = b.cps.toList) : a = b := by
  obtain ⟨⟨x⟩⟩ := a
  obtain ⟨⟨y⟩⟩ := b
  have : x = y := h
  rw [this]
theorem in_strs {S : WS} {x : D} {neg : Bool} {t : Str} {ts : List Str} (h : itemsD S x = some (ts.map D.str)) : inD neg S (.str t) x = some (.bl (if neg then decide (t ∉ ts) else decide (t ∈ ts))) := by
  have h1 : (ts.map D.str).all flatD = true := by
    rw [List.all_eq_true]
    intro x hx
    obtain ⟨u, _, rfl⟩ := List.mem_map.mp hx
    rfl
  have h2 : ((ts.map D.str).any fun y => eqFl y (.str t)) = decide (t ∈ ts) := by
    rw [Bool.eq_iff_iff, List.any_eq_true, decide_eq_true_eq]
    constructor
    · rintro ⟨x, hx, e⟩
      obtain ⟨u, hu, rfl⟩ := List.mem_map.mp hx
      have : u = t := eq_of_beq (show (u == t) = true from e)
      exact this ▸ hu
    · exact fun h => ⟨.str t, List.mem_map.mpr ⟨t, h, rfl⟩, (beq_self_eq_true t : (t == t) = true)⟩
  simp only [inD, h, Option.bind_some, flatD, h1, and_self, if_true, h2]
  cases neg <;> simp
theorem snoc_len {s : Str} {c : Nat} : (s ++ ⟨#[c]⟩ : Str).length = s.length + 1 := by
  rw [len_cps, cat_cps, List.length_append, len_cps]
  rfl
theorem cat_len {s t : Str} : (s ++ t).length = s.length + t.length := by
  rw [len_cps, cat_cps, List.length_append, len_cps, len_cps]
theorem one_len {c : Nat} : Str.length ⟨#[c]⟩ = 1 := rfl
/-- x is the list of texts ts: one that stands still, or a cell -/
inductive TkOk (S : WS) : D → List Str → Prop where
  | lst {ts : List Str} : TkOk S (.lst (ts.map D.str)) ts
  | cell {j : Nat} {ts : List Str} : S[j]? = some (.lst (ts.map D.str)) → TkOk S (.cell j) ts
section
variable {S : WS} {x : D} {ts : List Str}
theorem TkOk.items (h : TkOk S x ts) : itemsD S x = some (ts.map D.str) := by
  cases h with
  | lst => rfl
  | cell h => simp only [itemsD, h]
theorem TkOk.ne (h : TkOk S x ts) (hs : ∀ t ∈ ts, Nm t) : neD S x (.lst []) = some (.bl (!ts.isEmpty)) := by
  have e := ne_nil (S := S) (ts := ts) fun t ht => nm_strOk (hs t ht)
  cases h with
  | lst => exact e
  | cell h =>
    unfold neD eqAny eqPyS at e ⊢
    simp only [eqScal, pyS, D.py, h, eqLen, lstOf] at e ⊢
    exact e
theorem TkOk.len (h : TkOk S x ts) : lenD S [x] = some (.int (ts.length : Nat)) := by
  cases h with
  | lst => simp [lenD, itemsD]
  | cell h => simp [lenD, itemsD, h]
end
end RV
end
section
/-! Draws and names of the laws from k23 on. -/
namespace RV
open PySem L2
theorem ixD_cellG {S : WS} {k : Nat} {ds : List D} {i : Int} (h : S[k]? = some (.lst ds)) : ixD S (.cell k) (.int i) = atI ds i := by simp only [ixD, h]
theorem setIx_cellG {S : WS} {k : Nat} {ds : List D} {i : Int} {d : D} (h : S[k]? = some (.lst ds)) (hc : D.clean 0 d = true) : setIxD (.cell k) (.int i) d S = (ixN ds.length i).map fun j => S.set k (.lst (ds.set j d)) := by simp only [setIxD, h, hc, if_true]
/-- a walk by range -/
theorem upto_nat (n : Nat) : upto ((n : Nat) : Int) = (List.range n).map fun (i : Nat) => D.int (i : Int) := by
  unfold upto
  rw [Int.toNat_natCast]
  refine List.map_congr_left fun i _ => ?_
  rw [Int.zero_add]
section
variable {A : Ad} {S T : WS} {k : Nat} {n m : Int} {w : W} {q : D → WS → Prop} {x : Xq}
theorem signs_ixG {S : WS} {r : Int} (h0 : 0 ≤ r) (h : r < 36) : ∃ c, ixD S (.str "abcdefghijklmnopqrstuvwxyz0123456789") (.int r) = some (.str ⟨#[c]⟩) ∧ (isLt c || isDg c) = true ∧ (r < 26 → isLt c = true) := by
  obtain ⟨c, hc, h1, h2⟩ := signs_atI h0 h
  have sg : ("abcdefghijklmnopqrstuvwxyz0123456789" : Str) = signs := rfl
  have hss : small signs.length = true := by decide +kernel
  exact ⟨c, by simp only [ixD, sg, hss, if_true, hc, Option.map_some], h1, h2⟩
/-! ### so many different names -/
theorem strF_j {S : WS} {j : Nat} (h : j < 13) : strFD S [.int (j : Int)] = some (.str (toString (j : Int) : String)) := by
  have : ∀ j : Fin 13, ((j.val : Nat) : Int).natAbs.log2 < 1920 := by decide +kernel
  simp only [strFD, this ⟨j, h⟩, if_true]
theorem inB {S : WS} {t : Str} {j : Nat} {done : List Str} (h : S[j]? = some (.lst (done.map D.str))) : inD true S (.str t) (.cell j) = some (.bl (decide (t ∉ done))) := by
  rw [in_strs (ts := done) (by simp only [itemsD, h])]
  rfl
end
end RV
end
section
local macro_rules | `(tactic| simp? [$xs,*]) => `(tactic| try simp -implicitDefEqProofs only [_root_.RV.eVar,_root_.RV.eC,_root_.RV.eOp,_root_.RV.eUn,_root_.RV.aNil,_root_.RV.aCons,_root_.RV.eSeq,_root_.RV.eCall,_root_.RV.eFn,_root_.RV.bBl,_root_.RV.onB_bl,_root_.RV.bTru,_root_.RV.eNotT,_root_.RV.bAnd,_root_.RV.bOr,_root_.RV.bNot,_root_.RV.eAnd,_root_.RV.eOr,_root_.RV.eIf,_root_.RV.bChain,_root_.RV.iteB_t,_root_.RV.iteB_f,_root_.RV.sNil,_root_.RV.sSeq,_root_.RV.sRet,_root_.RV.sDrop,_root_.RV.sAsg,_root_.RV.sIf,_root_.RV.sAsgG,_root_.RV.sPar2,_root_.RV.sSetIx,_root_.RV.sPairSet,_root_.RV.sAppend,_root_.RV.onL,_root_.RV.onI_i,_root_.RV.onT_s,_root_.RV.onTu_t,_root_.RV.onCe_c,_root_.RV.on1_,_root_.RV.on2_,_root_.RV.on3_,_root_.RV.onLst_l,_root_.RV.onOb_o,_root_.RV.onSeq_l,_root_.RV.onSeq_r,_root_.RV.onSeq_c,_root_.RV.lkD_s,_root_.RV.lkD_n,_root_.RV.lkO_s,_root_.RV.lkO_n,_root_.RV.finO,_root_.RV.sFldD,_root_.RV.setFD,_root_.RV.eProp,_root_.RV.isOb_obj,_root_.RV.eMake,_root_.RV.eMakeK,_root_.RV.eMakeL,_root_.RV.eLc,_root_.RV.eNew,_root_.RV.eSl,_root_.RV.oNone,_root_.RV.oSome,_root_.RV.eOpM,_root_.RV.eCallM,_root_.RV.eCm,_root_.RV.eOpT,_root_.RV.jNil,_root_.RV.jCons,_root_.RV.eJoin,_root_.RV.sCalm,_root_.RV.sFor,_root_.RV.iRange1,_root_.RV.iSeq,_root_.RV.iTupD,_root_.RV.iStrD,_root_.RV.iEnumT,_root_.RV.tName,_root_.RV.tTup_t,_root_.RV.tsCons_c,_root_.RV.tsNil_n,_root_.RV.any_t,_root_.RV.onS_some,_root_.RV.look0,_root_.RV.look1,_root_.RV.look2,_root_.RV.look3,_root_.RV.look4,_root_.RV.look5,_root_.RV.look6,_root_.RV.look7,_root_.RV.look8,_root_.RV.look9,_root_.RV.look10,_root_.RV.look11,_root_.RV.look12,_root_.RV.look13,_root_.RV.look14,_root_.RV.look15,_root_.RV.bYes,_root_.RV.wipeE,List.set_cons_zero,List.set_cons_succ,List.length_cons,List.length_nil,List.append_nil,List.nil_append,List.cons_append,List.append_assoc,Nat.zero_add,Nat.reduceAdd,Nat.reduceSub,Nat.reduceEqDiff,Nat.reduceLT,Nat.reduceLeDiff,Int.reduceNeg,true_and,and_true,and_self,if_true,if_false,Bool.not_true,Bool.not_false,Bool.false_eq_true,reduceIte,reduceCtorEq,decide_true,decide_false,_root_.RV.ltD_int,_root_.RV.leD_int,_root_.RV.gtD_int,_root_.RV.geD_int,_root_.RV.subD_int,_root_.RV.addD_int,_root_.RV.intOf_int,_root_.RV.absD_int,_root_.RV.eqD_int,_root_.RV.eqD_str,_root_.RV.neD_str,_root_.RV.neD_int,_root_.RV.isN_non,_root_.RV.truD_bl,_root_.RV.eqD_bl,_root_.RV.neD_bl,Option.map_some,Option.bind_some,_root_.RV.small_0,_root_.RV.small_1,_root_.RV.small_2,_root_.RV.small_3,_root_.RV.small_4,_root_.RV.small_5,_root_.RV.small_6,_root_.RV.small_7,_root_.RV.small_8,_root_.RV.onX_e,_root_.RV.onLs_l,_root_.RV.onV_v,_root_.RV.eDget2,_root_.RV.sDputD,_root_.RV.eNewDic,_root_.RV.iRange3,_root_.RV.keyD_s,_root_.RV.on3I_i,_root_.RV.finX_self,_root_.RV.st_app,_root_.RV.st_len,_root_.RV.fin_st,_root_.RV.fin_stT,_root_.RV.fin_self,ite_self,_root_.RV.eForget,_root_.RV.forgetD_p,_root_.RV.tupleP_lst,$xs,*])
section
/-! Springs: draws and titles of the laws from k47 on. -/
namespace RV
open PySem L2
section
variable {A : Ad} {S T : WS} {k : Nat} {n m : Int} {w : W} {q : D → WS → Prop} {x : Xq}
theorem takeG (hk : k < S.length) (g : Good n w) (hm : 0 < m) (hm2 : m < 1000000000000000000000000000000000000000000000000000000000000) (hn : n < 1000000000000000000) (h : ∀ d w', 0 ≤ d → d < m → Good (n + 1) w' → q (.int d) (st S k w' T)) : G_take_k47 A [.cell k, .int m] (st S k w T) q x := by
  obtain ⟨a, b, c⟩ := w
  obtain ⟨a0, a1, b0, c0, c1⟩ := g
  simp only at a0 a1 b0 c0 c1
  have at_ : ∀ w : W, (st S k w T)[k]? = some (.lst [.int w.a, .int w.b, .int w.c]) := fun w => st_at hk
  have i0 : ∀ (w : W), ixD (st S k w T) (.cell k) (.int 0) = some (.int w.a) := fun w => by rw [ixD_cellG (at_ w)]; rfl
  have i1 : ∀ (w : W), ixD (st S k w T) (.cell k) (.int 1) = some (.int w.b) := fun w => by rw [ixD_cellG (at_ w)]; rfl
  have i2 : ∀ (w : W), ixD (st S k w T) (.cell k) (.int 2) = some (.int w.c) := fun w => by rw [ixD_cellG (at_ w)]; rfl
  have s0 : ∀ (w : W) (v : Int), setIxD (.cell k) (.int 0) (.int v) (st S k w T) = some (st S k ⟨v, w.b, w.c⟩ T) := fun w v => by rw [setIx_cellG (at_ w) rfl]; exact congrArg some (st_put hk)
  have s1 : ∀ (w : W) (v : Int), setIxD (.cell k) (.int 1) (.int v) (st S k w T) = some (st S k ⟨w.a, v, w.c⟩ T) := fun w v => by rw [setIx_cellG (at_ w) rfl]; exact congrArg some (st_put hk)
  have s2 : ∀ (w : W) (v : Int), setIxD (.cell k) (.int 2) (.int v) (st S k w T) = some (st S k ⟨w.a, w.b, v⟩ T) := fun w v => by rw [setIx_cellG (at_ w) rfl]; exact congrArg some (st_put hk)
  have hd : dmOk m = true := decide_eq_true ⟨hm, Nat.lt_of_lt_of_le (m := 1000000000000000000000000000000000000000000000000000000000000) (by omega) (by decide +kernel)⟩
  have dm : ∀ S (v : Int), divmodD S [.int v, .int m] = some (.tup [.int (v / m), .int (v % m)]) := fun S v => by simp only [divmodD, hd, if_true]
  rw [D_take_k47]
  unfold fnD startE
  simp only [List.map_cons, List.map_nil, List.length_cons, List.length_nil, Nat.reduceAdd, Nat.reduceSub, List.replicate, List.cons_append, List.nil_append, List.append_nil, Nat.zero_add]
  unfold B_take_k47
  refine seq_gen fun N_ hN_ => ?_
  simp? [i1]
  refine iteB_dec (fun hb => ?_) (fun hb => ?_)
  · simp? [i1, dm, s1]
    exact h _ _ (Int.emod_nonneg _ (by omega)) (Int.emod_lt_of_pos _ hm) ⟨a0, a1, Int.ediv_nonneg b0 (by omega), by show 0 ≤ c; omega, by show c ≤ n + 1; omega⟩
  · subst hN_
    refine seq_gen fun N_ hN_ => ?_
    simp? [i2, s2]
    subst hN_
    refine seq_gen fun N_ hN_ => ?_
    have e1 : mulOk 2 (c + 1) = true := mulOk_l (by decide) (by decide)
    have e2 : mulOk 5179 (c + 1) = true := mulOk_l (by decide) (by decide)
    simp? [i2, mulD_int e1, mulD_int e2]
    subst hN_
    refine seq_gen fun N_ hN_ => ?_
    have e3 : ∀ z : Int, mulOk a z = true := fun z => mulOk_l a0 (by omega)
    simp? [i0, mulD_int (e3 _), modD_int (show (0 : Int) < 2147483543 by decide), s0]
    subst hN_
    have y1 : 0 ≤ (a * (40009 + 2 * (c + 1)) + (5179 * (c + 1) + 23)) % 2147483543 := Int.emod_nonneg _ (by omega)
    have y2 : (a * (40009 + 2 * (c + 1)) + (5179 * (c + 1) + 23)) % 2147483543 < 2147483543 := Int.emod_lt_of_pos _ (by omega)
    generalize (a * (40009 + 2 * (c + 1)) + (5179 * (c + 1) + 23)) % 2147483543 = y at y1 y2
    simp? [i0, fdivD_int (show divOk y 128 = true from rfl), modD_int hm]
    exact h _ _ (Int.emod_nonneg _ (by omega)) (Int.emod_lt_of_pos _ hm) ⟨y1, by show y < 2147483629; omega, by show 0 ≤ b; omega, by show 0 ≤ c + 1; omega, by show c + 1 ≤ n + 1; omega⟩
theorem springG {S : WS} {ns : List Int} {i : Int} (h0 : 0 ≤ i) (h1 : i < 1000000) (h : ∀ w : W, Good i w → q (.cell S.length) (S ++ [w.d])) : G_spring_k47 A [.scr ns, .int i] S q x := by
  have hpw : powOk 10 18 = true := by decide +kernel
  have he : ((10 : Int) ^ (18 : Int).toNat) = 1000000000000000000 := by decide +kernel
  have e1 : mulOk 613 i = true := mulOk_l (by decide) (by decide)
  have e5 : mulOk 5 i = true := mulOk_l (by decide) (by decide)
  have ln : lenD S [.scr ns] = some (.int (ns.length : Int)) := by simp [lenD, itemsD]
  have sl : ∃ ms : List Int, slLD S (.scr ns) none (some 3) = some (.lst (ms.map D.int)) := by
    have : ∃ ms : List Int, cutD (ns.map D.int) none (some 3) = ms.map D.int := by
      unfold cutD
      exact ⟨_, by rw [← List.map_drop, ← List.map_take]⟩
    obtain ⟨ms, e⟩ := this
    exact ⟨ms, by rw [← e]; rfl⟩
  obtain ⟨ms, sl⟩ := sl
  have fn : ∀ c : Cell, finN S.length (.cell S.length) (S ++ [c]) q = q (.cell S.length) (S ++ [c]) := fun c => by simp [finN, onS]
  rw [D_spring_k47]
  unfold fnN startE
  simp only [List.map_cons, List.map_nil, List.length_cons, List.length_nil, Nat.reduceAdd, Nat.reduceSub, List.replicate, List.cons_append, List.nil_append]
  unfold B_spring_k47
  refine seq_gen fun N_ hN_ => ?_
  have rest : ∀ v : Int, N_ [some (.scr ns), some (.int i), some (.int v), none, none] S := fun v => by
    subst hN_
    have v7 : mulOk v 7 = true := mulOk_r (by decide) (by decide)
    refine seq_gen fun N_ hN_ => ?_
    simp? [mulD_int e1]
    subst hN_
    refine seq_gen fun N_ hN_ => ?_
    simp? [sl]
    have go : ∀ (ms : List Int) (mx : Int) (o : Option D) (k : Kt), 0 ≤ mx → mx < 1000000000000 → (∀ mx o, 0 ≤ mx → mx < 1000000000000 → k.nx [some (.scr ns), some (.int i), some (.int v), some (.int mx), o] S) →
        forD any_ (tName 4) (L_spring_k47_0 A) (ms.map D.int) [some (.scr ns), some (.int i), some (.int v), some (.int mx), o] S k := fun ms => by
      induction ms with
      | nil =>
        intro mx o k h0 h1 hk
        exact ⟨trivial, hk _ _ h0 h1⟩
      | cons m ms ih =>
        intro mx o k h0 h1 hk
        have e3 : mulOk mx 31337 = true := mulOk_r (by decide) (by decide)
        have e4 : mulOk m 2 = true := mulOk_r (by decide) (by decide)
        rw [List.map_cons, for_cons]
        unfold L_spring_k47_0
        simp? [mulD_int e3, mulD_int e4, modD_int (show (0 : Int) < 2147483543 by decide)]
        exact ih _ _ k (Int.emod_nonneg _ (by decide)) (Int.lt_trans (Int.emod_lt_of_pos _ (by decide)) (by decide)) hk
    refine go ms _ none _ (by omega) (by omega) fun mx o m0 m1 => ?_
    subst hN_
    dsimp only
    have e3 : mulOk mx mx = true := mulOk_l m0 (by omega)
    refine seq_gen fun N_ hN_ => ?_
    simp? [mulD_int e3, mulD_int v7, modD_int (show (0 : Int) < 2147483543 by decide)]
    subst hN_
    have y1 : 0 ≤ (mx * mx + v * 7 + 11) % 2147483543 := Int.emod_nonneg _ (by omega)
    have y2 : (mx * mx + v * 7 + 11) % 2147483543 < 2147483543 := Int.emod_lt_of_pos _ (by omega)
    generalize (mx * mx + v * 7 + 11) % 2147483543 = y at y1 y2
    have e4 : mulOk y 40009 = true := mulOk_r (by decide) (by decide)
    have z1 : 0 ≤ (y * 40009 + 77) % 2147483543 := Int.emod_nonneg _ (by omega)
    have z2 : (y * 40009 + 77) % 2147483543 < 2147483543 := Int.emod_lt_of_pos _ (by omega)
    simp? [powD_int hpw, he, mulD_int e4, modD_int (show (0 : Int) < 2147483543 by decide)]
    generalize (y * 40009 + 77) % 2147483543 = z at z1 z2
    refine iteB_dec (fun hv => ?_) (fun hv => ?_)
    · simp? [fn, D.cleanL, D.clean, Bool.and_self]
      exact h ⟨z, if v < 0 then -v else v, i⟩ ⟨z1, by show z < 2147483629; omega, by show 0 ≤ (if v < 0 then -v else v); split <;> omega, h0, Int.le_refl _⟩
    · simp? [fn, D.cleanL, D.clean, Bool.and_self]
      exact h ⟨z, 0, i⟩ ⟨z1, by show z < 2147483629; omega, Int.le_refl _, h0, Int.le_refl _⟩
  simp? [ln]
  refine iteB_dec (fun hi => ?_) (fun hi => ?_)
  · have ha : atI ns i = some (ns[i.toNat]'(by omega)) := by
      rw [atI_nat h0 hi]
      exact List.getElem?_eq_getElem _
    have hx : ixD S (.scr ns) (.int i) = some (.int (ns[i.toNat]'(by omega))) := by simp only [ixD, ha, Option.map_some]
    simp? [hx]
    exact rest _
  · simp? [mulD_int e5]
    exact rest _
/-! ### titles -/
def wordsS : List D := [.str "if", .str "go", .str "vote", .str "tell", .str "doubt", .str "pipe", .str "meter", .str "sealed"]
theorem wordsS_at {r : Int} (h0 : 0 ≤ r) (h : r < 8) : ∃ s, atI wordsS r = some (.str s) ∧ Nm s := by
  have : r = 0 ∨ r = 1 ∨ r = 2 ∨ r = 3 ∨ r = 4 ∨ r = 5 ∨ r = 6 ∨ r = 7 := by omega
  rcases this with e | e | e | e | e | e | e | e <;> subst e <;> exact ⟨_, rfl, by unfold Nm; decide +kernel⟩
theorem sizeS_at {r : Int} (h0 : 0 ≤ r) (h : r < 6) : ∃ z : Nat, z ≤ 7 ∧ ∀ S, ixD S (.lst [.int 0, .int 0, .int 1, .int 1, .int 3, .int 7]) (.int r) = some (.int (z : Nat)) := by
  have : r = 0 ∨ r = 1 ∨ r = 2 ∨ r = 3 ∨ r = 4 ∨ r = 5 := by omega
  rcases this with e | e | e | e | e | e <;> subst e
  · exact ⟨0, by decide, fun _ => rfl⟩
  · exact ⟨0, by decide, fun _ => rfl⟩
  · exact ⟨1, by decide, fun _ => rfl⟩
  · exact ⟨1, by decide, fun _ => rfl⟩
  · exact ⟨3, by decide, fun _ => rfl⟩
  · exact ⟨7, by decide, fun _ => rfl⟩
theorem slD_strB {S : WS} {z : Str} {a b : Option Int} (h : small z.length = true) : slD S (.str z) a b = some (.str (L2.cutS z a b)) := by simp only [slD, h, if_true]
theorem spare_B {t : Str} {done : List Str} (ht : Nm t) (hl : done.length < 36) : ∃ z l, (t :: signs.cps.toList.map (alt t)).filter (fun z => decide (z ∉ done)) = z :: l ∧ Nm z ∧ z ∉ done := by
  obtain ⟨c, l, hc, hn, e⟩ := alt_first ht hl
  rw [List.filter_cons]
  split
  · rename_i h
    exact ⟨t, _, rfl, ht, of_decide_eq_true h⟩
  · exact ⟨_, l, e, nm_alt ht hc, hn⟩
theorem titlesG {mm : Nat} (hk : k < S.length) (g : Good n w) (hn : n < 100000000000000) (hm : mm ≤ 13) (h : ∀ (ts : List Str) w', (∀ t ∈ ts, Nm t) → ts.Nodup → ts.length = mm → Good (n + 200) w' → q (.lst (ts.map D.str)) (st S k w' T)) :
    G_titles_k47 A [.cell k, .int (mm : Nat)] (st S k w T) q x := by
  have sgn : ("abcdefghijklmnopqrstuvwxyz0123456789" : Str) = signs := rfl
  rw [D_titles_k47]
  unfold fnD startE
  simp only [List.map_cons, List.map_nil, List.length_cons, List.length_nil, Nat.reduceAdd, Nat.reduceSub, List.replicate, List.cons_append, List.nil_append, List.append_nil, Nat.zero_add]
  unfold B_titles_k47
  refine seq_gen fun N_ hN_ => ?_
  simp? [D.cleanL]
  subst hN_
  refine seq_gen fun N_ hN_ => ?_
  simp? [show small 8 = true from rfl]
  subst hN_
  refine seq_gen fun N_ hN_ => ?_
  simp? []
  refine ⟨⟨by omega, by omega⟩, ?_⟩
  rw [upto_nat]
  have go : ∀ (js : List Nat) (done : List Str) (o5 o6 o7 o8 o9 o10 o11 : Option D) (n : Int) (w : W) (kt : Kt), Good n w → n < 100000000000000 + 15 * done.length → (∀ t ∈ done, Nm t) → done.Nodup → done.length + js.length = mm →
      (∀ (ts : List Str) (w' : W) (o5 o6 o7 o8 o9 o10 o11 : Option D), (∀ t ∈ ts, Nm t) → ts.Nodup → ts.length = mm → Good (n + 15 * js.length) w' → kt.nx [some (.cell k), some (.int (mm : Nat)), some (.str "abcdefghijklmnopqrstuvwxyz0123456789"), some (.cell (S.length + T.length)), some (.lst wordsS), o5, o6, o7, o8, o9, o10, o11] (st S k w' (T ++ [.lst (ts.map D.str)]))) →
      forD any_ (tName 5) (L_titles_k47_1 A) (js.map fun (i : Nat) => D.int (i : Int)) [some (.cell k), some (.int (mm : Nat)), some (.str "abcdefghijklmnopqrstuvwxyz0123456789"), some (.cell (S.length + T.length)), some (.lst wordsS), o5, o6, o7, o8, o9, o10, o11] (st S k w (T ++ [.lst (done.map D.str)])) kt := fun js => by
    induction js with
    | nil =>
      intro done o5 o6 o7 o8 o9 o10 o11 n w kt g hn h1 h2 h3 hk
      refine ⟨trivial, hk _ _ _ _ _ _ _ _ _ h1 h2 (by simpa using h3) (g.mono (by simp))⟩
    | cons j js ih =>
      intro done o5 o6 o7 o8 o9 o10 o11 n w kt g hn h1 h2 h3 hkt
      simp only [List.length_cons] at h3
      refine for_name trivial ?_
      unfold L_titles_k47_1
      refine seq_gen fun N_ hN_ => ?_
      simp? [show small 6 = true from rfl]
      refine takeG hk g (by decide) (by decide) (by omega) fun d w1 d0 d1 g1 => ?_
      obtain ⟨z, hz7, hz⟩ := sizeS_at d0 d1
      simp? [hz]
      refine takeG hk g1 (by decide) (by decide) (by omega) fun d2 w2 d20 d21 g2 => ?_
      obtain ⟨c, hc, _, hl⟩ := signs_ixG (S := st S k w2 (T ++ [.lst (done.map D.str)])) d20 (by omega)
      simp? [hc]
      subst hN_
      have n0 : Nm ⟨#[c]⟩ := nm_one (hl d21)
      -- the word's signs
      have grow : ∀ (us : List Nat) (t : Str) (o8 : Option D) (n : Int) (w : W) (kt : Kt), Good n w → n + us.length < 200000000000000 → Nm t → t.length + us.length ≤ 8 →
          (∀ (t : Str) (w' : W) (o8 : Option D), Nm t → Good (n + us.length) w' → kt.nx [some (.cell k), some (.int (mm : Nat)), some (.str "abcdefghijklmnopqrstuvwxyz0123456789"), some (.cell (S.length + T.length)), some (.lst wordsS), some (.int (j : Int)), some (.int (z : Nat)), some (.str t), o8, o9, o10, o11] (st S k w' (T ++ [.lst (done.map D.str)]))) →
          forD any_ (tName 8) (L_titles_k47_0 A) (us.map fun (i : Nat) => D.int (i : Int)) [some (.cell k), some (.int (mm : Nat)), some (.str "abcdefghijklmnopqrstuvwxyz0123456789"), some (.cell (S.length + T.length)), some (.lst wordsS), some (.int (j : Int)), some (.int (z : Nat)), some (.str t), o8, o9, o10, o11] (st S k w (T ++ [.lst (done.map D.str)])) kt := fun us => by
        induction us with
        | nil =>
          intro t o8 n w kt g hn ht hl hk
          exact ⟨trivial, hk t w _ ht (g.mono (by simp))⟩
        | cons u us ih2 =>
          intro t o8 n w kt g hn ht hl hk2
          simp only [List.length_cons] at hl hk2 hn
          rw [List.map_cons]
          refine for_name trivial ?_
          unfold L_titles_k47_0
          simp? []
          refine takeG hk g (by decide) (by decide) (by omega) fun d w3 d30 d31 g3 => ?_
          obtain ⟨e, he, he2, _⟩ := signs_ixG (S := st S k w3 (T ++ [.lst (done.map D.str)])) d30 d31
          have hsm : small (t.length + Str.length ⟨#[e]⟩) = true := small_of (by rw [one_len]; omega)
          simp? [he, addD_str hsm]
          refine ih2 (t ++ ⟨#[e]⟩) _ (n + 1) w3 kt g3 (by omega) (nm_snoc ht (by omega) he2) (by rw [snoc_len]; omega) fun t w' o8 a g' => hk2 t w' o8 a (g'.mono (by omega))
      refine seq_gen fun N_ hN_ => ?_
      simp? []
      refine ⟨⟨by omega, by omega⟩, ?_⟩
      rw [upto_nat]
      refine grow (List.range z) ⟨#[c]⟩ _ (n + 1 + 1) w2 _ g2 (by rw [List.length_range]; omega) n0 (by rw [one_len, List.length_range]; omega) fun t w3 o8 ht g3 => ?_
      subst hN_
      dsimp only
      refine seq_gen fun N_ hN_ => ?_
      have fin : ∀ (word : Str) (w5 : W), Nm word → Good (n + 13) w5 → N_ [some (.cell k), some (.int (mm : Nat)), some (.str "abcdefghijklmnopqrstuvwxyz0123456789"), some (.cell (S.length + T.length)), some (.lst wordsS), some (.int (j : Int)), some (.int (z : Nat)), some (.str word), o8, o9, o10, o11] (st S k w5 (T ++ [.lst (done.map D.str)])) := fun word w5 hw g5 => by
        subst hN_
        have hst : small word.length = true := nm_small hw
        have h36 : small (signs.cps.toList.map fun c => D.str ⟨#[c]⟩).length = true := by decide +kernel
        have l36 : signs.cps.toList.length = 36 := by decide +kernel
        refine seq_gen fun N_ hN_ => ?_
        simp? [sgn, h36]
        rw [lc_mapEq (inj := fun c : Nat => D.str ⟨#[c]⟩) (g := fun c : Nat => D.str (alt word c)) signs.cps.toList trivial (fun c hc => ⟨_, rfl, fun q x => by
          have hsm : small ((L2.cutS word none (some 7)).length + Str.length ⟨#[c]⟩) = true := small_of (by
            rw [one_len]
            have h7 : (L2.cutS word none (some (7 : Int))).length ≤ 7 := by
              rw [len_cps, show L2.cutS word none (some (7 : Int)) = L2.cutS word none (some ((7 : Nat) : Int)) from rfl, cut_to, List.length_take]
              omega
            omega)
          unfold C_titles_k47_0
          simp? [slD_strB hst, addD_str hsm]
          rfl⟩)]
        simp? [addD_lst (small_of (n := [D.str word].length + (signs.cps.toList.map fun c : Nat => D.str (alt word c)).length) (by simp only [List.length_cons, List.length_nil, List.length_map, l36]; omega))]
        subst hN_
        have esp : D.str word :: signs.cps.toList.map (fun c : Nat => D.str (alt word c)) = (word :: signs.cps.toList.map (alt word)).map D.str := by simp [Function.comp_def]
        rw [esp]
        obtain ⟨y, l, e1, e2, e3⟩ := spare_B (done := done) hw (by omega)
        simp? [st_at0]
        refine ⟨small_of (by rw [List.length_map, List.length_cons, List.length_map, l36]; omega), ?_⟩
        rw [lc_eq (p := fun z : Str => decide (z ∉ done)) (g := D.str) _ _ trivial (fun a ha => ?_)]
        rotate_left
        · refine ⟨_, rfl, fun q x => ?_, fun hp q x => ?_⟩
          · unfold K_titles_k47_0
            simp? [inB (S := st S k w5 (T ++ [.lst (done.map D.str)])) (j := S.length + T.length) st_at0]
          · unfold C_titles_k47_1
            simp? []
        rw [e1]
        have hx : ∀ (S : WS) (l : List D), ixD S (.lst (D.str y :: l)) (.int 0) = some (.str y) := fun S l => by simp only [ixD, atI_cons]
        simp? [List.map_cons, hx, st_at0, st_set0, D.clean, small_of (n := (done.map D.str).length) (by simp; omega)]
        have e4 : done.map D.str ++ [D.str y] = (done ++ [y]).map D.str := by simp
        rw [e4]
        refine ih (done ++ [y]) _ _ _ _ _ _ _ (n + 13) w5 kt g5 (by simp; omega) (fun t ht => ?_) ?_ (by simp; omega) fun ts w' a b c d e f g0 t1 t2 t3 g' => hkt ts w' a b c d e f g0 t1 t2 t3 (g'.mono (by simp only [List.length_cons]; omega))
        · rcases List.mem_append.mp ht with q | q
          · exact h1 t q
          · rw [List.mem_singleton] at q
            subst q
            exact e2
        · rw [List.nodup_append]
          refine ⟨h2, by simp, fun a ha b hb => ?_⟩
          rw [List.mem_singleton] at hb
          subst hb
          exact fun e => e3 (e ▸ ha)
      simp? []
      refine takeG hk g3 (by decide) (by decide) (by simp; omega) fun d5 w5 d50 d51 g5 => ?_
      simp? []
      refine iteB_dec (fun hd => ?_) (fun hd => ?_)
      · simp? []
        refine takeG hk g5 (by decide) (by decide) (by simp; omega) fun d6 w6 d60 d61 g6 => ?_
        obtain ⟨s, hs, ns⟩ := wordsS_at d60 d61
        have hx : ixD (st S k w6 (T ++ [.lst (done.map D.str)])) (.lst wordsS) (.int d6) = some (.str s) := by simp only [ixD, hs]
        simp? [hx]
        exact fin s w6 ns (g6.mono (by simp; omega))
      · simp? []
        exact fin t w5 ht (g5.mono (by simp; omega))
  refine go (List.range mm) [] none none none none none none none n w _ g (by simpa using hn) (by simp) (by simp) (by simp) fun ts w' o5 o6 o7 o8 o9 o10 o11 h1 h2 h3 g' => ?_
  dsimp only
  subst hN_
  simp? []
  rw [fin_stL]
  exact h ts w' h1 h2 h3 (g'.mono (by simp; omega))
end
end RV
end
section
/-! repr of plain data. -/
namespace RV
open PySem L2
structure ShOk (k w : Nat) (p : PyData) : Prop where
  sh : p.showable = true
  nd : p.hasDict = false
  dp : p.depth ≤ k
  ls : p.leavesShort 60 = true
  wt : p.weight ≤ w
section
variable {k w : Nat} {xs : List PyData}
structure ShAll (k w : Nat) (xs : List PyData) : Prop where
  sh : PyData.showableAll xs = true
  nd : PyData.hasDictAll xs = false
  dp : PyData.depthAll xs ≤ k
  ls : PyData.leavesShortAll 60 xs = true
  wt : PyData.weightAll xs ≤ (w + 1) * xs.length
theorem ShAll.of : ∀ {xs : List PyData}, (∀ x ∈ xs, ShOk k w x) → ShAll k w xs
  | [], _ => ⟨rfl, rfl, Nat.zero_le _, rfl, Nat.zero_le _⟩
  | x :: xs, h => by
    have a := h x (List.mem_cons_self ..)
    have b := ShAll.of fun y hy => h y (List.mem_cons_of_mem _ hy)
    refine ⟨?_, ?_, ?_, ?_, ?_⟩
    · simp [PyData.showableAll, a.sh, b.sh]
    · simp [PyData.hasDictAll, a.nd, b.nd]
    · have := a.dp
      have := b.dp
      simp only [PyData.depthAll]
      omega
    · simp [PyData.leavesShortAll, a.ls, b.ls]
    · have h1 := a.wt
      have h2 := b.wt
      simp only [PyData.weightAll, List.length_cons, Nat.mul_succ]
      omega
theorem ShOk.list (h : ∀ x ∈ xs, ShOk k w x) : ShOk (k + 1) ((w + 1) * xs.length) (.list xs) := by
  have a := ShAll.of h
  refine ⟨?_, ?_, ?_, ?_, ?_⟩
  · simpa only [PyData.showable] using a.sh
  · simpa only [PyData.hasDict] using a.nd
  · have := a.dp
    simp only [PyData.depth]
    omega
  · simpa only [PyData.leavesShort] using a.ls
  · simpa only [PyData.weight] using a.wt
theorem ShOk.tuple (h : ∀ x ∈ xs, ShOk k w x) : ShOk (k + 1) ((w + 1) * xs.length) (.tuple xs) := by
  have a := ShAll.of h
  refine ⟨?_, ?_, ?_, ?_, ?_⟩
  · simpa only [PyData.showable] using a.sh
  · simpa only [PyData.hasDict] using a.nd
  · have := a.dp
    simp only [PyData.depth]
    omega
  · simpa only [PyData.leavesShort] using a.ls
  · simpa only [PyData.weight] using a.wt
theorem ShOk.mono {k' w' : Nat} {p : PyData} (h : ShOk k w p) (hk : k ≤ k') (hw : w ≤ w') : ShOk k' w' p := ⟨h.sh, h.nd, Nat.le_trans h.dp hk, h.ls, Nat.le_trans h.wt hw⟩
theorem ShOk.bool {b : Bool} : ShOk k w (.bool b) := ⟨rfl, rfl, Nat.zero_le _, rfl, Nat.zero_le _⟩
theorem ShOk.str {s : Str} (hs : PyData.strOk s = true) (hl : s.length ≤ w) : ShOk k w (.str s) := by
  refine ⟨rfl, rfl, Nat.zero_le _, ?_, hl⟩
  unfold PyData.strOk at hs
  rw [← Array.all_toList, List.all_eq_true] at hs
  simp only [PyData.leavesShort, List.all_eq_true]
  intro c hc
  have := of_decide_eq_true (hs c hc)
  exact decide_eq_true (Nat.lt_of_lt_of_le this (by decide))
theorem ShOk.nm {s : Str} (h : Nm s) : ShOk k 8 (.str s) := ShOk.str (nm_strOk h) (nm_len h).2
theorem repr_ok {S : WS} {d : D} {p : PyData} (hp : D.py d = some p) (h : ShOk k w p) (hk : k ≤ 64) (hw : w ≤ 200000) : reprD S [d] = some (.str p.shown) := by
  have h1 := PyData.shown_le 60 (by decide) p h.ls
  have h2 : p.shown.length ≤ sizeLine := by
    have e : sizeLine = 16777216 := by decide
    have := h.wt
    omega
  have h3 : p.depth ≤ 64 := Nat.le_trans h.dp hk
  simp only [reprD, hp, Option.bind_some, h.sh, h.nd, h2, h3, and_self, if_true]
end
end RV
end
section
/-! isinstance; names are judged; pipes and meters. -/
namespace RV
open PySem L2
section
variable {A : Ad} {S : WS} {x c : D} {t u : Value} {m n : String} {fs : List (Str × D)}
theorem isi_of (h1 : kindD (own A) x = some t) (h2 : clsD c = some u) (h3 : t ∈ kinds A) (h4 : u ∈ clss A) : isiD (own A) (tab A) S [x, c] = some (.bl (sub A t u)) := by
  simp only [isiD, h1, h2, Option.bind_some, tab, tabD, h3, h4, and_self, if_true, Option.map_some]
theorem own_here (h : m ∈ A.here) : own A (A.c m) = true := List.any_eq_true.mpr ⟨m, h, beq_self_eq_true _⟩
theorem kind_here (h : m ∈ A.here) : kindD (own A) (.obj (A.c m) fs) = some (.ref (A.c m)) := by simp only [kindD, own_here h, if_true]
theorem ref_kinds (h : m ∈ A.here) : Value.ref (A.c m) ∈ kinds A := List.mem_append_right _ (List.mem_map.mpr ⟨m, h, rfl⟩)
theorem ref_clss (h : m ∈ A.here) : Value.ref (A.c m) ∈ clss A := List.mem_append_right _ (List.mem_map.mpr ⟨m, h, rfl⟩)
theorem isi_own (h : m ∈ A.here) (h' : n ∈ A.here) : isiD (own A) (tab A) S [.obj (A.c m) fs, .adr (A.c n)] = some (.bl (decide (A.c m = A.c n))) := by
  rw [isi_of (kind_here h) rfl (ref_kinds h) (ref_clss h')]
  simp [sub]
theorem isi_str {s : Str} : isiD (own A) (tab A) S [.str s, .ty "str"] = some (.bl true) := by
  rw [isi_of (t := .type "str") (u := .type "str") rfl rfl (by simp [kinds]) (by simp [clss])]
  simp [sub]
theorem isi_tup {ds : List D} : isiD (own A) (tab A) S [.tup ds, .ty "tuple"] = some (.bl true) := by
  rw [isi_of (t := .type "tuple") (u := .type "tuple") rfl rfl (by simp [kinds]) (by simp [clss])]
  simp [sub]
end
/-- the classes of nets are there -/
structure NetsA (A : Ad) : Prop where
  p : "Pipe" ∈ A.here
  m : "Meter" ∈ A.here
  n : "Net" ∈ A.here
  pm : A.c "Pipe" ≠ A.c "Meter"
  pn : A.c "Pipe" ≠ A.c "Net"
  mn : A.c "Meter" ≠ A.c "Net"
section
variable {A : Ad} {S : WS} {q : D → WS → Prop} {x : Xq} {s a b c : Str} {f : Bool}
/-! ### names -/
def nmB (s : Str) : Bool := nmL s.cps.toList
theorem inS_letters {neg : Bool} {ch : Nat} : inSD neg S (.str ⟨#[ch]⟩) (.str "abcdefghijklmnopqrstuvwxyz") = some (.bl (if neg then !isLt ch else isLt ch)) := by
  cases neg <;> simp [inSD, isLt, letters]
theorem inS_digits {neg : Bool} {ch : Nat} : inSD neg S (.str ⟨#[ch]⟩) (.str "0123456789") = some (.bl (if neg then !isDg ch else isDg ch)) := by
  cases neg <;> simp [inSD, isDg, digits]
theorem isName_eq (hs : small s.length = true) : G_is_name A [.str s] S q x = q (.bl (nmB s)) S := by
  have hln : lenD S [.str s] = some (.int (s.length : Nat)) := by simp only [lenD, hs, if_true]
  have hlc : ∀ q : List D → WS → Prop, lcD any_ (tName 1) bYes (eOr (eOp (inSD false) (eVar 1) (eC (.str "abcdefghijklmnopqrstuvwxyz"))) (eOp (inSD false) (eVar 1) (eC (.str "0123456789")))) [some (.str s), none] (s.cps.toList.map fun c => D.str ⟨#[c]⟩) [] S q = q (s.cps.toList.map fun c => D.bl (isLt c || isDg c)) S := fun q => by
    refine lc_mapEq _ trivial fun c hc => ⟨_, rfl, fun q x => ?_⟩
    simp? [inS_letters, inS_digits]
    cases isLt c <;> rfl
  have hsm : small (s.cps.toList.map fun c => D.str ⟨#[c]⟩).length = true := by rw [List.length_map, ← len_cps]; exact hs
  rw [D_is_name]
  unfold fnD startE
  simp only [List.map_cons, List.map_nil, List.length_cons, List.length_nil, Nat.reduceAdd, Nat.reduceSub, List.replicate, List.cons_append, List.nil_append, List.append_nil, Nat.zero_add]
  unfold B_is_name
  simp? [isi_str, hln, hsm, hlc, allD_map]
  unfold nmB
  rcases hc : s.cps.toList with _ | ⟨ch, r⟩
  · have h0 : s.length = 0 := by rw [len_cps, hc]; rfl
    simp? [show decide ((1 : Int) ≤ ((s.length : Nat) : Int)) = false from decide_eq_false (by omega)]
    simp [nmL]
  · have h1 : s.length = r.length + 1 := by rw [len_cps, hc]; rfl
    have h0 : ixD S (.str s) (.int 0) = some (.str ⟨#[ch]⟩) := by
      simp only [ixD, hs, if_true, hc, atI_cons, Option.map_some]
    simp? [show decide ((1 : Int) ≤ ((s.length : Nat) : Int)) = true from decide_eq_true (by omega), h0, inS_letters]
    by_cases h8 : s.length ≤ 8
    · simp? [show decide (((s.length : Nat) : Int) ≤ 8) = true from decide_eq_true (by omega)]
      cases hl : isLt ch
      · simp? []
        simp [nmL, hl]
      · simp? []
        have : decide (r.length ≤ 7) = true := decide_eq_true (by omega)
        simp [nmL, hl, this]
    · simp? [show decide (((s.length : Nat) : Int) ≤ 8) = false from decide_eq_false (by omega)]
      have : decide (r.length ≤ 7) = false := decide_eq_false (by omega)
      simp [nmL, this]
/-! ### pipes and meters -/
end
end RV
end
section
/-! Sums: pairs, totals, terms, texts. -/
namespace RV
open PySem L2
abbrev PR := Str × Int
def prD (p : PR) : D := .tup [.str p.1, .int p.2]
def tot (ps : List PR) (s : Str) : Int := ((ps.filter fun p => decide (p.1 = s)).map (·.2)).sum
section
variable {ps qs ts : List PR} {s : Str} {p : PR} {i : Int}
theorem tot_app : tot (ps ++ qs) s = tot ps s + tot qs s := by simp [tot]
theorem tot_one : tot [p] s = if p.1 = s then p.2 else 0 := by
  unfold tot
  by_cases h : p.1 = s <;> simp [h]
theorem tot_cons : tot (p :: ps) s = (if p.1 = s then p.2 else 0) + tot ps s := by
  rw [show p :: ps = [p] ++ ps from rfl, tot_app, tot_one]
theorem tot_none (h : s ∉ ps.map (·.1)) : tot ps s = 0 := by
  unfold tot
  rw [List.filter_eq_nil_iff.mpr]
  · rfl
  · intro p hp
    simp only [decide_eq_true_eq]
    exact fun e => h (e ▸ List.mem_map.mpr ⟨p, hp, rfl⟩)
def nz (ps : List PR) : List Str := (ascS (ps.map (·.1))).filter fun s => decide (tot ps s ≠ 0)
def mrg (ps : List PR) : List PR := (nz ps).map fun s => (s, tot ps s)
theorem mem_nz : s ∈ nz ps ↔ tot ps s ≠ 0 := by
  unfold nz
  rw [List.mem_filter, mem_ascS, decide_eq_true_eq]
  refine ⟨And.right, fun h => ⟨?_, h⟩⟩
  by_cases q : s ∈ ps.map (·.1)
  · exact q
  · exact absurd (tot_none q) h
theorem asc_nz : Asc (nz ps) := (asc_ascS _).filter _
theorem mrg_fst : (mrg ps).map (·.1) = nz ps := by
  unfold mrg
  rw [List.map_map]
  exact List.map_id _
/-- pairs that a sum is made of -/
structure PsOk (n : Nat) (ps : List PR) : Prop where
  nm : ∀ p ∈ ps, Nm p.1
  len : ps.length ≤ n
  bd : ∀ s, (tot ps s).natAbs < 10000000000000000000000000000000000000000
/-- terms -/
structure TmOk (ts : List PR) : Prop where
  nm : ∀ p ∈ ts, Nm p.1
  nz : ∀ p ∈ ts, p.2 ≠ 0
  asc : Asc (ts.map (·.1))
  bd : ∀ p ∈ ts, p.2.natAbs < 10000000000000000000000000000000000000000
theorem PsOk.tm {n : Nat} (h : PsOk n ps) : TmOk (mrg ps) := by
  refine ⟨fun p hp => ?_, fun p hp => ?_, by rw [mrg_fst]; exact asc_nz, fun p hp => ?_⟩ <;> (obtain ⟨s, hs, rfl⟩ := List.mem_map.mp hp)
  · have h1 := List.mem_filter.mp hs
    obtain ⟨p', hp', e⟩ := List.mem_map.mp (mem_ascS.mp h1.1)
    show Nm s
    rw [← e]
    exact h.nm p' hp'
  · exact mem_nz.mp hs
  · exact h.bd s
theorem tot_at : ∀ {ts : List PR}, (ts.map (·.1)).Nodup → ∀ p ∈ ts, tot ts p.1 = p.2
  | [], _, p, hp => nomatch hp
  | q :: ts, h, p, hp => by
    rw [List.map_cons, List.nodup_cons] at h
    rw [tot_cons]
    rcases List.mem_cons.mp hp with e | e
    · subst e
      rw [if_pos rfl, tot_none h.1]
      omega
    · rw [if_neg (fun z : q.1 = p.1 => h.1 (z ▸ List.mem_map.mpr ⟨p, e, rfl⟩)), tot_at h.2 p e]
      omega
theorem TmOk.mrg (h : TmOk ts) : mrg ts = ts := by
  have e : RV.nz ts = ts.map (·.1) := asc_one asc_nz h.asc fun k => by
    rw [mem_nz]
    refine ⟨fun z => ?_, fun z => ?_⟩
    · by_cases q : k ∈ ts.map (·.1)
      · exact q
      · exact absurd (tot_none q) z
    · obtain ⟨p, hp, rfl⟩ := List.mem_map.mp z
      rw [tot_at (asc_nd h.asc) p hp]
      exact h.nz p hp
  unfold RV.mrg
  rw [e, List.map_map]
  conv => rhs; rw [← List.map_id ts]
  exact List.map_congr_left fun p hp => Prod.ext rfl (tot_at (asc_nd h.asc) p hp)
theorem TmOk.pairs (h : TmOk ts) : PsOk ts.length ts := by
  refine ⟨h.nm, Nat.le_refl _, fun s => ?_⟩
  by_cases q : s ∈ ts.map (·.1)
  · obtain ⟨p, hp, rfl⟩ := List.mem_map.mp q
    rw [tot_at (asc_nd h.asc) p hp]
    exact h.bd p hp
  · rw [tot_none q]
    decide
theorem TmOk.cons (h : TmOk (p :: ts)) : TmOk ts := ⟨fun q z => h.nm q (List.mem_cons_of_mem _ z), fun q z => h.nz q (List.mem_cons_of_mem _ z), (List.pairwise_cons.mp h.asc).2, fun q z => h.bd q (List.mem_cons_of_mem _ z)⟩
end
/-! ### dicts of totals -/
def dk (ks : List Str) (f : Str → Int) : List (Key × D) := ks.map fun s => (Sum.inr s, .int (f s))
section
variable {ks : List Str} {f : Str → Int} {s : Str} {v : Int}
theorem keys_dk {f : Str → Int} : ∀ {ks : List Str}, keysS (dk ks f) = some ks
  | [] => rfl
  | k :: ks => by
    have h := keys_dk (f := f) (ks := ks)
    unfold dk at h ⊢
    simp only [List.map_cons, keysS, h, Option.map_some]
theorem val_dk {f : Str → Int} {s : Str} : ∀ {ks : List Str}, valD (dk ks f) (Sum.inr s) = if s ∈ ks then some (.int (f s)) else none
  | [] => rfl
  | k :: ks => by
    have h := val_dk (f := f) (s := s) (ks := ks)
    unfold dk at h ⊢
    simp only [List.map_cons, valD, h, Sum.inr.injEq, List.mem_cons]
    by_cases e : k = s
    · subst e
      simp
    · have e' : ¬ s = k := fun z => e z.symm
      simp [e, e']
theorem any_dk : ((dk ks f).any fun kv => decide (kv.1 = Sum.inr s)) = decide (s ∈ ks) := by
  unfold dk
  rw [List.any_map, Bool.eq_iff_iff]
  simp only [List.any_eq_true, Function.comp_def, decide_eq_true_eq, Sum.inr.injEq]
  exact ⟨fun ⟨x, h, e⟩ => e ▸ h, fun h => ⟨s, h, rfl⟩⟩
def setF (f : Str → Int) (s : Str) (v : Int) : Str → Int := fun t => if t = s then v else f t
theorem put_dk (h : s ∈ ks) : putKD (dk ks f) (Sum.inr s) (.int v) = dk ks (setF f s v) := by
  unfold putKD
  rw [any_dk, decide_eq_true h, if_pos rfl]
  unfold dk
  rw [List.map_map]
  refine List.map_congr_left fun t _ => ?_
  simp only [Function.comp_def, Sum.inr.injEq, setF]
  by_cases e : t = s <;> simp [e]
theorem put_dk' (h : s ∉ ks) : putKD (dk ks f) (Sum.inr s) (.int v) = dk (ks ++ [s]) (setF f s v) := by
  unfold putKD
  rw [any_dk, decide_eq_false h, if_neg (by simp)]
  unfold dk
  rw [List.map_append]
  congr 1
  · refine List.map_congr_left fun t ht => ?_
    have e : ¬ t = s := fun z => h (z ▸ ht)
    simp [setF, e]
  · simp [setF]
end
/-! ### numbers as texts -/
def dg (n : Nat) : Str := Str.ofString (toString ((n : Nat) : Int))
theorem tl_dg (n : Nat) : TL.tl (dg n) = TL.numL n := TL.tl_num n
theorem numL_head : ∀ n : Nat, 0 < n → ∃ c r, TL.numL n = c :: r ∧ 49 ≤ c ∧ c ≤ 57 := fun n => by
  induction n using Nat.strongRecOn with
  | ind n ih =>
    intro h
    by_cases q : n < 10
    · exact ⟨48 + n, [], TL.numL_lt q, by omega, by omega⟩
    · obtain ⟨c, r, e, b⟩ := ih (n / 10) (by omega) (by omega)
      rw [TL.numL_step (by omega), e]
      exact ⟨c, r ++ [48 + n % 10], rfl, b⟩
def padL (k b : Nat) : List Nat := List.replicate (k - (TL.numL b).length) 48 ++ TL.numL b
theorem padL_step {k b : Nat} (hk : 1 ≤ k) (hb : b < 10 ^ (k + 1)) : padL (k + 1) b = padL k (b / 10) ++ [48 + b % 10] := by
  unfold padL
  by_cases h : 10 ≤ b
  · rw [TL.numL_step h, List.length_append, List.length_singleton, List.append_assoc]
    congr 2
    omega
  · have e : b / 10 = 0 := by omega
    have l0 : TL.numL 0 = [48] := TL.numL_lt (by decide)
    rw [TL.numL_lt (by omega), e, l0]
    simp only [List.length_singleton]
    rw [show k + 1 - 1 = (k - 1) + 1 by omega, List.replicate_succ', show b % 10 = b by omega]
theorem numL_split {a : Nat} (ha : 0 < a) : ∀ (k b : Nat), 1 ≤ k → b < 10 ^ k → TL.numL (a * 10 ^ k + b) = TL.numL a ++ padL k b
  | 0, _, h, _ => absurd h (by decide)
  | 1, b, _, hb => by
    rw [TL.numL_step (by omega)]
    have e1 : (a * 10 ^ 1 + b) / 10 = a := by omega
    have e2 : (a * 10 ^ 1 + b) % 10 = b := by omega
    have hb' : b < 10 := by omega
    rw [e1, e2]
    unfold padL
    rw [TL.numL_lt hb']
    rfl
  | k + 2, b, _, hb => by
    have ih := numL_split ha (k + 1) (b / 10) (by omega) (by
      have : 10 ^ (k + 2) = 10 * 10 ^ (k + 1) := by rw [Nat.pow_succ]; omega
      omega)
    have e0 : 10 ^ (k + 2) = 10 * 10 ^ (k + 1) := by rw [Nat.pow_succ]; omega
    have e3 : a * 10 ^ (k + 2) = 10 * (a * 10 ^ (k + 1)) := by rw [e0, Nat.mul_left_comm]
    have big : 10 ≤ a * 10 ^ (k + 2) + b := by
      have : 1 ≤ a * 10 ^ (k + 1) := Nat.mul_pos ha (Nat.pow_pos (by decide))
      omega
    rw [TL.numL_step big, padL_step (by omega) hb, ← List.append_assoc, ← ih]
    congr 2
    · omega
    · omega
theorem pad30_tl {n : Nat} : TL.tl (pad30 (n : Int)) = padL 30 n := by
  unfold pad30 padL
  rw [TL.tl_append, TL.tl_num]
  have e : (Nat.toDigits 10 ((n : Int)).natAbs).length = (TL.numL n).length := by
    unfold TL.numL
    rw [List.length_map]
    rfl
  rw [e]
theorem dg_split {a b : Nat} (ha : 0 < a) (hb : b < 10 ^ 30) : dg (a * 10 ^ 30 + b) = dg a ++ pad30 (b : Int) := TL.ext_tl (by rw [TL.tl_append, tl_dg, tl_dg, pad30_tl, numL_split ha 30 b (by decide) hb])
theorem dg_len {n : Nat} (h : n < 10000000000000000000000000000000000000000) : (dg n).length ≤ 40 := by
  rw [TL.len_tl, tl_dg]
  exact TL.numL_len (by decide) (Nat.lt_of_lt_of_le h (by decide))
/-! ### texts of sums -/
def wd (p : PR) : Str := if p.2.natAbs = 1 then p.1 else dg p.2.natAbs ++ "*" ++ p.1
def sgn (p : PR) : Str := if p.2 < 0 then "-" else "+"
def part (p : PR) : Str := sgn p ++ " " ++ wd p
def tailTx : List PR → Str
  | [] => ""
  | p :: r => " " ++ part p ++ tailTx r
def sumTx : List PR → Str
  | [] => "0"
  | p :: r => (if p.2 < 0 then ("-" : Str) else "") ++ wd p ++ tailTx r
section
variable {p : PR} {ps ts : List PR}
theorem cat_as {a b c : Str} : a ++ b ++ c = a ++ (b ++ c) := str_ext (by simp only [cat_cps, List.append_assoc])
theorem emp_cat {a : Str} : ("" : Str) ++ a = a := str_ext (by rw [cat_cps]; rfl)
theorem cat_emp {a : Str} : a ++ ("" : Str) = a := str_ext (by rw [cat_cps]; exact List.append_nil _)
theorem join_parts : ∀ {ps : List PR} {p : PR}, Txt.join " " ((p :: ps).map part) = part p ++ tailTx ps
  | [], p => by
    rw [TL.join_eq]
    show part p = part p ++ ""
    rw [cat_emp]
  | q :: ps, p => by
    have ih := join_parts (ps := ps) (p := q)
    rw [TL.join_eq] at ih ⊢
    show part p ++ " " ++ Str.join " " ((q :: ps).map part) = part p ++ (" " ++ part q ++ tailTx ps)
    rw [ih, cat_as, cat_as]
def ws (ps : List PR) : List Str := ps.flatMap fun p => [sgn p, wd p]
theorem join_ws : ∀ {ps : List PR} {p : PR}, Txt.join " " (ws (p :: ps)) = part p ++ tailTx ps
  | [], p => by
    rw [TL.join_eq]
    show sgn p ++ " " ++ wd p = part p ++ ""
    rw [cat_emp]
    rfl
  | q :: ps, p => by
    have ih := join_ws (ps := ps) (p := q)
    rw [TL.join_eq] at ih ⊢
    show sgn p ++ " " ++ (wd p ++ " " ++ Str.join " " (ws (q :: ps))) = part p ++ (" " ++ part q ++ tailTx ps)
    rw [ih]
    unfold part
    simp only [cat_as]
theorem len_ws : ∀ {ps : List PR}, (ws ps).length = 2 * ps.length
  | [] => rfl
  | p :: ps => by
    show (ws ps).length + 2 = 2 * (ps.length + 1)
    rw [len_ws]
    omega
theorem at_ws : ∀ {ps : List PR} {i : Nat} {p : PR}, ps[i]? = some p → (ws ps)[2 * i]? = some (sgn p) ∧ (ws ps)[2 * i + 1]? = some (wd p)
  | [], i, p, h => by simp at h
  | q :: ps, 0, p, h => by
    simp only [List.getElem?_cons_zero, Option.some.injEq] at h
    subst h
    exact ⟨rfl, rfl⟩
  | q :: ps, i + 1, p, h => by
    have ih := at_ws (ps := ps) (i := i) (p := p) (by simpa using h)
    exact ih
theorem nm_no' {s : Str} {c : Nat} (h : Nm s) (hc : (isLt c || isDg c) = false) : c ∉ TL.tl s := fun z => by
  have := nm_all h c z
  rw [hc] at this
  cases this
theorem no_cat {a b : Str} {c : Nat} (ha : c ∉ TL.tl a) (hb : c ∉ TL.tl b) : c ∉ TL.tl (a ++ b) := by
  rw [TL.tl_append, List.mem_append]
  exact fun z => z.elim ha hb
theorem dg_no {n c : Nat} (h : c < 48 ∨ 57 < c) : c ∉ TL.tl (dg n) := by
  rw [tl_dg]
  exact TL.numL_free h
theorem wd_no (h : Nm p.1) {c : Nat} (hc : (isLt c || isDg c) = false) (h2 : c < 48 ∨ 57 < c) (h3 : c ≠ 42) : c ∉ TL.tl (wd p) := by
  unfold wd
  split
  · exact nm_no' h hc
  · refine no_cat (no_cat (dg_no h2) ?_) (nm_no' h hc)
    have e : TL.tl ("*" : Str) = [42] := by decide +kernel
    rw [e]
    simpa using h3
theorem sgn_no {c : Nat} (h1 : c ≠ 43) (h2 : c ≠ 45) : c ∉ TL.tl (sgn p) := by
  unfold sgn
  have e1 : TL.tl ("-" : Str) = [45] := by decide +kernel
  have e2 : TL.tl ("+" : Str) = [43] := by decide +kernel
  split
  · rw [e1]; simpa using h2
  · rw [e2]; simpa using h1
theorem ws_no (h : ∀ p ∈ ps, Nm p.1) : ∀ z ∈ ws ps, 32 ∉ TL.tl z := fun z hz => by
  obtain ⟨p, hp, hz⟩ := List.mem_flatMap.mp hz
  simp only [List.mem_cons, List.not_mem_nil, or_false] at hz
  rcases hz with rfl | rfl
  · exact sgn_no (by decide) (by decide)
  · exact wd_no (h p hp) (by decide +kernel) (by decide) (by decide)
theorem split_ws (h : ∀ p ∈ ps, Nm p.1) (hne : ps ≠ []) : Txt.split (Txt.join " " (ws ps)) " " = ws ps := by
  refine TL.split_join (s := 32) (S := []) (by decide +kernel) (by decide +kernel) ?_ (ws_no h)
  cases ps with
  | nil => exact absurd rfl hne
  | cons p r => simp [ws]
theorem wd_len (h : Nm p.1) (hb : p.2.natAbs < 10000000000000000000000000000000000000000) : 1 ≤ (wd p).length ∧ (wd p).length ≤ 49 := by
  have h1 := nm_len h
  unfold wd
  split
  · omega
  · have h2 := dg_len hb
    have e : ("*" : Str).length = 1 := by decide +kernel
    rw [cat_len, cat_len, e]
    omega
theorem sgn_len : (sgn p).length = 1 := by
  unfold sgn
  split <;> decide +kernel
theorem part_len (h : Nm p.1) (hb : p.2.natAbs < 10000000000000000000000000000000000000000) : (part p).length ≤ 51 := by
  have h2 := wd_len h hb
  have e : (" " : Str).length = 1 := by decide +kernel
  unfold part
  rw [cat_len, cat_len, sgn_len, e]
  omega
theorem tail_len : ∀ {ps : List PR}, (∀ p ∈ ps, Nm p.1 ∧ p.2.natAbs < 10000000000000000000000000000000000000000) → (tailTx ps).length ≤ 52 * ps.length
  | [], _ => by decide
  | p :: ps, h => by
    have h1 := part_len (h p (List.mem_cons_self ..)).1 (h p (List.mem_cons_self ..)).2
    have h2 := tail_len (ps := ps) fun q z => h q (List.mem_cons_of_mem _ z)
    have e : (" " : Str).length = 1 := by decide +kernel
    show (" " ++ part p ++ tailTx ps).length ≤ 52 * (ps.length + 1)
    rw [cat_len, cat_len, e]
    omega
theorem sumTx_len (h : TmOk ts) : (sumTx ts).length ≤ 52 * ts.length + 1 := by
  cases ts with
  | nil => decide
  | cons p r =>
    have h1 := wd_len (h.nm p (List.mem_cons_self ..)) (h.bd p (List.mem_cons_self ..))
    have h2 := tail_len (ps := r) fun q z => ⟨h.cons.nm q z, h.cons.bd q z⟩
    have e : (if p.2 < 0 then ("-" : Str) else "").length ≤ 1 := by split <;> decide
    simp only [sumTx, cat_len, List.length_cons]
    omega
/-- the first sign of a word -/
theorem wd_first (h : Nm p.1) (hz : p.2 ≠ 0) : ∃ c l, TL.tl (wd p) = c :: l ∧ (isLt c || isDg c) = true := by
  unfold wd
  split
  · have h1 := nm_len h
    cases e : TL.tl p.1 with
    | nil =>
      rw [TL.len_tl, e] at h1
      simp at h1
    | cons c l => exact ⟨c, l, rfl, nm_all h c (by show c ∈ TL.tl p.1; rw [e]; exact List.mem_cons_self ..)⟩
  · obtain ⟨c, r, e, b1, b2⟩ := numL_head p.2.natAbs (by omega)
    refine ⟨c, r ++ TL.tl ("*" : Str) ++ TL.tl p.1, by rw [TL.tl_append, TL.tl_append, tl_dg, e]; simp, ?_⟩
    have : ∀ c, 49 ≤ c → c ≤ 57 → isDg c = true := by
      intro c h1 h2
      have : c = 49 ∨ c = 50 ∨ c = 51 ∨ c = 52 ∨ c = 53 ∨ c = 54 ∨ c = 55 ∨ c = 56 ∨ c = 57 := by omega
      rcases this with rfl | rfl | rfl | rfl | rfl | rfl | rfl | rfl | rfl <;> decide +kernel
    rw [this c b1 b2, Bool.or_true]
end
end RV
end
section
/-! Sums: draws, merges. -/
namespace RV
open PySem L2
theorem prD_0 {S : WS} {p : PR} : ixD S (prD p) (.int 0) = some (.str p.1) := rfl
theorem prD_1 {S : WS} {p : PR} : ixD S (prD p) (.int 1) = some (.int p.2) := rfl
section
variable {A : Ad} {S T : WS} {k : Nat} {n m : Int} {w : W} {q : D → WS → Prop} {x : Xq} {ps qs ts : List PR}
theorem strs_strsD (ks : List Str) : strsD (ks.map D.str) = some ks := by
  induction ks with
  | nil => rfl
  | cons a l ih => simp only [List.map_cons, strsD, ih, Option.map_some]
theorem clean_pr : ∀ {ps : List PR} {n : Nat}, D.cleanL n (ps.map prD) = true
  | [], _ => rfl
  | p :: ps, n => by
    show (D.clean n (prD p) && D.cleanL n (ps.map prD)) = true
    rw [clean_pr]
    rfl
/-- not too many pairs, not too many names -/
structure Few (ps : List PR) : Prop where
  len : ps.length < 190
  dis : (ascS (ps.map (·.1))).length < 60
theorem few_of (h : ps.length < 60) : Few ps := ⟨by omega, by
  have := len_ascS (ps.map (·.1))
  rw [List.length_map] at this
  omega⟩
end
end RV
end
section
/-! Sums: drawn pairs; the program's merge. -/
namespace RV
open PySem L2
/-- drawn pairs -/
structure PsD (m : Nat) (ps : List PR) : Prop where
  nm : ∀ p ∈ ps, Nm p.1
  len : ps.length ≤ m
  bd : ∀ s, (tot ps s).natAbs ≤ ps.length * 1000000000000000000000000000000
  nb : ∀ p ∈ ps, p.2.natAbs ≤ ps.length * 1000000000000000000000000000000
section
variable {A : Ad} {S T : WS} {k : Nat} {n m : Int} {w : W} {q : D → WS → Prop} {x : Xq} {ps qs ts : List PR}
theorem PsD.ok {m : Nat} (h : PsD m ps) (hm : m ≤ 100) : PsOk m ps := ⟨h.nm, h.len, fun s => by
  have := h.bd s
  have := h.len
  have e : ps.length * 1000000000000000000000000000000 ≤ 100 * 1000000000000000000000000000000 := Nat.mul_le_mul_right _ (by omega)
  omega⟩
theorem PsD.mono {m m' : Nat} (h : PsD m ps) (e : m ≤ m') : PsD m' ps := ⟨h.nm, Nat.le_trans h.len e, h.bd, h.nb⟩
theorem PsD.snoc {m : Nat} (h : PsD m ps) {s : Str} {i : Int} (hs : Nm s) (hi : i.natAbs < 1000000000000000000000000000000 ∨ i = 0 - tot ps s) : PsD (m + 1) (ps ++ [(s, i)]) := by
  have hl := h.len
  have hB : i.natAbs ≤ (ps.length + 1) * 1000000000000000000000000000000 := by
    rcases hi with z | z
    · omega
    · have := h.bd s
      omega
  refine ⟨fun p hp => ?_, by simp; omega, fun t => ?_, fun p hp => ?_⟩
  · rcases List.mem_append.mp hp with z | z
    · exact h.nm p z
    · rw [List.mem_singleton.mp z]
      exact hs
  · rw [tot_app, tot_one, List.length_append, List.length_singleton]
    have h1 := h.bd t
    by_cases e : s = t
    · subst e
      rw [if_pos rfl]
      rcases hi with z | z <;> omega
    · rw [if_neg e]
      omega
  · rw [List.length_append, List.length_singleton]
    rcases List.mem_append.mp hp with z | z
    · exact Nat.le_trans (h.nb p z) (Nat.mul_le_mul_right _ (Nat.le_succ _))
    · have e := List.mem_singleton.mp z
      subst e
      exact hB
structure NmL (ts : List Str) : Prop where
  nm : ∀ t ∈ ts, Nm t
theorem NmL.snoc {ts : List Str} {s : Str} (h : NmL ts) (hs : Nm s) : NmL (ts ++ [s]) := ⟨fun t ht => by
  rcases List.mem_append.mp ht with z | z
  · exact h.nm t z
  · rw [List.mem_singleton.mp z]
    exact hs⟩
/-! ### the program's merge -/
theorem dic_app {kvs : List (Key × D)} : dicAt (S ++ [.dic kvs]) (.cell S.length) = some kvs := by simp [dicAt]
theorem dput_app {kvs : List (Key × D)} {s : Str} {i : Int} (h : small kvs.length = true) : dputD (.cell S.length) (.str s) (.int i) (S ++ [.dic kvs]) = some (S ++ [.dic (putKD kvs (Sum.inr s) (.int i))]) := by
  unfold dputD
  simp [h, D.clean, keyOfD]
theorem dk_len {ks : List Str} {f : Str → Int} : (dk ks f).length = ks.length := by simp [dk]
theorem get_dk {ks : List Str} {f : Str → Int} {s : Str} (h : s ∉ ks → f s = 0) : (valD (dk ks f) (Sum.inr s)).getD (.int 0) = .int (f s) := by
  rw [val_dk]
  split
  · rfl
  · rename_i e
    rw [h e]
    rfl
theorem dget_app {ks : List Str} {f : Str → Int} {s : Str} (h : s ∈ ks) : dgetD (S ++ [.dic (dk ks f)]) (.cell S.length) (.str s) = some (.int (f s)) := by
  simp only [dgetD, dic_app, Option.bind_some, keyOfD, val_dk, h, if_true]
structure KsOk (done : List PR) (ks : List Str) : Prop where
  nd : ks.Nodup
  mem : ∀ s, s ∈ ks ↔ s ∈ done.map (·.1)
  len : ks.length ≤ done.length
theorem KsOk.zero {done : List PR} {ks : List Str} (h : KsOk done ks) {s : Str} (hs : s ∉ ks) : tot done s = 0 := tot_none fun z => hs ((h.mem s).2 z)
theorem setF_tot {done : List PR} {s : Str} {i : Int} : setF (tot done) s (tot done s + i) = tot (done ++ [(s, i)]) := by
  funext t
  unfold setF
  rw [tot_app, tot_one]
  by_cases e : t = s
  · subst e
    simp
  · have e' : ¬ s = t := fun z => e z.symm
    simp [e, e']
theorem KsOk.step {done : List PR} {ks : List Str} (h : KsOk done ks) (s : Str) (i : Int) : ∃ ks', KsOk (done ++ [(s, i)]) ks' ∧ putKD (dk ks (tot done)) (Sum.inr s) (.int (tot done s + i)) = dk ks' (tot (done ++ [(s, i)])) := by
  by_cases e : s ∈ ks
  · refine ⟨ks, ⟨h.nd, fun t => ?_, by have := h.len; simp; omega⟩, by rw [put_dk e, setF_tot]⟩
    rw [h.mem t]
    simp only [List.map_append, List.mem_append, List.map_cons, List.map_nil, List.mem_singleton]
    exact ⟨.inl, fun z => z.elim id fun z => z ▸ (h.mem s).1 e⟩
  · refine ⟨ks ++ [s], ⟨?_, fun t => ?_, by have := h.len; simp; omega⟩, by rw [put_dk' e, setF_tot]⟩
    · rw [List.nodup_append]
      exact ⟨h.nd, by simp, fun a ha b hb z => by rw [List.mem_singleton] at hb; subst hb; exact e (z ▸ ha)⟩
    · simp only [List.map_append, List.mem_append, List.map_cons, List.map_nil, List.mem_singleton, h.mem t]
theorem merge_go {N : WS → Prop} (hN : ∀ kvs, N (S ++ [.dic kvs])) {d0 : D} : ∀ (ps done : List PR) (ks : List Str) (o2 o3 : Option D) (kt : Kt), KsOk done ks → done.length + ps.length < 200 →
    (∀ ks' o2 o3, KsOk (done ++ ps) ks' → kt.nx [some d0, some (.cell S.length), o2, o3] (S ++ [.dic (dk ks' (tot (done ++ ps)))])) →
    forD N (tTupD 2 (tsCons (tName 2) (tsCons (tName 3) (tsNil)))) (sDputD (eVar 1) (eVar 2) (eOp addD (eDget2 (eVar 1) (eVar 2) (eC (.int 0))) (eVar 3))) (ps.map prD) [some d0, some (.cell S.length), o2, o3] (S ++ [.dic (dk ks (tot done))]) kt := fun ps => by
  induction ps with
  | nil =>
    intro done ks o2 o3 kt h hl hq
    rw [List.append_nil] at hq
    exact ⟨hN _, hq ks o2 o3 h⟩
  | cons p ps ih =>
    intro done ks o2 o3 kt h hl hq
    obtain ⟨s, i⟩ := p
    simp only [List.length_cons] at hl
    have hsm : small (dk ks (tot done)).length = true := small_of (by rw [dk_len]; have := h.len; omega)
    rw [List.map_cons, for_cons]
    refine ⟨hN _, ?_⟩
    obtain ⟨ks', h', e⟩ := h.step s i
    unfold prD
    simp? [dic_app, Option.isSome_some, get_dk (ks := ks) (f := tot done) (s := s) h.zero, dput_app hsm, e]
    have ih' := ih (done ++ [(s, i)]) ks' (some (.str s)) (some (.int i)) kt h' (by simp; omega) (by simpa using hq)
    exact ih'
theorem KsOk.few {ks : List Str} (h : KsOk ps ks) (f : Few ps) : ks.length < 60 := by
  rw [((List.perm_ext_iff_of_nodup h.nd (asc_nd (asc_ascS (ps.map (·.1))))).mpr fun k => (h.mem k).trans mem_ascS.symm).length_eq]
  exact f.dis
theorem merge_tail {ks : List Str} {d0 : D} {o3 o2 : Option D} {q' : D → WS → Prop} {x' : Xq} (h : KsOk ps ks) (hF : Few ps) (hq : q' (.ptu ((mrg ps).map prD)) (S ++ [.dic (dk ks (tot ps))])) :
    (eCall tuplePD (aCons (eLc .still (iSeq (eCall sortDicD (aCons (eVar 1) (aNil)))) (tName 2) (bBl (eOp neD (eOp dgetD (eVar 1) (eVar 2)) (eC (.int 0)))) (eSeq .tup (aCons (eVar 2) (aCons (eOp dgetD (eVar 1) (eVar 2)) (aNil)))) [2]) (aNil))) [some d0, some (.cell S.length), o2, o3] (S ++ [.dic (dk ks (tot ps))]) q' x' := by
  have hk := h.few hF
  have hs : sortDicD (S ++ [.dic (dk ks (tot ps))]) [.cell S.length] = some (.lst ((ascS ks).map D.str)) := by
    simp only [sortDicD, dic_app, Option.bind_some, keys_dk]
    rw [if_pos ⟨by omega, h.nd⟩]
  have hsm : small ((ascS ks).map D.str).length = true := small_of (by rw [List.length_map]; have := len_ascS ks; omega)
  have ea : ascS ks = ascS (ps.map (·.1)) := asc_one (asc_ascS _) (asc_ascS _) fun t => by rw [mem_ascS, mem_ascS, h.mem]
  simp? [hs, hsm]
  rw [lc_eq (p := fun s : Str => decide (tot ps s ≠ 0)) (g := fun s : Str => prD (s, tot ps s)) _ [] trivial (fun s hs => ?_)]
  · have e : (List.filter (fun s => decide (tot ps s ≠ 0)) (ascS ks)).map (fun s => prD (s, tot ps s)) = (mrg ps).map prD := by
      unfold mrg nz
      rw [ea, List.map_map]
      rfl
    rw [List.nil_append, e]
    simp? []
    have et : tuplePD (S ++ [.dic (dk ks (tot ps))]) [.lst ((mrg ps).map prD)] = some (.ptu ((mrg ps).map prD)) := rfl
    simp? [et]
    exact hq
  · have hm : s ∈ ks := mem_ascS.mp hs
    refine ⟨_, rfl, fun q x => ?_, fun _ q x => ?_⟩
    · simp? [dget_app hm]
      simp
    · simp? [dget_app hm]
      rfl
theorem fin_tup {c : Cell} : fin S.length (.ptu (ps.map prD)) (S ++ [c]) q = q (.ptu (ps.map prD)) S := fin_app (by unfold D.clean; exact clean_pr) (fun i h => nomatch h)
theorem mergedT_W (hF : Few ps) (hq : q (.ptu ((mrg ps).map prD)) S) : G_merged_t A [.tup (ps.map prD)] S q x := by
  have hl := hF.len
  rw [D_merged_t]
  unfold fnD startE
  simp only [List.map_cons, List.map_nil, List.length_cons, List.length_nil, Nat.reduceAdd, Nat.reduceSub, List.replicate, List.cons_append, List.nil_append, List.append_nil, Nat.zero_add]
  unfold B_merged_t
  refine seq_gen fun N_ hN_ => ?_
  simp? []
  subst hN_
  refine seq_gen fun N_ hN_ => ?_
  unfold L_merged_t_0
  simp? []
  have h0 := merge_go (S := S) (N := any_) (fun _ => trivial) (d0 := .tup (ps.map prD)) ps [] [] none none ⟨N_, fun d S' => fin S.length d S' q, fun _ _ => False, fun _ _ => False, fun e _ S' => finX S.length e S' x⟩ ⟨by simp, by simp, by simp⟩ (by simp; omega) fun ks o2 o3 h => ?_
  · exact h0
  · dsimp only
    subst hN_
    unfold K_merged_t_0 C_merged_t_0 sRet
    refine merge_tail h hF ?_
    dsimp only [List.nil_append]
    rw [fin_tup]
    exact hq
theorem mergedI_ok {j : D} (hj : itemsD S j = some (ps.map prD)) (hc : j = .lst (ps.map prD) ∨ ∃ i, j = .cell i ∧ S[i]? = some (.lst (ps.map prD))) (hl : ps.length < 60) (hq : q (.ptu ((mrg ps).map prD)) S) : G_merged_l A [j] S q x := by
  rw [D_merged_l]
  unfold fnD startE
  simp only [List.map_cons, List.map_nil, List.length_cons, List.length_nil, Nat.reduceAdd, Nat.reduceSub, List.replicate, List.cons_append, List.nil_append, List.append_nil, Nat.zero_add]
  unfold B_merged_l
  refine seq_gen fun N_ hN_ => ?_
  simp? []
  subst hN_
  refine seq_gen fun N_ hN_ => ?_
  unfold L_merged_l_0
  have fin_ : ∀ (N : WS → Prop), (∀ kvs, N (S ++ [.dic kvs])) → forD N (tTupD 2 (tsCons (tName 2) (tsCons (tName 3) (tsNil)))) (sDputD (eVar 1) (eVar 2) (eOp addD (eDget2 (eVar 1) (eVar 2) (eC (.int 0))) (eVar 3))) (ps.map prD) [some j, some (.cell S.length), none, none] (S ++ [.dic []]) ⟨N_, fun d S' => fin S.length d S' q, fun _ _ => False, fun _ _ => False, fun e _ S' => finX S.length e S' x⟩ := fun N hN => by
    have h0 := merge_go (S := S) (N := N) hN (d0 := j) ps [] [] none none ⟨N_, fun d S' => fin S.length d S' q, fun _ _ => False, fun _ _ => False, fun e _ S' => finX S.length e S' x⟩ ⟨by simp, by simp, by simp⟩ (by simp; omega) fun ks o2 o3 h => ?_
    · exact h0
    · dsimp only
      subst hN_
      unfold K_merged_l_0 C_merged_l_0 sRet
      refine merge_tail h (few_of hl) ?_
      dsimp only [List.nil_append]
      rw [fin_tup]
      exact hq
  rcases hc with rfl | ⟨i, rfl, hi⟩
  · simp? []
    exact fin_ any_ fun _ => trivial
  · have hlt : i < S.length := (List.getElem?_eq_some_iff.mp hi).1
    have ha : ∀ c : Cell, (S ++ [c])[i]? = some (.lst (ps.map prD)) := fun c => by rw [List.getElem?_append_left hlt]; exact hi
    simp? [ha]
    exact fin_ _ fun kvs => ha _
end
end RV
end
section
/-! Sums: made; their texts. -/
namespace RV
open PySem L2
theorem seq_ift {mc : RV.Env → MB} {m1 m2 m3 : RV.Env → MS} {ρ : RV.Env} {S : WS} {k : Kt} (h : ∀ q x, mc ρ S q x = q true S) : sSeq (sIf mc m1 m2) m3 ρ S k = sSeq m1 m3 ρ S k := by
  unfold sSeq sIf
  rw [h]
  rfl
theorem seq_iff {mc : RV.Env → MB} {m1 m2 m3 : RV.Env → MS} {ρ : RV.Env} {S : WS} {k : Kt} (h : ∀ q x, mc ρ S q x = q false S) : sSeq (sIf mc m1 m2) m3 ρ S k = sSeq m2 m3 ρ S k := by
  unfold sSeq sIf
  rw [h]
  rfl
theorem seq_ret {ea : RV.Env → M} {m3 : RV.Env → MS} {ρ : RV.Env} {S : WS} {k : Kt} : sSeq (sRet ea) m3 ρ S k = sRet ea ρ S k := rfl
theorem seq_nil {m3 : RV.Env → MS} {ρ : RV.Env} {S : WS} {k : Kt} : sSeq sNil m3 ρ S k = m3 ρ S k := rfl
def sumV (A : Ad) (ts : List PR) : D := .obj (A.c "Sum") [("kept", .ptu (ts.map prD))]
section
variable {A : Ad} {S T : WS} {q : D → WS → Prop} {x : Xq} {ps qs ts : List PR} {p : PR} {s : Str} {i : Int}
theorem isi_int : isiD (own A) (tab A) S [.int i, .ty "int"] = some (.bl true) := by
  rw [isi_of (t := .type "int") (u := .type "int") rfl rfl (by simp [kinds]) (by simp [clss])]
  simp [sub]
theorem isi_intB : isiD (own A) (tab A) S [.int i, .ty "bool"] = some (.bl false) := by
  rw [isi_of (t := .type "int") (u := .type "bool") rfl rfl (by simp [kinds]) (by simp [clss])]
  simp [sub]
theorem isInt_ok : G_is_integer A [.int i] S q x = q (.bl true) S := by
  rw [D_is_integer]
  unfold fnD startE
  simp only [List.map_cons, List.map_nil, List.length_cons, List.length_nil, Nat.reduceAdd, Nat.reduceSub, List.replicate, List.cons_append, List.nil_append, List.append_nil, Nat.zero_add]
  unfold B_is_integer
  simp? [isi_int, isi_intB]
theorem isNm_ok (h : Nm s) : G_is_name A [.str s] S q x = q (.bl true) S := by
  have e : nmB s = true := h
  rw [isName_eq (nm_small h), e]
theorem len_pr : lenD S [prD p] = some (.int 2) := rfl
theorem isi_pr : isiD (own A) (tab A) S [prD p, .ty "tuple"] = some (.bl true) := isi_tup
theorem d22 : decide ((2 : Int) = 2) = true := rfl
theorem terms_go : ∀ (ps : List PR) (j : Nat) (d0 : D) (o1 o2 : Option D) (kt : Kt), (∀ p ∈ ps, Nm p.1) → (∀ o1 o2, kt.nx [some d0, o1, o2] S) →
    forD any_ (tTupD 2 (tsCons (tName 1) (tsCons (tName 2) (tsNil)))) (L_check_terms_0 A) (enumL j (ps.map prD)) [some d0, o1, o2] S kt := fun ps => by
  induction ps with
  | nil =>
    intro j d0 o1 o2 kt h hq
    exact ⟨trivial, hq _ _⟩
  | cons p ps ih =>
    intro j d0 o1 o2 kt h hq
    have hp := h p (List.mem_cons_self ..)
    rw [List.map_cons]
    unfold enumL
    rw [for_cons]
    unfold L_check_terms_0
    simp? [isi_pr, len_pr, d22, prD_0, prD_1, isNm_ok hp, isInt_ok]
    exact ih _ _ _ _ kt (fun q hq => h q (List.mem_cons_of_mem _ hq)) hq
theorem terms_ok (h : ∀ p ∈ ps, Nm p.1) (hq : q .non S) : G_check_terms A [.tup (ps.map prD)] S q x := by
  rw [D_check_terms]
  unfold fnD startE
  simp only [List.map_cons, List.map_nil, List.length_cons, List.length_nil, Nat.reduceAdd, Nat.reduceSub, List.replicate, List.cons_append, List.nil_append, List.append_nil, Nat.zero_add]
  unfold B_check_terms
  refine seq_gen fun N_ hN_ => ?_
  simp? [isi_tup]
  subst hN_
  simp? []
  refine terms_go ps 0 _ _ _ _ h fun o1 o2 => ?_
  simp? []
  exact hq
theorem sum_madeW (h : ∀ p ∈ ps, Nm p.1) (hF : Few ps) (hq : q (sumV A (mrg ps)) S) : makeD .still (A.c "Sum") 2 (G_Sum_init A) [.tup (ps.map prD)] S q x := by
  unfold makeD
  refine ⟨rfl, ?_⟩
  rw [D_Sum_init]
  unfold fnD startE
  simp only [List.map_cons, List.map_nil, List.length_cons, List.length_nil, Nat.reduceAdd, Nat.reduceSub, List.replicate, List.cons_append, List.nil_append, List.append_nil, Nat.zero_add]
  unfold B_Sum_init
  refine seq_gen fun N_ hN_ => ?_
  simp? []
  refine terms_ok h ?_
  simp? []
  subst hN_
  simp? []
  refine mergedT_W hF ?_
  have cl : D.clean 0 (.ptu ((mrg ps).map prD)) = true := by unfold D.clean; exact clean_pr
  simp? [app_at0, app_set0, cl, putD, fin_appS, take_app, Nat.lt_irrefl, show (0 : Nat) < 1000 from by decide]
  exact hq
theorem sum_made (h : ∀ p ∈ ps, Nm p.1) (hl : ps.length < 60) (hq : q (sumV A (mrg ps)) S) : makeD .still (A.c "Sum") 2 (G_Sum_init A) [.tup (ps.map prD)] S q x := sum_madeW h (few_of hl) hq
theorem kept_s {d : D} : List.lookup ("kept" : Str) [(("kept" : Str), d)] = some d := by simp [List.lookup]
theorem fld_sum : fldD (A.c "Sum") "kept" S (sumV A ts) = some (.ptu (ts.map prD)) := by simp only [fldD, sumV, if_true, kept_s]
theorem ob_sum : isOb (A.c "Sum") S (sumV A ts) = True := by simp [isOb, sumV]
theorem len_tup {ds : List D} : lenD S [.tup ds] = some (.int (ds.length : Nat)) := rfl
/-! ### texts -/
theorem strF_nat {n : Nat} (h : n < 1000000000000000000000000000000000000000000000000000000000000) : strFD S [.int (n : Int)] = some (.str (dg n)) := by
  have : ((n : Int)).natAbs.log2 < 1920 := by
    by_cases z : n = 0
    · subst z; decide
    · refine Nat.lt_of_lt_of_le ((Nat.log2_lt (by simpa using z)).2 (Nat.lt_of_lt_of_le (m := 1000000000000000000000000000000000000000000000000000000000000) (by simpa using h) (by decide : (1000000000000000000000000000000000000000000000000000000000000 : Nat) ≤ 2 ^ 200))) (by decide)
  simp only [strFD, this, if_true]
  rfl
theorem emp_l : Str.empty.length = 0 := rfl
theorem emp_c {a : Str} : Str.empty ++ a = a := str_ext (by rw [cat_cps]; rfl)
theorem fmt_s {a : Str} (h : small a.length = true) : fmtD S (.str a) = some (.str a) := by simp only [fmtD, h, if_true]
theorem dig1_ok {n : Nat} (h : n < 1000000000000000000000000000000) : G_digits_of_r1 A [.int (n : Int)] S q x = q (.str (dg n)) S := by
  have h1 : decide ((n : Int) < 1000000000000000000000000000000) = true := decide_eq_true (by omega)
  have h2 : strFD S [.int (n : Int)] = some (.str (dg n)) := strF_nat (by omega)
  rw [D_digits_of_r1]
  unfold fnD startE
  simp only [List.map_cons, List.map_nil, List.length_cons, List.length_nil, Nat.reduceAdd, Nat.reduceSub, List.replicate, List.cons_append, List.nil_append, List.append_nil, Nat.zero_add]
  unfold B_digits_of_r1
  rw [seq_ift (fun q x => by simp? [h1]), seq_ret]
  simp? [h2]
theorem pad30_len {n : Nat} (h : n < 1000000000000000000000000000000) : (pad30 (n : Int)).length = 30 := by
  rw [TL.len_tl, pad30_tl]
  unfold padL
  have := TL.numL_len (n := n) (k := 30) (by decide) (Nat.lt_of_lt_of_le h (by decide))
  rw [List.length_append, List.length_replicate]
  omega
theorem dig_ok {n : Nat} (h : n < 10000000000000000000000000000000000000000) : G_digits_of_r0 A [.int (n : Int)] S q x = q (.str (dg n)) S := by
  rw [D_digits_of_r0]
  unfold fnD startE
  simp only [List.map_cons, List.map_nil, List.length_cons, List.length_nil, Nat.reduceAdd, Nat.reduceSub, List.replicate, List.cons_append, List.nil_append, List.append_nil, Nat.zero_add]
  unfold B_digits_of_r0
  by_cases hn : n < 1000000000000000000000000000000
  · have h1 : decide ((n : Int) < 1000000000000000000000000000000) = true := decide_eq_true (by omega)
    have h2 : strFD S [.int (n : Int)] = some (.str (dg n)) := strF_nat (by omega)
    rw [seq_ift (fun q x => by simp? [h1]), seq_ret]
    simp? [h2]
  · have h1 : decide ((n : Int) < 1000000000000000000000000000000) = false := decide_eq_false (by omega)
    have e1 : ((n : Int) / 1000000000000000000000000000000) = ((n / 1000000000000000000000000000000 : Nat) : Int) := by omega
    have e2 : ((n : Int) % 1000000000000000000000000000000) = ((n % 1000000000000000000000000000000 : Nat) : Int) := by omega
    have ha : 0 < n / 1000000000000000000000000000000 := by omega
    have hb : n % 1000000000000000000000000000000 < 1000000000000000000000000000000 := Nat.mod_lt _ (by decide)
    have hs : dg n = dg (n / 1000000000000000000000000000000) ++ pad30 ((n % 1000000000000000000000000000000 : Nat) : Int) := by
      have e3 := dg_split ha (b := n % 1000000000000000000000000000000) (Nat.lt_of_lt_of_le hb (by decide))
      have e4 : n / 1000000000000000000000000000000 * 10 ^ 30 + n % 1000000000000000000000000000000 = n := Nat.div_add_mod' n 1000000000000000000000000000000
      rw [e4] at e3
      exact e3
    have hf : fmt30D S (.int ((n % 1000000000000000000000000000000 : Nat) : Int)) = some (.str (pad30 ((n % 1000000000000000000000000000000 : Nat) : Int))) := by
      simp only [fmt30D]
      rw [if_pos ⟨by omega, by omega⟩]
    have hl1 := dg_len (n := n / 1000000000000000000000000000000) (by omega)
    have hl2 := pad30_len hb
    have s1 : small (dg (n / 1000000000000000000000000000000)).length = true := small_of (by omega)
    have s2 : small (Str.empty.length + (dg (n / 1000000000000000000000000000000)).length) = true := small_of (by rw [emp_l]; omega)
    have s3 : small ((Str.empty ++ dg (n / 1000000000000000000000000000000)).length + (pad30 ((n % 1000000000000000000000000000000 : Nat) : Int)).length) = true := small_of (by rw [cat_len, emp_l]; omega)
    have dv : fdivWD S (.int (n : Int)) (.int 1000000000000000000000000000000) = some (.int ((n / 1000000000000000000000000000000 : Nat) : Int)) := by
      rw [fdivWD_int (i := (n : Int)) (decide_eq_true ⟨by decide, by decide⟩), e1]
    have md : modD S (.int (n : Int)) (.int 1000000000000000000000000000000) = some (.int ((n % 1000000000000000000000000000000 : Nat) : Int)) := by
      rw [modD_int (by decide), e2]
    rw [seq_iff (fun q x => by simp? [h1]), seq_nil]
    simp? [dv, md, dig1_ok (A := A) (S := S) (n := n / 1000000000000000000000000000000) (by omega), fmt_s s1, s2, hf, s3]
    rw [emp_c, ← hs]
theorem abs_nat : (if i < 0 then -i else i) = ((i.natAbs : Nat) : Int) := by split <;> omega
theorem star_len : ("*" : Str).length = 1 := by decide +kernel
theorem tmTx_ok (h : Nm p.1) (hb : p.2.natAbs < 10000000000000000000000000000000000000000) : G_term_text A [.str p.1, .int ((p.2.natAbs : Nat) : Int)] S q x = q (.str (wd p)) S := by
  have hl := dg_len hb
  have hn := (nm_len h).2
  have s1 : small (dg p.2.natAbs).length = true := small_of (by omega)
  have s2 : small (Str.empty.length + (dg p.2.natAbs).length) = true := small_of (by rw [emp_l]; omega)
  have s3 : small ((Str.empty ++ dg p.2.natAbs).length + ("*" : Str).length) = true := small_of (by rw [cat_len, emp_l, star_len]; omega)
  have s4 : small ((Str.empty ++ dg p.2.natAbs ++ "*").length + p.1.length) = true := small_of (by rw [cat_len, cat_len, emp_l, star_len]; omega)
  rw [D_term_text]
  unfold fnD startE
  simp only [List.map_cons, List.map_nil, List.length_cons, List.length_nil, Nat.reduceAdd, Nat.reduceSub, List.replicate, List.cons_append, List.nil_append, List.append_nil, Nat.zero_add]
  unfold B_term_text
  unfold wd
  by_cases e : p.2.natAbs = 1
  · simp? [show decide (((p.2.natAbs : Nat) : Int) = 1) = true from decide_eq_true (by omega)]
    rw [if_pos e]
  · simp? [show decide (((p.2.natAbs : Nat) : Int) = 1) = false from decide_eq_false (by omega), dig_ok (A := A) (S := S) hb, fmt_s s1, fmt_s (nm_small h), s2, s3, s4]
    rw [if_neg e, emp_c]
theorem part_run (h : Nm p.1) (hb : p.2.natAbs < 10000000000000000000000000000000000000000) {ρ : RV.Env} (h3 : look ρ 3 = some (.str p.1)) (h4 : look ρ 4 = some (.int p.2)) : C_text_of_0 A ρ S q x = q (.str (part p)) S := by
  have hw := wd_len h hb
  have hs := sgn_len (p := p)
  have e1 : (" " : Str).length = 1 := by decide +kernel
  have s0 : small (sgn p).length = true := small_of (by omega)
  have s1 : small (Str.empty.length + (sgn p).length) = true := small_of (by rw [emp_l]; omega)
  have s2 : small ((Str.empty ++ sgn p).length + (" " : Str).length) = true := small_of (by rw [cat_len, emp_l, e1]; omega)
  have s3 : small ((Str.empty ++ sgn p ++ " ").length + (wd p).length) = true := small_of (by rw [cat_len, cat_len, emp_l, e1]; omega)
  have s4 : small (wd p).length = true := small_of (by omega)
  unfold C_text_of_0
  by_cases e : p.2 < 0
  · have es : sgn p = "-" := by unfold sgn; rw [if_pos e]
    rw [es] at s0 s1 s2 s3
    simp? [h3, h4, decide_eq_true e, fmt_s s0, s1, s2, abs_nat, tmTx_ok (A := A) (S := S) h hb, fmt_s s4, s3]
    unfold part
    rw [es, emp_c]
  · have es : sgn p = "+" := by unfold sgn; rw [if_neg e]
    rw [es] at s0 s1 s2 s3
    simp? [h3, h4, decide_eq_false e, fmt_s s0, s1, s2, abs_nat, tmTx_ok (A := A) (S := S) h hb, fmt_s s4, s3]
    unfold part
    rw [es, emp_c]
theorem slD_str {S : WS} {z : Str} {a b : Option Int} (h : small z.length = true) : slD S (.str z) a b = some (.str (L2.cutS z a b)) := by simp only [slD, h, if_true]
theorem cut_from {z : Str} {m : Nat} : (L2.cutS z (some (m : Int)) none).cps.toList = z.cps.toList.drop m := by
  unfold L2.cutS
  rw [HT.sIx_none, HT.sIx_nat]
  simp only [len_cps]
  rw [List.take_of_length_le (by simp), List.drop_eq_drop_iff]
  simp
theorem cut_part {t : Str} : L2.cutS (part p ++ t) (some (2 : Int)) none = wd p ++ t := by
  refine str_ext ?_
  rw [show (2 : Int) = ((2 : Nat) : Int) from rfl, cut_from]
  have e : (sgn p).cps.toList.length = 1 := by rw [← len_cps]; exact sgn_len
  unfold part
  simp only [cat_cps, List.append_assoc]
  match h : (sgn p).cps.toList, e with
  | [c], _ => rfl
theorem sum_len_le {xs : List Str} {b : Nat} (h : ∀ s ∈ xs, s.length ≤ b) : (xs.map (·.length)).sum ≤ b * xs.length := by
  induction xs with
  | nil => simp
  | cons a l ih =>
    have h1 := h a (List.mem_cons_self ..)
    have h2 := ih fun s z => h s (List.mem_cons_of_mem _ z)
    simp only [List.map_cons, List.sum_cons, List.length_cons, Nat.mul_succ]
    omega
theorem joinP {xs : List Str} (h : ∀ s ∈ xs, s.length ≤ 60) (hl : xs.length ≤ 100) : joinD S (.str " ") (.lst (xs.map D.str)) = some (.str (Txt.join " " xs)) := by
  have h1 := sum_len_le h
  have e1 : (" " : Str).length = 1 := by decide +kernel
  simp only [joinD, onStr, itemsD, Option.bind_some, strs_strsD]
  rw [if_pos (by rw [e1]; omega)]
theorem tx_of (h : TmOk ts) (hl : ts.length < 60) : G_text_of A [.tup (ts.map prD)] S q x = q (.str (sumTx ts)) S := by
  rw [D_text_of]
  unfold fnD startE
  simp only [List.map_cons, List.map_nil, List.length_cons, List.length_nil, Nat.reduceAdd, Nat.reduceSub, List.replicate, List.cons_append, List.nil_append, List.append_nil, Nat.zero_add]
  unfold B_text_of
  cases ts with
  | nil =>
    simp? [len_tup, List.map_nil, show decide (((0 : Nat) : Int) = 0) = true from rfl]
    rfl
  | cons p r =>
    have hp := h.nm p (List.mem_cons_self ..)
    have hb := h.bd p (List.mem_cons_self ..)
    have e0 : decide (((r.length + 1 : Nat) : Int) = 0) = false := decide_eq_false (by omega)
    have hsm : small (((p :: r).map prD)).length = true := small_of (by rw [List.length_map]; simp at hl ⊢; omega)
    have lc : ∀ (qq : List D → WS → Prop), lcD any_ (tTupD 2 (tsCons (tName 3) (tsCons (tName 4) (tsNil)))) bYes (C_text_of_0 A) [some (.tup ((p :: r).map prD)), none, none, none, none] ((p :: r).map prD) [] S qq = qq ((p :: r).map fun p => D.str (part p)) S := fun qq => by
      refine lc_mapEq _ trivial fun p' hp' => ⟨_, rfl, fun q x => ?_⟩
      exact part_run (h.nm p' hp') (h.bd p' hp') rfl rfl
    have em : ((p :: r).map fun p => D.str (part p)) = ((p :: r).map part).map D.str := by simp [Function.comp_def]
    have hj : joinD S (.str " ") (.lst (((p :: r).map part).map D.str)) = some (.str (part p ++ tailTx r)) := by
      rw [joinP (fun s hs => ?_) (by rw [List.length_map]; simp at hl ⊢; omega), join_parts]
      obtain ⟨p', hp', rfl⟩ := List.mem_map.mp hs
      have := part_len (h.nm p' hp') (h.bd p' hp')
      omega
    have hw := wd_len hp hb
    have ht := tail_len (ps := r) fun q z => ⟨h.cons.nm q z, h.cons.bd q z⟩
    have hpl := part_len hp hb
    simp only [List.length_cons] at hl
    have s1 : small (part p ++ tailTx r).length = true := small_of (by rw [cat_len]; omega)
    have hc : slD S (.str (part p ++ tailTx r)) (some 2) none = some (.str (wd p ++ tailTx r)) := by rw [slD_str s1, cut_part]
    have i0 : ixD S (.tup ((p :: r).map prD)) (.int 0) = some (prD p) := by
      simp only [ixD, List.map_cons, atI_cons]
    have s2 : small (wd p ++ tailTx r).length = true := small_of (by rw [cat_len]; omega)
    have e1 : ("-" : Str).length = 1 := by decide +kernel
    have s3 : small (Str.empty.length + ("-" : Str).length) = true := by rw [e1]; rfl
    have s4 : small ((Str.empty ++ ("-" : Str)).length + (wd p ++ tailTx r).length) = true := small_of (by rw [cat_len, cat_len, emp_l, e1]; omega)
    rw [seq_iff (fun q x => by simp? [len_tup, List.length_map, e0]), seq_nil]
    simp? [hsm]
    rw [lc, em]
    simp? [hj, i0, prD_1]
    unfold sumTx
    by_cases e : p.2 < 0
    · simp? [decide_eq_true e, hc, fmt_s s2, s3, s4, if_pos e]
      rw [emp_c, cat_as]
    · simp? [decide_eq_false e, hc, if_neg e]
      rw [emp_cat]
end
end RV
end
section
/-! What texts of rules name, where a law has no net. -/
namespace RV
open PySem L2
abbrev LR := Str × Str × Str
abbrev FR := Str × Str × Bool
abbrev PRow := Str × Nat × Nat
abbrev GRow := Str × Nat × Bool
theorem lc_imp {α : Type} {N : WS → Prop} {f : D → RV.Env → Option RV.Env} {mc : RV.Env → MB} {me : RV.Env → M} {ρ : RV.Env} {S : WS} {inj : α → D} {p : α → Bool} {g : α → D} {q : List D → WS → Prop} : ∀ (xs : List α) (acc : List D), N S → (∀ a ∈ xs, ∃ ρ1, f (inj a) ρ = some ρ1 ∧ (∀ (q : Bool → WS → Prop) x, q (p a) S → mc ρ1 S q x) ∧ (p a = true → ∀ (q : D → WS → Prop) x, q (g a) S → me ρ1 S q x)) →
    q (acc ++ (xs.filter p).map g) S → lcD N f mc me ρ (xs.map inj) acc S q
  | [], acc, hN, _, h => ⟨hN, by simpa using h⟩
  | a :: xs, acc, hN, hs, h => by
    obtain ⟨ρ1, h1, h2, h3⟩ := hs a (List.mem_cons_self ..)
    have ih := fun acc h => lc_imp (q := q) xs acc hN (fun b hb => hs b (List.mem_cons_of_mem _ hb)) h
    rw [List.map_cons]
    unfold lcD
    rw [h1, onS_some]
    refine ⟨hN, h2 _ _ ?_⟩
    cases hp : p a with
    | true =>
      rw [iteB_t]
      refine h3 hp _ _ (ih _ ?_)
      rw [List.filter_cons_of_pos hp] at h
      simpa using h
    | false =>
      rw [iteB_f]
      refine ih _ ?_
      rw [List.filter_cons_of_neg (by simp [hp])] at h
      exact h
theorem loopD_gen {α : Type} {N : WS → Prop} {l : DLv} {inner : RV.Env → WS → α → (α → WS → Prop) → Prop} {ρ : RV.Env} {d : D} {ds : List D} {S : WS} {a : α} {q : α → WS → Prop} (h : ∀ F : α → WS → Prop, (F = fun a' S2 => loopD N l inner ρ ds S2 a' q) → (N S ∧ onS (l.f d (wipeE ρ l.vs)) fun ρ1 => l.mc ρ1 S (fun b S1 => iteB b (inner ρ1 S1 a F) (F a S1)) noX)) : loopD N l inner ρ (d :: ds) S a q := h _ rfl
theorem for_consG {N : WS → Prop} {f : D → RV.Env → Option RV.Env} {mb : RV.Env → MS} {ρ : RV.Env} {S : WS} {d : D} {ds : List D} {kt : Kt} (h : ∀ F : RV.Env → WS → Prop, (F = fun ρ2 S2 => forD N f mb ds ρ2 S2 kt) → (N S ∧ onS (f d ρ) fun ρ1 => mb ρ1 S ⟨F, kt.rt, kt.nx, F, kt.ex⟩)) : forD N f mb (d :: ds) ρ S kt := h _ rfl
theorem strsD_map {xs : List Str} : strsD (xs.map D.str) = some xs := by
  induction xs with
  | nil => rfl
  | cons a xs ih => simp [strsD, ih]
theorem join_strs {S : WS} {x : D} {sep : Str} {xs : List Str} (hi : itemsD S x = some (xs.map D.str)) (h : (xs.map (·.length)).sum + xs.length * sep.length ≤ 100000) : joinD S (.str sep) x = some (.str (Txt.join sep xs)) := by
  simp only [joinD, onStr, hi, Option.bind_some, strsD_map, h, if_true]
theorem join_len {sep : Str} : ∀ {xs : List Str}, (Txt.join sep xs).length ≤ (xs.map (·.length)).sum + xs.length * sep.length := by
  intro xs
  rw [TL.join_eq]
  induction xs with
  | nil => exact Nat.zero_le _
  | cons a xs ih =>
    cases xs with
    | nil =>
      show a.length ≤ _
      simp
    | cons b xs =>
      show (a ++ sep ++ Str.join sep (b :: xs)).length ≤ _
      rw [cat_len, cat_len]
      simp only [List.map_cons, List.sum_cons, List.length_cons, Nat.succ_mul] at ih ⊢
      omega
theorem no10 : (isLt 10 || isDg 10) = false := by decide +kernel
theorem tuple_lst {S : WS} {ds : List D} : tupleD S [.lst ds] = some (.tup ds) := rfl
theorem sum_namesL {A : Ad} {S : WS} {q : D → WS → Prop} {x : Xq} {ts : List PR} (hl : ts.length ≤ 60) : G_Sum_names A [sumV A ts] S q x = q (.tup (ts.map fun p => D.str p.1)) S := by
  rw [D_Sum_names]
  unfold fnD startE
  simp only [List.map_cons, List.map_nil, List.length_cons, List.length_nil, Nat.reduceAdd, Nat.reduceSub, List.replicate, List.cons_append, List.nil_append, List.append_nil, Nat.zero_add]
  unfold B_Sum_names
  simp? [fld_sum, small_of (n := (ts.map prD).length) (by rw [List.length_map]; omega)]
  rw [lc_mapEq (inj := prD) (g := fun p : PR => D.str p.1) ts trivial (fun p hp => ⟨_, rfl, fun q x => by
    unfold C_Sum_names_0
    simp? []⟩)]
  simp? [tuple_lst]
end RV
end
section
namespace RV
open PySem L2
theorem cleanL_map {α : Type} {g : α → D} {n : Nat} {xs : List α} (h : ∀ a ∈ xs, D.clean n (g a) = true) : D.cleanL n (xs.map g) = true := by
  induction xs with
  | nil => rfl
  | cons a xs ih => simp [D.cleanL, h a (List.mem_cons_self ..), ih fun b hb => h b (List.mem_cons_of_mem _ hb)]
theorem cln_prs {n : Nat} {ts : List PR} : D.cleanL n (ts.map prD) = true := cleanL_map fun p _ => rfl
theorem cln_sum {A : Ad} {n : Nat} {ts : List PR} : D.clean n (sumV A ts) = true := by
  simp [sumV, D.clean, D.cleanF, cln_prs]
end RV
end
section
/-! Sums: texts read back. -/
namespace RV
open PySem L2
section
variable {A : Ad} {S T : WS} {q : D → WS → Prop} {x : Xq} {ps qs ts : List PR} {p : PR} {s : Str} {i : Int} {n : Nat}
theorem fin_tup0 {c : Cell} : fin S.length (.tup (ps.map prD)) (S ++ [c]) q = q (.tup (ps.map prD)) S := fin_app (by unfold D.clean; exact clean_pr) (fun i h => nomatch h)
theorem dg_isDg {c : Nat} (h : 48 ≤ c ∧ c ≤ 57) : isDg c = true := by
  have : c = 48 ∨ c = 49 ∨ c = 50 ∨ c = 51 ∨ c = 52 ∨ c = 53 ∨ c = 54 ∨ c = 55 ∨ c = 56 ∨ c = 57 := by omega
  rcases this with rfl | rfl | rfl | rfl | rfl | rfl | rfl | rfl | rfl | rfl <;> decide +kernel
theorem dg_text {c : Nat} (h : 48 ≤ c ∧ c ≤ 57) : PySem.intText? ⟨#[c]⟩ = some ((c : Int) - 48) := by
  have : c = 48 ∨ c = 49 ∨ c = 50 ∨ c = 51 ∨ c = 52 ∨ c = 53 ∨ c = 54 ∨ c = 55 ∨ c = 56 ∨ c = 57 := by omega
  rcases this with rfl | rfl | rfl | rfl | rfl | rfl | rfl | rfl | rfl | rfl <;> decide +kernel
theorem dg_int {c : Nat} (h : 48 ≤ c ∧ c ≤ 57) : intTD S [.str ⟨#[c]⟩] = some (.int ((c : Int) - 48)) := by
  have e : intTD S [.str ⟨#[c]⟩] = (PySem.intText? ⟨#[c]⟩).map D.int := rfl
  rw [e, dg_text h]
  rfl
theorem numb_go : ∀ (cs : List Nat) (t : Int) (o : Option D) (d0 : D) (kt : Kt), (∀ c ∈ cs, 48 ≤ c ∧ c ≤ 57) → (∀ o, kt.nx [some d0, some (.int (cs.foldl (fun (t : Int) (c : Nat) => t * 10 + ((c : Int) - 48)) t)), o] S) →
    forD any_ (tName 2) (L_read_number_0 A) (cs.map fun c => D.str ⟨#[c]⟩) [some d0, some (.int t), o] S kt := fun cs => by
  induction cs with
  | nil =>
    intro t o d0 kt h hq
    exact ⟨trivial, hq _⟩
  | cons c cs ih =>
    intro t o d0 kt h hq
    rw [List.map_cons]
    refine for_name trivial ?_
    unfold L_read_number_0
    simp? [mulD_int (mulOk_l (i := 10) (j := t) (by decide) (by decide)), dg_int (h c (List.mem_cons_self ..))]
    have e : 10 * t + ((c : Int) - 48) = t * 10 + ((c : Int) - 48) := by omega
    rw [e]
    exact ih _ _ _ kt (fun d z => h d (List.mem_cons_of_mem _ z)) hq
theorem numb_ok (h0 : 0 < n) (h : n < 10000000000000000000000000000000000000000) (hq : q (.int (n : Int)) S) : G_read_number A [.str (dg n)] S q x := by
  obtain ⟨c, r, e, b1, b2⟩ := numL_head n h0
  have ec : (dg n).cps.toList = c :: r := (tl_dg n).trans e
  have ad : ∀ d ∈ (dg n).cps.toList, 48 ≤ d ∧ d ≤ 57 := fun d hd => TL.numL_digits n d (by rw [← tl_dg]; exact hd)
  have hl := dg_len h
  have hsm : small (dg n).length = true := small_of (by omega)
  have hsm2 : small ((dg n).cps.toList.map fun c => D.str ⟨#[c]⟩).length = true := by rw [List.length_map, ← len_cps]; exact hsm
  have hne : decide (dg n = "") = false := decide_eq_false fun z => by
    rw [z] at ec
    have z2 : ("" : Str).cps.toList = [] := rfl
    rw [z2] at ec
    cases ec
  have i0 : ixD S (.str (dg n)) (.int 0) = some (.str ⟨#[c]⟩) := by
    simp only [ixD, hsm, if_true, ec, atI_cons, Option.map_some]
  have n0 : decide ((⟨#[c]⟩ : Str) = "0") = false := decide_eq_false fun z => by
    have z2 : (⟨#[c]⟩ : Str).cps.toList = ("0" : Str).cps.toList := by rw [z]
    have z3 : ("0" : Str).cps.toList = [48] := by decide +kernel
    rw [z3] at z2
    have : c = 48 := by simpa using z2
    omega
  rw [D_read_number]
  unfold fnD startE
  simp only [List.map_cons, List.map_nil, List.length_cons, List.length_nil, Nat.reduceAdd, Nat.reduceSub, List.replicate, List.cons_append, List.nil_append, List.append_nil, Nat.zero_add]
  unfold B_read_number
  refine seq_gen fun N_ hN_ => ?_
  unfold C_read_number_0
  simp? [hne, hsm2]
  rw [lc_mapEq (g := fun c : Nat => D.bl (isDg c)) _ trivial (fun d hd => ?_)]
  rotate_left
  · refine ⟨_, rfl, fun q x => ?_⟩
    simp? [inS_digits]
  have all_ : (dg n).cps.toList.all isDg = true := List.all_eq_true.mpr fun d hd => dg_isDg (ad d hd)
  simp? [allD_map, all_, i0, n0]
  subst hN_
  refine seq_gen fun N_ hN_ => ?_
  simp? []
  subst hN_
  refine seq_gen fun N_ hN_ => ?_
  simp? []
  refine numb_go _ 0 _ _ _ ad fun o => ?_
  have ef : (dg n).cps.toList.foldl (fun (t : Int) (c : Nat) => t * 10 + ((c : Int) - 48)) 0 = (n : Int) := by
    have := TL.fold_num n
    rw [← tl_dg] at this
    exact this
  rw [ef]
  dsimp only
  subst hN_
  simp? []
  exact hq
theorem part_none (h : Nm p.1) : partitionD S (.str p.1) (.str "*") = some (.tup [.str p.1, .str "", .str ""]) := by
  have e := TL.partition_none (y := "*") (s := 42) (S := []) (by decide +kernel) (a := p.1) (nm_no' h (by decide +kernel))
  have hs := nm_small h
  simp only [partitionD, onStr]
  simp only [e, hs, star_len]
  rfl
theorem read_term_ok (h : Nm p.1) (hz : p.2 ≠ 0) (hb : p.2.natAbs < 10000000000000000000000000000000000000000) (hq : q (.tup [.str p.1, .int ((p.2.natAbs : Nat) : Int)]) S) : G_read_term A [.str (wd p)] S q x := by
  have hl := dg_len hb
  have hn := (nm_len h).2
  have hw := wd_len h hb
  rw [D_read_term]
  unfold fnD startE
  simp only [List.map_cons, List.map_nil, List.length_cons, List.length_nil, Nat.reduceAdd, Nat.reduceSub, List.replicate, List.cons_append, List.nil_append, List.append_nil, Nat.zero_add]
  unfold B_read_term
  by_cases e : p.2.natAbs = 1
  · have ew : wd p = p.1 := by unfold wd; rw [if_pos e]
    rw [ew]
    rw [e] at hq
    refine seq_gen fun N_ hN_ => ?_
    simp? [part_none h]
    subst hN_
    refine seq_gen fun N_ hN_ => ?_
    simp? [show decide (("" : Str) = "") = true from rfl]
    simp? [isNm_ok (A := A) (S := S) h]
    exact hq
  · have ew : wd p = dg p.2.natAbs ++ "*" ++ p.1 := by unfold wd; rw [if_neg e]
    have ep : partitionD S (.str (wd p)) (.str "*") = some (.tup [.str (dg p.2.natAbs), .str "*", .str p.1]) := by
      have e1 := TL.partition_app (y := "*") (s := 42) (S := []) (by decide +kernel) (a := dg p.2.natAbs) (b := p.1) (dg_no (by decide))
      have hs : small (dg p.2.natAbs ++ "*" ++ p.1).length = true := small_of (by rw [← ew]; omega)
      rw [ew]
      simp only [partitionD, onStr]
      simp only [e1, hs, star_len]
      rfl
    have ns : decide (("*" : Str) = "") = false := by decide +kernel
    have inn : isND false S (.int ((p.2.natAbs : Nat) : Int)) .non = some (.bl false) := rfl
    refine seq_gen fun N_ hN_ => ?_
    simp? [ep]
    subst hN_
    refine seq_gen fun N_ hN_ => ?_
    simp? [ns]
    subst hN_
    refine seq_gen fun N_ hN_ => ?_
    simp? []
    refine numb_ok (by omega) hb ?_
    simp? []
    subst hN_
    simp? [inn, isNm_ok (A := A) (S := S) h]
    exact hq
theorem sgn_in : inD true S (.str (sgn p)) (.tup [.str "+", .str "-"]) = some (.bl false) := by
  have h : sgn p = "-" ∨ sgn p = "+" := by unfold sgn; split <;> simp
  rw [in_strs (ts := ["+", "-"]) rfl]
  have e1 : decide (("-" : Str) ∉ [("+" : Str), "-"]) = false := by decide +kernel
  have e2 : decide (("+" : Str) ∉ [("+" : Str), "-"]) = false := by decide +kernel
  rcases h with e | e
  · rw [e, if_pos rfl, e1]
  · rw [e, if_pos rfl, e2]
theorem at_words {ts : List PR} {j : Nat} (h : ts[j]? = some p) : ixD S (.lst ((ws ts).map D.str)) (.int (0 + (j : Int) * 2)) = some (.str (sgn p)) ∧ ixD S (.lst ((ws ts).map D.str)) (.int (0 + (j : Int) * 2 + 1)) = some (.str (wd p)) := by
  obtain ⟨h1, h2⟩ := at_ws h
  have hl : j < ts.length := (List.getElem?_eq_some_iff.mp h).1
  have e1 : (0 + (j : Int) * 2).toNat = 2 * j := by omega
  have e2 : (0 + (j : Int) * 2 + 1).toNat = 2 * j + 1 := by omega
  simp only [ixD]
  rw [atI_nat (by omega) (by rw [List.length_map, len_ws]; omega), atI_nat (by omega) (by rw [List.length_map, len_ws]; omega), e1, e2, List.getElem?_map, List.getElem?_map, h1, h2]
  exact ⟨rfl, rfl⟩
theorem terms_back (h : TmOk ts) : ∀ (m j : Nat) (o4 o5 : Option D) (d0 d1 : D) (kt : Kt), j + m = ts.length → ts.length < 100 → (∀ o4 o5, kt.nx [some d0, some d1, some (.lst ((ws ts).map D.str)), some (.cell S.length), o4, o5] (S ++ [.lst (ts.map prD)])) →
    forD any_ (tName 4) (L_read_terms_0 A) ((List.range' j m).map fun (n : Nat) => D.int (0 + (n : Int) * ((2 : Nat) : Int))) [some d0, some d1, some (.lst ((ws ts).map D.str)), some (.cell S.length), o4, o5] (S ++ [.lst ((ts.take j).map prD)]) kt := fun m => by
  induction m with
  | zero =>
    intro j o4 o5 d0 d1 kt hm hl hq
    rw [List.take_of_length_le (by omega)]
    exact ⟨trivial, hq _ _⟩
  | succ m ih =>
    intro j o4 o5 d0 d1 kt hm hl hq
    have hj : j < ts.length := by omega
    have hp := List.getElem?_eq_getElem hj
    generalize ts[j] = p at hp
    have hpm : p ∈ ts := List.mem_of_getElem? hp
    have aw := fun (S : WS) => at_words (S := S) hp
    have e2 : ((2 : Nat) : Int) = 2 := rfl
    rw [List.range'_succ, List.map_cons, e2]
    refine for_name trivial ?_
    unfold L_read_terms_0
    refine seq_gen fun N_ hN_ => ?_
    simp? [(aw _).2]
    refine read_term_ok (h.nm p hpm) (h.nz p hpm) (h.bd p hpm) ?_
    simp? []
    subst hN_
    refine seq_gen fun N_ hN_ => ?_
    have inn : ∀ (S : WS) (ds : List D), isND false S (.tup ds) .non = some (.bl false) := fun _ _ => rfl
    simp? [(aw _).1, sgn_in, inn]
    subst hN_
    have hsm : small ((ts.take j).map prD).length = true := small_of (by rw [List.length_map, List.length_take]; omega)
    have t0 : ∀ (S : WS) (a b : D), ixD S (.tup [a, b]) (.int 0) = some a := fun _ _ _ => rfl
    have t1 : ∀ (S : WS) (a b : D), ixD S (.tup [a, b]) (.int 1) = some b := fun _ _ _ => rfl
    have ih' := ih (j + 1) (some (.int (0 + (j : Int) * 2))) (some (.tup [.str p.1, .int ((p.2.natAbs : Nat) : Int)])) d0 d1 kt (by omega) hl hq
    rw [List.take_add_one, hp, Option.toList_some, List.map_append] at ih'
    by_cases e : p.2 < 0
    · have es : sgn p = "-" := by unfold sgn; rw [if_pos e]
      have ed : decide (("-" : Str) = "+") = false := by decide +kernel
      have en : ∀ S : WS, negD S (.int ((p.2.natAbs : Nat) : Int)) = some (.int p.2) := fun S => by
        show some (D.int (-((p.2.natAbs : Nat) : Int))) = _
        congr 2
        omega
      simp? [app_at0, (aw _).1, es, ed, t0, t1, en, app_set0, D.clean, D.cleanL, Bool.and_self, hsm]
      exact ih'
    · have es : sgn p = "+" := by unfold sgn; rw [if_neg e]
      have ed : decide (("+" : Str) = "+") = true := by decide +kernel
      have en : ((p.2.natAbs : Nat) : Int) = p.2 := by omega
      simp? [app_at0, (aw _).1, es, ed, t0, t1, app_set0, D.clean, D.cleanL, Bool.and_self, hsm]
      rw [en] at ih' ⊢
      exact ih'
theorem starts_c {z : Str} {c : Nat} {l : List Nat} (h : TL.tl z = c :: l) : Txt.startswith z "-" = decide (c = 45) := by
  obtain ⟨a⟩ := z
  have ea : a = (c :: l).toArray := Array.toList_inj.mp (by simpa using h)
  subst ea
  have y : ("-" : Str) = ⟨#[45]⟩ := by decide +kernel
  rw [y]
  unfold Txt.startswith Builtin.Str.subAt
  by_cases e : c = 45 <;> simp [Str.length, e]
theorem text_neg (h : p.2 < 0) : sumTx (p :: ts) = "-" ++ (wd p ++ tailTx ts) := by
  simp only [sumTx, if_pos h, cat_as]
theorem text_pos (h : ¬ p.2 < 0) : sumTx (p :: ts) = wd p ++ tailTx ts := by
  simp only [sumTx, if_neg h, emp_cat]
theorem cut_1 {t : Str} : L2.cutS (("-" : Str) ++ t) (some (1 : Int)) none = t := by
  refine str_ext ?_
  rw [show (1 : Int) = ((1 : Nat) : Int) from rfl, cut_from, cat_cps]
  have e : ("-" : Str).cps.toList = [45] := by decide +kernel
  rw [e]
  rfl
theorem text_ne0 (h : TmOk (p :: ts)) : decide (sumTx (p :: ts) = "0") = false := decide_eq_false fun z => by
  have hp := h.nm p (List.mem_cons_self ..)
  have z0 : TL.tl ("0" : Str) = [48] := by decide +kernel
  have z1 : TL.tl ("-" : Str) = [45] := by decide +kernel
  by_cases e : p.2 < 0
  · rw [text_neg e] at z
    have := congrArg TL.tl z
    rw [TL.tl_append, z0, z1] at this
    simp at this
  · rw [text_pos e] at z
    have z2 := congrArg TL.tl z
    rw [TL.tl_append, z0] at z2
    unfold wd at z2
    have hn := nm_len hp
    split at z2
    · -- a name alone
      cases e3 : TL.tl p.1 with
      | nil => rw [TL.len_tl, e3] at hn; simp at hn
      | cons c l =>
        rw [e3] at z2
        simp only [List.cons_append, List.cons.injEq] at z2
        have hc : nmL (c :: l) = true := by rw [← e3]; exact hp
        rw [z2.1] at hc
        have : isLt 48 = false := by decide +kernel
        simp [nmL, this] at hc
    · have z3 := congrArg List.length z2
      rw [TL.tl_append, TL.tl_append, List.length_append, List.length_append, List.length_append, ← TL.len_tl, ← TL.len_tl, ← TL.len_tl, ← TL.len_tl, star_len] at z3
      simp at z3
      omega
theorem read_terms_ok (h : TmOk ts) (hl : ts.length < 60) (hq : q (.tup (ts.map prD)) S) : G_read_terms A [.str (sumTx ts)] S q x := by
  rw [D_read_terms]
  unfold fnD startE
  simp only [List.map_cons, List.map_nil, List.length_cons, List.length_nil, Nat.reduceAdd, Nat.reduceSub, List.replicate, List.cons_append, List.nil_append, List.append_nil, Nat.zero_add]
  unfold B_read_terms
  refine seq_gen fun N_ hN_ => ?_
  simp? [isi_str]
  subst hN_
  cases ts with
  | nil =>
    refine seq_gen fun N_ hN_ => ?_
    simp? [sumTx, show decide (("0" : Str) = "0") = true from rfl]
    exact hq
  | cons p r =>
    have hp := h.nm p (List.mem_cons_self ..)
    have hz := h.nz p (List.mem_cons_self ..)
    have hb := h.bd p (List.mem_cons_self ..)
    have hw := wd_len hp hb
    have ht := tail_len (ps := r) fun q z => ⟨h.cons.nm q z, h.cons.bd q z⟩
    have hpl := part_len hp hb
    have hl' : r.length + 1 < 60 := hl
    have e1 : ("-" : Str).length = 1 := by decide +kernel
    have sT : small (sumTx (p :: r)).length = true := small_of (by have := sumTx_len h; simp only [List.length_cons] at this; omega)
    have s2 : small (wd p ++ tailTx r).length = true := small_of (by rw [cat_len]; omega)
    have lm : ("- " : Str).length = 2 := by decide +kernel
    have lp : ("+ " : Str).length = 2 := by decide +kernel
    refine seq_gen fun N_ hN_ => ?_
    simp? [text_ne0 h]
    subst hN_
    refine seq_gen fun N_ hN_ => ?_
    have key : N_ [some (.str (sumTx (p :: r))), some (.str (part p ++ tailTx r)), none, none, none, none] S := by
      subst hN_
      have hsp : splitD S (.str (part p ++ tailTx r)) (.str " ") = some (.lst ((ws (p :: r)).map D.str)) := by
        have := split_ws (ps := p :: r) h.nm (by simp)
        rw [join_ws] at this
        have l1 : (" " : Str).length ≠ 0 := by decide +kernel
        have s3 : small (part p ++ tailTx r).length = true := small_of (by rw [cat_len]; omega)
        simp only [splitD, onStr]
        rw [if_pos ⟨l1, s3⟩, this]
      refine seq_gen fun N_ hN_ => ?_
      simp? [hsp]
      subst hN_
      refine seq_gen fun N_ hN_ => ?_
      simp? [D.cleanL]
      subst hN_
      refine seq_gen fun N_ hN_ => ?_
      have lw : ∀ S : WS, lenD S [.lst ((ws (p :: r)).map D.str)] = some (.int ((2 * (r.length + 1) : Nat) : Int)) := fun S => by
        show some (D.int ((((ws (p :: r)).map D.str).length : Nat) : Int)) = _
        rw [List.length_map, len_ws]
        rfl
      simp? [lw]
      refine ⟨by refine ⟨?_, ?_, ?_, ?_⟩ <;> omega, ?_⟩
      have es : steps 0 (((2 * (r.length + 1) : Nat) : Int) - 1) 2 = (List.range' 0 (r.length + 1)).map fun (n : Nat) => D.int (0 + (n : Int) * ((2 : Nat) : Int)) := by
        unfold steps
        have e9 : stepsN 0 (((2 * (r.length + 1) : Nat) : Int) - 1) 2 = r.length + 1 := by
          unfold stepsN
          omega
        rw [e9, List.range_eq_range']
      rw [es]
      refine terms_back (S := S) h (r.length + 1) 0 none none _ _ _ (by simp) (by simp; omega) fun o4 o5 => ?_
      dsimp only
      subst hN_
      have it : itemsD (S ++ [.lst ((p :: r).map prD)]) (.cell S.length) = some ((p :: r).map prD) := by simp [itemsD]
      simp? []
      refine mergedI_ok it (.inr ⟨S.length, rfl, app_at0⟩) (by simp; omega) ?_
      rw [h.mrg]
      simp only [forgetD_p]
      have hx : ∀ (q : D → WS → Prop) (x : Xq), G_text_of A [.tup ((p :: r).map prD)] (S ++ [.lst ((p :: r).map prD)]) q x = q (.str (sumTx (p :: r))) (S ++ [.lst ((p :: r).map prD)]) := fun q x => tx_of h (by simp; omega)
      simp? [hx, show decide (sumTx (p :: r) = sumTx (p :: r)) = true from decide_eq_true rfl]
      have tt : tupleD (S ++ [.lst ((p :: r).map prD)]) [.cell S.length] = some (.tup ((p :: r).map prD)) := by
        show (itemsD (S ++ [.lst ((p :: r).map prD)]) (.cell S.length)).map D.tup = _
        rw [it]
        rfl
      simp? [tt, fin_tup, fin_tup0]
      exact hq
    by_cases e : p.2 < 0
    · have st_ : Txt.startswith (sumTx (p :: r)) "-" = true := by
        rw [starts_c (c := 45) (l := TL.tl (wd p ++ tailTx r)) (by rw [text_neg e, TL.tl_append]; rfl)]
        rfl
      have hst : startsD S (.str (sumTx (p :: r))) (.str "-") = some (.bl true) := by
        show some (D.bl (Txt.startswith (sumTx (p :: r)) "-")) = _
        rw [st_]
      have hc : slD S (.str (sumTx (p :: r))) (some 1) none = some (.str (wd p ++ tailTx r)) := by rw [slD_str sT, text_neg e, cut_1]
      have s3 : small (Str.empty.length + ("- " : Str).length) = true := by rw [lm]; rfl
      have s4 : small ((Str.empty ++ ("- " : Str)).length + (wd p ++ tailTx r).length) = true := small_of (by rw [cat_len, cat_len, emp_l, lm]; omega)
      simp? [hst, hc, fmt_s s2, s3, s4]
      have ee : Str.empty ++ ("- " : Str) ++ (wd p ++ tailTx r) = part p ++ tailTx r := by
        have e5 : ("- " : Str) = "-" ++ " " := by decide +kernel
        have es : sgn p = "-" := by unfold sgn; rw [if_pos e]
        unfold part
        rw [emp_c, es, e5]
        simp only [cat_as]
      rw [ee]
      exact key
    · obtain ⟨c, l, ec, hc⟩ := wd_first hp hz
      have st_ : Txt.startswith (sumTx (p :: r)) "-" = false := by
        rw [starts_c (c := c) (l := l ++ TL.tl (tailTx r)) (by rw [text_pos e, TL.tl_append, ec]; rfl)]
        refine decide_eq_false fun z => ?_
        rw [z] at hc
        exact absurd hc (by decide +kernel)
      have hst : startsD S (.str (sumTx (p :: r))) (.str "-") = some (.bl false) := by
        show some (D.bl (Txt.startswith (sumTx (p :: r)) "-")) = _
        rw [st_]
      have s3 : small (Str.empty.length + ("+ " : Str).length) = true := by rw [lp]; rfl
      have s4 : small ((Str.empty ++ ("+ " : Str)).length + (sumTx (p :: r)).length) = true := small_of (by rw [cat_len, emp_l, lp]; have := sumTx_len h; simp only [List.length_cons] at this; omega)
      simp? [hst, fmt_s sT, s3, s4]
      have ee : Str.empty ++ ("+ " : Str) ++ sumTx (p :: r) = part p ++ tailTx r := by
        have e5 : ("+ " : Str) = "+" ++ " " := by decide +kernel
        have es : sgn p = "+" := by unfold sgn; rw [if_neg e]
        unfold part
        rw [emp_c, es, e5, text_pos e]
        simp only [cat_as]
      rw [ee]
      exact key
theorem read_sum (h : TmOk ts) (hl : ts.length < 60) (hq : q (sumV A ts) S) : G_Sum_read A [.adr (A.c "Sum"), .str (sumTx ts)] S q x := by
  have inn : isND false S (.tup (ts.map prD)) .non = some (.bl false) := rfl
  rw [D_Sum_read]
  unfold fnD startE
  simp only [List.map_cons, List.map_nil, List.length_cons, List.length_nil, Nat.reduceAdd, Nat.reduceSub, List.replicate, List.cons_append, List.nil_append, List.append_nil, Nat.zero_add]
  unfold B_Sum_read
  refine seq_gen fun N_ hN_ => ?_
  simp? []
  refine read_terms_ok h hl ?_
  simp? []
  subst hN_
  refine seq_gen fun N_ hN_ => ?_
  simp? [inn]
  subst hN_
  simp? []
  refine sum_made h.nm (by omega) ?_
  rw [h.mrg]
  simp? []
  exact hq
end
end RV
end
section
/-! Votes: values of merged sums, what wrong and silent meters do, cuts. No program in sight. -/
namespace RV
open PySem L2
/-! ### values -/
section
variable {ts ps : List PR} {rho due : Str → Int} {rd : Str → Option Int} {v : Int} {s : Str} {p : PR}
end
/-! ### as many as their witnesses -/
theorem cnt_inj {α β : Type} [DecidableEq β] {P : α → Bool} {Wt : α → β → Prop} : ∀ {Vs : List α} {L : List β}, Vs.Pairwise (fun a b => ∀ i, Wt a i → Wt b i → False) → (∀ a ∈ Vs, P a = true → ∃ i ∈ L, Wt a i) → (Vs.filter P).length ≤ L.length
  | [], _, _, _ => Nat.zero_le _
  | a :: Vs, L, hp, h => by
    obtain ⟨h1, h2⟩ := List.pairwise_cons.mp hp
    cases hP : P a with
    | false =>
      rw [List.filter_cons_of_neg (by rw [hP]; simp)]
      exact cnt_inj h2 fun b hb => h b (List.mem_cons_of_mem _ hb)
    | true =>
      rw [List.filter_cons_of_pos hP, List.length_cons]
      obtain ⟨i, hi, wi⟩ := h a (List.mem_cons_self ..) hP
      have ih := cnt_inj (P := P) (L := L.erase i) h2 fun b hb pb => by
        obtain ⟨j, hj, wj⟩ := h b (List.mem_cons_of_mem _ hb) pb
        exact ⟨j, (List.mem_erase_of_ne fun e => h1 b hb i wi (by rw [← e]; exact wj)).mpr hj, wj⟩
      rw [List.length_erase_of_mem hi] at ih
      have := List.length_pos_of_mem hi
      omega
end RV
end
section
/-! Rules with one vote: their text, and the rule that it makes. -/
namespace RV
open PySem L2
section
variable {A : Ad} {S T : WS} {q : D → WS → Prop} {x : Xq} {ts : List PR} {Ts : List (List PR)} {p : PR} {s : Str} {i : Int} {n : Nat}
/-! ### no sign of its own stands in the text of a sum -/
theorem tail_no {c : Nat} (hc : (isLt c || isDg c) = false) (h2 : c < 48 ∨ 57 < c) (h3 : c ≠ 42) (h4 : c ≠ 43) (h5 : c ≠ 45) (h6 : c ≠ 32) : ∀ {ps : List PR}, (∀ p ∈ ps, Nm p.1) → c ∉ TL.tl (tailTx ps)
  | [], _ => by
    show c ∉ TL.tl ("" : Str)
    rw [show TL.tl ("" : Str) = [] from by decide +kernel]
    simp
  | p :: ps, h => by
    have e : TL.tl (" " : Str) = [32] := by decide +kernel
    have hs : c ∉ TL.tl (" " : Str) := by rw [e]; simpa using h6
    show c ∉ TL.tl (" " ++ part p ++ tailTx ps)
    unfold part
    exact no_cat (no_cat hs (no_cat (no_cat (sgn_no h4 h5) hs) (wd_no (h p (List.mem_cons_self ..)) hc h2 h3))) (tail_no hc h2 h3 h4 h5 h6 fun q z => h q (List.mem_cons_of_mem _ z))
theorem sumTx_no {c : Nat} (hc : (isLt c || isDg c) = false) (h2 : c < 48 ∨ 57 < c) (h3 : c ≠ 42) (h4 : c ≠ 43) (h5 : c ≠ 45) (h6 : c ≠ 32) (h : ∀ p ∈ ts, Nm p.1) : c ∉ TL.tl (sumTx ts) := by
  cases ts with
  | nil =>
    show c ∉ TL.tl ("0" : Str)
    rw [show TL.tl ("0" : Str) = [48] from by decide +kernel]
    simp only [List.mem_singleton]
    omega
  | cons p r =>
    have e0 : TL.tl ("-" : Str) = [45] := by decide +kernel
    have e1 : TL.tl ("" : Str) = [] := by decide +kernel
    show c ∉ TL.tl ((if p.2 < 0 then ("-" : Str) else "") ++ wd p ++ tailTx r)
    refine no_cat (no_cat ?_ (wd_no (h p (List.mem_cons_self ..)) hc h2 h3)) (tail_no hc h2 h3 h4 h5 h6 fun q z => h q (List.mem_cons_of_mem _ z))
    split
    · rw [e0]; simpa using h5
    · rw [e1]; simp
/-- what a vote may hold -/
structure VtOk (Ts : List (List PR)) : Prop where
  tm : ∀ ts ∈ Ts, TmOk ts ∧ ts.length ≤ 12
  lo : 0 < Ts.length
  hi : Ts.length ≤ 10
def sumsTx (Ts : List (List PR)) : Str := Txt.join ", " (Ts.map sumTx)
def voteTl (n : Nat) (Ts : List (List PR)) : Str := dg n ++ ": " ++ sumsTx Ts
def voteTx (n : Nat) (Ts : List (List PR)) : Str := "vote" ++ " " ++ voteTl n Ts
theorem com_len : (", " : Str).length = 2 := by decide +kernel
theorem join2_len {m : Nat} : ∀ {xs : List Str}, (∀ y ∈ xs, y.length ≤ m) → (Str.join ", " xs).length ≤ (m + 2) * xs.length
  | [], _ => by
    rw [show Str.join ", " [] = "" from rfl, show ("" : Str).length = 0 from by decide +kernel]
    exact Nat.zero_le _
  | [a], h => by
    have := h a (by simp)
    show a.length ≤ _
    simp only [List.length_cons, List.length_nil]
    omega
  | a :: b :: r, h => by
    have h1 := h a (by simp)
    have h2 := join2_len (m := m) (xs := b :: r) fun y hy => h y (List.mem_cons_of_mem _ hy)
    show (a ++ ", " ++ Str.join ", " (b :: r)).length ≤ _
    rw [cat_len, cat_len, com_len]
    simp only [List.length_cons] at h2 ⊢
    rw [Nat.mul_succ]
    rw [Nat.mul_succ] at h2 ⊢
    omega
theorem sums_len (h : VtOk Ts) : (sumsTx Ts).length ≤ 7000 := by
  unfold sumsTx
  rw [TL.join_eq]
  have h1 := join2_len (m := 640) (xs := Ts.map sumTx) fun y hy => by
    obtain ⟨ts, ht, rfl⟩ := List.mem_map.mp hy
    obtain ⟨a, b⟩ := h.tm ts ht
    have := sumTx_len a
    omega
  rw [List.length_map] at h1
  have h2 := h.hi
  have : 642 * Ts.length ≤ 642 * 10 := Nat.mul_le_mul (Nat.le_refl _) h2
  omega
theorem dg1_len (h : n ≤ 3) : (dg n).length ≤ 40 := dg_len (Nat.lt_of_le_of_lt h (by decide))
theorem col_len : (": " : Str).length = 2 := by decide +kernel
theorem voteTl_len (h : VtOk Ts) (hn : n ≤ 3) : (voteTl n Ts).length ≤ 7050 := by
  have h1 := sums_len h
  have h2 := dg1_len hn
  unfold voteTl
  rw [cat_len, cat_len, col_len]
  omega
theorem vote_len4 : ("vote" : Str).length = 4 := by decide +kernel
theorem spF_len : (" " : Str).length = 1 := by decide +kernel
theorem voteTx_len (h : VtOk Ts) (hn : n ≤ 3) : (voteTx n Ts).length ≤ 7100 := by
  have h1 := voteTl_len h hn
  unfold voteTx
  rw [cat_len, cat_len, vote_len4, spF_len]
  omega
theorem part_col (h : VtOk Ts) (hn : n ≤ 3) : partitionD S (.str (voteTl n Ts)) (.str ": ") = some (.tup [.str (dg n), .str ": ", .str (sumsTx Ts)]) := by
  have e1 := TL.partition_app (y := ": ") (s := 58) (S := [32]) (by decide +kernel) (a := dg n) (b := sumsTx Ts) (dg_no (by decide))
  have hs : small (dg n ++ ": " ++ sumsTx Ts).length = true := small_of (by have := voteTl_len h hn; unfold voteTl at this; omega)
  unfold voteTl
  simp only [partitionD, onStr]
  simp only [e1, hs, col_len]
  rfl
theorem part_vote (h : VtOk Ts) (hn : n ≤ 3) : partitionD S (.str (voteTx n Ts)) (.str " ") = some (.tup [.str "vote", .str " ", .str (voteTl n Ts)]) := by
  have e1 := TL.partition_app (y := " ") (s := 32) (S := []) (by decide +kernel) (a := "vote") (b := voteTl n Ts) (by decide +kernel)
  have hs : small ("vote" ++ " " ++ voteTl n Ts).length = true := small_of (by have := voteTx_len h hn; unfold voteTx at this; omega)
  unfold voteTx
  simp only [partitionD, onStr]
  simp only [e1, hs, spF_len]
  rfl
theorem split_sums (h : VtOk Ts) : splitD S (.str (sumsTx Ts)) (.str ", ") = some (.lst ((Ts.map sumTx).map D.str)) := by
  have hne : Ts.map sumTx ≠ [] := by
    have := h.lo
    cases Ts with
    | nil => simp at this
    | cons a r => simp
  have e1 := TL.split_join (y := ", ") (s := 44) (S := [32]) (by decide +kernel) (by decide +kernel) hne fun y hy => by
    obtain ⟨ts, ht, rfl⟩ := List.mem_map.mp hy
    exact sumTx_no (by decide +kernel) (by decide) (by decide) (by decide) (by decide) (by decide) (h.tm ts ht).1.nm
  have hs : small (sumsTx Ts).length = true := small_of (by have := sums_len h; omega)
  have l1 : (", " : Str).length ≠ 0 := by decide +kernel
  simp only [splitD, onStr]
  rw [if_pos ⟨l1, hs⟩]
  unfold sumsTx
  rw [e1]
theorem sum_withG (h : TmOk ts) (hl : ts.length < 60) (hq : q (sumV A ts) S) : G_sum_with A [.str (sumTx ts)] S q x := by
  rw [D_sum_with]
  unfold fnD startE
  simp only [List.map_cons, List.map_nil, List.length_cons, List.length_nil, Nat.reduceAdd, Nat.reduceSub, List.replicate, List.cons_append, List.nil_append, List.append_nil, Nat.zero_add]
  unfold B_sum_with
  refine seq_gen fun N_ hN_ => ?_
  simp? []
  refine read_sum h hl ?_
  subst hN_
  simp? []
  exact hq
theorem sIf_byF {b : Bool} {mc : RV.Env → MB} {m1 m2 : RV.Env → MS} {ρ : RV.Env} {S : WS} {kt : Kt} (h : ∀ (P : Bool → WS → Prop) (z : Xq), P b S → mc ρ S P z) (h2 : iteB b (m1 ρ S kt) (m2 ρ S kt)) : sIf mc m1 m2 ρ S kt := h _ _ h2
theorem vote_stepG (h : VtOk Ts) (hn : n ≤ 3) (hq : q (.tup [.str "vote", .int (n : Nat), .tup (Ts.map (sumV A))]) S) : G_vote_step A [.str (voteTl n Ts)] S q x := by
  have h10 := h.hi
  rw [D_vote_step]
  unfold fnD startE
  simp only [List.map_cons, List.map_nil, List.length_cons, List.length_nil, Nat.reduceAdd, Nat.reduceSub, List.replicate, List.cons_append, List.nil_append, List.append_nil, Nat.zero_add]
  unfold B_vote_step
  refine seq_gen fun N_ hN_ => ?_
  simp? [part_col h hn]
  subst hN_
  refine seq_gen fun N_ hN_ => ?_
  simp? [split_sums (S := S) h]
  refine ⟨small_of (by simp; omega), ?_⟩
  rw [List.map_map]
  refine lc_imp (p := fun _ => true) (inj := D.str ∘ sumTx) (g := fun ts => sumV A ts) Ts [] trivial (fun ts ht => ⟨_, rfl, fun q x h => h, fun _ q x hq => ?_⟩) ?_
  · unfold C_vote_step_0
    simp? []
    exact sum_withG (h.tm ts ht).1 (by have := (h.tm ts ht).2; omega) hq
  rw [List.nil_append, List.filter_eq_self.mpr fun _ _ => rfl]
  simp? []
  subst hN_
  refine seq_gen fun N_ hN_ => ?_
  simp? []
  refine ⟨⟨by decide, by decide⟩, rfl, ?_⟩
  rw [show upto (3 + 1) = (List.range 4).map fun (i : Nat) => D.int (i : Int) from rfl]
  refine lc_imp (p := fun _ => true) (inj := fun (i : Nat) => D.int (i : Int)) (g := fun i => D.str (dg i)) (List.range 4) [] trivial (fun i hi => ⟨_, rfl, fun q x h => h, fun _ q x hq => ?_⟩) ?_
  · unfold C_vote_step_1
    simp? [strF_j (S := S) (j := i) (by have := List.mem_range.mp hi; omega)]
    exact hq
  rw [List.nil_append, List.filter_eq_self.mpr fun _ _ => rfl]
  simp? []
  subst hN_
  refine seq_gen fun N_ hN_ => ?_
  have e0 : decide ((": " : Str) = "") = false := by decide +kernel
  have e1 : ∀ S, inD true S (.str (dg n)) (.lst ((List.range 4).map fun i => D.str (dg i))) = some (.bl false) := fun S => by
    rw [in_strs (ts := (List.range 4).map dg) (by rw [List.map_map]; rfl)]
    have : dg n ∈ (List.range 4).map dg := List.mem_map.mpr ⟨n, List.mem_range.mpr (by omega), rfl⟩
    simp only [if_true]
    rw [decide_eq_false (by simpa using this)]
  have lt : ∀ S, lenD S [.lst (Ts.map fun ts => sumV A ts)] = some (.int (Ts.length : Nat)) := fun S => by simp [lenD, itemsD]
  have e2 : decide ((10 : Int) < ((Ts.length : Nat) : Int)) = false := decide_eq_false (by omega)
  refine sIf_byF (b := false) (fun P z hp => ?_) ?_
  · simp? [e0, e1, lt, e2, gtD_int]
    refine ⟨small_of (by simp; omega), ?_⟩
    refine lc_imp (p := fun _ => true) (inj := fun ts => sumV A ts) (g := fun _ => D.bl false) Ts [] trivial (fun ts ht => ⟨_, rfl, fun q x h => h, fun _ q x hq => ?_⟩) ?_
    · unfold C_vote_step_2
      simp? [show isND false S (sumV A ts) .non = some (.bl false) from rfl]
      exact hq
    rw [List.nil_append, List.filter_eq_self.mpr fun _ _ => rfl]
    have ea : ∀ S, anyD S [.lst (Ts.map fun _ => D.bl false)] = some (.bl false) := fun S => by
      rw [anyD_map (p := fun _ => false)]
      simp
    simp? [ea]
    exact hp
  rw [iteB_f]
  simp? []
  subst hN_
  have ei : ∀ S, intTD S [.str (dg n)] = some (.int (n : Nat)) := fun S => by
    have hl : (dg n).length ≤ 640 := by have := dg1_len hn; omega
    have e : intTD S [.str (dg n)] = (PySem.intText? (dg n)).map D.int := by simp only [intTD, hl, if_true]
    rw [e]
    unfold dg
    rw [TL.int_num (Nat.le_trans (TL.numL_len (k := 40) (by decide) (by omega)) (by decide))]
    rfl
  have et : ∀ S, tupleD S [.lst (Ts.map fun ts => sumV A ts)] = some (.tup (Ts.map (sumV A))) := fun S => rfl
  simp? [ei, et]
  exact hq
end
end RV
end
section
/-! The rule with one vote is made. -/
namespace RV
open PySem L2
section
variable {A : Ad} {S T : WS} {q : D → WS → Prop} {x : Xq} {ts : List PR} {Ts : List (List PR)} {p : PR} {s : Str} {i : Int} {n : Nat}
def stepV (A : Ad) (n : Nat) (Ts : List (List PR)) : D := .tup [.str "vote", .int (n : Nat), .tup (Ts.map (sumV A))]
theorem vote_no (h : VtOk Ts) : decide (voteTx n Ts = "doubt") = false := by
  refine decide_eq_false fun e => ?_
  have e1 : (voteTx n Ts).length = ("doubt" : Str).length := by rw [e]
  unfold voteTx voteTl at e1
  rw [cat_len, cat_len, cat_len, cat_len, vote_len4, spF_len, col_len, show ("doubt" : Str).length = 5 from by decide +kernel] at e1
  omega
theorem join_no {c : Nat} (hc : c ≠ 44) (h2 : c ≠ 32) : ∀ {xs : List Str}, (∀ y ∈ xs, c ∉ TL.tl y) → c ∉ TL.tl (Str.join ", " xs)
  | [], _ => by
    show c ∉ TL.tl ("" : Str)
    rw [show TL.tl ("" : Str) = [] from by decide +kernel]
    simp
  | [a], h => h a (by simp)
  | a :: b :: r, h => by
    have e : TL.tl (", " : Str) = [44, 32] := by decide +kernel
    show c ∉ TL.tl (a ++ ", " ++ Str.join ", " (b :: r))
    refine no_cat (no_cat (h a (by simp)) ?_) (join_no hc h2 fun y hy => h y (List.mem_cons_of_mem _ hy))
    rw [e]
    simp [hc, h2]
theorem vote_ok (h : VtOk Ts) : PyData.strOk (voteTx n Ts) = true := by
  have key : ∀ c ∈ TL.tl (voteTx n Ts), c < 128 := fun c hc => by
    refine Nat.lt_of_not_le fun hle => ?_
    have h0 : (isLt c || isDg c) = false := by
      cases e : (isLt c || isDg c) with
      | false => rfl
      | true => have := isAl_lt e; omega
    have lits : ∀ y ∈ [("vote" : Str), " ", ": "], c ∉ TL.tl y := fun y hy z => by
      have : ∀ y ∈ [("vote" : Str), " ", ": "], ∀ d ∈ TL.tl y, d < 128 := by decide +kernel
      have := this y hy c z
      omega
    refine absurd hc ?_
    unfold voteTx voteTl sumsTx
    rw [TL.join_eq]
    refine no_cat (no_cat (lits _ (by simp)) (lits _ (by simp))) (no_cat (no_cat (dg_no (by omega)) (lits _ (by simp))) (join_no (by omega) (by omega) fun y hy => ?_))
    obtain ⟨ts, ht, rfl⟩ := List.mem_map.mp hy
    exact sumTx_no h0 (by omega) (by omega) (by omega) (by omega) (by omega) (h.tm ts ht).1.nm
  unfold PyData.strOk
  rw [Array.all_eq_true]
  intro i hi
  have hm : (voteTx n Ts).cps[i] ∈ TL.tl (voteTx n Ts) := by
    show (voteTx n Ts).cps[i] ∈ (voteTx n Ts).cps.toList
    simp
  have := key _ hm
  exact decide_eq_true (by omega)
end
end RV
end
section
/-! Runs of rules: votes decided, rows run. -/
namespace RV
open PySem L2
/-! ### the plain law of a run -/
/-- the steps of a rule -/
inductive Stp where
  | iff (one two : List PR) (goal : Nat)
  | vote (n : Nat) (Ts : List (List PR))
  | tell (ts : List PR)
  | doubt
def dis (val : List PR → Option Int) (Us : List (List PR)) (u : List PR) : Nat := (Us.filter fun v => decide (val u ≠ val v)).length
end RV
end
section
/-! Rules run. -/
namespace RV
open PySem L2
/-- a step as a value -/
def stpD (A : Ad) : Stp → D
  | .iff u v g => .tup [.str "if", sumV A u, sumV A v, .int (g : Nat)]
  | .vote n Ts => stepV A n Ts
  | .tell u => .tup [.str "tell", sumV A u]
  | .doubt => .tup [.str "doubt"]
def ruleD (A : Ad) (ls : List Str) (ss : List Stp) : D := .obj (A.c "Rule") [("lines", .tup (ls.map D.str)), ("steps", .tup (ss.map (stpD A)))]
/-- a sum of meters of the net -/
structure OkU (fs : List FR) (u : List PR) : Prop where
  inn : ∀ p ∈ u, p.1 ∈ fs.map (·.1)
  few : u.length ≤ 60
  sml : ∀ p ∈ u, p.2.natAbs < 1000000
structure SsOk (fs : List FR) (ss : List Stp) : Prop where
  iff_ : ∀ (a : Nat) (u v : List PR) (g : Nat), ss[a]? = some (Stp.iff u v g) → OkU fs u ∧ OkU fs v ∧ a < g ∧ g < ss.length ∧ a + 1 < ss.length
  vote_ : ∀ (a n : Nat) (Ts : List (List PR)), ss[a]? = some (Stp.vote n Ts) → (∀ u ∈ Ts, OkU fs u) ∧ Ts.length ≤ 1000 ∧ a + 1 < ss.length
  tell_ : ∀ (a : Nat) (u : List PR), ss[a]? = some (Stp.tell u) → OkU fs u
  len : ss.length ≤ 1000
  pos : 0 < ss.length
section
variable {A : Ad} {S T : WS} {q : D → WS → Prop} {x : Xq} {rs : List LR} {fs : List FR} {R : List (Option Int)} {ts u v : List PR} {n : Nat} {κ : Clo} {γ : List D → List D → M} {cs : List D}
theorem rule_steps {ls : List Str} {ss : List Stp} : fldD (A.c "Rule") "steps" S (ruleD A ls ss) = some (.tup (ss.map (stpD A))) := by
  have hne : ¬ (("steps" : Str) = "lines") := by decide
  simp [fldD, ruleD, List.lookup, show (("steps" : Str) == "lines") = false from by decide]
end
end RV
end
section
/-! Outcomes asked. -/
namespace RV
open PySem L2
/-! ### the meters of a rule -/
def sumsT : Stp → List (List PR)
  | .iff u v _ => [u, v]
  | .vote _ Ts => Ts
  | .tell u => [u]
  | .doubt => []
def pushN (T : List Str) (u : List PR) : List Str := (u.map (·.1)).reverse ++ T
def nmsT : List Stp → List Str → List Str
  | [], T => T
  | s :: ss, T => nmsT ss ((sumsT s).foldl pushN T)
theorem mem_pushs {s : Str} : ∀ {us : List (List PR)} {T : List Str}, s ∈ us.foldl pushN T ↔ s ∈ T ∨ ∃ u ∈ us, s ∈ u.map (·.1)
  | [], T => by simp
  | u :: us, T => by
    rw [List.foldl_cons, mem_pushs]
    unfold pushN
    rw [List.mem_append, List.mem_reverse]
    constructor
    · rintro ((h | h) | ⟨w, h1, h2⟩)
      · exact .inr ⟨u, List.mem_cons_self .., h⟩
      · exact .inl h
      · exact .inr ⟨w, List.mem_cons_of_mem _ h1, h2⟩
    · rintro (h | ⟨w, h1, h2⟩)
      · exact .inl (.inr h)
      · rcases List.mem_cons.mp h1 with rfl | h1
        · exact .inl (.inl h2)
        · exact .inr ⟨w, h1, h2⟩
theorem mem_nms {s : Str} : ∀ {ss : List Stp} {T : List Str}, s ∈ nmsT ss T ↔ s ∈ T ∨ ∃ t ∈ ss, ∃ u ∈ sumsT t, s ∈ u.map (·.1)
  | [], T => by simp [nmsT]
  | t :: ss, T => by
    unfold nmsT
    rw [mem_nms, mem_pushs]
    constructor
    · rintro ((h | ⟨u, h1, h2⟩) | ⟨w, h1, h2⟩)
      · exact .inl h
      · exact .inr ⟨t, List.mem_cons_self .., u, h1, h2⟩
      · exact .inr ⟨w, List.mem_cons_of_mem _ h1, h2⟩
    · rintro (h | ⟨w, h1, h2⟩)
      · exact .inl (.inl h)
      · rcases List.mem_cons.mp h1 with rfl | h1
        · exact .inl (.inr h2)
        · exact .inr ⟨w, h1, h2⟩
theorem pushs_le : ∀ {us : List (List PR)} {T : List Str}, T.length ≤ (us.foldl pushN T).length
  | [], T => Nat.le_refl _
  | u :: us, T => by
    rw [List.foldl_cons]
    refine Nat.le_trans ?_ pushs_le
    unfold pushN
    rw [List.length_append]
    omega
theorem nms_le : ∀ {ss : List Stp} {T : List Str}, T.length ≤ (nmsT ss T).length
  | [], T => Nat.le_refl _
  | t :: ss, T => by
    unfold nmsT
    exact Nat.le_trans pushs_le nms_le
/-- no more than those of which they are -/
theorem nd_le {T L : List Str} (nd : T.Nodup) (h : ∀ s ∈ T, s ∈ L) : T.length ≤ L.length := by
  have := cnt_inj (P := fun _ : Str => true) (Wt := fun a b : Str => a = b) (Vs := T) (L := L) (nd.imp fun hne i e1 e2 => hne (e1.trans e2.symm)) fun a ha _ => ⟨a, h a ha, rfl⟩
  rwa [List.filter_eq_self.mpr fun _ _ => rfl] at this
section
variable {A : Ad} {S T : WS} {q : D → WS → Prop} {x : Xq} {rs : List LR} {fs : List FR} {R : List (Option Int)} {ts u v : List PR} {n : Nat}
theorem sums_inG {s : Stp} : G_sums_in A [stpD A s] S q x = q (.lst ((sumsT s).map (sumV A))) S := by
  have e1 : decide (("vote" : Str) = "if") = false := by decide +kernel
  have e2 : decide (("tell" : Str) = "if") = false := by decide +kernel
  have e3 : decide (("doubt" : Str) = "if") = false := by decide +kernel
  have e4 : decide (("tell" : Str) = "vote") = false := by decide +kernel
  have e5 : decide (("doubt" : Str) = "vote") = false := by decide +kernel
  have e6 : decide (("doubt" : Str) = "tell") = false := by decide +kernel
  have ll : ∀ (S : WS) (ds : List D), listD S [.tup ds] = some (.lst ds) := fun _ _ => rfl
  rw [D_sums_in]
  unfold fnD startE
  simp only [List.map_cons, List.map_nil, List.length_cons, List.length_nil, Nat.reduceAdd, Nat.reduceSub, List.replicate, List.cons_append, List.nil_append, List.append_nil, Nat.zero_add]
  unfold B_sums_in
  cases s with
  | iff u v g =>
    have i0 : ∀ S, ixD S (.tup [.str "if", sumV A u, sumV A v, .int (g : Nat)]) (.int 0) = some (.str "if") := fun _ => rfl
    have i1 : ∀ S, ixD S (.tup [.str "if", sumV A u, sumV A v, .int (g : Nat)]) (.int 1) = some (sumV A u) := fun _ => rfl
    have i2 : ∀ S, ixD S (.tup [.str "if", sumV A u, sumV A v, .int (g : Nat)]) (.int 2) = some (sumV A v) := fun _ => rfl
    simp? [stpD, i0, i1, i2, sumsT, List.map_cons, List.map_nil]
  | vote n Ts =>
    have i0 : ∀ S, ixD S (stepV A n Ts) (.int 0) = some (.str "vote") := fun _ => rfl
    have i2 : ∀ S, ixD S (stepV A n Ts) (.int 2) = some (.tup (Ts.map (sumV A))) := fun _ => rfl
    simp? [stpD, i0, i2, e1, ll, sumsT]
  | tell u =>
    have i0 : ∀ S, ixD S (.tup [.str "tell", sumV A u]) (.int 0) = some (.str "tell") := fun _ => rfl
    have i1 : ∀ S, ixD S (.tup [.str "tell", sumV A u]) (.int 1) = some (sumV A u) := fun _ => rfl
    simp? [stpD, i0, i1, e2, e4, sumsT, List.map_cons, List.map_nil]
  | doubt =>
    have i0 : ∀ S, ixD S (.tup [.str "doubt"]) (.int 0) = some (.str "doubt") := fun _ => rfl
    simp? [stpD, i0, e3, e5, e6, sumsT, List.map_nil]
theorem meters3 {a0 a1 a2 : Option D} : ∀ (l : List PR) (T : List Str) (q : List Str → WS → Prop), T.length + l.length ≤ 1000 → q (pushN T l) S →
    loopD any_ ⟨iTupD (eProp (A.c "Sum") (G_Sum_names A) (eVar 2)), tName 3, bYes, [3], [3]⟩ (lvD (emSD (C_Rule_meters_0 A)) []) [a0, a1, a2, none] (l.map fun p => D.str p.1) S T q
  | [], T, q, _, h => ⟨trivial, h⟩
  | p :: l, T, q, hl, h => by
    simp only [List.length_cons] at hl
    have c1 : decide (T.length < 1000) = true := decide_eq_true (by omega)
    have e : pushN T (p :: l) = pushN (p.1 :: T) l := by
      unfold pushN
      simp
    rw [e] at h
    have ih := meters3 (a0 := a0) (a1 := a1) (a2 := a2) l (p.1 :: T) q (by simp; omega) h
    rw [List.map_cons]
    refine loopD_gen fun F hF => ?_
    simp? [lvD, emSD, C_Rule_meters_0, c1]
    rw [hF]
    exact ih
theorem meters2 {a0 a1 : Option D} : ∀ (us : List (List PR)) (T : List Str) (q : List Str → WS → Prop), (∀ u ∈ us, u.length ≤ 60) → (us.foldl pushN T).length ≤ 1000 → q (us.foldl pushN T) S →
    loopD any_ ⟨iSeq (eFn 1 (G_sums_in A) [] (aCons (eVar 1) (aNil))), tName 2, bYes, [2], [2, 3]⟩ (lvD (emSD (C_Rule_meters_0 A)) [⟨iTupD (eProp (A.c "Sum") (G_Sum_names A) (eVar 2)), tName 3, bYes, [3], [3]⟩]) [a0, a1, none, none] (us.map (sumV A)) S T q
  | [], T, q, _, _, h => ⟨trivial, h⟩
  | u :: us, T, q, hu, hl, h => by
    rw [List.foldl_cons] at hl h
    have ih := meters2 (a0 := a0) (a1 := a1) us (pushN T u) q (fun w hw => hu w (List.mem_cons_of_mem _ hw)) hl h
    have h1 := hu u (List.mem_cons_self ..)
    have h2 := pushs_le (us := us) (T := pushN T u)
    have h3 : (pushN T u).length = u.length + T.length := by
      unfold pushN
      simp
    rw [List.map_cons]
    refine loopD_gen fun F hF => ?_
    simp? [lvD, ob_sum, sum_namesL h1]
    refine meters3 u T _ (by omega) ?_
    rw [hF]
    exact ih
theorem meters1 {a0 : Option D} : ∀ (ss : List Stp) (T : List Str) (q : List Str → WS → Prop), (∀ s ∈ ss, ∀ u ∈ sumsT s, u.length ≤ 60) → (nmsT ss T).length ≤ 1000 → q (nmsT ss T) S →
    loopD any_ ⟨iTupD (eUn (fldD (A.c "Rule") "steps") (eVar 0)), tName 1, bYes, [1], [1, 2, 3]⟩ (lvD (emSD (C_Rule_meters_0 A)) [⟨iSeq (eFn 1 (G_sums_in A) [] (aCons (eVar 1) (aNil))), tName 2, bYes, [2], [2, 3]⟩, ⟨iTupD (eProp (A.c "Sum") (G_Sum_names A) (eVar 2)), tName 3, bYes, [3], [3]⟩]) [a0, none, none, none] (ss.map (stpD A)) S T q
  | [], T, q, _, _, h => ⟨trivial, h⟩
  | s :: ss, T, q, hu, hl, h => by
    unfold nmsT at hl h
    have ih := meters1 (a0 := a0) ss ((sumsT s).foldl pushN T) q (fun w hw => hu w (List.mem_cons_of_mem _ hw)) hl h
    have h2 := nms_le (ss := ss) (T := (sumsT s).foldl pushN T)
    rw [List.map_cons]
    refine loopD_gen fun F hF => ?_
    simp? [lvD, sums_inG]
    refine meters2 (sumsT s) T _ (hu s (List.mem_cons_self ..)) (by omega) ?_
    rw [hF]
    exact ih
theorem rule_metersG {ls : List Str} {ss : List Stp} (hu : ∀ s ∈ ss, ∀ u ∈ sumsT s, u.length ≤ 60) (hl : (nmsT ss []).length ≤ 1000) (h64 : (ascS (nmsT ss [])).length < 64) (hq : q (.tup ((ascS (nmsT ss [])).map D.str)) S) : G_Rule_meters A [ruleD A ls ss] S q x := by
  rw [D_Rule_meters]
  unfold fnD startE
  simp only [List.map_cons, List.map_nil, List.length_cons, List.length_nil, Nat.reduceAdd, Nat.reduceSub, List.replicate, List.cons_append, List.nil_append, List.append_nil, Nat.zero_add]
  unfold B_Rule_meters
  simp? [eSortSc, rule_steps]
  refine meters1 ss [] _ hu hl ?_
  refine ⟨decide_eq_true h64, ?_⟩
  simp? [tuple_lst]
  exact hq
end
end RV
end
section
/-! Texts of drawn rules, and the rules that they make. -/
namespace RV
open PySem L2
/-- what a drawn sum is -/
structure SuOk (ts : List PR) : Prop where
  tm : TmOk ts
  few : ts.length ≤ 12
def lnTx : Stp → Str
  | .iff u v g => "if " ++ sumTx u ++ " == " ++ sumTx v ++ " go " ++ dg g
  | .vote n Ts => voteTx n Ts
  | .tell u => "tell " ++ sumTx u
  | .doubt => "doubt"
/-- a step as the laws hold it -/
def stL : Stp → D
  | .iff u v g => .tup [.str "if", .lst (u.map prD), .lst (v.map prD), .int (g : Nat)]
  | .vote n Ts => .tup [.str "vote", .int (n : Nat), .lst (Ts.map fun u => .lst (u.map prD))]
  | .tell u => .tup [.str "tell", .lst (u.map prD)]
  | .doubt => .tup [.str "doubt"]
def StpOk : Stp → Prop
  | .iff u v g => SuOk u ∧ SuOk v ∧ g ≤ 7
  | .vote n Ts => VtOk Ts ∧ n ≤ 3
  | .tell u => SuOk u
  | .doubt => True
theorem len_ne {a b : Str} (h : a.length ≠ b.length) : decide (a = b) = false := decide_eq_false fun e => h (by rw [e])
section
variable {A : Ad} {S T : WS} {q : D → WS → Prop} {x : Xq} {ts : List PR} {Ts : List (List PR)} {n : Nat} {t : Str}
theorem abs_str {i : Int} (h : i.natAbs < 10000000000000000000000000000000000000000) : strFD S [.int (if i < 0 then -i else i)] = some (.str (dg i.natAbs)) := by
  have e : (if i < 0 then -i else i) = ((i.natAbs : Nat) : Int) := by split <;> omega
  have lg : ((i.natAbs : Nat) : Int).natAbs.log2 < 1920 := by
    rw [Int.natAbs_natCast]
    by_cases z : i.natAbs = 0
    · rw [z]; decide
    · exact Nat.lt_of_lt_of_le ((Nat.log2_lt z).2 (Nat.lt_trans h (by decide : (10000000000000000000000000000000000000000 : Nat) < 2 ^ 200))) (by decide)
  rw [e]
  simp only [strFD, lg, if_true]
  rfl
theorem told_go {a0 : Option D} : ∀ (r : List PR) (t : Str) (o2 o3 o4 : Option D) (kt : Kt), (∀ p ∈ r, Nm p.1 ∧ p.2.natAbs < 10000000000000000000000000000000000000000) → 0 < t.length → t.length + 52 * r.length ≤ 5000 → (∀ o2 o3 o4, kt.nx [a0, some (.str (t ++ tailTx r)), o2, o3, o4] S) →
    forD any_ (tTupD 2 (tsCons (tName 2) (tsCons (tName 3) (tsNil)))) (L_told_k47_0 A) (r.map prD) [a0, some (.str t), o2, o3, o4] S kt
  | [], t, o2, o3, o4, kt, _, _, _, hk => by
    have := hk o2 o3 o4
    rw [show tailTx [] = ("" : Str) from rfl, cat_emp] at this
    exact ⟨trivial, this⟩
  | p :: r, t, o2, o3, o4, kt, h, h0, hl, hk => by
    obtain ⟨hn, hb⟩ := h p (List.mem_cons_self ..)
    simp only [List.length_cons] at hl
    have hp := part_len hn hb
    have hw := wd_len hn hb
    have nl := nm_len hn
    have lm : (" - " : Str).length = 3 := by decide +kernel
    have lp : (" + " : Str).length = 3 := by decide +kernel
    have ls : ("*" : Str).length = 1 := by decide +kernel
    have l1 : (" " : Str).length = 1 := by decide +kernel
    have e0 : decide (t = "") = false := len_ne (by rw [show ("" : Str).length = 0 from rfl]; omega)
    have dl := dg_len hb
    have et : tailTx (p :: r) = (if p.2 < 0 then (" - " : Str) else " + ") ++ wd p ++ tailTx r := by
      have e5 : (" - " : Str) = " " ++ "-" ++ " " := by decide +kernel
      have e6 : (" + " : Str) = " " ++ "+" ++ " " := by decide +kernel
      show " " ++ part p ++ tailTx r = _
      unfold part sgn
      split
      · rw [e5]
        simp only [cat_as]
      · rw [e6]
        simp only [cat_as]
    have ih := told_go (a0 := a0) r (t ++ (if p.2 < 0 then (" - " : Str) else " + ") ++ wd p) (some (.str p.1)) (some (.int p.2)) (some (.str (wd p))) kt (fun q z => h q (List.mem_cons_of_mem _ z)) (by rw [cat_len, cat_len]; omega) (by
      rw [cat_len, cat_len]
      have : (if p.2 < 0 then (" - " : Str) else " + ").length = 3 := by split <;> assumption
      omega) fun o2 o3 o4 => by
      have := hk o2 o3 o4
      rw [et] at this
      simp only [cat_as] at this ⊢
      exact this
    rw [List.map_cons]
    refine for_consG fun F hF => ⟨trivial, ?_⟩
    have pd : prD p = .tup [.str p.1, .int p.2] := rfl
    have a1 : ∀ S, addD S (.str (dg p.2.natAbs)) (.str "*") = some (.str (dg p.2.natAbs ++ "*")) := fun S => addD_str (small_of (by omega))
    have a2 : ∀ S, addD S (.str (dg p.2.natAbs ++ "*")) (.str p.1) = some (.str (dg p.2.natAbs ++ "*" ++ p.1)) := fun S => addD_str (small_of (by rw [cat_len]; omega))
    have ea : decide ((if p.2 < 0 then -p.2 else p.2) = 1) = decide (p.2.natAbs = 1) := decide_eq_decide.mpr (by split <;> omega)
    rw [pd]
    simp? []
    unfold L_told_k47_0
    refine seq_gen fun N_ hN_ => ?_
    refine sAsg_by (d := .str (wd p)) (fun P z hp => ?_) ?_
    · simp? [ea, abs_str hb]
      unfold wd at hp
      by_cases c : p.2.natAbs = 1
      · rw [if_pos c] at hp
        simp? [decide_eq_true c]
        exact hp
      · rw [if_neg c] at hp
        simp? [decide_eq_false c, a1, a2]
        exact hp
    simp? []
    subst hN_
    simp? [e0]
    by_cases c : p.2 < 0
    · rw [if_pos c] at ih
      have b1 : ∀ S, addD S (.str t) (.str " - ") = some (.str (t ++ " - ")) := fun S => addD_str (small_of (by omega))
      have b2 : ∀ S, addD S (.str (t ++ " - ")) (.str (wd p)) = some (.str (t ++ " - " ++ wd p)) := fun S => addD_str (small_of (by rw [cat_len]; omega))
      simp? [decide_eq_true c, b1, b2]
      rw [hF]
      exact ih
    · rw [if_neg c] at ih
      have b1 : ∀ S, addD S (.str t) (.str " + ") = some (.str (t ++ " + ")) := fun S => addD_str (small_of (by omega))
      have b2 : ∀ S, addD S (.str (t ++ " + ")) (.str (wd p)) = some (.str (t ++ " + " ++ wd p)) := fun S => addD_str (small_of (by rw [cat_len]; omega))
      simp? [decide_eq_false c, b1, b2]
      rw [hF]
      exact ih
where
  sAsg_by {i : Nat} {me : RV.Env → M} {ρ : RV.Env} {S : WS} {kt : Kt} {d : D} (h : ∀ (P : D → WS → Prop) (z : Xq), P d S → me ρ S P z) (h2 : kt.nx (ρ.set i (some d)) S) : sAsg i me ρ S kt := h _ _ h2
theorem toldG (h : SuOk ts) (hq : q (.str (sumTx ts)) S) : G_told_k47 A [.lst (ts.map prD)] S q x := by
  have h12 := h.few
  rw [D_told_k47]
  unfold fnD startE
  simp only [List.map_cons, List.map_nil, List.length_cons, List.length_nil, Nat.reduceAdd, Nat.reduceSub, List.replicate, List.cons_append, List.nil_append, List.append_nil, Nat.zero_add]
  unfold B_told_k47
  refine seq_gen fun N_ hN_ => ?_
  simp? []
  subst hN_
  refine seq_gen fun N_ hN_ => ?_
  simp? []
  cases ts with
  | nil =>
    refine ⟨trivial, ?_⟩
    subst hN_
    have e : decide (("" : Str) = "") = true := by decide +kernel
    simp? [e]
    exact hq
  | cons p r =>
    obtain ⟨hn, hb⟩ : Nm p.1 ∧ p.2.natAbs < 10000000000000000000000000000000000000000 := ⟨h.tm.nm p (List.mem_cons_self ..), h.tm.bd p (List.mem_cons_self ..)⟩
    simp only [List.length_cons] at h12
    have hw := wd_len hn hb
    have nl := nm_len hn
    have dl := dg_len hb
    have ls : ("*" : Str).length = 1 := by decide +kernel
    have l1 : ("-" : Str).length = 1 := by decide +kernel
    have e0 : decide (("" : Str) = "") = true := by decide +kernel
    have a1 : ∀ S, addD S (.str (dg p.2.natAbs)) (.str "*") = some (.str (dg p.2.natAbs ++ "*")) := fun S => addD_str (small_of (by omega))
    have a2 : ∀ S, addD S (.str (dg p.2.natAbs ++ "*")) (.str p.1) = some (.str (dg p.2.natAbs ++ "*" ++ p.1)) := fun S => addD_str (small_of (by rw [cat_len]; omega))
    have ea : decide ((if p.2 < 0 then -p.2 else p.2) = 1) = decide (p.2.natAbs = 1) := decide_eq_decide.mpr (by split <;> omega)
    have b1 : ∀ S, addD S (.str "-") (.str (wd p)) = some (.str ("-" ++ wd p)) := fun S => addD_str (small_of (by omega))
    have pd : prD p = .tup [.str p.1, .int p.2] := rfl
    have fin : ∀ (o2 o3 o4 : Option D), N_ [some (.lst ((p :: r).map prD)), some (.str (sumTx (p :: r))), o2, o3, o4] S := fun o2 o3 o4 => by
      subst hN_
      have ne : ∀ S, neD S (.str (sumTx (p :: r))) (.str "") = some (.bl true) := fun S => by
        have : sumTx (p :: r) ≠ "" := fun e => by
          have e2 : (sumTx (p :: r)).length = 0 := by rw [e]; rfl
          unfold sumTx at e2
          rw [cat_len, cat_len] at e2
          omega
        rw [neD_str]
        simp [this]
      simp? [ne]
      exact hq
    have go : ∀ (t : Str) (o2 o3 o4 : Option D) (kt : Kt), sumTx (p :: r) = t ++ tailTx r → 0 < t.length → t.length ≤ 60 → (∀ o2 o3 o4, kt.nx [some (.lst ((p :: r).map prD)), some (.str (sumTx (p :: r))), o2, o3, o4] S) → forD any_ (tTupD 2 (tsCons (tName 2) (tsCons (tName 3) (tsNil)))) (L_told_k47_0 A) (r.map prD) [some (.lst ((p :: r).map prD)), some (.str t), o2, o3, o4] S kt := fun t o2 o3 o4 kt e h0 h6 hk => by
      rw [e] at hk
      exact told_go r t o2 o3 o4 kt (fun z hz => ⟨h.tm.nm z (List.mem_cons_of_mem _ hz), h.tm.bd z (List.mem_cons_of_mem _ hz)⟩) h0 (by omega) hk
    rw [List.map_cons]
    refine for_consG fun F hF => ⟨trivial, ?_⟩
    rw [pd]
    simp? []
    unfold L_told_k47_0
    refine seq_gen fun N_ hN_ => ?_
    refine told_go.sAsg_by (d := .str (wd p)) (fun P z hp => ?_) ?_
    · simp? [ea, abs_str hb]
      unfold wd at hp
      by_cases c : p.2.natAbs = 1
      · rw [if_pos c] at hp
        simp? [decide_eq_true c]
        exact hp
      · rw [if_neg c] at hp
        simp? [decide_eq_false c, a1, a2]
        exact hp
    simp? []
    subst hN_
    simp? [e0]
    by_cases c : p.2 < 0
    · simp? [decide_eq_true c, b1]
      rw [hF]
      refine go ("-" ++ wd p) _ _ _ _ ?_ (by rw [cat_len]; omega) (by rw [cat_len]; omega) fin
      rw [text_neg c, cat_as]
    · simp? [decide_eq_false c]
      rw [hF]
      refine go (wd p) _ _ _ _ ?_ (by omega) (by omega) fin
      exact text_pos c
theorem lineG {s : Stp} (h : StpOk s) (hq : q (.str (lnTx s)) S) : G_line_k47 A [stL s] S q x := by
  have f1 : decide (("vote" : Str) = "if") = false := by decide +kernel
  have f2 : decide (("tell" : Str) = "if") = false := by decide +kernel
  have f3 : decide (("doubt" : Str) = "if") = false := by decide +kernel
  have f4 : decide (("tell" : Str) = "vote") = false := by decide +kernel
  have f5 : decide (("doubt" : Str) = "vote") = false := by decide +kernel
  have f6 : decide (("doubt" : Str) = "tell") = false := by decide +kernel
  rw [D_line_k47]
  unfold fnD startE
  simp only [List.map_cons, List.map_nil, List.length_cons, List.length_nil, Nat.reduceAdd, Nat.reduceSub, List.replicate, List.cons_append, List.nil_append, List.append_nil, Nat.zero_add]
  unfold B_line_k47
  cases s with
  | doubt =>
    have i0 : ∀ S, ixD S (stL .doubt) (.int 0) = some (.str "doubt") := fun _ => rfl
    simp? [i0, f3, f5, f6]
    exact hq
  | tell u =>
    have h : SuOk u := h
    have lu := sumTx_len h.tm
    have h12 := h.few
    have lt : ("tell " : Str).length = 5 := by decide +kernel
    have i0 : ∀ S, ixD S (stL (.tell u)) (.int 0) = some (.str "tell") := fun _ => rfl
    have i1 : ∀ S, ixD S (stL (.tell u)) (.int 1) = some (.lst (u.map prD)) := fun _ => rfl
    have a1 : ∀ S, addD S (.str "tell ") (.str (sumTx u)) = some (.str ("tell " ++ sumTx u)) := fun S => addD_str (small_of (by omega))
    simp? [i0, i1, f2, f4]
    refine toldG h ?_
    simp? [a1]
    exact hq
  | vote n Ts =>
    obtain ⟨hV, hn⟩ : VtOk Ts ∧ n ≤ 3 := h
    have h10 := hV.hi
    have l5 : ("vote " : Str).length = 5 := by decide +kernel
    have ld := dg1_len hn
    have lsum := sums_len hV
    have i0 : ∀ S, ixD S (stL (.vote n Ts)) (.int 0) = some (.str "vote") := fun _ => rfl
    have i1 : ∀ S, ixD S (stL (.vote n Ts)) (.int 1) = some (.int (n : Nat)) := fun _ => rfl
    have i2 : ∀ S, ixD S (stL (.vote n Ts)) (.int 2) = some (.lst (Ts.map fun u => D.lst (u.map prD))) := fun _ => rfl
    have a1 : ∀ S, addD S (.str "vote ") (.str (dg n)) = some (.str ("vote " ++ dg n)) := fun S => addD_str (small_of (by rw [l5]; omega))
    have a2 : ∀ S, addD S (.str ("vote " ++ dg n)) (.str ": ") = some (.str ("vote " ++ dg n ++ ": ")) := fun S => addD_str (small_of (by rw [cat_len, l5, col_len]; omega))
    have a3 : ∀ S, addD S (.str ("vote " ++ dg n ++ ": ")) (.str (sumsTx Ts)) = some (.str ("vote " ++ dg n ++ ": " ++ sumsTx Ts)) := fun S => addD_str (small_of (by rw [cat_len, cat_len, l5, col_len]; omega))
    have sd : ∀ S, strFD S [.int (n : Nat)] = some (.str (dg n)) := fun S => by
      have h : ∀ j : Fin 4, ((j.val : Nat) : Int).natAbs.log2 < 1920 := by decide
      have := h ⟨n, by omega⟩
      simp only [strFD, this, if_true]
      rfl
    have ev : ("vote " ++ dg n ++ ": " ++ sumsTx Ts : Str) = voteTx n Ts := by
      have e5 : ("vote " : Str) = "vote" ++ " " := by decide +kernel
      unfold voteTx voteTl
      rw [e5]
      simp only [cat_as]
    simp? [i0, i1, i2, f1, sd, a1, a2]
    refine ⟨small_of (by rw [List.length_map]; omega), ?_⟩
    refine lc_imp (p := fun _ => true) (inj := fun u : List PR => D.lst (u.map prD)) (g := fun u => D.str (sumTx u)) Ts [] trivial (fun u hu => ⟨_, rfl, fun q x h => h, fun _ q x hq => ?_⟩) ?_
    · unfold C_line_k47_0
      simp? []
      exact toldG ⟨(hV.tm u hu).1, (hV.tm u hu).2⟩ hq
    rw [List.nil_append, List.filter_eq_self.mpr fun _ _ => rfl]
    have hj : ∀ S, joinD S (.str ", ") (.lst (Ts.map fun ts => D.str (sumTx ts))) = some (.str (sumsTx Ts)) := fun S => by
      have e1 : (Ts.map fun ts => D.str (sumTx ts)) = (Ts.map sumTx).map D.str := by rw [List.map_map]; rfl
      have b := sum_leB (m := 640) (xs := Ts.map sumTx) fun y hy => by
        obtain ⟨ts, ht, rfl⟩ := List.mem_map.mp hy
        obtain ⟨a, b⟩ := hV.tm ts ht
        have := sumTx_len a
        omega
      rw [List.length_map] at b
      have b2 : 640 * Ts.length ≤ 640 * 10 := Nat.mul_le_mul (Nat.le_refl _) h10
      rw [e1]
      simp only [joinD, onStr, itemsD, Option.bind_some, strsD_map]
      rw [if_pos (by rw [com_len, List.length_map]; omega)]
      rfl
    simp? [hj, a3, ev]
    exact hq
  | iff u v g =>
    obtain ⟨hu, hv, hg⟩ : SuOk u ∧ SuOk v ∧ g ≤ 7 := h
    have lu := sumTx_len hu.tm
    have lv := sumTx_len hv.tm
    have u12 := hu.few
    have v12 := hv.few
    have l1 : ("if " : Str).length = 3 := by decide +kernel
    have l2 : (" == " : Str).length = 4 := by decide +kernel
    have l3 : (" go " : Str).length = 4 := by decide +kernel
    have i0 : ∀ S, ixD S (stL (.iff u v g)) (.int 0) = some (.str "if") := fun _ => rfl
    have i1 : ∀ S, ixD S (stL (.iff u v g)) (.int 1) = some (.lst (u.map prD)) := fun _ => rfl
    have i2 : ∀ S, ixD S (stL (.iff u v g)) (.int 2) = some (.lst (v.map prD)) := fun _ => rfl
    have i3 : ∀ S, ixD S (stL (.iff u v g)) (.int 3) = some (.int (g : Nat)) := fun _ => rfl
    have ld : (dg g).length ≤ 40 := dg_len (Nat.lt_of_le_of_lt hg (by decide))
    have sd : ∀ S, strFD S [.int (g : Nat)] = some (.str (dg g)) := fun S => by
      have h : ∀ j : Fin 8, ((j.val : Nat) : Int).natAbs.log2 < 1920 := by decide
      have := h ⟨g, by omega⟩
      simp only [strFD, this, if_true]
      rfl
    have a1 : ∀ S, addD S (.str "if ") (.str (sumTx u)) = some (.str ("if " ++ sumTx u)) := fun S => addD_str (small_of (by omega))
    have a2 : ∀ S, addD S (.str ("if " ++ sumTx u)) (.str " == ") = some (.str ("if " ++ sumTx u ++ " == ")) := fun S => addD_str (small_of (by rw [cat_len]; omega))
    have a3 : ∀ S, addD S (.str ("if " ++ sumTx u ++ " == ")) (.str (sumTx v)) = some (.str ("if " ++ sumTx u ++ " == " ++ sumTx v)) := fun S => addD_str (small_of (by rw [cat_len, cat_len]; omega))
    have a4 : ∀ S, addD S (.str ("if " ++ sumTx u ++ " == " ++ sumTx v)) (.str " go ") = some (.str ("if " ++ sumTx u ++ " == " ++ sumTx v ++ " go ")) := fun S => addD_str (small_of (by rw [cat_len, cat_len, cat_len]; omega))
    have a5 : ∀ S, addD S (.str ("if " ++ sumTx u ++ " == " ++ sumTx v ++ " go ")) (.str (dg g)) = some (.str ("if " ++ sumTx u ++ " == " ++ sumTx v ++ " go " ++ dg g)) := fun S => addD_str (small_of (by rw [cat_len, cat_len, cat_len, cat_len]; omega))
    simp? [i0, i1]
    refine toldG hu ?_
    simp? [a1, a2, i2]
    refine toldG hv ?_
    simp? [a3, a4, i3, sd, a5]
    exact hq
where
  sum_leB {m : Nat} : ∀ {xs : List Str}, (∀ y ∈ xs, y.length ≤ m) → (xs.map (·.length)).sum ≤ m * xs.length
    | [], _ => Nat.zero_le _
    | a :: xs, h => by
      have h1 := h a (List.mem_cons_self ..)
      have h2 := sum_leB (m := m) (xs := xs) fun y hy => h y (List.mem_cons_of_mem _ hy)
      rw [List.map_cons, List.sum_cons, List.length_cons, Nat.mul_succ]
      omega
end
end RV
end
section
/-! Rules made from the texts of their steps. -/
namespace RV
open PySem L2
section
variable {A : Ad} {S T : WS} {q : D → WS → Prop} {x : Xq} {ts u v : List PR} {Ts : List (List PR)} {n i m : Nat} {t : Str}
theorem tell_len : ("tell " : Str).length = 5 := by decide +kernel
theorem part_tell (h : SuOk u) : partitionD S (.str ("tell " ++ sumTx u)) (.str " ") = some (.tup [.str "tell", .str " ", .str (sumTx u)]) := by
  have e1 := TL.partition_app (y := " ") (s := 32) (S := []) (by decide +kernel) (a := "tell") (b := sumTx u) (by decide +kernel)
  have e5 : ("tell " : Str) = "tell" ++ " " := by decide +kernel
  have lu := sumTx_len h.tm
  have h12 := h.few
  have hs : small ("tell" ++ " " ++ sumTx u).length = true := small_of (by rw [cat_len, cat_len, show ("tell" : Str).length = 4 from by decide +kernel, show (" " : Str).length = 1 from by decide +kernel]; omega)
  rw [e5]
  simp only [partitionD, onStr]
  simp only [e1, hs, spF_len]
  rfl
theorem stepG_doubt {i m : D} (hq : q (.tup [.str "doubt"]) S) : G_step_of A [.str "doubt", i, m] S q x := by
  have e1 : decide (("doubt" : Str) = "doubt") = true := by decide +kernel
  rw [D_step_of]
  unfold fnD startE
  simp only [List.map_cons, List.map_nil, List.length_cons, List.length_nil, Nat.reduceAdd, Nat.reduceSub, List.replicate, List.cons_append, List.nil_append, List.append_nil, Nat.zero_add]
  unfold B_step_of
  refine seq_gen fun N_ hN_ => ?_
  simp? [isi_str]
  subst hN_
  refine seq_gen fun N_ hN_ => ?_
  simp? [e1]
  exact hq
theorem stepG_vote {i m : D} (h : VtOk Ts) (hn : n ≤ 3) (hq : q (stepV A n Ts) S) : G_step_of A [.str (voteTx n Ts), i, m] S q x := by
  have e1 : decide (("vote" : Str) = "if") = false := by decide +kernel
  have e2 : decide (("vote" : Str) = "vote") = true := by decide +kernel
  rw [D_step_of]
  unfold fnD startE
  simp only [List.map_cons, List.map_nil, List.length_cons, List.length_nil, Nat.reduceAdd, Nat.reduceSub, List.replicate, List.cons_append, List.nil_append, List.append_nil, Nat.zero_add]
  unfold B_step_of
  refine seq_gen fun N_ hN_ => ?_
  simp? [isi_str]
  subst hN_
  refine seq_gen fun N_ hN_ => ?_
  simp? [vote_no h]
  subst hN_
  refine seq_gen fun N_ hN_ => ?_
  simp? [part_vote h hn]
  subst hN_
  refine seq_gen fun N_ hN_ => ?_
  simp? [e1]
  subst hN_
  refine seq_gen fun N_ hN_ => ?_
  simp? [e2]
  refine vote_stepG h hn ?_
  simp? []
  exact hq
theorem stepG_tell {i m : D} (h : SuOk u) (hq : q (.tup [.str "tell", sumV A u]) S) : G_step_of A [.str ("tell " ++ sumTx u), i, m] S q x := by
  have e1 : decide (("tell" : Str) = "if") = false := by decide +kernel
  have e2 : decide (("tell" : Str) = "vote") = false := by decide +kernel
  have e3 : decide (("tell" : Str) = "tell") = true := by decide +kernel
  have h12 := h.few
  have nd : decide (("tell " ++ sumTx u : Str) = "doubt") = false := by
    refine decide_eq_false fun e => ?_
    have z : ("tell " ++ sumTx u : Str).cps.toList.head? = ("doubt" : Str).cps.toList.head? := by rw [e]
    rw [cat_cps, show ("tell " : Str).cps.toList = [116, 101, 108, 108, 32] from by decide +kernel, show ("doubt" : Str).cps.toList = [100, 111, 117, 98, 116] from by decide +kernel] at z
    cases z
  have nn : ∀ S, isND true S (sumV A u) .non = some (.bl true) := fun _ => rfl
  rw [D_step_of]
  unfold fnD startE
  simp only [List.map_cons, List.map_nil, List.length_cons, List.length_nil, Nat.reduceAdd, Nat.reduceSub, List.replicate, List.cons_append, List.nil_append, List.append_nil, Nat.zero_add]
  unfold B_step_of
  refine seq_gen fun N_ hN_ => ?_
  simp? [isi_str]
  subst hN_
  refine seq_gen fun N_ hN_ => ?_
  simp? [nd]
  subst hN_
  refine seq_gen fun N_ hN_ => ?_
  simp? [part_tell h]
  subst hN_
  refine seq_gen fun N_ hN_ => ?_
  simp? [e1]
  subst hN_
  refine seq_gen fun N_ hN_ => ?_
  simp? [e2]
  subst hN_
  refine seq_gen fun N_ hN_ => ?_
  simp? []
  refine sum_withG h.tm (by omega) ?_
  simp? []
  subst hN_
  simp? [e3, nn]
  exact hq
theorem ixN_last {n : Nat} (h : 0 < n) : ixN n (-1) = some (n - 1) := by
  unfold ixN
  simp
  omega
/-- what a rule's steps may be, one by one -/
def okI (i m : Nat) : Stp → Prop
  | .iff u v g => SuOk u ∧ SuOk v ∧ i < g ∧ g < m ∧ g ≤ 7
  | .vote n Ts => VtOk Ts ∧ n ≤ 3
  | .tell u => SuOk u
  | .doubt => True
structure RlOk (ss : List Stp) : Prop where
  lo : 0 < ss.length
  hi : ss.length ≤ 8
  ok : ∀ i s, ss[i]? = some s → okI i ss.length s
  last : ∃ s, ss[ss.length - 1]? = some s ∧ ((∃ u, s = .tell u) ∨ s = .doubt)
theorem clean_stp {s : Stp} {n : Nat} : D.clean n (stpD A s) = true := by
  cases s with
  | iff u v g => simp [stpD, D.clean, D.cleanL, cln_sum]
  | vote m Ts =>
    show D.clean n (stepV A m Ts) = true
    unfold stepV
    have : D.cleanL n (Ts.map (sumV A)) = true := cleanL_map fun u _ => cln_sum
    simp [D.clean, D.cleanL, this]
  | tell u => simp [stpD, D.clean, D.cleanL, cln_sum]
  | doubt => rfl
theorem nn_stp {s : Stp} {neg : Bool} : isND neg S (stpD A s) .non = some (.bl neg) := by
  cases s <;> cases neg <;> rfl
theorem lnTx_len {s : Stp} (h : okI i m s) : (lnTx s).length ≤ 8000 := by
  cases s with
  | iff u v g =>
    obtain ⟨hu, hv, _, _, hg⟩ := h
    have lu := sumTx_len hu.tm
    have lv := sumTx_len hv.tm
    have u12 := hu.few
    have v12 := hv.few
    have ld : (dg g).length ≤ 40 := dg_len (Nat.lt_of_le_of_lt hg (by decide))
    show ("if " ++ sumTx u ++ " == " ++ sumTx v ++ " go " ++ dg g : Str).length ≤ _
    rw [cat_len, cat_len, cat_len, cat_len, cat_len, show ("if " : Str).length = 3 from by decide +kernel, show (" == " : Str).length = 4 from by decide +kernel, show (" go " : Str).length = 4 from by decide +kernel]
    omega
  | vote n Ts =>
    have := voteTx_len h.1 h.2
    show (voteTx n Ts).length ≤ _
    omega
  | tell u =>
    have h : SuOk u := h
    have lu := sumTx_len h.tm
    have h12 := h.few
    show ("tell " ++ sumTx u : Str).length ≤ _
    rw [cat_len, tell_len]
    omega
  | doubt =>
    show ("doubt" : Str).length ≤ _
    rw [show ("doubt" : Str).length = 5 from by decide +kernel]
    omega
/-- the steps of a rule, each read where it stands -/
def RdOk2 (A : Ad) (ss : List Stp) : Prop := ∀ (i : Nat) (s : Stp), ss[i]? = some s → ∀ (S : WS) (q : D → WS → Prop) (x : Xq), q (stpD A s) S → G_step_of A [.str (lnTx s), .int (i : Nat), .int (ss.length : Nat)] S q x
theorem rule_makeG {ss : List Stp} (h : RlOk ss) (hr : RdOk2 A ss) (hne : ∀ S, eqD S (.tup ((ss.map lnTx).map D.str)) (.tup []) = some (.bl false)) (hq : q (ruleD A (ss.map lnTx) ss) S) : makeD .still (A.c "Rule") 2 (G_Rule_init A) [.tup ((ss.map lnTx).map D.str)] S q x := by
  have h8 := h.hi
  have lt : ∀ S, lenD S [.tup ((ss.map lnTx).map D.str)] = some (.int (ss.length : Nat)) := fun S => by simp [lenD, itemsD]
  have ec : (S ++ [Cell.ob (A.c "Rule") []]).length = S.length + 1 := by simp
  have go : ∀ (r done : List Stp) (o3 o4 o5 : Option D) (kt : Kt), ss = done ++ r → (∀ o3 o4 o5, kt.nx [some (.cell S.length), some (.tup ((ss.map lnTx).map D.str)), some (.cell (S.length + 1)), o3, o4, o5] (S ++ [Cell.ob (A.c "Rule") [], .lst (ss.map (stpD A))])) →
      forD any_ (tTupD 2 (tsCons (tName 3) (tsCons (tName 4) (tsNil)))) (L_Rule_init_0 A) (enumL done.length ((r.map lnTx).map D.str)) [some (.cell S.length), some (.tup ((ss.map lnTx).map D.str)), some (.cell (S.length + 1)), o3, o4, o5] (S ++ [Cell.ob (A.c "Rule") [], .lst (done.map (stpD A))]) kt := fun r => by
    induction r with
    | nil =>
      intro done o3 o4 o5 kt e hk
      rw [List.append_nil] at e
      rw [← e]
      exact ⟨trivial, hk _ _ _⟩
    | cons s r ih =>
      intro done o3 o4 o5 kt e hk
      have hs : ss[done.length]? = some s := by rw [e]; simp
      have hd8 : done.length < 8 := by
        have := congrArg List.length e
        simp at this
        omega
      have b0 : decide (((done.length : Nat) : Int) < 8) = true := decide_eq_true (by omega)
      have a1 : ∀ c : Cell, (S ++ [Cell.ob (A.c "Rule") [], c])[S.length + 1]? = some c := fun c => by simp
      have s1 : ∀ c d : Cell, (S ++ [Cell.ob (A.c "Rule") [], c]).set (S.length + 1) d = S ++ [Cell.ob (A.c "Rule") [], d] := fun c d => by
        rw [List.set_append_right _ _ (by omega)]
        simp
      rw [List.map_cons, List.map_cons, enumL]
      refine for_consG fun F hF => ⟨trivial, ?_⟩
      simp? []
      unfold L_Rule_init_0
      refine seq_gen fun N_ hN_ => ?_
      simp? [lt, b0]
      refine hr done.length s hs _ _ _ ?_
      simp? []
      subst hN_
      simp? [nn_stp, clean_stp, a1, s1, small_of (n := (done.map (stpD A)).length) (by rw [List.length_map]; omega)]
      rw [hF]
      have e4 : done.map (stpD A) ++ [stpD A s] = (done ++ [s]).map (stpD A) := by rw [List.map_append]; rfl
      have e5 : done.length + 1 = (done ++ [s]).length := by simp
      rw [e4, e5]
      exact ih (done ++ [s]) _ _ _ kt (by rw [e]; simp) hk
  unfold makeD
  refine ⟨rfl, ?_⟩
  rw [D_Rule_init]
  unfold fnD startE
  simp only [List.map_cons, List.map_nil, List.length_cons, List.length_nil, Nat.reduceAdd, Nat.reduceSub, List.replicate, List.cons_append, List.nil_append, List.append_nil, Nat.zero_add]
  unfold B_Rule_init
  refine seq_gen fun N_ hN_ => ?_
  simp? [isi_tup, hne]
  subst hN_
  refine seq_gen fun N_ hN_ => ?_
  simp? [D.cleanL]
  subst hN_
  refine seq_gen fun N_ hN_ => ?_
  simp? []
  rw [ec]
  refine go ss [] none none none _ rfl fun o3 o4 o5 => ?_
  subst hN_
  dsimp only
  refine seq_gen fun N_ hN_ => ?_
  have ng : ∀ S, negD S (.int 1) = some (.int (-1)) := fun _ => rfl
  obtain ⟨s, hs, hl⟩ := h.last
  have lo := h.lo
  have im : ∀ S1 : WS, S1[S.length + 1]? = some (Cell.lst (ss.map (stpD A))) → ixD S1 (.cell (S.length + 1)) (.int (-1)) = some (stpD A s) := fun S1 h => by
    simp only [ixD, h]
    have e : atI (ss.map (stpD A)) (-1) = (ss.map (stpD A))[ss.length - 1]? := by
      have z : ixN (ss.map (stpD A)).length (-1) = some (ss.length - 1) := by
        rw [List.length_map]
        exact ixN_last lo
      unfold atI
      rw [z]
      rfl
    rw [e, List.getElem?_map, hs]
    rfl
  have a1 : ∀ o c : Cell, (S ++ [o, c])[S.length + 1]? = some c := fun o c => by simp
  have i0 : ∃ t : Str, (∀ S, ixD S (stpD A s) (.int 0) = some (.str t)) ∧ ∀ S, inD true S (.str t) (.tup [.str "tell", .str "doubt"]) = some (.bl false) := by
    rcases hl with ⟨u, rfl⟩ | rfl
    · refine ⟨"tell", fun _ => rfl, fun S => ?_⟩
      rw [in_strs (ts := ["tell", "doubt"]) rfl]
      simp only [if_true]
      rw [decide_eq_false (by simp)]
    · refine ⟨"doubt", fun _ => rfl, fun S => ?_⟩
      rw [in_strs (ts := ["tell", "doubt"]) rfl]
      simp only [if_true]
      rw [decide_eq_false (by simp)]
  obtain ⟨t, i0, ii⟩ := i0
  simp? [ng, im _ (a1 _ _), i0, ii]
  subst hN_
  refine seq_gen fun N_ hN_ => ?_
  have tc : ∀ S1 : WS, S1[S.length + 1]? = some (Cell.lst (ss.map (stpD A))) → tupleD S1 [.cell (S.length + 1)] = some (.tup (ss.map (stpD A))) := fun S1 h => by
    show (itemsD S1 (.cell (S.length + 1))).map D.tup = _
    simp only [itemsD, h]
    rfl
  have cl0 : D.clean 0 (.tup ((ss.map lnTx).map D.str)) = true := by
    unfold D.clean
    exact cleanL_map fun _ _ => rfl
  have cl1 : D.clean 0 (.tup (ss.map (stpD A))) = true := by
    unfold D.clean
    exact cleanL_map fun _ _ => clean_stp
  simp? [app_at0, app_set0, cl0, putD]
  subst hN_
  have fi : ∀ (o o' c : Cell) (q : D → WS → Prop), fin (S ++ [o]).length .non (S ++ [o', c]) q = q .non (S ++ [o']) := fun o o' c q => by
    have h1 : ¬ (S ++ [o', c]).length = (S ++ [o]).length := by simp
    unfold fin
    rw [if_neg h1]
    have h2 : (S ++ [o', c]).take (S ++ [o]).length = S ++ [o'] := by
      rw [show S ++ [o', c] = (S ++ [o']) ++ [c] by simp, List.take_left' (by simp)]
    rw [h2]
    simp [D.clean]
  have ps : ∀ d e : D, putD "steps" e [(("lines" : Str), d)] = [(("lines" : Str), d), (("steps" : Str), e)] := fun d e => by
    have hne : decide (("lines" : Str) = "steps") = false := by decide +kernel
    have hne2 : ¬ (("lines" : Str) = "steps") := of_decide_eq_false hne
    simp [putD, hne2]
  simp? [tc _ (a1 _ _), app_at0, app_set0, cl1, ps, fi, take_app, Nat.lt_irrefl, show (1 : Nat) < 1000 from by decide]
  exact hq
end
end RV
end
section
/-! Rows that compare: their texts taken apart. -/
namespace RV
open PySem L2
theorem dg_one : ∀ d : Nat, d ≤ 7 → (dg d).cps.toList = [48 + d] := by decide +kernel
theorem rpart_go {a : Str} {d : Nat} (hd : d ≤ 7) : Txt.rpartition (a ++ " go " ++ dg d) " go " = (a, (" go " : Str), dg d) := by
  have yl : (" go " : Str).cps.toList = [32, 103, 111, 32] := by decide +kernel
  have yn : (" go " : Str).length = 4 := by decide +kernel
  have xl : (a ++ " go " ++ dg d).cps.toList = a.cps.toList ++ [32, 103, 111, 32, 48 + d] := by
    rw [cat_cps, cat_cps, yl, dg_one d hd, List.append_assoc]
    rfl
  have al : a.cps.toList.length = a.length := (len_cps a).symm
  have xn : (a ++ " go " ++ dg d).length = a.length + 5 := by
    rw [len_cps, xl, List.length_append, al]
    rfl
  have here : StrLaws.At (a ++ " go " ++ dg d) " go " (a ++ " go " ++ dg d).length a.length := by
    refine ⟨by rw [xn, yn]; omega, ?_⟩
    rw [StrLaws.subAt_eq, xl, yn, yl, List.drop_append_of_le_length (by omega), ← al, List.drop_length]
    rfl
  have last : ∀ k, a.length < k → ¬ StrLaws.At (a ++ " go " ++ dg d) " go " (a ++ " go " ++ dg d).length k := fun k hk z => by
    obtain ⟨z1, z2⟩ := z
    rw [xn, yn] at z1
    have : k = a.length + 1 := by omega
    subst this
    rw [StrLaws.subAt_eq, xl, yn, yl] at z2
    rw [show a.length + 1 = a.cps.toList.length + 1 from by rw [al], List.drop_append, List.drop_eq_nil_of_le (by omega), Nat.add_sub_cancel_left] at z2
    have z3 : (List.take 4 [103, 111, 32, 48 + d] == [32, 103, 111, 32]) = true := z2
    simp at z3
  unfold Txt.rpartition
  rcases StrLaws.last_spec (a ++ " go " ++ dg d) " go " with ⟨_, hn⟩ | ⟨i, h0, hi, hn⟩
  · exact absurd here (hn _)
  · have : i = a.length := by
      rcases Nat.lt_trichotomy i a.length with h | h | h
      · exact absurd here (hn _ h)
      · exact h
      · exact absurd hi (last _ h)
    subst this
    rw [h0]
    simp only [PyProof.Rows.strSub_mk, xl, xn, yn]
    refine Prod.ext ?_ (Prod.ext rfl ?_)
    · show (⟨((a.cps.toList ++ [32, 103, 111, 32, 48 + d]).drop 0 |>.take (a.length - 0)).toArray⟩ : Str) = a
      rw [List.drop_zero, Nat.sub_zero, ← al, List.take_left]
    · show (⟨(((a.cps.toList ++ [32, 103, 111, 32, 48 + d]).drop (a.length + 4)).take (a.length + 5 - (a.length + 4))).toArray⟩ : Str) = dg d
      rw [← al, List.drop_append, List.drop_eq_nil_of_le (by omega), show a.cps.toList.length + 4 - a.cps.toList.length = 4 from by omega, show a.cps.toList.length + 5 - (a.cps.toList.length + 4) = 1 from by omega, ← TL.mk_tl (dg d)]
      show (⟨_⟩ : Str) = ⟨((dg d).cps.toList).toArray⟩
      rw [dg_one d hd]
      rfl
section
variable {A : Ad} {S : WS} {q : D → WS → Prop} {x : Xq} {u v : List PR} {g i m : Nat}
theorem no_eq (h : SuOk u) : 61 ∉ TL.tl (sumTx u) := sumTx_no (by decide +kernel) (by decide) (by decide) (by decide) (by decide) (by decide) h.tm.nm
theorem part_eq (hu : SuOk u) {b : Str} : Txt.partition (sumTx u ++ " == " ++ b) " == " = (sumTx u, (" == " : Str), b) := by
  have yl : TL.tl (" == " : Str) = [32, 61, 61, 32] := by decide +kernel
  have hno := no_eq hu
  rw [TL.partition_par _ _ (by rw [yl]; simp), TL.tl_append, TL.tl_append, List.append_assoc, yl, TL.par_part (by simp) fun i hi => ?_]
  · show ((⟨([] ++ TL.tl (sumTx u)).toArray⟩ : Str), (" == " : Str), (⟨(TL.tl b).toArray⟩ : Str)) = _
    rw [List.nil_append, TL.mk_tl, TL.mk_tl]
  · generalize TL.tl (sumTx u) = p at hno hi
    cases e : TL.pre [32, 61, 61, 32] ((p ++ ([32, 61, 61, 32] ++ TL.tl b)).drop i) with
    | false => rfl
    | true =>
      exfalso
      unfold TL.pre at e
      have e' : ((p ++ ([32, 61, 61, 32] ++ TL.tl b)).drop i).take 4 = [32, 61, 61, 32] := by simpa using e
      have e1 : (p ++ ([32, 61, 61, 32] ++ TL.tl b))[i + 1]? = some 61 := by
        have := congrArg (fun l : List Nat => l[1]?) e'
        simpa [List.getElem?_take, List.getElem?_drop] using this
      by_cases h1 : i + 1 < p.length
      · rw [List.getElem?_append_left h1] at e1
        exact hno (List.mem_of_getElem? e1)
      · have : i + 1 = p.length := by omega
        rw [this, List.getElem?_append_right (Nat.le_refl _), Nat.sub_self] at e1
        simp at e1
theorem part_if {r : Str} (hr : r.length ≤ 4000) : partitionD S (.str ("if " ++ r)) (.str " ") = some (.tup [.str "if", .str " ", .str r]) := by
  have e1 := TL.partition_app (y := " ") (s := 32) (S := []) (by decide +kernel) (a := "if") (b := r) (by decide +kernel)
  have e5 : ("if " : Str) = "if" ++ " " := by decide +kernel
  have hs : small ("if" ++ " " ++ r).length = true := small_of (by rw [cat_len, cat_len, show ("if" : Str).length = 2 from by decide +kernel, show (" " : Str).length = 1 from by decide +kernel]; omega)
  rw [e5]
  simp only [partitionD, onStr]
  simp only [e1, hs, spF_len]
  rfl
theorem goal_withG {i g m : Nat} (h1 : i < g) (h2 : g < m) (h7 : g ≤ 7) (hq : q (.int (g : Nat)) S) : G_goal_with A [.str (dg g), .int (i : Nat), .int (m : Nat)] S q x := by
  have l1 : (dg g).length = 1 := by rw [len_cps, dg_one g h7]; rfl
  have ln : lenD S [.str (dg g)] = some (.int 1) := by
    simp only [lenD, l1]
    rfl
  have hin : inSD true S (.str (dg g)) (.str "0123456789") = some (.bl false) := by
    have : g = 0 ∨ g = 1 ∨ g = 2 ∨ g = 3 ∨ g = 4 ∨ g = 5 ∨ g = 6 ∨ g = 7 := by omega
    rcases this with rfl | rfl | rfl | rfl | rfl | rfl | rfl | rfl <;> rfl
  have hint : intTD S [.str (dg g)] = some (.int (g : Nat)) := by
    have e : dg g = ⟨#[48 + g]⟩ := by
      rw [← TL.mk_tl (dg g)]
      show (⟨((dg g).cps.toList).toArray⟩ : Str) = _
      rw [dg_one g h7]
    rw [e, dg_int (by omega)]
    congr 2
    omega
  have c1 : decide ((i : Int) < (g : Int)) = true := decide_eq_true (by omega)
  have c2 : decide ((g : Int) < (m : Int)) = true := decide_eq_true (by omega)
  have c3 : decide ((g : Int) < 8) = true := decide_eq_true (by omega)
  rw [D_goal_with]
  unfold fnD startE
  simp only [List.map_cons, List.map_nil, List.length_cons, List.length_nil, Nat.reduceAdd, Nat.reduceSub, List.replicate, List.cons_append, List.nil_append, List.append_nil, Nat.zero_add]
  unfold B_goal_with
  refine seq_gen fun N_ hN_ => ?_
  simp? [ln, hin, decide_true]
  subst hN_
  refine seq_gen fun N_ hN_ => ?_
  simp? [hint]
  subst hN_
  simp? [c1, c2, c3]
  exact hq
theorem test_stepG (hu : SuOk u) (hv : SuOk v) (h1 : i < g) (h2 : g < m) (h7 : g ≤ 7) (hq : q (.tup [.str "if", sumV A u, sumV A v, .int (g : Nat)]) S) : G_test_step A [.str (sumTx u ++ " == " ++ sumTx v ++ " go " ++ dg g), .int (i : Nat), .int (m : Nat)] S q x := by
  have lu := sumTx_len hu.tm
  have lv := sumTx_len hv.tm
  have u12 := hu.few
  have v12 := hv.few
  have l4 : (" go " : Str).length = 4 := by decide +kernel
  have l5 : (" == " : Str).length = 4 := by decide +kernel
  have l1 : (dg g).length = 1 := by rw [len_cps, dg_one g h7]; rfl
  have s1 : small (sumTx u ++ " == " ++ sumTx v ++ " go " ++ dg g).length = true := small_of (by rw [cat_len, cat_len, cat_len, cat_len, l4, l5, l1]; omega)
  have s2 : small (sumTx u ++ " == " ++ sumTx v).length = true := small_of (by rw [cat_len, cat_len, l5]; omega)
  have rp : rpartitionD S (.str (sumTx u ++ " == " ++ sumTx v ++ " go " ++ dg g)) (.str " go ") = some (.tup [.str (sumTx u ++ " == " ++ sumTx v), .str " go ", .str (dg g)]) := by
    have n4 : (" go " : Str).length ≠ 0 := by rw [l4]; decide
    simp only [rpartitionD, onStr]
    rw [if_pos ⟨n4, s1⟩, rpart_go h7]
  have pp : partitionD S (.str (sumTx u ++ " == " ++ sumTx v)) (.str " == ") = some (.tup [.str (sumTx u), .str " == ", .str (sumTx v)]) := by
    have n4 : (" == " : Str).length ≠ 0 := by rw [l5]; decide
    simp only [partitionD, onStr]
    rw [if_pos ⟨n4, s2⟩, part_eq hu]
  have e1 : decide ((" go " : Str) = "") = false := by decide +kernel
  have e2 : decide ((" == " : Str) = "") = false := by decide +kernel
  have nn : ∀ w : List PR, isND false S (sumV A w) .non = some (.bl false) := fun w => rfl
  rw [D_test_step]
  unfold fnD startE
  simp only [List.map_cons, List.map_nil, List.length_cons, List.length_nil, Nat.reduceAdd, Nat.reduceSub, List.replicate, List.cons_append, List.nil_append, List.append_nil, Nat.zero_add]
  unfold B_test_step
  refine seq_gen fun N_ hN_ => ?_
  simp? [rp]
  subst hN_
  refine seq_gen fun N_ hN_ => ?_
  simp? [pp]
  subst hN_
  refine seq_gen fun N_ hN_ => ?_
  simp? []
  refine goal_withG h1 h2 h7 ?_
  simp? []
  subst hN_
  refine seq_gen fun N_ hN_ => ?_
  simp? []
  refine sum_withG hu.tm (by omega) ?_
  simp? []
  refine sum_withG hv.tm (by omega) ?_
  simp? []
  subst hN_
  refine seq_gen fun N_ hN_ => ?_
  simp? [e1, e2, nn, isN_int]
  subst hN_
  simp? []
  exact hq
theorem stepG_if (hu : SuOk u) (hv : SuOk v) (h1 : i < g) (h2 : g < m) (h7 : g ≤ 7) (hq : q (stpD A (.iff u v g)) S) : G_step_of A [.str (lnTx (.iff u v g)), .int (i : Nat), .int (m : Nat)] S q x := by
  have lu := sumTx_len hu.tm
  have lv := sumTx_len hv.tm
  have u12 := hu.few
  have v12 := hv.few
  have l4 : (" go " : Str).length = 4 := by decide +kernel
  have l5 : (" == " : Str).length = 4 := by decide +kernel
  have l1 : (dg g).length = 1 := by rw [len_cps, dg_one g h7]; rfl
  have ea : lnTx (.iff u v g) = "if " ++ (sumTx u ++ " == " ++ sumTx v ++ " go " ++ dg g) := by
    show "if " ++ sumTx u ++ " == " ++ sumTx v ++ " go " ++ dg g = _
    simp only [cat_as]
  have hl : (sumTx u ++ " == " ++ sumTx v ++ " go " ++ dg g).length ≤ 4000 := by rw [cat_len, cat_len, cat_len, cat_len, l4, l5, l1]; omega
  have nd : decide (("if " ++ (sumTx u ++ " == " ++ sumTx v ++ " go " ++ dg g) : Str) = "doubt") = false := by
    refine decide_eq_false fun e => ?_
    have z : ("if " ++ (sumTx u ++ " == " ++ sumTx v ++ " go " ++ dg g) : Str).cps.toList.head? = ("doubt" : Str).cps.toList.head? := by rw [e]
    rw [cat_cps] at z
    have y : ("if " : Str).cps.toList = [105, 102, 32] := by decide +kernel
    have y2 : ("doubt" : Str).cps.toList = [100, 111, 117, 98, 116] := by decide +kernel
    rw [y, y2] at z
    simp at z
  have e1 : decide (("if" : Str) = "if") = true := by decide +kernel
  rw [ea]
  rw [D_step_of]
  unfold fnD startE
  simp only [List.map_cons, List.map_nil, List.length_cons, List.length_nil, Nat.reduceAdd, Nat.reduceSub, List.replicate, List.cons_append, List.nil_append, List.append_nil, Nat.zero_add]
  unfold B_step_of
  refine seq_gen fun N_ hN_ => ?_
  simp? [isi_str]
  subst hN_
  refine seq_gen fun N_ hN_ => ?_
  simp? [nd]
  subst hN_
  refine seq_gen fun N_ hN_ => ?_
  simp? [part_if hl]
  subst hN_
  simp? [e1]
  refine test_stepG hu hv h1 h2 h7 ?_
  simp? []
  exact hq
theorem rd_all {ss : List Stp} (h : RlOk ss) : RdOk2 A ss := fun i s hs S q x hq => by
  have hk := h.ok i s hs
  cases s with
  | iff u v g => exact stepG_if hk.1 hk.2.1 hk.2.2.1 hk.2.2.2.1 hk.2.2.2.2 hq
  | vote n Ts => exact stepG_vote hk.1 hk.2 hq
  | tell u => exact stepG_tell hk hq
  | doubt => exact stepG_doubt hq
end
end RV
end
section
/-! Law k52: drawn comprehensions, outcomes, reprs. -/
namespace RV
open PySem L2
def PdL {α β : Type} (P : α → β → Prop) : List α → List β → Prop
  | [], [] => True
  | a :: as, b :: bs => P a b ∧ PdL P as bs
  | _, _ => False
theorem PdL.len {α β : Type} {P : α → β → Prop} : ∀ {as : List α} {bs : List β}, PdL P as bs → bs.length = as.length
  | [], [], _ => rfl
  | _ :: _, _ :: _, h => by rw [List.length_cons, List.length_cons, PdL.len h.2]
  | [], _ :: _, h => h.elim
  | _ :: _, [], h => h.elim
theorem PdL.get {α β : Type} {P : α → β → Prop} {za : α} {zb : β} : ∀ {as : List α} {bs : List β}, PdL P as bs → ∀ {i : Nat}, i < as.length → P (as.getD i za) (bs.getD i zb)
  | [], [], _, i, h => by simp at h
  | a :: as, b :: bs, h, 0, _ => h.1
  | a :: as, b :: bs, h, i + 1, hi => by
    rw [List.getD_cons_succ, List.getD_cons_succ]
    exact PdL.get h.2 (by simpa using hi)
  | [], _ :: _, h, _, _ => h.elim
  | _ :: _, [], h, _, _ => h.elim
theorem PdL.mem {α β : Type} {P : α → β → Prop} : ∀ {as : List α} {bs : List β}, PdL P as bs → ∀ b ∈ bs, ∃ a ∈ as, P a b
  | [], [], _, b, h => by simp at h
  | a :: as, c :: bs, h, b, hb => by
    rcases List.mem_cons.mp hb with rfl | hb
    · exact ⟨a, List.mem_cons_self .., h.1⟩
    · obtain ⟨z, h1, h2⟩ := PdL.mem h.2 b hb
      exact ⟨z, List.mem_cons_of_mem _ h1, h2⟩
  | [], _ :: _, h, _, _ => h.elim
  | _ :: _, [], h, _, _ => h.elim
section
variable {A : Ad} {S T : WS} {k : Nat} {n m : Int} {w : W} {q : D → WS → Prop} {x : Xq} {tags : List Str} {rs : List LR} {fs : List FR} {R : List (Option Int)} {ss : List Stp}
theorem lc_drawB {α β : Type} {inj : α → D} {inj2 : β → D} {P : α → β → Prop} {N : WS → Prop} {f : D → RV.Env → Option RV.Env} {me : RV.Env → M} {ρ : RV.Env} {c B : Int} {Q : List D → WS → Prop} (hc : 0 ≤ c) (hN : ∀ w, N (st S k w T)) : ∀ (xs : List α) (acc : List D) (n : Int) (w : W), Good n w → n + c * xs.length ≤ B →
    (∀ a ∈ xs, ∃ ρ1, f (inj a) ρ = some ρ1 ∧ ∀ (n : Int) (w : W) (q : D → WS → Prop), Good n w → n + c ≤ B → (∀ b w', P a b → Good (n + c) w' → q (inj2 b) (st S k w' T)) → me ρ1 (st S k w T) q noX) →
    (∀ ys w', PdL P xs ys → Good (n + c * xs.length) w' → Q (acc ++ ys.map inj2) (st S k w' T)) → lcD N f bYes me ρ (xs.map inj) acc (st S k w T) Q
  | [], acc, n, w, g, hB, _, h => by
    have := h [] w trivial (g.mono (by simp))
    rw [List.map_nil, List.append_nil] at this
    exact ⟨hN w, this⟩
  | a :: xs, acc, n, w, g, hB, hs, h => by
    have hm : c * ((a :: xs).length : Nat) = c * (xs.length : Nat) + c := by
      rw [List.length_cons, Int.natCast_add, Int.mul_add]
      omega
    have h0 : 0 ≤ c * (xs.length : Nat) := Int.mul_nonneg hc (by omega)
    obtain ⟨ρ1, h1, h2⟩ := hs a (List.mem_cons_self ..)
    rw [hm] at hB h
    rw [List.map_cons]
    unfold lcD
    refine ⟨hN w, ?_⟩
    rw [h1]
    show me ρ1 _ _ noX
    refine h2 n w _ g (by omega) fun b w' hb g' => ?_
    refine lc_drawB hc hN xs (acc ++ [inj2 b]) (n + c) w' g' (by omega) (fun e he => hs e (List.mem_cons_of_mem _ he)) fun ys w2 hys g2 => ?_
    have := h (b :: ys) w2 ⟨hb, hys⟩ (g2.mono (by omega))
    rw [List.map_cons] at this
    rw [List.append_assoc]
    exact this
theorem sh_bigB {i : Int} (h : i.natAbs < 10000000000000000000000000000000000000000000000000000000000) : ShOk 0 300 (.int i) := by
  have lg : i.natAbs.log2 < 200 := by
    by_cases z : i.natAbs = 0
    · rw [z]; decide
    · exact (Nat.log2_lt z).2 (Nat.lt_trans h (by decide : (10000000000000000000000000000000000000000000000000000000000 : Nat) < 2 ^ 200))
  refine ⟨?_, rfl, Nat.zero_le _, ?_, ?_⟩
  · have : i.natAbs.log2 < 1920 := by omega
    simp only [PyData.showable, this, decide_true]
  · have e := int_text_length_le10 (a := i) (k := 58) (by decide) (Nat.lt_of_lt_of_le h (by decide))
    have e2 : (PyData.shown (.int i)).length = (toString i).length := by
      show (Str.ofString (toString i)).length = _
      exact ofString_length _
    simp only [PyData.leavesShort]
    exact decide_eq_true (by omega)
  · simp only [PyData.weight]
    split <;> omega
/-! ### rules of votes of single meters -/
theorem foldl_lenB : ∀ {us : List (List PR)} {T : List Str} {B : Nat}, (∀ u ∈ us, u.length ≤ B) → (us.foldl pushN T).length ≤ T.length + B * us.length
  | [], T, B, _ => by simp
  | u :: us, T, B, h => by
    have h1 := h u (List.mem_cons_self ..)
    have ih := foldl_lenB (us := us) (T := pushN T u) (B := B) fun w hw => h w (List.mem_cons_of_mem _ hw)
    have e : (pushN T u).length = u.length + T.length := by
      unfold pushN
      simp
    rw [List.foldl_cons, List.length_cons, Nat.mul_succ]
    omega
theorem nms_lenB {B C : Nat} : ∀ {ss : List Stp} {T : List Str}, (∀ s ∈ ss, (sumsT s).length ≤ C ∧ ∀ u ∈ sumsT s, u.length ≤ B) → (nmsT ss T).length ≤ T.length + B * C * ss.length
  | [], T, _ => by simp [nmsT]
  | s :: ss, T, h => by
    obtain ⟨h1, h2⟩ := h s (List.mem_cons_self ..)
    have ih := nms_lenB (B := B) (C := C) (ss := ss) (T := (sumsT s).foldl pushN T) fun w hw => h w (List.mem_cons_of_mem _ hw)
    have h3 := foldl_lenB (us := sumsT s) (T := T) h2
    have h4 : B * (sumsT s).length ≤ B * C := Nat.mul_le_mul_left _ h1
    unfold nmsT
    rw [List.length_cons, Nat.mul_succ]
    omega
end
end RV
end
section
/-! Law k52: a drawn net and its rules. -/
namespace RV
open PySem L2
/-! ### texts of rows are plain -/
theorem lnTx_ok {s : Stp} (h : StpOk s) : PyData.strOk (lnTx s) = true := by
  have lits : ∀ c, 128 ≤ c → ∀ y ∈ [("tell " : Str), "doubt", "if ", " == ", " go "], c ∉ TL.tl y := fun c hc y hy z => by
    have : ∀ y ∈ [("tell " : Str), "doubt", "if ", " == ", " go "], ∀ d ∈ TL.tl y, d < 128 := by decide +kernel
    have := this y hy c z
    omega
  have al : ∀ c, 128 ≤ c → (isLt c || isDg c) = false := fun c hc => by
    cases e : (isLt c || isDg c) with
    | false => rfl
    | true => have := isAl_lt e; omega
  have sums : ∀ c, 128 ≤ c → ∀ u, SuOk u → c ∉ TL.tl (sumTx u) := fun c hc u hu => sumTx_no (al c hc) (by omega) (by omega) (by omega) (by omega) (by omega) hu.tm.nm
  cases s with
  | vote n Ts => exact vote_ok h.1
  | doubt =>
    show PyData.strOk ("doubt" : Str) = true
    decide +kernel
  | tell u =>
    have key : ∀ c ∈ TL.tl ("tell " ++ sumTx u), c < 128 := fun c hc => by
      refine Nat.lt_of_not_le fun hle => absurd hc ?_
      exact no_cat (lits c hle _ (by simp)) (sums c hle u h)
    show PyData.strOk ("tell " ++ sumTx u) = true
    exact strOk_of key
  | iff u v g =>
    obtain ⟨hu, hv, hg⟩ := h
    have key : ∀ c ∈ TL.tl ("if " ++ sumTx u ++ " == " ++ sumTx v ++ " go " ++ dg g), c < 128 := fun c hc => by
      refine Nat.lt_of_not_le fun hle => absurd hc ?_
      exact no_cat (no_cat (no_cat (no_cat (no_cat (lits c hle _ (by simp)) (sums c hle u hu)) (lits c hle _ (by simp))) (sums c hle v hv)) (lits c hle _ (by simp))) (dg_no (by omega))
    show PyData.strOk ("if " ++ sumTx u ++ " == " ++ sumTx v ++ " go " ++ dg g) = true
    exact strOk_of key
where
  strOk_of {t : Str} (key : ∀ c ∈ TL.tl t, c < 128) : PyData.strOk t = true := by
    unfold PyData.strOk
    rw [Array.all_eq_true]
    intro i hi
    have hm : t.cps[i] ∈ TL.tl t := by
      show t.cps[i] ∈ t.cps.toList
      simp
    have := key _ hm
    exact decide_eq_true (by omega)
theorem eqD_tupN {S : WS} {ts : List Str} (h : ∀ t ∈ ts, PyData.strOk t = true) (h0 : 0 < ts.length) : eqD S (.tup (ts.map D.str)) (.tup []) = some (.bl false) := by
  have h1 : SeqAt.shaped (.tuple (ts.map PyData.str)) = true := by
    simp [SeqAt.shaped, PyData.canLay0, lay_strs ts h, PyData.depth, depth_strs]
  have h2 : SeqAt.shaped (.tuple []) = true := by decide +kernel
  have e1 : pyS S (.tup (ts.map D.str)) = some (.tuple (ts.map PyData.str)) := by
    show (D.pyL (ts.map D.str)).map PyData.tuple = _
    rw [pyL_str]
    rfl
  have e2 : pyS S (.tup []) = some (.tuple []) := rfl
  have e3 : PyData.eqv (.tuple (ts.map PyData.str)) (.tuple []) = false := by
    cases ts with
    | nil => simp at h0
    | cons t ts => simp [PyData.eqv, PyData.eqvAll]
  unfold eqD eqAny eqPyS
  rw [show eqScal (.tup (ts.map D.str)) (.tup []) = none from rfl, e1, e2]
  simp only [Option.bind_some, h1, h2, and_self, if_true, e3, Option.orElse, Option.map_some]
section
variable {A : Ad} {S T U : WS} {k pc rc : Nat} {n m : Int} {w : W} {q : D → WS → Prop} {x : Xq} {ps tags : List Str} {pp : List PRow} {gg : List GRow} {ss : List Stp} {ls : List Str}
end
end RV
end
section
namespace RV
open PySem L2
theorem getD_mem {α : Type} {xs : List α} {i : Nat} {z : α} (h : i < xs.length) : xs.getD i z ∈ xs := by
  rw [List.getD_eq_getElem?_getD, List.getElem?_eq_getElem h]
  exact List.getElem_mem h
theorem neD_cons {S : WS} {d : D} {ds : List D} : neD S (.lst (d :: ds)) (.lst []) = some (.bl true) := by
  have hl : eqLen S (.lst (d :: ds)) (.lst []) = some false := by simp [eqLen, lstOf]
  unfold neD eqAny
  rw [show eqScal (.lst (d :: ds)) (.lst []) = none from rfl, hl]
  unfold eqPyS
  cases hp : pyS S (.lst (d :: ds)) with
  | none => rfl
  | some p =>
    have e2 : pyS S (.lst []) = some (.list []) := rfl
    rw [e2, Option.bind_some, Option.bind_some]
    split
    · have : PyData.eqv p (.list []) = false := by
        simp only [pyS, D.py, Option.map_eq_some_iff] at hp
        obtain ⟨ps, h1, rfl⟩ := hp
        cases ps with
        | nil => 
          simp only [D.pyL] at h1
          simp [Option.bind_eq_some_iff] at h1
        | cons => rfl
      rw [this]
      rfl
    · rfl
theorem getD_of {α : Type} {xs : List α} {i : Nat} {z : α} (h : i < xs.length) : xs.getD i z = xs[i] := by
  rw [List.getD_eq_getElem?_getD, List.getElem?_eq_getElem h]
  rfl
theorem atI_natC {α : Type} {xs : List α} {j : Nat} (h : j < xs.length) : atI xs (j : Int) = xs[j]? := by
  rw [atI_nat (by omega) (by omega), Int.toNat_natCast]
theorem ix_lst {S : WS} {xs : List D} {j : Nat} (h : j < xs.length) : ixD S (.lst xs) (.int (j : Int)) = xs[j]? := by
  simp only [ixD]
  exact atI_natC h
theorem ix_map {α : Type} {f : α → D} {xs : List α} {i : Nat} {z : α} (h : i < xs.length) : ixD S (.lst (xs.map f)) (.int (i : Int)) = some (f (xs.getD i z)) := by
  rw [ix_lst (by rw [List.length_map]; exact h), List.getElem?_map, List.getElem?_eq_getElem h, getD_of h]
  rfl
theorem sIf_by {b : Bool} {mc : RV.Env → MB} {m1 m2 : RV.Env → MS} {ρ : RV.Env} {S : WS} {kt : Kt} (h : ∀ (P : Bool → WS → Prop) (z : Xq), P b S → mc ρ S P z) (h2 : iteB b (m1 ρ S kt) (m2 ρ S kt)) : sIf mc m1 m2 ρ S kt := h _ _ h2
theorem range0 (n : Nat) : List.range n = List.range' 0 n := List.range_eq_range'
end RV
end
section
/-! Drawn sums. -/
namespace RV
open PySem L2
section
variable {A : Ad} {S T : WS} {k : Nat} {n : Int} {w : W} {q : D → WS → Prop} {x : Xq} {tags : List Str} {m wd w0 : Nat}
theorem timesG (hk : k < S.length) (g : Good n w) (hn : n < 100000000000000000) (hw : 12 ≤ wd) (hv0 : w0 ≠ 0 ∧ w0 ≤ wd) (h : ∀ (t : Int) w', t ≠ 0 → t.natAbs ≤ wd → Good (n + 2) w' → q (.int t) (st S k w' T)) : G_times_k47 A [.cell k, .int (w0 : Nat)] (st S k w T) q x := by
  rw [D_times_k47]
  unfold fnD startE
  simp only [List.map_cons, List.map_nil, List.length_cons, List.length_nil, Nat.reduceAdd, Nat.reduceSub, List.replicate, List.cons_append, List.nil_append, List.append_nil, Nat.zero_add]
  unfold B_times_k47
  refine seq_gen fun N_ hN_ => ?_
  simp? []
  refine takeG hk g (by decide) (by decide) (by omega) fun d w1 d0 d1 g1 => ?_
  obtain ⟨z, hz0, hz1, hz⟩ : ∃ z : Nat, z ≠ 0 ∧ z ≤ wd ∧ ∀ S, ixD S (.lst [.int 1, .int 1, .int 1, .int 1, .int 2, .int 3, .int 12, .int (w0 : Nat)]) (.int d) = some (.int (z : Nat)) := by
    have : d = 0 ∨ d = 1 ∨ d = 2 ∨ d = 3 ∨ d = 4 ∨ d = 5 ∨ d = 6 ∨ d = 7 := by omega
    rcases this with rfl | rfl | rfl | rfl | rfl | rfl | rfl | rfl
    · exact ⟨1, by decide, by omega, fun _ => rfl⟩
    · exact ⟨1, by decide, by omega, fun _ => rfl⟩
    · exact ⟨1, by decide, by omega, fun _ => rfl⟩
    · exact ⟨1, by decide, by omega, fun _ => rfl⟩
    · exact ⟨2, by decide, by omega, fun _ => rfl⟩
    · exact ⟨3, by decide, by omega, fun _ => rfl⟩
    · exact ⟨12, by decide, by omega, fun _ => rfl⟩
    · exact ⟨w0, hv0.1, hv0.2, fun _ => rfl⟩
  simp? [hz]
  subst hN_
  have ng : ∀ S : WS, negD S (.int (z : Nat)) = some (.int (-(z : Int))) := fun _ => rfl
  simp? [ng]
  refine takeG hk g1 (by decide) (by decide) (by omega) fun d w2 d0 d1 g2 => ?_
  have : d = 0 ∨ d = 1 := by omega
  rcases this with rfl | rfl
  · simp? [show ∀ (S : WS) (a b : D), ixD S (.lst [a, b]) (.int 0) = some a from fun _ _ _ => rfl]
    exact h z w2 (by omega) (by omega) (g2.mono (by omega))
  · simp? [show ∀ (S : WS) (a b : D), ixD S (.lst [a, b]) (.int 1) = some b from fun _ _ _ => rfl]
    exact h _ w2 (by omega) (by omega) (g2.mono (by omega))
/-- what a drawn sum is -/
structure Su5 (tags : List Str) (m wd : Nat) (ts : List PR) : Prop where
  tm : TmOk ts
  few : ts.length ≤ m
  inn : ∀ p ∈ ts, p.1 ∈ tags
  sml : ∀ p ∈ ts, p.2.natAbs ≤ wd
structure Ch5 (tags : List Str) (wd : Nat) (ps : List (Str × Int)) : Prop where
  nd : (ps.map (·.1)).Nodup
  inn : ∀ p ∈ ps, p.1 ∈ tags
  nz : ∀ p ∈ ps, p.2 ≠ 0
  sml : ∀ p ∈ ps, p.2.natAbs ≤ wd
theorem sortQ_mem {ps : List (Str × Int)} (nd : (ps.map (·.1)).Nodup) {p : Str × Int} (h : p ∈ sortQ ps) : p ∈ ps := by
  unfold sortQ at h
  obtain ⟨s, hs, rfl⟩ := List.mem_map.mp h
  rw [mem_ascS] at hs
  obtain ⟨p', hp', rfl⟩ := List.mem_map.mp hs
  rw [valQ_mem nd hp']
  exact hp'
theorem Ch5.su {ps : List (Str × Int)} (h : Ch5 tags wd ps) (hn : ∀ t ∈ tags, Nm t) (hl : ps.length ≤ m) (hw : wd < 10000000000000000000000000000000000000000) : Su5 tags m wd (sortQ ps) where
  tm := ⟨fun p hp => hn _ (h.inn p (sortQ_mem h.nd hp)), fun p hp => h.nz p (sortQ_mem h.nd hp), by
    have e : (sortQ ps).map (·.1) = ascS (ps.map (·.1)) := by
      unfold sortQ
      rw [List.map_map]
      exact List.map_id' _
    rw [e]
    exact asc_ascS _, fun p hp => Nat.lt_of_le_of_lt (h.sml p (sortQ_mem h.nd hp)) hw⟩
  few := by
    unfold sortQ
    have := len_ascS (ps.map (·.1))
    rw [List.length_map] at this ⊢
    omega
  inn := fun p hp => h.inn p (sortQ_mem h.nd hp)
  sml := fun p hp => h.sml p (sortQ_mem h.nd hp)
theorem eqA_nilD : eqAny S (.lst []) (.lst []) = some true := by
  have hs : SeqAt.shaped (.list []) = true := rfl
  unfold eqAny eqPyS
  simp only [show eqScal (.lst []) (.lst []) = none from rfl, show pyS S (.lst []) = some (.list []) from rfl, Option.bind_some, hs, and_self, if_true, SeqAt.eqv_refl (.list []) rfl, Option.orElse, Option.map_some]
theorem neD_consD {d : D} {ds : List D} : neD S (.lst (d :: ds)) (.lst []) = some (.bl true) := neD_cons
theorem clean_prQ {n : Nat} {ps : List (Str × Int)} : D.cleanL n (ps.map prQD) = true := cleanL_map fun _ _ => rfl
theorem totalG (hk : k < S.length) (g : Good n w) (hn : n < 10000000000000000) (hw : 12 ≤ wd) (hv0 : w0 ≠ 0 ∧ w0 ≤ wd) (hw2 : wd < 10000000000000000000000000000000000000000) (hm : m ≤ 12) (ht : ∀ t ∈ tags, Nm t) (htl : tags.length ≤ 12) (h : ∀ (ts : List PR) w', Su5 tags m wd ts → Good (n + 100) w' → q (.lst (ts.map prD)) (st S k w' T)) : G_total_k47 A [.cell k, .lst (tags.map D.str), .int (m : Nat), .int (w0 : Nat)] (st S k w T) q x := by
  have lt : ∀ S, lenD S [.lst (tags.map D.str)] = some (.int (tags.length : Nat)) := fun S => by simp [lenD, itemsD]
  have go : ∀ (js : List Nat) (ps : List (Str × Int)) (o5 o6 o7 : Option D) (n : Int) (w : W) (kt : Kt), (js ≠ [] → 0 < tags.length) → Ch5 tags wd ps → ps.length + js.length ≤ m → Good n w → n + 4 * js.length < 100000000000000000 →
      (∀ (ps : List (Str × Int)) o5 o6 o7 w', Ch5 tags wd ps → ps.length ≤ m → Good (n + 4 * js.length) w' → kt.nx [some (.cell k), some (.lst (tags.map D.str)), some (.int (m : Nat)), some (.int (w0 : Nat)), some (.cell (S.length + T.length)), o5, o6, o7, none] (st S k w' (T ++ [.lst (ps.map prQD)]))) →
      forD any_ (tName 5) (L_total_k47_0 A) (js.map fun (i : Nat) => D.int (i : Int)) [some (.cell k), some (.lst (tags.map D.str)), some (.int (m : Nat)), some (.int (w0 : Nat)), some (.cell (S.length + T.length)), o5, o6, o7, none] (st S k w (T ++ [.lst (ps.map prQD)])) kt := fun js => by
    induction js with
    | nil =>
      intro ps o5 o6 o7 n w kt _ hc hl g _ hk2
      exact ⟨trivial, hk2 ps _ _ _ w hc (by simpa using hl) (g.mono (by simp))⟩
    | cons j js ih =>
      intro ps o5 o6 o7 n w kt h0 hc hl g hn hk2
      simp only [List.length_cons] at hl hn hk2
      have h0 := h0 (by simp)
      rw [List.map_cons]
      refine for_nameG trivial fun J hJ => ?_
      unfold L_total_k47_0
      refine seq_gen fun N_ hN_ => ?_
      simp? [lt]
      refine takeG hk g (by omega) (by omega) (by omega) fun d w1 d0 d1 g1 => ?_
      obtain ⟨e, rfl⟩ : ∃ e : Nat, d = (e : Int) := ⟨d.toNat, by omega⟩
      have he : e < tags.length := by omega
      have hmem : tags.getD e "" ∈ tags := getD_mem he
      simp? [ix_map (f := D.str) (z := ("" : Str)) he]
      refine timesG hk g1 (by omega) hw hv0 fun t w2 t0 t1 g2 => ?_
      simp? []
      subst hN_
      generalize tags.getD e "" = tg at hmem
      have next : ∀ (ps' : List (Str × Int)), Ch5 tags wd ps' → ps'.length ≤ ps.length + 1 → J [some (.cell k), some (.lst (tags.map D.str)), some (.int (m : Nat)), some (.int (w0 : Nat)), some (.cell (S.length + T.length)), some (.int (j : Nat)), some (.str tg), some (.int t), none] (st S k w2 (T ++ [.lst (ps'.map prQD)])) := fun ps' h1 h2 => by
        rw [hJ]
        refine ih ps' _ _ _ (n + 3) w2 kt (fun _ => h0) h1 (by omega) (g2.mono (by omega)) (by omega) fun ps2 o5 o6 o7 w' z1 z2 g' => hk2 ps2 o5 o6 o7 w' z1 z2 (g'.mono (by omega))
      have nin : ∀ S, inD true S (.str tg) (.lst ((ps.map (·.1)).map D.str)) = some (.bl (decide (¬ tg ∈ ps.map (·.1)))) := fun S => by
        rw [in_strs (ts := ps.map (·.1)) rfl, if_pos rfl]
      have i0 : ∀ (S : WS) (p : Str × Int), ixD S (prQD p) (.int 0) = some (.str p.1) := fun _ _ => rfl
      have pl : ps.length ≤ 12 := by omega
      have es : (ps.map fun p : Str × Int => D.str p.1) = (ps.map (·.1)).map D.str := by rw [List.map_map]; rfl
      refine sIf_by (b := decide (¬ tg ∈ ps.map (·.1))) (fun P z hp => ?_) ?_
      · simp? [st_at0, List.length_map, small_of (n := ps.length) (by omega)]
        rw [lc_mapEq (inj := prQD) (g := fun p : Str × Int => D.str p.1) ps (show Holds _ _ _ from st_at0) (fun p hp => ⟨_, rfl, fun q x => by
          unfold C_total_k47_0
          simp? [i0]⟩), es]
        simp? [nin]
        exact hp
      · by_cases hin : tg ∈ ps.map (·.1)
        · rw [decide_eq_false (fun h => h hin), iteB_f]
          simp? []
          exact next ps hc (by omega)
        · rw [decide_eq_true hin, iteB_t]
          simp? [st_at0, D.clean, D.cleanL, List.length_map, small_of (n := ps.length) (by omega), st_set0]
          have e4 : ps.map prQD ++ [D.tup [.str tg, .int t]] = (ps ++ [(tg, t)]).map prQD := by simp [prQD]
          rw [e4]
          refine ⟨rfl, ?_⟩
          have ok : ∀ (P : Str × Int → Prop), (∀ p ∈ ps, P p) → P (tg, t) → ∀ p ∈ ps ++ [(tg, t)], P p := fun P h1 h2 p hp => by
            rcases List.mem_append.mp hp with z | z
            · exact h1 p z
            · rw [List.mem_singleton] at z
              subst z
              exact h2
          refine next _ ⟨?_, ok _ hc.inn hmem, ok _ hc.nz t0, ok _ hc.sml t1⟩ (by simp)
          rw [List.map_append, List.nodup_append]
          refine ⟨hc.nd, by simp, fun a ha b hb e => ?_⟩
          simp at hb
          subst hb e
          exact hin ha
  have fin_ : ∀ (mm : Nat) (w1 : W), mm ≤ m → (0 < mm → 0 < tags.length) → Good (n + 1) w1 → forD any_ (tName 5) (L_total_k47_0 A) ((List.range mm).map fun (i : Nat) => D.int (i : Int)) [some (.cell k), some (.lst (tags.map D.str)), some (.int (m : Nat)), some (.int (w0 : Nat)), some (.cell (S.length + T.length)), none, none, none, none] (st S k w1 (T ++ [.lst []])) ⟨fun ρ' S' => (sRet (eCall sortQD (aCons (eVar 4) (aNil)))) ρ' S' ⟨fun _ S' => fin (st S k w T).length .non S' q, fun d S' => fin (st S k w T).length d S' q, fun _ _ => False, fun _ _ => False, fun e _ S' => finX (st S k w T).length e S' x⟩, fun d S' => fin (S.length + T.length) d S' q, fun _ _ => False, fun _ _ => False, fun e _ S' => finX (S.length + T.length) e S' x⟩ := fun mm w1 h1 h2 g1 => by
    refine go (List.range mm) [] none none none (n + 1) w1 _ (fun hne => h2 (by cases mm with | zero => exact absurd rfl hne | succ _ => omega)) ⟨by simp, by simp, by simp, by simp⟩ (by simp; omega) g1 (by simp; omega) fun ps o5 o6 o7 w' hc hl g' => ?_
    dsimp only
    have sq : ∀ w, sortQD (st S k w (T ++ [.lst (ps.map prQD)])) [.cell (S.length + T.length)] = some (.lst ((sortQ ps).map prQD)) := fun w => by
      have a0 : (st S k w (T ++ [.lst (ps.map prQD)]))[S.length + T.length]? = some (.lst (ps.map prQD)) := st_at0
      simp only [sortQD, lstOf, a0, Option.bind_some, prsI_map, if_pos hc.nd]
    simp? [sq]
    rw [fin_stT (by unfold D.clean; exact clean_prQ) (fun i e => by cases e)]
    exact h (sortQ ps) w' (hc.su ht hl hw2) (g'.mono (by simp; omega))
  rw [D_total_k47]
  unfold fnD startE
  simp only [List.map_cons, List.map_nil, List.length_cons, List.length_nil, Nat.reduceAdd, Nat.reduceSub, List.replicate, List.cons_append, List.nil_append, List.append_nil, Nat.zero_add]
  unfold B_total_k47
  refine seq_gen fun N_ hN_ => ?_
  simp? [D.cleanL]
  subst hN_
  cases tags with
  | nil =>
    have ne : ∀ S, neD S (.lst (([] : List Str).map D.str)) (.lst []) = some (.bl false) := fun S => by
      unfold neD
      rw [show ([] : List Str).map D.str = [] from rfl, eqA_nilD]
      rfl
    refine seq_gen fun N_ hN_ => ?_
    simp? [ne]
    refine ⟨⟨by omega, by omega⟩, ?_⟩
    subst hN_
    exact fin_ 0 w (by omega) (fun z => absurd z (by omega)) (g.mono (by omega))
  | cons t tags =>
    have ne : ∀ S, neD S (.lst ((t :: tags).map D.str)) (.lst []) = some (.bl true) := fun S => neD_consD
    have e1 : (m : Int) + 1 = ((m + 1 : Nat) : Int) := by omega
    refine seq_gen fun N_ hN_ => ?_
    simp? [ne]
    refine takeG hk g (by omega) (by omega) (by omega) fun d w1 d0 d1 g1 => ?_
    obtain ⟨mm, rfl⟩ : ∃ e : Nat, d = (e : Int) := ⟨d.toNat, by omega⟩
    simp? []
    refine ⟨⟨by omega, by omega⟩, ?_⟩
    rw [upto_nat]
    subst hN_
    exact fin_ mm w1 (by omega) (fun _ => by simp) g1
end
end RV
end
section
/-! Drawn sums picked; last rows. -/
namespace RV
open PySem L2
section
variable {A : Ad} {S T : WS} {k : Nat} {n : Int} {w : W} {q : D → WS → Prop} {x : Xq} {tags : List Str} {m wd w0 : Nat} {Sm : List (List PR)}
def smD (u : List PR) : D := .lst (u.map prD)
theorem Su5.mono {m' : Nat} {u : List PR} (h : Su5 tags m wd u) (hm : m ≤ m') : Su5 tags m' wd u := ⟨h.tm, Nat.le_trans h.few hm, h.inn, h.sml⟩
theorem pickG (hk : k < S.length) (g : Good n w) (hn : n < 1000000000000000) (hw : 12 ≤ wd) (hv0 : w0 ≠ 0 ∧ w0 ≤ wd) (hw2 : wd < 10000000000000000000000000000000000000000) (ht : ∀ t ∈ tags, Nm t) (htl : tags.length ≤ 12) (hS : ∀ u ∈ Sm, Su5 tags 3 wd u) (hl : Sm.length = 3) (h : ∀ (u : List PR) w', Su5 tags 3 wd u → Good (n + 101) w' → q (smD u) (st S k w' T)) : G_pick_k47 A [.cell k, .lst (Sm.map smD), .lst (tags.map D.str), .int (w0 : Nat)] (st S k w T) q x := by
  rw [D_pick_k47]
  unfold fnD startE
  simp only [List.map_cons, List.map_nil, List.length_cons, List.length_nil, Nat.reduceAdd, Nat.reduceSub, List.replicate, List.cons_append, List.nil_append, List.append_nil, Nat.zero_add]
  unfold B_pick_k47
  refine seq_gen fun N_ hN_ => ?_
  simp? []
  refine takeG hk g (by decide) (by decide) (by omega) fun d w1 d0 d1 g1 => ?_
  subst hN_
  obtain ⟨e, rfl⟩ : ∃ e : Nat, d = (e : Int) := ⟨d.toNat, by omega⟩
  simp? []
  refine iteB_dec (fun he => ?_) (fun he => ?_)
  · have he' : e < Sm.length := by omega
    simp? [ix_map (f := smD) (z := ([] : List PR)) he']
    exact h _ w1 (hS _ (getD_mem he')) (g1.mono (by omega))
  · refine totalG (m := 3) hk g1 (by omega) hw hv0 hw2 (by decide) ht htl fun ts w2 hts g2 => ?_
    simp? []
    exact h ts w2 hts (g2.mono (by omega))
theorem lastG (hk : k < S.length) (g : Good n w) (hn : n < 100000000000000) (hw : 12 ≤ wd) (hv0 : w0 ≠ 0 ∧ w0 ≤ wd) (hw2 : wd < 10000000000000000000000000000000000000000) (ht : ∀ t ∈ tags, Nm t) (htl : tags.length ≤ 12) (hS : ∀ u ∈ Sm, Su5 tags 3 wd u) (hl : Sm.length = 3) (h : ∀ (s : Stp) w', (s = .doubt ∨ ∃ u, s = .tell u ∧ Su5 tags 3 wd u) → Good (n + 110) w' → q (stL s) (st S k w' T)) : G_last_k47 A [.cell k, .lst (Sm.map smD), .lst (tags.map D.str), .int (w0 : Nat)] (st S k w T) q x := by
  rw [D_last_k47]
  unfold fnD startE
  simp only [List.map_cons, List.map_nil, List.length_cons, List.length_nil, Nat.reduceAdd, Nat.reduceSub, List.replicate, List.cons_append, List.nil_append, List.append_nil, Nat.zero_add]
  unfold B_last_k47
  simp? []
  refine takeG hk g (by decide) (by decide) (by omega) fun d w1 d0 d1 g1 => ?_
  simp? []
  refine iteB_dec (fun he => ?_) (fun he => ?_)
  · refine pickG hk g1 (by omega) hw hv0 hw2 ht htl hS hl fun u w2 hu g2 => ?_
    simp? []
    exact h (.tell u) w2 (.inr ⟨u, rfl, hu⟩) (g2.mono (by omega))
  · simp? []
    exact h .doubt w1 (.inl rfl) (g1.mono (by omega))
end
end RV
end
section
/-! Drawn rows of a rule. -/
namespace RV
open PySem L2
/-- the rooms that are left -/
def roomsL (left : Nat) : List Nat := ((List.range 10).map (· + 1)).filter fun r => decide (r * (r - 1) ≤ left)
theorem rooms_ok : ∀ l : Fin 91, 1 ≤ (roomsL l.val).length ∧ (roomsL l.val).length ≤ 10 ∧ ∀ c : Fin 10, c.val < (roomsL l.val).length → (c.val + 1) * c.val ≤ l.val := by decide +kernel
/-- what is drawn for the a-th of size rows -/
def StP (tags : List Str) (wd size a : Nat) : Stp → Prop
  | .iff u v g => Su5 tags 3 wd u ∧ Su5 tags 3 wd v ∧ a < g ∧ g < size
  | .vote n Ts => n ≤ 3 ∧ 1 ≤ Ts.length ∧ Ts.length ≤ 10 ∧ ∀ u ∈ Ts, Su5 tags 3 wd u
  | .tell u => Su5 tags 3 wd u
  | .doubt => True
structure StsOk (tags : List Str) (wd : Nat) (ss : List Stp) : Prop where
  lo : 1 ≤ ss.length
  hi : ss.length ≤ 8
  ok : ∀ (a : Nat) (s : Stp), ss[a]? = some s → StP tags wd ss.length a s
  last : ∃ s, ss[ss.length - 1]? = some s ∧ ((∃ u, s = .tell u) ∨ s = .doubt)
theorem Su5.su {tags : List Str} {wd : Nat} {u : List PR} (h : Su5 tags 3 wd u) : SuOk u := ⟨h.tm, Nat.le_trans h.few (by decide)⟩
/-- drawn rows are a rule's -/
theorem StsOk.rl {tags : List Str} {wd : Nat} {ss : List Stp} (h : StsOk tags wd ss) : RlOk ss where
  lo := h.lo
  hi := h.hi
  ok := fun a s hs => by
    have := h.ok a s hs
    have h8 := h.hi
    cases s with
    | iff u v g => exact ⟨this.1.su, this.2.1.su, this.2.2.1, this.2.2.2, by have := this.2.2.2; omega⟩
    | vote n Ts => exact ⟨⟨fun u hu => ⟨(this.2.2.2 u hu).tm, (this.2.2.2 u hu).su.few⟩, this.2.1, this.2.2.1⟩, this.1⟩
    | tell u => exact this.su
    | doubt => trivial
  last := h.last
end RV
end
section
/-! Drawn rows of a rule: the walk. -/
namespace RV
open PySem L2
theorem PdL.all {α β : Type} {P : β → Prop} : ∀ {as : List α} {bs : List β}, PdL (fun _ u => P u) as bs → ∀ b ∈ bs, P b
  | [], [], _, b, h => by cases h
  | _ :: _, b :: bs, h, c, hc => by
    rcases List.mem_cons.mp hc with rfl | hc
    · exact h.1
    · exact PdL.all h.2 c hc
  | [], _ :: _, h, _, _ => h.elim
  | _ :: _, [], h, _, _ => h.elim
section
variable {A : Ad} {S T : WS} {k : Nat} {n : Int} {w : W} {q : D → WS → Prop} {x : Xq} {tags : List Str} {m wd w0 : Nat} {Sm : List (List PR)}
theorem stepsG (hk : k < S.length) (g : Good n w) (hn : n < 1000000000000) (hw : 12 ≤ wd) (hv0 : w0 ≠ 0 ∧ w0 ≤ wd) (hw2 : wd < 10000000000000000000000000000000000000000) (ht : ∀ t ∈ tags, Nm t) (htl : tags.length ≤ 12) (hm : 1 ≤ m) (hm8 : m ≤ 8) (h : ∀ (ss : List Stp) w', StsOk tags wd ss → Good (n + 20000) w' → q (.lst (ss.map stL)) (st S k w' T)) : G_steps_k47 A [.cell k, .lst (tags.map D.str), .int (m : Nat), .int (w0 : Nat)] (st S k w T) q x := by
  rw [D_steps_k47]
  unfold fnD startE
  simp only [List.map_cons, List.map_nil, List.length_cons, List.length_nil, Nat.reduceAdd, Nat.reduceSub, List.replicate, List.cons_append, List.nil_append, List.append_nil, Nat.zero_add]
  unfold B_steps_k47
  refine seq_gen fun N_ hN_ => ?_
  simp? []
  refine takeG hk g (by omega) (by omega) (by omega) fun d w1 d0 d1 g1 => ?_
  obtain ⟨e, rfl⟩ : ∃ e : Nat, d = (e : Int) := ⟨d.toNat, by omega⟩
  have e1 : (1 : Int) + (e : Int) = ((1 + e : Nat) : Int) := by omega
  simp? [D.cleanL, e1]
  subst hN_
  have hs1 : 1 ≤ 1 + e := by omega
  have hs8 : 1 + e ≤ 8 := by omega
  generalize 1 + e = size at hs1 hs8
  refine seq_gen fun N_ hN_ => ?_
  simp? []
  refine ⟨⟨by omega, by omega⟩, ?_⟩
  have ur : upto 3 = (List.range 3).map fun (i : Nat) => D.int (i : Int) := upto_nat (n := 3)
  rw [ur]
  simp? [List.length_map, List.length_range, show small 3 = true from rfl]
  refine lc_drawB (P := fun (_ : Nat) (u : List PR) => Su5 tags 2 wd u) (inj := fun i : Nat => D.int (i : Int)) (inj2 := smD) (c := 100) (B := 10000000000000) (by decide) (fun _ => trivial) (List.range 3) [] _ w1 g1 (by simp; omega) (fun a ha => ⟨_, rfl, fun n w q g hn hb => ?_⟩) fun Sm w2 hSm g2 => ?_
  · unfold C_steps_k47_0
    simp? []
    refine totalG (m := 2) hk g (by omega) hw hv0 hw2 (by decide) ht htl fun ts w' h1 g' => ?_
    exact hb ts w' h1 g'
  rw [List.nil_append]
  simp? []
  subst hN_
  have hS3 : ∀ u ∈ Sm, Su5 tags 3 wd u := fun u hu => (PdL.all hSm u hu).mono (by decide)
  have hl3 : Sm.length = 3 := by have := hSm.len; simpa using this
  have go : ∀ (r j left : Nat) (ss : List Stp) (o8 o9 o10 o11 o12 : Option D) (n : Int) (w : W) (kt : Kt), j + r + 1 = size → left ≤ 90 → ss.length = j → (∀ (a : Nat) (s : Stp), ss[a]? = some s → StP tags wd size a s) → Good n w → n < 1000000001000 + 1200 * j →
      (∀ (left : Nat) (ss : List Stp) o8 o9 o10 o11 o12 w', ss.length + 1 = size → (∀ (a : Nat) (s : Stp), ss[a]? = some s → StP tags wd size a s) → Good (n + 1200 * r) w' → kt.nx [some (.cell k), some (.lst (tags.map D.str)), some (.int (m : Nat)), some (.int (w0 : Nat)), some (.int (size : Nat)), some (.int (left : Nat)), some (.cell (S.length + T.length)), some (.lst (Sm.map smD)), o8, o9, o10, o11, o12, none, none] (st S k w' (T ++ [.lst (ss.map stL)]))) →
      forD any_ (tName 8) (L_steps_k47_0 A) ((List.range' j r).map fun (i : Nat) => D.int (i : Int)) [some (.cell k), some (.lst (tags.map D.str)), some (.int (m : Nat)), some (.int (w0 : Nat)), some (.int (size : Nat)), some (.int (left : Nat)), some (.cell (S.length + T.length)), some (.lst (Sm.map smD)), o8, o9, o10, o11, o12, none, none] (st S k w (T ++ [.lst (ss.map stL)])) kt := fun r => by
    induction r with
    | zero =>
      intro j left ss o8 o9 o10 o11 o12 n w kt hj hle hl hok g hn hk2
      exact ⟨trivial, hk2 left ss _ _ _ _ _ w (by omega) hok (g.mono (by simp))⟩
    | succ r ih =>
      intro j left ss o8 o9 o10 o11 o12 n w kt hj hle hl hok g hn hk2
      rw [List.range'_succ, List.map_cons]
      refine for_nameG trivial fun J hJ => ?_
      unfold L_steps_k47_0
      refine seq_gen fun N_ hN_ => ?_
      simp? []
      refine takeG hk g (by omega) (by omega) (by omega) fun d w3 d0 d1 g3 => ?_
      subst hN_
      have next : ∀ (left' : Nat) (st' : Stp) (o9 o10 o11 o12 : Option D) (w' : W), left' ≤ 90 → StP tags wd size j st' → Good (n + 1200) w' → J [some (.cell k), some (.lst (tags.map D.str)), some (.int (m : Nat)), some (.int (w0 : Nat)), some (.int (size : Nat)), some (.int (left' : Nat)), some (.cell (S.length + T.length)), some (.lst (Sm.map smD)), some (.int (j : Nat)), o9, o10, o11, o12, none, none] (st S k w' (T ++ [.lst ((ss ++ [st']).map stL)])) := fun left' st' o9 o10 o11 o12 w' h1 h2 g' => by
        rw [hJ]
        refine ih (j + 1) left' (ss ++ [st']) _ _ _ _ _ (n + 1200) w' kt (by omega) h1 (by simp [hl]) (fun a s hs => ?_) g' (by omega) fun left2 ss2 o8 o9 o10 o11 o12 w2 z1 z2 g2 => hk2 left2 ss2 o8 o9 o10 o11 o12 w2 z1 z2 (g2.mono (by omega))
        by_cases z : a < ss.length
        · rw [List.getElem?_append_left z] at hs
          exact hok a s hs
        · rw [List.getElem?_append_right (by omega)] at hs
          have ha : a - ss.length = 0 := by
            have := (List.getElem?_eq_some_iff.mp hs).1
            simp at this
            omega
          rw [ha] at hs
          simp at hs
          have : a = j := by omega
          subst this hs
          exact h2
      have sm : small (ss.map stL).length = true := small_of (by rw [List.length_map]; omega)
      by_cases h4 : d < 4
      · simp? [decide_eq_true h4]
        refine pickG hk g3 (by omega) hw hv0 hw2 ht htl hS3 hl3 fun u w4 hu g4 => ?_
        simp? []
        refine pickG hk g4 (by omega) hw hv0 hw2 ht htl hS3 hl3 fun v w5 hv g5 => ?_
        simp? [show ∀ (S : WS) (a b : D), ixD S (.lst [a, b]) (.int 0) = some a from fun _ _ _ => rfl, show ∀ (S : WS) (a b : D), ixD S (.lst [a, b]) (.int 1) = some b from fun _ _ _ => rfl, st_at0]
        refine takeG hk g5 (by omega) (by omega) (by omega) fun d2 w6 d20 d21 g6 => ?_
        obtain ⟨e, rfl⟩ : ∃ e : Nat, d2 = (e : Int) := ⟨d2.toNat, by omega⟩
        have eg : (j : Int) + 1 + (e : Int) = ((j + 1 + e : Nat) : Int) := by omega
        have := next left (.iff u v (j + 1 + e)) (some (.int d)) (some (.lst [smD u, smD v])) o11 o12 w6 hle ⟨hu, hv, by omega, by omega⟩ (g6.mono (by omega))
        rw [List.map_append] at this
        have cu : ∀ (n : Nat) (u : List PR), D.clean n (smD u) = true := fun n u => by unfold smD D.clean; exact cln_prs
        simp? [eg, st_at0, D.clean, D.cleanL, cu, Bool.and_self, sm, st_set0]
        exact this
      · by_cases h8 : d < 8
        · have hr := rooms_ok ⟨left, by omega⟩
          simp only at hr
          have el : ((List.range ((11 : Int) - 1).toNat).map fun (n : Nat) => D.int (1 + (n : Int))) = ((List.range 10).map (· + 1)).map fun (r : Nat) => D.int (r : Int) := by rfl
          have ll : ∀ (S : WS) (xs : List Nat), lenD S [.lst (xs.map fun (r : Nat) => D.int (r : Int))] = some (.int (xs.length : Nat)) := fun S xs => by simp [lenD, itemsD]
          simp? [decide_eq_false h4, decide_eq_true h8]
          refine ⟨⟨by omega, by omega, by omega, by omega⟩, ?_⟩
          rw [el]
          refine ⟨by decide, ?_⟩
          rw [lc_eq (p := fun r : Nat => decide (r * (r - 1) ≤ left)) (inj := fun (r : Nat) => D.int (r : Int)) (g := fun (r : Nat) => D.int (r : Int)) ((List.range 10).map (· + 1)) [] trivial (fun r hr => ⟨_, rfl, fun q x => by
            obtain ⟨z, hz, rfl⟩ := List.mem_map.mp hr
            have hz := List.mem_range.mp hz
            have mk : mulOk (((z + 1 : Nat)) : Int) (((z + 1 : Nat) : Int) - 1) = true := mulOk_l (by omega) (by omega)
            have em : (((z + 1 : Nat)) : Int) * (((z + 1 : Nat) : Int) - 1) = (((z + 1) * (z + 1 - 1) : Nat) : Int) := by
              rw [show z + 1 - 1 = z by omega, Int.natCast_mul, show ((z + 1 : Nat) : Int) - 1 = (z : Int) by omega]
            have ed : decide ((((z + 1) * (z + 1 - 1) : Nat) : Int) ≤ ((left : Nat) : Int)) = decide ((z + 1) * (z + 1 - 1) ≤ left) := decide_eq_decide.mpr (by omega)
            unfold K_steps_k47_0
            simp? [mulD_int mk, em, ed], fun _ q x => by
            unfold C_steps_k47_1
            simp? []⟩), List.nil_append]
          rw [show (((List.range 10).map (· + 1)).filter fun r => decide (r * (r - 1) ≤ left)) = roomsL left from rfl]
          simp? [ll]
          refine takeG hk g3 (by omega) (by omega) (by omega) fun dc w4 dc0 dc1 g4 => ?_
          obtain ⟨c, rfl⟩ : ∃ c : Nat, dc = (c : Int) := ⟨dc.toNat, by omega⟩
          have hc : c < (roomsL left).length := by omega
          have hcl := hr.2.2 ⟨c, by omega⟩ hc
          simp only at hcl
          have mk : mulOk ((1 : Int) + (c : Int)) ((1 : Int) + (c : Int) - 1) = true := mulOk_l (by omega) (by omega)
          have em : ((left : Nat) : Int) - ((1 : Int) + (c : Int)) * ((1 : Int) + (c : Int) - 1) = ((left - (c + 1) * c : Nat) : Int) := by
            have : ((1 : Int) + (c : Int)) * ((1 : Int) + (c : Int) - 1) = (((c + 1) * c : Nat) : Int) := by
              rw [Int.natCast_mul, show (1 : Int) + (c : Int) - 1 = (c : Int) by omega, show (1 : Int) + (c : Int) = ((c + 1 : Nat) : Int) by omega]
            omega
          have ec : (1 : Int) + (c : Int) = ((c + 1 : Nat) : Int) := by omega
          simp? [mulD_int mk, em]
          refine ⟨⟨by omega, by omega⟩, ?_⟩
          rw [ec, upto_nat]
          simp? [List.length_map, List.length_range, small_of (n := c + 1) (by omega)]
          refine lc_drawB (P := fun (_ : Nat) (u : List PR) => Su5 tags 3 wd u) (inj := fun i : Nat => D.int (i : Int)) (inj2 := smD) (c := 101) (B := 100000000000000) (by decide) (fun _ => trivial) (List.range (c + 1)) [] _ w4 g4 (by simp; omega) (fun a ha => ⟨_, rfl, fun n w q g hn hb => ?_⟩) fun Ts w5 hTs g5 => ?_
          · unfold C_steps_k47_2
            simp? []
            refine pickG hk g (by omega) hw hv0 hw2 ht htl hS3 hl3 fun u w' hu g' => ?_
            exact hb u w' hu g'
          rw [List.nil_append]
          have hTl : Ts.length = c + 1 := by have := hTs.len; simpa using this
          simp? [st_at0]
          refine takeG hk g5 (by omega) (by omega) (by simp; omega) fun dn w6 dn0 dn1 g6 => ?_
          obtain ⟨e, rfl⟩ : ∃ e : Nat, dn = (e : Int) := ⟨dn.toNat, by omega⟩
          have := next (left - (c + 1) * c) (.vote e Ts) (some (.int d)) o10 (some (.int ((c + 1 : Nat) : Int))) (some (.lst (Ts.map smD))) w6 (by omega) ⟨by omega, by omega, by omega, PdL.all hTs⟩ (g6.mono (by simp; omega))
          rw [List.map_append] at this
          have cu : ∀ (n : Nat) (l : List (List PR)), D.cleanL n (l.map smD) = true := fun n l => cleanL_map fun u _ => by unfold smD D.clean; exact cln_prs
          simp? [st_at0, D.clean, D.cleanL, cu, Bool.and_self, sm, st_set0]
          exact this
        · simp? [decide_eq_false h4, decide_eq_false h8, st_at0]
          refine lastG hk g3 (by omega) hw hv0 hw2 ht htl hS3 hl3 fun st' w4 hst g4 => ?_
          have cst : ∀ n, D.clean n (stL st') = true := fun n => by
            rcases hst with rfl | ⟨u, rfl, hu⟩
            · rfl
            · show D.clean n (.tup [.str "tell", .lst (u.map prD)]) = true
              simp [D.clean, D.cleanL, cln_prs]
          have := next left st' (some (.int d)) o10 o11 o12 w4 hle (by
            rcases hst with rfl | ⟨u, rfl, hu⟩
            · trivial
            · exact hu) (g4.mono (by omega))
          rw [List.map_append] at this
          simp? [st_at0, cst, sm, st_set0]
          exact this
  have e2 : (size : Int) - 1 = ((size - 1 : Nat) : Int) := by omega
  refine seq_gen fun N_ hN_ => ?_
  simp? [e2]
  refine ⟨⟨by omega, by omega⟩, ?_⟩
  rw [upto_nat, range0]
  refine go (size - 1) 0 90 [] none none none none none _ w2 _ (by omega) (by omega) rfl (fun a s hs => by simp at hs) g2 (by simp; omega) fun left ss o8 o9 o10 o11 o12 w3 z1 z2 g3 => ?_
  dsimp only
  subst hN_
  simp? []
  refine lastG hk g3 (by simp; omega) hw hv0 hw2 ht htl hS3 hl3 fun st' w4 hst g4 => ?_
  have ad : ∀ w, addC (st S k w (T ++ [.lst (ss.map stL)])) (.cell (S.length + T.length)) (.lst [stL st']) = some (.lst ((ss ++ [st']).map stL)) := fun w => by
    have a0 : (st S k w (T ++ [.lst (ss.map stL)]))[S.length + T.length]? = some (.lst (ss.map stL)) := st_at0
    unfold addC
    simp only [lstOf, a0, Option.bind_some, List.length_map, List.length_cons, List.length_nil, small_of (n := ss.length + (0 + 1)) (by omega), if_true, List.map_append]
    rfl
  simp? [ad]
  have cs : ∀ (n : Nat) (l : List Stp), D.cleanL n (l.map stL) = true := fun n l => cleanL_map fun s _ => by
    cases s with
    | iff u v g => show D.clean n (.tup [.str "if", .lst (u.map prD), .lst (v.map prD), .int (g : Nat)]) = true; simp [D.clean, D.cleanL, cln_prs]
    | vote c Ts =>
      show D.clean n (.tup [.str "vote", .int (c : Nat), .lst (Ts.map fun u => .lst (u.map prD))]) = true
      have : D.cleanL n (Ts.map fun u => D.lst (u.map prD)) = true := cleanL_map fun u _ => by simp [D.clean, cln_prs]
      simp [D.clean, D.cleanL, this]
    | tell u => show D.clean n (.tup [.str "tell", .lst (u.map prD)]) = true; simp [D.clean, D.cleanL, cln_prs]
    | doubt => rfl
  rw [fin_stT (by unfold D.clean; exact cs _ _) (fun i e => by cases e)]
  refine h (ss ++ [st']) w4 ⟨by simp, by simp; omega, fun a s hs => ?_, ⟨st', by simp, ?_⟩⟩ (g4.mono (by simp; omega))
  · have hsz : (ss ++ [st']).length = size := by simp; omega
    rw [hsz]
    by_cases z : a < ss.length
    · rw [List.getElem?_append_left z] at hs
      exact z2 a s hs
    · rw [List.getElem?_append_right (by omega)] at hs
      have ha : a - ss.length = 0 := by
        have := (List.getElem?_eq_some_iff.mp hs).1
        simp at this
        omega
      rw [ha] at hs
      simp at hs
      subst hs
      rcases hst with rfl | ⟨u, rfl, hu⟩
      · trivial
      · exact hu
  · rcases hst with rfl | ⟨u, rfl, _⟩
    · exact .inr rfl
    · exact .inl ⟨u, rfl⟩
end
end RV
end
section
/-! Laws of rules (k51 on): texts read back, reprs. -/
namespace RV
open PySem L2
theorem joinN_no {c : Nat} (hc : c ≠ 10) : ∀ {xs : List Str}, (∀ y ∈ xs, c ∉ TL.tl y) → c ∉ TL.tl (Str.join "\n" xs)
  | [], _ => by
    show c ∉ TL.tl ("" : Str)
    rw [show TL.tl ("" : Str) = [] from by decide +kernel]
    simp
  | [a], h => h a (by simp)
  | a :: b :: r, h => by
    have e : TL.tl ("\n" : Str) = [10] := by decide +kernel
    show c ∉ TL.tl (a ++ "\n" ++ Str.join "\n" (b :: r))
    refine no_cat (no_cat (h a (by simp)) ?_) (joinN_no hc fun y hy => h y (List.mem_cons_of_mem _ hy))
    rw [e]
    simp [hc]
theorem strOk_key {t : Str} (key : ∀ c, 128 ≤ c → c ∉ TL.tl t) : PyData.strOk t = true := by
  unfold PyData.strOk
  rw [Array.all_eq_true]
  intro i hi
  have hm : t.cps[i] ∈ TL.tl t := by
    show t.cps[i] ∈ t.cps.toList
    simp
  have : t.cps[i] < 128 := Nat.lt_of_not_le fun z => key _ z hm
  exact decide_eq_true (by omega)
theorem al_big {c : Nat} (hc : 128 ≤ c) : (isLt c || isDg c) = false := by
  cases e : (isLt c || isDg c) with
  | false => rfl
  | true => have := isAl_lt e; omega
theorem RlOk.stp {ss : List Stp} (h : RlOk ss) : ∀ s ∈ ss, StpOk s := fun s hs => by
  obtain ⟨i, hi, e⟩ := List.mem_iff_getElem.mp hs
  have ok := h.ok i s (by rw [List.getElem?_eq_getElem hi, e])
  cases s with
  | iff u v g => exact ⟨ok.1, ok.2.1, ok.2.2.2.2⟩
  | vote c Ts => exact ok
  | tell u => exact ok
  | doubt => trivial
theorem RlOk.len8 {ss : List Stp} (h : RlOk ss) : ∀ s ∈ ss, (lnTx s).length ≤ 8000 := fun s hs => by
  obtain ⟨i, hi, e⟩ := List.mem_iff_getElem.mp hs
  exact lnTx_len (h.ok i s (by rw [List.getElem?_eq_getElem hi, e]))
theorem RlOk.ne {S : WS} {ss : List Stp} (h : RlOk ss) : eqD S (.tup ((ss.map lnTx).map D.str)) (.tup []) = some (.bl false) := eqD_tupN (fun t ht => by
  obtain ⟨s, hs, rfl⟩ := List.mem_map.mp ht
  exact lnTx_ok (h.stp s hs)) (by rw [List.length_map]; exact h.lo)
/-- no row has a newline -/
theorem lnTx_nl {s : Stp} (h : StpOk s) : 10 ∉ TL.tl (lnTx s) := by
  have lits : ∀ y ∈ [("tell " : Str), "doubt", "if ", " == ", " go ", "vote", " ", ": "], (10 : Nat) ∉ TL.tl y := by decide +kernel
  have sums : ∀ u, SuOk u → 10 ∉ TL.tl (sumTx u) := fun u hu => sumTx_no no10 (by decide) (by decide) (by decide) (by decide) (by decide) hu.tm.nm
  cases s with
  | vote n Ts =>
    show 10 ∉ TL.tl (voteTx n Ts)
    unfold voteTx voteTl sumsTx
    rw [TL.join_eq]
    refine no_cat (no_cat (lits _ (by simp)) (lits _ (by simp))) (no_cat (no_cat (dg_no (by omega)) (lits _ (by simp))) (join_no (by omega) (by omega) fun y hy => ?_))
    obtain ⟨ts, ht, rfl⟩ := List.mem_map.mp hy
    exact sumTx_no no10 (by decide) (by decide) (by decide) (by decide) (by decide) (h.1.tm ts ht).1.nm
  | doubt =>
    show 10 ∉ TL.tl ("doubt" : Str)
    exact lits _ (by simp)
  | tell u => exact no_cat (lits _ (by simp)) (sums u h)
  | iff u v g =>
    obtain ⟨hu, hv, hg⟩ := h
    exact no_cat (no_cat (no_cat (no_cat (no_cat (lits _ (by simp)) (sums u hu)) (lits _ (by simp))) (sums v hv)) (lits _ (by simp))) (dg_no (by omega))
def ruleTx (ss : List Stp) : Str := Txt.join "\n" (ss.map lnTx)
theorem ruleTx_len {ss : List Stp} (h : RlOk ss) : (ruleTx ss).length ≤ 70000 := by
  have h0 := join_len (sep := "\n") (xs := ss.map lnTx)
  have h8 := h.hi
  have h2 : ∀ l : List Stp, (∀ s ∈ l, (lnTx s).length ≤ 8000) → ((l.map lnTx).map (·.length)).sum ≤ 8000 * l.length := fun l => by
    induction l with
    | nil => intro _; simp
    | cons a l ih =>
      intro hl
      have := ih fun s hs => hl s (List.mem_cons_of_mem _ hs)
      have h3 := hl a (List.mem_cons_self ..)
      simp only [List.map_cons, List.sum_cons, List.length_cons]
      omega
  have := h2 ss h.len8
  rw [List.length_map, nl_len1] at h0
  unfold ruleTx
  omega
where
  nl_len1 : ("\n" : Str).length = 1 := by decide +kernel
section
variable {A : Ad} {S T : WS} {k : Nat} {n : Int} {w : W} {q : D → WS → Prop} {x : Xq} {ss : List Stp} {rs : List LR} {fs : List FR}
theorem split_rule (h : RlOk ss) : splitD S (.str (ruleTx ss)) (.str "\n") = some (.lst ((ss.map lnTx).map D.str)) := by
  have hl := ruleTx_len h
  have nl : ("\n" : Str).length ≠ 0 := by decide +kernel
  have e : Txt.split (ruleTx ss) "\n" = ss.map lnTx := by
    have hne : ss.map lnTx ≠ [] := by
      have := h.lo
      intro z
      rw [List.map_eq_nil_iff] at z
      rw [z] at this
      simp at this
    have := TL.split_join (y := "\n") (s := 10) (S := []) (by decide +kernel) (by decide +kernel) hne fun p hp => by
      obtain ⟨s, hs, rfl⟩ := List.mem_map.mp hp
      exact lnTx_nl (h.stp s hs)
    unfold ruleTx
    first
    | exact this
    | rw [TL.join_eq]; exact this
  simp only [splitD, onStr, nl, ne_eq, not_false_eq_true, small_of (n := (ruleTx ss).length) (by omega), and_self, if_true, e]
theorem rule_readG (h : RlOk ss) (hq : q (ruleD A (ss.map lnTx) ss) S) : G_Rule_read A [.adr (A.c "Rule"), .str (ruleTx ss)] S q x := by
  have tt : ∀ (S : WS) (ds : List D), tupleD S [.lst ds] = some (.tup ds) := fun _ _ => rfl
  rw [D_Rule_read]
  unfold fnD startE
  simp only [List.map_cons, List.map_nil, List.length_cons, List.length_nil, Nat.reduceAdd, Nat.reduceSub, List.replicate, List.cons_append, List.nil_append, List.append_nil, Nat.zero_add]
  unfold B_Rule_read
  refine seq_gen fun N_ hN_ => ?_
  simp? [isi_str]
  subst hN_
  refine seq_gen fun N_ hN_ => ?_
  simp? [split_rule h, tt]
  refine rule_makeG h (rd_all h) (fun _ => h.ne) ?_
  simp? []
  subst hN_
  simp? []
  exact hq
end
theorem StsOk.sums {tags : List Str} {wd : Nat} {ss : List Stp} (h : StsOk tags wd ss) : ∀ s ∈ ss, ∀ u ∈ sumsT s, Su5 tags 3 wd u := fun s hs u hu => by
  obtain ⟨i, hi, e⟩ := List.mem_iff_getElem.mp hs
  have ok := h.ok i s (by rw [List.getElem?_eq_getElem hi, e])
  cases s with
  | iff a b g =>
    have : u = a ∨ u = b := by simpa [sumsT] using hu
    rcases this with rfl | rfl
    · exact ok.1
    · exact ok.2.1
  | vote c Ts => exact ok.2.2.2 u hu
  | tell a =>
    have : u = a := by simpa [sumsT] using hu
    rw [this]
    exact ok
  | doubt => simp [sumsT] at hu
theorem StsOk.nms {tags : List Str} {wd : Nat} {ss : List Stp} (h : StsOk tags wd ss) : (nmsT ss []).length ≤ 1000 := by
  have h8 := h.hi
  have hv : ∀ s ∈ ss, (sumsT s).length ≤ 10 := fun s hs => by
    obtain ⟨i, hi, e⟩ := List.mem_iff_getElem.mp hs
    have ok := h.ok i s (by rw [List.getElem?_eq_getElem hi, e])
    cases s with
    | iff u v g => show 2 ≤ 10; decide
    | vote c Ts => exact ok.2.2.1
    | tell u => show 1 ≤ 10; decide
    | doubt => show 0 ≤ 10; decide
  have := nms_lenB (B := 3) (C := 10) (ss := ss) (T := []) fun s hs => ⟨hv s hs, fun u hu => (h.sums s hs u hu).few⟩
  simp only [List.length_nil] at this
  omega
end RV
end
section
/-! Names of drawn rules, rules compared. -/
namespace RV
open PySem L2
def namesL (ss : List Stp) : List Str := (ss.flatMap sumsT).flatMap fun u => u.map (·.1)
theorem mem_names {s : Str} {ss : List Stp} : s ∈ namesL ss ↔ ∃ t ∈ ss, ∃ u ∈ sumsT t, s ∈ u.map (·.1) := by
  unfold namesL
  rw [List.mem_flatMap]
  constructor
  · rintro ⟨u, hu, h⟩
    obtain ⟨t, ht, hu⟩ := List.mem_flatMap.mp hu
    exact ⟨t, ht, u, hu, h⟩
  · rintro ⟨t, ht, u, hu, h⟩
    exact ⟨u, List.mem_flatMap.mpr ⟨t, ht, hu⟩, h⟩
theorem names_nms {ss : List Stp} : ascS (namesL ss) = ascS (nmsT ss []) := asc_one (asc_ascS _) (asc_ascS _) fun k => by
  rw [mem_ascS, mem_ascS, mem_names, mem_nms]
  simp
theorem StsOk.in_tags {tags : List Str} {wd : Nat} {ss : List Stp} (h : StsOk tags wd ss) : ∀ s ∈ namesL ss, s ∈ tags := fun s hs => by
  obtain ⟨t, ht, u, hu, h2⟩ := mem_names.mp hs
  obtain ⟨p, hp, rfl⟩ := List.mem_map.mp h2
  exact (h.sums t ht u hu).inn p hp
theorem names_few {tags : List Str} {ss : List Stp} (h : ∀ s ∈ namesL ss, s ∈ tags) : (ascS (namesL ss)).length ≤ tags.length :=
  nd_le (asc_nd (asc_ascS _)) fun s hs => h s (mem_ascS.mp hs)
/-- bounds of drawn texts -/
theorem lnTx_len2 {tags : List Str} {wd size a : Nat} {s : Stp} (hn : ∀ t ∈ tags, Nm t) (h : StP tags wd size a s) (h8 : size ≤ 8) : (lnTx s).length ≤ 1700 := by
  have su : ∀ u, Su5 tags 3 wd u → (sumTx u).length ≤ 157 := fun u hu => by
    have := sumTx_len hu.tm
    have := hu.few
    omega
  cases s with
  | iff u v g =>
    obtain ⟨hu, hv, h1, h2⟩ := h
    have l1 := su u hu
    have l2 := su v hv
    have ld : (dg g).length ≤ 40 := dg_len (Nat.lt_of_le_of_lt (show g ≤ 8 by omega) (by decide))
    show ("if " ++ sumTx u ++ " == " ++ sumTx v ++ " go " ++ dg g : Str).length ≤ _
    rw [cat_len, cat_len, cat_len, cat_len, cat_len, show ("if " : Str).length = 3 from by decide +kernel, show (" == " : Str).length = 4 from by decide +kernel, show (" go " : Str).length = 4 from by decide +kernel]
    omega
  | vote n Ts =>
    obtain ⟨h1, h2, h3, h4⟩ := h
    have hj := join2_len (m := 157) (xs := Ts.map sumTx) fun y hy => by
      obtain ⟨ts, ht, rfl⟩ := List.mem_map.mp hy
      exact su ts (h4 ts ht)
    rw [List.length_map] at hj
    have ld := dg1_len h1
    show (voteTx n Ts).length ≤ _
    unfold voteTx voteTl sumsTx
    rw [TL.join_eq, cat_len, cat_len, cat_len, cat_len, vote_len4, spF_len, col_len]
    omega
  | tell u =>
    have := su u h
    show ("tell " ++ sumTx u : Str).length ≤ _
    rw [cat_len, tell_len]
    omega
  | doubt =>
    show ("doubt" : Str).length ≤ _
    rw [show ("doubt" : Str).length = 5 from by decide +kernel]
    omega
theorem StsOk.len17 {tags : List Str} {wd : Nat} {ss : List Stp} (hn : ∀ t ∈ tags, Nm t) (h : StsOk tags wd ss) : ∀ s ∈ ss, (lnTx s).length ≤ 1700 := fun s hs => by
  obtain ⟨i, hi, e⟩ := List.mem_iff_getElem.mp hs
  exact lnTx_len2 hn (h.ok i s (by rw [List.getElem?_eq_getElem hi, e])) h.hi
theorem sum_lenB {B : Nat} : ∀ {l : List Str}, (∀ s ∈ l, s.length ≤ B) → (l.map (·.length)).sum ≤ B * l.length
  | [], _ => by simp
  | a :: l, h => by
    have := sum_lenB (B := B) (l := l) fun s hs => h s (List.mem_cons_of_mem _ hs)
    have h3 := h a (List.mem_cons_self ..)
    simp only [List.map_cons, List.sum_cons, List.length_cons, Nat.mul_succ]
    omega
theorem ruleTx_lenB {B : Nat} {ss : List Stp} (h : ∀ s ∈ ss, (lnTx s).length ≤ B) : (ruleTx ss).length ≤ (B + 1) * ss.length := by
  have h0 := join_len (sep := "\n") (xs := ss.map lnTx)
  have h1 := sum_lenB (B := B) (l := ss.map lnTx) fun t ht => by
    obtain ⟨s, hs, rfl⟩ := List.mem_map.mp ht
    exact h s hs
  rw [List.length_map] at h0 h1
  rw [show ("\n" : Str).length = 1 from by decide +kernel] at h0
  unfold ruleTx
  rw [Nat.succ_mul]
  omega
theorem eqv_strs : ∀ ts us : List Str, PyData.eqvAll (ts.map PyData.str) (us.map PyData.str) = decide (ts = us)
  | [], [] => by simp [PyData.eqvAll]
  | [], _ :: _ => by simp [PyData.eqvAll]
  | _ :: _, [] => by simp [PyData.eqvAll]
  | a :: ts, b :: us => by
    simp only [List.map_cons, PyData.eqvAll, eqv_strs ts us, PyData.eqv, Bool.and_true]
    by_cases h : a = b <;> simp [h]
theorem eqD_tups {S : WS} {ts us : List Str} (h : ∀ t ∈ ts, PyData.strOk t = true) (h2 : ∀ t ∈ us, PyData.strOk t = true) : eqD S (.tup (ts.map D.str)) (.tup (us.map D.str)) = some (.bl (decide (ts = us))) := by
  have sh : ∀ ts : List Str, (∀ t ∈ ts, PyData.strOk t = true) → SeqAt.shaped (.tuple (ts.map PyData.str)) = true := fun ts h => by
    simp [SeqAt.shaped, PyData.canLay0, lay_strs ts h, PyData.depth, depth_strs]
  have e1 : ∀ ts : List Str, pyS S (.tup (ts.map D.str)) = some (.tuple (ts.map PyData.str)) := fun ts => by
    show (D.pyL (ts.map D.str)).map PyData.tuple = _
    rw [pyL_str]
    rfl
  have e3 : PyData.eqv (.tuple (ts.map PyData.str)) (.tuple (us.map PyData.str)) = decide (ts = us) := by
    simp only [PyData.eqv, eqv_strs]
  unfold eqD eqAny eqPyS
  rw [show eqScal (.tup (ts.map D.str)) (.tup (us.map D.str)) = none from rfl, e1, e1]
  simp only [Option.bind_some, sh ts h, sh us h2, and_self, if_true, e3, Option.orElse, Option.map_some]
/-- a rule's last row, put anew -/
theorem doubt_ne {u : List PR} : decide (lnTx (.tell u) = "doubt") = false := decide_eq_false fun e => by
  have e2 : TL.tl (lnTx (.tell u)) = TL.tl ("doubt" : Str) := by rw [e]
  have e3 : TL.tl (lnTx (.tell u)) = TL.tl ("tell " : Str) ++ TL.tl (sumTx u) := TL.tl_append ..
  rw [e3, show TL.tl ("tell " : Str) = [116, 101, 108, 108, 32] from by decide +kernel, show TL.tl ("doubt" : Str) = [100, 111, 117, 98, 116] from by decide +kernel] at e2
  cases e2
section
variable {A : Ad} {S T : WS} {k : Nat} {n : Int} {w : W} {q : D → WS → Prop} {x : Xq} {ss ss' : List Stp}
theorem names_go {o0 o2 : Option D} : ∀ (us : List (List PR)) (acc : List Str) (o3 o4 o5 : Option D) (kt : Kt), (∀ u ∈ us, u.length ≤ 3) → acc.length + 3 * us.length ≤ 1000 → (∀ o4 o5, kt.nx [o0, some (.lst ((acc ++ us.flatMap fun u => u.map (·.1)).map D.str)), o2, o3, o4, o5] S) →
    forD any_ (tName 4) (L_names_of_k47_0 A) (us.map smD) [o0, some (.lst (acc.map D.str)), o2, o3, o4, o5] S kt
  | [], acc, o3, o4, o5, kt, _, _, h => by
    have := h o4 o5
    rw [List.flatMap_nil, List.append_nil] at this
    exact ⟨trivial, this⟩
  | u :: us, acc, o3, o4, o5, kt, hu, hl, h => by
    have h3 := hu u (List.mem_cons_self ..)
    simp only [List.length_cons] at hl
    rw [List.map_cons]
    refine for_nameG trivial fun F hF => ?_
    unfold L_names_of_k47_0
    have e0 : ∀ (S : WS) (p : PR), ixD S (prD p) (.int 0) = some (.str p.1) := fun _ _ => rfl
    simp? [show smD u = .lst (u.map prD) from rfl, small_of (n := (u.map prD).length) (by rw [List.length_map]; omega)]
    rw [lc_mapEq (inj := prD) (g := fun p : PR => D.str p.1) u trivial (fun p hp => ⟨_, rfl, fun q x => by
      unfold C_names_of_k47_0
      simp? [e0]⟩)]
    have ea : ∀ S, addD S (.lst (acc.map D.str)) (.lst (u.map fun p : PR => D.str p.1)) = some (.lst ((acc ++ u.map (·.1)).map D.str)) := fun S => by
      rw [addD_lst (small_of (by rw [List.length_map, List.length_map]; omega)), List.map_append, List.map_map]
      rfl
    simp? [ea]
    rw [hF]
    refine names_go us (acc ++ u.map (·.1)) o3 _ _ kt (fun v hv => hu v (List.mem_cons_of_mem _ hv)) (by rw [List.length_append, List.length_map]; omega) fun o4 o5 => ?_
    have := h o4 o5
    rw [List.flatMap_cons, ← List.append_assoc] at this
    exact this
theorem names_ofG (hu : ∀ s ∈ ss, ∀ u ∈ sumsT s, u.length ≤ 3) (h10 : ∀ s ∈ ss, (sumsT s).length ≤ 10) (h8 : ss.length ≤ 8) (h64 : (ascS (namesL ss)).length < 64) (hq : q (.tup ((ascS (namesL ss)).map D.str)) S) : G_names_of_k47 A [.lst (ss.map stL)] S q x := by
  have n1 : decide (("if" : Str) = "vote") = false := by decide +kernel
  have n2 : decide (("if" : Str) = "tell") = false := by decide +kernel
  have n3 : decide (("vote" : Str) = "if") = false := by decide +kernel
  have n4 : decide (("vote" : Str) = "tell") = false := by decide +kernel
  have n5 : decide (("tell" : Str) = "if") = false := by decide +kernel
  have n6 : decide (("tell" : Str) = "vote") = false := by decide +kernel
  have n7 : decide (("doubt" : Str) = "if") = false := by decide +kernel
  have n8 : decide (("doubt" : Str) = "vote") = false := by decide +kernel
  have n9 : decide (("doubt" : Str) = "tell") = false := by decide +kernel
  have go : ∀ (l : List Stp) (acc : List Str) (o2 o3 o4 o5 : Option D) (kt : Kt), (∀ s ∈ l, s ∈ ss) → acc.length + 30 * l.length ≤ 1000 → (∀ o2 o3 o4 o5, kt.nx [some (.lst (ss.map stL)), some (.lst ((acc ++ namesL l).map D.str)), o2, o3, o4, o5] S) →
      forD any_ (tName 2) (L_names_of_k47_1 A) (l.map stL) [some (.lst (ss.map stL)), some (.lst (acc.map D.str)), o2, o3, o4, o5] S kt := fun l => by
    induction l with
    | nil =>
      intro acc o2 o3 o4 o5 kt _ _ h
      have := h o2 o3 o4 o5
      rw [show namesL [] = [] from rfl, List.append_nil] at this
      exact ⟨trivial, this⟩
    | cons s l ih =>
      intro acc o2 o3 o4 o5 kt hin hl h
      have hs := hin s (List.mem_cons_self ..)
      have hsu := hu s hs
      have hs10 := h10 s hs
      simp only [List.length_cons] at hl
      rw [List.map_cons]
      refine for_nameG trivial fun F hF => ?_
      have later : ∀ (o2 : Option D), forD any_ (tName 4) (L_names_of_k47_0 A) ((sumsT s).map smD) [some (.lst (ss.map stL)), some (.lst (acc.map D.str)), o2, some (.lst ((sumsT s).map smD)), o4, o5] S ⟨F, kt.rt, kt.nx, F, kt.ex⟩ := fun o2 => by
        refine names_go (sumsT s) acc _ _ _ _ hsu (by omega) fun o4 o5 => ?_
        dsimp only
        rw [hF]
        refine ih (acc ++ (sumsT s).flatMap fun u => u.map (·.1)) _ _ _ _ kt (fun t ht => hin t (List.mem_cons_of_mem _ ht)) ?_ fun o2 o3 o4 o5 => ?_
        · have hfl : ∀ us : List (List PR), (∀ u ∈ us, u.length ≤ 3) → (us.flatMap fun u => u.map (·.1)).length ≤ 3 * us.length := fun us => by
            induction us with
            | nil => intro _; simp
            | cons u us ih2 =>
              intro h2
              have z1 := ih2 fun v hv => h2 v (List.mem_cons_of_mem _ hv)
              have z2 := h2 u (List.mem_cons_self ..)
              rw [List.flatMap_cons, List.length_append, List.length_map, List.length_cons]
              omega
          have := hfl (sumsT s) hsu
          rw [List.length_append]
          omega
        · have := h o2 o3 o4 o5
          have e : namesL (s :: l) = ((sumsT s).flatMap fun u => u.map (·.1)) ++ namesL l := by simp [namesL]
          rw [e, ← List.append_assoc] at this
          exact this
      unfold L_names_of_k47_1
      cases s with
      | iff u v g =>
        have i0 : ∀ S, ixD S (stL (.iff u v g)) (.int 0) = some (.str "if") := fun _ => rfl
        have i1 : ∀ S, ixD S (stL (.iff u v g)) (.int 1) = some (smD u) := fun _ => rfl
        have i2 : ∀ S, ixD S (stL (.iff u v g)) (.int 2) = some (smD v) := fun _ => rfl
        refine seq_gen fun N_ hN_ => ?_
        simp? [i0, i1, i2]
        subst hN_
        refine seq_gen fun N_ hN_ => ?_
        simp? [i0, n1]
        subst hN_
        refine seq_gen fun N_ hN_ => ?_
        simp? [i0, n2]
        subst hN_
        simp? []
        exact later _
      | vote c Ts =>
        have i0 : ∀ S, ixD S (stL (.vote c Ts)) (.int 0) = some (.str "vote") := fun _ => rfl
        have i2 : ∀ S, ixD S (stL (.vote c Ts)) (.int 2) = some (.lst (Ts.map smD)) := fun _ => rfl
        refine seq_gen fun N_ hN_ => ?_
        simp? [i0, n3]
        subst hN_
        refine seq_gen fun N_ hN_ => ?_
        simp? [i0, i2]
        subst hN_
        refine seq_gen fun N_ hN_ => ?_
        simp? [i0, n4]
        subst hN_
        simp? []
        exact later _
      | tell u =>
        have i0 : ∀ S, ixD S (stL (.tell u)) (.int 0) = some (.str "tell") := fun _ => rfl
        have i1 : ∀ S, ixD S (stL (.tell u)) (.int 1) = some (smD u) := fun _ => rfl
        refine seq_gen fun N_ hN_ => ?_
        simp? [i0, n5]
        subst hN_
        refine seq_gen fun N_ hN_ => ?_
        simp? [i0, n6]
        subst hN_
        refine seq_gen fun N_ hN_ => ?_
        simp? [i0, i1]
        subst hN_
        simp? []
        exact later _
      | doubt =>
        have i0 : ∀ S, ixD S (stL .doubt) (.int 0) = some (.str "doubt") := fun _ => rfl
        refine seq_gen fun N_ hN_ => ?_
        simp? [i0, n7]
        subst hN_
        refine seq_gen fun N_ hN_ => ?_
        simp? [i0, n8]
        subst hN_
        refine seq_gen fun N_ hN_ => ?_
        simp? [i0, n9]
        subst hN_
        simp? []
        exact later _
  rw [D_names_of_k47]
  unfold fnD startE
  simp only [List.map_cons, List.map_nil, List.length_cons, List.length_nil, Nat.reduceAdd, Nat.reduceSub, List.replicate, List.cons_append, List.nil_append, List.append_nil, Nat.zero_add]
  unfold B_names_of_k47
  refine seq_gen fun N_ hN_ => ?_
  simp? []
  subst hN_
  refine seq_gen fun N_ hN_ => ?_
  simp? []
  refine go ss [] none none none none _ (fun s h => h) (by simp; omega) fun o2 o3 o4 o5 => ?_
  dsimp only
  subst hN_
  rw [List.nil_append]
  have hfew : ∀ l : List Stp, (∀ s ∈ l, s ∈ ss) → (namesL l).length ≤ 30 * l.length := fun l => by
    induction l with
    | nil => intro _; simp [namesL]
    | cons s l ih =>
      intro hin
      have z1 := ih fun t ht => hin t (List.mem_cons_of_mem _ ht)
      have hs := hin s (List.mem_cons_self ..)
      have hfl : ∀ us : List (List PR), (∀ u ∈ us, u.length ≤ 3) → (us.flatMap fun u => u.map (·.1)).length ≤ 3 * us.length := fun us => by
        induction us with
        | nil => intro _; simp
        | cons u us ih2 =>
          intro h2
          have z1 := ih2 fun v hv => h2 v (List.mem_cons_of_mem _ hv)
          have z2 := h2 u (List.mem_cons_self ..)
          rw [List.flatMap_cons, List.length_append, List.length_map, List.length_cons]
          omega
      have z2 := hfl (sumsT s) (hu s hs)
      have z3 := h10 s hs
      have e : namesL (s :: l) = ((sumsT s).flatMap fun u => u.map (·.1)) ++ namesL l := by simp [namesL]
      rw [e, List.length_append, List.length_cons]
      omega
  have hl := hfew ss fun s h => h
  have so : ∀ S, sortSetD S (.lst ((namesL ss).map D.str)) = some (.lst ((ascS (namesL ss)).map D.str)) := fun S => by
    have e : strsD ((namesL ss).map D.str) = some (namesL ss) := by
      generalize namesL ss = xs
      induction xs with
      | nil => rfl
      | cons a xs ih => simp [strsD, ih]
    simp only [sortSetD, itemsD, Option.bind_some, e]
    rw [if_pos ⟨by omega, h64⟩]
  have tt : ∀ (S : WS) (ds : List D), tupleD S [.lst ds] = some (.tup ds) := fun _ _ => rfl
  simp? [so, tt]
  exact hq
theorem nf_rule (hRu : "Rule" ∈ A.here) : nf A (.ref (A.c "Rule")) = true := by
  unfold nf nfD
  exact decide_eq_true (ref_kinds hRu)
theorem ob_ruleE {S : WS} {ls : List Str} : isOb (A.c "Rule") S (ruleD A ls ss) = True := by
  show (A.c "Rule" = A.c "Rule") = True
  simp
theorem fld_linesE {S : WS} {ls : List Str} : fldD (A.c "Rule") "lines" S (ruleD A ls ss) = some (.tup (ls.map D.str)) := by simp [ruleD, fldD, List.lookup]
theorem rule_eqO {ls ls' : List Str} (hRu : "Rule" ∈ A.here) (h : ∀ t ∈ ls, PyData.strOk t = true) (h' : ∀ t ∈ ls', PyData.strOk t = true) {neg : Bool} : eqOwnD (A.c "Rule") (own A) (G_Rule_eq A) neg (nf A) (ruleD A ls ss) (ruleD A ls' ss') S q x = q (.bl (if neg then !decide (ls = ls') else decide (ls = ls'))) S := by
  have hk : kindD (own A) (ruleD A ls' ss') = some (.ref (A.c "Rule")) := kind_here hRu
  have hi : ∀ S, isiD (own A) (tab A) S [ruleD A ls' ss', .adr (A.c "Rule")] = some (.bl true) := fun S => by
    unfold ruleD
    rw [isi_own hRu hRu, decide_eq_true rfl]
  unfold eqOwnD
  simp? [ob_ruleE, hk, nf_rule hRu]
  rw [D_Rule_eq]
  unfold fnD startE
  simp only [List.map_cons, List.map_nil, List.length_cons, List.length_nil, Nat.reduceAdd, Nat.reduceSub, List.replicate, List.cons_append, List.nil_append, List.append_nil, Nat.zero_add]
  unfold B_Rule_eq
  simp? [hi, fld_linesE, eqD_tups h h']
end
end RV
end
section
/-! Law k47: drawn rules. -/
namespace RV
open PySem L2
theorem lo17y {a0 a1 a2 a3 a4 a5 a6 a7 a8 a9 a10 a11 a12 a13 a14 a15 a16 : Option D} {r : RV.Env} : look (a0 :: a1 :: a2 :: a3 :: a4 :: a5 :: a6 :: a7 :: a8 :: a9 :: a10 :: a11 :: a12 :: a13 :: a14 :: a15 :: a16 :: r) 16 = a16 := rfl
theorem cut_last {ds : List D} : cutD ds none (some (-1)) = ds.take (ds.length - 1) := by
  unfold cutD
  simp only [HT.sIx_none, List.drop_zero, Nat.sub_zero]
  have e : HT.sIx ds.length ds.length (some (-1)) = ds.length - 1 := by
    unfold HT.sIx
    simp only
    split <;> omega
  rw [e]
theorem pyB : ∀ bs : List Bool, D.pyL (bs.map D.bl) = some (bs.map PyData.bool)
  | [] => rfl
  | b :: bs => by
    simp only [List.map_cons, D.pyL, D.py, pyB bs, Option.map_some, Option.bind_some]
theorem repr_bools {bs : List Bool} (h : bs.length ≤ 100) : ∃ u : Str, ∀ S, reprD3 S [.lst (bs.map D.bl)] = some (.str u) := by
  have e : D.py (.lst (bs.map D.bl)) = some (.list (bs.map PyData.bool)) := by simp only [D.py, pyB, Option.map_some]
  exact ⟨_, fun S => (show reprD3 S [.lst (bs.map D.bl)] = reprD S [.lst (bs.map D.bl)] from rfl).trans (repr_ok (k := 1) (w := (5 + 1) * (bs.map PyData.bool).length) e (ShOk.list (k := 0) (w := 5) (xs := bs.map PyData.bool) fun y hy => by
    obtain ⟨b, _, rfl⟩ := List.mem_map.mp hy
    exact ShOk.bool) (by decide) (by rw [List.length_map]; omega))⟩
section
variable {A : Ad} {S T : WS} {k : Nat} {n : Int} {w : W} {q : D → WS → Prop} {x : Xq} {ss ss' : List Stp} {tags : List Str} {wd : Nat}
theorem strs_sh {ls : List Str} {B : Nat} (h : ∀ t ∈ ls, PyData.strOk t = true ∧ t.length ≤ B) : ShOk 1 ((B + 1) * ls.length) (.tuple (ls.map PyData.str)) := by
  have := ShOk.tuple (k := 0) (w := B) (xs := ls.map PyData.str) fun y hy => by
    obtain ⟨t, ht, rfl⟩ := List.mem_map.mp hy
    exact ShOk.str (h t ht).1 (h t ht).2
  rw [List.length_map] at this
  exact this
theorem repr_four47 {ls ns : List Str} {m : Nat} {t : Str} (h : ∀ t ∈ ls, PyData.strOk t = true ∧ t.length ≤ 1700) (hl : ls.length ≤ 8) (hn : ∀ t ∈ ns, PyData.strOk t = true ∧ t.length ≤ 8) (hnl : ns.length ≤ 12) (hm : m ≤ 8) (ht : PyData.strOk t = true) (htl : t.length ≤ 20000) : ∃ u : Str, ∀ S, reprD3 S [.lst [.tup (ls.map D.str), .tup (ns.map D.str), .int (m : Nat), .str t]] = some (.str u) := by
  have e : D.py (.lst [.tup (ls.map D.str), .tup (ns.map D.str), .int (m : Nat), .str t]) = some (.list [.tuple (ls.map PyData.str), .tuple (ns.map PyData.str), .int (m : Nat), .str t]) := by
    simp only [D.py, D.pyL, pyL_str, Option.map_some, Option.bind_some]
  have h1 := strs_sh h
  have h2 := strs_sh hn
  have w1 : (1700 + 1) * ls.length ≤ 20000 := by omega
  have w2 : (8 + 1) * ns.length ≤ 20000 := by omega
  refine ⟨_, fun S => (show reprD3 S [.lst [.tup (ls.map D.str), .tup (ns.map D.str), .int (m : Nat), .str t]] = reprD S [.lst [.tup (ls.map D.str), .tup (ns.map D.str), .int (m : Nat), .str t]] from rfl).trans (repr_ok (k := 2) (w := 20001 * 4) e (ShOk.list (k := 1) (w := 20000) (xs := [.tuple (ls.map PyData.str), .tuple (ns.map PyData.str), .int (m : Nat), .str t]) fun y hy => ?_) (by decide) (by decide))⟩
  simp only [List.mem_cons, List.not_mem_nil, or_false] at hy
  rcases hy with rfl | rfl | rfl | rfl
  · exact h1.mono (Nat.le_refl _) w1
  · exact h2.mono (Nat.le_refl _) w2
  · exact (sh_bigB (i := (m : Int)) (by omega)).mono (by decide) (by decide)
  · exact ShOk.str ht htl
theorem repr_two47 {ls : List Str} {m : Nat} (h : ∀ t ∈ ls, PyData.strOk t = true ∧ t.length ≤ 1700) (hl : ls.length ≤ 8) (hm : m ≤ 8) : ∃ u : Str, ∀ S, reprD3 S [.lst [.tup (ls.map D.str), .int (m : Nat)]] = some (.str u) := by
  have e : D.py (.lst [.tup (ls.map D.str), .int (m : Nat)]) = some (.list [.tuple (ls.map PyData.str), .int (m : Nat)]) := by
    simp only [D.py, D.pyL, pyL_str, Option.map_some, Option.bind_some]
  have h1 := strs_sh h
  have w1 : (1700 + 1) * ls.length ≤ 20000 := by omega
  refine ⟨_, fun S => (show reprD3 S [.lst [.tup (ls.map D.str), .int (m : Nat)]] = reprD S [.lst [.tup (ls.map D.str), .int (m : Nat)]] from rfl).trans (repr_ok (k := 2) (w := 20001 * 2) e (ShOk.list (k := 1) (w := 20000) (xs := [.tuple (ls.map PyData.str), .int (m : Nat)]) fun y hy => ?_) (by decide) (by decide))⟩
  simp only [List.mem_cons, List.not_mem_nil, or_false] at hy
  rcases hy with rfl | rfl
  · exact h1.mono (Nat.le_refl _) w1
  · exact (sh_bigB (i := (m : Int)) (by omega)).mono (by decide) (by decide)
theorem ruleTx_ok (h : ∀ s ∈ ss, StpOk s) : PyData.strOk (ruleTx ss) = true := strOk_key fun c hc => by
  have lits : ∀ c, 128 ≤ c → ∀ s, StpOk s → c ∉ TL.tl (lnTx s) := fun c hc s hs z => by
    have ok := lnTx_ok hs
    unfold PyData.strOk at ok
    rw [Array.all_eq_true] at ok
    obtain ⟨i, hi, e⟩ := List.mem_iff_getElem.mp z
    have hi2 : i < (lnTx s).cps.size := by
      have : (TL.tl (lnTx s)).length = (lnTx s).cps.size := by
        show (lnTx s).cps.toList.length = _
        simp
      omega
    have := ok i hi2
    have e2 : (lnTx s).cps[i] = c := by
      rw [← e]
      show (lnTx s).cps[i] = (lnTx s).cps.toList[i]
      simp
    rw [e2] at this
    have := of_decide_eq_true this
    exact lnTx_no hs hc z
  unfold ruleTx
  rw [TL.join_eq]
  refine joinN_no (by omega) fun y hy => ?_
  obtain ⟨s, hs, rfl⟩ := List.mem_map.mp hy
  exact lnTx_no (h s hs) hc
where
  lnTx_no {s : Stp} {c : Nat} (h : StpOk s) (hc : 128 ≤ c) : c ∉ TL.tl (lnTx s) := by
    have lits : ∀ y ∈ [("tell " : Str), "doubt", "if ", " == ", " go ", "vote", " ", ": "], c ∉ TL.tl y := fun y hy z => by
      have : ∀ y ∈ [("tell " : Str), "doubt", "if ", " == ", " go ", "vote", " ", ": "], ∀ d ∈ TL.tl y, d < 128 := by decide +kernel
      have := this y hy c z
      omega
    have al := al_big hc
    have sums : ∀ u, SuOk u → c ∉ TL.tl (sumTx u) := fun u hu => sumTx_no al (by omega) (by omega) (by omega) (by omega) (by omega) hu.tm.nm
    cases s with
    | vote n Ts =>
      show c ∉ TL.tl (voteTx n Ts)
      unfold voteTx voteTl sumsTx
      rw [TL.join_eq]
      refine no_cat (no_cat (lits _ (by simp)) (lits _ (by simp))) (no_cat (no_cat (dg_no (by omega)) (lits _ (by simp))) (join_no (by omega) (by omega) fun y hy => ?_))
      obtain ⟨ts, ht, rfl⟩ := List.mem_map.mp hy
      exact sumTx_no al (by omega) (by omega) (by omega) (by omega) (by omega) (h.1.tm ts ht).1.nm
    | doubt =>
      show c ∉ TL.tl ("doubt" : Str)
      exact lits _ (by simp)
    | tell u => exact no_cat (lits _ (by simp)) (sums u h)
    | iff u v g =>
      obtain ⟨hu, hv, hg⟩ := h
      exact no_cat (no_cat (no_cat (no_cat (no_cat (lits _ (by simp)) (sums u hu)) (lits _ (by simp))) (sums v hv)) (lits _ (by simp))) (dg_no (by omega))
/-- the rule with another last row -/
def nearL (ss : List Stp) (l : Stp) : List Stp := ss.take (ss.length - 1) ++ [l]
theorem near_len {l : Stp} (h : 0 < ss.length) : (nearL ss l).length = ss.length := by
  unfold nearL
  rw [List.length_append, List.length_take, List.length_singleton]
  omega
theorem near_rl {l : Stp} (h : RlOk ss) (hl : l = .doubt ∨ l = .tell []) : RlOk (nearL ss l) := by
  have hlen := near_len (l := l) h.lo
  have lo := h.lo
  have gl : ∀ i, (nearL ss l)[i]? = if i < ss.length - 1 then ss[i]? else if i = ss.length - 1 then some l else none := fun i => by
    unfold nearL
    have ht : (ss.take (ss.length - 1)).length = ss.length - 1 := by rw [List.length_take]; omega
    by_cases z : i < ss.length - 1
    · rw [List.getElem?_append_left (by omega), List.getElem?_take, if_pos z, if_pos z]
    · rw [List.getElem?_append_right (by omega), ht, if_neg z]
      by_cases z2 : i = ss.length - 1
      · rw [if_pos z2, z2, Nat.sub_self]
        rfl
      · rw [if_neg z2, List.getElem?_eq_none (by simp; omega)]
  refine ⟨by omega, by have := h.hi; omega, fun i s hs => ?_, l, ?_, ?_⟩
  · rw [gl] at hs
    rw [hlen]
    split at hs
    · exact h.ok i s hs
    · split at hs
      · cases hs
        rcases hl with rfl | rfl
        · trivial
        · exact ⟨⟨fun p hp => by simp at hp, fun p hp => by simp at hp, (by simp [Asc]), fun p hp => by simp at hp⟩, by simp⟩
      · cases hs
  · rw [hlen, gl, if_neg (by omega), if_pos rfl]
  · rcases hl with rfl | rfl
    · exact .inr rfl
    · exact .inl ⟨_, rfl⟩
theorem near_ne {l l0 : Stp} (h : 0 < ss.length) (h0 : ss[ss.length - 1]? = some l0) (hne : lnTx l0 ≠ lnTx l) : decide (ss.map lnTx = (nearL ss l).map lnTx) = false := decide_eq_false fun e => by
  have e1 := congrArg (fun z : List Str => z[ss.length - 1]?) e
  simp only [List.getElem?_map] at e1
  have : (nearL ss l)[ss.length - 1]? = some l := by
    unfold nearL
    rw [List.getElem?_append_right (by rw [List.length_take]; omega)]
    rw [List.length_take, show ss.length - 1 - min (ss.length - 1) ss.length = 0 by omega]
    rfl
  rw [h0, this] at e1
  exact hne (Option.some.inj e1)
theorem tell0_tx : lnTx (.tell []) = "tell 0" := by decide +kernel
theorem ixt_last {ds : List D} {d : D} (h : ds[ds.length - 1]? = some d) (h0 : 0 < ds.length) : ixD S (.tup ds) (.int (-1)) = some d := by
  simp only [ixD]
  unfold atI
  rw [ixN_last h0]
  exact h
theorem rule_strO {ls : List Str} {t : Str} (hj : ∀ S, joinD S (.str "\n") (.tup (ls.map D.str)) = some (.str t)) : strOwnD (A.c "Rule") (G_Rule_str A) [ruleD A ls ss] S q x = q (.str t) S := by
  unfold strOwnD
  simp? [ob_ruleE]
  rw [D_Rule_str]
  unfold fnD startE
  simp only [List.map_cons, List.map_nil, List.length_cons, List.length_nil, Nat.reduceAdd, Nat.reduceSub, List.replicate, List.cons_append, List.nil_append, List.append_nil, Nat.zero_add]
  unfold B_Rule_str
  simp? [fld_linesE, hj]
theorem rule_lenO {ls : List Str} (hl : ls.length ≤ 1000) : lenOwnD (A.c "Rule") (G_Rule_len A) [ruleD A ls ss] S q x = q (.int (ls.length : Nat)) S := by
  have e : lenD S [.tup (ls.map D.str)] = some (.int (ls.length : Nat)) := by simp [lenD, itemsD]
  have h0 : ((0 : Int) ≤ (ls.length : Nat) ∧ ((ls.length : Nat) : Int) < 2 ^ 62) = True := eq_true ⟨by omega, by omega⟩
  unfold lenOwnD
  simp? [ob_ruleE]
  rw [D_Rule_len]
  unfold fnD startE
  simp only [List.map_cons, List.map_nil, List.length_cons, List.length_nil, Nat.reduceAdd, Nat.reduceSub, List.replicate, List.cons_append, List.nil_append, List.append_nil, Nat.zero_add]
  unfold B_Rule_len
  simp? [fld_linesE, e, h0]
theorem rule_rowsE {ls : List Str} : G_Rule_rows A [ruleD A ls ss] S q x = q (.tup (ls.map D.str)) S := by
  rw [D_Rule_rows]
  unfold fnD startE
  simp only [List.map_cons, List.map_nil, List.length_cons, List.length_nil, Nat.reduceAdd, Nat.reduceSub, List.replicate, List.cons_append, List.nil_append, List.append_nil, Nat.zero_add]
  unfold B_Rule_rows
  simp? [fld_linesE]
theorem rule_boolO {ls : List Str} : boolOwnD (A.c "Rule") (G_Rule_bool A) [ruleD A ls ss] S q x = q (.bl true) S := by
  unfold boolOwnD
  simp? [ob_ruleE]
  rw [D_Rule_bool]
  unfold fnD startE
  simp only [List.map_cons, List.map_nil, List.length_cons, List.length_nil, Nat.reduceAdd, Nat.reduceSub, List.replicate, List.cons_append, List.nil_append, List.append_nil, Nat.zero_add]
  unfold B_Rule_bool
  simp? []
theorem rule_jn (h : RlOk ss) : joinD S (.str "\n") (.tup ((ss.map lnTx).map D.str)) = some (.str (ruleTx ss)) := join_strs rfl (by
  have h8 := h.hi
  have := sum_lenB (B := 8000) (l := ss.map lnTx) fun t ht => by
    obtain ⟨s, hs, rfl⟩ := List.mem_map.mp ht
    exact h.len8 s hs
  rw [List.length_map] at this
  rw [List.length_map, show ("\n" : Str).length = 1 from by decide +kernel]
  omega)
theorem right47 (hRu : "Rule" ∈ A.here) (hk : k < S.length) (g : Good n w) (hn : n < 1000000) (h : ∀ w', q (.bl true) (st S k w' T)) : G_right_k47 A [.cell k] (st S k w T) q x := by
  have tt : ∀ (S : WS) (ds : List D), tupleD S [.lst ds] = some (.tup ds) := fun _ _ => rfl
  have p19 : powOk 10 19 = true := by decide +kernel
  have e19 : ((10 : Int) ^ (19 : Int).toNat) = 10000000000000000000 := by decide +kernel
  have e20 : (10000000000000000000 : Int) + 7 = ((10000000000000000007 : Nat) : Int) := rfl
  rw [D_right_k47]
  unfold fnD startE
  simp only [List.map_cons, List.map_nil, List.length_cons, List.length_nil, Nat.reduceAdd, Nat.reduceSub, List.replicate, List.cons_append, List.nil_append, List.append_nil, Nat.zero_add]
  unfold B_right_k47
  refine seq_gen fun N_ hN_ => ?_
  simp? []
  refine takeG hk g (by decide) (by decide) (by omega) fun d w1 d0 d1 g1 => ?_
  obtain ⟨z1, rfl⟩ : ∃ z : Nat, d = (z : Int) := ⟨d.toNat, by omega⟩
  have e1 : ((1 : Int) + (z1 : Int)) = ((1 + z1 : Nat) : Int) := by omega
  simp? [e1]
  refine titlesG hk g1 (by omega) (by omega) fun tags w2 t1 t2 t3 g2 => ?_
  simp? []
  subst hN_
  refine seq_gen fun N_ hN_ => ?_
  simp? [powD_int p19, e19, e20]
  refine stepsG (m := 8) (wd := 10000000000000000007) (w0 := 10000000000000000007) hk g2 (by omega) (by decide) (by decide) (by decide) t1 (by omega) (by decide) (by decide) fun ss w3 hs g3 => ?_
  simp? []
  refine stepsG (m := 8) (wd := 12) (w0 := 7) hk g3 (by omega) (by decide) (by decide) (by decide) t1 (by omega) (by decide) (by decide) fun ts w4 hts g4 => ?_
  simp? []
  subst hN_
  have hrl := hs.rl
  have hrt := hts.rl
  have hss8 := hrl.hi
  have hts8 := hrt.hi
  have lnm : ∀ ss : List Stp, (ss.map fun s => D.str (lnTx s)) = (ss.map lnTx).map D.str := fun ss => by rw [List.map_map]; rfl
  refine seq_gen fun N_ hN_ => ?_
  simp? [small_of (n := (ss.map stL).length) (by rw [List.length_map]; omega)]
  refine lc_imp (p := fun _ => true) (inj := stL) (g := fun s => D.str (lnTx s)) ss [] trivial (fun s hs2 => ⟨_, rfl, fun q x h => h, fun _ q x hq => ?_⟩) ?_
  · unfold C_right_k47_0
    simp? [lo17y]
    exact lineG (hrl.stp s hs2) hq
  rw [List.nil_append, List.filter_eq_self.mpr fun _ _ => rfl, lnm]
  simp? [tt, small_of (n := (ts.map stL).length) (by rw [List.length_map]; omega)]
  refine lc_imp (p := fun _ => true) (inj := stL) (g := fun s => D.str (lnTx s)) ts [] trivial (fun s hs2 => ⟨_, rfl, fun q x h => h, fun _ q x hq => ?_⟩) ?_
  · unfold C_right_k47_1
    simp? [lo17y]
    exact lineG (hrt.stp s hs2) hq
  rw [List.nil_append, List.filter_eq_self.mpr fun _ _ => rfl, lnm]
  simp? [tt]
  subst hN_
  have lns : ∀ t ∈ ss.map lnTx, PyData.strOk t = true ∧ t.length ≤ 1700 := fun t ht => by
    obtain ⟨s, hs2, rfl⟩ := List.mem_map.mp ht
    exact ⟨lnTx_ok (hrl.stp s hs2), hs.len17 t1 s hs2⟩
  have lnt : ∀ t ∈ ts.map lnTx, PyData.strOk t = true ∧ t.length ≤ 1700 := fun t ht => by
    obtain ⟨s, hs2, rfl⟩ := List.mem_map.mp ht
    exact ⟨lnTx_ok (hrt.stp s hs2), hts.len17 t1 s hs2⟩
  have hfew := names_few hs.in_tags
  have lt : ∀ (S : WS) (ls : List Str), lenD S [.tup (ls.map D.str)] = some (.int (ls.length : Nat)) := fun S ls => by simp [lenD, itemsD]
  obtain ⟨u, hu⟩ := repr_four47 (ns := ascS (namesL ss)) (m := (ss.map lnTx).length) lns (by rw [List.length_map]; omega) (fun t ht => by
    have := t1 t (hs.in_tags t (mem_ascS.mp ht))
    exact ⟨nm_strOk this, (nm_len this).2⟩) (by omega) (by rw [List.length_map]; omega) (ruleTx_ok hrl.stp) (by
    have := ruleTx_lenB (hs.len17 t1)
    omega)
  refine seq_gen fun N_ hN_ => ?_
  simp? []
  refine names_ofG (fun s hs2 u hu => (hs.sums s hs2 u hu).few) (fun s hs2 => ?_) hss8 (by omega) ?_
  · obtain ⟨i, hi, e⟩ := List.mem_iff_getElem.mp hs2
    have ok := hs.ok i s (by rw [List.getElem?_eq_getElem hi, e])
    cases s with
    | iff u v g => show 2 ≤ 10; decide
    | vote c Ts => exact ok.2.2.1
    | tell u => show 1 ≤ 10; decide
    | doubt => show 0 ≤ 10; decide
  simp? [lt, rule_jn hrl, hu]
  subst hN_
  refine seq_gen fun N_ hN_ => ?_
  simp? []
  refine rule_makeG hrl (rd_all hrl) (fun _ => hrl.ne) ?_
  simp? [rule_jn hrl]
  refine rule_readG hrl ?_
  simp? []
  subst hN_
  refine seq_gen fun N_ hN_ => ?_
  simp? [perm, List.flatMap_cons, List.flatMap_nil, List.drop_zero, List.take_succ_cons, List.take_zero]
  refine rule_makeG hrl (rd_all hrl) (fun _ => hrl.ne) ?_
  simp? []
  refine rule_makeG hrt (rd_all hrt) (fun _ => hrt.ne) ?_
  simp? []
  subst hN_
  obtain ⟨l0, hl0, hl1⟩ := hrl.last
  have ng : ∀ S, negD S (.int 1) = some (.int (-1)) := fun _ => rfl
  have sl : ∀ S, slTD S (.tup ((ss.map lnTx).map D.str)) none (some (-1)) = some (.tup (((ss.take (ss.length - 1)).map lnTx).map D.str)) := fun S => by
    show some (D.tup (cutD _ none (some (-1)))) = _
    rw [cut_last, List.length_map, List.length_map, ← List.map_take, ← List.map_take]
  have xl : ∀ S, ixD S (.tup ((ss.map lnTx).map D.str)) (.int (-1)) = some (.str (lnTx l0)) := fun S => by
    have lo := hrl.lo
    refine ixt_last ?_ (by rw [List.length_map, List.length_map]; omega)
    rw [List.length_map, List.length_map, List.getElem?_map, List.getElem?_map, hl0]
    rfl
  have near : ∃ l1 : Stp, (l1 = .doubt ∨ l1 = .tell []) ∧ lnTx l0 ≠ lnTx l1 ∧ ((if decide (lnTx l0 = "doubt") = true then D.str "tell 0" else D.str "doubt") = D.str (lnTx l1)) := by
    rcases hl1 with ⟨u, rfl⟩ | rfl
    · refine ⟨.doubt, .inl rfl, fun e => ?_, ?_⟩
      · have := doubt_ne (u := u)
        exact (of_decide_eq_false this) e
      · rw [doubt_ne]
        rfl
    · refine ⟨.tell [], .inr rfl, fun e => ?_, ?_⟩
      · have := doubt_ne (u := [])
        exact (of_decide_eq_false this) e.symm
      · rw [show decide (lnTx .doubt = "doubt") = true from by decide +kernel, tell0_tx]
        rfl
  obtain ⟨l1, hl2, hl3, hl4⟩ := near
  have hnl := near_rl hrl hl2
  have hla : (nearL ss l1).map lnTx = (ss.take (ss.length - 1)).map lnTx ++ [lnTx l1] := by
    unfold nearL
    rw [List.map_append]
    rfl
  have ad : ∀ S, catTD S (.tup (((ss.take (ss.length - 1)).map lnTx).map D.str)) (.tup [.str (lnTx l1)]) = some (.tup (((nearL ss l1).map lnTx).map D.str)) := fun S => by
    rw [hla, List.map_append]
    have sm : small ((((ss.take (ss.length - 1)).map lnTx).map D.str).length + ([D.str (lnTx l1)] : List D).length) = true := small_of (by rw [List.length_map, List.length_map, List.length_take, List.length_singleton]; omega)
    exact if_pos sm
  have hss : ∀ t ∈ ss.map lnTx, PyData.strOk t = true := fun t ht => (lns t ht).1
  have hts2 : ∀ t ∈ ts.map lnTx, PyData.strOk t = true := fun t ht => (lnt t ht).1
  have hns : ∀ t ∈ (nearL ss l1).map lnTx, PyData.strOk t = true := fun t ht => by
    obtain ⟨s, hs2, rfl⟩ := List.mem_map.mp ht
    exact lnTx_ok (hnl.stp s hs2)
  refine seq_gen fun N_ hN_ => ?_
  have rest : N_ [some (.cell k), some (.lst (tags.map D.str)), some (.lst (ss.map stL)), some (.lst (ts.map stL)), some (.tup ((ss.map lnTx).map D.str)), some (.tup ((ts.map lnTx).map D.str)), some (.str u), some (ruleD A (ss.map lnTx) ss), some (ruleD A (ss.map lnTx) ss), some (ruleD A (ss.map lnTx) ss), some (ruleD A (ts.map lnTx) ts), some (ruleD A ((nearL ss l1).map lnTx) (nearL ss l1)), none, none, none, none, none] (st S k w4 T) := by
    subst hN_
    have nt : ∀ S (t : Str), neD S (.str t) (.str t) = some (.bl false) := fun S t => by
      rw [neD_str]
      simp
    have mt : ∀ {q : D → WS → Prop} {x : Xq}, q (.tup ((ascS (namesL ss)).map D.str)) (st S k w4 T) → G_Rule_meters A [ruleD A (ss.map lnTx) ss] (st S k w4 T) q x := fun hq => by
      have few : ∀ s ∈ ss, ∀ u ∈ sumsT s, u.length ≤ 60 := fun s hs2 u hu => by
        have := (hs.sums s hs2 u hu).few
        omega
      refine rule_metersG few hs.nms (by rw [← names_nms]; omega) ?_
      rw [← names_nms]
      exact hq
    have turn : ∀ (r : Nat) (o12 o13 o14 o15 o16 : Option D) (kt : Kt), (∀ o12, kt.nx [some (.cell k), some (.lst (tags.map D.str)), some (.lst (ss.map stL)), some (.lst (ts.map stL)), some (.tup ((ss.map lnTx).map D.str)), some (.tup ((ts.map lnTx).map D.str)), some (.str u), some (ruleD A (ss.map lnTx) ss), some (ruleD A (ss.map lnTx) ss), some (ruleD A (ss.map lnTx) ss), some (ruleD A (ts.map lnTx) ts), some (ruleD A ((nearL ss l1).map lnTx) (nearL ss l1)), o12, o13, o14, o15, o16] (st S k w4 T)) →
        forD any_ (tName 12) (L_right_k47_0 A) (List.replicate r (ruleD A (ss.map lnTx) ss)) [some (.cell k), some (.lst (tags.map D.str)), some (.lst (ss.map stL)), some (.lst (ts.map stL)), some (.tup ((ss.map lnTx).map D.str)), some (.tup ((ts.map lnTx).map D.str)), some (.str u), some (ruleD A (ss.map lnTx) ss), some (ruleD A (ss.map lnTx) ss), some (ruleD A (ss.map lnTx) ss), some (ruleD A (ts.map lnTx) ts), some (ruleD A ((nearL ss l1).map lnTx) (nearL ss l1)), o12, o13, o14, o15, o16] (st S k w4 T) kt := fun r => by
      induction r with
      | zero => exact fun o12 o13 o14 o15 o16 kt h => ⟨trivial, h o12⟩
      | succ r ih =>
        intro o12 o13 o14 o15 o16 kt h
        rw [List.replicate_succ]
        refine for_nameG trivial fun F hF => ?_
        unfold L_right_k47_0
        simp? [ob_ruleE, rule_rowsE]
        refine mt ?_
        simp? [rule_lenO (A := A) (ss := ss) (ls := ss.map lnTx) (by rw [List.length_map]; omega), rule_strO (A := A) (ss := ss) (ls := ss.map lnTx) (t := ruleTx ss) (fun S => rule_jn hrl), hu, nt]
        rw [hF]
        exact ih _ _ _ _ _ kt h
    refine seq_gen fun N_ hN_ => ?_
    simp? [show small 4 = true from rfl]
    refine turn 4 none none none none none _ fun o12 => ?_
    dsimp only
    subst hN_
    refine seq_gen fun N_ hN_ => ?_
    simp? [eqD_tups hss hts2]
    subst hN_
    have hne := near_ne hrl.lo hl0 hl3
    have hne2 : decide ((nearL ss l1).map lnTx = ss.map lnTx) = false := decide_eq_false fun e => (of_decide_eq_false hne) e.symm
    refine seq_gen fun N_ hN_ => ?_
    simp? [rule_eqO (neg := false) (ss := ss) (ss' := ss) hRu hss hss, rule_eqO (neg := true) (ss := ss) (ss' := ss) hRu hss hss, rule_eqO (neg := false) (ss := ss) (ss' := ts) hRu hss hts2, rule_eqO (neg := false) (ss := ts) (ss' := ss) hRu hts2 hss, rule_eqO (neg := true) (ss := ss) (ss' := ts) hRu hss hts2, rule_eqO (neg := false) (ss := ss) (ss' := nearL ss l1) hRu hss hns, hne]
    subst hN_
    have kin : ∀ (d : D) (ty : String), (ty = "tuple" ∨ ty = "str" ∨ ty = "NoneType") → kindD (own A) d = some (.type ty) → ∀ {neg : Bool} {S : WS} {q : D → WS → Prop} {x : Xq}, eqOwnD (A.c "Rule") (own A) (G_Rule_eq A) neg (nf A) (ruleD A (ss.map lnTx) ss) d S q x = q (.bl neg) S := fun d ty hty hk {neg S q x} => by
      have hmem : Value.type ty ∈ kinds A := by rcases hty with rfl | rfl | rfl <;> simp [kinds]
      have hnf : nf A (.type ty) = true := by
        unfold nf nfD
        exact decide_eq_true hmem
      have hi : ∀ S, isiD (own A) (tab A) S [d, .adr (A.c "Rule")] = some (.bl false) := fun S => by
        rw [isi_of (t := .type ty) (u := .ref (A.c "Rule")) hk rfl hmem (ref_clss hRu)]
        simp [sub]
      unfold eqOwnD
      simp? [ob_ruleE, hk, hnf]
      rw [D_Rule_eq]
      unfold fnD startE
      simp only [List.map_cons, List.map_nil, List.length_cons, List.length_nil, Nat.reduceAdd, Nat.reduceSub, List.replicate, List.cons_append, List.nil_append, List.append_nil, Nat.zero_add]
      unfold B_Rule_eq
      simp? [hi]
      cases neg <;> rfl
    have k1 := fun (ls : List Str) => @kin (.tup (ls.map D.str)) "tuple" (.inl rfl) rfl
    have k2 := fun (t : Str) => @kin (.str t) "str" (.inr (.inl rfl)) rfl
    have k3 := @kin .non "NoneType" (.inr (.inr rfl)) rfl
    refine seq_gen fun N_ hN_ => ?_
    simp? [rule_eqO (neg := true) (ss := nearL ss l1) (ss' := ss) hRu hns hss, hne2, k1, k2, k3, rule_strO (A := A) (ss := ss) (ls := ss.map lnTx) (t := ruleTx ss) (fun S => rule_jn hrl), rule_boolO]
    have a13 : ∀ (S : WS) (a b c d e f g a' b' c' d' e' f' : D), addD S (.lst [a, b, c, d, e, f, g]) (.lst [a', b', c', d', e', f']) = some (.lst [a, b, c, d, e, f, g, a', b', c', d', e', f']) := fun _ _ _ _ _ _ _ _ _ _ _ _ _ _ => rfl
    simp? [a13]
    subst hN_
    refine seq_gen fun N_ hN_ => ?_
    simp? []
    subst hN_
    obtain ⟨v, hv⟩ := repr_two47 (m := (ts.map lnTx).length) lnt (by rw [List.length_map]; omega) (by rw [List.length_map]; omega)
    have bs : ∃ z : Str, ∀ S, reprD3 S [.lst [.bl true, .bl true, .bl false, .bl (decide (ss.map lnTx = ts.map lnTx)), .bl (decide (ts.map lnTx = ss.map lnTx)), .bl (!decide (ss.map lnTx = ts.map lnTx)), .bl false, .bl true, .bl false, .bl true, .bl false, .bl true, .bl true]] = some (.str z) := repr_bools (bs := [true, true, false, decide (ss.map lnTx = ts.map lnTx), decide (ts.map lnTx = ss.map lnTx), !decide (ss.map lnTx = ts.map lnTx), false, true, false, true, false, true, true]) (by simp)
    obtain ⟨z, hz⟩ := bs
    have sym : decide (ts.map lnTx = ss.map lnTx) = decide (ss.map lnTx = ts.map lnTx) := decide_eq_decide.mpr ⟨Eq.symm, Eq.symm⟩
    rw [sym] at hz
    have ee : ∀ S (t : Str), eqD S (.str t) (.str t) = some (.bl true) := fun S t => by rw [eqD_str]; simp
    simp? [sym, hz, ee, ob_ruleE, rule_rowsE, rule_lenO (A := A) (ss := ts) (ls := ts.map lnTx) (by rw [List.length_map]; omega), lt, hv]
    exact ⟨by decide, h w4⟩
  simp? [ng, sl, xl]
  rcases hl1 with ⟨u0, rfl⟩ | rfl
  · rw [doubt_ne] at hl4
    have hl5 : D.str (lnTx l1) = .str "doubt" := by rw [← hl4]; rfl
    rw [hl5] at ad
    simp? [doubt_ne, ad]
    refine rule_makeG hnl (rd_all hnl) (fun _ => hnl.ne) ?_
    simp? []
    exact rest
  · have hd : decide (lnTx .doubt = "doubt") = true := by decide +kernel
    rw [hd] at hl4
    have hl5 : D.str (lnTx l1) = .str "tell 0" := by rw [← hl4]; rfl
    rw [hl5] at ad
    simp? [hd, ad]
    refine rule_makeG hnl (rd_all hnl) (fun _ => hnl.ne) ?_
    simp? []
    exact rest
end
end RV
end
section
namespace RV
open PySem L2
theorem max_minG {ns : List Int} {c : Nat} (hc : 2 ≤ c) : ∃ j : Nat, j ≤ c ∧ (if (if (c : Int) < (ns.length : Nat) then (c : Int) else (ns.length : Nat)) > 2 then (if (c : Int) < (ns.length : Nat) then (c : Int) else (ns.length : Nat)) else 2) = ((j : Nat) : Int) := by
  refine ⟨(if (if (c : Int) < (ns.length : Nat) then (c : Int) else (ns.length : Nat)) > 2 then (if (c : Int) < (ns.length : Nat) then (c : Int) else (ns.length : Nat)) else 2).toNat, ?_, ?_⟩ <;> split <;> split at * <;> omega
theorem min2G {S : WS} {i j : Int} : min2D S [.int i, .int j] = some (.int (if j < i then j else i)) := rfl
theorem max2G {S : WS} {i j : Int} : max2D S [.int i, .int j] = some (.int (if j > i then j else i)) := rfl
theorem lenScrG {S : WS} {ns : List Int} : lenD S [.scr ns] = some (.int (ns.length : Nat)) := by simp [lenD, itemsD]
end RV
end
section
/-! Law k47: its own rules, its end. -/
namespace RV
open PySem L2
def wd7 : Nat := 9999999999999999999999999999999999999999
def tg7 : List Str := ["m1", "m2", "m3", "m4", "m5", "go", "if", "a", "b1234567", "z", "zz"]
theorem su7_dec {u : List PR} (h : ((∀ p ∈ u, nmL p.1.cps.toList = true) ∧ (∀ p ∈ u, p.2 ≠ 0) ∧ u.length ≤ 3) ∧ (∀ p ∈ u, p.1 ∈ tg7) ∧ ∀ p ∈ u, p.2.natAbs ≤ wd7) (ha : Asc (u.map (·.1))) : Su5 tg7 3 wd7 u :=
  ⟨⟨h.1.1, h.1.2.1, ha, fun p hp => Nat.lt_of_le_of_lt (h.2.2 p hp) (by decide)⟩, h.1.2.2, h.2.1, h.2.2⟩
def v1 : List PR := [("m1", 1)]
def v23 : List PR := [("m2", 1), ("m3", 1)]
def v45 : List PR := [("m4", 1), ("m5", 1)]
def vgo : List PR := [("go", -3), ("if", 1)]
def vab : List PR := [("a", 1111111111111111111111111111111111111111), ("b1234567", -9999999999999999999999999999999999999999)]
def vzz : List PR := [("z", 1), ("zz", -1)]
theorem sv_1 : Su5 tg7 3 wd7 v1 := su7_dec (by decide +kernel) (asc_sorted (by decide +kernel) (by decide +kernel))
theorem sv_23 : Su5 tg7 3 wd7 v23 := su7_dec (by decide +kernel) (asc_sorted (by decide +kernel) (by decide +kernel))
theorem sv_45 : Su5 tg7 3 wd7 v45 := su7_dec (by decide +kernel) (asc_sorted (by decide +kernel) (by decide +kernel))
theorem sv_go : Su5 tg7 3 wd7 vgo := su7_dec (by decide +kernel) (asc_sorted (by decide +kernel) (by decide +kernel))
theorem sv_ab : Su5 tg7 3 wd7 vab := su7_dec (by decide +kernel) (asc_sorted (by decide +kernel) (by decide +kernel))
theorem sv_zz : Su5 tg7 3 wd7 vzz := su7_dec (by decide +kernel) (asc_sorted (by decide +kernel) (by decide +kernel))
theorem sv_0 : Su5 tg7 3 wd7 [] := su7_dec (by decide +kernel) (asc_sorted (by decide +kernel) (by decide +kernel))
def j1 : List Stp := [.iff v1 v23 2, .tell v45, .tell v1]
def j2 : List Stp := [.doubt]
def j3 : List Stp := [.tell []]
def j4 : List Stp := .iff [] [] 7 :: List.replicate 7 (.tell vgo)
def j5 : List Stp := [.vote 3 [vab], .tell vzz]
theorem j1_ok : StsOk tg7 wd7 j1 := by
  refine ⟨by decide, by decide, fun a s hs => ?_, .tell v1, rfl, .inl ⟨_, rfl⟩⟩
  match a, hs with
  | 0, hs => cases hs; exact ⟨sv_1, sv_23, by decide, by decide⟩
  | 1, hs => cases hs; exact sv_45
  | 2, hs => cases hs; exact sv_1
  | a + 3, hs => cases hs
theorem j2_ok : StsOk tg7 wd7 j2 := by
  refine ⟨by decide, by decide, fun a s hs => ?_, .doubt, rfl, .inr rfl⟩
  match a, hs with
  | 0, hs => cases hs; trivial
  | a + 1, hs => cases hs
theorem j3_ok : StsOk tg7 wd7 j3 := by
  refine ⟨by decide, by decide, fun a s hs => ?_, .tell [], rfl, .inl ⟨_, rfl⟩⟩
  match a, hs with
  | 0, hs => cases hs; exact sv_0
  | a + 1, hs => cases hs
theorem j4_ok : StsOk tg7 wd7 j4 := by
  refine ⟨by decide, by decide, fun a s hs => ?_, .tell vgo, rfl, .inl ⟨_, rfl⟩⟩
  match a, hs with
  | 0, hs => cases hs; exact ⟨sv_0, sv_0, by decide, by decide⟩
  | a + 1, hs =>
    have hm : s ∈ List.replicate 7 (Stp.tell vgo) := List.mem_of_getElem? (i := a) hs
    rw [List.eq_of_mem_replicate hm]
    exact sv_go
theorem j5_ok : StsOk tg7 wd7 j5 := by
  refine ⟨by decide, by decide, fun a s hs => ?_, .tell vzz, rfl, .inl ⟨_, rfl⟩⟩
  match a, hs with
  | 0, hs =>
    cases hs
    exact ⟨by decide, by decide, by decide, fun u hu => by rw [List.mem_singleton.mp hu]; exact sv_ab⟩
  | 1, hs => cases hs; exact sv_zz
  | a + 2, hs => cases hs
theorem tj1 : j1.map lnTx = (["if m1 == m2 + m3 go 2", "tell m4 + m5", "tell m1"] : List Str) := by decide +kernel
theorem tj4 : j4.map lnTx = (("if 0 == 0 go 7" : Str) :: List.replicate 7 ("tell -3*go + if" : Str)) := by decide +kernel
theorem tj5 : j5.map lnTx = [("vote 3: " : Str) ++ repS "1" 40 ++ "*a - " ++ repS "9" 40 ++ "*b1234567", "tell z - zz"] := by decide +kernel
def namesP (ss : List Stp) : List Str := ascS (nmsT ss [])
theorem nj1 : namesP j1 = (["m1", "m2", "m3", "m4", "m5"] : List Str) := by decide +kernel
theorem nj5 : namesP j5 = (["a", "b1234567", "z", "zz"] : List Str) := by decide +kernel
theorem nj234 : [j2, j3, j4].map namesP = ([[], [], ["go", "if"]] : List (List Str)) := by decide +kernel
def tupS (ns : List Str) : D := .tup (ns.map D.str)
def due7 : D := .lst [.int 3, tupS ["m1", "m2", "m3", "m4", "m5"], .lst [tupS [], tupS [], tupS ["go", "if"]], .lst [.int 1, .int 1, .int 8], tupS ["a", "b1234567", "z", "zz"], .int 2]
def py7 : PyData := .list [.int 3, .tuple ((["m1", "m2", "m3", "m4", "m5"] : List Str).map PyData.str), .list [.tuple [], .tuple [], .tuple ((["go", "if"] : List Str).map PyData.str)], .list [.int 1, .int 1, .int 8], .tuple ((["a", "b1234567", "z", "zz"] : List Str).map PyData.str), .int 2]
theorem rep7 {S : WS} : reprD3 S [due7] = some (.str py7.shown) := by
  show reprD S [due7] = _
  have e : D.py due7 = some py7 := by
    simp only [due7, tupS, py7, D.py, D.pyL, pyL_str, List.map_nil, Option.map_some, Option.bind_some]
  have sh : py7.showable = true ∧ py7.hasDict = false ∧ py7.depth ≤ 64 ∧ py7.shown.length ≤ sizeLine := by decide +kernel
  simp only [reprD, e, Option.bind_some]
  rw [if_pos sh]
theorem allT7 {S : WS} (n : Nat) : allD S [.lst (List.replicate n (.bl true))] = some (.bl true) := by
  have e : List.replicate n (D.bl true) = (List.replicate n true).map fun b => D.bl ((fun b : Bool => b) b) := by simp
  rw [e, allD_map (p := fun b : Bool => b)]
  simp
theorem st_newF {S : WS} {w : W} : S ++ [w.d] = st (S ++ [w.d]) S.length w [] := by
  unfold st
  rw [List.append_nil, List.set_append_right _ _ (Nat.le_refl _)]
  simp
theorem law_true_law_k47 {A : Ad} {ns : List Int} {q : D → WS → Prop} {x : Xq} (hA : AdOk A ["Sum", "Rule"]) (hl : ns.length ≤ 63) (hq : q (.bl true) []) : G_law_k47 A [.scr ns] [] q x := by
  have hRu : "Rule" ∈ A.here := by rw [hA.here]; simp
  have mk : ∀ (ss : List Stp) {S : WS} {q : D → WS → Prop} {x : Xq}, StsOk tg7 wd7 ss → q (ruleD A (ss.map lnTx) ss) S → makeD .still (A.c "Rule") 2 (G_Rule_init A) [.tup ((ss.map lnTx).map D.str)] S q x := fun ss _ _ _ h hq => rule_makeG h.rl (rd_all h.rl) (fun _ => h.rl.ne) hq
  have mt : ∀ (ss : List Stp) {S : WS} {q : D → WS → Prop} {x : Xq}, StsOk tg7 wd7 ss → q (tupS (namesP ss)) S → G_Rule_meters A [ruleD A (ss.map lnTx) ss] S q x := fun ss _ _ _ h hq => by
    have few : ∀ s ∈ ss, ∀ u ∈ sumsT s, u.length ≤ 60 := fun s hs2 u hu => by
      have := (h.sums s hs2 u hu).few
      omega
    have hf := names_few h.in_tags
    have : tg7.length = 11 := rfl
    exact rule_metersG few h.nms (by rw [← names_nms]; omega) hq
  have e1 : D.tup [.str "if m1 == m2 + m3 go 2", .str "tell m4 + m5", .str "tell m1"] = .tup ((j1.map lnTx).map D.str) := by rw [tj1]; rfl
  have e2 : D.tup [.str "doubt"] = .tup ((j2.map lnTx).map D.str) := rfl
  have e3 : D.tup [.str "tell 0"] = .tup ((j3.map lnTx).map D.str) := by
    show _ = D.tup [.str (lnTx (.tell []))]
    rw [tell0_tx]
  have r7 : ∀ S, repTD S (.tup [.str "tell -3*go + if"]) (.int 7) = some (.tup (List.replicate 7 (.str "tell -3*go + if"))) := fun _ => rfl
  have e4 : ∀ S, catTD S (.tup [.str "if 0 == 0 go 7"]) (.tup (List.replicate 7 (.str "tell -3*go + if"))) = some (.tup ((j4.map lnTx).map D.str)) := fun S => by
    rw [tj4]
    rfl
  have m1 : ∀ S, mulSD S (.str "1") (.int 40) = some (.str (repS "1" 40)) := fun S => by
    have h : (2 : Int) ≤ 40 ∧ (40 : Int) < 1000 ∧ 0 < ("1" : Str).length ∧ ("1" : Str).length < 1000 := by decide +kernel
    simp only [mulSD, h, and_self, if_true]
    rfl
  have m9 : ∀ S, mulSD S (.str "9") (.int 40) = some (.str (repS "9" 40)) := fun S => by
    have h : (2 : Int) ≤ 40 ∧ (40 : Int) < 1000 ∧ 0 < ("9" : Str).length ∧ ("9" : Str).length < 1000 := by decide +kernel
    simp only [mulSD, h, and_self, if_true]
    rfl
  have s9 : ∀ S, slD S (.str "*b12345678") none (some 9) = some (.str "*b1234567") := fun _ => congrArg some (congrArg D.str (by decide +kernel))
  have a1 : ∀ S, addD S (.str "vote 3: ") (.str (repS "1" 40)) = some (.str (("vote 3: " : Str) ++ repS "1" 40)) := fun S => addD_str (small_of (by decide +kernel))
  have a2 : ∀ S, addD S (.str (("vote 3: " : Str) ++ repS "1" 40)) (.str "*a - ") = some (.str (("vote 3: " : Str) ++ repS "1" 40 ++ "*a - ")) := fun S => addD_str (small_of (by decide +kernel))
  have a3 : ∀ S, addD S (.str (("vote 3: " : Str) ++ repS "1" 40 ++ "*a - ")) (.str (repS "9" 40)) = some (.str (("vote 3: " : Str) ++ repS "1" 40 ++ "*a - " ++ repS "9" 40)) := fun S => addD_str (small_of (by decide +kernel))
  have a4 : ∀ S, addD S (.str (("vote 3: " : Str) ++ repS "1" 40 ++ "*a - " ++ repS "9" 40)) (.str "*b1234567") = some (.str (("vote 3: " : Str) ++ repS "1" 40 ++ "*a - " ++ repS "9" 40 ++ "*b1234567")) := fun S => addD_str (small_of (by decide +kernel))
  have e5 : D.tup [.str (("vote 3: " : Str) ++ repS "1" 40 ++ "*a - " ++ repS "9" 40 ++ "*b1234567"), .str "tell z - zz"] = .tup ((j5.map lnTx).map D.str) := by rw [tj5]; rfl
  have nt : ∀ S (t : Str), neD S (.str t) (.str t) = some (.bl false) := fun S t => by
    rw [neD_str]
    simp
  have r234 : D.lst [ruleD A (j2.map lnTx) j2, ruleD A (j3.map lnTx) j3, ruleD A (j4.map lnTx) j4] = .lst ([j2, j3, j4].map fun ss => ruleD A (ss.map lnTx) ss) := rfl
  have ok234 : ∀ ss ∈ [j2, j3, j4], StsOk tg7 wd7 ss := fun ss h => by
    simp only [List.mem_cons, List.not_mem_nil, or_false] at h
    rcases h with rfl | rfl | rfl
    · exact j2_ok
    · exact j3_ok
    · exact j4_ok
  rw [D_law_k47]
  unfold fnD startE
  simp only [List.map_cons, List.map_nil, List.length_cons, List.length_nil, Nat.reduceAdd, Nat.reduceSub, List.replicate, List.cons_append, List.nil_append, List.append_nil, Nat.zero_add]
  unfold B_law_k47
  refine seq_gen fun N_ hN_ => ?_
  simp? [e1]
  refine mk j1 j1_ok ?_
  simp? []
  subst hN_
  refine seq_gen fun N_ hN_ => ?_
  simp? [e2]
  refine mk j2 j2_ok ?_
  simp? [e3]
  refine mk j3 j3_ok ?_
  simp? [r7, e4]
  refine mk j4 j4_ok ?_
  simp? [r234]
  subst hN_
  refine seq_gen fun N_ hN_ => ?_
  simp? [m1, m9, s9, a1, a2, a3, a4, e5]
  refine mk j5 j5_ok ?_
  simp? []
  subst hN_
  refine seq_gen fun N_ hN_ => ?_
  simp? [ob_ruleE, rule_lenO (A := A) (ss := j1) (ls := j1.map lnTx) (by decide)]
  refine mt j1 j1_ok ?_
  simp? []
  refine ⟨small_of (by rw [List.length_map]; decide), ?_⟩
  refine lc_imp (N := any_) (f := tName 5) (me := C_law_k47_0 A) (mc := bYes) (p := fun _ => true) (inj := fun ss => ruleD A (ss.map lnTx) ss) (g := fun ss => tupS (namesP ss)) [j2, j3, j4] [] trivial (fun ss hs2 => ⟨_, rfl, fun q x h => h, fun _ q x hq => ?_⟩) ?_
  · unfold C_law_k47_0
    simp? [ob_ruleE]
    exact mt ss (ok234 ss hs2) hq
  rw [List.nil_append, List.filter_eq_self.mpr fun _ _ => rfl]
  simp? []
  refine ⟨small_of (by rw [List.length_map]; decide), ?_⟩
  refine lc_imp (N := any_) (f := tName 5) (me := C_law_k47_1 A) (mc := bYes) (p := fun _ => true) (inj := fun ss => ruleD A (ss.map lnTx) ss) (g := fun ss => D.int ((ss.map lnTx).length : Nat)) [j2, j3, j4] [] trivial (fun ss hs2 => ⟨_, rfl, fun q x h => h, fun _ q x hq => ?_⟩) ?_
  · unfold C_law_k47_1
    have := (ok234 ss hs2).hi
    simp? [rule_lenO (A := A) (ss := ss) (ls := ss.map lnTx) (by rw [List.length_map]; omega)]
    exact hq
  rw [List.nil_append, List.filter_eq_self.mpr fun _ _ => rfl]
  simp? [ob_ruleE]
  refine mt j5 j5_ok ?_
  simp? [rule_lenO (A := A) (ss := j5) (ls := j5.map lnTx) (by decide)]
  subst hN_
  have ed : D.lst [.int ((j1.map lnTx).length : Nat), tupS (namesP j1), .lst ([j2, j3, j4].map fun ss => tupS (namesP ss)), .lst ([j2, j3, j4].map fun ss => D.int ((ss.map lnTx).length : Nat)), tupS (namesP j5), .int ((j5.map lnTx).length : Nat)] = due7 := by
    have z : ([j2, j3, j4].map fun ss => tupS (namesP ss)) = ([j2, j3, j4].map namesP).map tupS := by rw [List.map_map]; rfl
    rw [nj1, nj5, z, nj234]
    rfl
  have ed2 : D.lst [.int 3, .tup [.str "m1", .str "m2", .str "m3", .str "m4", .str "m5"], .lst [.tup [], .tup [], .tup [.str "go", .str "if"]], .lst [.int 1, .int 1, .int 8], .tup [.str "a", .str "b1234567", .str "z", .str "zz"], .int 2] = due7 := rfl
  refine seq_gen fun N_ hN_ => ?_
  simp? [ed, ed2, rep7, nt]
  subst hN_
  simp? [lenScrG, min2G, max2G]
  obtain ⟨j, hj, ej⟩ := max_minG (ns := ns) (c := 5) (by decide)
  rw [show ((5 : Nat) : Int) = 5 from rfl] at ej
  rw [ej]
  refine ⟨⟨by omega, by omega⟩, ?_⟩
  rw [upto_nat]
  refine ⟨small_of (by rw [List.length_map, List.length_range]; omega), ?_⟩
  have go : ∀ (js : List Nat) (acc : List D) (T : WS) (ρ : RV.Env) (Q : List D → WS → Prop), (∃ o1 o2 o3 o4 o5, ρ = [some (.scr ns), o1, o2, o3, o4, o5, none]) → (∀ i ∈ js, i < 5) → (∀ T, Q (acc ++ List.replicate js.length (.bl true)) T) →
      lcD any_ (tName 6) bYes (C_law_k47_2 A) ρ (js.map fun (i : Nat) => D.int (i : Int)) acc T Q := fun js => by
    induction js with
    | nil =>
      intro acc T ρ Q _ hj hQ
      have := hQ T
      rw [List.length_nil, List.replicate_zero, List.append_nil] at this
      exact ⟨trivial, this⟩
    | cons i js ih =>
      intro acc T ρ Q hρ hj hQ
      have h4 := hj i (List.mem_cons_self ..)
      have hρ2 := hρ
      obtain ⟨o1, o2, o3, o4, o5, rfl⟩ := hρ
      rw [List.map_cons]
      unfold lcD
      refine ⟨trivial, ?_⟩
      unfold C_law_k47_2
      simp? []
      refine springG (by omega) (by omega) fun w g => ?_
      have hlt : T.length < (T ++ [w.d]).length := by simp
      simp? []
      rw [st_newF]
      refine right47 hRu hlt g (by omega) fun w1 => ?_
      refine ih (acc ++ [.bl true]) _ _ Q hρ2 (fun i hi => hj i (List.mem_cons_of_mem _ hi)) fun T => ?_
      have := hQ T
      rw [List.length_cons, List.replicate_succ] at this
      rw [List.append_assoc]
      exact this
  refine go (List.range j) [] [] _ _ ⟨_, _, _, _, _, rfl⟩ (fun i hi => by have := List.mem_range.mp hi; omega) fun T => ?_
  rw [List.nil_append]
  simp? [allT7]
  cases T with
  | nil => exact hq
  | cons c T => exact ⟨rfl, hq⟩
end RV
end
section

end
section
open PySem PySem.W PySem.Calls PyProof.Rows
theorem PySem.Challenge.cw_ringvotes_k47_rules_made_holds : PySem.Challenge.rw_ringvotes_k47_rules_made.Holds := by
  w_on; o_law
  refine HandSHeadRun.head_any (r := OpenLaw.row PySem.Challenge.rw_ringvotes_k47_rules_made) (q := view (OpenLaw.row PySem.Challenge.rw_ringvotes_k47_rules_made).prog [54]) (H := K47.hk) (ob := K47.ob) (M := 40000) (loose := [("_wall" : PySem.Str), ("BadValue" : PySem.Str), ("InvalidName" : PySem.Str), ("InvalidText" : PySem.Str), ("InvalidNumber" : PySem.Str), ("NotASum" : PySem.Str), ("InvalidTerms" : PySem.Str), ("InvalidRows" : PySem.Str), ("MOST_ROWS" : PySem.Str), ("MOST_SUMS" : PySem.Str), ("MOST_FAULTS" : PySem.Str), ("LETTERS" : PySem.Str), ("DIGITS" : PySem.Str), ("LONGEST_NAME" : PySem.Str), ("BLOCK" : PySem.Str), ("is_integer" : PySem.Str), ("is_name" : PySem.Str), ("check_name" : PySem.Str), ("read_number" : PySem.Str), ("digits_of" : PySem.Str), ("check_terms" : PySem.Str), ("merged" : PySem.Str), ("scaled" : PySem.Str), ("term_text" : PySem.Str), ("text_of" : PySem.Str), ("read_term" : PySem.Str), ("read_terms" : PySem.Str), ("Sum" : PySem.Str), ("check_sum" : PySem.Str), ("check_factor" : PySem.Str), ("sum_with" : PySem.Str), ("goal_with" : PySem.Str), ("test_step" : PySem.Str), ("vote_step" : PySem.Str), ("step_of" : PySem.Str), ("Rule" : PySem.Str), ("sums_in" : PySem.Str), ("_law_spring" : PySem.Str), ("_law_take" : PySem.Str), ("_law_titles" : PySem.Str), ("_law_times" : PySem.Str), ("_law_total" : PySem.Str), ("_law_steps" : PySem.Str), ("_law_pick" : PySem.Str), ("_law_last" : PySem.Str), ("_law_told" : PySem.Str), ("_law_line" : PySem.Str), ("_law_names_of" : PySem.Str), ("_law_right" : PySem.Str)]) (d := HandSHeadRun.topDef (OpenLaw.row PySem.Challenge.rw_ringvotes_k47_rules_made).prog 54) (kwd := []) K47.ob_eq
    (by kernel_rfl) (fun s => by kernel_rfl) K47.run (by kernel_rfl) (by kernel_rfl) (by kernel_rfl) (by rfl) (by first | assumption | decide +kernel) (by decide +kernel) ⟨rfl, rfl, rfl, rfl, rfl, by decide +kernel⟩ ?hw ?hc
  case hw => w_witness2
  case hc =>
    refine RV.walk_G (nn := false) (l := PySem.Challenge.rw_ringvotes_k47_rules_made) (n := 63) (k := 14) (x := "_law_script") rfl (by decide) (by kernel_rfl) ⟨rfl, by decide, by decide⟩ ?F
    intro w mg fa h Y G hmg0
    obtain ⟨K, KX, c, cx⟩ := Y
    have hmg : mg ("law" : PySem.Str) = some (.ref fa) := by
      have e : (HandSHeadRun.topDef (OpenLaw.row PySem.Challenge.rw_ringvotes_k47_rules_made).prog 54).name = ("law" : PySem.Str) := by kernel_rfl
      rw [← e]
      exact hmg0
    obtain ⟨fd, hb, hF⟩ := K47.facts (P := (PySem.Challenge.rw_ringvotes_k47_rules_made).prog) (w := w) KX G hmg c cx
    exact ⟨K, fd, RV.G_law_k47 (K47.ad K), KX, hb, fun ns q x hl hq => RV.law_true_law_k47 (K47.ad_ok cx) hl hq, hF⟩
end
end
